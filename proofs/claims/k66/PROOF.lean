import PyProof.Rows.All
import Wide.All
import OpenK.AllK
import Wide.FinOn
import HandS.ForMost
import HandS.ForExc
import HandS.Lambda
import HandS.TupAny
import HandS.TupMul
import HandS.TupLe
import HandS.Style
import HandS.IsInst
import HandS.Deep
import HandS.Gcd
import HandS.Zip
import HandS.Wide
import HandS.Flow
import HandS.Words
import HandS.ExcCtx
import HandS.HotCalls
import HandS.ExcIs
import HandS.EndTab
import HandS.Text
import KE.SortData
import KE.DataMinMax
import KE.DataCmp
import KE.DataIsa
import KE.DataFind
import KE.DataAny
import KE.Datum
import KE.DatumMore
import KE.DatumOrd
import KE.DatumIndex
import HandS.CallLocal
import HandS.Head0
import HandS.Head1
import HandS.Head2
import HandS.HeadEnd
import HandS.HeadHook4
import HandS.HeadWalk
import PyProof.ExcBaseAll.ValueError
import KE.KStateDown
import PySem.Challenge.RW_tautlines_k66_whole_closed_cords
set_option Elab.async false
set_option linter.all false
set_option maxRecDepth 100000
/-! The layer: a meaning (Res) for each construct over plain data, and the rules that tie it to HandS's judgements. -/
namespace TL
open PySem PySem.Spec PyProof.Rows L2

abbrev D := PyData
/-- the end of a piece of code: a result, an exception of the class named, or nothing is said -/
inductive Res (α : Type) where
  | ok (a : α) | err (c : Str) | stuck
def Res.bind {α β : Type} : Res α → (α → Res β) → Res β
  | .ok a, f => f a
  | .err c, _ => .err c
  | .stuck, _ => .stuck
@[simp] theorem Res.bind_ok {α β : Type} (a : α) (f : α → Res β) : (Res.ok a).bind f = f a := rfl
@[simp] theorem Res.bind_err {α β : Type} (c : Str) (f : α → Res β) : (Res.err c).bind f = .err c := rfl
@[simp] theorem Res.bind_stuck {α β : Type} (f : α → Res β) : (Res.stuck).bind f = .stuck := rfl

/-- what an expression gives: a value, or the object that the own slot i holds -/
inductive RV where
  | val (d : D) | slot (i : Nat)
abbrev Ev := List (Option D)
def RV.get : RV → Ev → Option D
  | .val d, _ => some d
  | .slot i, ev => (ev[i]?).join

/-! ### data on the heap -/
/-- a def of the module as a value; an object at an address -/
def fnD (x : Str) : D := .dict [(.dict [], .str x)]
def adD (a : Addr) : D := .dict [(.dict [], .int (a : Nat))]
/-- the script: a list of ints, read alone -/
def scD (ns : List Int) : D := .dict [(.dict [], .list (ns.map PyData.int))]
def fnR (K : PySem.W.Frag) (mg : Str → Option Value) (F : Hp) (kvs : List (PyData × PyData)) (v : V) : Prop := (∃ x f, kvs = [(.dict [], .str x)] ∧ v = .ref f ∧ mg x = some (.ref f)) ∨ (∃ a : Addr, kvs = [(.dict [], .int (a : Nat))] ∧ v = .ref a) ∨ ∃ (ns : List Int) (a : Addr), kvs = [(.dict [], .list (ns.map PyData.int))] ∧ v = .ref a ∧ SqL K F a (ns.map V.int)
mutual
def Rp (K : PySem.W.Frag) (mg : Str → Option Value) (F : Hp) : PyData → V → Prop
  | .none, v => v = .non
  | .bool b, v => v = .bl b
  | .int i, v => v = .int i
  | .str x, v => v = .str x
  | .list ds, v => ∃ a vs, v = .ref a ∧ Rd F a (.lst vs) ∧ Rps K mg F ds vs
  | .tuple ds, v => ∃ a vs, v = .ref a ∧ SqT K F a vs ∧ Rps K mg F ds vs
  | .dict kvs, v => fnR K mg F kvs v
def Rps (K : PySem.W.Frag) (mg : Str → Option Value) (F : Hp) : List PyData → List V → Prop
  | [], vs => vs = []
  | d :: ds, vs => ∃ v r, vs = v :: r ∧ Rp K mg F d v ∧ Rps K mg F ds r
end
theorem Rd_mono {F F' : Hp} (s : Same F F') {a : Addr} {u : HO} (h : Rd F a u) : Rd F' a u := by
  rcases h with h | ⟨o, h⟩
  · exact .inl (s _ _ h)
  · exact .inr ⟨o, s _ _ h⟩
theorem SqT_mono {K : PySem.W.Frag} {F F' : Hp} (s : Same F F') {a : Addr} {xs : List V} (h : SqT K F a xs) : SqT K F' a xs := by
  rcases h with h | h
  · exact .inl (Rd_mono s h)
  · exact .inr h
section
variable {K : PySem.W.Frag} {mg : Str → Option Value} {F F' : Hp}
mutual
theorem Rp.mono (s : Same F F') : ∀ (d : PyData) (v : V), Rp K mg F d v → Rp K mg F' d v
  | .none, _, h => by simpa only [Rp] using h
  | .bool _, _, h => by simpa only [Rp] using h
  | .int _, _, h => by simpa only [Rp] using h
  | .str _, _, h => by simpa only [Rp] using h
  | .list ds, v, h => by
    simp only [Rp] at h ⊢
    obtain ⟨a, vs, e, q, r⟩ := h
    exact ⟨a, vs, e, Rd_mono s q, Rps.mono s ds vs r⟩
  | .tuple ds, v, h => by
    simp only [Rp] at h ⊢
    obtain ⟨a, vs, e, q, r⟩ := h
    exact ⟨a, vs, e, SqT_mono s q, Rps.mono s ds vs r⟩
  | .dict _, _, h => by
    simp only [Rp] at h ⊢
    rcases h with h | h | ⟨ns, a, h1, h2, h3⟩
    · exact .inl h
    · exact .inr (.inl h)
    · exact .inr (.inr ⟨ns, a, h1, h2, Same.seq s h3⟩)
theorem Rps.mono (s : Same F F') : ∀ (ds : List PyData) (vs : List V), Rps K mg F ds vs → Rps K mg F' ds vs
  | [], _, h => by simpa only [Rps] using h
  | d :: ds, vs, h => by
    simp only [Rps] at h ⊢
    obtain ⟨v, r, e, q1, q2⟩ := h
    exact ⟨v, r, e, Rp.mono s d v q1, Rps.mono s ds r q2⟩
end
theorem Rps.len : ∀ {ds : List PyData} {vs : List V}, Rps K mg F ds vs → ds.length = vs.length
  | [], vs, h => by simp only [Rps] at h; subst h; rfl
  | d :: ds, vs, h => by
    simp only [Rps] at h
    obtain ⟨v, r, rfl, _, q⟩ := h
    simp [Rps.len q]
theorem Rps.get : ∀ {ds : List PyData} {vs : List V} {i : Nat} {d : D}, Rps K mg F ds vs → ds[i]? = some d → ∃ v, vs[i]? = some v ∧ Rp K mg F d v
  | [], vs, i, d, h, e => by simp at e
  | d0 :: ds, vs, i, d, h, e => by
    simp only [Rps] at h
    obtain ⟨v, r, rfl, q1, q2⟩ := h
    cases i with
    | zero => simp at e; subst e; exact ⟨v, rfl, q1⟩
    | succ i =>
      obtain ⟨v', e', q⟩ := Rps.get (i := i) q2 (by simpa using e)
      exact ⟨v', by simpa using e', q⟩
theorem Rps.append : ∀ {ds es : List PyData} {vs ws : List V}, Rps K mg F ds vs → Rps K mg F es ws → Rps K mg F (ds ++ es) (vs ++ ws)
  | [], es, vs, ws, h, q => by simp only [Rps] at h; subst h; exact q
  | d :: ds, es, vs, ws, h, q => by
    simp only [Rps] at h
    obtain ⟨v, r, rfl, q1, q2⟩ := h
    simp only [List.cons_append, Rps]
    exact ⟨v, r ++ ws, rfl, q1, Rps.append q2 q⟩
theorem Rps.take : ∀ {ds : List PyData} {vs : List V} (n : Nat), Rps K mg F ds vs → Rps K mg F (ds.take n) (vs.take n)
  | [], vs, n, h => by simp only [Rps] at h; subst h; simp [Rps]
  | d :: ds, vs, n, h => by
    simp only [Rps] at h
    obtain ⟨v, r, rfl, q1, q2⟩ := h
    cases n with
    | zero => simp [Rps]
    | succ n => simp only [List.take_succ_cons, Rps]; exact ⟨v, r.take n, rfl, q1, Rps.take n q2⟩
theorem Rps.drop : ∀ {ds : List PyData} {vs : List V} (n : Nat), Rps K mg F ds vs → Rps K mg F (ds.drop n) (vs.drop n)
  | [], vs, n, h => by simp only [Rps] at h; subst h; simp [Rps]
  | d :: ds, vs, n, h => by
    cases n with
    | zero => simpa using h
    | succ n =>
      simp only [Rps] at h
      obtain ⟨v, r, rfl, q1, q2⟩ := h
      simpa using Rps.drop n q2
theorem Rps.one {d : D} {v : V} (h : Rp K mg F d v) : Rps K mg F [d] [v] := by simp only [Rps]; exact ⟨v, [], rfl, h, rfl⟩
theorem Rps.reverse : ∀ {ds : List PyData} {vs : List V}, Rps K mg F ds vs → Rps K mg F ds.reverse vs.reverse
  | [], vs, h => by simp only [Rps] at h; subst h; simp [Rps]
  | d :: ds, vs, h => by
    simp only [Rps] at h
    obtain ⟨v, r, rfl, q1, q2⟩ := h
    simpa using (Rps.reverse q2).append (Rps.one q1)
theorem Rps.ints : ∀ {ns : List Int} {vs : List V}, Rps K mg F (ns.map PyData.int) vs → vs = ns.map V.int
  | [], vs, h => by simpa [Rps] using h
  | n :: ns, vs, h => by
    simp only [List.map_cons, Rps, Rp] at h
    obtain ⟨v, r, rfl, rfl, q⟩ := h
    rw [Rps.ints q]; rfl
theorem Rps.of_get : ∀ {ds : List PyData} {vs : List V}, ds.length = vs.length → (∀ (i : Nat) d v, ds[i]? = some d → vs[i]? = some v → Rp K mg F d v) → Rps K mg F ds vs
  | [], vs, hl, _ => by
    have : vs = [] := List.length_eq_zero_iff.mp hl.symm
    simp only [Rps]; exact this
  | d :: ds, [], hl, _ => by simp at hl
  | d :: ds, v :: vs, hl, h => by
    simp only [Rps]
    exact ⟨v, vs, rfl, h 0 d v rfl rfl, Rps.of_get (by simpa using hl) fun i d' v' e1 e2 => h (i + 1) d' v' (by simpa using e1) (by simpa using e2)⟩
end

/-! ### data is read off the real heap -/
section
variable {X : Cx} {pins : List (Addr × Obj)} {σ : L2.St} {H : Hp} {s : Shared} {F : Hp}
theorem Inv.lstR {l : Addr} {xs : List V} (I : Inv X pins σ H s) (hH : Rd H l (.lst xs)) : xs.length ≤ sizeLine ∧ ∃ (its : List Value) (n : Nat), Vals xs its ∧ xs.length = its.length ∧ s.heap.get? l = some { cls := .type "list", data := .seq its.toArray n } := by
  obtain ⟨z, its, n, r, e⟩ := hH.ok I.hok
  exact ⟨z, its, n, r, r.length, e⟩
mutual
theorem Rp.reads (I : Inv X pins σ H s) : ∀ (d : PyData) (v : V) (u : Value), d.plain = true → Rp X.K X.mg H d v → RelV v u → ∃ as, Reads s.heap u d as
  | .none, v, u, _, h, r => by simp only [Rp] at h; subst h; cases r; exact ⟨_, .none⟩
  | .bool b, v, u, _, h, r => by simp only [Rp] at h; subst h; cases r; exact ⟨_, .bool b⟩
  | .int i, v, u, _, h, r => by simp only [Rp] at h; subst h; obtain ⟨t, rfl⟩ := r; exact ⟨_, .int i t⟩
  | .str x, v, u, _, h, r => by simp only [Rp] at h; subst h; obtain ⟨t, rfl⟩ := r; exact ⟨_, .str x t⟩
  | .list ds, v, u, p, h, r => by
    simp only [Rp] at h
    obtain ⟨a, vs, rfl, q, rs⟩ := h
    cases r
    obtain ⟨z, its, n, rv, _, e⟩ := Inv.lstR I q
    obtain ⟨as, hr⟩ := Rps.reads I ds vs its (by simpa only [PyData.plain] using p) rs rv
    exact ⟨_, Reads.list e rfl rfl hr⟩
  | .tuple ds, v, u, p, h, r => by
    simp only [Rp] at h
    obtain ⟨a, vs, rfl, q, rs⟩ := h
    cases r
    obtain ⟨its, rv, ⟨o, ho, hc, n, hd⟩, _⟩ := I.tuple q
    obtain ⟨as, hr⟩ := Rps.reads I ds vs its (by simpa only [PyData.plain] using p) rs rv
    exact ⟨_, Reads.tuple ho hc hd hr⟩
  | .dict _, _, _, p, _, _ => by simp [PyData.plain] at p
theorem Rps.reads (I : Inv X pins σ H s) : ∀ (ds : List PyData) (vs : List V) (us : List Value), PyData.plainAll ds = true → Rps X.K X.mg H ds vs → Vals vs us → ∃ as, ReadsAll s.heap us ds as
  | [], vs, us, _, h, r => by simp only [Rps] at h; subst h; cases r; exact ⟨_, .nil⟩
  | d :: ds, vs, us, p, h, r => by
    simp only [Rps] at h
    obtain ⟨v, vr, rfl, q1, q2⟩ := h
    simp only [PyData.plainAll, Bool.and_eq_true] at p
    cases r with
    | cons r1 r2 =>
      obtain ⟨as, h1⟩ := Rp.reads I d v _ p.1 q1 r1
      obtain ⟨bs, h2⟩ := Rps.reads I ds vr _ p.2 q2 r2
      exact ⟨_, .cons h1 h2⟩
end
end

/-! ### the state of a body -/
/-- own: slots that hold an object of the body's own (lists, dicts that it changes); io: parameters whose object the caller owns -/
structure Sx where
  own : Nat → Bool
  io : Nat → Bool
  T : List (Addr × Str)
/-- what the frozen part F, the caller's rest G and the heap H have to do with one another -/
structure Frm (T : List (Addr × Str)) (F G H : Hp) : Prop where
  fh : Same F H
  gh : Same G H
  gf : ∀ a o, F a = some o → G a = none
  nt : ∀ a ps, F a ≠ some (.tbl ps)
  gt : T ≠ [] → ∀ a ps, G a ≠ some (.tbl ps)
  tb : LamX.Tabs T H
def OwnD (K : PySem.W.Frag) (mg : Str → Option Value) (F H : Hp) (d : D) (a : Addr) : Prop := match d with
  | .list ds => ∃ vs, H a = some (.lst vs) ∧ Rps K mg F ds vs
  | _ => False
structure Sim (K : PySem.W.Frag) (mg : Str → Option Value) (S : Sx) (F G : Hp) (P : Nat → Option Addr) (H : Hp) (ev : Ev) (σ : L2.St) : Prop where
  fr : Frm S.T F G H
  len : ev.length = σ.length
  sl : ∀ i d, S.own i = false → ev[i]? = some (some d) → ∃ v, σ[i]? = some (some v) ∧ Rp K mg F d v
  so : ∀ i d, S.own i = true → ev[i]? = some (some d) → ∃ a, σ[i]? = some (some (.ref a)) ∧ OwnD K mg F H d a ∧ F a = none ∧ G a = none
  sp : ∀ i j d e a, S.own i = true → S.own j = true → i ≠ j → ev[i]? = some (some d) → ev[j]? = some (some e) → σ[i]? = some (some (.ref a)) → σ[j]? ≠ some (some (.ref a))
  pn : ∀ i a, P i = some a → S.io i = true ∧ σ[i]? = some (some (.ref a))
def RRv (K : PySem.W.Frag) (mg : Str → Option Value) (S : Sx) (F : Hp) (σ : L2.St) : RV → V → Prop
  | .val d, v => Rp K mg F d v
  | .slot i, v => S.own i = true ∧ σ[i]? = some (some v)
def RRvs (K : PySem.W.Frag) (mg : Str → Option Value) (S : Sx) (F : Hp) (σ : L2.St) (rs : List RV) (vs : List V) : Prop := rs.length = vs.length ∧ ∀ (i : Nat) r v, rs[i]? = some r → vs[i]? = some v → RRv K mg S F σ r v
section
variable {K : PySem.W.Frag} {mg : Str → Option Value} {S : Sx} {F F' G H H' : Hp} {P : Nat → Option Addr} {ev ev' : Ev} {σ : L2.St} {rv : RV} {v : V} {d : D}
theorem RRv.mono (s : Same F F') : ∀ {rv : RV} {v : V}, RRv K mg S F σ rv v → RRv K mg S F' σ rv v
  | .val d, v, h => Rp.mono s d v h
  | .slot _, _, h => h
theorem RRvs.mono (s : Same F F') {rs : List RV} {vs : List V} (h : RRvs K mg S F σ rs vs) : RRvs K mg S F' σ rs vs := ⟨h.1, fun i r v e1 e2 => (h.2 i r v e1 e2).mono s⟩
theorem RRvs.nil : RRvs K mg S F σ [] [] := ⟨rfl, fun i r v e _ => by simp at e⟩
theorem RRvs.cons {rs : List RV} {vs : List V} (h : RRv K mg S F σ rv v) (q : RRvs K mg S F σ rs vs) : RRvs K mg S F σ (rv :: rs) (v :: vs) := ⟨by simp [q.1], fun i r w e1 e2 => by
  cases i with
  | zero => simp at e1 e2; subst e1; subst e2; exact h
  | succ i => exact q.2 i r w (by simpa using e1) (by simpa using e2)⟩
/-- what a value, or the content of an own slot, is on the heap H -/
def Rq (K : PySem.W.Frag) (mg : Str → Option Value) (F H : Hp) : D → V → Prop
  | .list ds, v => ∃ a vs, v = .ref a ∧ Rd H a (.lst vs) ∧ Rps K mg F ds vs
  | d, v => Rp K mg F d v
theorem Rq.of (s : Same F H) : ∀ {d : D} {v : V}, Rp K mg F d v → Rq K mg F H d v
  | .list ds, v, h => by
    simp only [Rp] at h
    obtain ⟨a, vs, e, q, r⟩ := h
    exact ⟨a, vs, e, Rd_mono s q, r⟩
  | .none, _, h | .bool _, _, h | .int _, _, h | .str _, _, h | .tuple _, _, h | .dict _, _, h => h
theorem Rq.toH (s : Same F H) : ∀ {d : D} {v : V}, Rq K mg F H d v → Rp K mg H d v
  | .list ds, v, h => by
    obtain ⟨a, vs, e, q, r⟩ := h
    simp only [Rp]
    exact ⟨a, vs, e, q, Rps.mono s _ _ r⟩
  | .none, _, h | .bool _, _, h | .int _, _, h | .str _, _, h | .tuple _, _, h | .dict _, _, h => Rp.mono s _ _ h
theorem join_some {α : Type} {o : Option (Option α)} {a : α} (h : o.join = some a) : o = some (some a) := by
  cases o with
  | none => simp at h
  | some x => cases x with
    | none => simp at h
    | some y => simp at h; subst h; rfl
theorem Sim.acc (M : Sim K mg S F G P H ev σ) (r : RRv K mg S F σ rv v) (e : rv.get ev = some d) : Rq K mg F H d v := by
  cases rv with
  | val d' =>
    simp only [RV.get, Option.some.injEq] at e
    subst e
    exact Rq.of M.fr.fh r
  | slot i =>
    obtain ⟨ho, hs⟩ := r
    obtain ⟨a, e1, o, _, _⟩ := M.so i d ho (join_some e)
    rw [hs] at e1
    have e2 : v = .ref a := by simpa using e1
    subst e2
    cases d with
    | list ds => obtain ⟨vs, q, r⟩ := o; exact ⟨a, vs, rfl, .inl q, r⟩
    | _ => exact False.elim o
theorem Sim.accH (M : Sim K mg S F G P H ev σ) (r : RRv K mg S F σ rv v) (e : rv.get ev = some d) : Rp K mg H d v := (M.acc r e).toH M.fr.fh
end

/-! ### the meaning of a piece, as a wish -/
def tM {α : Type} (K : PySem.W.Frag) (mg : Str → Option Value) (S : Sx) (W : WX) (G : Hp) (P : Nat → Option Addr) (σ : L2.St) (F : Hp) (r : Res (α × Ev)) (post : α → Ev → Hp → Hp → Prop) : Prop := match r with
  | .ok (a, ev') => ∀ F' H', Same F F' → Sim K mg S F' G P H' ev' σ → post a ev' F' H'
  | .err c => ∀ F' H', Same F F' → Frm S.T F' G H' → ∀ f, mg c = some (.ref f) → W (.ref f) none σ H'
  | .stuck => False
section
variable {α β : Type} {K : PySem.W.Frag} {mg : Str → Option Value} {S : Sx} {W : WX} {F F' G H H' : Hp} {P : Nat → Option Addr} {ev ev' : Ev} {σ : L2.St}
theorem tM.mono {r : Res (α × Ev)} {post : α → Ev → Hp → Hp → Prop} (s : Same F F') (h : tM K mg S W G P σ F r post) : tM K mg S W G P σ F' r post := by
  cases r with
  | ok p => exact fun F2 H2 s2 M => h F2 H2 (s.trans s2) M
  | err c => exact fun F2 H2 s2 M => h F2 H2 (s.trans s2) M
  | stuck => exact h
theorem tM.bind {r : Res (α × Ev)} {k : α × Ev → Res (β × Ev)} {post : β → Ev → Hp → Hp → Prop} (h : tM K mg S W G P σ F (r.bind k) post) :
    tM K mg S W G P σ F r (fun a ev1 F1 H1 => tM K mg S W G P σ F1 (k (a, ev1)) post) := by
  cases r with
  | ok p => exact fun F1 H1 s1 M1 => tM.mono s1 (r := k p) h
  | err c => exact h
  | stuck => exact h
theorem tM.imp {r : Res (α × Ev)} {post post' : α → Ev → Hp → Hp → Prop} (h : tM K mg S W G P σ F r post) (w : ∀ a ev' F' H', r = .ok (a, ev') → Same F F' → Sim K mg S F' G P H' ev' σ → post a ev' F' H' → post' a ev' F' H') : tM K mg S W G P σ F r post' := by
  cases r with
  | ok p => exact fun F1 H1 s1 M1 => w _ _ _ _ rfl s1 M1 (h F1 H1 s1 M1)
  | err c => exact h
  | stuck => exact h
end
abbrev DE := Ev → Res (RV × Ev)
abbrev DT := Ev → Res (Bool × Ev)
abbrev DA := Ev → Res (List RV × Ev)
abbrev DO := Ev → Res (D × Ev)
def tE (K : PySem.W.Frag) (mg : Str → Option Value) (S : Sx) (W : WX) (m : DE) : TE := fun σ H Q => ∃ F G P ev, Sim K mg S F G P H ev σ ∧ tM K mg S W G P σ F (m ev) fun rv _ F' H' => ∀ v, RRv K mg S F' σ rv v → Q v H'
def tT (K : PySem.W.Frag) (mg : Str → Option Value) (S : Sx) (W : WX) (m : DT) : TT := fun σ H Q => ∃ F G P ev, Sim K mg S F G P H ev σ ∧ tM K mg S W G P σ F (m ev) fun b _ _ H' => Q b H'
def tA (K : PySem.W.Frag) (mg : Str → Option Value) (S : Sx) (W : WX) (m : DA) : TA := fun σ H Q => ∃ F G P ev, Sim K mg S F G P H ev σ ∧ tM K mg S W G P σ F (m ev) fun rs _ F' H' => ∀ vs, RRvs K mg S F' σ rs vs → Q vs H'
/-- a fresh object -/
def FreshAt (S : Sx) (ev : Ev) (σ : L2.St) (F G : Hp) (a : Addr) : Prop := F a = none ∧ G a = none ∧ ∀ i d, S.own i = true → ev[i]? = some (some d) → σ[i]? ≠ some (some (.ref a))
def tO (K : PySem.W.Frag) (mg : Str → Option Value) (S : Sx) (W : WX) (m : DO) : TE := fun σ H Q => ∃ F G P ev, Sim K mg S F G P H ev σ ∧ tM K mg S W G P σ F (m ev) fun d ev' F' H' => ∀ a, OwnD K mg F' H' d a → FreshAt S ev' σ F' G a → Q (.ref a) H'
end TL
namespace L2
open PySem PySem.Spec PyProof.Rows
theorem PE.imp {X : Cx} {e : Expr} {t t' : TE} (h : PE X e t) (w : ∀ σ H Q, t' σ H Q → t σ H Q) : PE X e t' := ⟨fun pins s σ H Q I q => h.run pins s σ H Q I (w _ _ _ q)⟩
theorem PT.imp {X : Cx} {e : Expr} {t t' : TT} (h : PT X e t) (w : ∀ σ H Q, t' σ H Q → t σ H Q) : PT X e t' := ⟨fun pins s σ H Q I q => h.run pins s σ H Q I (w _ _ _ q)⟩
theorem PW.imp {X : Cx} {e : Expr} {t t' : TT} (h : PW X e t) (w : ∀ σ H Q, t' σ H Q → t σ H Q) : PW X e t' := ⟨fun wh pins s σ H Q I q => h.run wh pins s σ H Q I (w _ _ _ q)⟩
theorem PA.imp {X : Cx} {e : List Expr} {t t' : TA} (h : PA X e t) (w : ∀ σ H Q, t' σ H Q → t σ H Q) : PA X e t' := ⟨fun pos pins s σ H Q I q => h.run pos pins s σ H Q I (w _ _ _ q)⟩
theorem PS.imp {X : Cx} {e : Stmt} {t t' : TS} (h : PS X e t) (w : ∀ D σ H, t' D σ H → t D σ H) : PS X e t' := ⟨fun pins s σ H D I q => h.run pins s σ H D I (w _ _ _ q)⟩
theorem PSs.imp {X : Cx} {e : List Stmt} {t t' : TS} (h : PSs X e t) (w : ∀ D σ H, t' D σ H → t D σ H) : PSs X e t' := ⟨fun pins s σ H D I q => h.run pins s σ H D I (w _ _ _ q)⟩
end L2

set_option Elab.async false
set_option linter.all false
set_option maxRecDepth 100000
namespace TL
open PySem PySem.Spec PyProof.Rows L2

/-! ### the heap grows -/
structure Grow (F H F' H' : Hp) : Prop where
  f : Same F F'
  h : Same H H'
  n : ∀ a o, F' a = some o → F a = some o ∨ (H a = none ∧ H' a = some o ∧ ∀ ps, o ≠ .tbl ps)
theorem Grow.refl (F H : Hp) : Grow F H F H := ⟨Same.refl _, Same.refl _, fun _ _ e => .inl e⟩
theorem same_upd {H : Hp} {p : Addr} {o : HO} (hp : H p = none) : Same H (upd H p o) := fun b u e => by rw [upd_ne (ne_of_none e hp)]; exact e
theorem same_none {F H : Hp} (s : Same F H) {p : Addr} (hp : H p = none) : F p = none := s.free hp
/-- a new object, frozen at once -/
theorem Grow.frz {F H : Hp} (s : Same F H) {p : Addr} {o : HO} (hp : H p = none) (ho : ∀ ps, o ≠ .tbl ps) : Grow F H (upd F p o) (upd H p o) :=
  ⟨same_upd (same_none s hp), same_upd hp, fun a u e => by
    by_cases h : a = p
    · subst h; rw [upd_same] at e; cases e; exact .inr ⟨hp, upd_same, ho⟩
    · rw [upd_ne h] at e; exact .inl e⟩
theorem Grow.keep {F H H' : Hp} (s : Same H H') : Grow F H F H' := ⟨Same.refl _, s, fun _ _ e => .inl e⟩
theorem Grow.trans {F H F1 H1 F2 H2 : Hp} (a : Grow F H F1 H1) (b : Grow F1 H1 F2 H2) : Grow F H F2 H2 := ⟨a.f.trans b.f, a.h.trans b.h, fun c o e => by
  rcases b.n c o e with q | ⟨q1, q2, q3⟩
  · rcases a.n c o q with z | ⟨z1, z2, z3⟩
    · exact .inl z
    · exact .inr ⟨z1, b.h _ _ z2, z3⟩
  · exact .inr ⟨same_none a.h q1, q2, q3⟩⟩
/-- a new object that is there already is frozen -/
theorem Grow.late {F H H' : Hp} (s : Same H H') (s0 : Same F H) {p : Addr} {o : HO} (hp : H p = none) (e : H' p = some o) (ho : ∀ ps, o ≠ .tbl ps) : Grow F H (upd F p o) H' :=
  ⟨same_upd (same_none s0 hp), s, fun a u q => by
    by_cases h : a = p
    · subst h; rw [upd_same] at q; cases q; exact .inr ⟨hp, e, ho⟩
    · rw [upd_ne h] at q; exact .inl q⟩
section
variable {K : PySem.W.Frag} {mg : Str → Option Value} {S : Sx} {T : List (Addr × Str)} {F F' G H H' : Hp} {P : Nat → Option Addr} {ev ev' : Ev} {σ : L2.St}
theorem Frm.grow (f : Frm T F G H) (g : Grow F H F' H') : Frm T F' G H' where
  fh := fun a o e => by
    rcases g.n a o e with q | ⟨_, q, _⟩
    · exact g.h _ _ (f.fh _ _ q)
    · exact q
  gh := f.gh.trans g.h
  gf := fun a o e => by
    rcases g.n a o e with q | ⟨q, _, _⟩
    · exact f.gf _ _ q
    · exact same_none f.gh q
  nt := fun a ps e => by
    rcases g.n a _ e with q | ⟨_, _, q⟩
    · exact f.nt _ _ q
    · exact q ps rfl
  gt := f.gt
  tb := f.tb.ext g.h
theorem OwnD.grow {d : D} {a : Addr} (g : Grow F H F' H') (h : OwnD K mg F H d a) : OwnD K mg F' H' d a := by
  cases d with
  | list ds => obtain ⟨vs, q, r⟩ := h; exact ⟨vs, g.h _ _ q, Rps.mono g.f _ _ r⟩
  | _ => exact False.elim h
theorem OwnD.there {d : D} {a : Addr} (h : OwnD K mg F H d a) : ∃ o, H a = some o ∧ ∀ ps, o ≠ .tbl ps := by
  cases d with
  | list ds => obtain ⟨vs, q, r⟩ := h; exact ⟨_, q, fun ps z => nomatch z⟩
  | _ => exact False.elim h
theorem Sim.grow (M : Sim K mg S F G P H ev σ) (g : Grow F H F' H') : Sim K mg S F' G P H' ev σ where
  fr := M.fr.grow g
  len := M.len
  sl := fun i d h e => let ⟨v, e1, r⟩ := M.sl i d h e; ⟨v, e1, Rp.mono g.f _ _ r⟩
  so := fun i d h e => by
    obtain ⟨a, e1, o, f0, g0⟩ := M.so i d h e
    refine ⟨a, e1, o.grow g, ?_, g0⟩
    cases q : F' a with
    | none => rfl
    | some u =>
      rcases g.n a u q with z | ⟨z, _, _⟩
      · rw [f0] at z; cases z
      · obtain ⟨o', e', _⟩ := o.there; rw [z] at e'; cases e'
  sp := M.sp
  pn := M.pn
theorem FreshAt.of {a : Addr} (M : Sim K mg S F G P H ev σ) (h : H a = none) : FreshAt S ev σ F G a := ⟨same_none M.fr.fh h, same_none M.fr.gh h, fun i d ho e z => by
  obtain ⟨b, e1, o, _⟩ := M.so i d ho e
  rw [z] at e1; cases e1
  obtain ⟨u, q, _⟩ := o.there
  rw [h] at q; cases q⟩
/-- freezing a fresh object -/
theorem Sim.freeze {d : D} {a : Addr} (M : Sim K mg S F G P H ev σ) (o : OwnD K mg F H d a) (f : FreshAt S ev σ F G a) : ∃ F', Same F F' ∧ Sim K mg S F' G P H ev σ ∧ Rp K mg F' d (.ref a) := by
  obtain ⟨f0, g0, fs⟩ := f
  cases d with
  | list ds =>
    obtain ⟨vs, q, r⟩ := o
    have s : Same F (upd F a (.lst vs)) := same_upd f0
    refine ⟨upd F a (.lst vs), s, ⟨⟨fun b u e => ?_, M.fr.gh, fun b u e => ?_, fun b ps e => ?_, M.fr.gt, M.fr.tb⟩, M.len, fun i d h e => ?_, fun i d h e => ?_, M.sp, M.pn⟩, ?_⟩
    · by_cases hb : b = a
      · subst hb; rw [upd_same] at e; cases e; exact q
      · rw [upd_ne hb] at e; exact M.fr.fh _ _ e
    · by_cases hb : b = a
      · subst hb; exact g0
      · rw [upd_ne hb] at e; exact M.fr.gf _ _ e
    · by_cases hb : b = a
      · subst hb; rw [upd_same] at e; cases e
      · rw [upd_ne hb] at e; exact M.fr.nt _ _ e
    · obtain ⟨v, e1, r1⟩ := M.sl i d h e; exact ⟨v, e1, Rp.mono s _ _ r1⟩
    · obtain ⟨b, e1, o1, f1, g1⟩ := M.so i d h e
      have hne : b ≠ a := fun z => fs i d h e (by rw [← z]; exact e1)
      refine ⟨b, e1, ?_, by rw [upd_ne hne]; exact f1, g1⟩
      cases d with
      | list ds' => obtain ⟨vs', q', r'⟩ := o1; exact ⟨vs', q', Rps.mono s _ _ r'⟩
      | _ => exact False.elim o1
    · simp only [Rp]; exact ⟨a, vs, rfl, .inl upd_same, Rps.mono s _ _ r⟩
  | _ => exact False.elim o
end

/-! ### operations on data -/
def rV (K : PySem.W.Frag) (mg : Str → Option Value) (g : D → D → Option D) : R2 := fun x y H Q => ∃ F a b d, Same F H ∧ Rq K mg F H a x ∧ Rq K mg F H b y ∧ g a b = some d ∧ ∀ F' H' v, Grow F H F' H' → Rp K mg F' d v → Q v H'
def rU1 (K : PySem.W.Frag) (mg : Str → Option Value) (g : D → Option D) : V → Hp → VK → Prop := fun x H Q => ∃ F a d, Same F H ∧ Rq K mg F H a x ∧ g a = some d ∧ ∀ F' H' v, Grow F H F' H' → Rp K mg F' d v → Q v H'
def rVs (K : PySem.W.Frag) (mg : Str → Option Value) (g : List D → Option D) : List V → Hp → VK → Prop := fun xs H Q => ∃ F as d, Same F H ∧ as.length = xs.length ∧ (∀ (i : Nat) a x, as[i]? = some a → xs[i]? = some x → Rq K mg F H a x) ∧ g as = some d ∧ ∀ F' H' v, Grow F H F' H' → Rp K mg F' d v → Q v H'
/-- a fresh list (or dict) -/
def rO (K : PySem.W.Frag) (mg : Str → Option Value) (g : D → D → Option D) : R2 := fun x y H Q => ∃ F a b d, Same F H ∧ Rq K mg F H a x ∧ Rq K mg F H b y ∧ g a b = some d ∧ ∀ F' H' p, Grow F H F' H' → H p = none → F' p = none → OwnD K mg F' H' d p → Q (.ref p) H'
def rOs (K : PySem.W.Frag) (mg : Str → Option Value) (g : List D → Option D) : List V → Hp → VK → Prop := fun xs H Q => ∃ F as d, Same F H ∧ as.length = xs.length ∧ (∀ (i : Nat) a x, as[i]? = some a → xs[i]? = some x → Rq K mg F H a x) ∧ g as = some d ∧ ∀ F' H' p, Grow F H F' H' → H p = none → F' p = none → OwnD K mg F' H' d p → Q (.ref p) H'
theorem OpR.imp {X : Cx} {f : Value → Value → Sem Value} {r r' : R2} (h : OpR X f r) (w : ∀ x y H Q, r' x y H Q → r x y H Q) : OpR X f r' := fun pins s σ H x y v u Q I rx ry q => h pins s σ H x y v u Q I rx ry (w _ _ _ _ q)
theorem UnR.imp {X : Cx} {f : Value → Sem Value} {r r' : V → Hp → VK → Prop} (h : UnR X f r) (w : ∀ x H Q, r' x H Q → r x H Q) : UnR X f r' := fun pins s σ H x v Q I rx q => h pins s σ H x v Q I rx (w _ _ _ q)
theorem CallR.imp {X : Cx} {f : Value} {r r' : List V → Hp → VK → Prop} (h : CallR X f r) (w : ∀ xs H Q, r' xs H Q → r xs H Q) : CallR X f r' := fun pins s σ H xs us Q I rx q => h pins s σ H xs us Q I rx (w _ _ _ q)
def isNone : D → Bool
  | .none => true
  | _ => false
section
variable {K : PySem.W.Frag} {mg : Str → Option Value} {F H : Hp} {v : V}
theorem Rq.int {i : Int} (h : Rq K mg F H (.int i) v) : v = .int i := by simpa only [Rq, Rp] using h
theorem Rq.bool {b : Bool} (h : Rq K mg F H (.bool b) v) : v = .bl b := by simpa only [Rq, Rp] using h
theorem Rq.str {x : Str} (h : Rq K mg F H (.str x) v) : v = .str x := by simpa only [Rq, Rp] using h
theorem Rq.none (h : Rq K mg F H .none v) : v = .non := by simpa only [Rq, Rp] using h
theorem Rq.list {ds : List D} (h : Rq K mg F H (.list ds) v) : ∃ a vs, v = .ref a ∧ Rd H a (.lst vs) ∧ Rps K mg F ds vs := h
theorem Rq.tuple {ds : List D} (h : Rq K mg F H (.tuple ds) v) : ∃ a vs, v = .ref a ∧ SqT K F a vs ∧ Rps K mg F ds vs := by
  have h : Rp K mg F (.tuple ds) v := h
  simpa only [Rp] using h
theorem rp_int (i : Int) : Rp K mg F (.int i) (.int i) := by simp only [Rp]
theorem rp_bool (i : Bool) : Rp K mg F (.bool i) (.bl i) := by simp only [Rp]
theorem rp_str (i : Str) : Rp K mg F (.str i) (.str i) := by simp only [Rp]
theorem rp_none : Rp K mg F .none .non := by simp only [Rp]
theorem Rq.is_none {d : D} (h : Rq K mg F H d v) : decide (v = .non) = isNone d := by
  cases d with
  | none => rw [h.none]; rfl
  | bool b => rw [h.bool]; rfl
  | int b => rw [h.int]; rfl
  | str b => rw [h.str]; rfl
  | list ds => obtain ⟨a, vs, rfl, _⟩ := h.list; rfl
  | tuple ds => obtain ⟨a, vs, rfl, _⟩ := h.tuple; rfl
  | dict kvs =>
    have h : Rp K mg F (.dict kvs) v := h
    simp only [Rp] at h
    rcases h with ⟨x, f, _, rfl, _⟩ | ⟨a, _, rfl⟩ | ⟨_, _, _, rfl, _⟩ <;> rfl
end
/-- a new tuple -/
theorem fin_tup {K : PySem.W.Frag} {mg : Str → Option Value} {F H : Hp} {ds : List D} {vs : List V} {Q : VK} (s : Same F H) (r : Rps K mg F ds vs) (k : ∀ F' H' v, Grow F H F' H' → Rp K mg F' (.tuple ds) v → Q v H') :
    ∀ p, H p = none → Q (.ref p) (upd H p (.tup vs)) := fun p hp => by
  refine k (upd F p (.tup vs)) _ _ (Grow.frz s hp (fun ps z => nomatch z)) ?_
  simp only [Rp]
  exact ⟨p, vs, rfl, .inl (.inl upd_same), Rps.mono (same_upd (same_none s hp)) _ _ r⟩
theorem fin_lst {K : PySem.W.Frag} {mg : Str → Option Value} {F H : Hp} {ds : List D} {vs : List V} {Q : VK} (s : Same F H) (r : Rps K mg F ds vs) (k : ∀ F' H' v, Grow F H F' H' → Rp K mg F' (.list ds) v → Q v H') :
    ∀ p, H p = none → Q (.ref p) (upd H p (.lst vs)) := fun p hp => by
  refine k (upd F p (.lst vs)) _ _ (Grow.frz s hp (fun ps z => nomatch z)) ?_
  simp only [Rp]
  exact ⟨p, vs, rfl, .inl upd_same, Rps.mono (same_upd (same_none s hp)) _ _ r⟩
theorem fin_own {K : PySem.W.Frag} {mg : Str → Option Value} {F H : Hp} {ds : List D} {vs : List V} {Q : VK} (s : Same F H) (r : Rps K mg F ds vs) (k : ∀ F' H' p, Grow F H F' H' → H p = none → F' p = none → OwnD K mg F' H' (.list ds) p → Q (.ref p) H') :
    ∀ p, H p = none → Q (.ref p) (upd H p (.lst vs)) := fun p hp => k F _ p (Grow.keep (same_upd hp)) hp (same_none s hp) ⟨vs, upd_same, r⟩

/-! ### + -/
def gAdd : D → D → Option D
  | .int i, .int j => some (.int (i + j))
  | .str x, .str y => if x.length + y.length ≤ sizeLine then some (.str (x ++ y)) else none
  | .tuple xs, .tuple ys => if xs.length + ys.length ≤ sizeLine then some (.tuple (xs ++ ys)) else none
  | .list xs, .list ys => if xs.length + ys.length ≤ sizeLine then some (.list (xs ++ ys)) else none
  | _, _ => none
def gCat : D → D → Option D
  | .list xs, .list ys => if xs.length + ys.length ≤ sizeLine then some (.list (xs ++ ys)) else none
  | _, _ => none
def rCatR : R2 := fun x y H Q => ∃ l b xs zs, x = .ref l ∧ y = .ref b ∧ Rd H l (.lst xs) ∧ Rd H b (.lst zs) ∧ xs.length + zs.length ≤ sizeLine ∧ ∀ p, H p = none → Q (.ref p) (upd H p (.lst (xs ++ zs)))
section
variable {X : Cx}
theorem op_catR : OpR X (binaryOp .Add) rCatR := by
  intro pins s σ H x y v u Q I rx ry h
  obtain ⟨l, b, xs, zs, rfl, rfl, hH, hB, hz, q⟩ := h
  cases rx
  cases ry
  obtain ⟨z, its, n, r, hl, e⟩ := Inv.lstR I hH
  obtain ⟨z2, its2, n2, r2, hl2, e2⟩ := Inv.lstR I hB
  refine PySem.P.add_list e e2 ?_ (by rw [List.size_toArray, List.size_toArray]; omega)
  have ea : its.toArray ++ its2.toArray = (its ++ its2).toArray := by simp
  rw [ea]
  exact ⟨.ref _, _, I.lnew (t' := s.toks) (r.append r2) (by rw [List.length_append]; omega), rfl, q _ I.fresh⟩
theorem op_gAdd : OpR X (binaryOp .Add) (rV X.K X.mg gAdd) := by
  intro pins s σ H x y v u Q I rx ry h
  obtain ⟨F, a, b, d, sm, ra, rb, e, k⟩ := h
  unfold gAdd at e
  split at e
  · cases e; obtain rfl := ra.int; obtain rfl := rb.int
    exact op_add pins s σ H _ _ v u Q I rx ry ⟨_, _, rfl, rfl, k F H _ (Grow.refl _ _) (rp_int _)⟩
  · split at e
    · cases e; obtain rfl := ra.str; obtain rfl := rb.str
      exact op_add_str pins s σ H _ _ v u Q I rx ry ⟨_, _, rfl, rfl, by assumption, k F H _ (Grow.refl _ _) (rp_str _)⟩
    · cases e
  · split at e
    · cases e
      obtain ⟨p, vs, rfl, h1, r1⟩ := ra.tuple
      obtain ⟨q, ws, rfl, h2, r2⟩ := rb.tuple
      have l1 := r1.len
      have l2 := r2.len
      refine op_catA pins s σ H _ _ v u Q I rx ry ⟨p, q, vs, ws, rfl, rfl, SqT_mono sm h1, SqT_mono sm h2, by omega, fun z => ?_, fun _ z => ?_, fun _ _ => fin_tup sm (r1.append r2) k⟩
      · refine k F H _ (Grow.refl _ _) ?_
        rename_i xs ys _
        have : xs = [] := List.length_eq_zero_iff.mp (by rw [l1, z]; rfl)
        subst this
        simp only [Rp, List.nil_append]; exact ⟨q, ws, rfl, h2, r2⟩
      · refine k F H _ (Grow.refl _ _) ?_
        rename_i xs ys _ _
        have : ys = [] := List.length_eq_zero_iff.mp (by rw [l2, z]; rfl)
        subst this
        simp only [Rp, List.append_nil]; exact ⟨p, vs, rfl, h1, r1⟩
    · cases e
  · split at e
    · cases e
      obtain ⟨p, vs, rfl, h1, r1⟩ := ra.list
      obtain ⟨q, ws, rfl, h2, r2⟩ := rb.list
      have l1 := r1.len
      have l2 := r2.len
      exact op_catR pins s σ H _ _ v u Q I rx ry ⟨p, q, vs, ws, rfl, rfl, h1, h2, by omega, fin_lst sm (r1.append r2) k⟩
    · cases e
  · cases e
theorem op_gCat : OpR X (binaryOp .Add) (rO X.K X.mg gCat) := by
  intro pins s σ H x y v u Q I rx ry h
  obtain ⟨F, a, b, d, sm, ra, rb, e, k⟩ := h
  unfold gCat at e
  split at e
  · split at e
    · cases e
      obtain ⟨p, vs, rfl, h1, r1⟩ := ra.list
      obtain ⟨q, ws, rfl, h2, r2⟩ := rb.list
      have l1 := r1.len
      have l2 := r2.len
      exact op_catR pins s σ H _ _ v u Q I rx ry ⟨p, q, vs, ws, rfl, rfl, h1, h2, by omega, fin_own sm (r1.append r2) k⟩
    · cases e
  · cases e

/-! ### - * // % ** -/
def gSub : D → D → Option D
  | .int i, .int j => some (.int (i - j))
  | _, _ => none
def mulOk (i j : Int) : Bool := (decide (-(2 ^ 64) < i) && decide (i < 2 ^ 64)) || (decide (-(2 ^ 64) < j) && decide (j < 2 ^ 64)) || decide (i.natAbs.log2 + j.natAbs.log2 + 2 ≤ 1000000)
def gMul : D → D → Option D
  | .int i, .int j => if mulOk i j then some (.int (i * j)) else none
  | .tuple xs, .int k => if xs ≠ [] ∧ 2 ≤ k ∧ k ≤ 1000 ∧ xs.length ≤ 1000 then some (.tuple (List.replicate k.toNat xs).flatten) else none
  | _, _ => none
def gFdiv : D → D → Option D
  | .int i, .int j => if j ≠ 0 ∧ j.natAbs < 1073741824 then some (.int (i.fdiv j)) else if 0 < j ∧ j.natAbs.log2 < 9000 then some (.int (i.fdiv j)) else none
  | _, _ => none
def gMod : D → D → Option D
  | .int i, .int j => if j ≠ 0 then some (.int (i.fmod j)) else none
  | _, _ => none
def gPow : D → D → Option D
  | .int i, .int j => if 0 ≤ j ∧ j ≤ 1000000 ∧ i.natAbs < 2 ^ 64 then some (.int (i ^ j.toNat)) else none
  | _, _ => none
theorem op_gSub : OpR X (binaryOp .Sub) (rV X.K X.mg gSub) := by
  intro pins s σ H x y v u Q I rx ry h
  obtain ⟨F, a, b, d, sm, ra, rb, e, k⟩ := h
  unfold gSub at e
  split at e
  · cases e; obtain rfl := ra.int; obtain rfl := rb.int
    exact op_sub pins s σ H _ _ v u Q I rx ry ⟨_, _, rfl, rfl, k F H _ (Grow.refl _ _) (rp_int _)⟩
  · cases e
theorem Rps.flat : ∀ {ds : List D} {vs : List V} (n : Nat) {K : PySem.W.Frag} {mg : Str → Option Value} {F : Hp}, Rps K mg F ds vs → Rps K mg F (List.replicate n ds).flatten (List.replicate n vs).flatten := fun {ds vs} n {K mg F} h => by
  induction n with
  | zero => simp [Rps]
  | succ n ih => simp only [List.replicate_succ, List.flatten_cons]; exact h.append ih
theorem op_gMul : OpR X (binaryOp .Mult) (rV X.K X.mg gMul) := by
  intro pins s σ H x y v u Q I rx ry h
  obtain ⟨F, a, b, d, sm, ra, rb, e, k⟩ := h
  unfold gMul at e
  split at e
  · rename_i i j
    split at e
    · rename_i hm
      cases e; obtain rfl := ra.int; obtain rfl := rb.int
      unfold mulOk at hm
      simp only [Bool.or_eq_true, Bool.and_eq_true, decide_eq_true_eq] at hm
      have fin := k F H _ (Grow.refl _ _) (rp_int (i * j))
      rcases hm with (hm | hm) | hm
      · exact op_mul pins s σ H _ _ v u Q I rx ry ⟨_, _, rfl, rfl, .inl hm, fin⟩
      · exact op_mul pins s σ H _ _ v u Q I rx ry ⟨_, _, rfl, rfl, .inr hm, fin⟩
      · exact op_mulW pins s σ H _ _ v u Q I rx ry ⟨_, _, rfl, rfl, by unfold CMulW; omega, fin⟩
    · cases e
  · split at e
    · rename_i hm
      cases e
      obtain ⟨p, vs, rfl, h1, r1⟩ := ra.tuple
      obtain rfl := rb.int
      have l1 := r1.len
      refine op_repT pins s σ H _ _ v u Q I rx ry ⟨p, _, vs, rfl, rfl, SqT_mono sm h1, fun z => hm.1 (List.length_eq_zero_iff.mp (by rw [l1, z]; rfl)), hm.2.1, hm.2.2.1, by omega, fin_tup sm (r1.flat _) k⟩
    · cases e
  · cases e
theorem op_gFdiv : OpR X (binaryOp .FloorDiv) (rV X.K X.mg gFdiv) := by
  intro pins s σ H x y v u Q I rx ry h
  obtain ⟨F, a, b, d, sm, ra, rb, e, k⟩ := h
  unfold gFdiv at e
  split at e
  · split at e
    · rename_i hm
      cases e; obtain rfl := ra.int; obtain rfl := rb.int
      exact op_fdivN pins s σ H _ _ v u Q I rx ry ⟨_, _, rfl, rfl, hm, k F H _ (Grow.refl _ _) (rp_int _)⟩
    · split at e
      · rename_i hm
        cases e; obtain rfl := ra.int; obtain rfl := rb.int
        refine op_fdivW pins s σ H _ _ v u Q I rx ry ⟨_, _, rfl, rfl, hm, ?_⟩
        have := k F H _ (Grow.refl _ _) (rp_int _)
        rw [Int.fdiv_eq_ediv_of_nonneg _ (by omega)] at this
        exact this
      · cases e
  · cases e
theorem op_gMod : OpR X (binaryOp .Mod) (rV X.K X.mg gMod) := by
  intro pins s σ H x y v u Q I rx ry h
  obtain ⟨F, a, b, d, sm, ra, rb, e, k⟩ := h
  unfold gMod at e
  split at e
  · split at e
    · rename_i hm
      cases e; obtain rfl := ra.int; obtain rfl := rb.int
      exact op_modN pins s σ H _ _ v u Q I rx ry ⟨_, _, rfl, rfl, hm, k F H _ (Grow.refl _ _) (rp_int _)⟩
    · cases e
  · cases e
theorem op_gPow : OpR X (binaryOp .Pow) (rV X.K X.mg gPow) := by
  intro pins s σ H x y v u Q I rx ry h
  obtain ⟨F, a, b, d, sm, ra, rb, e, k⟩ := h
  unfold gPow at e
  split at e
  · split at e
    · rename_i hm
      cases e; obtain rfl := ra.int; obtain rfl := rb.int
      exact op_pow pins s σ H _ _ v u Q I rx ry ⟨_, _, rfl, rfl, hm, k F H _ (Grow.refl _ _) (rp_int _)⟩
    · cases e
  · cases e
def gNeg : D → Option D
  | .int i => some (.int (-i))
  | _ => none
theorem un_gNeg : UnR X (unaryOp .USub) (rU1 X.K X.mg gNeg) := by
  intro pins s σ H x v Q I rx h
  obtain ⟨F, a, d, sm, ra, e, k⟩ := h
  unfold gNeg at e
  split at e
  · cases e; obtain rfl := ra.int
    exact un_neg pins s σ H _ v Q I rx ⟨_, rfl, k F H _ (Grow.refl _ _) (rp_int _)⟩
  · cases e

/-! ### comparisons -/
def okD (d : D) : Bool := d.plain && decide (d.depth ≤ 60)
theorem okD_p {d : D} (h : okD d = true) : d.plain = true ∧ d.depth ≤ 60 := by unfold okD at h; simpa using h
theorem rq_reads {pins : List (Addr × Obj)} {σ : L2.St} {H F : Hp} {s : Shared} (I : Inv X pins σ H s) (sm : Same F H) {d : D} {x : V} {v : Value} (h : Rq X.K X.mg F H d x) (rx : RelV x v) (p : d.plain = true) : ∃ as, Reads s.heap v d as := Rp.reads I d x v p (h.toH sm) rx
def gEq (a b : D) : Option D := if okD a && okD b then some (.bool (PyData.eqv a b)) else none
def gNe (a b : D) : Option D := if okD a && okD b then some (.bool (!PyData.eqv a b)) else none
theorem op_gEq (hu : X.A.units + 64 < cLine) : OpR X (compareOp .Eq) (rV X.K X.mg gEq) := by
  intro pins s σ H x y v u Q I rx ry h
  obtain ⟨F, a, b, d, sm, ra, rb, e, k⟩ := h
  unfold gEq at e
  split at e
  · rename_i hm
    simp only [Bool.and_eq_true] at hm
    cases e
    obtain ⟨p1, d1⟩ := okD_p hm.1
    obtain ⟨p2, d2⟩ := okD_p hm.2
    obtain ⟨as, r1⟩ := rq_reads I sm ra rx p1
    obtain ⟨bs, r2⟩ := rq_reads I sm rb ry p2
    exact PySem.SeqAt.eq_plain r1 r2 p1 p2 (by omega) ⟨.bl _, H, I, rfl, k F H _ (Grow.refl _ _) (rp_bool _)⟩
  · cases e
theorem op_gNe (hu : X.A.units + 64 < cLine) : OpR X (compareOp .NotEq) (rV X.K X.mg gNe) := by
  intro pins s σ H x y v u Q I rx ry h
  obtain ⟨F, a, b, d, sm, ra, rb, e, k⟩ := h
  unfold gNe at e
  split at e
  · rename_i hm
    simp only [Bool.and_eq_true] at hm
    cases e
    obtain ⟨p1, d1⟩ := okD_p hm.1
    obtain ⟨p2, d2⟩ := okD_p hm.2
    obtain ⟨as, r1⟩ := rq_reads I sm ra rx p1
    obtain ⟨bs, r2⟩ := rq_reads I sm rb ry p2
    exact PySem.SeqAt.ne_plain r1 r2 p1 p2 (by omega) ⟨.bl _, H, I, rfl, k F H _ (Grow.refl _ _) (rp_bool _)⟩
  · cases e
end
end TL

set_option Elab.async false
set_option linter.all false
set_option maxRecDepth 100000
namespace TL
open PySem PySem.Spec PyProof.Rows L2

def lift {α : Type} : Option α → Res α
  | some a => .ok a
  | none => .stuck
@[simp] theorem lift_some {α : Type} (a : α) : lift (some a) = .ok a := rfl
@[simp] theorem lift_none {α : Type} : lift (none : Option α) = .stuck := rfl
section
variable {α β : Type} {K : PySem.W.Frag} {mg : Str → Option Value} {S : Sx} {W : WX} {F F' G H H' : Hp} {P : Nat → Option Addr} {ev ev' : Ev} {σ : L2.St}
theorem tM.lift {o : Option α} {k : α → Res (β × Ev)} {post : β → Ev → Hp → Hp → Prop} (h : tM K mg S W G P σ F ((lift o).bind k) post) : ∃ a, o = some a ∧ tM K mg S W G P σ F (k a) post := by
  cases o with
  | none => exact False.elim h
  | some a => exact ⟨a, rfl, h⟩
theorem tM.cond {c : Prop} [Decidable c] {r : Res (β × Ev)} {post : β → Ev → Hp → Hp → Prop} (h : tM K mg S W G P σ F (if c then r else .stuck) post) : c ∧ tM K mg S W G P σ F r post := by
  by_cases hc : c
  · rw [if_pos hc] at h; exact ⟨hc, h⟩
  · rw [if_neg hc] at h; exact False.elim h
theorem tM.condB {c : Bool} {r : Res (β × Ev)} {post : β → Ev → Hp → Hp → Prop} (h : tM K mg S W G P σ F (bif c then r else .stuck) post) : c = true ∧ tM K mg S W G P σ F r post := by
  cases c with
  | true => exact ⟨rfl, h⟩
  | false => exact False.elim h
end

/-! ### comparisons by data -/
def gLt : D → D → Option D
  | .int i, .int j => some (.bool (decide (i < j)))
  | a, b => if okD a ∧ okD b ∧ PySem.W.alike a b = true ∧ isNone a = false then some (.bool (PySem.W.dataLt a b)) else none
def gLe : D → D → Option D
  | .int i, .int j => some (.bool (decide (i ≤ j)))
  | a, b => if okD a ∧ okD b ∧ PySem.W.alike a b = true ∧ isNone a = false then some (.bool (!PySem.W.dataLt b a)) else none
def gGt : D → D → Option D
  | .int i, .int j => some (.bool (decide (j < i)))
  | a, b => if okD a ∧ okD b ∧ PySem.W.alike a b = true ∧ isNone a = false then some (.bool (PySem.W.dataLt b a)) else none
def gGe : D → D → Option D
  | .int i, .int j => some (.bool (decide (j ≤ i)))
  | a, b => if okD a ∧ okD b ∧ PySem.W.alike a b = true ∧ isNone a = false then some (.bool (!PySem.W.dataLt a b)) else none
theorem isNone_ne {d : D} (h : isNone d = false) : d ≠ .none := fun e => by subst e; cases h
section
variable {X : Cx}
theorem op_gLt (hu : X.A.units + 64 < cLine) : OpR X (compareOp .Lt) (rV X.K X.mg gLt) := by
  intro pins s σ H x y v u Q I rx ry h
  obtain ⟨F, a, b, d, sm, ra, rb, e, k⟩ := h
  unfold gLt at e
  split at e
  · cases e; obtain rfl := ra.int; obtain rfl := rb.int
    exact op_lt pins s σ H _ _ v u Q I rx ry ⟨_, _, rfl, rfl, k F H _ (Grow.refl _ _) (rp_bool _)⟩
  · split at e
    · rename_i hm
      cases e
      obtain ⟨p1, d1⟩ := okD_p hm.1
      obtain ⟨p2, d2⟩ := okD_p hm.2.1
      obtain ⟨as, r1⟩ := rq_reads I sm ra rx p1
      obtain ⟨bs, r2⟩ := rq_reads I sm rb ry p2
      exact PySem.W.lt_data r1 r2 hm.2.2.1 (isNone_ne hm.2.2.2) (by omega) ⟨.bl _, H, I, rfl, k F H _ (Grow.refl _ _) (rp_bool _)⟩
    · cases e
theorem op_gLe (hu : X.A.units + 64 < cLine) : OpR X (compareOp .LtE) (rV X.K X.mg gLe) := by
  intro pins s σ H x y v u Q I rx ry h
  obtain ⟨F, a, b, d, sm, ra, rb, e, k⟩ := h
  unfold gLe at e
  split at e
  · cases e; obtain rfl := ra.int; obtain rfl := rb.int
    exact op_le pins s σ H _ _ v u Q I rx ry ⟨_, _, rfl, rfl, k F H _ (Grow.refl _ _) (rp_bool _)⟩
  · split at e
    · rename_i hm
      cases e
      obtain ⟨p1, d1⟩ := okD_p hm.1
      obtain ⟨p2, d2⟩ := okD_p hm.2.1
      obtain ⟨as, r1⟩ := rq_reads I sm ra rx p1
      obtain ⟨bs, r2⟩ := rq_reads I sm rb ry p2
      exact PySem.W.le_data r1 r2 hm.2.2.1 (isNone_ne hm.2.2.2) (by omega) ⟨.bl _, H, I, rfl, k F H _ (Grow.refl _ _) (rp_bool _)⟩
    · cases e
theorem op_gGt (hu : X.A.units + 64 < cLine) : OpR X (compareOp .Gt) (rV X.K X.mg gGt) := by
  intro pins s σ H x y v u Q I rx ry h
  obtain ⟨F, a, b, d, sm, ra, rb, e, k⟩ := h
  unfold gGt at e
  split at e
  · cases e; obtain rfl := ra.int; obtain rfl := rb.int
    exact op_gt pins s σ H _ _ v u Q I rx ry ⟨_, _, rfl, rfl, k F H _ (Grow.refl _ _) (rp_bool _)⟩
  · split at e
    · rename_i hm
      cases e
      obtain ⟨p1, d1⟩ := okD_p hm.1
      obtain ⟨p2, d2⟩ := okD_p hm.2.1
      obtain ⟨as, r1⟩ := rq_reads I sm ra rx p1
      obtain ⟨bs, r2⟩ := rq_reads I sm rb ry p2
      exact PySem.W.gt_data r1 r2 hm.2.2.1 (isNone_ne hm.2.2.2) (by omega) ⟨.bl _, H, I, rfl, k F H _ (Grow.refl _ _) (rp_bool _)⟩
    · cases e
theorem op_gGe (hu : X.A.units + 64 < cLine) : OpR X (compareOp .GtE) (rV X.K X.mg gGe) := by
  intro pins s σ H x y v u Q I rx ry h
  obtain ⟨F, a, b, d, sm, ra, rb, e, k⟩ := h
  unfold gGe at e
  split at e
  · cases e; obtain rfl := ra.int; obtain rfl := rb.int
    exact op_ge pins s σ H _ _ v u Q I rx ry ⟨_, _, rfl, rfl, k F H _ (Grow.refl _ _) (rp_bool _)⟩
  · split at e
    · rename_i hm
      cases e
      obtain ⟨p1, d1⟩ := okD_p hm.1
      obtain ⟨p2, d2⟩ := okD_p hm.2.1
      obtain ⟨as, r1⟩ := rq_reads I sm ra rx p1
      obtain ⟨bs, r2⟩ := rq_reads I sm rb ry p2
      exact PySem.W.ge_data r1 r2 hm.2.2.1 (isNone_ne hm.2.2.2) (by omega) ⟨.bl _, H, I, rfl, k F H _ (Grow.refl _ _) (rp_bool _)⟩
    · cases e
/-- in, not in: over a list, a tuple, a text -/
def inD (x : D) : D → Option Bool
  | .list ys => if okD x ∧ okD (.list ys) then some (ys.any fun y => PyData.eqv y x) else none
  | .tuple ys => if okD x ∧ okD (.tuple ys) then some (ys.any fun y => PyData.eqv y x) else none
  | .str z => match x with
    | .str y => some (!(Builtin.Str.occurrences z y 0 z.length 1).isEmpty)
    | _ => none
  | _ => none
def gIn (x c : D) : Option D := (inD x c).map PyData.bool
def gNotIn (x c : D) : Option D := (inD x c).map fun b => PyData.bool (!b)
theorem op_gIn (hu : X.A.units + 64 < cLine) : OpR X (compareOp .In) (rV X.K X.mg gIn) := by
  intro pins s σ H x y v u Q I rx ry h
  obtain ⟨F, a, b, d, sm, ra, rb, e, k⟩ := h
  unfold gIn at e
  obtain ⟨c, ec, e⟩ := Option.map_eq_some_iff.mp e
  subst e
  unfold inD at ec
  split at ec
  · split at ec
    · rename_i hm
      cases ec
      obtain ⟨p1, d1⟩ := okD_p hm.1
      obtain ⟨p2, d2⟩ := okD_p hm.2
      obtain ⟨as, r1⟩ := rq_reads I sm ra rx p1
      obtain ⟨bs, r2⟩ := rq_reads I sm rb ry p2
      exact PySem.SeqAt.in_list_data r2 r1 (by simpa only [PyData.plain] using p2) p1 (by omega) ⟨.bl _, H, I, rfl, k F H _ (Grow.refl _ _) (rp_bool _)⟩
    · cases ec
  · split at ec
    · rename_i hm
      cases ec
      obtain ⟨p1, d1⟩ := okD_p hm.1
      obtain ⟨p2, d2⟩ := okD_p hm.2
      obtain ⟨as, r1⟩ := rq_reads I sm ra rx p1
      obtain ⟨bs, r2⟩ := rq_reads I sm rb ry p2
      exact PySem.SeqAt.in_tuple_data r2 r1 (by simpa only [PyData.plain] using p2) p1 (by omega) ⟨.bl _, H, I, rfl, k F H _ (Grow.refl _ _) (rp_bool _)⟩
    · cases ec
  · split at ec
    · cases ec; obtain rfl := ra.str; obtain rfl := rb.str
      exact op_in_str pins s σ H _ _ v u Q I rx ry ⟨_, _, rfl, rfl, k F H _ (Grow.refl _ _) (rp_bool _)⟩
    · cases ec
  · cases ec
theorem op_gNotIn (hu : X.A.units + 64 < cLine) : OpR X (compareOp .NotIn) (rV X.K X.mg gNotIn) := by
  intro pins s σ H x y v u Q I rx ry h
  obtain ⟨F, a, b, d, sm, ra, rb, e, k⟩ := h
  unfold gNotIn at e
  obtain ⟨c, ec, e⟩ := Option.map_eq_some_iff.mp e
  subst e
  unfold inD at ec
  split at ec
  · split at ec
    · rename_i hm
      cases ec
      obtain ⟨p1, d1⟩ := okD_p hm.1
      obtain ⟨p2, d2⟩ := okD_p hm.2
      obtain ⟨as, r1⟩ := rq_reads I sm ra rx p1
      obtain ⟨bs, r2⟩ := rq_reads I sm rb ry p2
      exact PySem.SeqAt.notIn_list_data r2 r1 (by simpa only [PyData.plain] using p2) p1 (by omega) ⟨.bl _, H, I, rfl, k F H _ (Grow.refl _ _) (rp_bool _)⟩
    · cases ec
  · split at ec
    · rename_i hm
      cases ec
      obtain ⟨p1, d1⟩ := okD_p hm.1
      obtain ⟨p2, d2⟩ := okD_p hm.2
      obtain ⟨as, r1⟩ := rq_reads I sm ra rx p1
      obtain ⟨bs, r2⟩ := rq_reads I sm rb ry p2
      exact PySem.SeqAt.notIn_tuple_data r2 r1 (by simpa only [PyData.plain] using p2) p1 (by omega) ⟨.bl _, H, I, rfl, k F H _ (Grow.refl _ _) (rp_bool _)⟩
    · cases ec
  · split at ec
    · cases ec; obtain rfl := ra.str; obtain rfl := rb.str
      exact op_notIn_str pins s σ H _ _ v u Q I rx ry ⟨_, _, rfl, rfl, k F H _ (Grow.refl _ _) (rp_bool _)⟩
    · cases ec
  · cases ec
/-- is, is not: None, or two truth values -/
def isD : D → D → Option Bool
  | .bool a, .bool b => some (decide (a = b))
  | a, .none => some (isNone a)
  | _, _ => none
def gIs (x c : D) : Option D := (isD x c).map PyData.bool
def gIsNot (x c : D) : Option D := (isD x c).map fun b => PyData.bool (!b)
theorem op_gIs : OpR X (compareOp .Is) (rV X.K X.mg gIs) := by
  intro pins s σ H x y v u Q I rx ry h
  obtain ⟨F, a, b, d, sm, ra, rb, e, k⟩ := h
  unfold gIs at e
  obtain ⟨c, ec, e⟩ := Option.map_eq_some_iff.mp e
  subst e
  unfold isD at ec
  split at ec
  · cases ec; obtain rfl := ra.bool; obtain rfl := rb.bool
    exact op_isBl pins s σ H _ _ v u Q I rx ry ⟨_, _, rfl, rfl, k F H _ (Grow.refl _ _) (rp_bool _)⟩
  · cases ec; obtain rfl := rb.none
    exact op_isN pins s σ H _ _ v u Q I rx ry ⟨rfl, by rw [ra.is_none]; exact k F H _ (Grow.refl _ _) (rp_bool _)⟩
  · cases ec
theorem op_gIsNot : OpR X (compareOp .IsNot) (rV X.K X.mg gIsNot) := by
  intro pins s σ H x y v u Q I rx ry h
  obtain ⟨F, a, b, d, sm, ra, rb, e, k⟩ := h
  unfold gIsNot at e
  obtain ⟨c, ec, e⟩ := Option.map_eq_some_iff.mp e
  subst e
  unfold isD at ec
  split at ec
  · cases ec; obtain rfl := ra.bool; obtain rfl := rb.bool
    exact op_notBl pins s σ H _ _ v u Q I rx ry ⟨_, _, rfl, rfl, k F H _ (Grow.refl _ _) (rp_bool _)⟩
  · cases ec; obtain rfl := rb.none
    exact op_notN pins s σ H _ _ v u Q I rx ry ⟨rfl, by rw [ra.is_none]; exact k F H _ (Grow.refl _ _) (rp_bool _)⟩
  · cases ec
end

/-! ### expressions -/
def eVar (i : Nat) : DE := fun ev => (lift (ev[i]?).join).bind fun d => .ok (.val d, ev)
def eOwn (i : Nat) : DE := fun ev => (lift (ev[i]?).join).bind fun _ => .ok (.slot i, ev)
def eC (d : D) : DE := fun ev => .ok (.val d, ev)
def vUn (g : D → Option D) (m : DE) : DE := fun ev => (m ev).bind fun p => (lift (p.1.get p.2)).bind fun a => (lift (g a)).bind fun d => .ok (.val d, p.2)
def vBin (g : D → D → Option D) (ma mb : DE) : DE := fun ev => (ma ev).bind fun p => (mb p.2).bind fun q => (lift (p.1.get q.2)).bind fun a => (lift (q.1.get q.2)).bind fun b => (lift (g a b)).bind fun d => .ok (.val d, q.2)
def oBin (g : D → D → Option D) (ma mb : DE) : DO := fun ev => (ma ev).bind fun p => (mb p.2).bind fun q => (lift (p.1.get q.2)).bind fun a => (lift (q.1.get q.2)).bind fun b => (lift (g a b)).bind fun d => .ok (d, q.2)
def vOf (m : DO) : DE := fun ev => (m ev).bind fun p => .ok (.val p.1, p.2)
def toBool : D → Option Bool
  | .bool b => some b
  | _ => none
/-- a test by a truth value -/
def tOf (m : DE) : DT := fun ev => (m ev).bind fun p => (lift ((p.1.get p.2).bind toBool)).bind fun b => .ok (b, p.2)
def truD : D → Option Bool
  | .none => some false
  | .bool b => some b
  | .int i => some (i != 0)
  | .str y => if y.length ≤ sizeLine then some ((y.length : Int) != 0) else none
  | .list xs => some (!xs.isEmpty)
  | .tuple xs => some (!xs.isEmpty)
  | .dict _ => none
/-- a test by a value's truth -/
def tTru (m : DE) : DT := fun ev => (m ev).bind fun p => (lift ((p.1.get p.2).bind truD)).bind fun b => .ok (b, p.2)
def tNo (m : DT) : DT := fun ev => (m ev).bind fun p => .ok (!p.1, p.2)
def tAn (m n : DT) : DT := fun ev => (m ev).bind fun p => bif p.1 then n p.2 else .ok (false, p.2)
def tOrr (m n : DT) : DT := fun ev => (m ev).bind fun p => bif p.1 then .ok (true, p.2) else n p.2
/-- and, or, not as values -/
def vAn (m n : DE) : DE := fun ev => (m ev).bind fun p => (lift ((p.1.get p.2).bind toBool)).bind fun b => bif b then n p.2 else .ok (.val (.bool false), p.2)
def vOrr (m n : DE) : DE := fun ev => (m ev).bind fun p => (lift ((p.1.get p.2).bind toBool)).bind fun b => bif b then .ok (.val (.bool true), p.2) else n p.2
def vNo (m : DE) : DE := fun ev => (m ev).bind fun p => (lift ((p.1.get p.2).bind toBool)).bind fun b => .ok (.val (.bool (!b)), p.2)
def vIf (t : DT) (m n : DE) : DE := fun ev => (t ev).bind fun p => bif p.1 then m p.2 else n p.2
def vChain (g h : D → D → Option D) (ma mb mc : DE) : DE := fun ev => (ma ev).bind fun p => (mb p.2).bind fun q => (lift (p.1.get q.2)).bind fun a => (lift (q.1.get q.2)).bind fun b => (lift ((g a b).bind toBool)).bind fun k =>
  bif k then (mc q.2).bind fun r => (lift (q.1.get r.2)).bind fun b' => (lift (r.1.get r.2)).bind fun c => (lift (h b' c)).bind fun d => .ok (.val d, r.2) else .ok (.val (.bool false), q.2)
section
variable {X : Cx} {S : Sx} {W : WX} {a b c e : Expr} {ma mb mc m n : DE} {ta tb : DT} {pos : Pos}
end
end TL

set_option Elab.async false
set_option linter.all false
set_option maxRecDepth 100000
namespace TL
open PySem PySem.Spec PyProof.Rows L2
section
variable {X : Cx} {S : Sx} {W : WX} {a b c e : Expr} {ma mb mc m n : DE} {ta tb : DT} {pos : Pos}

theorem sd_var (i : Nat) {x : Str} (ho : S.own i = false := by rfl) (hN : X.N[i]? = some x := by rfl) (hv : Vis X.env.scope x := by first | exact Or.inl rfl | exact Or.inr (Or.inl rfl) | exact Or.inr (Or.inr rfl)) (hd : (x == ("__debug__" : Str)) = false := by decide)
    (hcd : (x == ("__classdict__" : Str)) = false := by decide) : PE X (.Name x pos) (tE X.K X.mg S W (eVar i)) := (pe_var hN hv hd hcd).imp fun σ H Q ⟨F, G, P, ev, M, h⟩ => by
  obtain ⟨d, e, h⟩ := h.lift
  obtain ⟨v, e1, r⟩ := M.sl i d ho (join_some e)
  exact ⟨v, e1, h F H (Same.refl _) M v r⟩
theorem sd_own (i : Nat) {x : Str} (ho : S.own i = true := by rfl) (hN : X.N[i]? = some x := by rfl) (hv : Vis X.env.scope x := by first | exact Or.inl rfl | exact Or.inr (Or.inl rfl) | exact Or.inr (Or.inr rfl)) (hd : (x == ("__debug__" : Str)) = false := by decide)
    (hcd : (x == ("__classdict__" : Str)) = false := by decide) : PE X (.Name x pos) (tE X.K X.mg S W (eOwn i)) := (pe_var hN hv hd hcd).imp fun σ H Q ⟨F, G, P, ev, M, h⟩ => by
  obtain ⟨d, e, h⟩ := h.lift
  obtain ⟨v, e1, r⟩ := M.so i d ho (join_some e)
  exact ⟨_, e1, h F H (Same.refl _) M _ ⟨ho, e1⟩⟩
theorem sd_const {e : Expr} {d : D} {v : V} (h : PE X e (tC v)) (r : ∀ F, Rp X.K X.mg F d v) : PE X e (tE X.K X.mg S W (eC d)) := h.imp fun σ H Q ⟨F, G, P, ev, M, h⟩ => h F H (Same.refl _) M v (r F)
theorem sd_int {i : Int} {j : Nat} : PE X (.Constant (.int i) j pos) (tE X.K X.mg S W (eC (.int i))) := sd_const pe_int fun _ => rp_int i
theorem sd_bool {i : Bool} {j : Nat} : PE X (.Constant (.bool i) j pos) (tE X.K X.mg S W (eC (.bool i))) := sd_const pe_bl fun _ => rp_bool i
theorem sd_none {j : Nat} : PE X (.Constant .none j pos) (tE X.K X.mg S W (eC .none)) := sd_const pe_non fun _ => rp_none
theorem sd_str {i : Str} {j : Nat} : PE X (.Constant (.str i) j pos) (tE X.K X.mg S W (eC (.str i))) := sd_const pe_str fun _ => rp_str i
/-- a module's constant int -/
theorem sd_glob {x : Str} {i : Int} {t : Tok} (hg : Gl X x) (hm : X.mg x = some (.int i t)) (hd : (x == ("__debug__" : Str)) = false := by decide) : PE X (.Name x pos) (tE X.K X.mg S W (eC (.int i))) := sd_const (pe_glob (v := .int i) hg hm ⟨_, rfl⟩ hd) fun _ => rp_int i
/-- a def of the module as a value -/
theorem sd_fn {x : Str} {f : Addr} (hg : Gl X x) (hm : X.mg x = some (.ref f)) (hd : (x == ("__debug__" : Str)) = false := by decide) : PE X (.Name x pos) (tE X.K X.mg S W (eC (fnD x))) := sd_const (pe_glob (v := .ref f) hg hm rfl hd) fun _ => by
  simp only [fnD, Rp]; exact .inl ⟨x, f, rfl, rfl, hm⟩

theorem core_bin {g : D → D → Option D} {σ : L2.St} {H : Hp} {Q : VK} (h : tE X.K X.mg S W (vBin g ma mb) σ H Q) : tOp (rV X.K X.mg g) (tE X.K X.mg S W ma) (tE X.K X.mg S W mb) σ H Q := by
  obtain ⟨F, G, P, ev, M, h⟩ := h
  refine ⟨F, G, P, ev, M, h.bind.imp fun r1 ev1 F1 H1 _ s1 M1 h1 v rv => ⟨F1, G, P, ev1, M1, h1.bind.imp fun r2 ev2 F2 H2 _ s2 M2 h2 u ru => ?_⟩⟩
  obtain ⟨x, e1, h2⟩ := h2.lift
  obtain ⟨y, e2, h2⟩ := h2.lift
  obtain ⟨d, e3, h2⟩ := h2.lift
  exact ⟨F2, x, y, d, M2.fr.fh, M2.acc (rv.mono s2) e1, M2.acc ru e2, e3, fun F' H' v' g r => h2 F' H' g.f (M2.grow g) v' r⟩
theorem core_obin {g : D → D → Option D} {σ : L2.St} {H : Hp} {Q : VK} (h : tO X.K X.mg S W (oBin g ma mb) σ H Q) : tOp (rO X.K X.mg g) (tE X.K X.mg S W ma) (tE X.K X.mg S W mb) σ H Q := by
  obtain ⟨F, G, P, ev, M, h⟩ := h
  refine ⟨F, G, P, ev, M, h.bind.imp fun r1 ev1 F1 H1 _ s1 M1 h1 v rv => ⟨F1, G, P, ev1, M1, h1.bind.imp fun r2 ev2 F2 H2 _ s2 M2 h2 u ru => ?_⟩⟩
  obtain ⟨x, e1, h2⟩ := h2.lift
  obtain ⟨y, e2, h2⟩ := h2.lift
  obtain ⟨d, e3, h2⟩ := h2.lift
  refine ⟨F2, x, y, d, M2.fr.fh, M2.acc (rv.mono s2) e1, M2.acc ru e2, e3, fun F' H' p g hp hF o => h2 F' H' g.f (M2.grow g) p o ?_⟩
  have fr := FreshAt.of M2 hp
  exact ⟨hF, fr.2.1, fr.2.2⟩
theorem sd_bin {op : Operator} {g : D → D → Option D} (ho : OpR X (binaryOp op) (rV X.K X.mg g)) (ha : PE X a (tE X.K X.mg S W ma)) (hb : PE X b (tE X.K X.mg S W mb)) : PE X (.BinOp a op b pos) (tE X.K X.mg S W (vBin g ma mb)) := (pe_op ho ha hb).imp fun _ _ _ h => core_bin h
theorem sd_obin {op : Operator} {g : D → D → Option D} (ho : OpR X (binaryOp op) (rO X.K X.mg g)) (ha : PE X a (tE X.K X.mg S W ma)) (hb : PE X b (tE X.K X.mg S W mb)) : PE X (.BinOp a op b pos) (tO X.K X.mg S W (oBin g ma mb)) := (pe_op ho ha hb).imp fun _ _ _ h => core_obin h
theorem sd_cmp {op : CmpOp} {g : D → D → Option D} (ho : OpR X (compareOp op) (rV X.K X.mg g)) (ha : PE X a (tE X.K X.mg S W ma)) (hb : PE X b (tE X.K X.mg S W mb)) (hm : behindInMarks op b = false := by first | exact nomark _ | rfl) : PE X (.Compare a [op] [b] pos) (tE X.K X.mg S W (vBin g ma mb)) := (pe_cmpR ho ha hb hm).imp fun _ _ _ h => core_bin h
theorem tE_bool {σ : L2.St} {H : Hp} {Q : Bool → Hp → Prop} (h : tT X.K X.mg S W (tOf m) σ H Q) : tE X.K X.mg S W m σ H fun v H1 => ∃ k, v = .bl k ∧ Q k H1 := by
  obtain ⟨F, G, P, ev, M, h⟩ := h
  refine ⟨F, G, P, ev, M, h.bind.imp fun r1 ev1 F1 H1 _ s1 M1 h1 v rv => ?_⟩
  obtain ⟨k, e1, h1⟩ := h1.lift
  obtain ⟨d, e2, e3⟩ := Option.bind_eq_some_iff.mp e1
  cases d with
  | bool b0 =>
    simp only [toBool, Option.some.injEq] at e3
    subst e3
    exact ⟨_, (M1.acc rv e2).bool, h1 F1 H1 (Same.refl _) M1⟩
  | _ => cases e3
theorem st_cmp {op : CmpOp} {g : D → D → Option D} (ho : OpR X (compareOp op) (rV X.K X.mg g)) (ha : PE X a (tE X.K X.mg S W ma)) (hb : PE X b (tE X.K X.mg S W mb)) (hm : behindInMarks op b = false := by first | exact nomark _ | rfl) : PT X (.Compare a [op] [b] pos) (tT X.K X.mg S W (tOf (vBin g ma mb))) := (pt_cmpR ho ha hb hm).imp fun _ _ _ h => core_bin (tE_bool h)
/-- a test whose value is a truth value -/
theorem st_bool (he : PE X e (tE X.K X.mg S W m)) (h : ∀ whole, isTrue e X.env whole = (do let v ← whole; standAt e.pos; holding [v] (truthy v)) := by intro _; rfl) : PT X e (tT X.K X.mg S W (tOf m)) := (pt_val he h).imp fun _ _ _ h => tE_bool h
theorem tru_ok {K : PySem.W.Frag} {mg : Str → Option Value} {F H : Hp} (sm : Same F H) {d : D} {v : V} {k : Bool} (r : Rq K mg F H d v) (e : truD d = some k) : TruV K v H k := by
  cases d with
  | none => cases e; rw [r.none]; rfl
  | bool b => cases e; rw [r.bool]; rfl
  | int i => cases e; rw [r.int]; rfl
  | str y =>
    simp only [truD] at e
    split at e
    · cases e; rw [r.str]; exact ⟨by assumption, rfl⟩
    · cases e
  | list xs =>
    cases e
    obtain ⟨a, vs, rfl, h, q⟩ := r.list
    have l := q.len
    exact .inl ⟨vs, .inl h, by cases xs <;> cases vs <;> simp at l ⊢⟩
  | tuple xs =>
    cases e
    obtain ⟨a, vs, rfl, h, q⟩ := r.tuple
    have l := q.len
    exact .inr (.inl ⟨vs, SqT_mono sm h, by cases xs <;> cases vs <;> simp at l ⊢⟩)
  | dict _ => cases e
theorem st_tru (he : PE X e (tE X.K X.mg S W m)) (h : ∀ whole, isTrue e X.env whole = (do let v ← whole; standAt e.pos; holding [v] (truthy v)) := by intro _; rfl) : PT X e (tT X.K X.mg S W (tTru m)) := (pt_truth he h).imp fun σ H Q ⟨F, G, P, ev, M, h⟩ => by
  refine ⟨F, G, P, ev, M, h.bind.imp fun r1 ev1 F1 H1 _ s1 M1 h1 v rv => ?_⟩
  obtain ⟨k, e1, h1⟩ := h1.lift
  obtain ⟨d, e2, e3⟩ := Option.bind_eq_some_iff.mp e1
  exact ⟨k, tru_ok M1.fr.fh (M1.acc rv e2) e3, h1 F1 H1 (Same.refl _) M1⟩
theorem st_not (ha : PT X a (tT X.K X.mg S W ta)) : PT X (.UnaryOp .Not a pos) (tT X.K X.mg S W (tNo ta)) := (pt_not ha).imp fun σ H Q ⟨F, G, P, ev, M, h⟩ => ⟨F, G, P, ev, M, h.bind.imp fun b ev1 F1 H1 _ s1 M1 h1 => h1 F1 H1 (Same.refl _) M1⟩
variable {rest : List Expr}
theorem sw_and1 (ha : PT X a (tT X.K X.mg S W ta)) : PW X (.BoolOp .And [a] pos) (tT X.K X.mg S W ta) := pw_and1 ha
theorem sw_or1 (ha : PT X a (tT X.K X.mg S W ta)) : PW X (.BoolOp .Or [a] pos) (tT X.K X.mg S W ta) := pw_or1 ha
theorem sw_and (ha : PT X a (tT X.K X.mg S W ta)) (hb : PW X (.BoolOp .And (b :: rest) pos) (tT X.K X.mg S W tb)) : PW X (.BoolOp .And (a :: b :: rest) pos) (tT X.K X.mg S W (tAn ta tb)) := (pw_and ha hb).imp fun σ H Q ⟨F, G, P, ev, M, h⟩ => by
  refine ⟨F, G, P, ev, M, h.bind.imp fun k ev1 F1 H1 _ s1 M1 h1 => ?_⟩
  cases k with
  | true => exact ⟨F1, G, P, ev1, M1, h1⟩
  | false => exact h1 F1 H1 (Same.refl _) M1
theorem sw_or (ha : PT X a (tT X.K X.mg S W ta)) (hb : PW X (.BoolOp .Or (b :: rest) pos) (tT X.K X.mg S W tb)) : PW X (.BoolOp .Or (a :: b :: rest) pos) (tT X.K X.mg S W (tOrr ta tb)) := (pw_or ha hb).imp fun σ H Q ⟨F, G, P, ev, M, h⟩ => by
  refine ⟨F, G, P, ev, M, h.bind.imp fun k ev1 F1 H1 _ s1 M1 h1 => ?_⟩
  cases k with
  | false => exact ⟨F1, G, P, ev1, M1, h1⟩
  | true => exact h1 F1 H1 (Same.refl _) M1
theorem sd_one {op} (h : PE X a (tE X.K X.mg S W m)) : PE X (.BoolOp op [a] pos) (tE X.K X.mg S W m) := pe_one h
theorem sd_and (ha : PE X a (tE X.K X.mg S W ma)) (hb : PE X (.BoolOp .And (b :: rest) pos) (tE X.K X.mg S W mb)) : PE X (.BoolOp .And (a :: b :: rest) pos) (tE X.K X.mg S W (vAn ma mb)) := (pe_and ha hb).imp fun σ H Q ⟨F, G, P, ev, M, h⟩ => by
  refine ⟨F, G, P, ev, M, h.bind.imp fun r1 ev1 F1 H1 _ s1 M1 h1 v rv => ?_⟩
  obtain ⟨k, e1, h1⟩ := h1.lift
  obtain ⟨d, e2, e3⟩ := Option.bind_eq_some_iff.mp e1
  cases d with
  | bool b0 =>
    simp only [toBool, Option.some.injEq] at e3
    subst e3
    refine ⟨_, (M1.acc rv e2).bool, ?_⟩
    cases b0 with
    | true => exact ⟨F1, G, P, ev1, M1, h1⟩
    | false => exact h1 F1 H1 (Same.refl _) M1 _ (rp_bool (K := X.K) (mg := X.mg) (F := F1) _)
  | _ => cases e3
theorem sd_or (ha : PE X a (tE X.K X.mg S W ma)) (hb : PE X (.BoolOp .Or (b :: rest) pos) (tE X.K X.mg S W mb)) : PE X (.BoolOp .Or (a :: b :: rest) pos) (tE X.K X.mg S W (vOrr ma mb)) := (pe_or ha hb).imp fun σ H Q ⟨F, G, P, ev, M, h⟩ => by
  refine ⟨F, G, P, ev, M, h.bind.imp fun r1 ev1 F1 H1 _ s1 M1 h1 v rv => ?_⟩
  obtain ⟨k, e1, h1⟩ := h1.lift
  obtain ⟨d, e2, e3⟩ := Option.bind_eq_some_iff.mp e1
  cases d with
  | bool b0 =>
    simp only [toBool, Option.some.injEq] at e3
    subst e3
    refine ⟨_, (M1.acc rv e2).bool, ?_⟩
    cases b0 with
    | false => exact ⟨F1, G, P, ev1, M1, h1⟩
    | true => exact h1 F1 H1 (Same.refl _) M1 _ (rp_bool (K := X.K) (mg := X.mg) (F := F1) _)
  | _ => cases e3
theorem sd_not (ha : PE X a (tE X.K X.mg S W ma)) : PE X (.UnaryOp .Not a pos) (tE X.K X.mg S W (vNo ma)) := (pe_not ha).imp fun σ H Q ⟨F, G, P, ev, M, h⟩ => by
  refine ⟨F, G, P, ev, M, h.bind.imp fun r1 ev1 F1 H1 _ s1 M1 h1 v rv => ?_⟩
  obtain ⟨k, e1, h1⟩ := h1.lift
  obtain ⟨d, e2, e3⟩ := Option.bind_eq_some_iff.mp e1
  cases d with
  | bool b0 =>
    simp only [toBool, Option.some.injEq] at e3
    subst e3
    exact ⟨_, (M1.acc rv e2).bool, h1 F1 H1 (Same.refl _) M1 _ (rp_bool (K := X.K) (mg := X.mg) (F := F1) _)⟩
  | _ => cases e3
theorem sd_un {op : UnaryOp} {g : D → Option D} (ho : UnR X (unaryOp op) (rU1 X.K X.mg g)) (ha : PE X a (tE X.K X.mg S W ma)) : PE X (.UnaryOp op a pos) (tE X.K X.mg S W (vUn g ma)) := (pe_un ho ha).imp fun σ H Q ⟨F, G, P, ev, M, h⟩ => by
  refine ⟨F, G, P, ev, M, h.bind.imp fun r1 ev1 F1 H1 _ s1 M1 h1 v rv => ?_⟩
  obtain ⟨x, e1, h1⟩ := h1.lift
  obtain ⟨d, e2, h1⟩ := h1.lift
  exact ⟨F1, x, d, M1.fr.fh, M1.acc rv e1, e2, fun F' H' v' g r => h1 F' H' g.f (M1.grow g) v' r⟩
theorem sd_if (hc : PT X c (tT X.K X.mg S W ta)) (ha : PE X a (tE X.K X.mg S W ma)) (hb : PE X b (tE X.K X.mg S W mb)) : PE X (.IfExp c a b pos) (tE X.K X.mg S W (vIf ta ma mb)) := (pe_ifExp hc ha hb).imp fun σ H Q ⟨F, G, P, ev, M, h⟩ => by
  refine ⟨F, G, P, ev, M, h.bind.imp fun k ev1 F1 H1 _ s1 M1 h1 => ?_⟩
  cases k with
  | true => exact ⟨F1, G, P, ev1, M1, h1⟩
  | false => exact ⟨F1, G, P, ev1, M1, h1⟩
/-- a fresh object, used as a value: it is frozen -/
theorem sd_of {mo : DO} (he : PE X e (tO X.K X.mg S W mo)) : PE X e (tE X.K X.mg S W (vOf mo)) := he.imp fun σ H Q ⟨F, G, P, ev, M, h⟩ => by
  refine ⟨F, G, P, ev, M, h.bind.imp fun d ev1 F1 H1 _ s1 M1 h1 p o f => ?_⟩
  obtain ⟨F2, s2, M2, r⟩ := M1.freeze o f
  exact h1 F2 H1 s2 M2 _ r
theorem core_chain {g h : D → D → Option D} {σ : L2.St} {H : Hp} {Q : VK} (q : tE X.K X.mg S W (vChain g h ma mb mc) σ H Q) : tChain (rV X.K X.mg g) (rV X.K X.mg h) (tE X.K X.mg S W ma) (tE X.K X.mg S W mb) (tE X.K X.mg S W mc) σ H Q := by
  obtain ⟨F, G, P, ev, M, q⟩ := q
  refine ⟨F, G, P, ev, M, q.bind.imp fun r1 ev1 F1 H1 _ s1 M1 h1 v rv => ⟨F1, G, P, ev1, M1, h1.bind.imp fun r2 ev2 F2 H2 _ s2 M2 h2 u ru => ?_⟩⟩
  obtain ⟨x, e1, h2⟩ := h2.lift
  obtain ⟨y, e2, h2⟩ := h2.lift
  obtain ⟨k, e3, h2⟩ := h2.lift
  obtain ⟨d, e4, e5⟩ := Option.bind_eq_some_iff.mp e3
  cases d with
  | bool b0 =>
    simp only [toBool, Option.some.injEq] at e5
    subst e5
    refine ⟨F2, x, y, _, M2.fr.fh, M2.acc (rv.mono s2) e1, M2.acc ru e2, e4, fun F3 H3 v3 g3 r3 => ⟨b0, by simpa only [Rp] using r3, ?_⟩⟩
    have M3 := M2.grow g3
    cases b0 with
    | false => exact h2 F3 H3 g3.f M3 _ (rp_bool (K := X.K) (mg := X.mg) (F := F3) false)
    | true =>
      rw [if_pos rfl]
      have h2' := tM.mono g3.f h2
      refine ⟨F3, G, P, ev2, M3, h2'.bind.imp fun r4 ev4 F4 H4 _ s4 M4 h4 w rw => ?_⟩
      obtain ⟨y', e1', h4⟩ := h4.lift
      obtain ⟨z, e2', h4⟩ := h4.lift
      obtain ⟨d, e3', h4⟩ := h4.lift
      exact ⟨F4, y', z, d, M4.fr.fh, M4.acc ((ru.mono g3.f).mono s4) e1', M4.acc rw e2', e3', fun F' H' v' g r => h4 F' H' g.f (M4.grow g) v' r⟩
  | _ => cases e5
end
end TL

set_option Elab.async false
set_option linter.all false
set_option maxRecDepth 100000
namespace TL
open PySem PySem.Spec PyProof.Rows L2

/-! ### values out of what an expression gave -/
def toVal : RV → Ev → Res (D × Ev)
  | .val d, ev => .ok (d, ev)
  | .slot i, ev => (lift (ev[i]?).join).bind fun d => .ok (d, ev.set i none)
def vals : List RV → Ev → Res (List D × Ev)
  | [], ev => .ok ([], ev)
  | r :: rs, ev => (toVal r ev).bind fun p => (vals rs p.2).bind fun q => .ok (p.1 :: q.1, q.2)
def gets : List RV → Ev → Option (List D)
  | [], _ => some []
  | r :: rs, ev => (r.get ev).bind fun d => (gets rs ev).bind fun ds => some (d :: ds)
section
variable {α β : Type} {K : PySem.W.Frag} {mg : Str → Option Value} {S : Sx} {W : WX} {F F' G H H' : Hp} {P : Nat → Option Addr} {ev ev' : Ev} {σ : L2.St}
theorem Sim.drop (M : Sim K mg S F G P H ev σ) (i : Nat) : Sim K mg S F G P H (ev.set i none) σ where
  fr := M.fr
  len := by rw [List.length_set]; exact M.len
  sl := fun j d h e => by
    by_cases hj : j = i
    · subst hj; rw [List.getElem?_set] at e; split at e <;> (try split at e) <;> simp_all
    · rw [List.getElem?_set_ne (Ne.symm hj)] at e; exact M.sl j d h e
  so := fun j d h e => by
    by_cases hj : j = i
    · subst hj; rw [List.getElem?_set] at e; split at e <;> (try split at e) <;> simp_all
    · rw [List.getElem?_set_ne (Ne.symm hj)] at e; exact M.so j d h e
  sp := fun j k d e' a hj hk hn e1 e2 => by
    have f : ∀ {j d}, (ev.set i none)[j]? = some (some d) → ev[j]? = some (some d) := fun {j d} e => by
      by_cases hj : j = i
      · subst hj; rw [List.getElem?_set] at e; split at e <;> (try split at e) <;> simp_all
      · rw [List.getElem?_set_ne (Ne.symm hj)] at e; exact e
    exact M.sp j k d e' a hj hk hn (f e1) (f e2)
  pn := M.pn
theorem set_none_some {ev : Ev} {i j : Nat} {d : D} (e : (ev.set i none)[j]? = some (some d)) : j ≠ i ∧ ev[j]? = some (some d) := by
  by_cases hj : j = i
  · subst hj; rw [List.getElem?_set] at e; split at e <;> (try split at e) <;> simp_all
  · rw [List.getElem?_set_ne (Ne.symm hj)] at e; exact ⟨hj, e⟩
theorem toVal_ok {rv : RV} {v : V} {d : D} (M : Sim K mg S F G P H ev σ) (r : RRv K mg S F σ rv v) (e : toVal rv ev = .ok (d, ev')) : ∃ F', Same F F' ∧ Sim K mg S F' G P H ev' σ ∧ Rp K mg F' d v := by
  cases rv with
  | val d' => cases e; exact ⟨F, Same.refl _, M, r⟩
  | slot i =>
    have e : ((lift (ev[i]?).join).bind fun d => .ok (d, ev.set i none)) = Res.ok (d, ev') := e
    cases q : (ev[i]?).join with
    | none => rw [q] at e; cases e
    | some d' =>
      rw [q] at e
      cases e
      obtain ⟨ho, hs⟩ := r
      have q' := join_some q
      obtain ⟨a, e1, o, f0, g0⟩ := M.so i _ ho q'
      rw [hs] at e1
      have e2 : v = .ref a := by simpa using e1
      subst e2
      have fr : FreshAt S (ev.set i none) σ F G a := ⟨f0, g0, fun j d hj e z => by
        obtain ⟨hne, e⟩ := set_none_some e
        exact M.sp j i _ _ a hj ho hne e q' z hs⟩
      exact (M.drop i).freeze o fr
theorem toVal_ne_err {rv : RV} {c : Str} : toVal rv ev ≠ .err c := by
  cases rv with
  | val d => simp [toVal]
  | slot i =>
    show ((lift (ev[i]?).join).bind fun d => .ok (d, ev.set i none)) ≠ Res.err c
    cases (ev[i]?).join with
    | none => exact fun z => nomatch z
    | some d => exact fun z => nomatch z
theorem vals_ok : ∀ {rs : List RV} {vs : List V} {ds : List D} {F : Hp} {ev ev' : Ev}, Sim K mg S F G P H ev σ → RRvs K mg S F σ rs vs → vals rs ev = .ok (ds, ev') → ∃ F', Same F F' ∧ Sim K mg S F' G P H ev' σ ∧ Rps K mg F' ds vs
  | [], vs, ds, F, ev, ev', M, r, e => by
    cases e
    have : vs = [] := List.length_eq_zero_iff.mp r.1.symm
    exact ⟨F, Same.refl _, M, by simpa only [Rps] using this⟩
  | rv :: rs, [], ds, F, ev, ev', M, r, e => by have := r.1; simp at this
  | rv :: rs, v :: vs, ds, F, ev, ev', M, r, e => by
    unfold vals at e
    cases q : toVal rv ev with
    | ok p =>
      obtain ⟨d, ev1⟩ := p
      rw [q] at e
      obtain ⟨F1, s1, M1, r1⟩ := toVal_ok M (r.2 0 rv v rfl rfl) q
      have rr : RRvs K mg S F1 σ rs vs := ⟨by simpa using r.1, fun i r' v' e1 e2 => (r.2 (i + 1) r' v' (by simpa using e1) (by simpa using e2)).mono s1⟩
      simp only [Res.bind_ok] at e
      cases q2 : vals rs ev1 with
      | ok p2 =>
        obtain ⟨ds2, ev2⟩ := p2
        rw [q2] at e
        cases e
        obtain ⟨F2, s2, M2, r2⟩ := vals_ok M1 rr q2
        exact ⟨F2, s1.trans s2, M2, by simp only [Rps]; exact ⟨v, vs, rfl, Rp.mono s2 _ _ r1, r2⟩⟩
      | err c => rw [q2] at e; cases e
      | stuck => rw [q2] at e; cases e
    | err c => rw [q] at e; cases e
    | stuck => rw [q] at e; cases e
theorem vals_ne_err : ∀ {rs : List RV} {ev : Ev} {c : Str}, vals rs ev ≠ .err c
  | [], ev, c => by simp [vals]
  | rv :: rs, ev, c => by
    unfold vals
    cases q : toVal rv ev with
    | ok p =>
      simp only [Res.bind_ok]
      cases q2 : vals rs p.2 with
      | ok p2 => simp
      | err c' => exact absurd q2 vals_ne_err
      | stuck => simp
    | err c' => exact absurd q toVal_ne_err
    | stuck => simp
theorem gets_ok : ∀ {rs : List RV} {vs : List V} {ds : List D}, Sim K mg S F G P H ev σ → RRvs K mg S F σ rs vs → gets rs ev = some ds → ds.length = vs.length ∧ ∀ (i : Nat) a x, ds[i]? = some a → vs[i]? = some x → Rq K mg F H a x
  | [], vs, ds, M, r, e => by
    cases e
    exact ⟨r.1, fun i a x e1 _ => by simp at e1⟩
  | rv :: rs, [], ds, M, r, e => by have := r.1; simp at this
  | rv :: rs, v :: vs, ds, M, r, e => by
    unfold gets at e
    obtain ⟨d, e1, e⟩ := Option.bind_eq_some_iff.mp e
    obtain ⟨ds2, e2, e⟩ := Option.bind_eq_some_iff.mp e
    cases e
    have rr : RRvs K mg S F σ rs vs := ⟨by simpa using r.1, fun i r' v' e1 e2 => r.2 (i + 1) r' v' (by simpa using e1) (by simpa using e2)⟩
    obtain ⟨l, h⟩ := gets_ok M rr e2
    refine ⟨by simp [l], fun i a x h1 h2 => ?_⟩
    cases i with
    | zero => simp at h1 h2; subst h1; subst h2; exact M.acc (r.2 0 rv v rfl rfl) e1
    | succ i => exact h i a x (by simpa using h1) (by simpa using h2)
theorem tM.val {rv : RV} {v : V} {k : D × Ev → Res (β × Ev)} {post : β → Ev → Hp → Hp → Prop} (M : Sim K mg S F G P H ev σ) (r : RRv K mg S F σ rv v) (h : tM K mg S W G P σ F ((toVal rv ev).bind k) post) : ∃ d ev' F', toVal rv ev = .ok (d, ev') ∧ Same F F' ∧ Sim K mg S F' G P H ev' σ ∧ Rp K mg F' d v ∧ tM K mg S W G P σ F' (k (d, ev')) post := by
  cases q : toVal rv ev with
  | ok p =>
    rw [q] at h
    obtain ⟨F', s, M', r'⟩ := toVal_ok M r q
    exact ⟨p.1, p.2, F', rfl, s, M', r', tM.mono s h⟩
  | err c => exact absurd q toVal_ne_err
  | stuck => rw [q] at h; exact False.elim h
theorem tM.vals {rs : List RV} {vs : List V} {k : List D × Ev → Res (β × Ev)} {post : β → Ev → Hp → Hp → Prop} (M : Sim K mg S F G P H ev σ) (r : RRvs K mg S F σ rs vs) (h : tM K mg S W G P σ F ((vals rs ev).bind k) post) : ∃ ds ev' F', vals rs ev = .ok (ds, ev') ∧ Same F F' ∧ Sim K mg S F' G P H ev' σ ∧ Rps K mg F' ds vs ∧ tM K mg S W G P σ F' (k (ds, ev')) post := by
  cases q : TL.vals rs ev with
  | ok p =>
    rw [q] at h
    obtain ⟨F', s, M', r'⟩ := vals_ok M r q
    exact ⟨p.1, p.2, F', rfl, s, M', r', tM.mono s h⟩
  | err c => exact absurd q vals_ne_err
  | stuck => rw [q] at h; exact False.elim h
end

/-! ### argument lists, displays, calls of built-ins -/
def aNil : DA := fun ev => .ok ([], ev)
def aCons (m : DE) (ms : DA) : DA := fun ev => (m ev).bind fun p => (ms p.2).bind fun q => .ok (p.1 :: q.1, q.2)
def eTup (ms : DA) : DE := fun ev => (ms ev).bind fun p => (vals p.1 p.2).bind fun q => if q.1.length ≤ sizeLine then .ok (.val (.tuple q.1), q.2) else .stuck
def oLst (ms : DA) : DO := fun ev => (ms ev).bind fun p => (vals p.1 p.2).bind fun q => if q.1.length ≤ sizeLine then .ok (.list q.1, q.2) else .stuck
def vCall (g : List D → Option D) (ms : DA) : DE := fun ev => (ms ev).bind fun p => (lift (gets p.1 p.2)).bind fun ds => (lift (g ds)).bind fun d => .ok (.val d, p.2)
def oCall (g : List D → Option D) (ms : DA) : DO := fun ev => (ms ev).bind fun p => (lift (gets p.1 p.2)).bind fun ds => (lift (g ds)).bind fun d => .ok (d, p.2)
section
variable {X : Cx} {S : Sx} {W : WX} {a b c e : Expr} {es : List Expr} {ma mb mc m n : DE} {ms : DA} {pos : Pos}
theorem sa_nil : PA X [] (tA X.K X.mg S W aNil) := pa_nil.imp fun σ H Q ⟨F, G, P, ev, M, h⟩ => h F H (Same.refl _) M _ RRvs.nil
theorem sa_cons (ha : PE X e (tE X.K X.mg S W m)) (hr : PA X es (tA X.K X.mg S W ms)) (hs : starEach (e :: es) X.env = (false, eval e X.env) :: starEach es X.env := by rfl) : PA X (e :: es) (tA X.K X.mg S W (aCons m ms)) := (pa_cons ha hr hs).imp fun σ H Q ⟨F, G, P, ev, M, h⟩ => by
  refine ⟨F, G, P, ev, M, h.bind.imp fun r1 ev1 F1 H1 _ s1 M1 h1 v rv => ⟨F1, G, P, ev1, M1, h1.bind.imp fun rs ev2 F2 H2 _ s2 M2 h2 vs rvs => ?_⟩⟩
  exact h2 F2 H2 (Same.refl _) M2 _ (RRvs.cons (rv.mono s2) rvs)
theorem sd_tup {x1} (h : PA X es (tA X.K X.mg S W ms)) : PE X (.Tuple es x1 pos) (tE X.K X.mg S W (eTup ms)) := (pe_tup h).imp fun σ H Q ⟨F, G, P, ev, M, h⟩ => by
  refine ⟨F, G, P, ev, M, h.bind.imp fun rs ev1 F1 H1 _ s1 M1 h1 vs rvs => ?_⟩
  obtain ⟨ds, ev2, F2, _, s2, M2, r2, h2⟩ := tM.vals M1 rvs h1
  obtain ⟨hl, h2⟩ := h2.cond
  exact ⟨by rw [← r2.len]; exact hl, fin_tup M2.fr.fh r2 fun F' H' v g r => h2 F' H' g.f (M2.grow g) v r⟩
theorem so_lst (h : PA X es (tA X.K X.mg S W ms)) : PE X (.List es pos) (tO X.K X.mg S W (oLst ms)) := (pe_lst h).imp fun σ H Q ⟨F, G, P, ev, M, h⟩ => by
  refine ⟨F, G, P, ev, M, h.bind.imp fun rs ev1 F1 H1 _ s1 M1 h1 vs rvs => ?_⟩
  obtain ⟨ds, ev2, F2, _, s2, M2, r2, h2⟩ := tM.vals M1 rvs h1
  obtain ⟨hl, h2⟩ := h2.cond
  exact ⟨by rw [← r2.len]; exact hl, fin_own M2.fr.fh r2 fun F' H' p g hp hF o => h2 F' H' g.f (M2.grow g) p o ⟨hF, (FreshAt.of M2 hp).2⟩⟩
theorem core_call {g : List D → Option D} {σ : L2.St} {H : Hp} {Q : VK} (h : tE X.K X.mg S W (vCall g ms) σ H Q) : tCB (rVs X.K X.mg g) (tA X.K X.mg S W ms) σ H Q := by
  obtain ⟨F, G, P, ev, M, h⟩ := h
  refine ⟨F, G, P, ev, M, h.bind.imp fun rs ev1 F1 H1 _ s1 M1 h1 vs rvs => ?_⟩
  obtain ⟨ds, e1, h1⟩ := h1.lift
  obtain ⟨d, e2, h1⟩ := h1.lift
  obtain ⟨l, q⟩ := gets_ok M1 rvs e1
  exact ⟨F1, ds, d, M1.fr.fh, l, q, e2, fun F' H' v' g r => h1 F' H' g.f (M1.grow g) v' r⟩
theorem core_ocall {g : List D → Option D} {σ : L2.St} {H : Hp} {Q : VK} (h : tO X.K X.mg S W (oCall g ms) σ H Q) : tCB (rOs X.K X.mg g) (tA X.K X.mg S W ms) σ H Q := by
  obtain ⟨F, G, P, ev, M, h⟩ := h
  refine ⟨F, G, P, ev, M, h.bind.imp fun rs ev1 F1 H1 _ s1 M1 h1 vs rvs => ?_⟩
  obtain ⟨ds, e1, h1⟩ := h1.lift
  obtain ⟨d, e2, h1⟩ := h1.lift
  obtain ⟨l, q⟩ := gets_ok M1 rvs e1
  exact ⟨F1, ds, d, M1.fr.fh, l, q, e2, fun F' H' p g hp hF o => h1 F' H' g.f (M1.grow g) p o ⟨hF, (FreshAt.of M1 hp).2⟩⟩
variable {x : Str} {p : Pos} {id T : String}
theorem sd_callB {g : List D → Option D} (hc : CallR X (.builtin id) (rVs X.K X.mg g)) (hg : Gl X x) (hm : X.mg x = none) (hv : bootBuiltins x = some (.builtin id)) (ha : PA X (e :: es) (tA X.K X.mg S W ms)) (hn : x ≠ "__name__" := by decide) (hdb : (x == ("__debug__" : Str)) = false := by decide)
    (he : starEach (e :: es) X.env = (false, eval e X.env) :: starEach es X.env := by rfl) (hpl : (backTo pos (starEach es X.env)).any (·.1) = false := by rfl) : PE X (.Call (.Name x p) (e :: es) [] pos) (tE X.K X.mg S W (vCall g ms)) := (pe_callB hc hg hm hv ha hn hdb he hpl).imp fun _ _ _ h => core_call h
theorem so_callB {g : List D → Option D} (hc : CallR X (.builtin id) (rOs X.K X.mg g)) (hg : Gl X x) (hm : X.mg x = none) (hv : bootBuiltins x = some (.builtin id)) (ha : PA X (e :: es) (tA X.K X.mg S W ms)) (hn : x ≠ "__name__" := by decide) (hdb : (x == ("__debug__" : Str)) = false := by decide)
    (he : starEach (e :: es) X.env = (false, eval e X.env) :: starEach es X.env := by rfl) (hpl : (backTo pos (starEach es X.env)).any (·.1) = false := by rfl) : PE X (.Call (.Name x p) (e :: es) [] pos) (tO X.K X.mg S W (oCall g ms)) := (pe_callB hc hg hm hv ha hn hdb he hpl).imp fun _ _ _ h => core_ocall h
theorem sd_callTy {g : List D → Option D} (hc : CallR X (.type T) (rVs X.K X.mg g)) (hg : Gl X x) (hm : X.mg x = none) (hv : bootBuiltins x = some (.type T)) (ha : PA X (e :: es) (tA X.K X.mg S W ms)) (hn : x ≠ "__name__" := by decide) (hdb : (x == ("__debug__" : Str)) = false := by decide)
    (he : starEach (e :: es) X.env = (false, eval e X.env) :: starEach es X.env := by rfl) (hpl : (backTo pos (starEach es X.env)).any (·.1) = false := by rfl) : PE X (.Call (.Name x p) (e :: es) [] pos) (tE X.K X.mg S W (vCall g ms)) := (pe_callTy hc hg hm hv ha hn hdb he hpl).imp fun _ _ _ h => core_call h
theorem so_callTy {g : List D → Option D} (hc : CallR X (.type T) (rOs X.K X.mg g)) (hg : Gl X x) (hm : X.mg x = none) (hv : bootBuiltins x = some (.type T)) (ha : PA X (e :: es) (tA X.K X.mg S W ms)) (hn : x ≠ "__name__" := by decide) (hdb : (x == ("__debug__" : Str)) = false := by decide)
    (he : starEach (e :: es) X.env = (false, eval e X.env) :: starEach es X.env := by rfl) (hpl : (backTo pos (starEach es X.env)).any (·.1) = false := by rfl) : PE X (.Call (.Name x p) (e :: es) [] pos) (tO X.K X.mg S W (oCall g ms)) := (pe_callTy hc hg hm hv ha hn hdb he hpl).imp fun _ _ _ h => core_ocall h
/-- a built-in function that the module has imported (math.gcd) -/
theorem sd_callM {g : List D → Option D} (hc : CallR X (.builtin id) (rVs X.K X.mg g)) (hg : Gl X x) (hm : X.mg x = some (.builtin id)) (ha : PA X (e :: es) (tA X.K X.mg S W ms)) (hdb : (x == ("__debug__" : Str)) = false := by decide)
    (he : starEach (e :: es) X.env = (false, eval e X.env) :: starEach es X.env := by rfl) (hpl : (backTo pos (starEach es X.env)).any (·.1) = false := by rfl) : PE X (.Call (.Name x p) (e :: es) [] pos) (tE X.K X.mg S W (vCall g ms)) := (pe_callBfun hc hg hm ha hdb he hpl).imp fun _ _ _ h => core_call h
end
end TL

set_option Elab.async false
set_option linter.all false
set_option maxRecDepth 100000
namespace TL
open PySem PySem.Spec PyProof.Rows L2

section
variable {K : PySem.W.Frag} {mg : Str → Option Value} {F H : Hp}
theorem rq1 {a : D} {xs : List V} (l : [a].length = xs.length) (q : ∀ (i : Nat) b x, [a][i]? = some b → xs[i]? = some x → Rq K mg F H b x) : ∃ x, xs = [x] ∧ Rq K mg F H a x := by
  match xs, l with
  | [x], _ => exact ⟨x, rfl, q 0 a x rfl rfl⟩
theorem rq2 {a b : D} {xs : List V} (l : [a, b].length = xs.length) (q : ∀ (i : Nat) c x, [a, b][i]? = some c → xs[i]? = some x → Rq K mg F H c x) : ∃ x y, xs = [x, y] ∧ Rq K mg F H a x ∧ Rq K mg F H b y := by
  match xs, l with
  | [x, y], _ => exact ⟨x, y, rfl, q 0 a x rfl rfl, q 1 b y rfl rfl⟩
end

/-! ### len, abs, int, tuple, list, sum, gcd -/
def gLen : List D → Option D
  | [.list xs] => some (.int xs.length)
  | [.tuple xs] => some (.int xs.length)
  | [.str z] => if z.length ≤ sizeLine then some (.int z.length) else none
  | _ => none
def gAbs : List D → Option D
  | [.int i] => some (.int (if i < 0 then -i else i))
  | _ => none
def gInt : List D → Option D
  | [.int i] => some (.int i)
  | [.bool b] => some (.int (if b then 1 else 0))
  | _ => none
def gTuple : List D → Option D
  | [.list xs] => some (.tuple xs)
  | [.tuple xs] => some (.tuple xs)
  | _ => none
def gList : List D → Option D
  | [.list xs] => some (.list xs)
  | [.tuple xs] => some (.list xs)
  | [.dict [(.dict [], .list xs)]] => some (.list xs)
  | _ => none
def intsOf : List D → Option (List Int)
  | [] => some []
  | .int i :: r => (intsOf r).map (i :: ·)
  | _ :: _ => none
def boolsOf : List D → Option (List Bool)
  | [] => some []
  | .bool i :: r => (boolsOf r).map (i :: ·)
  | _ :: _ => none
theorem ints_eq : ∀ {ds : List D} {ns : List Int}, intsOf ds = some ns → ds = ns.map PyData.int
  | [], ns, h => by cases h; rfl
  | .int i :: r, ns, h => by
    obtain ⟨m, e, rfl⟩ := Option.map_eq_some_iff.mp (show (intsOf r).map (i :: ·) = some ns from h)
    rw [ints_eq e]; rfl
  | .none :: _, _, h | .bool _ :: _, _, h | .str _ :: _, _, h | .list _ :: _, _, h | .tuple _ :: _, _, h | .dict _ :: _, _, h => by cases h
theorem bools_eq : ∀ {ds : List D} {ns : List Bool}, boolsOf ds = some ns → ds = ns.map PyData.bool
  | [], ns, h => by cases h; rfl
  | .bool i :: r, ns, h => by
    obtain ⟨m, e, rfl⟩ := Option.map_eq_some_iff.mp (show (boolsOf r).map (i :: ·) = some ns from h)
    rw [bools_eq e]; rfl
  | .none :: _, _, h | .int _ :: _, _, h | .str _ :: _, _, h | .list _ :: _, _, h | .tuple _ :: _, _, h | .dict _ :: _, _, h => by cases h
@[simp] theorem ints_map (ns : List Int) : intsOf (ns.map PyData.int) = some ns := by
  induction ns with
  | nil => rfl
  | cons n ns ih => simp only [List.map_cons, intsOf, ih, Option.map_some]
@[simp] theorem bools_map (ns : List Bool) : boolsOf (ns.map PyData.bool) = some ns := by
  induction ns with
  | nil => rfl
  | cons n ns ih => simp only [List.map_cons, boolsOf, ih, Option.map_some]
theorem Rps.bools {K : PySem.W.Frag} {mg : Str → Option Value} {F : Hp} : ∀ {ns : List Bool} {vs : List V}, Rps K mg F (ns.map PyData.bool) vs → vs = ns.map V.bl
  | [], vs, h => by simpa [Rps] using h
  | n :: ns, vs, h => by
    simp only [List.map_cons, Rps, Rp] at h
    obtain ⟨v, r, rfl, rfl, q⟩ := h
    rw [Rps.bools q]; rfl
def gSum : List D → Option D
  | [.list xs] => (intsOf xs).map fun ns => .int ns.sum
  | _ => none
def gAll : List D → Option D
  | [.list xs] => (boolsOf xs).map fun bs => .bool (bs.all id)
  | _ => none
def gAny : List D → Option D
  | [.list xs] => (boolsOf xs).map fun bs => .bool (bs.any id)
  | _ => none
def gGcd : List D → Option D
  | [.int a, .int b] => some (.int ((Nat.gcd a.natAbs b.natAbs : Nat) : Int))
  | _ => none
section
variable {X : Cx}
theorem call_gLen : CallR X (.builtin "len") (rVs X.K X.mg gLen) := by
  intro pins s σ H xs us Q I r h
  obtain ⟨F, as, d, sm, l, q, e, k⟩ := h
  unfold gLen at e
  split at e
  · cases e
    obtain ⟨x, rfl, qx⟩ := rq1 l q
    obtain ⟨a, vs, rfl, h1, r1⟩ := qx.list
    exact call_len pins s σ H _ us Q I r ⟨_, vs.length, rfl, .inl ⟨vs, .inl h1, rfl⟩, k F H _ (Grow.refl _ _) (by rw [r1.len]; exact rp_int _)⟩
  · cases e
    obtain ⟨x, rfl, qx⟩ := rq1 l q
    obtain ⟨a, vs, rfl, h1, r1⟩ := qx.tuple
    exact call_len pins s σ H _ us Q I r ⟨_, vs.length, rfl, .inr ⟨vs, SqT_mono sm h1, rfl⟩, k F H _ (Grow.refl _ _) (by rw [r1.len]; exact rp_int _)⟩
  · split at e
    · cases e
      obtain ⟨x, rfl, qx⟩ := rq1 l q
      obtain rfl := qx.str
      exact call_len pins s σ H _ us Q I r ⟨_, _, rfl, ⟨by assumption, rfl⟩, k F H _ (Grow.refl _ _) (rp_int _)⟩
    · cases e
  · cases e
theorem call_gAbs : CallR X (.builtin "abs") (rVs X.K X.mg gAbs) := by
  intro pins s σ H xs us Q I r h
  obtain ⟨F, as, d, sm, l, q, e, k⟩ := h
  unfold gAbs at e
  split at e
  · cases e
    obtain ⟨x, rfl, qx⟩ := rq1 l q
    obtain rfl := qx.int
    exact call_abs pins s σ H _ us Q I r ⟨_, rfl, k F H _ (Grow.refl _ _) (rp_int _)⟩
  · cases e
theorem call_gInt : CallR X (.type "int") (rVs X.K X.mg gInt) := by
  intro pins s σ H xs us Q I r h
  obtain ⟨F, as, d, sm, l, q, e, k⟩ := h
  unfold gInt at e
  split at e
  · cases e
    obtain ⟨x, rfl, qx⟩ := rq1 l q
    obtain rfl := qx.int
    exact call_int1 pins s σ H _ us Q I r (.inl ⟨_, rfl, k F H _ (Grow.refl _ _) (rp_int _)⟩)
  · cases e
    obtain ⟨x, rfl, qx⟩ := rq1 l q
    obtain rfl := qx.bool
    exact call_int1 pins s σ H _ us Q I r (.inr ⟨_, rfl, k F H _ (Grow.refl _ _) (rp_int _)⟩)
  · cases e
theorem call_gTuple : CallR X (.type "tuple") (rVs X.K X.mg gTuple) := by
  intro pins s σ H xs us Q I r h
  obtain ⟨F, as, d, sm, l, q, e, k⟩ := h
  unfold gTuple at e
  split at e
  · cases e
    obtain ⟨x, rfl, qx⟩ := rq1 l q
    obtain ⟨a, vs, rfl, h1, r1⟩ := qx.list
    exact call_tuple_of pins s σ H _ us Q I r ⟨_, vs, rfl, .inl ⟨.inl h1, fin_tup sm r1 k⟩⟩
  · cases e
    obtain ⟨x, rfl, qx⟩ := rq1 l q
    have qx' := qx
    obtain ⟨a, vs, rfl, h1, r1⟩ := qx.tuple
    exact call_tuple_of pins s σ H _ us Q I r ⟨_, vs, rfl, .inr ⟨SqT_mono sm h1, k F H _ (Grow.refl _ _) qx'⟩⟩
  · cases e
theorem rps_ints {K : PySem.W.Frag} {mg : Str → Option Value} {F : Hp} : ∀ ns : List Int, Rps K mg F (ns.map PyData.int) (ns.map V.int)
  | [] => by simp [Rps]
  | n :: ns => by simp only [List.map_cons, Rps, Rp]; exact ⟨_, _, rfl, rfl, rps_ints ns⟩
theorem call_gList : CallR X (.type "list") (rOs X.K X.mg gList) := by
  intro pins s σ H xs us Q I r h
  obtain ⟨F, as, d, sm, l, q, e, k⟩ := h
  unfold gList at e
  split at e
  · cases e
    obtain ⟨x, rfl, qx⟩ := rq1 l q
    obtain ⟨a, vs, rfl, h1, r1⟩ := qx.list
    exact call_list_of pins s σ H _ us Q I r ⟨_, vs, rfl, .inl (.inl h1), fin_own sm r1 k⟩
  · cases e
    obtain ⟨x, rfl, qx⟩ := rq1 l q
    obtain ⟨a, vs, rfl, h1, r1⟩ := qx.tuple
    exact call_list_of pins s σ H _ us Q I r ⟨_, vs, rfl, .inr (SqT_mono sm h1), fin_own sm r1 k⟩
  · cases e
    obtain ⟨x, rfl, qx⟩ := rq1 l q
    rename_i zs
    have qx : Rp X.K X.mg F (.dict [(.dict [], .list zs)]) x := qx
    simp only [Rp] at qx
    rcases qx with ⟨_, _, z, _⟩ | ⟨_, z, _⟩ | ⟨ns, a, z, rfl, h1⟩
    · cases z
    · cases z
    · have ez : zs = ns.map PyData.int := by
        have := congrArg (fun l => l.head?.map Prod.snd) z
        simpa using this
      subst ez
      exact call_list_of pins s σ H _ us Q I r ⟨_, _, rfl, .inl (Same.seq sm h1), fin_own sm (rps_ints _) k⟩
  · cases e
theorem call_gSum (hc : X.calm = true) : CallR X (.builtin "sum") (rVs X.K X.mg gSum) := by
  intro pins s σ H xs us Q I r h
  obtain ⟨F, as, d, sm, l, q, e, k⟩ := h
  unfold gSum at e
  split at e
  · obtain ⟨ns, e1, rfl⟩ := Option.map_eq_some_iff.mp e
    obtain ⟨x, rfl, qx⟩ := rq1 l q
    obtain ⟨a, vs, rfl, h1, r1⟩ := qx.list
    rw [ints_eq e1] at r1
    rw [Rps.ints r1] at h1
    exact cr_sum hc pins s σ H _ us Q I r ⟨_, ns, rfl, .inl h1, k F H _ (Grow.refl _ _) (rp_int _)⟩
  · cases e
theorem call_gAll (hc : X.calm = true) : CallR X (.builtin "all") (rVs X.K X.mg gAll) := by
  intro pins s σ H xs us Q I r h
  obtain ⟨F, as, d, sm, l, q, e, k⟩ := h
  unfold gAll at e
  split at e
  · obtain ⟨ns, e1, rfl⟩ := Option.map_eq_some_iff.mp e
    obtain ⟨x, rfl, qx⟩ := rq1 l q
    obtain ⟨a, vs, rfl, h1, r1⟩ := qx.list
    rw [bools_eq e1] at r1
    rw [Rps.bools r1] at h1
    exact cr_all hc pins s σ H _ us Q I r ⟨_, ns, rfl, .inl h1, k F H _ (Grow.refl _ _) (rp_bool _)⟩
  · cases e
theorem call_gAny (hc : X.calm = true) : CallR X (.builtin "any") (rVs X.K X.mg gAny) := by
  intro pins s σ H xs us Q I r h
  obtain ⟨F, as, d, sm, l, q, e, k⟩ := h
  unfold gAny at e
  split at e
  · obtain ⟨ns, e1, rfl⟩ := Option.map_eq_some_iff.mp e
    obtain ⟨x, rfl, qx⟩ := rq1 l q
    obtain ⟨a, vs, rfl, h1, r1⟩ := qx.list
    rw [bools_eq e1] at r1
    rw [Rps.bools r1] at h1
    exact cr_any hc pins s σ H _ us Q I r ⟨_, ns, rfl, .inl h1, k F H _ (Grow.refl _ _) (rp_bool _)⟩
  · cases e
theorem call_gGcd : CallR X (.builtin "math.gcd") (rVs X.K X.mg gGcd) := by
  intro pins s σ H xs us Q I r h
  obtain ⟨F, as, d, sm, l, q, e, k⟩ := h
  unfold gGcd at e
  split at e
  · cases e
    obtain ⟨x, y, rfl, qx, qy⟩ := rq2 l q
    obtain rfl := qx.int
    obtain rfl := qy.int
    exact cr_gcd pins s σ H _ us Q I r ⟨_, _, rfl, k F H _ (Grow.refl _ _) (rp_int _)⟩
  · cases e

/-! ### min, max -/
def minOk (x : D) (xs : List D) : Bool := okD (.list (x :: xs)) && (x :: xs).all (fun a => (x :: xs).all fun b => PySem.W.alike a b) && (x :: xs).all fun a => !isNone a
def gMin : List D → Option D
  | [.list (x :: xs)] => if minOk x xs then some (PySem.W.minD x xs) else none
  | [.tuple (x :: xs)] => if minOk x xs then some (PySem.W.minD x xs) else none
  | [.int i, .int j] => some (.int (if j < i then j else i))
  | _ => none
def gMax : List D → Option D
  | [.list (x :: xs)] => if minOk x xs then some (PySem.W.maxD x xs) else none
  | [.tuple (x :: xs)] => if minOk x xs then some (PySem.W.maxD x xs) else none
  | [.int i, .int j] => some (.int (if j > i then j else i))
  | _ => none
theorem minOk_p {x : D} {xs : List D} (h : minOk x xs = true) : PyData.plainAll (x :: xs) = true ∧ PyData.depthAll (x :: xs) ≤ 60 ∧ PySem.W.AlikeAll (x :: xs) := by
  unfold minOk at h
  simp only [Bool.and_eq_true, List.all_eq_true, Bool.not_eq_true'] at h
  obtain ⟨⟨h1, h2⟩, h3⟩ := h
  obtain ⟨p, d⟩ := okD_p h1
  simp only [PyData.plain, PyData.depth] at p d
  exact ⟨p, by omega, h2, fun a ha => isNone_ne (h3 a ha)⟩
theorem item_rp {K : PySem.W.Frag} {mg : Str → Option Value} {F : Hp} {ds : List D} {vs : List V} {its : List Value} {i : Nat} {v : Value} (r : Rps K mg F ds vs) (rv : Vals vs its) (hi : its[i]? = some v) : ∃ d x, ds[i]? = some d ∧ vs[i]? = some x ∧ RelV x v ∧ Rp K mg F d x := by
  have hlt : i < its.length := (List.getElem?_eq_some_iff.mp hi).1
  have l1 := r.len
  have l2 := rv.length
  have hd : i < ds.length := by omega
  obtain ⟨x, hx, q⟩ := Rps.get r (List.getElem?_eq_getElem hd)
  obtain ⟨u, hu, ru⟩ := rv.get hx
  rw [hi] at hu
  cases hu
  exact ⟨_, x, List.getElem?_eq_getElem hd, hx, ru, q⟩
theorem plain_at : ∀ {ds : List D} {i : Nat} {d : D}, PyData.plainAll ds = true → ds[i]? = some d → d.plain = true
  | [], _, _, _, e => by simp at e
  | a :: ds, 0, d, h, e => by
    simp only [PyData.plainAll, Bool.and_eq_true] at h
    simp at e; subst e; exact h.1
  | a :: ds, i + 1, d, h, e => by
    simp only [PyData.plainAll, Bool.and_eq_true] at h
    exact plain_at (i := i) h.2 (by simpa using e)
theorem call_gMin (hc : X.calm = true) (hu : X.A.units + 64 < cLine) : CallR X (.builtin "min") (rVs X.K X.mg gMin) := by
  intro pins s σ H xs us Q I r h
  obtain ⟨F, as, d, sm, l, q, e, k⟩ := h
  unfold gMin at e
  split at e
  · split at e
    · rename_i hm
      cases e
      obtain ⟨p, dd, al⟩ := minOk_p hm
      obtain ⟨x', rfl, qx⟩ := rq1 l q
      obtain ⟨a, vs, rfl, h1, r1⟩ := qx.list
      obtain ⟨z, its, n, rv, _, ho⟩ := Inv.lstR I h1
      obtain ⟨bs, hr⟩ := Rps.reads I _ vs its p (Rps.mono sm _ _ r1) rv
      rw [Vals.ref1 r]
      refine PySem.W.min_list_data (vs := its.toArray) (I.ok.hd hc) ⟨_, ho, rfl, _, rfl⟩ (by simpa using hr) al (by omega) fun i v h' tk bs hv hm' hk => ?_
      obtain ⟨d, x, e1, e2, e3, e4⟩ := item_rp r1 rv (show its[i]? = some v by simpa using hv)
      have pd := plain_at p e1
      obtain ⟨cs, hd⟩ := Rp.reads I d x v pd (Rp.mono sm _ _ e4) e3
      have := PySem.SeqAt.plain_unique d _ v cs bs pd (PySem.W.reads_keeps hk hd) hm'
      rw [← this] at k
      exact ⟨x, H, I.kept hk, e3, k F H _ (Grow.refl _ _) e4⟩
    · cases e
  · split at e
    · rename_i hm
      cases e
      obtain ⟨p, dd, al⟩ := minOk_p hm
      obtain ⟨x', rfl, qx⟩ := rq1 l q
      obtain ⟨a, vs, rfl, h1, r1⟩ := qx.tuple
      obtain ⟨its, rv, ⟨ob, ho, hcl, n, hd⟩, _⟩ := I.tuple (SqT_mono sm h1)
      obtain ⟨bs, hr⟩ := Rps.reads I _ vs its p (Rps.mono sm _ _ r1) rv
      rw [Vals.ref1 r]
      refine PySem.W.min_tuple_data (vs := its.toArray) (I.ok.hd hc) ⟨_, ho, hcl, n, hd⟩ (by simpa using hr) al (by omega) fun i v h' tk bs hv hm' hk => ?_
      obtain ⟨d, x, e1, e2, e3, e4⟩ := item_rp r1 rv (show its[i]? = some v by simpa using hv)
      have pd := plain_at p e1
      obtain ⟨cs, hd⟩ := Rp.reads I d x v pd (Rp.mono sm _ _ e4) e3
      have := PySem.SeqAt.plain_unique d _ v cs bs pd (PySem.W.reads_keeps hk hd) hm'
      rw [← this] at k
      exact ⟨x, H, I.kept hk, e3, k F H _ (Grow.refl _ _) e4⟩
    · cases e
  · cases e
    obtain ⟨x, y, rfl, qx, qy⟩ := rq2 l q
    obtain rfl := qx.int
    obtain rfl := qy.int
    exact call_min2 hc pins s σ H _ us Q I r ⟨_, _, rfl, k F H _ (Grow.refl _ _) (rp_int _)⟩
  · cases e
theorem call_gMax (hc : X.calm = true) (hu : X.A.units + 64 < cLine) : CallR X (.builtin "max") (rVs X.K X.mg gMax) := by
  intro pins s σ H xs us Q I r h
  obtain ⟨F, as, d, sm, l, q, e, k⟩ := h
  unfold gMax at e
  split at e
  · split at e
    · rename_i hm
      cases e
      obtain ⟨p, dd, al⟩ := minOk_p hm
      obtain ⟨x', rfl, qx⟩ := rq1 l q
      obtain ⟨a, vs, rfl, h1, r1⟩ := qx.list
      obtain ⟨z, its, n, rv, _, ho⟩ := Inv.lstR I h1
      obtain ⟨bs, hr⟩ := Rps.reads I _ vs its p (Rps.mono sm _ _ r1) rv
      rw [Vals.ref1 r]
      refine PySem.W.max_list_data (vs := its.toArray) (I.ok.hd hc) ⟨_, ho, rfl, _, rfl⟩ (by simpa using hr) al (by omega) fun i v h' tk bs hv hm' hk => ?_
      obtain ⟨d, x, e1, e2, e3, e4⟩ := item_rp r1 rv (show its[i]? = some v by simpa using hv)
      have pd := plain_at p e1
      obtain ⟨cs, hd⟩ := Rp.reads I d x v pd (Rp.mono sm _ _ e4) e3
      have := PySem.SeqAt.plain_unique d _ v cs bs pd (PySem.W.reads_keeps hk hd) hm'
      rw [← this] at k
      exact ⟨x, H, I.kept hk, e3, k F H _ (Grow.refl _ _) e4⟩
    · cases e
  · split at e
    · rename_i hm
      cases e
      obtain ⟨p, dd, al⟩ := minOk_p hm
      obtain ⟨x', rfl, qx⟩ := rq1 l q
      obtain ⟨a, vs, rfl, h1, r1⟩ := qx.tuple
      obtain ⟨its, rv, ⟨ob, ho, hcl, n, hd⟩, _⟩ := I.tuple (SqT_mono sm h1)
      obtain ⟨bs, hr⟩ := Rps.reads I _ vs its p (Rps.mono sm _ _ r1) rv
      rw [Vals.ref1 r]
      refine PySem.W.max_tuple_data (vs := its.toArray) (I.ok.hd hc) ⟨_, ho, hcl, n, hd⟩ (by simpa using hr) al (by omega) fun i v h' tk bs hv hm' hk => ?_
      obtain ⟨d, x, e1, e2, e3, e4⟩ := item_rp r1 rv (show its[i]? = some v by simpa using hv)
      have pd := plain_at p e1
      obtain ⟨cs, hd⟩ := Rp.reads I d x v pd (Rp.mono sm _ _ e4) e3
      have := PySem.SeqAt.plain_unique d _ v cs bs pd (PySem.W.reads_keeps hk hd) hm'
      rw [← this] at k
      exact ⟨x, H, I.kept hk, e3, k F H _ (Grow.refl _ _) e4⟩
    · cases e
  · cases e
    obtain ⟨x, y, rfl, qx, qy⟩ := rq2 l q
    obtain rfl := qx.int
    obtain rfl := qy.int
    exact call_max2 hc pins s σ H _ us Q I r ⟨_, _, rfl, k F H _ (Grow.refl _ _) (rp_int _)⟩
  · cases e

/-! ### sorted -/
def sortOk (ds : List D) : Bool := okD (.list ds) && ds.all (fun a => ds.all fun b => PySem.W.alike a b) && (ds.all (fun a => match a with | .tuple (_ :: _) => true | _ => false) || ds.all fun a => match a with | .none => false | .tuple _ => false | _ => true)
def sortD (ds : List D) : List D := ds.mergeSort (PySem.W.dataLe false fun b => b)
def gSorted : List D → Option D
  | [.list ds] => if sortOk ds then some (.list (sortD ds)) else none
  | _ => none
theorem sortOk_p {ds : List D} (h : sortOk ds = true) : PyData.plainAll ds = true ∧ PyData.depthAll ds ≤ 60 ∧ PySem.W.AllAlike ds ∧ PySem.W.Sortable ds := by
  unfold sortOk at h
  simp only [Bool.and_eq_true, Bool.or_eq_true, List.all_eq_true] at h
  obtain ⟨⟨h1, h2⟩, h3⟩ := h
  obtain ⟨p, d⟩ := okD_p h1
  simp only [PyData.plain, PyData.depth] at p d
  refine ⟨p, by omega, fun a ha b hb => h2 a ha b hb, ?_⟩
  rcases h3 with h3 | h3
  · refine .inl fun a ha => ?_
    have := h3 a ha
    split at this
    · exact ⟨_, _, rfl⟩
    · cases this
  · refine .inr fun a ha => ?_
    have := h3 a ha
    split at this
    · cases this
    · cases this
    · rename_i n1 n2
      exact ⟨fun z => n1 z, fun xs z => n2 xs z⟩
theorem depth_mem : ∀ {ds : List D} {d : D}, d ∈ ds → d.depth ≤ PyData.depthAll ds
  | a :: ds, d, h => by
    simp only [PyData.depthAll]
    rcases List.mem_cons.mp h with rfl | h
    · omega
    · have := depth_mem h; omega
theorem each_of {K : PySem.W.Frag} {mg : Str → Option Value} {F : Hp} : ∀ {ds : List D} {vs : List V} {its : List Value}, Rps K mg F ds vs → Vals vs its → PySem.W.EachIs (fun u d => ∃ x, RelV x u ∧ Rp K mg F d x) its ds
  | [], vs, its, r, rv => by simp only [Rps] at r; subst r; cases rv; exact .nil
  | d :: ds, vs, its, r, rv => by
    simp only [Rps] at r
    obtain ⟨v, vr, rfl, q1, q2⟩ := r
    cases rv with
    | cons r1 r2 => exact .cons ⟨v, r1, q1⟩ (each_of q2 r2)
theorem of_each {K : PySem.W.Frag} {mg : Str → Option Value} {F : Hp} : ∀ {ds : List D} {its : List Value}, PySem.W.EachIs (fun u d => ∃ x, RelV x u ∧ Rp K mg F d x) its ds → ∃ vs, Rps K mg F ds vs ∧ Vals vs its
  | _, _, .nil => ⟨[], by simp only [Rps], .nil⟩
  | _, _, .cons h t => by
    obtain ⟨x, r, q⟩ := h
    obtain ⟨vs, r2, q2⟩ := of_each t
    exact ⟨x :: vs, by simp only [Rps]; exact ⟨x, vs, rfl, q, r2⟩, .cons r q2⟩
theorem call_gSorted (hu : X.A.units + 64 < cLine) : CallR X (.builtin "sorted") (rOs X.K X.mg gSorted) := by
  intro pins s σ H xs us Q I r h
  obtain ⟨F, as, d, sm, l, q, e, k⟩ := h
  unfold gSorted at e
  split at e
  · rename_i ds
    split at e
    · rename_i hm
      cases e
      obtain ⟨p, dd, al, so⟩ := sortOk_p hm
      obtain ⟨x', rfl, qx⟩ := rq1 l q
      obtain ⟨a, vs, rfl, h1, r1⟩ := qx.list
      obtain ⟨z, its, n, rv, hlen, ho⟩ := Inv.lstR I h1
      obtain ⟨bs, hr⟩ := Rps.reads I _ vs its p (Rps.mono sm _ _ r1) rv
      rw [Vals.ref1 r]
      have l1 := r1.len
      refine PySem.W.sorted_data (vs := its) (bs := ds) (enc := fun b => b) (R := fun u d => ∃ x, RelV x u ∧ Rp X.K X.mg F d x) ⟨_, ho, rfl, _, rfl⟩ (each_of r1 rv) (PySem.W.readsAll_each (fun b => b) (by rw [List.map_id']; exact hr)) (by rw [List.map_id']; exact al) (by rw [List.map_id']; exact so) (by omega) (fun b hb => by have := depth_mem hb; show X.A.units + 2 + b.depth < cLine; omega) fun out hl he => ?_
      obtain ⟨ws, rw', vw⟩ := of_each he
      obtain ⟨ep, hat⟩ := PyProof.Rows.sortedAll_at s.heap its out.toArray
      have hw : ws.length ≤ sizeLine := by rw [vw.length, hl]; omega
      exact ⟨.ref _, upd H (s.heap.objs.size + 1) (.lst ws), I.laid (t' := s.toks) (fun _ _ => PyProof.Rows.sortedAll_old) (Nat.le_succ _) ⟨hw, out, ep, vw, hat⟩, rfl, fin_own sm rw' k _ (I.hok.fresh (Nat.le_succ _))⟩
    · cases e
  · cases e

/-! ### isinstance -/
def isaD (T : String) (d : D) : Option Bool :=
  if d.plain then (if T = "int" then some (PySem.PyData.isInt d) else if T = "bool" then some (PySem.PyData.isBool d) else if T = "str" then some (PySem.PyData.isStr d) else if T = "tuple" then some (PySem.PyData.isTuple d) else if T = "list" then some (PySem.PyData.isList d) else if T = "dict" then some (PySem.PyData.isDict d) else none) else none
end
end TL

set_option Elab.async false
set_option linter.all false
set_option maxRecDepth 100000
namespace TL
open PySem PySem.Spec PyProof.Rows L2

/-! ### isinstance -/
section
variable {X : Cx} {S : Sx} {W : WX} {a b c e : Expr} {es : List Expr} {ma mb mc m n : DE} {ms : DA} {pos : Pos}
def rIsa (K : PySem.W.Frag) (mg : Str → Option Value) (T : String) : List V → Hp → VK → Prop := fun xs H Q => ∃ F d x b, xs = [x, .ty T] ∧ Same F H ∧ Rq K mg F H d x ∧ isaD T d = some b ∧ Q (.bl b) H
theorem call_isa {T : String} : CallR X (.builtin "isinstance") (rIsa X.K X.mg T) := by
  intro pins s σ H xs us Q I r h
  obtain ⟨F, d, x, b, rfl, sm, q, e, k⟩ := h
  unfold isaD at e
  split at e
  · rename_i p
    cases r with
    | cons rx r =>
      cases r with
      | cons ry r =>
        cases r
        obtain ⟨as, hr⟩ := rq_reads I sm q rx p
        cases (show _ = Value.type T from ry)
        have fin : ∀ tk, EP X pins σ Q (.bool b) { s with toks := tk } := fun tk => ⟨.bl b, H, I.tok _, rfl, k⟩
        split at e
        · subst T; cases e; exact PySem.W.isinstance_int_data hr fun tk _ => fin tk
        · split at e
          · subst T; cases e; exact PySem.W.isinstance_bool_data hr fun tk _ => fin tk
          · split at e
            · subst T; cases e; exact PySem.W.isinstance_str_data hr fun tk _ => fin tk
            · split at e
              · subst T; cases e; exact PySem.W.isinstance_tuple_data hr fun tk _ => fin tk
              · split at e
                · subst T; cases e; exact PySem.W.isinstance_list_data hr fun tk _ => fin tk
                · split at e
                  · subst T; cases e; exact PySem.W.isinstance_dict_data hr fun tk _ => fin tk
                  · cases e
  · cases e
def gIsa (T : String) (d : D) : Option D := (isaD T d).map PyData.bool
theorem sd_isa {p q : Pos} {x : Str} (T : String) (hg : Gl X "isinstance") (hm : X.mg "isinstance" = none) (hg2 : Gl X x) (hm2 : X.mg x = none) (hv : bootBuiltins x = some (.type T)) (ha : PE X e (tE X.K X.mg S W m)) (hn : x ≠ "__name__" := by decide) (hdb : (x == ("__debug__" : Str)) = false := by decide)
    (he : starEach (e :: [.Name x q]) X.env = (false, eval e X.env) :: starEach [.Name x q] X.env := by rfl) : PE X (.Call (.Name "isinstance" p) [e, .Name x q] [] pos) (tE X.K X.mg S W (vUn (gIsa T) m)) := by
  refine (pe_callB (call_isa (T := T)) hg hm boot_isinstance (pa_cons ha (pa_cons (pe_bltn (v := .ty T) hg2 hm2 hv rfl hn hdb) pa_nil) he) (by decide) (by decide) he (by rfl)).imp fun σ H Q ⟨F, G, P, ev, M, h⟩ => ?_
  refine ⟨F, G, P, ev, M, h.bind.imp fun r1 ev1 F1 H1 _ s1 M1 h1 v rv => ?_⟩
  obtain ⟨d, e1, h1⟩ := h1.lift
  obtain ⟨b, e2, h1⟩ := h1.lift
  obtain ⟨b', e3, rfl⟩ := Option.map_eq_some_iff.mp e2
  exact ⟨F1, d, v, b', rfl, M1.fr.fh, M1.acc rv e1, e3, h1 F1 H1 (Same.refl _) M1 _ (rp_bool (K := X.K) (mg := X.mg) (F := F1) _)⟩

/-! ### items -/
def gIx : D → D → Option D
  | .list xs, .int i => atI xs i
  | .tuple xs, .int i => atI xs i
  | .str z, .int i => if z.length ≤ sizeLine then (atI z.cps.toList i).map fun c => .str ⟨#[c]⟩ else none
  | _, _ => none
theorem atI_rps {K : PySem.W.Frag} {mg : Str → Option Value} {F : Hp} {ds : List D} {vs : List V} {i : Int} {d : D} (r : Rps K mg F ds vs) (h : atI ds i = some d) : ∃ v, atI vs i = some v ∧ Rp K mg F d v := by
  unfold atI at h ⊢
  obtain ⟨j, e1, e2⟩ := Option.bind_eq_some_iff.mp h
  obtain ⟨v, e3, q⟩ := Rps.get r e2
  exact ⟨v, by rw [← r.len, e1]; exact e3, q⟩
theorem ix_g : IxR X (rV X.K X.mg gIx) := by
  intro value slice pins s σ H x y v u Q I rx ry h
  obtain ⟨F, a, b, d, sm, ra, rb, e, k⟩ := h
  unfold gIx at e
  split at e
  · obtain ⟨p, vs, rfl, h1, r1⟩ := ra.list
    obtain rfl := rb.int
    obtain ⟨w, e2, q⟩ := atI_rps r1 e
    exact ix_list value slice pins s σ H _ _ v u Q I rx ry ⟨p, vs, _, w, rfl, rfl, .inl h1, e2, k F H _ (Grow.refl _ _) q⟩
  · obtain ⟨p, vs, rfl, h1, r1⟩ := ra.tuple
    obtain rfl := rb.int
    obtain ⟨w, e2, q⟩ := atI_rps r1 e
    exact ix_tup value slice pins s σ H _ _ v u Q I rx ry ⟨p, vs, _, w, rfl, rfl, SqT_mono sm h1, e2, k F H _ (Grow.refl _ _) q⟩
  · split at e
    · obtain ⟨c, e1, rfl⟩ := Option.map_eq_some_iff.mp e
      obtain rfl := ra.str
      obtain rfl := rb.int
      exact ix_str value slice pins s σ H _ _ v u Q I rx ry ⟨_, _, c, rfl, rfl, by assumption, e1, k F H _ (Grow.refl _ _) (rp_str _)⟩
    · cases e
  · cases e
theorem sd_ix (ha : PE X a (tE X.K X.mg S W ma)) (hb : PE X b (tE X.K X.mg S W mb)) (hs : PlainIx b := by exact fun _ _ => rfl) : PE X (.Subscript a b pos) (tE X.K X.mg S W (vBin gIx ma mb)) := (pe_ix ix_g ha hb hs).imp fun _ _ _ h => core_bin h

/-! ### slices -/
abbrev DP := Ev → Res (Option Int × Ev)
def pNone : DP := fun ev => .ok (none, ev)
def toInt : D → Option Int
  | .int i => some i
  | _ => none
def pSome (m : DE) : DP := fun ev => (m ev).bind fun p => (lift ((p.1.get p.2).bind toInt)).bind fun i => .ok (some i, p.2)
def tP (K : PySem.W.Frag) (mg : Str → Option Value) (S : Sx) (W : WX) (m : DP) : TO := fun σ H Q => ∃ F G P ev, Sim K mg S F G P H ev σ ∧ tM K mg S W G P σ F (m ev) fun o _ _ H' => Q o H'
theorem PO_imp {X : Cx} {e : Option Expr} {t t' : TO} (h : PO X e t) (w : ∀ σ H Q, t' σ H Q → t σ H Q) : PO X e t' := ⟨fun pins s σ H Q I q => h.run pins s σ H Q I (w _ _ _ q)⟩
theorem sp_none : PO X none (tP X.K X.mg S W pNone) := PO_imp po_none fun σ H Q ⟨F, G, P, ev, M, h⟩ => h F H (Same.refl _) M
theorem sp_some (he : PE X e (tE X.K X.mg S W m)) : PO X (some e) (tP X.K X.mg S W (pSome m)) := PO_imp (po_some he) fun σ H Q ⟨F, G, P, ev, M, h⟩ => by
  refine ⟨F, G, P, ev, M, h.bind.imp fun r1 ev1 F1 H1 _ s1 M1 h1 v rv => ?_⟩
  obtain ⟨i, e1, h1⟩ := h1.lift
  obtain ⟨d, e2, e3⟩ := Option.bind_eq_some_iff.mp e1
  cases d with
  | int j => cases e3; exact ⟨_, (M1.acc rv e2).int, h1 F1 H1 (Same.refl _) M1⟩
  | _ => cases e3
def cutL {α : Type} (xs : List α) (lo hi : Option Int) : List α := (xs.drop (HT.sIx xs.length 0 lo)).take (HT.sIx xs.length xs.length hi - HT.sIx xs.length 0 lo)
def gSl (lo hi : Option Int) : D → Option D
  | .tuple xs => some (.tuple (cutL xs lo hi))
  | .str z => if z.length ≤ sizeLine then some (.str (cutS z lo hi)) else none
  | .list xs => some (.list (cutL xs lo hi))
  | _ => none
def gSlL (lo hi : Option Int) : D → Option D
  | .list xs => some (.list (cutL xs lo hi))
  | _ => none
def vSl (m : DE) (l u : DP) : DE := fun ev => (m ev).bind fun p => (l p.2).bind fun q => (u q.2).bind fun r => (lift (p.1.get r.2)).bind fun a => (lift (gSl q.1 r.1 a)).bind fun d => .ok (.val d, r.2)
def oSl (m : DE) (l u : DP) : DO := fun ev => (m ev).bind fun p => (l p.2).bind fun q => (u q.2).bind fun r => (lift (p.1.get r.2)).bind fun a => (lift (gSlL q.1 r.1 a)).bind fun d => .ok (d, r.2)
theorem cut_rps {K : PySem.W.Frag} {mg : Str → Option Value} {F : Hp} {ds : List D} {vs : List V} (r : Rps K mg F ds vs) (lo hi : Option Int) : Rps K mg F (cutL ds lo hi) (cutV vs lo hi) := by
  unfold cutL cutV
  rw [r.len]
  exact (r.drop _).take _
def rSl (K : PySem.W.Frag) (mg : Str → Option Value) : V → Option Int → Option Int → Hp → VK → Prop := fun x lo hi H Q => ∃ F a d, Same F H ∧ Rq K mg F H a x ∧ gSl lo hi a = some d ∧ ∀ F' H' v, Grow F H F' H' → Rp K mg F' d v → Q v H'
def rSlO (K : PySem.W.Frag) (mg : Str → Option Value) : V → Option Int → Option Int → Hp → VK → Prop := fun x lo hi H Q => ∃ F a d, Same F H ∧ Rq K mg F H a x ∧ gSlL lo hi a = some d ∧ ∀ F' H' p, Grow F H F' H' → H p = none → F' p = none → OwnD K mg F' H' d p → Q (.ref p) H'
theorem sl_g : SlR X (rSl X.K X.mg) := by
  intro pins s σ H x v vl vu lo hi sl Q I rx hs pl pu h
  obtain ⟨F, a, d, sm, ra, e, k⟩ := h
  unfold gSl at e
  split at e
  · cases e
    obtain ⟨p, vs, rfl, h1, r1⟩ := ra.tuple
    refine sl_tupA pins s σ H _ v vl vu lo hi sl Q I rx hs pl pu ⟨p, vs, rfl, SqT_mono sm h1, fun w => ?_, fun _ => fin_tup sm (cut_rps r1 lo hi) k⟩
    refine k F H _ (Grow.refl _ _) ?_
    have hc := cut_rps r1 lo hi
    have e2 : cutV vs lo hi = vs := by
      unfold cutV
      rw [w.1, w.2]
      simp
    rw [e2] at hc
    simp only [Rp]
    exact ⟨p, vs, rfl, h1, hc⟩
  · split at e
    · cases e
      obtain rfl := ra.str
      exact sl_str pins s σ H _ v vl vu lo hi sl Q I rx hs pl pu ⟨_, rfl, by assumption, k F H _ (Grow.refl _ _) (rp_str _)⟩
    · cases e
  · cases e
    obtain ⟨p, vs, rfl, h1, r1⟩ := ra.list
    exact sl_list pins s σ H _ v vl vu lo hi sl Q I rx hs pl pu ⟨p, vs, rfl, .inl h1, fin_lst sm (cut_rps r1 lo hi) k⟩
  · cases e
theorem sl_gO : SlR X (rSlO X.K X.mg) := by
  intro pins s σ H x v vl vu lo hi sl Q I rx hs pl pu h
  obtain ⟨F, a, d, sm, ra, e, k⟩ := h
  unfold gSlL at e
  split at e
  · cases e
    obtain ⟨p, vs, rfl, h1, r1⟩ := ra.list
    exact sl_list pins s σ H _ v vl vu lo hi sl Q I rx hs pl pu ⟨p, vs, rfl, .inl h1, fin_own sm (cut_rps r1 lo hi) k⟩
  · cases e
variable {lo hi : Option Expr} {ml mh : DP} {p2 : Pos}
theorem sd_sl (he : PE X e (tE X.K X.mg S W m)) (hl : PO X lo (tP X.K X.mg S W ml)) (hu : PO X hi (tP X.K X.mg S W mh)) : PE X (.Subscript e (.Slice lo hi none p2) pos) (tE X.K X.mg S W (vSl m ml mh)) := (pe_slice sl_g he hl hu).imp fun σ H Q ⟨F, G, P, ev, M, h⟩ => by
  refine ⟨F, G, P, ev, M, h.bind.imp fun r1 ev1 F1 H1 _ s1 M1 h1 v rv => ⟨F1, G, P, ev1, M1, h1.bind.imp fun l ev2 F2 H2 _ s2 M2 h2 => ⟨F2, G, P, ev2, M2, h2.bind.imp fun u ev3 F3 H3 _ s3 M3 h3 => ?_⟩⟩⟩
  obtain ⟨x, e1, h3⟩ := h3.lift
  obtain ⟨d, e2, h3⟩ := h3.lift
  exact ⟨F3, x, d, M3.fr.fh, M3.acc (rv.mono (s2.trans s3)) e1, e2, fun F' H' v' g r => h3 F' H' g.f (M3.grow g) v' r⟩
theorem so_sl (he : PE X e (tE X.K X.mg S W m)) (hl : PO X lo (tP X.K X.mg S W ml)) (hu : PO X hi (tP X.K X.mg S W mh)) : PE X (.Subscript e (.Slice lo hi none p2) pos) (tO X.K X.mg S W (oSl m ml mh)) := (pe_slice sl_gO he hl hu).imp fun σ H Q ⟨F, G, P, ev, M, h⟩ => by
  refine ⟨F, G, P, ev, M, h.bind.imp fun r1 ev1 F1 H1 _ s1 M1 h1 v rv => ⟨F1, G, P, ev1, M1, h1.bind.imp fun l ev2 F2 H2 _ s2 M2 h2 => ⟨F2, G, P, ev2, M2, h2.bind.imp fun u ev3 F3 H3 _ s3 M3 h3 => ?_⟩⟩⟩
  obtain ⟨x, e1, h3⟩ := h3.lift
  obtain ⟨d, e2, h3⟩ := h3.lift
  exact ⟨F3, x, d, M3.fr.fh, M3.acc (rv.mono (s2.trans s3)) e1, e2, fun F' H' p g hp hF o => h3 F' H' g.f (M3.grow g) p o ⟨hF, (FreshAt.of M3 hp).2⟩⟩

/-! ### [::-1] -/
theorem places_rev (n : Nat) : Builtin.Slice.slicePlaces ((n : Int) - 1) (-1) (-1) = n := by
  unfold Builtin.Slice.slicePlaces
  have h1 : ¬ ((-1 : Int) > 0) := by omega
  simp only [h1, if_false, Int.neg_neg, Int.ediv_one]
  split <;> omega
theorem sliceApplied_rev {prog : Program} {w : World} {A : Around} {E : Value → Shared → Prop} {s : Shared} {sl : Addr} {t : Tok} {n : Nat} {Q : Int × Int × Nat → Shared → Prop} (hs : s.heap.IsSliceOf sl .none .none (.int (-1) t)) (h : Q ((n : Int) - 1, -1, n) s) : wpAny (model prog w) A (Builtin.Slice.sliceApplied (.ref sl) (pure (n : Int))) Q E s := by
  obtain ⟨os, hos, hcs, hds⟩ := id hs
  unfold Builtin.Slice.sliceApplied Builtin.Slice.sliceFields
  refine wpAny_bind (wpAny_bind (wpAny_field hos hds (x := .none) rfl (wpAny_bind (wpAny_field hos hds (x := .none) rfl (wpAny_bind (wpAny_field hos hds (x := .int (-1) t) rfl (wpAny_pure ?_)))))))
  refine wpAny_bind (slicePart_int ?_)
  show wpAny _ _ (if ((-1 : Int) == 0) = true then _ else _) _ _ s
  rw [if_neg (by decide)]
  refine wpAny_bind (slicePart_none (wpAny_bind (slicePart_none (wpAny_bind (wpAny_pure ?_)))))
  have e : Builtin.Slice.sliceAdjust none none (-1) (n : Int) = ((n : Int) - 1, -1) := by
    unfold Builtin.Slice.sliceAdjust
    have h1 : ((-1 : Int) < 0) := by omega
    simp only [h1, if_true]
  show wpAny _ _ (match Builtin.Slice.sliceAdjust none none (-1) (n : Int) with | (lo, hi) => pure (lo, (-1 : Int), Builtin.Slice.slicePlaces lo hi (-1))) _ _ s
  rw [e]
  show wpAny _ _ (pure ((n : Int) - 1, (-1 : Int), Builtin.Slice.slicePlaces ((n : Int) - 1) (-1) (-1))) _ _ s
  rw [places_rev]
  exact wpAny_pure h
theorem pick_rev (xs : List Value) : ((List.range xs.length).filterMap fun (m : Nat) => xs.toArray[(((xs.length : Nat) : Int) - 1 + (m : Int) * -1).toNat]?) = xs.reverse := by
  have hh : ∀ (m : Nat), m < xs.length → xs.toArray[(((xs.length : Nat) : Int) - 1 + (m : Int) * -1).toNat]? = xs.reverse[m]? := fun m hm => by
    have : (((xs.length : Nat) : Int) - 1 + (m : Int) * -1).toNat = xs.length - 1 - m := by omega
    rw [this, List.getElem?_toArray, List.getElem?_reverse hm]
  have e1 : ((List.range xs.length).filterMap fun (m : Nat) => xs.toArray[(((xs.length : Nat) : Int) - 1 + (m : Int) * -1).toNat]?) = (List.range xs.reverse.length).filterMap fun m => xs.reverse[m]? := by
    rw [List.length_reverse]
    have gen : ∀ (l : List Nat), (∀ m ∈ l, m < xs.length) → (l.filterMap fun (m : Nat) => xs.toArray[(((xs.length : Nat) : Int) - 1 + (m : Int) * -1).toNat]?) = l.filterMap fun m => xs.reverse[m]? := by
      intro l
      induction l with
      | nil => intro _; rfl
      | cons a l ih =>
        intro hl
        rw [List.filterMap_cons, List.filterMap_cons, hh a (hl a List.mem_cons_self), ih fun m hm => hl m (List.mem_cons_of_mem _ hm)]
    exact gen _ fun m hm => List.mem_range.mp hm
  rw [e1]
  generalize xs.reverse = ys
  clear e1 hh
  have key : ∀ (ys : List Value), (List.range ys.length).filterMap (fun m => ys[m]?) = ys := by
    intro ys
    induction ys with
    | nil => rfl
    | cons y ys ih =>
      rw [List.length_cons, List.range_succ_eq_map, List.filterMap_cons]
      simp only [List.getElem?_cons_zero, List.filterMap_map]
      congr 1
  exact key ys
theorem getItem_tuple_rev {prog : Program} {w : World} {A : Around} {E : Value → Shared → Prop} {s : Shared} {t sl : Addr} {items : List Value} {tk : Tok} {Q : Value → Shared → Prop} (ht : IsTup s.heap t items.toArray) (hs : s.heap.IsSliceOf sl .none .none (.int (-1) tk))
    (h : Q (.ref s.heap.objs.size) { s with heap := s.heap.push { cls := .type "tuple", data := .seq items.reverse.toArray } })
    (hsz : items.length ≤ sizeLine) : wpAny (model prog w) A (getItem (.ref t) (.ref sl)) Q E s := by
  have htake : sizeOk (.seq items.reverse.toArray) := by
    show items.reverse.toArray.size ≤ sizeLine
    rw [List.size_toArray, List.length_reverse]
    exact hsz
  obtain ⟨os, hos, hcs, hds⟩ := id hs
  have hTs : s.TypeIs (.ref sl) "slice" := ⟨os, hos, hcs⟩
  unfold getItem
  try with_reducible refine wpAny_holding ?_
  first | refine wpAny_bind (wpAny_pure ?_) | skip
  refine wpAny_bind (wpAny_sequenceKey ht.typeIs (by decide) ?_)
  refine wpAny_bind (wpAny_callSpecial?_slot (name := Str.ofString "__getitem__") ht.typeIs PyProof.Rows.slot_tuple_getitem
    (wpAny_call_entry PyProof.Rows.slot_tuple_getitem ht.typeIs entry_tuple_getitem ?_ (args_tuple_getitem _ _)))
  show wpAny _ _ (Builtin.Tuple.tupleItemsOf (.ref t) >>= _) _ _ s
  refine wpAny_bind (tupleItemsOf_ ht ?_)
  refine wpAny_bind (wpAny_typeOf hTs ?_)
  rw [if_pos (by decide)]
  have hn : ((items.toArray.size : Nat) : Int) = ((items.length : Nat) : Int) := by simp
  rw [hn]
  refine wpAny_bind (sliceApplied_rev hs ?_)
  show wpAny _ _ (if ((((items.length : Nat) : Int) - 1) == 0 && (-1 : Int) == 1 && items.length == items.toArray.size) = true then _ else _) _ _ s
  rw [if_neg (by simp)]
  rw [pick_rev]
  first
    | exact wpAny_bind (m := Builtin.Tuple.tupleExact _) (wpAny_newObj_type (wpAny_pure ⟨_, rfl, wpAny_pure h⟩) htake)
    | exact wpAny_bind (m := Builtin.Tuple.tupleExact _) (wpAny_newObj_type (wpAny_bind (wpAny_pure (wpAny_pure ⟨_, rfl, wpAny_pure h⟩))) htake)
    | exact wpAny_bind (wpAny_bind (m := Builtin.Tuple.tupleExact _) (wpAny_newObj_type (wpAny_pure (wpAny_pure ⟨_, rfl, wpAny_pure h⟩)) htake))
    | exact wpAny_bind (wpAny_bind (m := Builtin.Tuple.tupleExact _) (wpAny_newObj_type (wpAny_pure ⟨_, rfl, wpAny_pure h⟩) htake))
end
end TL

set_option Elab.async false
set_option linter.all false
set_option maxRecDepth 100000
namespace TL
open PySem PySem.Spec PyProof.Rows L2

/-! ### [::-1] as an expression -/
def gRev : D → Option D
  | .tuple xs => some (.tuple xs.reverse)
  | .list xs => some (.list xs.reverse)
  | _ => none
section
variable {X : Cx} {S : Sx} {W : WX} {e : Expr} {m : DE} {pos : Pos}
theorem sd_rev {k : Nat} {p1 p2 p3 : Pos} (he : PE X e (tE X.K X.mg S W m)) : PE X (.Subscript e (.Slice none none (some (.UnaryOp .USub (.Constant (.int 1) k p1) p2)) p3) pos) (tE X.K X.mg S W (vUn gRev m)) := by
  refine ⟨fun pins s σ H Q I h => ?_⟩
  obtain ⟨F, G, P, ev, M, h⟩ := h
  refine Subscript_ (thn (he.run pins s σ H (fun v H1 => ∃ F1 d, Same F1 H1 ∧ (∃ a, Rq X.K X.mg F1 H1 a v ∧ gRev a = some d) ∧ ∀ F' H' v', Grow F1 H1 F' H' → Rp X.K X.mg F' d v' → Q v' H') I ⟨F, G, P, ev, M, h.bind.imp fun r1 ev1 F1 H1 _ s1 M1 h1 v rv => ?_⟩) fun v s1 ⟨x, H1, I1, r1, F1, d, sm, ⟨a, ra, e1⟩, k1⟩ => ?_)
  · obtain ⟨x, e1, h1⟩ := h1.lift
    obtain ⟨d, e2, h1⟩ := h1.lift
    exact ⟨F1, d, M1.fr.fh, ⟨x, M1.acc rv e1, e2⟩, fun F' H' v' g r => h1 F' H' g.f (M1.grow g) v' r⟩
  have hst : PO X (some (.UnaryOp .USub (.Constant (.int 1) k p1) p2)) (tPart (tUn (rU fun i => .int (-i)) (tC (.int 1)))) := po_some (pe_un un_neg pe_int)
  refine wpAny_Slice (thn (po_none.run pins s1 σ H1 (fun o H2 => o = none ∧ H2 = H1) I1 ⟨rfl, rfl⟩) fun vl s2 ⟨l, H2, I2, pl, el, e2⟩ => ?_)
  subst el e2
  refine thn (po_none.run pins s2 σ H2 (fun o H3 => o = none ∧ H3 = H2) I2 ⟨rfl, rfl⟩) fun vu s3 ⟨u, H3, I3, pu, eu, e3⟩ => ?_
  subst eu e3
  refine thn (hst.run pins s3 σ H3 (fun o H4 => o = some (-1) ∧ H4 = H3) I3 ⟨1, rfl, -1, rfl, rfl, rfl⟩) fun vs s4 ⟨o, H4, I4, ps, eo, e4⟩ => ?_
  subst eo e4
  have I5 : Inv X pins σ H4 { s4 with heap := s4.heap.push { cls := .type "slice", data := .fields #[vl, vu, vs] } } := I4.kept (t' := s4.toks) fun b ob q => Heap.get?_push_of_some _ q
  have hs : (s4.heap.push { cls := .type "slice", data := .fields #[vl, vu, vs] }).IsSliceOf s4.heap.objs.size vl vu vs := Heap.IsSliceOf.new _ vl vu vs
  unfold gRev at e1
  split at e1
  · cases e1
    obtain ⟨p, ws, rfl, h1, q1⟩ := ra.tuple
    cases r1
    obtain ⟨its, r, ht, hz⟩ := I5.tuple (SqT_mono sm h1)
    have hlen := r.length
    cases pl
    cases pu
    obtain ⟨tk, rfl⟩ : ∃ t, vs = .int (-1) t := by cases ps; exact ⟨_, rfl⟩
    show wpAny (model X.prog X.w) X.A (subscriptTail e (.Slice none none (some (.UnaryOp .USub (.Constant (.int 1) k p1) p2)) p3) (.ref p) (.ref s4.heap.objs.size)) (EP X pins σ Q) X.xe _
    refine tail_any (ops := [.ref p, .ref s4.heap.objs.size]) ht.typeIs (PyProof.Rows.slot_tuple_getitem.lookup) ?_ (by with_unfolding_all rfl)
    refine getItem_tuple_rev ht hs ?_ (by omega)
    refine ⟨.ref _, upd H4 _ (.tup ws.reverse), I5.laid (t' := s4.toks) (o := .tup ws.reverse) (fun b ob q => Heap.get?_push_of_some _ q) (Nat.le_refl _) ?_, rfl, ?_⟩
    · exact ⟨by rw [List.length_reverse]; exact hz, _, r.reverse, ⟨_, Heap.get?_push_size _ rfl, rfl, _, rfl⟩⟩
    · exact fin_tup sm q1.reverse k1 _ (I5.hok.fresh (Nat.le_refl _))
  · cases e1
    obtain ⟨p, ws, rfl, h1, q1⟩ := ra.list
    cases r1
    obtain ⟨z, its, n, r, _, ho⟩ := Inv.lstR I5 h1
    have hlen := r.length
    have il : (s4.heap.push { cls := .type "slice", data := .fields #[vl, vu, vs] }).IsList p its.toArray := ⟨_, ho, rfl, _, rfl⟩
    show wpAny (model X.prog X.w) X.A (subscriptTail e (.Slice none none (some (.UnaryOp .USub (.Constant (.int 1) k p1) p2)) p3) (.ref p) (.ref s4.heap.objs.size)) (EP X pins σ Q) X.xe _
    refine tail_any (ops := [.ref p, .ref s4.heap.objs.size]) il.typeIs (PySem.slot_list_getitem.lookup) ?_ (by with_unfolding_all rfl)
    refine wpAny_getItem_list_slice il hs pl pu ps (by decide) ?_ (by rw [List.size_toArray]; omega)
    rw [PySem.W.krv_pick]
    refine ⟨.ref _, upd H4 _ (.lst ws.reverse), I5.laid (t' := s4.toks) (o := .lst ws.reverse) (fun b ob q => Heap.get?_push_of_some _ q) (Nat.le_refl _) ?_, rfl, ?_⟩
    · exact ⟨by rw [List.length_reverse]; exact z, _, 0, r.reverse, Heap.get?_push_size _ rfl⟩
    · exact fin_lst sm q1.reverse k1 _ (I5.hok.fresh (Nat.le_refl _))
  · cases e1
end

/-! ### statements -/
inductive Fl where
  | nx | rt (d : D) | rto (d : D) | bk | ct
abbrev DS := Ev → Res (Fl × Ev)
def tN {α : Type} (K : PySem.W.Frag) (mg : Str → Option Value) (S : Sx) (W : WX) (G : Hp) (P : Nat → Option Addr) (F : Hp) (r : Res (α × Ev)) (post : α → Ev → Hp → Hp → L2.St → Prop) : Prop := match r with
  | .ok (a, ev') => ∀ F' H' σ', Same F F' → Sim K mg S F' G P H' ev' σ' → post a ev' F' H' σ'
  | .err c => ∀ F' H' σ', Same F F' → Frm S.T F' G H' → ∀ f, mg c = some (.ref f) → W (.ref f) none σ' H'
  | .stuck => False
def postS (K : PySem.W.Frag) (mg : Str → Option Value) (S : Sx) (G : Hp) (Dn : Ends) (fl : Fl) (ev' : Ev) (F' H' : Hp) (σ' : L2.St) : Prop := match fl with
  | .nx => Dn.nx σ' H'
  | .rt d => ∀ v, Rp K mg F' d v → Dn.rt v H'
  | .rto d => ∀ a, OwnD K mg F' H' d a → FreshAt S ev' σ' F' G a → Dn.rt (.ref a) H'
  | .bk => Dn.bk σ' H'
  | .ct => Dn.ct σ' H'
def tS (K : PySem.W.Frag) (mg : Str → Option Value) (S : Sx) (W : WX) (m : DS) : TS := fun Dn σ H => ∃ F G P ev, Sim K mg S F G P H ev σ ∧ tN K mg S W G P F (m ev) (postS K mg S G Dn)
section
variable {α β : Type} {K : PySem.W.Frag} {mg : Str → Option Value} {S : Sx} {W : WX} {F F' G H H' : Hp} {P : Nat → Option Addr} {ev ev' : Ev} {σ : L2.St}
theorem tN.mono {r : Res (α × Ev)} {post : α → Ev → Hp → Hp → L2.St → Prop} (s : Same F F') (h : tN K mg S W G P F r post) : tN K mg S W G P F' r post := by
  cases r with
  | ok p => exact fun F2 H2 σ2 s2 M => h F2 H2 σ2 (s.trans s2) M
  | err c => exact fun F2 H2 σ2 s2 M => h F2 H2 σ2 (s.trans s2) M
  | stuck => exact h
theorem tN.bind {r : Res (α × Ev)} {k : α × Ev → Res (β × Ev)} {post : β → Ev → Hp → Hp → L2.St → Prop} (h : tN K mg S W G P F (r.bind k) post) :
    tM K mg S W G P σ F r (fun a ev1 F1 H1 => tN K mg S W G P F1 (k (a, ev1)) post) := by
  cases r with
  | ok p => exact fun F1 H1 s1 M1 => tN.mono s1 (r := k p) h
  | err c => exact fun F1 H1 s1 f => h F1 H1 σ s1 f
  | stuck => exact h
theorem tN.lift {o : Option α} {k : α → Res (β × Ev)} {post : β → Ev → Hp → Hp → L2.St → Prop} (h : tN K mg S W G P F ((lift o).bind k) post) : ∃ a, o = some a ∧ tN K mg S W G P F (k a) post := by
  cases o with
  | none => exact False.elim h
  | some a => exact ⟨a, rfl, h⟩
theorem tN.cond {c : Prop} [Decidable c] {r : Res (β × Ev)} {post : β → Ev → Hp → Hp → L2.St → Prop} (h : tN K mg S W G P F (if c then r else .stuck) post) : c ∧ tN K mg S W G P F r post := by
  by_cases hc : c
  · rw [if_pos hc] at h; exact ⟨hc, h⟩
  · rw [if_neg hc] at h; exact False.elim h
theorem tN.val {rv : RV} {v : V} {k : D × Ev → Res (β × Ev)} {post : β → Ev → Hp → Hp → L2.St → Prop} (M : Sim K mg S F G P H ev σ) (r : RRv K mg S F σ rv v) (h : tN K mg S W G P F ((toVal rv ev).bind k) post) : ∃ d ev' F', toVal rv ev = .ok (d, ev') ∧ Same F F' ∧ Sim K mg S F' G P H ev' σ ∧ Rp K mg F' d v ∧ tN K mg S W G P F' (k (d, ev')) post := by
  cases q : toVal rv ev with
  | ok p =>
    rw [q] at h
    obtain ⟨F', s, M', r'⟩ := toVal_ok M r q
    exact ⟨p.1, p.2, F', rfl, s, M', r', tN.mono s h⟩
  | err c => exact absurd q toVal_ne_err
  | stuck => rw [q] at h; exact False.elim h
/-- a name of a value is set -/
theorem set_get {β : Type} {l : List β} {i j : Nat} {x y : β} (h : (l.set i x)[j]? = some y) : (j = i ∧ y = x) ∨ (j ≠ i ∧ l[j]? = some y) := by
  by_cases hj : j = i
  · subst hj
    rw [List.getElem?_set] at h
    simp at h
    exact .inl ⟨rfl, h.2.symm⟩
  · rw [List.getElem?_set_ne (Ne.symm hj)] at h; exact .inr ⟨hj, h⟩
theorem set_same {β : Type} {l : List β} {i : Nat} {x : β} (h : i < l.length) : (l.set i x)[i]? = some x := by
  rw [List.getElem?_set]; simp [h]
theorem set_lt {β : Type} {l : List β} {i : Nat} {x y : β} (h : (l.set i x)[i]? = some y) : i < l.length := by
  have := (List.getElem?_eq_some_iff.mp h).1
  rwa [List.length_set] at this
theorem Sim.setv (M : Sim K mg S F G P H ev σ) {i : Nat} {d : D} {v : V} (h1 : S.own i = false) (h2 : S.io i = false) (r : Rp K mg F d v) : Sim K mg S F G P H (ev.set i (some d)) (σ.set i (some v)) where
  fr := M.fr
  len := by rw [List.length_set, List.length_set]; exact M.len
  sl := fun j d' h e => by
    rcases set_get e with ⟨rfl, e'⟩ | ⟨hj, e'⟩
    · cases e'
      exact ⟨v, set_same (by rw [← M.len]; exact set_lt e), r⟩
    · rw [List.getElem?_set_ne (Ne.symm hj)]; exact M.sl j d' h e'
  so := fun j d' h e => by
    rcases set_get e with ⟨rfl, e'⟩ | ⟨hj, e'⟩
    · rw [h1] at h; cases h
    · rw [List.getElem?_set_ne (Ne.symm hj)]; exact M.so j d' h e'
  sp := fun j k d' e' a hj hk hn q1 q2 q3 q4 => by
    have n1 : j ≠ i := fun z => by rw [z, h1] at hj; cases hj
    have n2 : k ≠ i := fun z => by rw [z, h1] at hk; cases hk
    rw [List.getElem?_set_ne (Ne.symm n1)] at q1 q3
    rw [List.getElem?_set_ne (Ne.symm n2)] at q2 q4
    exact M.sp j k d' e' a hj hk hn q1 q2 q3 q4
  pn := fun j a e => by
    obtain ⟨q1, q2⟩ := M.pn j a e
    have n1 : j ≠ i := fun z => by rw [z, h2] at q1; cases q1
    rw [List.getElem?_set_ne (Ne.symm n1)]
    exact ⟨q1, q2⟩
/-- a name of a fresh object is set -/
theorem Sim.seto (M : Sim K mg S F G P H ev σ) {i : Nat} {d : D} {a : Addr} (h1 : S.own i = true) (h2 : S.io i = false) (o : OwnD K mg F H d a) (f : FreshAt S ev σ F G a) : Sim K mg S F G P H (ev.set i (some d)) (σ.set i (some (.ref a))) where
  fr := M.fr
  len := by rw [List.length_set, List.length_set]; exact M.len
  sl := fun j d' h e => by
    rcases set_get e with ⟨rfl, e'⟩ | ⟨hj, e'⟩
    · rw [h1] at h; cases h
    · rw [List.getElem?_set_ne (Ne.symm hj)]; exact M.sl j d' h e'
  so := fun j d' h e => by
    rcases set_get e with ⟨rfl, e'⟩ | ⟨hj, e'⟩
    · cases e'
      exact ⟨a, set_same (by rw [← M.len]; exact set_lt e), o, f.1, f.2.1⟩
    · rw [List.getElem?_set_ne (Ne.symm hj)]; exact M.so j d' h e'
  sp := fun j k d' e' b hj hk hn q1 q2 q3 q4 => by
    rcases set_get q1 with ⟨rfl, e1⟩ | ⟨nj, e1⟩
    · rcases set_get q2 with ⟨rfl, e2⟩ | ⟨nk, e2⟩
      · exact hn rfl
      · rw [List.getElem?_set_ne (Ne.symm nk)] at q4
        rcases set_get q3 with ⟨_, e3⟩ | ⟨n3, _⟩
        · cases e3; exact f.2.2 k _ hk e2 q4
        · exact n3 rfl
    · rw [List.getElem?_set_ne (Ne.symm nj)] at q3
      rcases set_get q2 with ⟨rfl, e2⟩ | ⟨nk, e2⟩
      · rcases set_get q4 with ⟨_, e3⟩ | ⟨n3, _⟩
        · cases e3; exact f.2.2 j _ hj e1 q3
        · exact n3 rfl
      · rw [List.getElem?_set_ne (Ne.symm nk)] at q4
        exact M.sp j k d' e' b hj hk hn e1 e2 q3 q4
  pn := fun j b e => by
    obtain ⟨q1, q2⟩ := M.pn j b e
    have n1 : j ≠ i := fun z => by rw [z, h2] at q1; cases q1
    rw [List.getElem?_set_ne (Ne.symm n1)]
    exact ⟨q1, q2⟩
/-- an own object is written -/
theorem Tabs_write {T : List (Addr × Str)} {a : Addr} {vs : List V} {o : HO} (t : LamX.Tabs T H) (h : H a = some (.lst vs)) : LamX.Tabs T (upd H a o) := fun p hp => by
  obtain ⟨ps, e1, e2, e3⟩ := t p hp
  refine ⟨ps, by rw [upd_ne (fun z => by rw [z, h] at e1; cases e1)]; exact e1, e2, fun pos cv hc => ?_⟩
  obtain ⟨c, q1, q2⟩ := e3 pos cv hc
  exact ⟨c, q1, by rw [upd_ne (fun z => by rw [z, h] at q2; unfold LamX.CodeO at q2; cases q2)]; exact q2⟩
theorem Sim.write (M : Sim K mg S F G P H ev σ) {i : Nat} {a : Addr} {ds ds' : List D} {vs' : List V} (ho : S.own i = true) (e : ev[i]? = some (some (.list ds))) (hs : σ[i]? = some (some (.ref a))) (r : Rps K mg F ds' vs') : Sim K mg S F G P (upd H a (.lst vs')) (ev.set i (some (.list ds'))) σ := by
  obtain ⟨b, e1, o, f0, g0⟩ := M.so i _ ho e
  rw [hs] at e1
  cases e1
  obtain ⟨vs, q, r0⟩ := o
  refine ⟨⟨fun b u e => ?_, fun b u e => ?_, M.fr.gf, M.fr.nt, M.fr.gt, Tabs_write M.fr.tb q⟩, by rw [List.length_set]; exact M.len, fun j d h e2 => ?_, fun j d h e2 => ?_, fun j k d e' b hj hk hn q1 q2 q3 q4 => ?_, M.pn⟩
  · rw [upd_ne (fun z => by rw [z, f0] at e; cases e)]; exact M.fr.fh _ _ e
  · rw [upd_ne (fun z => by rw [z, g0] at e; cases e)]; exact M.fr.gh _ _ e
  · rcases set_get e2 with ⟨rfl, _⟩ | ⟨_, e3⟩
    · rw [ho] at h; cases h
    · exact M.sl j d h e3
  · rcases set_get e2 with ⟨rfl, e3⟩ | ⟨nj, e3⟩
    · cases e3; exact ⟨a, hs, ⟨vs', upd_same, r⟩, f0, g0⟩
    · obtain ⟨c, x1, x2, x3, x4⟩ := M.so j d h e3
      have hne : c ≠ a := fun z => M.sp j i _ _ c h ho nj e3 e x1 (by rw [z]; exact hs)
      refine ⟨c, x1, ?_, x3, x4⟩
      cases d with
      | list ds => obtain ⟨ws, y1, y2⟩ := x2; exact ⟨ws, by rw [upd_ne hne]; exact y1, y2⟩
      | _ => exact False.elim x2
  · have f : ∀ {j : Nat} {d : D}, (ev.set i (some (.list ds')))[j]? = some (some d) → ∃ d', ev[j]? = some (some d') := fun {j d} e0 => by
      rcases set_get e0 with ⟨rfl, _⟩ | ⟨_, e3⟩
      · exact ⟨_, e⟩
      · exact ⟨_, e3⟩
    obtain ⟨d1, z1⟩ := f q1
    obtain ⟨d2, z2⟩ := f q2
    exact M.sp j k d1 d2 b hj hk hn z1 z2 q3 q4
end
end TL

set_option Elab.async false
set_option linter.all false
set_option maxRecDepth 100000
namespace TL
open PySem PySem.Spec PyProof.Rows L2

def sNext : DS := fun ev => .ok (.nx, ev)
def sSeq (m1 m2 : DS) : DS := fun ev => (m1 ev).bind fun p => match p.1 with
  | .nx => m2 p.2
  | f => .ok (f, p.2)
def sIf (t : DT) (m1 m2 : DS) : DS := fun ev => (t ev).bind fun p => bif p.1 then m1 p.2 else m2 p.2
def sSet (i : Nat) (m : DE) : DS := fun ev => (m ev).bind fun p => (toVal p.1 p.2).bind fun q => .ok (.nx, q.2.set i (some q.1))
def sSetO (i : Nat) (m : DO) : DS := fun ev => (m ev).bind fun p => .ok (.nx, p.2.set i (some p.1))
def sRet (m : DE) : DS := fun ev => (m ev).bind fun p => (toVal p.1 p.2).bind fun q => .ok (.rt q.1, q.2)
def sRetO (m : DO) : DS := fun ev => (m ev).bind fun p => .ok (.rto p.1, p.2)
/-- return x, x an own slot, the object itself -/
def sRetS (i : Nat) : DS := fun ev => (lift (ev[i]?).join).bind fun d => .ok (.rto d, ev.set i none)
def sRetN : DS := fun ev => .ok (.rt .none, ev)
def sDrop (m : DE) : DS := fun ev => (m ev).bind fun p => .ok (.nx, p.2)
def sRaise (c : Str) : DS := fun _ => .err c
def sNever : DS := fun _ => .stuck
def lstOf : D → Option (List D)
  | .list ds => some ds
  | _ => none
/-- xs.append(e), xs an own slot -/
def sApp (i : Nat) (m : DE) : DS := fun ev => (lift ((ev[i]?).join.bind lstOf)).bind fun _ => (m ev).bind fun p => (toVal p.1 p.2).bind fun q => (lift ((q.2[i]?).join.bind lstOf)).bind fun ds =>
  if ds.length < sizeLine then .ok (.nx, q.2.set i (some (.list (ds ++ [q.1])))) else .stuck
/-- xs[k] = e, xs an own slot -/
def sSetIx (i : Nat) (mi m : DE) : DS := fun ev => (m ev).bind fun p => (toVal p.1 p.2).bind fun q => (lift (q.2[i]?).join).bind fun _ => (mi q.2).bind fun r => (lift ((r.1.get r.2).bind toInt)).bind fun k => (lift ((r.2[i]?).join.bind lstOf)).bind fun ds => (lift (ixN ds.length k)).bind fun j =>
  .ok (.nx, r.2.set i (some (.list (ds.set j q.1))))
theorem lstOf_some {o : Option (Option D)} {ds : List D} (h : o.join.bind lstOf = some ds) : o = some (some (.list ds)) := by
  obtain ⟨d, e1, e2⟩ := Option.bind_eq_some_iff.mp h
  cases d with
  | list xs => cases e2; exact join_some e1
  | _ => cases e2
section
variable {X : Cx} {S : Sx} {W : WX} {a b c e : Expr} {st : Stmt} {sts : List Stmt} {ma mb mc m n : DE} {mo : DO} {ta : DT} {s1 s2 : DS} {pos : Pos}
theorem ss_nil : PSs X [] (tS X.K X.mg S W sNext) := pss_nil.imp fun Dn σ H ⟨F, G, P, ev, M, h⟩ => h F H σ (Same.refl _) M
theorem ss_cons (h1 : PS X st (tS X.K X.mg S W s1)) (h2 : PSs X sts (tS X.K X.mg S W s2)) : PSs X (st :: sts) (tS X.K X.mg S W (sSeq s1 s2)) := (pss_cons h1 h2).imp fun Dn σ H ⟨F, G, P, ev, M, h⟩ => by
  refine ⟨F, G, P, ev, M, ?_⟩
  unfold sSeq at h
  cases q : s1 ev with
  | err c => rw [q] at h; exact h
  | stuck => rw [q] at h; exact h
  | ok p =>
    obtain ⟨fl, ev1⟩ := p
    rw [q] at h
    simp only [Res.bind_ok] at h
    cases fl with
    | nx => exact fun F' H' σ' s M' => ⟨F', G, P, ev1, M', tN.mono s h⟩
    | rt d => exact h
    | rto d => exact h
    | bk => exact h
    | ct => exact h
theorem ss_one (h1 : PS X st (tS X.K X.mg S W s1)) : PSs X [st] (tS X.K X.mg S W s1) := (pss_one h1)
theorem sx_pass : PS X (.Pass pos) (tS X.K X.mg S W sNext) := ps_pass.imp fun Dn σ H ⟨F, G, P, ev, M, h⟩ => h F H σ (Same.refl _) M
theorem sx_break : PS X (.Break pos) (tS X.K X.mg S W (fun ev => .ok (.bk, ev))) := ps_break.imp fun Dn σ H ⟨F, G, P, ev, M, h⟩ => h F H σ (Same.refl _) M
theorem sx_cont : PS X (.Continue pos) (tS X.K X.mg S W (fun ev => .ok (.ct, ev))) := ps_continue.imp fun Dn σ H ⟨F, G, P, ev, M, h⟩ => h F H σ (Same.refl _) M
theorem sx_never : PS X st (tS X.K X.mg S W sNever) := ps_never.imp fun Dn σ H ⟨F, G, P, ev, M, h⟩ => h
theorem sx_if {as bs : List Stmt} (hc : PT X c (tT X.K X.mg S W ta)) (ha : PSs X as (tS X.K X.mg S W s1)) (hb : PSs X bs (tS X.K X.mg S W s2)) : PS X (.If c as bs pos) (tS X.K X.mg S W (sIf ta s1 s2)) := (ps_if hc ha hb).imp fun Dn σ H ⟨F, G, P, ev, M, h⟩ => by
  refine ⟨F, G, P, ev, M, h.bind.imp fun k ev1 F1 H1 _ q1 M1 h1 => ?_⟩
  cases k with
  | true => exact ⟨F1, G, P, ev1, M1, h1⟩
  | false => exact ⟨F1, G, P, ev1, M1, h1⟩
theorem sx_set (i : Nat) {x : Str} {px : Pos} (hN : X.N.Nodup) (he : PE X e (tE X.K X.mg S W m)) (h1 : S.own i = false := by rfl) (h2 : S.io i = false := by rfl) (hi : X.N[i]? = some x := by rfl) (hx : Loc X.env.scope x := by first | exact Or.inl rfl | exact Or.inr rfl)
    (hf : X.fn x = true ∨ X.env.scope.names.lookup x = some .local := by first | exact .inl rfl | exact .inr rfl) (hs : swapsWithSole [.Name x px] e pos.line X.env = pure false := by rfl) (hw : swappedStores [.Name x px] e X.env = pure none := by rfl) (ha : (assignEach [.Name x px] X.env).map (·.2) = [assign (.Name x px) X.env] := by rfl) :
    PS X (.Assign [.Name x px] e pos) (tS X.K X.mg S W (sSet i m)) := (ps_asg he (pg_name (i := i) hN hi hx hf) hs hw ha).imp fun Dn σ H ⟨F, G, P, ev, M, h⟩ => by
  refine ⟨F, G, P, ev, M, h.bind.imp fun rv ev1 F1 H1 _ q1 M1 h3 v r => ?_⟩
  obtain ⟨d, ev2, F2, _, s2, M2, r2, h3⟩ := tN.val M1 r h3
  exact h3 F2 H1 _ (Same.refl _) (M2.setv h1 h2 r2)
theorem sx_seto (i : Nat) {x : Str} {px : Pos} (hN : X.N.Nodup) (he : PE X e (tO X.K X.mg S W mo)) (h1 : S.own i = true := by rfl) (h2 : S.io i = false := by rfl) (hi : X.N[i]? = some x := by rfl) (hx : Loc X.env.scope x := by first | exact Or.inl rfl | exact Or.inr rfl)
    (hf : X.fn x = true ∨ X.env.scope.names.lookup x = some .local := by first | exact .inl rfl | exact .inr rfl) (hs : swapsWithSole [.Name x px] e pos.line X.env = pure false := by rfl) (hw : swappedStores [.Name x px] e X.env = pure none := by rfl) (ha : (assignEach [.Name x px] X.env).map (·.2) = [assign (.Name x px) X.env] := by rfl) :
    PS X (.Assign [.Name x px] e pos) (tS X.K X.mg S W (sSetO i mo)) := (ps_asg he (pg_name (i := i) hN hi hx hf) hs hw ha).imp fun Dn σ H ⟨F, G, P, ev, M, h⟩ => by
  refine ⟨F, G, P, ev, M, h.bind.imp fun d ev1 F1 H1 _ q1 M1 h3 a o f => ?_⟩
  exact h3 F1 H1 _ (Same.refl _) (M1.seto h1 h2 o f)
theorem sx_ret (he : PE X e (tE X.K X.mg S W m)) : PS X (.Return (some e) pos) (tS X.K X.mg S W (sRet m)) := (ps_ret he).imp fun Dn σ H ⟨F, G, P, ev, M, h⟩ => by
  refine ⟨F, G, P, ev, M, h.bind.imp fun rv ev1 F1 H1 _ q1 M1 h3 v r => ?_⟩
  obtain ⟨d, ev2, F2, _, s2, M2, r2, h3⟩ := tN.val M1 r h3
  exact h3 F2 H1 σ (Same.refl _) M2 v r2
theorem sx_reto (he : PE X e (tO X.K X.mg S W mo)) : PS X (.Return (some e) pos) (tS X.K X.mg S W (sRetO mo)) := (ps_ret he).imp fun Dn σ H ⟨F, G, P, ev, M, h⟩ => by
  refine ⟨F, G, P, ev, M, h.bind.imp fun d ev1 F1 H1 _ q1 M1 h3 a o f => ?_⟩
  exact h3 F1 H1 σ (Same.refl _) M1 a o f
theorem sx_rets (i : Nat) (he : PE X e (tE X.K X.mg S W (eOwn i))) (ho : S.own i = true := by rfl) : PS X (.Return (some e) pos) (tS X.K X.mg S W (sRetS i)) := (ps_ret he).imp fun Dn σ H ⟨F, G, P, ev, M, h⟩ => by
  obtain ⟨d, e1, h⟩ := h.lift
  have e2 := join_some e1
  refine ⟨F, G, P, ev, M, ?_⟩
  have e3 : eOwn i ev = .ok (.slot i, ev) := by unfold eOwn; rw [e1]; rfl
  rw [e3]
  intro F1 H1 q1 M1 v r
  obtain ⟨_, hs⟩ := r
  obtain ⟨a, x1, o, f0, g0⟩ := M1.so i d ho e2
  rw [hs] at x1
  have x1 : v = .ref a := by simpa using x1
  subst x1
  refine h F1 H1 σ q1 (M1.drop i) a o ⟨f0, g0, fun j d' hj e z => ?_⟩
  obtain ⟨nj, e⟩ := set_none_some e
  exact M1.sp j i _ _ a hj ho nj e e2 z hs
theorem sx_retn : PS X (.Return none pos) (tS X.K X.mg S W sRetN) := ps_retN.imp fun Dn σ H ⟨F, G, P, ev, M, h⟩ => h F H σ (Same.refl _) M .non rp_none
theorem sx_expr (he : PE X e (tE X.K X.mg S W m)) (hs : swapsWith e none pos.line X.env = pure false := by rfl) : PS X (.Expr e pos) (tS X.K X.mg S W (sDrop m)) := (ps_expr he hs).imp fun Dn σ H ⟨F, G, P, ev, M, h⟩ => by
  refine ⟨F, G, P, ev, M, h.bind.imp fun rv ev1 F1 H1 _ q1 M1 h3 v r => ?_⟩
  exact h3 F1 H1 σ (Same.refl _) M1
theorem sx_raise {x : Str} {f : Addr} {bmB : List Value} {B newId initId : String} {msg : Str} {j : Nat} {p p2 p3 : Pos} (hc : X.calm = true) (tk : L2N.Takes X W) (FB : ExcBaseFacts B newId initId bmB) (q : PySem.W.excIn X.K f bmB newId = true) (gC : X.mg x = some (.ref f)) (kC : PySem.W.keepIn X.K (.ref f) = true) (r : Raises X (.ref f)) (hg : Gl X x)
    (hdb : (x == ("__debug__" : Str)) = false := by decide) : PS X (.Raise (some (.Call (.Name x p) [.Constant (.str msg) j p2] [] p3)) none pos) (tS X.K X.mg S W (sRaise x)) := (L2N.ps_raise hc tk (L2N.pmk_own FB q gC kC r hg hdb)).imp fun Dn σ H ⟨F, G, P, ev, M, h⟩ => h F H σ (Same.refl _) M.fr f gC
theorem sx_app (i : Nat) {x : Str} {p1 p2 p3 : Pos} (he : PE X e (tE X.K X.mg S W m)) (ho : S.own i = true := by rfl) (hN : X.N[i]? = some x := by rfl) (hv : Vis X.env.scope x := by first | exact Or.inl rfl | exact Or.inr (Or.inl rfl) | exact Or.inr (Or.inr rfl))
    (hd : (x == ("__debug__" : Str)) = false := by decide) (hcd : (x == ("__classdict__" : Str)) = false := by decide) (hb : attributeBase (.Name x p1) "append" X.env (eval (.Name x p1) X.env) = eval (.Name x p1) X.env := by rfl) (hse : starEach [e] X.env = (false, eval e X.env) :: starEach [] X.env := by rfl) (hfew : ((backTo p3 (starEach [e] X.env)).all (fun x => !x.1) && (backToKw p3 (keywordEach [] X.env)).all (fun x => x.1.isSome) && decide ([e].length + ([] : List Keyword).length + (if ([] : List Keyword).isEmpty then 0 else 1) < 30)) = true := by rfl) (hline : (p2.endLine == p3.line) = true := by rfl)
    (hs : swapsWith (.Call (.Attribute (.Name x p1) "append" p2) [e] [] p3) none pos.line X.env = pure false := by rfl) :
    PS X (.Expr (.Call (.Attribute (.Name x p1) "append" p2) [e] [] p3) pos) (tS X.K X.mg S W (sApp i m)) := by
  refine (ps_expr (pe_bm PySem.F.plainAttrs_list PySem.F.slot_list_append PySem.F.type_list_append mt_append (pe_var hN hv hd hcd) (pa_cons he pa_nil hse) hb hfew hline hse rfl) hs).imp fun Dn σ H ⟨F, G, P, ev, M, h⟩ => ?_
  obtain ⟨ds, e1, h⟩ := h.lift
  have e1 := lstOf_some e1
  obtain ⟨a, x1, ⟨vs, x2, x3⟩, f0, g0⟩ := M.so i _ ho e1
  refine ⟨_, x1, .inl ⟨rfl, vs, .inl (.inl x2)⟩, F, G, P, ev, M, h.bind.imp fun rv ev1 F1 H1 _ q1 M1 h3 v r => ?_⟩
  obtain ⟨d, ev2, F2, _, s2, M2, r2, h3⟩ := tN.val M1 r h3
  obtain ⟨ds2, e2, h3⟩ := h3.lift
  have e2 := lstOf_some e2
  obtain ⟨hl, h3⟩ := h3.cond
  obtain ⟨a', y1, ⟨ws, y2, y3⟩, f1, g1⟩ := M2.so i _ ho e2
  rw [x1] at y1
  cases y1
  refine ⟨a, ws, v, rfl, rfl, y2, by rw [← y3.len]; exact hl, ?_⟩
  exact h3 F2 _ σ (Same.refl _) (M2.write ho e2 x1 (y3.append (Rps.one r2)))
theorem sx_setix (i : Nat) {x : Str} {ie : Expr} {mi : DE} {p1 p2 : Pos} (hv2 : PE X e (tE X.K X.mg S W m)) (hi : PE X ie (tE X.K X.mg S W mi)) (ho : S.own i = true := by rfl) (hN : X.N[i]? = some x := by rfl) (hv : Vis X.env.scope x := by first | exact Or.inl rfl | exact Or.inr (Or.inl rfl) | exact Or.inr (Or.inr rfl))
    (hd : (x == ("__debug__" : Str)) = false := by decide) (hcd : (x == ("__classdict__" : Str)) = false := by decide)
    (ha : ∀ v, assign (.Subscript (.Name x p1) ie p2) X.env v = (do
      let ov ← holding [v] (eval (.Name x p1) X.env)
      let iv ← holding [v, ov] (eval ie X.env)
      standAt p2
      holding [v, ov, iv] (setItem ov iv v)
      release [v, ov, iv] []) := by intro _; rfl)
    (hs : swapsWithSole [.Subscript (.Name x p1) ie p2] e pos.line X.env = pure false := by rfl) (hw : swappedStores [.Subscript (.Name x p1) ie p2] e X.env = pure none := by rfl) (hae : (assignEach [.Subscript (.Name x p1) ie p2] X.env).map (·.2) = [assign (.Subscript (.Name x p1) ie p2) X.env] := by rfl) :
    PS X (.Assign [.Subscript (.Name x p1) ie p2] e pos) (tS X.K X.mg S W (sSetIx i mi m)) := by
  refine (ps_asg hv2 (pg_sub (pe_var hN hv hd hcd) hi set_list ha) hs hw hae).imp fun Dn σ H ⟨F, G, P, ev, M, h⟩ => ?_
  refine ⟨F, G, P, ev, M, h.bind.imp fun rv ev1 F1 H1 _ q1 M1 h3 v r => ?_⟩
  obtain ⟨d, ev2, F2, _, s2, M2, r2, h3⟩ := tN.val M1 r h3
  obtain ⟨c, e0, h3⟩ := h3.lift
  obtain ⟨a, x1, o, f0, g0⟩ := M2.so i _ ho (join_some e0)
  refine ⟨_, x1, F2, G, P, ev2, M2, h3.bind.imp fun rk ev3 F3 H3 _ q3 M3 h4 u ru => ?_⟩
  obtain ⟨k, e3, h4⟩ := h4.lift
  obtain ⟨dk, e4, e5⟩ := Option.bind_eq_some_iff.mp e3
  obtain ⟨ds, e6, h4⟩ := h4.lift
  have e6 := lstOf_some e6
  obtain ⟨j, e7, h4⟩ := h4.lift
  obtain ⟨a', y1, ⟨ws, y2, y3⟩, f1, g1⟩ := M3.so i _ ho e6
  rw [x1] at y1
  cases y1
  cases dk with
  | int k' =>
    cases e5
    have uk := (M3.acc ru e4).int
    refine ⟨a, ws, _, j, rfl, uk, y2, by rw [← y3.len]; exact e7, ?_⟩
    refine h4 F3 _ σ (Same.refl _) (M3.write ho e6 x1 ?_)
    refine Rps.of_get (by rw [List.length_set, List.length_set]; exact y3.len) fun n d' v' g1 g2 => ?_
    rcases set_get g1 with ⟨rfl, z1⟩ | ⟨nn, z1⟩
    · rcases set_get g2 with ⟨_, z2⟩ | ⟨n2, _⟩
      · rw [z1, z2]; exact Rp.mono q3 _ _ r2
      · exact absurd rfl n2
    · rw [List.getElem?_set_ne (Ne.symm nn)] at g2
      obtain ⟨v'', z2, z3⟩ := Rps.get y3 z1
      rw [g2] at z2
      cases z2
      exact z3
  | _ => cases e5
end
end TL

set_option Elab.async false
set_option linter.all false
set_option maxRecDepth 100000
namespace TL
open PySem PySem.Spec PyProof.Rows L2

/-! ### several values at once: some frozen, some fresh objects -/
inductive AV where
  | v (d : D) | o (d : D)
inductive Itm where
  | v (m : DE) | o (m : DO)
def evIt : List Itm → Ev → Res (List AV × Ev)
  | [], ev => .ok ([], ev)
  | .v m :: r, ev => (m ev).bind fun p => (toVal p.1 p.2).bind fun q => (evIt r q.2).bind fun t => .ok (.v q.1 :: t.1, t.2)
  | .o m :: r, ev => (m ev).bind fun p => (evIt r p.2).bind fun t => .ok (.o p.1 :: t.1, t.2)
def AVR (K : PySem.W.Frag) (mg : Str → Option Value) (S : Sx) (F H : Hp) (ev : Ev) (σ : L2.St) : Hp → List AV → List V → Prop
  | _, [], vs => vs = []
  | G, .v d :: as, vs => ∃ v w, vs = v :: w ∧ Rp K mg F d v ∧ AVR K mg S F H ev σ G as w
  | G, .o d :: as, vs => ∃ a w o, vs = .ref a :: w ∧ OwnD K mg F H d a ∧ FreshAt S ev σ F G a ∧ H a = some o ∧ AVR K mg S F H ev σ (upd G a o) as w
def tI (K : PySem.W.Frag) (mg : Str → Option Value) (S : Sx) (W : WX) (its : List Itm) : TA := fun σ H Q => ∃ F G P ev, Sim K mg S F G P H ev σ ∧ tM K mg S W G P σ F (evIt its ev) fun as ev' F' H' => ∀ vs, AVR K mg S F' H' ev' σ G as vs → Q vs H'
section
variable {α : Type} {K : PySem.W.Frag} {mg : Str → Option Value} {S : Sx} {W : WX} {F F' G H H' : Hp} {P : Nat → Option Addr} {ev ev' : Ev} {σ : L2.St}
/-- a fresh object is kept as if it were the caller's -/
theorem Sim.keepG (M : Sim K mg S F G P H ev σ) {d : D} {a : Addr} {o : HO} (ow : OwnD K mg F H d a) (f : FreshAt S ev σ F G a) (ha : H a = some o) : Sim K mg S F (upd G a o) P H ev σ where
  fr := ⟨M.fr.fh, fun b u e => by
      by_cases hb : b = a
      · subst hb; rw [upd_same] at e; cases e; exact ha
      · rw [upd_ne hb] at e; exact M.fr.gh _ _ e, fun b u e => by
      rw [upd_ne (fun z => by rw [z, f.1] at e; cases e)]; exact M.fr.gf _ _ e, M.fr.nt, fun hT b ps e => by
      by_cases hb : b = a
      · subst hb
        rw [upd_same] at e
        obtain ⟨o', q1, q2⟩ := ow.there
        rw [ha] at q1; cases q1
        exact q2 ps (Option.some.inj e)
      · rw [upd_ne hb] at e; exact M.fr.gt hT _ _ e, M.fr.tb⟩
  len := M.len
  sl := M.sl
  so := fun i d h e => by
    obtain ⟨b, e1, q, f0, g0⟩ := M.so i d h e
    refine ⟨b, e1, q, f0, ?_⟩
    rw [upd_ne (fun z => f.2.2 i d h e (by rw [← z]; exact e1))]; exact g0
  sp := M.sp
  pn := M.pn
theorem Sim.lessG (M : Sim K mg S F G' P H ev σ) (s : Same G G') : Sim K mg S F G P H ev σ where
  fr := ⟨M.fr.fh, s.trans M.fr.gh, fun a o e => same_none s (M.fr.gf a o e), M.fr.nt, fun hT a ps e => M.fr.gt hT a ps (s _ _ e), M.fr.tb⟩
  len := M.len
  sl := M.sl
  so := fun i d h e => by
    obtain ⟨b, e1, q, f0, g0⟩ := M.so i d h e
    exact ⟨b, e1, q, f0, same_none s g0⟩
  sp := M.sp
  pn := M.pn
theorem tM.chG {r : Res (α × Ev)} {post : α → Ev → Hp → Hp → Prop} (hs : Same G G') (fg : S.T ≠ [] → ∀ a ps, G' a ≠ some (.tbl ps)) (h : tM K mg S W G P σ F r post) : tM K mg S W G' P σ F r (fun a ev' F' H' => Sim K mg S F' G' P H' ev' σ ∧ post a ev' F' H') := by
  cases r with
  | ok p => exact fun F1 H1 s M => ⟨M, h F1 H1 s (M.lessG hs)⟩
  | err c => exact fun F1 H1 s f => h F1 H1 s ⟨f.fh, hs.trans f.gh, fun a o e => same_none hs (f.gf a o e), f.nt, fun hT a ps e => f.gt hT a ps (hs _ _ e), f.tb⟩
  | stuck => exact h
section
variable {X : Cx} {a b c e : Expr} {es : List Expr} {m : DE} {mo : DO} {its : List Itm}
theorem si_nil : PA X [] (tI X.K X.mg S W []) := pa_nil.imp fun σ H Q ⟨F, G, P, ev, M, h⟩ => h F H (Same.refl _) M _ rfl
theorem si_v (he : PE X e (tE X.K X.mg S W m)) (hr : PA X es (tI X.K X.mg S W its)) (hs : starEach (e :: es) X.env = (false, eval e X.env) :: starEach es X.env := by rfl) : PA X (e :: es) (tI X.K X.mg S W (.v m :: its)) := (pa_cons he hr hs).imp fun σ H Q ⟨F, G, P, ev, M, h⟩ => by
  refine ⟨F, G, P, ev, M, h.bind.imp fun rv ev1 F1 H1 _ s1 M1 h1 v r => ?_⟩
  cases q : toVal rv ev1 with
  | err c => exact absurd q toVal_ne_err
  | stuck => rw [q] at h1; exact False.elim h1
  | ok p =>
    obtain ⟨d, ev2⟩ := p
    rw [q] at h1
    simp only [Res.bind_ok] at h1
    obtain ⟨F2, s2, M2, r2⟩ := toVal_ok M1 r q
    exact ⟨F2, G, P, ev2, M2, (tM.mono s2 h1).bind.imp fun as ev3 F3 H3 _ s3 M3 h3 vs av => h3 F3 H3 (Same.refl _) M3 (v :: vs) ⟨v, vs, rfl, Rp.mono s3 _ _ r2, av⟩⟩
theorem si_o (he : PE X e (tO X.K X.mg S W mo)) (hr : PA X es (tI X.K X.mg S W its)) (hs : starEach (e :: es) X.env = (false, eval e X.env) :: starEach es X.env := by rfl) : PA X (e :: es) (tI X.K X.mg S W (.o mo :: its)) := (pa_cons he hr hs).imp fun σ H Q ⟨F, G, P, ev, M, h⟩ => by
  refine ⟨F, G, P, ev, M, h.bind.imp fun d ev1 F1 H1 _ s1 M1 h1 a ow f => ?_⟩
  obtain ⟨o, ha, hn⟩ := ow.there
  have MG := M1.keepG ow f ha
  have hs2 : Same G (upd G a o) := same_upd f.2.1
  refine ⟨F1, upd G a o, P, ev1, MG, ((tM.chG hs2 MG.fr.gt h1.bind).imp fun as ev3 F3 H3 e3 s3 M3 hh vs av => ?_)⟩
  obtain ⟨_, h3⟩ := hh
  have M4 := M3.lessG hs2
  have hG : H3 a = some o := M3.fr.gh a o upd_same
  have fF : F3 a = none := by
    cases q : F3 a with
    | none => rfl
    | some u => have := M3.fr.gf a u q; rw [upd_same] at this; cases this
  refine h3 F3 H3 (Same.refl _) M4 (.ref a :: vs) ⟨a, vs, o, rfl, ?_, ⟨fF, f.2.1, fun i d' ho e z => ?_⟩, hG, av⟩
  · cases d with
    | list ds =>
      obtain ⟨ws, y1, y2⟩ := ow
      rw [ha] at y1
      cases y1
      exact ⟨ws, hG, Rps.mono s3 _ _ y2⟩
    | _ => exact False.elim ow
  · obtain ⟨b, y1, y2, y3, y4⟩ := M3.so i d' ho e
    rw [z] at y1
    cases y1
    rw [upd_same] at y4
    cases y4
end
def setAll : List Nat → List AV → Ev → Option Ev
  | [], [], ev => some ev
  | i :: is, .v d :: as, ev => setAll is as (ev.set i (some d))
  | i :: is, .o d :: as, ev => setAll is as (ev.set i (some d))
  | _, _, _ => none
def kinds (S : Sx) : List Nat → List Itm → Bool
  | [], [] => true
  | i :: is, .v _ :: as => !S.own i && !S.io i && kinds S is as
  | i :: is, .o _ :: as => S.own i && !S.io i && kinds S is as
  | _, _ => false
def kindsA (S : Sx) : List Nat → List AV → Bool
  | [], [] => true
  | i :: is, .v _ :: as => !S.own i && !S.io i && kindsA S is as
  | i :: is, .o _ :: as => S.own i && !S.io i && kindsA S is as
  | _, _ => false
theorem kinds_ev : ∀ {its : List Itm} {is : List Nat} {ev ev' : Ev} {as : List AV}, kinds S is its = true → evIt its ev = .ok (as, ev') → kindsA S is as = true
  | [], is, ev, ev', as, k, e => by
    cases e
    cases is with
    | nil => rfl
    | cons i is => cases k
  | .v m :: r, is, ev, ev', as, k, e => by
    cases is with
    | nil => cases k
    | cons i is =>
      simp only [kinds, Bool.and_eq_true] at k
      unfold evIt at e
      cases q1 : m ev with
      | err c => rw [q1] at e; cases e
      | stuck => rw [q1] at e; cases e
      | ok p1 =>
        rw [q1] at e
        simp only [Res.bind_ok] at e
        cases q2 : toVal p1.1 p1.2 with
        | err c => rw [q2] at e; cases e
        | stuck => rw [q2] at e; cases e
        | ok p2 =>
          rw [q2] at e
          simp only [Res.bind_ok] at e
          cases q3 : evIt r p2.2 with
          | err c => rw [q3] at e; cases e
          | stuck => rw [q3] at e; cases e
          | ok p3 =>
            rw [q3] at e
            cases e
            simp only [kindsA, Bool.and_eq_true]
            exact ⟨k.1, kinds_ev (as := p3.1) (ev' := p3.2) k.2 q3⟩
  | .o m :: r, is, ev, ev', as, k, e => by
    cases is with
    | nil => cases k
    | cons i is =>
      simp only [kinds, Bool.and_eq_true] at k
      unfold evIt at e
      cases q1 : m ev with
      | err c => rw [q1] at e; cases e
      | stuck => rw [q1] at e; cases e
      | ok p1 =>
        rw [q1] at e
        simp only [Res.bind_ok] at e
        cases q3 : evIt r p1.2 with
        | err c => rw [q3] at e; cases e
        | stuck => rw [q3] at e; cases e
        | ok p3 =>
          rw [q3] at e
          cases e
          simp only [kindsA, Bool.and_eq_true]
          exact ⟨k.1, kinds_ev (as := p3.1) (ev' := p3.2) k.2 q3⟩
def setV : List Nat → List V → L2.St → L2.St
  | i :: is, v :: vs, σ => setV is vs (σ.set i (some v))
  | _, _, σ => σ
theorem AVR_ev {F H : Hp} {ev ev' : Ev} {σ σ' : L2.St} (hx : ∀ G a, FreshAt S ev σ F G a → (∃ o, G a = some o) ∨ FreshAt S ev' σ' F G a) : ∀ {G : Hp} {as : List AV} {vs : List V}, AVR K mg S F H ev σ G as vs → AVR K mg S F H ev' σ' G as vs
  | G, [], vs, h => h
  | G, .v d :: as, vs, h => by
    obtain ⟨v, w, e, r, q⟩ := h
    exact ⟨v, w, e, r, AVR_ev hx q⟩
  | G, .o d :: as, vs, h => by
    obtain ⟨a, w, o, e, r, f, ha, q⟩ := h
    refine ⟨a, w, o, e, r, ?_, ha, AVR_ev hx q⟩
    rcases hx G a f with ⟨o', z⟩ | z
    · rw [f.2.1] at z; cases z
    · exact z
theorem setAll_ok : ∀ {is : List Nat} {as : List AV} {vs : List V} {G : Hp} {ev ev' : Ev} {σ : L2.St}, kindsA S is as = true → Sim K mg S F G P H ev σ → AVR K mg S F H ev σ G as vs → setAll is as ev = some ev' → Sim K mg S F G P H ev' (setV is vs σ)
  | [], [], vs, G, ev, ev', σ, k, M, av, e => by cases e; cases av; exact M
  | i :: is, .v d :: as, vs, G, ev, ev', σ, k, M, av, e => by
    simp only [kindsA, Bool.and_eq_true, Bool.not_eq_true'] at k
    obtain ⟨v, w, rfl, r, q⟩ := av
    refine setAll_ok (is := is) (as := as) k.2 (M.setv k.1.1 k.1.2 r) (AVR_ev (fun G a f => .inr ⟨f.1, f.2.1, fun j d' ho e2 z => ?_⟩) q) e
    have nj : j ≠ i := fun z => by rw [z, k.1.1] at ho; cases ho
    rw [List.getElem?_set_ne (Ne.symm nj)] at e2 z
    exact f.2.2 j d' ho e2 z
  | i :: is, .o d :: as, vs, G, ev, ev', σ, k, M, av, e => by
    simp only [kindsA, Bool.and_eq_true, Bool.not_eq_true'] at k
    obtain ⟨a, w, o, rfl, r, f, ha, q⟩ := av
    have M2 := (M.keepG r f ha)
    have M3 : Sim K mg S F G P H (ev.set i (some d)) (σ.set i (some (.ref a))) := M.seto k.1.1 k.1.2 r f
    have hs : Same G (upd G a o) := same_upd f.2.1
    -- the further fresh objects stand apart from this one
    have q2 : AVR K mg S F H (ev.set i (some d)) (σ.set i (some (.ref a))) (upd G a o) as w := by
      have gen : ∀ {G2 : Hp} {as : List AV} {w : List V}, (∃ o', G2 a = some o') → AVR K mg S F H ev σ G2 as w → AVR K mg S F H (ev.set i (some d)) (σ.set i (some (.ref a))) G2 as w := by
        intro G2 as
        induction as generalizing G2 with
        | nil => intro w _ h; exact h
        | cons x as ih =>
          intro w hg h
          cases x with
          | v d' =>
            obtain ⟨v, w', e, r', q'⟩ := h
            exact ⟨v, w', e, r', ih hg q'⟩
          | o d' =>
            obtain ⟨b, w', o', e, r', f', hb, q'⟩ := h
            have hne : b ≠ a := fun z => by
              obtain ⟨o2, z2⟩ := hg
              rw [← z, f'.2.1] at z2; cases z2
            refine ⟨b, w', o', e, r', ⟨f'.1, f'.2.1, fun j d2 ho e2 z => ?_⟩, hb, ih ?_ q'⟩
            · rcases set_get e2 with ⟨rfl, _⟩ | ⟨nj, e3⟩
              · rcases set_get z with ⟨_, z2⟩ | ⟨n2, _⟩
                · cases z2; exact hne rfl
                · exact n2 rfl
              · rw [List.getElem?_set_ne (Ne.symm nj)] at z
                exact f'.2.2 j d2 ho e3 z
            · obtain ⟨o2, z2⟩ := hg
              exact ⟨o2, by rw [upd_ne (Ne.symm hne)]; exact z2⟩
      exact gen ⟨o, upd_same⟩ q
    -- back to G
    have back : ∀ {G2 : Hp} {as : List AV} {w : List V}, ∀ G1, Same G1 G2 → AVR K mg S F H (ev.set i (some d)) (σ.set i (some (.ref a))) G2 as w → AVR K mg S F H (ev.set i (some d)) (σ.set i (some (.ref a))) G1 as w := by
      intro G2 as
      induction as generalizing G2 with
      | nil => intro w G1 _ h; exact h
      | cons x as ih =>
        intro w G1 hg h
        cases x with
        | v d' =>
          obtain ⟨v, w', e, r', q'⟩ := h
          exact ⟨v, w', e, r', ih G1 hg q'⟩
        | o d' =>
          obtain ⟨b, w', o', e, r', f', hb, q'⟩ := h
          refine ⟨b, w', o', e, r', ⟨f'.1, same_none hg f'.2.1, f'.2.2⟩, hb, ih _ ?_ q'⟩
          intro c u hc
          by_cases hcb : c = b
          · subst hcb; rw [upd_same] at hc ⊢; exact hc
          · rw [upd_ne hcb] at hc ⊢; exact hg _ _ hc
    exact setAll_ok (is := is) (as := as) k.2 M3 (back G hs q2) e
  | [], .v _ :: _, _, _, _, _, _, k, _, _, _ => by cases k
  | [], .o _ :: _, _, _, _, _, _, k, _, _, _ => by cases k
  | _ :: _, [], _, _, _, _, _, k, _, _, _ => by cases k
end
def sPar (is : List Nat) (its : List Itm) : DS := fun ev => (evIt its ev).bind fun p => (lift (setAll is p.1 p.2)).bind fun ev' => .ok (.nx, ev')
section
variable {X : Cx} {S : Sx} {W : WX} {a b c e : Expr} {its : List Itm} {pos : Pos}
theorem AVR.two {K : PySem.W.Frag} {mg : Str → Option Value} {F H G : Hp} {ev : Ev} {σ : L2.St} : ∀ {as : List AV} {vs : List V}, AVR K mg S F H ev σ G as vs → vs.length = as.length
  | [], vs, h => by cases h; rfl
  | .v d :: as, vs, h => by obtain ⟨v, w, rfl, _, q⟩ := h; simp [AVR.two q]
  | .o d :: as, vs, h => by obtain ⟨v, w, o, rfl, _, _, _, q⟩ := h; simp [AVR.two q]
theorem evIt_len : ∀ {its : List Itm} {is : List Nat} {as : List AV}, kindsA S is as = true → as.length = is.length
  | _, [], [], _ => rfl
  | its, i :: is, .v _ :: as, k => by simp only [kindsA, Bool.and_eq_true] at k; simp [evIt_len (its := its) k.2]
  | its, i :: is, .o _ :: as, k => by simp only [kindsA, Bool.and_eq_true] at k; simp [evIt_len (its := its) k.2]
  | _, [], .v _ :: _, k => by cases k
  | _, [], .o _ :: _, k => by cases k
  | _, _ :: _, [], k => by cases k
theorem sx_par (i j : Nat) {x y : Str} {px py pt : Pos} {kt k2 pt2} (hc : X.calm = true) (hN : X.N.Nodup) (ha : PA X [a, b] (tI X.K X.mg S W its)) (hk : kinds S [i, j] its = true := by rfl) (hi : X.N[i]? = some x := by rfl) (hj : X.N[j]? = some y := by rfl) (hij : i ≠ j := by decide)
    (hx : X.env.scope.names.lookup x = some .local := by rfl) (hy : X.env.scope.names.lookup y = some .local := by rfl)
    (hw : swappedStores [.Tuple [.Name x px, .Name y py] kt pt] (.Tuple [a, b] k2 pt2) X.env = pure (some [x, y]) := by rfl)
    (hs : swapsWithSole [.Tuple [.Name x px, .Name y py] kt pt] (.Tuple [a, b] k2 pt2) pos.line X.env = pure false := by rfl) :
    PS X (.Assign [.Tuple [.Name x px, .Name y py] kt pt] (.Tuple [a, b] k2 pt2) pos) (tS X.K X.mg S W (sPar [i, j] its)) := (ps_par hc hN hi hj hij hx hy ha hw hs).imp fun Dn σ H ⟨F, G, P, ev, M, h⟩ => by
  refine ⟨F, G, P, ev, M, h.bind.imp fun as ev1 F1 H1 e1 s1 M1 h1 vs av => ?_⟩
  obtain ⟨ev2, e2, h1⟩ := h1.lift
  have kA := kinds_ev hk e1
  have l1 := av.two
  have l2 := evIt_len (its := its) kA
  match vs, l1.trans l2, av with
  | [v, w], _, av => exact ⟨v, w, rfl, h1 F1 H1 _ (Same.refl _) (setAll_ok kA M1 av e2)⟩
theorem sx_par3 (i j l : Nat) {x y z : Str} {px py pz pt : Pos} {kt k2 pt2} (hc : X.calm = true) (hN : X.N.Nodup) (ha : PA X [a, b, c] (tI X.K X.mg S W its)) (hk : kinds S [i, j, l] its = true := by rfl) (hi : X.N[i]? = some x := by rfl) (hj : X.N[j]? = some y := by rfl) (hl : X.N[l]? = some z := by rfl) (hij : i ≠ j := by decide) (hil : i ≠ l := by decide) (hjl : j ≠ l := by decide)
    (hx : X.env.scope.names.lookup x = some .local := by rfl) (hy : X.env.scope.names.lookup y = some .local := by rfl) (hz : X.env.scope.names.lookup z = some .local := by rfl)
    (hw : swappedStores [.Tuple [.Name x px, .Name y py, .Name z pz] kt pt] (.Tuple [a, b, c] k2 pt2) X.env = pure (some [x, y, z]) := by rfl)
    (hs : swapsWithSole [.Tuple [.Name x px, .Name y py, .Name z pz] kt pt] (.Tuple [a, b, c] k2 pt2) pos.line X.env = pure false := by rfl) :
    PS X (.Assign [.Tuple [.Name x px, .Name y py, .Name z pz] kt pt] (.Tuple [a, b, c] k2 pt2) pos) (tS X.K X.mg S W (sPar [i, j, l] its)) := (ps_par3 hc hN hi hj hl hij hil hjl hx hy hz ha hw hs).imp fun Dn σ H ⟨F, G, P, ev, M, h⟩ => by
  refine ⟨F, G, P, ev, M, h.bind.imp fun as ev1 F1 H1 e1 s1 M1 h1 vs av => ?_⟩
  obtain ⟨ev2, e2, h1⟩ := h1.lift
  have kA := kinds_ev hk e1
  have l1 := av.two
  have l2 := evIt_len (its := its) kA
  match vs, l1.trans l2, av with
  | [v, w, u], _, av => exact ⟨v, w, u, rfl, h1 F1 H1 _ (Same.refl _) (setAll_ok kA M1 av e2)⟩
end
end TL

set_option Elab.async false
set_option linter.all false
set_option maxRecDepth 100000
namespace TL
open PySem PySem.Spec PyProof.Rows L2

/-! ### targets -/
def bName (i : Nat) : D → Ev → Option Ev := fun d ev => some (ev.set i (some d))
def bNil : List D → Ev → Option Ev
  | [], ev => some ev
  | _, _ => none
def bCons (b : D → Ev → Option Ev) (bs : List D → Ev → Option Ev) : List D → Ev → Option Ev
  | d :: ds, ev => (b d ev).bind (bs ds)
  | [], _ => none
def bTup (n : Nat) (bs : List D → Ev → Option Ev) : D → Ev → Option Ev
  | .tuple ds, ev => if ds.length = n then bs ds ev else none
  | _, _ => none
/-- the slots but those told are as they were -/
def Agree (is : List Nat) (σ σ' : L2.St) : Prop := σ'.length = σ.length ∧ ∀ j, j ∉ is → σ'[j]? = σ[j]?
theorem Agree.trans {is js : List Nat} {σ σ1 σ2 : L2.St} (a : Agree is σ σ1) (b : Agree js σ1 σ2) : Agree (is ++ js) σ σ2 := ⟨b.1.trans a.1, fun j h => by
  rw [List.mem_append, not_or] at h
  rw [b.2 j h.2, a.2 j h.1]⟩
def tG (K : PySem.W.Frag) (mg : Str → Option Value) (S : Sx) (b : D → Ev → Option Ev) (is : List Nat) : TG := fun v σ H Q => ∃ F G P ev d ev', Sim K mg S F G P H ev σ ∧ Rp K mg F d v ∧ b d ev = some ev' ∧ ∀ σ', Agree is σ σ' → Sim K mg S F G P H ev' σ' → Q σ' H
def tGs (K : PySem.W.Frag) (mg : Str → Option Value) (S : Sx) (b : List D → Ev → Option Ev) (is : List Nat) : TGs := fun vs σ H Q => ∃ F G P ev ds ev', Sim K mg S F G P H ev σ ∧ Rps K mg F ds vs ∧ b ds ev = some ev' ∧ ∀ σ', Agree is σ σ' → Sim K mg S F G P H ev' σ' → Q σ' H
theorem PG_imp {X : Cx} {e : Expr} {t t' : TG} (h : PG X e t) (w : ∀ v σ H Q, t' v σ H Q → t v σ H Q) : PG X e t' := ⟨fun pins s σ H v u Q I r q => h.run pins s σ H v u Q I r (w _ _ _ _ q)⟩
theorem PGs_imp {X : Cx} {e : List Expr} {t t' : TGs} (h : PGs X e t) (w : ∀ v σ H Q, t' v σ H Q → t v σ H Q) : PGs X e t' := ⟨fun pins s σ H v u Q I r q => h.run pins s σ H v u Q I r (w _ _ _ _ q)⟩
section
variable {X : Cx} {S : Sx} {W : WX} {a b c e : Expr} {es : List Expr} {m : DE} {pos : Pos} {bd : D → Ev → Option Ev} {bds : List D → Ev → Option Ev} {is js : List Nat}
theorem sg_name (i : Nat) {x : Str} (hN : X.N.Nodup) (h1 : S.own i = false := by rfl) (h2 : S.io i = false := by rfl) (hi : X.N[i]? = some x := by rfl) (hx : Loc X.env.scope x := by first | exact Or.inl rfl | exact Or.inr rfl)
    (hf : X.fn x = true ∨ X.env.scope.names.lookup x = some .local := by first | exact .inl rfl | exact .inr rfl) : PG X (.Name x pos) (tG X.K X.mg S (bName i) [i]) := PG_imp (pg_name (i := i) hN hi hx hf) fun v σ H Q ⟨F, G, P, ev, d, ev', M, r, e, k⟩ => by
  cases e
  exact k _ ⟨by simp, fun j hj => List.getElem?_set_ne (fun z => hj (by simp [z]))⟩ (M.setv h1 h2 r)
theorem sg_nil : PGs X [] (tGs X.K X.mg S bNil []) := PGs_imp pgs_nil fun vs σ H Q ⟨F, G, P, ev, ds, ev', M, r, e, k⟩ => by
  cases ds with
  | nil => cases e; simp only [Rps] at r; exact ⟨r, k _ ⟨rfl, fun _ _ => rfl⟩ M⟩
  | cons d ds => cases e
theorem sg_cons (h1 : PG X e (tG X.K X.mg S bd is)) (h2 : PGs X es (tGs X.K X.mg S bds js)) (hs : (assignEach (e :: es) X.env).map (·.2) = assign e X.env :: (assignEach es X.env).map (·.2) := by rfl) : PGs X (e :: es) (tGs X.K X.mg S (bCons bd bds) (is ++ js)) := PGs_imp (pgs_cons h1 h2 hs) fun vs σ H Q ⟨F, G, P, ev, ds, ev', M, r, e, k⟩ => by
  cases ds with
  | nil => cases e
  | cons d ds =>
    obtain ⟨ev1, e1, e2⟩ := Option.bind_eq_some_iff.mp e
    simp only [Rps] at r
    obtain ⟨v, w, rfl, r1, r2⟩ := r
    exact ⟨v, w, rfl, F, G, P, ev, d, ev1, M, r1, e1, fun σ' A' M' => ⟨F, G, P, ev1, ds, ev', M', r2, e2, fun σ2 A2 M2 => k σ2 (A'.trans A2) M2⟩⟩
theorem sg_tup {kk : Nat} {n : Nat} (hc : X.calm = true) (h : PGs X es (tGs X.K X.mg S bds is)) (hn : (assignEach es X.env).length = n := by rfl) (hst : (assignEach es X.env).findIdx? (·.1) = none := by rfl) : PG X (.Tuple es kk pos) (tG X.K X.mg S (bTup n bds) is) := PG_imp (pg_tup hc h hn hst) fun v σ H Q ⟨F, G, P, ev, d, ev', M, r, e, k⟩ => by
  cases d with
  | tuple ds =>
    have e : (if ds.length = n then bds ds ev else none) = some ev' := e
    by_cases hl : ds.length = n
    · rw [if_pos hl] at e
      simp only [Rp] at r
      obtain ⟨a, vs, rfl, q, rs⟩ := r
      exact ⟨a, vs, rfl, SqT_mono M.fr.fh q, by rw [← rs.len]; exact hl, F, G, P, ev, ds, ev', M, rs, e, k⟩
    · rw [if_neg hl] at e; cases e
  | _ => cases e
/-- a, b = e -/
def sUnp (b : D → Ev → Option Ev) (m : DE) : DS := fun ev => (m ev).bind fun p => (toVal p.1 p.2).bind fun q => (lift (b q.1 q.2)).bind fun ev' => .ok (.nx, ev')
theorem sx_unp {tg : Expr} (he : PE X e (tE X.K X.mg S W m)) (hg : PG X tg (tG X.K X.mg S bd is)) (hs : swapsWithSole [tg] e pos.line X.env = pure false := by rfl) (hw : swappedStores [tg] e X.env = pure none := by rfl) (ha : (assignEach [tg] X.env).map (·.2) = [assign tg X.env] := by rfl) :
    PS X (.Assign [tg] e pos) (tS X.K X.mg S W (sUnp bd m)) := (ps_asg he hg hs hw ha).imp fun Dn σ H ⟨F, G, P, ev, M, h⟩ => by
  refine ⟨F, G, P, ev, M, h.bind.imp fun rv ev1 F1 H1 _ q1 M1 h3 v r => ?_⟩
  obtain ⟨d, ev2, F2, _, s2, M2, r2, h3⟩ := tN.val M1 r h3
  obtain ⟨ev3, e3, h3⟩ := h3.lift
  exact ⟨F2, G, P, ev2, d, ev3, M2, r2, e3, fun σ' _ M' => h3 F2 H1 σ' (Same.refl _) M'⟩

/-! ### what is walked -/
def Serves (K : PySem.W.Frag) (mg : Str → Option Value) (J : It) (F : Hp) (ds : List D) : Prop := ∀ F1 H1 (i : Nat), Same F F1 → Same F1 H1 → (i = ds.length → J.stop i H1) ∧ ∀ d, ds[i]? = some d → J.go i H1 ∧ ∀ x H2, J.yld i H1 x H2 → ∃ F2, Grow F1 H1 F2 H2 ∧ Rp K mg F2 d x
abbrev DI := Ev → Res (List D × Ev)
def tIt (K : PySem.W.Frag) (mg : Str → Option Value) (S : Sx) (W : WX) (m : DI) : TI := fun σ H R => ∃ F G P ev, Sim K mg S F G P H ev σ ∧ tM K mg S W G P σ F (m ev) fun ds _ F' H' => ∀ J, Serves K mg J F' ds → R J H'
theorem PI_imp {X : Cx} {tg e : Expr} {t t' : TI} (h : PI X tg e t) (w : ∀ σ H R, t' σ H R → t σ H R) : PI X tg e t' := ⟨fun pins s σ H R I q => h.run pins s σ H R I (w _ _ _ q)⟩
def iSeqR (K : PySem.W.Frag) (tl : TE) : TI := fun σ H R => tl σ H fun x H1 => (∃ a, x = .ref a ∧ ((∃ xs, SqL K H1 a xs ∧ R (Itl K a) H1) ∨ ∃ xs, SqT K H1 a xs ∧ R (Itt K a) H1)) ∨ ∃ z, x = .str z ∧ R (Its z) H1
theorem pi_seqR {tg l : Expr} {tl : TE} (hl : PE X l tl) : PI X tg l (iSeqR X.K tl) := by
  refine ⟨fun pins s σ H R I h => ?_⟩
  refine thn (hl.run pins s σ H _ I h) fun v s1 ⟨x, H1, I1, r1, q1⟩ => ?_
  rcases q1 with ⟨a, e, ⟨xs, hq, q⟩ | ⟨xs, hq, q⟩⟩ | ⟨z, e, q⟩
  · subst e
    cases r1
    obtain ⟨its, rv, p, hz⟩ := I1.list hq
    refine wpAny_pyIter_list p.isList ?_
    refine ⟨s1.heap.objs.size, [s1.heap.objs.size], _, _, H1, rfl, I1.kept (t' := s1.toks) fun b o e => Heap.get?_push_of_some _ e, turn_list a _, ⟨_, Heap.get?_push_size _ rfl, rfl, rfl⟩, fun b hb => ?_, q⟩
    have e : b = s1.heap.objs.size := by simpa using hb
    subst e
    exact I1.fpOk (Nat.le_refl _) (I1.hok.fresh (Nat.le_refl _))
  · subst e
    cases r1
    obtain ⟨its, rv, p, hz⟩ := I1.tuple hq
    refine wpAny_pyIter_tuple (show s1.heap.IsTuple a its.toArray from p) ?_
    refine ⟨s1.heap.objs.size, [s1.heap.objs.size], _, _, H1, rfl, I1.kept (t' := s1.toks) fun b o e => Heap.get?_push_of_some _ e, turn_tuple a _, ⟨_, Heap.get?_push_size _ rfl, rfl, rfl⟩, fun b hb => ?_, q⟩
    have e : b = s1.heap.objs.size := by simpa using hb
    subst e
    exact I1.fpOk (Nat.le_refl _) (I1.hok.fresh (Nat.le_refl _))
  · subst e
    obtain ⟨t, rfl⟩ := r1
    cases ha : z.cps.all (· < 128)
    · exact wpAny_pyIter_wide ha (pi_one (tk := s1.toks) I1 _ (turn_str _ z t "str_iterator" (.inr rfl)) ⟨_, Heap.get?_push_size _ rfl, rfl, rfl⟩ q)
    · exact wpAny_pyIter_ascii ha (pi_one (tk := s1.toks) I1 _ (turn_str _ z t "str_ascii_iterator" (.inl rfl)) ⟨_, Heap.get?_push_size _ rfl, rfl, rfl⟩ q)
def seqOf : D → Option (List D)
  | .list ds => some ds
  | .tuple ds => some ds
  | .str z => some (z.cps.toList.map fun c => .str ⟨#[c]⟩)
  | _ => none
section
variable {K : PySem.W.Frag} {mg : Str → Option Value} {F : Hp} {a b : Addr} {ds es : List D} {vs ws : List V}
theorem serves_list (h : Rd F a (.lst vs)) (r : Rps K mg F ds vs) : Serves K mg (Itl K a) F ds := fun F1 H1 i s1 s2 => by
  have q : SqL K H1 a vs := .inl (Rd_mono (s1.trans s2) h)
  refine ⟨fun e => ⟨vs, q, by rw [e, r.len]; exact Nat.le_refl _⟩, fun d e => ?_⟩
  obtain ⟨v, e2, rv⟩ := Rps.get r e
  refine ⟨⟨vs, v, q, e2⟩, fun x H2 y => ?_⟩
  obtain ⟨rfl, y⟩ := y
  have := y vs q
  rw [e2] at this
  cases this
  exact ⟨F1, Grow.refl _ _, Rp.mono s1 _ _ rv⟩
theorem serves_tup (h : SqT K F a vs) (r : Rps K mg F ds vs) : Serves K mg (Itt K a) F ds := fun F1 H1 i s1 s2 => by
  have q : SqT K H1 a vs := SqT_mono (s1.trans s2) h
  refine ⟨fun e => ⟨vs, q, by rw [e, r.len]; exact Nat.le_refl _⟩, fun d e => ?_⟩
  obtain ⟨v, e2, rv⟩ := Rps.get r e
  refine ⟨⟨vs, v, q, e2⟩, fun x H2 y => ?_⟩
  obtain ⟨rfl, y⟩ := y
  have := y vs q
  rw [e2] at this
  cases this
  exact ⟨F1, Grow.refl _ _, Rp.mono s1 _ _ rv⟩
theorem serves_str (z : Str) : Serves K mg (Its z) F (z.cps.toList.map fun c => .str ⟨#[c]⟩) := fun F1 H1 i s1 s2 => by
  refine ⟨fun e => by show z.cps.size ≤ i; rw [e]; simp, fun d e => ?_⟩
  rw [List.getElem?_map] at e
  obtain ⟨c, e1, rfl⟩ := Option.map_eq_some_iff.mp e
  have hlt : i < z.cps.size := by
    have := (List.getElem?_eq_some_iff.mp e1).1
    simpa using this
  refine ⟨hlt, fun x H2 y => ?_⟩
  obtain ⟨rfl, c', e2, rfl⟩ := y
  rw [Array.getElem?_toList] at e1
  rw [e1] at e2
  cases e2
  exact ⟨F1, Grow.refl _ _, rp_str _⟩
theorem serves_range (lo : Int) (n : Nat) : Serves K mg (Itr lo n) F ((List.range n).map fun i => .int (lo + (i : Nat))) := fun F1 H1 i s1 s2 => by
  refine ⟨fun e => by show n ≤ i; rw [e]; simp, fun d e => ?_⟩
  rw [List.getElem?_map] at e
  obtain ⟨c, e1, rfl⟩ := Option.map_eq_some_iff.mp e
  obtain ⟨hlt, hc⟩ := List.getElem?_eq_some_iff.mp e1
  rw [List.length_range] at hlt
  rw [List.getElem_range] at hc
  subst hc
  refine ⟨hlt, fun x H2 y => ?_⟩
  obtain ⟨rfl, rfl⟩ := y
  exact ⟨F1, Grow.refl _ _, rp_int _⟩
theorem serves_rangeC (lo c : Int) (n : Nat) : Serves K mg (Itc lo c n) F ((List.range n).map fun i => .int (lo + (i : Nat) * c)) := fun F1 H1 i s1 s2 => by
  refine ⟨fun e => by show n ≤ i; rw [e]; simp, fun d e => ?_⟩
  rw [List.getElem?_map] at e
  obtain ⟨k, e1, rfl⟩ := Option.map_eq_some_iff.mp e
  obtain ⟨hlt, hc⟩ := List.getElem?_eq_some_iff.mp e1
  rw [List.length_range] at hlt
  rw [List.getElem_range] at hc
  subst hc
  refine ⟨hlt, fun x H2 y => ?_⟩
  obtain ⟨rfl, rfl⟩ := y
  exact ⟨F1, Grow.refl _ _, rp_int _⟩
def zip2 (ds es : List D) : List D := List.zipWith (fun x y => .tuple [x, y]) ds es
theorem zip2_get {ds es : List D} {i : Nat} {d : D} (e : (zip2 ds es)[i]? = some d) : ∃ x y, ds[i]? = some x ∧ es[i]? = some y ∧ d = .tuple [x, y] := by
  unfold zip2 at e
  rw [List.getElem?_zipWith] at e
  cases q1 : ds[i]? with
  | none => simp [q1] at e
  | some x =>
    cases q2 : es[i]? with
    | none => simp [q1, q2] at e
    | some y => simp [q1, q2] at e; exact ⟨x, y, rfl, rfl, e.symm⟩
theorem pair_new {F H : Hp} {x y : V} {dx dy : D} {T : Addr} (s : Same F H) (hT : H T = none) (r1 : Rp K mg F dx x) (r2 : Rp K mg F dy y) : ∃ F2, Grow F H F2 (upd H T (.tup [x, y])) ∧ Rp K mg F2 (.tuple [dx, dy]) (.ref T) := by
  refine ⟨upd F T (.tup [x, y]), Grow.frz s hT (fun ps z => nomatch z), ?_⟩
  have sm : Same F (upd F T (.tup [x, y])) := same_upd (same_none s hT)
  simp only [Rp]
  refine ⟨T, [x, y], rfl, .inl (.inl upd_same), ?_⟩
  simp only [Rps]
  exact ⟨x, [y], rfl, Rp.mono sm _ _ r1, y, [], rfl, Rp.mono sm _ _ r2, rfl⟩
theorem serves_zipL (h : Rd F a (.lst vs)) (r : Rps K mg F ds vs) (h2 : Rd F b (.lst ws)) (r2 : Rps K mg F es ws) : Serves K mg (Itz K a b) F (zip2 ds es) := fun F1 H1 i s1 s2 => by
  have q : SqL K H1 a vs := .inl (Rd_mono (s1.trans s2) h)
  have q2 : SqL K H1 b ws := .inl (Rd_mono (s1.trans s2) h2)
  refine ⟨fun e => ⟨vs, ws, q, q2, ?_⟩, fun d e => ?_⟩
  · have l1 := r.len
    have l2 := r2.len
    unfold zip2 at e
    rw [List.length_zipWith] at e
    omega
  · obtain ⟨x, y, e1, e2, rfl⟩ := zip2_get e
    obtain ⟨v, e3, rv⟩ := Rps.get r e1
    obtain ⟨w, e4, rw'⟩ := Rps.get r2 e2
    refine ⟨⟨vs, ws, v, w, q, q2, e3, e4⟩, fun u H2 yl => ?_⟩
    obtain ⟨T, x', y', rfl, hT, rfl, f1, f2⟩ := yl
    have z1 := f1 vs q
    have z2 := f2 ws q2
    rw [e3] at z1
    rw [e4] at z2
    cases z1
    cases z2
    exact pair_new s2 hT (Rp.mono s1 _ _ rv) (Rp.mono s1 _ _ rw')
theorem serves_zipT (h : SqT K F a vs) (r : Rps K mg F ds vs) (h2 : SqT K F b ws) (r2 : Rps K mg F es ws) : Serves K mg (RZ.ItzT K a b) F (zip2 ds es) := fun F1 H1 i s1 s2 => by
  have q : SqT K H1 a vs := SqT_mono (s1.trans s2) h
  have q2 : SqT K H1 b ws := SqT_mono (s1.trans s2) h2
  refine ⟨fun e => ⟨vs, ws, q, q2, ?_⟩, fun d e => ?_⟩
  · have l1 := r.len
    have l2 := r2.len
    unfold zip2 at e
    rw [List.length_zipWith] at e
    omega
  · obtain ⟨x, y, e1, e2, rfl⟩ := zip2_get e
    obtain ⟨v, e3, rv⟩ := Rps.get r e1
    obtain ⟨w, e4, rw'⟩ := Rps.get r2 e2
    refine ⟨⟨vs, ws, v, w, q, q2, e3, e4⟩, fun u H2 yl => ?_⟩
    obtain ⟨T, x', y', rfl, hT, rfl, f1, f2⟩ := yl
    have z1 := f1 vs q
    have z2 := f2 ws q2
    rw [e3] at z1
    rw [e4] at z2
    cases z1
    cases z2
    exact pair_new s2 hT (Rp.mono s1 _ _ rv) (Rp.mono s1 _ _ rw')
end
def iSeq (m : DE) : DI := fun ev => (m ev).bind fun p => (toVal p.1 p.2).bind fun q => (lift (seqOf q.1)).bind fun ds => .ok (ds, q.2)
def zipD : List D → Option (List D)
  | [.list xs, .list ys] => some (zip2 xs ys)
  | [.tuple xs, .tuple ys] => some (zip2 xs ys)
  | _ => none
def iZip (ms : DA) : DI := fun ev => (ms ev).bind fun p => (vals p.1 p.2).bind fun q => (lift (zipD q.1)).bind fun ds => .ok (ds, q.2)
def rngD1 : List D → Option (List D)
  | [.int j] => if -(2 ^ 62) ≤ j ∧ j < 2 ^ 62 then some ((List.range j.toNat).map fun i => .int (0 + (i : Nat))) else none
  | _ => none
def rngD2 : List D → Option (List D)
  | [.int i, .int j] => if -(2 ^ 62) ≤ i ∧ i < 2 ^ 62 ∧ -(2 ^ 62) ≤ j ∧ j < 2 ^ 62 then some ((List.range (j - i).toNat).map fun k => .int (i + (k : Nat))) else none
  | _ => none
def iRng1 (ms : DA) : DI := fun ev => (ms ev).bind fun p => (lift (gets p.1 p.2)).bind fun ds => (lift (rngD1 ds)).bind fun r => .ok (r, p.2)
def iRng2 (ms : DA) : DI := fun ev => (ms ev).bind fun p => (lift (gets p.1 p.2)).bind fun ds => (lift (rngD2 ds)).bind fun r => .ok (r, p.2)
section
variable {X : Cx} {S : Sx} {W : WX} {a b c e tg : Expr} {es : List Expr} {m : DE} {ms : DA} {pos p : Pos}
theorem sj_seq (he : PE X e (tE X.K X.mg S W m)) : PI X tg e (tIt X.K X.mg S W (iSeq m)) := PI_imp (pi_seqR he) fun σ H R ⟨F, G, P, ev, M, h⟩ => by
  refine ⟨F, G, P, ev, M, h.bind.imp fun rv ev1 F1 H1 _ q1 M1 h3 v r => ?_⟩
  obtain ⟨d, ev2, F2, _, s2, M2, r2, h3⟩ := tM.val M1 r h3
  obtain ⟨ds, e3, h3⟩ := h3.lift
  cases d with
  | list xs =>
    cases e3
    simp only [Rp] at r2
    obtain ⟨a, vs, rfl, q, rs⟩ := r2
    exact .inl ⟨a, rfl, .inl ⟨vs, .inl (Rd_mono M2.fr.fh q), h3 F2 H1 (Same.refl _) M2 _ (serves_list q rs)⟩⟩
  | tuple xs =>
    cases e3
    simp only [Rp] at r2
    obtain ⟨a, vs, rfl, q, rs⟩ := r2
    exact .inl ⟨a, rfl, .inr ⟨vs, SqT_mono M2.fr.fh q, h3 F2 H1 (Same.refl _) M2 _ (serves_tup q rs)⟩⟩
  | str z =>
    cases e3
    simp only [Rp] at r2
    exact .inr ⟨z, r2, h3 F2 H1 (Same.refl _) M2 _ (serves_str z)⟩
  | _ => cases e3
theorem Rps.two {K : PySem.W.Frag} {mg : Str → Option Value} {F : Hp} {x y : D} {vs : List V} (h : Rps K mg F [x, y] vs) : ∃ v w, vs = [v, w] ∧ Rp K mg F x v ∧ Rp K mg F y w := by
  simp only [Rps] at h
  obtain ⟨v, r, rfl, h1, w, r2, rfl, h2, rfl⟩ := h
  exact ⟨v, w, rfl, h1, h2⟩
theorem sj_zip {tpos : Pos} {elts : List Expr} {kk : Nat} (hg : Gl X "zip") (hm : X.mg "zip" = none) (ha : PA X [a, b] (tA X.K X.mg S W ms)) (hs : starEach [a, b] X.env = (false, eval a X.env) :: starEach [b] X.env := by rfl) (hpl : (backTo pos (starEach [b] X.env)).any (·.1) = false := by rfl) :
    PI X (.Tuple elts kk tpos) (.Call (.Name "zip" p) [a, b] [] pos) (tIt X.K X.mg S W (iZip ms)) := PI_imp (RZ.pi_zipA hg hm ha hs hpl) fun σ H R ⟨F, G, P, ev, M, h⟩ => by
  refine ⟨F, G, P, ev, M, h.bind.imp fun rs ev1 F1 H1 _ q1 M1 h3 vs r => ?_⟩
  obtain ⟨ds, ev2, F2, _, s2, M2, r2, h3⟩ := tM.vals M1 r h3
  obtain ⟨zs, e3, h3⟩ := h3.lift
  replace e3 : zipD ds = some zs := e3
  unfold zipD at e3
  split at e3
  · cases e3
    obtain ⟨v, w, rfl, x1, x2⟩ := r2.two
    simp only [Rp] at x1 x2
    obtain ⟨a1, vs1, rfl, q1, y1⟩ := x1
    obtain ⟨a2, vs2, rfl, q2, y2⟩ := x2
    exact ⟨a1, a2, vs1, vs2, rfl, .inl ⟨.inl (Rd_mono M2.fr.fh q1), .inl (Rd_mono M2.fr.fh q2), h3 F2 H1 (Same.refl _) M2 _ (serves_zipL q1 y1 q2 y2)⟩⟩
  · cases e3
    obtain ⟨v, w, rfl, x1, x2⟩ := r2.two
    simp only [Rp] at x1 x2
    obtain ⟨a1, vs1, rfl, q1, y1⟩ := x1
    obtain ⟨a2, vs2, rfl, q2, y2⟩ := x2
    exact ⟨a1, a2, vs1, vs2, rfl, .inr ⟨SqT_mono M2.fr.fh q1, SqT_mono M2.fr.fh q2, h3 F2 H1 (Same.refl _) M2 _ (serves_zipT q1 y1 q2 y2)⟩⟩
  · cases e3
theorem sj_rng1 (hg : Gl X "range") (hm : X.mg "range" = none) (ha : PA X [a] (tA X.K X.mg S W ms)) (hs : starEach [a] X.env = [(false, eval a X.env)] := by rfl) : PI X tg (.Call (.Name "range" p) [a] [] pos) (tIt X.K X.mg S W (iRng1 ms)) := PI_imp (pi_range1 hg hm ha hs) fun σ H R ⟨F, G, P, ev, M, h⟩ => by
  refine ⟨F, G, P, ev, M, h.bind.imp fun rs ev1 F1 H1 _ q1 M1 h3 vs r => ?_⟩
  obtain ⟨ds, e2, h3⟩ := h3.lift
  obtain ⟨zs, e3, h3⟩ := h3.lift
  obtain ⟨l, q⟩ := gets_ok M1 r e2
  unfold rngD1 at e3
  split at e3
  · split at e3
    · rename_i hh
      cases e3
      obtain ⟨x, rfl, qx⟩ := rq1 l q
      obtain rfl := qx.int
      exact ⟨_, rfl, hh.1, hh.2, h3 F1 H1 (Same.refl _) M1 _ (serves_range _ _)⟩
    · cases e3
  · cases e3
theorem sj_rng2 (hg : Gl X "range") (hm : X.mg "range" = none) (ha : PA X [a, b] (tA X.K X.mg S W ms)) (hs : starEach [a, b] X.env = [(false, eval a X.env), (false, eval b X.env)] := by rfl) (hs2 : starEach [b] X.env = [(false, eval b X.env)] := by rfl) : PI X tg (.Call (.Name "range" p) [a, b] [] pos) (tIt X.K X.mg S W (iRng2 ms)) := PI_imp (pi_range2 hg hm ha hs hs2) fun σ H R ⟨F, G, P, ev, M, h⟩ => by
  refine ⟨F, G, P, ev, M, h.bind.imp fun rs ev1 F1 H1 _ q1 M1 h3 vs r => ?_⟩
  obtain ⟨ds, e2, h3⟩ := h3.lift
  obtain ⟨zs, e3, h3⟩ := h3.lift
  obtain ⟨l, q⟩ := gets_ok M1 r e2
  unfold rngD2 at e3
  split at e3
  · split at e3
    · rename_i hh
      cases e3
      obtain ⟨x, y, rfl, qx, qy⟩ := rq2 l q
      obtain rfl := qx.int
      obtain rfl := qy.int
      exact ⟨_, _, rfl, hh, h3 F1 H1 (Same.refl _) M1 _ (serves_range _ _)⟩
    · cases e3
  · cases e3

/-! ### for -/
def forL (b : D → Ev → Option Ev) (body : DS) : List D → Ev → Res (Fl × Ev)
  | [], ev => .ok (.nx, ev)
  | d :: ds, ev => (lift (b d ev)).bind fun ev1 => (body ev1).bind fun p => match p.1 with
    | .nx => forL b body ds p.2
    | .ct => forL b body ds p.2
    | .bk => .ok (.nx, p.2)
    | f => .ok (f, p.2)
def sFor (it : DI) (b : D → Ev → Option Ev) (body : DS) : DS := fun ev => (it ev).bind fun p => forL b body p.1 p.2
variable {bd : D → Ev → Option Ev} {sb : DS} {body : List Stmt} {it : DI}
theorem sx_for {iter : Expr} (hp : PassesOwn (model X.prog X.w) X.A X.env X.xe) (hc : X.calm = true) (hi : PI X tg iter (tIt X.K X.mg S W it)) (hg : PG X tg (tG X.K X.mg S bd is)) (hb : PSs X body (tS X.K X.mg S W sb)) (hs : ∀ x, foldedSetIterable iter X.env x = pure x := by intro _; rfl) :
    PS X (.For tg iter body [] pos) (tS X.K X.mg S W (sFor it bd sb)) := (ps_for hp hc hi hg hb hs).imp fun Dn σ H ⟨F, G, P, ev, M, h⟩ => by
  refine ⟨F, G, P, ev, M, h.bind.imp fun ds ev1 F1 H1 _ q1 M1 h1 J sv => ?_⟩
  refine ⟨fun i m σ H => ∃ F ev, Same F1 F ∧ Sim X.K X.mg S F G P H ev σ ∧ i ≤ ds.length ∧ m = ds.length - i ∧ tN X.K X.mg S W G P F (forL bd sb (ds.drop i) ev) (postS X.K X.mg S G Dn), ⟨ds.length, F1, ev1, Same.refl _, M1, Nat.zero_le _, rfl, h1⟩, ?_⟩
  rintro i m σ2 H2 ⟨F2, ev2, s2, M2, hi, rfl, h2⟩
  obtain ⟨st, gg⟩ := sv F2 H2 i s2 M2.fr.fh
  by_cases hlt : i < ds.length
  · have hd : ds[i]? = some ds[i] := List.getElem?_eq_getElem hlt
    obtain ⟨g1, g2⟩ := gg _ hd
    rw [List.drop_eq_getElem_cons hlt] at h2
    unfold forL at h2
    obtain ⟨ev3, e3, h2⟩ := h2.lift
    refine .inr ⟨g1, fun σ H => ∃ F ev, Same F1 F ∧ Sim X.K X.mg S F G P H ev σ ∧ tN X.K X.mg S W G P F (forL bd sb (ds.drop (i + 1)) ev) (postS X.K X.mg S G Dn), fun σ' H' ⟨F', ev', a1, a2, a3⟩ => ⟨ds.length - (i + 1), by omega, F', ev', a1, a2, by omega, rfl, a3⟩, fun x H' yl => ?_⟩
    obtain ⟨F3, gr, rx⟩ := g2 x H' yl
    have M3 := M2.grow gr
    refine ⟨F3, G, P, ev2, _, ev3, M3, rx, e3, fun σ' _ M' => ⟨F3, G, P, ev3, M', ?_⟩⟩
    have h4 := tN.mono gr.f h2
    cases q : sb ev3 with
    | err c => rw [q] at h4; exact h4
    | stuck => rw [q] at h4; exact h4
    | ok p =>
      obtain ⟨fl, ev4⟩ := p
      rw [q] at h4
      simp only [Res.bind_ok] at h4
      intro F4 H4 σ4 s4 M4
      cases fl with
      | nx => exact ⟨F4, ev4, (s2.trans gr.f).trans s4, M4, tN.mono s4 h4⟩
      | ct => exact ⟨F4, ev4, (s2.trans gr.f).trans s4, M4, tN.mono s4 h4⟩
      | bk => exact h4 F4 H4 σ4 s4 M4
      | rt d => exact h4 F4 H4 σ4 s4 M4
      | rto d => exact h4 F4 H4 σ4 s4 M4
  · have e : i = ds.length := by omega
    subst e
    rw [List.drop_length] at h2
    exact .inl ⟨st rfl, h2 F2 H2 σ2 (Same.refl _) M2⟩

/-! ### while -/
def whileN (t : DT) (body : DS) : Nat → Ev → Res (Fl × Ev)
  | 0, _ => .stuck
  | n + 1, ev => (t ev).bind fun p => bif p.1 then ((body p.2).bind fun q => match q.1 with
    | .nx => whileN t body n q.2
    | .ct => whileN t body n q.2
    | .bk => .ok (.nx, q.2)
    | f => .ok (f, q.2)) else .ok (.nx, p.2)
def sWhile (n : Nat) (t : DT) (body : DS) : DS := whileN t body n
theorem sx_while (n : Nat) {ta : DT} (hp : PassesOwn (model X.prog X.w) X.A X.env X.xe) (hc : PT X c (tT X.K X.mg S W ta)) (hb : PSs X body (tS X.K X.mg S W sb)) : PS X (.While c body [] pos) (tS X.K X.mg S W (sWhile n ta sb)) := (ps_while hp hc hb).imp fun Dn σ H ⟨F, G, P, ev, M, h⟩ => by
  refine ⟨fun m σ H => ∃ F ev, Sim X.K X.mg S F G P H ev σ ∧ tN X.K X.mg S W G P F (whileN ta sb m ev) (postS X.K X.mg S G Dn), ⟨n, F, ev, M, h⟩, ?_⟩
  rintro m σ2 H2 ⟨F2, ev2, M2, h2⟩
  cases m with
  | zero => exact False.elim h2
  | succ m =>
    unfold whileN at h2
    refine ⟨F2, G, P, ev2, M2, h2.bind.imp fun b ev3 F3 H3 _ s3 M3 h3 => ?_⟩
    cases b with
    | false => exact h3 F3 H3 σ2 (Same.refl _) M3
    | true =>
      rw [if_pos rfl]
      refine ⟨fun σ H => ∃ F ev, Sim X.K X.mg S F G P H ev σ ∧ tN X.K X.mg S W G P F (whileN ta sb m ev) (postS X.K X.mg S G Dn), fun σ' H' q => ⟨m, Nat.lt_succ_self _, q⟩, F3, G, P, ev3, M3, ?_⟩
      simp only [cond_true] at h3
      cases q : sb ev3 with
      | err c => rw [q] at h3; exact h3
      | stuck => rw [q] at h3; exact h3
      | ok p =>
        obtain ⟨fl, ev4⟩ := p
        rw [q] at h3
        simp only [Res.bind_ok] at h3
        intro F4 H4 σ4 s4 M4
        cases fl with
        | nx => exact ⟨F4, ev4, M4, tN.mono s4 h3⟩
        | ct => exact ⟨F4, ev4, M4, tN.mono s4 h3⟩
        | bk => exact h3 F4 H4 σ4 s4 M4
        | rt d => exact h3 F4 H4 σ4 s4 M4
        | rto d => exact h3 F4 H4 σ4 s4 M4
end
end
end TL

set_option Elab.async false
set_option linter.all false
set_option maxRecDepth 100000
namespace TL
open PySem PySem.Spec PyProof.Rows L2

/-! ### comprehensions -/
def wipeE (ev : Ev) : List Nat → Ev
  | [] => ev
  | v :: vs => (wipeE ev vs).set v none
def backE (old new : Ev) : List Nat → Ev
  | [] => new
  | v :: vs => (backE old new vs).set v (old[v]?).join
def noErr {α : Type} : Res α → Res α
  | .ok a => .ok a
  | _ => .stuck
@[simp] theorem noErr_ok {α : Type} (a : α) : noErr (Res.ok a) = .ok a := rfl
theorem Res.bind_assoc {α β γ : Type} (x : Res α) (f : α → Res β) (g : β → Res γ) : (x.bind f).bind g = x.bind fun a => (f a).bind g := by cases x <;> rfl
def tYesD : DT := fun ev => .ok (true, ev)
def compL (b : D → Ev → Option Ev) (t : DT) (m : DE) (vs : List Nat) : List D → List D → Ev → Res (List D × Ev)
  | [], acc, ev => .ok (acc, ev)
  | d :: ds, acc, ev => (lift (b d ev)).bind fun ev1 => (noErr (t ev1)).bind fun p => bif p.1 then (noErr (m p.2)).bind fun q => (toVal q.1 q.2).bind fun r => compL b t m vs ds (acc ++ [r.1]) (wipeE r.2 vs) else compL b t m vs ds acc (wipeE p.2 vs)
def oComp (it : DI) (vs : List Nat) (b : D → Ev → Option Ev) (t : DT) (m : DE) : DO := fun ev => (it ev).bind fun p => if p.1.length ≤ sizeLine then (compL b t m vs p.1 [] (wipeE p.2 vs)).bind fun q => .ok (.list q.1, backE p.2 q.2 vs) else .stuck
section
variable {K : PySem.W.Frag} {mg : Str → Option Value} {S : Sx} {F F' G H H' : Hp} {P : Nat → Option Addr} {ev ev' : Ev} {σ σ' : L2.St}
theorem wipe_get {σ : L2.St} {i : Nat} : ∀ {vs : List Nat}, i ∉ vs → (wipe σ vs)[i]? = σ[i]?
  | [], _ => rfl
  | v :: vs, h => by
    rw [List.mem_cons, not_or] at h
    show ((wipe σ vs).set v none)[i]? = _
    rw [List.getElem?_set_ne (Ne.symm h.1), wipe_get h.2]
theorem wipeE_len : ∀ {vs : List Nat}, (wipeE ev vs).length = ev.length
  | [] => rfl
  | v :: vs => by show ((wipeE ev vs).set v none).length = _; rw [List.length_set, wipeE_len]
theorem wipeE_some {i : Nat} {d : D} : ∀ {vs : List Nat}, (wipeE ev vs)[i]? = some (some d) → i ∉ vs ∧ ev[i]? = some (some d)
  | [], h => ⟨by simp, h⟩
  | v :: vs, h => by
    obtain ⟨h1, h2⟩ := set_none_some (show ((wipeE ev vs).set v none)[i]? = some (some d) from h)
    obtain ⟨h3, h4⟩ := wipeE_some h2
    exact ⟨by rw [List.mem_cons, not_or]; exact ⟨h1, h3⟩, h4⟩
theorem agree_wipe : ∀ {vs : List Nat} {σ σ' : L2.St}, Agree vs σ σ' → wipe σ' vs = wipe σ vs := fun {vs σ σ'} a => by
  have hl : (wipe σ' vs).length = (wipe σ vs).length := by rw [wipe_length, wipe_length]; exact a.1
  have hin : ∀ {τ : L2.St} {ws : List Nat} {i : Nat}, i ∈ ws → i < τ.length → (wipe τ ws)[i]? = some none := by
    intro τ ws
    induction ws with
    | nil => intro i h; simp at h
    | cons v ws ih =>
      intro i h hlt
      show ((wipe τ ws).set v none)[i]? = some none
      by_cases e : i = v
      · subst e; exact set_same (by rw [wipe_length]; exact hlt)
      · rw [List.getElem?_set_ne (Ne.symm e)]
        exact ih ((List.mem_cons.mp h).resolve_left e) hlt
  apply List.ext_getElem?
  intro i
  have a1 := a.1
  by_cases hi : i ∈ vs
  · by_cases hlt : i < σ.length
    · rw [hin hi hlt, hin hi (by omega)]
    · rw [List.getElem?_eq_none (by rw [wipe_length]; omega), List.getElem?_eq_none (by rw [wipe_length]; omega)]
  · rw [wipe_get hi, wipe_get hi, a.2 i hi]
theorem wipe_wipe (σ : L2.St) (vs : List Nat) : wipe (wipe σ vs) vs = wipe σ vs := agree_wipe ⟨wipe_length _ _, fun j hj => wipe_get hj⟩
/-- the slots of the block's own names are forgotten -/
theorem Sim.wiped (M : Sim K mg S F G P H ev σ) {vs : List Nat} (hv : ∀ v ∈ vs, S.own v = false ∧ S.io v = false) (hw : wipe σ' vs = wipe σ vs) (hl : σ'.length = σ.length) : Sim K mg S F G P H (wipeE ev vs) σ' where
  fr := M.fr
  len := by rw [wipeE_len, hl]; exact M.len
  sl := fun i d h e => by
    obtain ⟨h1, h2⟩ := wipeE_some e
    obtain ⟨v, e1, r⟩ := M.sl i d h h2
    refine ⟨v, ?_, r⟩
    rw [← wipe_get h1, hw, wipe_get h1]; exact e1
  so := fun i d h e => by
    obtain ⟨h1, h2⟩ := wipeE_some e
    obtain ⟨a, e1, r⟩ := M.so i d h h2
    refine ⟨a, ?_, r⟩
    rw [← wipe_get h1, hw, wipe_get h1]; exact e1
  sp := fun i j d e' a hi hj hn q1 q2 q3 q4 => by
    obtain ⟨a1, a2⟩ := wipeE_some q1
    obtain ⟨b1, b2⟩ := wipeE_some q2
    rw [← wipe_get a1, hw, wipe_get a1] at q3
    rw [← wipe_get b1, hw, wipe_get b1] at q4
    exact M.sp i j d e' a hi hj hn a2 b2 q3 q4
  pn := fun i a e => by
    obtain ⟨h1, h2⟩ := M.pn i a e
    have h3 : i ∉ vs := fun z => by rw [(hv i z).2] at h1; cases h1
    exact ⟨h1, by rw [← wipe_get h3, hw, wipe_get h3]; exact h2⟩
theorem backE_len {old new : Ev} : ∀ {vs : List Nat}, (backE old new vs).length = new.length
  | [] => rfl
  | v :: vs => by show ((backE old new vs).set v _).length = _; rw [List.length_set, backE_len]
theorem backE_some {old new : Ev} {i : Nat} {d : D} : ∀ {vs : List Nat}, (backE old new vs)[i]? = some (some d) → (i ∈ vs ∧ old[i]? = some (some d)) ∨ (i ∉ vs ∧ new[i]? = some (some d))
  | [], h => .inr ⟨by simp, h⟩
  | v :: vs, h => by
    rcases set_get (show ((backE old new vs).set v (old[v]?).join)[i]? = some (some d) from h) with ⟨rfl, e⟩ | ⟨hn, e⟩
    · exact .inl ⟨List.mem_cons_self, join_some e.symm⟩
    · rcases backE_some e with ⟨a, b⟩ | ⟨a, b⟩
      · exact .inl ⟨List.mem_cons_of_mem _ a, b⟩
      · exact .inr ⟨by rw [List.mem_cons, not_or]; exact ⟨hn, a⟩, b⟩
/-- behind the comprehension the block's names are as they were -/
theorem Sim.back (M0 : Sim K mg S F G P H ev σ) (s : Same F F') (M : Sim K mg S F' G P H' ev' (wipe σ vs)) (hv : ∀ v ∈ vs, S.own v = false ∧ S.io v = false) : Sim K mg S F' G P H' (backE ev ev' vs) σ where
  fr := M.fr
  len := by rw [backE_len, M.len, wipe_length]
  sl := fun i d h e => by
    rcases backE_some e with ⟨h1, h2⟩ | ⟨h1, h2⟩
    · obtain ⟨v, e1, r⟩ := M0.sl i d h h2
      exact ⟨v, e1, Rp.mono s _ _ r⟩
    · obtain ⟨v, e1, r⟩ := M.sl i d h h2
      rw [wipe_get h1] at e1
      exact ⟨v, e1, r⟩
  so := fun i d h e => by
    rcases backE_some e with ⟨h1, h2⟩ | ⟨h1, h2⟩
    · rw [(hv i h1).1] at h; cases h
    · obtain ⟨a, e1, r⟩ := M.so i d h h2
      rw [wipe_get h1] at e1
      exact ⟨a, e1, r⟩
  sp := fun i j d e' a hi hj hn q1 q2 q3 q4 => by
    rcases backE_some q1 with ⟨h1, h2⟩ | ⟨h1, h2⟩
    · rw [(hv i h1).1] at hi; cases hi
    · rcases backE_some q2 with ⟨g1, g2⟩ | ⟨g1, g2⟩
      · rw [(hv j g1).1] at hj; cases hj
      · rw [← wipe_get h1] at q3
        rw [← wipe_get g1] at q4
        exact M.sp i j d e' a hi hj hn h2 g2 q3 q4
  pn := M0.pn
end
theorem upd_upd' {H : Hp} {a : Addr} {o u : HO} : upd (upd H a o) a u = upd H a u := upd_upd
/-- an object kept as the caller's is written -/
theorem Sim.rewriteG {K : PySem.W.Frag} {mg : Str → Option Value} {S : Sx} {F G H : Hp} {P : Nat → Option Addr} {ev : Ev} {σ : L2.St} {a : Addr} {vs vs' : List V} (M : Sim K mg S F (upd G a (.lst vs)) P H ev σ) : Sim K mg S F (upd G a (.lst vs')) P (upd H a (.lst vs')) ev σ := by
  have hH : H a = some (.lst vs) := M.fr.gh _ _ upd_same
  have hF : F a = none := by
    cases q : F a with
    | none => rfl
    | some u => have := M.fr.gf a u q; rw [upd_same] at this; cases this
  refine ⟨⟨fun b u e => ?_, fun b u e => ?_, fun b u e => ?_, M.fr.nt, fun hT b ps e => ?_, Tabs_write M.fr.tb hH⟩, M.len, M.sl, fun i d h e => ?_, M.sp, M.pn⟩
  · rw [upd_ne (fun z => by rw [z, hF] at e; cases e)]; exact M.fr.fh _ _ e
  · by_cases hb : b = a
    · subst hb; rw [upd_same] at e ⊢; exact e
    · rw [upd_ne hb] at e ⊢; exact M.fr.gh b u (by rw [upd_ne hb]; exact e)
  · have hb : b ≠ a := fun z => by rw [z, hF] at e; cases e
    have := M.fr.gf b u e
    rw [upd_ne hb] at this ⊢
    exact this
  · by_cases hb : b = a
    · subst hb; rw [upd_same] at e; cases e
    · rw [upd_ne hb] at e; exact M.fr.gt hT b ps (by rw [upd_ne hb]; exact e)
  · obtain ⟨b, e1, o, f0, g0⟩ := M.so i d h e
    have hb : b ≠ a := fun z => by rw [z, upd_same] at g0; cases g0
    refine ⟨b, e1, ?_, f0, by rw [upd_ne hb] at g0 ⊢; exact g0⟩
    cases d with
    | list ds => obtain ⟨ws, y1, y2⟩ := o; exact ⟨ws, by rw [upd_ne hb]; exact y1, y2⟩
    | _ => exact False.elim o
theorem tM.cross {α β : Type} {K : PySem.W.Frag} {mg : Str → Option Value} {S : Sx} {W W' : WX} {F G G' : Hp} {P P' : Nat → Option Addr} {σ σ' : L2.St} {r : Res (α × Ev)} {k : α × Ev → Res (β × Ev)} {post : β → Ev → Hp → Hp → Prop} {post2 : α → Ev → Hp → Hp → Prop} (h : tM K mg S W G P σ F ((noErr r).bind k) post)
    (hp : ∀ a ev' F' H', Same F F' → Sim K mg S F' G' P' H' ev' σ' → tM K mg S W G P σ F' (k (a, ev')) post → post2 a ev' F' H') : tM K mg S W' G' P' σ' F r post2 := by
  cases r with
  | ok p => exact fun F' H' s M => hp _ _ F' H' s M (tM.mono s (r := k p) h)
  | err c => exact False.elim h
  | stuck => exact False.elim h
def tTs (K : PySem.W.Frag) (mg : Str → Option Value) (S : Sx) (W : WX) (m : DT) : TT := tT K mg S W m
abbrev W0 : WX := fun _ _ _ _ => False
section
variable {X : Cx} {S : Sx} {W : WX} {elt tg iter c : Expr} {ifs : List Expr} {m : DE} {t : DT} {pos : Pos} {it : DI} {bd : D → Ev → Option Ev} {is : List Nat} {own : List (Str × Nat)} {scope : Scope}
theorem sc_nil : PTs X [] (tT X.K X.mg S W tYesD) := ⟨fun pins s σ H Q I h => pts_nil.run pins s σ H Q I (by obtain ⟨F, G, P, ev, M, h⟩ := h; exact h F H (Same.refl _) M)⟩
theorem sc_one (h : PT X c (tT X.K X.mg S W t)) : PTs X [c] (tT X.K X.mg S W t) := pts_one h
theorem core_comp {σ : L2.St} {H : Hp} {Q : VK} (hv : ∀ v ∈ own.map (·.2), S.own v = false ∧ S.io v = false) (hsub : ∀ v ∈ is, v ∈ own.map (·.2)) (h : tO X.K X.mg S W (oComp it (own.map (·.2)) bd t m) σ H Q) : tLc (tIt X.K X.mg S W it) (tG X.K X.mg S bd is) (tT X.K X.mg S W0 t) (tE X.K X.mg S W0 m) (own.map (·.2)) σ H Q := by
  generalize hvs : own.map (·.2) = vs at *
  obtain ⟨F, G, P, ev, M, h⟩ := h
  refine ⟨F, G, P, ev, M, h.bind.imp fun ds ev1 F1 H1 _ q1 M1 h1 J sv Dl hD => ?_⟩
  obtain ⟨hlen, h1⟩ := h1.cond
  replace hlen : ds.length ≤ sizeLine := hlen
  have fD := same_none M1.fr.fh hD
  have gD := same_none M1.fr.gh hD
  have hw0 : wipe (wipe σ vs) vs = wipe σ vs := wipe_wipe σ vs
  -- the state within, the new list kept as the caller's
  have start : Sim X.K X.mg S F1 (upd G Dl (.lst [])) P (upd H1 Dl (.lst [])) (wipeE ev1 vs) (wipe σ vs) := by
    have a1 := M1.grow (F' := F1) (Grow.keep (same_upd (o := .lst []) hD))
    have a2 := a1.keepG (d := .list []) (a := Dl) (o := .lst []) ⟨[], upd_same, by simp only [Rps]⟩ ⟨fD, gD, fun i d ho e z => (FreshAt.of M1 hD).2.2 i d ho e z⟩ upd_same
    exact a2.wiped hv hw0 (wipe_length _ _)
  refine ⟨fun i k H => ∃ F ev ads acc, Same F1 F ∧ Sim X.K X.mg S F (upd G Dl (.lst acc)) P H ev (wipe σ vs) ∧ Rps X.K X.mg F ads acc ∧ i ≤ ds.length ∧ acc.length ≤ i ∧ k = ds.length - i ∧ tM X.K X.mg S W G P σ F ((compL bd t m vs (ds.drop i) ads ev).bind fun q => .ok (PyData.list q.1, backE ev1 q.2 vs)) (fun d ev' F' H' => ∀ a, OwnD X.K X.mg F' H' d a → FreshAt S ev' σ F' G a → Q (.ref a) H'),
    ⟨ds.length, F1, _, [], [], Same.refl _, start, by simp only [Rps], Nat.zero_le _, Nat.le_refl _, rfl, ?_⟩, ?_⟩
  · exact h1
  rintro i k H2 ⟨F2, ev2, ads, acc, s2, M2, racc, hi, hacc, rfl, h2⟩
  obtain ⟨st, gg⟩ := sv F2 H2 i s2 M2.fr.fh
  have sG : ∀ ac, Same G (upd G Dl (.lst ac)) := fun ac => same_upd gD
  by_cases hlt : i < ds.length
  · have hd : ds[i]? = some ds[i] := List.getElem?_eq_getElem hlt
    obtain ⟨g1, g2⟩ := gg _ hd
    rw [List.drop_eq_getElem_cons hlt] at h2
    unfold compL at h2
    obtain ⟨ev3, e3⟩ : ∃ ev3, bd ds[i] ev2 = some ev3 := by
      cases q : bd ds[i] ev2 with
      | some x => exact ⟨x, rfl⟩
      | none => rw [q] at h2; exact False.elim h2
    rw [e3] at h2
    simp only [lift_some, Res.bind_ok] at h2
    refine .inr ⟨g1, fun H => ∃ F ev ads acc, Same F1 F ∧ Sim X.K X.mg S F (upd G Dl (.lst acc)) P H ev (wipe σ vs) ∧ Rps X.K X.mg F ads acc ∧ acc.length ≤ i + 1 ∧ tM X.K X.mg S W G P σ F ((compL bd t m vs (ds.drop (i + 1)) ads ev).bind fun q => .ok (PyData.list q.1, backE ev1 q.2 vs)) (fun d ev' F' H' => ∀ a, OwnD X.K X.mg F' H' d a → FreshAt S ev' σ F' G a → Q (.ref a) H'), fun H' ⟨F', ev', ads', acc', a1, a2, a3, a4, a5⟩ => ⟨ds.length - (i + 1), by omega, F', ev', ads', acc', a1, a2, a3, by omega, a4, rfl, a5⟩, fun x H' yl => ?_⟩
    obtain ⟨F3, gr, rx⟩ := g2 x H' yl
    have M3 := M2.grow gr
    refine ⟨F3, upd G Dl (.lst acc), P, ev2, _, ev3, M3, rx, e3, fun σ2 ag M4 => ?_⟩
    have ag' : Agree vs (wipe σ vs) σ2 := ⟨ag.1, fun j hj => ag.2 j fun z => hj (hsub j z)⟩
    have hw2 : wipe σ2 vs = wipe σ vs := by rw [agree_wipe ag', hw0]
    refine ⟨hw2, ?_⟩
    rw [Res.bind_assoc] at h2
    refine ⟨F3, upd G Dl (.lst acc), P, ev3, M4, tM.cross (tM.mono gr.f h2) fun b ev4 F4 H4 s4 M5 h4 => ?_⟩
    have racc4 : Rps X.K X.mg F4 ads acc := Rps.mono (gr.f.trans s4) _ _ racc
    have s14 := (s2.trans gr.f).trans s4
    have hw3 : wipe (wipe σ vs) vs = wipe σ2 vs := by rw [hw0, hw2]
    have hl3 : (wipe σ vs).length = σ2.length := ag.1.symm
    cases b with
    | false => exact ⟨F4, wipeE ev4 vs, ads, acc, s14, M5.wiped hv hw3 hl3, racc4, by omega, h4⟩
    | true =>
      simp only [cond_true] at h4
      rw [Res.bind_assoc] at h4
      refine ⟨F4, upd G Dl (.lst acc), P, ev4, M5, tM.cross h4 fun rv ev5 F5 H5 s5 M6 h5 y ry => ?_⟩
      rw [Res.bind_assoc] at h5
      cases q : toVal rv ev5 with
      | err c => exact absurd q toVal_ne_err
      | stuck => rw [q] at h5; exact False.elim h5
      | ok p =>
        obtain ⟨d, ev6⟩ := p
        rw [q] at h5
        simp only [Res.bind_ok] at h5
        obtain ⟨F6, s6, M7, r7⟩ := toVal_ok M6 ry q
        refine ⟨acc, M7.fr.gh _ _ upd_same, by omega, F6, wipeE ev6 vs, ads ++ [d], acc ++ [y], (s14.trans s5).trans s6, (M7.rewriteG (vs' := acc ++ [y])).wiped hv hw3 hl3, (Rps.mono (s5.trans s6) _ _ racc4).append (Rps.one r7), by rw [List.length_append]; simp; omega, tM.mono s6 h5⟩
  · have e : i = ds.length := by omega
    subst e
    rw [List.drop_length] at h2
    refine .inl ⟨st rfl, ?_⟩
    have hH : H2 Dl = some (.lst acc) := M2.fr.gh _ _ upd_same
    have f2 : F2 Dl = none := by
      cases q : F2 Dl with
      | none => rfl
      | some u => have := M2.fr.gf Dl u q; rw [upd_same] at this; cases this
    have M5 := M2.lessG (sG acc)
    refine h2 F2 H2 (Same.refl _) (Sim.back M1 s2 M5 hv) Dl ⟨acc, hH, racc⟩ ⟨f2, gD, fun j d ho e z => ?_⟩
    rcases backE_some e with ⟨b1, _⟩ | ⟨b1, b2⟩
    · rw [(hv j b1).1] at ho; cases ho
    · rw [← wipe_get b1] at z
      obtain ⟨a, y1, y2, y3, y4⟩ := M2.so j d ho b2
      rw [z] at y1
      cases y1
      rw [upd_same] at y4
      cases y4
theorem so_comp (hc : X.calm = true) (hN : X.N.Nodup) (hi : PI X tg iter (tIt X.K X.mg S W it)) (ok : BlkOk X.N X.env.scope scope own)
    (hg : ∀ (s : Shared) (H : Hp) (C : Addr) (cl : List (Str × Addr)) (fp : List Addr), PG (X.blk s H scope (compEnvC scope cl C X.env) fp) tg (tG X.K X.mg S bd is)) (ht : ∀ (s : Shared) (H : Hp) (C : Addr) (cl : List (Str × Addr)) (fp : List Addr), PTs (X.blk s H scope (compEnvC scope cl C X.env) fp) ifs (tT X.K X.mg S W0 t))
    (he : ∀ (s : Shared) (H : Hp) (C : Addr) (cl : List (Str × Addr)) (fp : List Addr), PE (X.blk s H scope (compEnvC scope cl C X.env) fp) elt (tE X.K X.mg S W0 m)) (hv : ∀ v ∈ own.map (·.2), S.own v = false ∧ S.io v = false := by decide) (hsub : ∀ v ∈ is, v ∈ own.map (·.2) := by decide) (hs : ∀ x, foldedSetIterable iter X.env x = pure x := by intro _; rfl) :
    PE X (.ListComp elt [⟨tg, iter, ifs, 0⟩] scope pos) (tO X.K X.mg S W (oComp it (own.map (·.2)) bd t m)) := (pe_lc hc hN hi ok hg ht he hs).imp fun _ _ _ h => core_comp hv hsub h
/-- y = [..], y a plain local -/
theorem sx_comp (i : Nat) {y : Str} {py spos : Pos} (hc : X.calm = true) (hN : X.N.Nodup) (hi : PI X tg iter (tIt X.K X.mg S W it)) (ok : BlkOk X.N X.env.scope scope own)
    (hg : ∀ (s : Shared) (H : Hp) (C : Addr) (cl : List (Str × Addr)) (fp : List Addr), PG (X.blk s H scope (compEnvC scope cl C X.env) fp) tg (tG X.K X.mg S bd is)) (ht : ∀ (s : Shared) (H : Hp) (C : Addr) (cl : List (Str × Addr)) (fp : List Addr), PTs (X.blk s H scope (compEnvC scope cl C X.env) fp) ifs (tT X.K X.mg S W0 t))
    (he : ∀ (s : Shared) (H : Hp) (C : Addr) (cl : List (Str × Addr)) (fp : List Addr), PE (X.blk s H scope (compEnvC scope cl C X.env) fp) elt (tE X.K X.mg S W0 m)) (hv : ∀ v ∈ own.map (·.2), S.own v = false ∧ S.io v = false := by decide) (hsub : ∀ v ∈ is, v ∈ own.map (·.2) := by decide) (h1 : S.own i = false := by rfl) (h2 : S.io i = false := by rfl)
    (hy : X.N[i]? = some y := by rfl) (hyl : X.env.scope.names.lookup y = some .local := by rfl) (hsw : swapsWith (.ListComp elt [⟨tg, iter, ifs, 0⟩] scope pos) (some (.Name y py)) spos.line X.env = pure true := by exact sw_true rfl rfl rfl (by decide +kernel)) (hs : ∀ x, foldedSetIterable iter X.env x = pure x := by intro _; rfl) :
    PS X (.Assign [.Name y py] (.ListComp elt [⟨tg, iter, ifs, 0⟩] scope pos) spos) (tS X.K X.mg S W (sSet i (vOf (oComp it (own.map (·.2)) bd t m)))) := (ps_setLc hc hN hy hyl hsw hi ok hg ht he hs).imp fun Dn σ H ⟨F, G, P, ev, M, h⟩ => by
  show tLc _ _ _ _ _ σ H _
  refine core_comp hv hsub ⟨F, G, P, ev, M, ?_⟩
  unfold sSet vOf at h
  rw [Res.bind_assoc] at h
  refine h.bind.imp fun d ev1 F1 H1 _ s1 M1 h3 a o f => ?_
  obtain ⟨F2, s2, M2, r⟩ := M1.freeze o f
  exact h3 F2 H1 _ s2 (M2.setv h1 h2 r)
theorem sx_compo (i : Nat) {y : Str} {py spos : Pos} (hc : X.calm = true) (hN : X.N.Nodup) (hi : PI X tg iter (tIt X.K X.mg S W it)) (ok : BlkOk X.N X.env.scope scope own)
    (hg : ∀ (s : Shared) (H : Hp) (C : Addr) (cl : List (Str × Addr)) (fp : List Addr), PG (X.blk s H scope (compEnvC scope cl C X.env) fp) tg (tG X.K X.mg S bd is)) (ht : ∀ (s : Shared) (H : Hp) (C : Addr) (cl : List (Str × Addr)) (fp : List Addr), PTs (X.blk s H scope (compEnvC scope cl C X.env) fp) ifs (tT X.K X.mg S W0 t))
    (he : ∀ (s : Shared) (H : Hp) (C : Addr) (cl : List (Str × Addr)) (fp : List Addr), PE (X.blk s H scope (compEnvC scope cl C X.env) fp) elt (tE X.K X.mg S W0 m)) (hv : ∀ v ∈ own.map (·.2), S.own v = false ∧ S.io v = false := by decide) (hsub : ∀ v ∈ is, v ∈ own.map (·.2) := by decide) (h1 : S.own i = true := by rfl) (h2 : S.io i = false := by rfl)
    (hy : X.N[i]? = some y := by rfl) (hyl : X.env.scope.names.lookup y = some .local := by rfl) (hsw : swapsWith (.ListComp elt [⟨tg, iter, ifs, 0⟩] scope pos) (some (.Name y py)) spos.line X.env = pure true := by exact sw_true rfl rfl rfl (by decide +kernel)) (hs : ∀ x, foldedSetIterable iter X.env x = pure x := by intro _; rfl) :
    PS X (.Assign [.Name y py] (.ListComp elt [⟨tg, iter, ifs, 0⟩] scope pos) spos) (tS X.K X.mg S W (sSetO i (oComp it (own.map (·.2)) bd t m))) := (ps_setLc hc hN hy hyl hsw hi ok hg ht he hs).imp fun Dn σ H ⟨F, G, P, ev, M, h⟩ => by
  show tLc _ _ _ _ _ σ H _
  refine core_comp hv hsub ⟨F, G, P, ev, M, ?_⟩
  refine h.bind.imp fun d ev1 F1 H1 _ s1 M1 h3 a o f => ?_
  exact h3 F1 H1 _ (Same.refl _) (M1.seto h1 h2 o f)
end
end TL

set_option Elab.async false
set_option linter.all false
set_option maxRecDepth 100000
namespace TL
open PySem PySem.Spec PyProof.Rows L2
open Classical in
/-- what the callee finds frozen: what the caller has frozen, and the own objects that are lent (B) -/
noncomputable def lendF (B : Addr → Prop) (F H : Hp) : Hp := fun a => if B a then H a else F a
open Classical in
noncomputable def takeF (B : Addr → Prop) (F : Hp) : Hp := fun a => if B a then none else F a
open Classical in
/-- what the callee must leave as it is -/
noncomputable def restG (io : Option Addr) (lam : Bool) (F H : Hp) : Hp := fun a => if (∃ o, F a = some o) ∨ io = some a ∨ (lam = true ∧ ∃ ps, H a = some (.tbl ps)) then none else H a

structure FnS where
  np : Nat
  io : Option Nat
  ro : Bool
  m : List D → Res (D × D)
def ArgsR (K : PySem.W.Frag) (mg : Str → Option Value) (io : Option Nat) (F G H : Hp) (ds : List D) (vs : List V) : Prop := ds.length = vs.length ∧ ∀ (i : Nat) d v, ds[i]? = some d → vs[i]? = some v →
  (io = some i → ∃ a, v = .ref a ∧ OwnD K mg F H d a ∧ F a = none ∧ G a = none) ∧ (io ≠ some i → Rp K mg F d v)
def IoR (K : PySem.W.Frag) (mg : Str → Option Value) (io : Option Nat) (F' G H' : Hp) (d : D) (vs : List V) : Prop := ∀ k, io = some k → ∃ a, vs[k]? = some (.ref a) ∧ OwnD K mg F' H' d a ∧ F' a = none ∧ G a = none
def ResR (K : PySem.W.Frag) (mg : Str → Option Value) (ro : Bool) (io : Option Nat) (F' G H' : Hp) (d : D) (v : V) (vs : List V) : Prop :=
  if ro = true then ∃ a, v = .ref a ∧ OwnD K mg F' H' d a ∧ F' a = none ∧ G a = none ∧ ∀ k, io = some k → vs[k]? ≠ some (.ref a) else Rp K mg F' d v
/-- a def's promise, by its meaning -/
def spF (K : PySem.W.Frag) (mg : Str → Option Value) (T : List (Addr × Str)) (f : FnS) : Sp := fun vs H Q E => ∃ F G ds, Frm T F G H ∧ vs.length = f.np ∧ ArgsR K mg f.io F G H ds vs ∧ match f.m ds with
  | .ok (d, o) => ∀ F' H' v, Same F F' → Frm T F' G H' → IoR K mg f.io F' G H' o vs → ResR K mg f.ro f.io F' G H' d v vs → Q v H'
  | .err c => ∀ F' H', Same F F' → Frm T F' G H' → ∀ a, mg c = some (.ref a) → E (.ref a) none H'
  | .stuck => False
/-! ### the rule for a def -/
def ioGet : Option Nat → Ev → Option D
  | some k, ev => (ev[k]?).join
  | none, _ => some .none
def bodyM (n : Nat) (io : Option Nat) (ro : Bool) (m : DS) (ds : List D) : Res (D × D) := match m (ds.map some ++ List.replicate (n - ds.length) none) with
  | .ok (fl, ev) => (lift (ioGet io ev)).bind fun o => match fl, ro with
    | .rt d, false => .ok (d, o)
    | .rto d, true => .ok (d, o)
    | .nx, false => .ok (.none, o)
    | _, _ => .stuck
  | .err c => .err c
  | .stuck => .stuck
def ioP (io : Option Nat) (vs : List V) : Nat → Option Addr := fun i => if io = some i then (match vs[i]? with | some (.ref a) => some a | _ => none) else none
theorem start_get {N : List Str} {vs : List V} {i : Nat} {v : V} (h : vs[i]? = some v) : (L2.start N vs)[i]? = some (some v) := by
  unfold L2.start
  have hlt : i < vs.length := (List.getElem?_eq_some_iff.mp h).1
  rw [List.getElem?_append_left (by simpa using hlt), List.getElem?_map, h]
  rfl
theorem ev_get {n : Nat} {ds : List D} {i : Nat} {d : D} (h : (ds.map some ++ List.replicate n (none : Option D))[i]? = some (some d)) : ds[i]? = some d := by
  by_cases hlt : i < ds.length
  · rw [List.getElem?_append_left (by simpa using hlt), List.getElem?_map] at h
    obtain ⟨x, e1, e2⟩ := Option.map_eq_some_iff.mp h
    cases e2
    exact e1
  · rw [List.getElem?_append_right (by simpa using Nat.le_of_not_lt hlt)] at h
    have := List.mem_of_getElem? h
    rw [List.mem_replicate] at this
    exact absurd this.2.symm (by simp)
section
variable {P : Program} {w : World} {K : PySem.W.Frag} {mg : Str → Option Value} {base : Heap}
theorem sim_start {S : Sx} {F G H : Hp} {N : List Str} {io : Option Nat} {ds : List D} {vs : List V} (fr : Frm S.T F G H) (ar : ArgsR K mg io F G H ds vs) (hl : vs.length ≤ N.length) (hio : ∀ i, i < vs.length → (S.own i = true ↔ io = some i)) (hio2 : ∀ i, io = some i → S.io i = true) :
    Sim K mg S F G (ioP io vs) H (ds.map some ++ List.replicate (N.length - ds.length) none) (L2.start N vs) where
  fr := fr
  len := by unfold L2.start; simp [ar.1]
  sl := fun i d h e => by
    have e1 := ev_get e
    have hlt : i < vs.length := by rw [← ar.1]; exact (List.getElem?_eq_some_iff.mp e1).1
    have e2 : vs[i]? = some vs[i] := List.getElem?_eq_getElem hlt
    refine ⟨vs[i], start_get e2, (ar.2 i d _ e1 e2).2 fun z => ?_⟩
    rw [(hio i hlt).mpr z] at h; cases h
  so := fun i d h e => by
    have e1 := ev_get e
    have hlt : i < vs.length := by rw [← ar.1]; exact (List.getElem?_eq_some_iff.mp e1).1
    have e2 : vs[i]? = some vs[i] := List.getElem?_eq_getElem hlt
    obtain ⟨a, x1, x2, x3, x4⟩ := (ar.2 i d _ e1 e2).1 ((hio i hlt).mp h)
    exact ⟨a, by rw [start_get e2, x1], x2, x3, x4⟩
  sp := fun i j d e a hi hj hn q1 q2 _ _ => by
    have e1 := ev_get q1
    have e2 := ev_get q2
    have h1 := (hio i (by rw [← ar.1]; exact (List.getElem?_eq_some_iff.mp e1).1)).mp hi
    have h2 := (hio j (by rw [← ar.1]; exact (List.getElem?_eq_some_iff.mp e2).1)).mp hj
    rw [h1] at h2
    cases h2
    exact hn rfl
  pn := fun i a e => by
    unfold ioP at e
    split at e
    · rename_i hi
      refine ⟨hio2 i hi, ?_⟩
      split at e
      · rename_i b hb
        cases e
        exact start_get hb
      · cases e
    · cases e
/-- THE RULE for a def: its body's meaning keeps its promise -/
theorem fn_ok {x qual : Str} {st : Stmt} {f : Addr} {oc dV kV doc pm cdv ct : Value} {od an : Option Addr} {osl : Array (Option Value)} {N ps : List Str} {k : Nat} {m : DS} {io : Option Nat} {ro : Bool} {S : Sx} (lk : K.lookup f = some ⟨oc, od, .func (PySem.W.fnOf x qual (defArgs st) (defBody st) (defScope st) dV kV doc pm an cdv ct), osl⟩) (hcd : PySem.W.codeIn K cdv qual = true) (SC : FnScope N ps (defScope st)) (hN : ps.length ≤ N.length) (hio : ∀ i, i < ps.length → (S.own i = true ↔ io = some i)) (hio2 : ∀ i, io = some i → S.io i = true ∧ i < ps.length)
    (hb : ∀ (A : Around) (outer : List Env) (s : Shared) (H : Hp) (E : XK), Room k (A.deeper (envOfC qual (defScope st) s.heap.objs.size f cdv)) → PSs (cxOf (L2N.CX P w) P w K mg base N qual (defScope st) f cdv A outer s H E) (defBody st) (tS K mg S (fun cls d _ H => E cls d H) m)) :
    FnOk P w K mg base (L2N.CX P w) (k + 1) f (PySem.W.fnOf x qual (defArgs st) (defBody st) (defScope st) dV kV doc pm an cdv ct) ps (spF K mg S.T ⟨ps.length, io, ro, bodyM N.length io ro m⟩) := by
  refine fn_of lk hcd SC (fun vs H Q E h => ?_) (fun A outer s H vs Q E hr h => ⟨_, hb A outer s H E hr, ?_⟩)
  · obtain ⟨F, G, ds, _, e, _⟩ := h; exact e
  · obtain ⟨F, G, ds, fr, hl, ar, h⟩ := h
    have hl : vs.length = ps.length := hl
    have M := sim_start (S := S) (N := N) fr ar (by omega) (fun i hi => hio i (by omega)) fun i hi => (hio2 i hi).1
    refine ⟨F, G, _, _, M, ?_⟩
    have h : (match bodyM N.length io ro m ds with
      | .ok (d, o) => ∀ F' H' v, Same F F' → Frm S.T F' G H' → IoR K mg io F' G H' o vs → ResR K mg ro io F' G H' d v vs → Q v H'
      | .err c => ∀ F' H', Same F F' → Frm S.T F' G H' → ∀ a, mg c = some (.ref a) → E (.ref a) none H'
      | .stuck => False) := h
    unfold bodyM at h
    have hds : N.length - ds.length = N.length - ds.length := rfl
    cases q : m (ds.map some ++ List.replicate (N.length - ds.length) none) with
    | stuck => rw [q] at h; exact h
    | err c => rw [q] at h; exact fun F' H' σ' s f a e => h F' H' s f a e
    | ok p =>
      obtain ⟨fl, ev'⟩ := p
      rw [q] at h
      simp only at h
      cases hx : ioGet io ev' with
      | none => rw [hx] at h; exact h.elim
      | some o =>
        rw [hx] at h
        simp only [lift_some, Res.bind_ok] at h
        have io_of : ∀ {F' H' σ'}, Sim K mg S F' G (ioP io vs) H' ev' σ' → IoR K mg io F' G H' o vs := fun {F' H' σ'} M' k hk => by
          subst hk
          have e1 : ev'[k]? = some (some o) := join_some hx
          obtain ⟨w1, w2⟩ := hio2 k rfl
          have hkl : k < vs.length := by omega
          have e2 : vs[k]? = some vs[k] := List.getElem?_eq_getElem hkl
          have hdk : k < ds.length := by rw [ar.1]; exact hkl
          obtain ⟨a, x1, x2, x3, x4⟩ := (ar.2 k _ _ (List.getElem?_eq_getElem hdk) e2).1 rfl
          have hp : ioP (some k) vs k = some a := by unfold ioP; rw [if_pos rfl, e2, x1]
          obtain ⟨_, y1⟩ := M'.pn k a hp
          obtain ⟨b, z1, z2, z3, z4⟩ := M'.so k o ((hio k w2).mpr rfl) e1
          rw [y1] at z1
          cases z1
          exact ⟨a, by rw [e2, x1], z2, z3, z4⟩
        intro F' H' σ' s M'
        cases fl with
        | nx =>
          cases ro with
          | false => exact h F' H' .non s M'.fr (io_of M') (rp_none (K := K) (mg := mg) (F := F'))
          | true => exact h.elim
        | rt d =>
          cases ro with
          | false => exact fun v r => h F' H' v s M'.fr (io_of M') r
          | true => exact h.elim
        | rto d =>
          cases ro with
          | false => exact h.elim
          | true =>
            intro a ow fa
            refine h F' H' (.ref a) s M'.fr (io_of M') ⟨a, rfl, ow, fa.1, fa.2.1, fun k hk z => ?_⟩
            subst hk
            have e1 : ev'[k]? = some (some o) := join_some hx
            obtain ⟨w1, w2⟩ := hio2 k rfl
            have hp : ioP (some k) vs k = some a := by unfold ioP; rw [if_pos rfl, z]
            obtain ⟨_, y1⟩ := M'.pn k a hp
            exact fa.2.2 k o ((hio k w2).mpr rfl) e1 y1
        | bk => cases ro <;> exact h.elim
        | ct => cases ro <;> exact h.elim
end

/-! ### a call of a def -/
mutual
def flatD : D → Bool
  | .list _ => false
  | .dict _ => false
  | .tuple xs => flatDs xs
  | _ => true
def flatDs : List D → Bool
  | [] => true
  | x :: xs => flatD x && flatDs xs
end
/-- no list within; at the top one may stand -/
def flatC : D → Bool
  | .list xs => flatDs xs
  | d => flatD d
section
variable {K : PySem.W.Frag} {mg : Str → Option Value} {F F' : Hp}
mutual
theorem flat_mv (h : ∀ a vs, SqT K F a vs → SqT K F' a vs) : ∀ (d : D) (v : V), flatD d = true → Rp K mg F d v → Rp K mg F' d v
  | .none, _, _, r | .bool _, _, _, r | .int _, _, _, r | .str _, _, _, r => by simpa only [Rp] using r
  | .list _, _, f, _ => by simp [flatD] at f
  | .dict _, _, f, _ => by simp [flatD] at f
  | .tuple ds, v, f, r => by
    simp only [flatD] at f
    simp only [Rp] at r ⊢
    obtain ⟨a, vs, e, q, rs⟩ := r
    exact ⟨a, vs, e, h a vs q, flats_mv h ds vs f rs⟩
theorem flats_mv (h : ∀ a vs, SqT K F a vs → SqT K F' a vs) : ∀ (ds : List D) (vs : List V), flatDs ds = true → Rps K mg F ds vs → Rps K mg F' ds vs
  | [], _, _, r => by simpa only [Rps] using r
  | d :: ds, vs, f, r => by
    simp only [flatDs, Bool.and_eq_true] at f
    simp only [Rps] at r ⊢
    obtain ⟨v, w, e, q1, q2⟩ := r
    exact ⟨v, w, e, flat_mv h d v f.1 q1, flats_mv h ds w f.2 q2⟩
end
end
def isSlot (j : Nat) : RV → Bool
  | .slot k => j == k
  | .val _ => false
/-- the own slot at the io place; it stands at no other place -/
def ioSlot (io : Option Nat) (rs : List RV) : Option (Option Nat) := match io with
  | none => some none
  | some k => match rs[k]? with
    | some (.slot j) => if (rs.eraseIdx k).any (isSlot j) then none else some (some j)
    | _ => none
def lends (io : Option Nat) (rs : List RV) : Bool := (match io with | some k => rs.eraseIdx k | none => rs).any fun r => match r with | .slot _ => true | .val _ => false
def putIo : Option Nat → D → Ev → Ev
  | some j, d, ev => ev.set j (some d)
  | none, _, ev => ev
def callD (f : FnS) (rs : List RV) (ev : Ev) : Res (D × Ev) := (lift (gets rs ev)).bind fun ds => (lift (ioSlot f.io rs)).bind fun js => (f.m ds).bind fun r => if lends f.io rs = false ∨ (flatC r.1 = true ∧ (f.ro = false → flatD r.1 = true) ∧ flatC r.2 = true) then .ok (r.1, putIo js r.2 ev) else .stuck
def eCall (f : FnS) (ms : DA) : DE := fun ev => (ms ev).bind fun p => (callD f p.1 p.2).bind fun q => .ok (.val q.1, q.2)
def oCallF (f : FnS) (ms : DA) : DO := fun ev => (ms ev).bind fun p => callD f p.1 p.2
section
variable {K : PySem.W.Frag} {mg : Str → Option Value} {S : Sx} {F G H : Hp} {P : Nat → Option Addr} {ev : Ev} {σ : L2.St} {T' : List (Addr × Str)}
theorem lendF_at {B : Addr → Prop} {a : Addr} (h : B a) : lendF B F H a = H a := by unfold lendF; rw [if_pos h]
theorem lendF_no {B : Addr → Prop} {a : Addr} (h : ¬ B a) : lendF B F H a = F a := by unfold lendF; rw [if_neg h]
theorem takeF_at {B : Addr → Prop} {a : Addr} (h : B a) : takeF B F a = none := by unfold takeF; rw [if_pos h]
theorem takeF_no {B : Addr → Prop} {a : Addr} (h : ¬ B a) : takeF B F a = F a := by unfold takeF; rw [if_neg h]
theorem restG_some {io : Option Addr} {lam : Bool} {a : Addr} {o : HO} (h : H a = some o) (h1 : F a = none) (h2 : io ≠ some a) (h3 : lam = true → ∀ ps, o ≠ .tbl ps) : restG io lam F H a = some o := by
  unfold restG
  rw [if_neg, h]
  rintro (⟨u, z⟩ | z | ⟨z1, ps, z2⟩)
  · rw [h1] at z; cases z
  · exact h2 z
  · rw [h] at z2; cases z2; exact h3 z1 ps rfl
theorem restG_of {io : Option Addr} {lam : Bool} {a : Addr} {o : HO} (h : restG io lam F H a = some o) : H a = some o ∧ F a = none ∧ io ≠ some a ∧ (lam = true → ∀ ps, o ≠ .tbl ps) := by
  unfold restG at h
  split at h
  · cases h
  · rename_i z
    rw [not_or, not_or] at z
    refine ⟨h, ?_, z.2.1, fun hl ps e => z.2.2 ⟨hl, ps, by rw [h, e]⟩⟩
    cases q : F a with
    | none => rfl
    | some u => exact absurd ⟨u, q⟩ z.1
theorem mem_erase {α : Type} {l : List α} {k i : Nat} {x : α} (h : l[i]? = some x) (hn : i ≠ k) : x ∈ l.eraseIdx k := by
  by_cases hlt : i < k
  · exact List.mem_of_getElem? (i := i) (by rw [List.getElem?_eraseIdx]; rw [if_pos hlt]; exact h)
  · have : k < i := by omega
    exact List.mem_of_getElem? (i := i - 1) (by rw [List.getElem?_eraseIdx]; rw [if_neg (by omega)]; rw [show i - 1 + 1 = i by omega]; exact h)
theorem tbl_keep {T : List (Addr × Str)} {H H' : Hp} (t : LamX.Tabs T H) (h : ∀ b o, H b = some o → (∀ vs, o ≠ .lst vs) → H' b = some o) : LamX.Tabs T H' := fun p hp => by
  obtain ⟨ps, e1, e2, e3⟩ := t p hp
  refine ⟨ps, h _ _ e1 (fun vs z => by cases z), e2, fun pos cv hc => ?_⟩
  obtain ⟨c, q1, q2⟩ := e3 pos cv hc
  exact ⟨c, q1, h _ _ q2 (fun vs z => by unfold LamX.CodeO at z; cases z)⟩
theorem call_core {f : FnS} {rs : List RV} {vs : List V} {Q : VK} {E : XK} (M : Sim K mg S F G P H ev σ) (rv : RRvs K mg S F σ rs vs) (hT : T' = [] ∨ T' = S.T) (hnp : rs.length = f.np)
    (h : match callD f rs ev with
      | .ok (d, ev') => ∀ F' H', Same F F' → Sim K mg S F' G P H' ev' σ → (f.ro = false → ∀ v, Rp K mg F' d v → Q v H') ∧ (f.ro = true → ∀ a, OwnD K mg F' H' d a → FreshAt S ev' σ F' G a → Q (.ref a) H')
      | .err c => ∀ F' H', Same F F' → Frm S.T F' G H' → ∀ a, mg c = some (.ref a) → E (.ref a) none H'
      | .stuck => False) : spF K mg T' f vs H Q E := by
  unfold callD at h
  cases hg : gets rs ev with
  | none => rw [hg] at h; exact h.elim
  | some ds =>
    rw [hg] at h
    simp only [lift_some, Res.bind_ok] at h
    cases hj : ioSlot f.io rs with
    | none => rw [hj] at h; exact h.elim
    | some js =>
      rw [hj] at h
      simp only [lift_some, Res.bind_ok] at h
      have hlen : ds.length = vs.length := (gets_ok M rv hg).1
      have hget : ∀ (i : Nat) r d, rs[i]? = some r → ds[i]? = some d → r.get ev = some d := by
        have gen : ∀ {rs : List RV} {ds : List D} (i : Nat) r d, gets rs ev = some ds → rs[i]? = some r → ds[i]? = some d → r.get ev = some d := by
          intro rs
          induction rs with
          | nil => intro ds i r d _ e _; simp at e
          | cons x rs ih =>
            intro ds i r d e e1 e2
            unfold gets at e
            obtain ⟨d0, a1, e⟩ := Option.bind_eq_some_iff.mp e
            obtain ⟨ds2, a2, e⟩ := Option.bind_eq_some_iff.mp e
            cases e
            cases i with
            | zero => simp at e1 e2; subst e1; subst e2; exact a1
            | succ i => exact ih i r d a2 (by simpa using e1) (by simpa using e2)
        exact fun i r d e1 e2 => gen i r d hg e1 e2
      -- the lent objects
      let B : Addr → Prop := fun a => ∃ (i j : Nat), f.io ≠ some i ∧ rs[i]? = some (.slot j) ∧ σ[j]? = some (some (.ref a)) ∧ ∃ d, ev[j]? = some (some d)
      -- an own slot that is used has its object
      have used : ∀ (i j : Nat), rs[i]? = some (.slot j) → S.own j = true ∧ ∃ a d, vs[i]? = some (.ref a) ∧ σ[j]? = some (some (.ref a)) ∧ ev[j]? = some (some d) ∧ OwnD K mg F H d a ∧ F a = none ∧ G a = none ∧ (∀ d', ds[i]? = some d' → d' = d) := fun i j e => by
        have hi : i < vs.length := by rw [← rv.1]; exact (List.getElem?_eq_some_iff.mp e).1
        have e2 : vs[i]? = some vs[i] := List.getElem?_eq_getElem hi
        obtain ⟨ho, hs⟩ := rv.2 i _ _ e e2
        have hd : i < ds.length := by omega
        have e3 := hget i _ _ e (List.getElem?_eq_getElem hd)
        have e4 : ev[j]? = some (some ds[i]) := join_some e3
        obtain ⟨a, x1, x2, x3, x4⟩ := M.so j _ ho e4
        rw [hs] at x1
        have x1 : vs[i] = .ref a := by simpa using x1
        exact ⟨ho, a, _, by rw [e2, x1], by rw [hs, x1], e4, x2, x3, x4, fun d' e' => by rw [List.getElem?_eq_getElem hd] at e'; exact (Option.some.inj e').symm⟩
      have BF : ∀ a, B a → F a = none := fun a ⟨i, j, _, e, hs, _⟩ => by
        obtain ⟨_, a', d, _, y2, _, _, y5, _⟩ := used i j e
        rw [hs] at y2; cases y2; exact y5
      have BG : ∀ a, B a → G a = none := fun a ⟨i, j, _, e, hs, _⟩ => by
        obtain ⟨_, a', d, _, y2, _, _, _, y6, _⟩ := used i j e
        rw [hs] at y2; cases y2; exact y6
      have BH : ∀ a, B a → ∃ ws, H a = some (.lst ws) := fun a ⟨i, j, _, e, hs, _⟩ => by
        obtain ⟨_, a', d, _, y2, _, y4, _⟩ := used i j e
        rw [hs] at y2; cases y2
        cases d with
        | list xs => obtain ⟨ws, z, _⟩ := y4; exact ⟨ws, z⟩
        | _ => exact False.elim y4
      -- the io place
      have ioF : ∀ k, f.io = some k → k < rs.length → ∃ j a d, js = some j ∧ rs[k]? = some (.slot j) ∧ vs[k]? = some (.ref a) ∧ σ[j]? = some (some (.ref a)) ∧ ev[j]? = some (some d) ∧ S.own j = true ∧ OwnD K mg F H d a ∧ F a = none ∧ G a = none ∧ ds[k]? = some d ∧ ¬ B a := fun k hk hlt => by
        unfold ioSlot at hj
        rw [hk] at hj
        simp only at hj
        split at hj
        · rename_i j hr
          split at hj
          · cases hj
          · rename_i hany
            cases hj
            obtain ⟨ho, a, d, y1, y2, y3, y4, y5, y6, y7⟩ := used k j hr
            have hd : k < ds.length := by rw [hlen, ← rv.1]; exact hlt
            refine ⟨j, a, d, rfl, hr, y1, y2, y3, ho, y4, y5, y6, ?_, ?_⟩
            · rw [List.getElem?_eq_getElem hd, y7 _ (List.getElem?_eq_getElem hd)]
            · rintro ⟨i, j2, n1, e, hs, d2, e2⟩
              have hij : i ≠ k := fun z => n1 (by rw [hk, z])
              have hne : j2 ≠ j := fun z => hany (List.any_eq_true.mpr ⟨_, mem_erase e hij, by simp [isSlot, z]⟩)
              obtain ⟨ho2, _⟩ := used i j2 e
              exact M.sp j2 j d2 d a ho2 ho hne e2 y3 hs y2
        · cases hj
      -- the io address
      let ioA : Option Addr := f.io.bind fun k => match vs[k]? with | some (.ref a) => some a | _ => none
      have ioA_of : ∀ a, ioA = some a → ∃ k j d, f.io = some k ∧ js = some j ∧ vs[k]? = some (.ref a) ∧ σ[j]? = some (some (.ref a)) ∧ ev[j]? = some (some d) ∧ S.own j = true ∧ OwnD K mg F H d a ∧ F a = none ∧ G a = none ∧ ¬ B a := fun a ha => by
        obtain ⟨k, hk, e⟩ := Option.bind_eq_some_iff.mp ha
        split at e
        · rename_i b hb
          cases e
          have hlt : k < rs.length := by rw [rv.1]; exact (List.getElem?_eq_some_iff.mp hb).1
          obtain ⟨j, a', d, z1, z2, z3, z4, z5, z6, z7, z8, z9, z10, z11⟩ := ioF k hk hlt
          rw [hb] at z3
          cases z3
          exact ⟨k, j, d, hk, z1, hb, z4, z5, z6, z7, z8, z9, z11⟩
        · cases e
      let lam : Bool := !T'.isEmpty
      let Fc := lendF B F H
      let Gc := restG ioA lam Fc H
      have sFc : Same F Fc := fun a o e => by
        show lendF B F H a = some o
        by_cases hb : B a
        · rw [BF a hb] at e; cases e
        · rw [lendF_no hb]; exact e
      have FcH : Same Fc H := fun a o e => by
        have e : lendF B F H a = some o := e
        by_cases hb : B a
        · rw [lendF_at hb] at e; exact e
        · rw [lendF_no hb] at e; exact M.fr.fh a o e
      have GcF : ∀ a o, Fc a = some o → Gc a = none := fun a o e => by
        cases q : Gc a with
        | none => rfl
        | some u =>
          have z := (restG_of q).2.1
          rw [e] at z
          cases z
      have Fcn : ∀ a ps, Fc a ≠ some (.tbl ps) := fun a ps e => by
        have e : lendF B F H a = some (.tbl ps) := e
        by_cases hb : B a
        · rw [lendF_at hb] at e
          obtain ⟨ws, z⟩ := BH a hb
          rw [z] at e
          cases e
        · rw [lendF_no hb] at e
          exact M.fr.nt a ps e
      have lamT : T' ≠ [] → lam = true := fun hT2 => by
        show (!T'.isEmpty) = true
        cases hTT : T' with
        | nil => exact absurd hTT hT2
        | cons _ _ => rfl
      have lamT' : lam = true → T' ≠ [] := fun hl z => by
        have hl : (!T'.isEmpty) = true := hl
        rw [z] at hl
        cases hl
      have tabc : LamX.Tabs T' H := by
        rcases hT with z | z
        · rw [z]; exact fun p hp => absurd hp (by simp)
        · rw [z]; exact M.fr.tb
      have frc : Frm T' Fc Gc H := ⟨FcH, fun a o e => (restG_of e).1, GcF, Fcn, fun hT2 a ps e => (restG_of e).2.2.2 (lamT hT2) ps rfl, tabc⟩
      -- what the caller keeps is among what the callee leaves
      have GGc : ∀ a o, G a = some o → Gc a = some o := fun a o e => by
        have hb : ¬ B a := fun z => by rw [BG a z] at e; cases e
        have hF : F a = none := by
          cases q : F a with
          | none => rfl
          | some u => rw [M.fr.gf a u q] at e; cases e
        refine restG_some (M.fr.gh a o e) (by show lendF B F H a = none; rw [lendF_no hb]; exact hF) (fun z => ?_) fun hl ps z => ?_
        · obtain ⟨k, j, d, _, _, _, _, _, _, _, _, g0, _⟩ := ioA_of a z
          rw [g0] at e; cases e
        · subst z
          have h0 : T' ≠ [] := lamT' hl
          rcases hT with z2 | z2
          · exact h0 z2
          · exact M.fr.gt (by rw [← z2]; exact h0) a ps e
      have arg : ArgsR K mg f.io Fc Gc H ds vs := ⟨hlen, fun i d v e1 e2 => by
        have hr : i < rs.length := by rw [rv.1]; exact (List.getElem?_eq_some_iff.mp e2).1
        refine ⟨fun hio => ?_, fun hio => ?_⟩
        · obtain ⟨j, a, d', z1, z2, z3, z4, z5, z6, z7, z8, z9, z10, z11⟩ := ioF i hio hr
          rw [e2] at z3
          rw [e1] at z10
          cases z3
          cases z10
          refine ⟨a, rfl, ?_, by show lendF B F H a = none; rw [lendF_no z11]; exact z8, ?_⟩
          · cases d with
            | list xs => obtain ⟨ws, y1, y2⟩ := z7; exact ⟨ws, y1, Rps.mono sFc _ _ y2⟩
            | _ => exact False.elim z7
          · cases q : Gc a with
            | none => rfl
            | some u =>
              have hi : ioA = some a := by show f.io.bind _ = _; rw [hio]; simp only [Option.bind_some]; rw [e2]
              exact absurd hi (restG_of q).2.2.1
        · have er : rs[i]? = some rs[i] := List.getElem?_eq_getElem hr
          cases hrs : rs[i] with
          | val d0 =>
            rw [hrs] at er
            have := hget i _ _ er e1
            simp only [RV.get, Option.some.injEq] at this
            subst this
            exact Rp.mono sFc _ _ (rv.2 i _ _ er e2)
          | slot j =>
            rw [hrs] at er
            obtain ⟨ho, a, d', y1, y2, y3, y4, y5, y6, y7⟩ := used i j er
            rw [e2] at y1
            cases y1
            have := y7 d e1
            subst this
            have hB : B a := ⟨i, j, hio, er, y2, _, y3⟩
            cases d with
            | list xs =>
              obtain ⟨ws, x1, x2⟩ := y4
              simp only [Rp]
              exact ⟨a, ws, rfl, .inl (by show lendF B F H a = _; rw [lendF_at hB]; exact x1), Rps.mono sFc _ _ x2⟩
            | _ => exact False.elim y4⟩
      refine ⟨Fc, Gc, ds, frc, by rw [← rv.1]; exact hnp, arg, ?_⟩
      cases hm : f.m ds with
      | stuck => rw [hm] at h; exact h.elim
      | err c =>
        rw [hm] at h
        intro F' H' s fr2 a ha
        refine h F' H' (sFc.trans s) ⟨fr2.fh, fun b o e => fr2.gh b o (GGc b o e), fun b o e => ?_, fr2.nt, M.fr.gt, ?_⟩ a ha
        · cases q : G b with
          | none => rfl
          | some u => have := fr2.gf b o e; rw [GGc b u q] at this; cases this
        · rcases hT with z | z
          · refine tbl_keep M.fr.tb fun b o e nl => ?_
            by_cases hF : ∃ u, Fc b = some u
            · obtain ⟨u, hu⟩ := hF
              have := FcH b u hu
              rw [e] at this; cases this
              exact fr2.fh b _ (s b _ hu)
            · have hF' : Fc b = none := by
                cases q : Fc b with
                | none => rfl
                | some u => exact absurd ⟨u, q⟩ hF
              refine fr2.gh b o (restG_some e hF' (fun z2 => ?_) fun hl => ?_)
              · obtain ⟨k, j, d, _, _, _, _, _, _, ow, _⟩ := ioA_of b z2
                cases d with
                | list xs => obtain ⟨ws, y1, _⟩ := ow; rw [e] at y1; cases y1; exact absurd rfl (nl ws)
                | _ => exact False.elim ow
              · have : (!T'.isEmpty) = true := hl
                rw [z] at this; cases this
          · rw [← z]; exact fr2.tb
      | ok p =>
        obtain ⟨d, o⟩ := p
        rw [hm] at h
        simp only [Res.bind_ok] at h
        by_cases hfl : lends f.io rs = false ∨ (flatC d = true ∧ (f.ro = false → flatD d = true) ∧ flatC o = true)
        · rw [if_pos hfl] at h
          simp only at h
          intro F' H' v s fr2 hio hres
          have noB : lends f.io rs = false → ∀ a, ¬ B a := fun hl a ⟨i, j, n1, e, _⟩ => by
            have hm2 : (.slot j : RV) ∈ (match f.io with | some k => rs.eraseIdx k | none => rs) := by
              cases hh : f.io with
              | none => exact List.mem_of_getElem? e
              | some k => exact mem_erase e (fun z => n1 (by rw [hh, z]))
            unfold lends at hl
            rw [List.any_eq_false] at hl
            exact hl _ hm2 rfl
          let F2 := takeF B F'
          have sF2 : Same F F2 := fun a u e => by
            show takeF B F' a = some u
            have hb : ¬ B a := fun z => by rw [BF a z] at e; cases e
            rw [takeF_no hb]; exact s a u (sFc a u e)
          have F2F : Same F2 F' := fun a u e => by
            have e : takeF B F' a = some u := e
            by_cases hb : B a
            · rw [takeF_at hb] at e; cases e
            · rw [takeF_no hb] at e; exact e
          have mvT : ∀ a ws, SqT K F' a ws → SqT K F2 a ws := fun a ws q => by
            rcases q with q | q
            · refine .inl ?_
              have nb : ¬ B a := fun z => by
                obtain ⟨xs, hx⟩ := BH a z
                have e1 : Fc a = some (.lst xs) := by show lendF B F H a = _; rw [lendF_at z]; exact hx
                have e2 := s a _ e1
                rcases q with q | ⟨ob, q⟩
                · rw [e2] at q; cases q
                · rw [e2] at q; cases q
              rcases q with q | ⟨ob, q⟩
              · exact .inl (by show takeF B F' a = _; rw [takeF_no nb]; exact q)
              · exact .inr ⟨ob, by show takeF B F' a = _; rw [takeF_no nb]; exact q⟩
            · exact .inr q
          have eqF : lends f.io rs = false → Same F' F2 := fun hl a u e => by
            show takeF B F' a = some u
            rw [takeF_no (noB hl a)]; exact e
          have mvO : ∀ {d : D} {a : Addr}, (lends f.io rs = false ∨ flatC d = true) → OwnD K mg F' H' d a → OwnD K mg F2 H' d a := fun {d a} hf ow => by
            cases d with
            | list xs =>
              obtain ⟨ws, y1, y2⟩ := ow
              refine ⟨ws, y1, ?_⟩
              rcases hf with hf | hf
              · exact Rps.mono (eqF hf) _ _ y2
              · exact flats_mv mvT _ _ (by simpa only [flatC] using hf) y2
            | _ => exact False.elim ow
          have F2n : ∀ a, F' a = none → F2 a = none := fun a e => by
            show takeF B F' a = none
            by_cases hb : B a
            · exact takeF_at hb
            · rw [takeF_no hb]; exact e
          have Gc_n : ∀ a, Gc a = none → G a = none := fun a e => by
            cases q : G a with
            | none => rfl
            | some u => rw [GGc a u q] at e; cases e
          have tb2 : LamX.Tabs S.T H' := by
            rcases hT with z | z
            · refine tbl_keep M.fr.tb fun b o e nl => ?_
              by_cases hF : ∃ u, Fc b = some u
              · obtain ⟨u, hu⟩ := hF
                have := FcH b u hu
                rw [e] at this; cases this
                exact fr2.fh b _ (s b _ hu)
              · have hF' : Fc b = none := by
                  cases q : Fc b with
                  | none => rfl
                  | some u => exact absurd ⟨u, q⟩ hF
                refine fr2.gh b o (restG_some e hF' (fun z2 => ?_) fun hl => ?_)
                · obtain ⟨k, j, d, _, _, _, _, _, _, ow, _⟩ := ioA_of b z2
                  cases d with
                  | list xs => obtain ⟨ws, y1, _⟩ := ow; rw [e] at y1; cases y1; exact absurd rfl (nl ws)
                  | _ => exact False.elim ow
                · have : (!T'.isEmpty) = true := hl
                  rw [z] at this; cases this
            · rw [← z]; exact fr2.tb
          -- the own slots behind the call
          have others : ∀ i d0, S.own i = true → ev[i]? = some (some d0) → (∀ j, js = some j → i ≠ j) → ∃ a, σ[i]? = some (some (.ref a)) ∧ OwnD K mg F2 H' d0 a ∧ F2 a = none ∧ G a = none := fun i d0 ho e hne => by
            obtain ⟨a, x1, x2, x3, x4⟩ := M.so i d0 ho e
            have hia : ioA ≠ some a := fun z => by
              obtain ⟨k, j, d', _, z2, _, z4, z5, z6, _⟩ := ioA_of a z
              exact M.sp i j d0 d' a ho z6 (hne j z2) e z5 x1 z4
            refine ⟨a, x1, ?_, ?_, x4⟩
            · cases d0 with
              | list xs =>
                obtain ⟨ws, y1, y2⟩ := x2
                refine ⟨ws, ?_, Rps.mono sF2 _ _ y2⟩
                by_cases hb : B a
                · exact fr2.fh a _ (s a _ (by show lendF B F H a = _; rw [lendF_at hb]; exact y1))
                · exact fr2.gh a _ (restG_some y1 (by show lendF B F H a = none; rw [lendF_no hb]; exact x3) hia fun _ ps z => by cases z)
              | _ => exact False.elim x2
            · by_cases hb : B a
              · exact takeF_at hb
              · refine F2n a ?_
                cases q : F' a with
                | none => rfl
                | some u =>
                  obtain ⟨o', y1, y2⟩ := x2.there
                  have := fr2.gf a u q
                  rw [show Gc a = some o' from restG_some y1 (by show lendF B F H a = none; rw [lendF_no hb]; exact x3) hia fun _ ps => y2 ps] at this
                  cases this
          have sim2 : Sim K mg S F2 G P H' (putIo js o ev) σ := by
            have fr3 : Frm S.T F2 G H' := ⟨F2F.trans fr2.fh, fun b u e => fr2.gh b u (GGc b u e), fun b u e => Gc_n b (fr2.gf b u (F2F b u e)), fun b ps e => fr2.nt b ps (F2F b _ e), M.fr.gt, tb2⟩
            cases js with
            | none =>
              exact ⟨fr3, M.len, fun i d0 h0 e => let ⟨v0, e1, r⟩ := M.sl i d0 h0 e; ⟨v0, e1, Rp.mono sF2 _ _ r⟩, fun i d0 ho e => others i d0 ho e (fun j z => by cases z), M.sp, M.pn⟩
            | some j =>
              -- the io slot
              obtain ⟨k, hk⟩ : ∃ k, f.io = some k := by
                cases hh : f.io with
                | none => unfold ioSlot at hj; rw [hh] at hj; cases hj
                | some k => exact ⟨k, rfl⟩
              have hlt : k < rs.length := by
                unfold ioSlot at hj
                rw [hk] at hj
                simp only at hj
                split at hj
                · rename_i j' hr; exact (List.getElem?_eq_some_iff.mp hr).1
                · cases hj
              obtain ⟨j', a, d', z1, z2, z3, z4, z5, z6, z7, z8, z9, z10, z11⟩ := ioF k hk hlt
              cases z1
              obtain ⟨a', w1, w2, w3, w4⟩ := hio k hk
              rw [z3] at w1
              cases w1
              have ow2 : OwnD K mg F2 H' o a := mvO (hfl.imp id fun z => z.2.2) w2
              refine ⟨fr3, by show (ev.set j _).length = _; rw [List.length_set]; exact M.len, fun i d0 h0 e => ?_, fun i d0 ho e => ?_, fun i i2 d0 e0 b hi hi2 hn q1 q2 => ?_, M.pn⟩
              · rcases set_get e with ⟨rfl, _⟩ | ⟨_, e1⟩
                · rw [z6] at h0; cases h0
                · obtain ⟨v0, e2, r⟩ := M.sl i d0 h0 e1
                  exact ⟨v0, e2, Rp.mono sF2 _ _ r⟩
              · rcases set_get e with ⟨rfl, e1⟩ | ⟨hn, e1⟩
                · cases e1
                  exact ⟨a, z4, ow2, F2n a w3, z9⟩
                · exact others i d0 ho e1 fun j2 z => by cases z; exact hn
              · have pr : ∀ {i : Nat} {d0 : D}, (ev.set j (some o))[i]? = some (some d0) → ∃ d1, ev[i]? = some (some d1) := fun {i d0} e => by
                  rcases set_get e with ⟨rfl, _⟩ | ⟨_, e1⟩
                  · exact ⟨_, z5⟩
                  · exact ⟨_, e1⟩
                obtain ⟨d1, p1⟩ := pr q1
                obtain ⟨d2, p2⟩ := pr q2
                exact M.sp i i2 d1 d2 b hi hi2 hn p1 p2
          obtain ⟨k1, k2⟩ := h F2 H' sF2 sim2
          unfold ResR at hres
          cases hro : f.ro with
          | false =>
            rw [hro] at hres
            simp only [Bool.false_eq_true, if_false] at hres
            refine k1 hro v ?_
            rcases hfl with hf | hf
            · exact Rp.mono (eqF hf) _ _ hres
            · exact flat_mv mvT _ _ (hf.2.1 hro) hres
          | true =>
            rw [hro] at hres
            simp only [if_true] at hres
            obtain ⟨a, rfl, w2, w3, w4, w5⟩ := hres
            refine k2 hro a (mvO (hfl.imp id fun z => z.1) w2) ⟨F2n a w3, Gc_n a w4, fun i d0 ho e z => ?_⟩
            -- an own slot's object is not the new one
            obtain ⟨b, y1, y2, y3, y4⟩ := sim2.so i d0 ho e
            rw [z] at y1
            cases y1
            have old : ∃ d1, ev[i]? = some (some d1) := by
              cases js with
              | none => exact ⟨d0, e⟩
              | some j =>
                rcases set_get (show (ev.set j (some o))[i]? = some (some d0) from e) with ⟨rfl, _⟩ | ⟨_, e1⟩
                · obtain ⟨k, hk⟩ : ∃ k, f.io = some k := by
                    cases hh : f.io with
                    | none => unfold ioSlot at hj; rw [hh] at hj; cases hj
                    | some k => exact ⟨k, rfl⟩
                  have hlt : k < rs.length := by
                    unfold ioSlot at hj
                    rw [hk] at hj
                    simp only at hj
                    split at hj
                    · rename_i j' hr; exact (List.getElem?_eq_some_iff.mp hr).1
                    · cases hj
                  obtain ⟨j', a', d', z1, z2, z3, z4, z5, _⟩ := ioF k hk hlt
                  cases z1
                  exact ⟨d', z5⟩
                · exact ⟨d0, e1⟩
            obtain ⟨d1, e1⟩ := old
            obtain ⟨b, x1, x2, x3, x4⟩ := M.so i d1 ho e1
            rw [z] at x1
            cases x1
            obtain ⟨o1, t1, t2⟩ := x2.there
            by_cases hia : ioA = some a
            · obtain ⟨k, j, d', g1, g2, g3, _⟩ := ioA_of a hia
              exact w5 k g1 g3
            · by_cases hb : B a
              · have e3 : Fc a = some o1 := by show lendF B F H a = _; rw [lendF_at hb]; exact t1
                rw [s a _ e3] at w3; cases w3
              · rw [show Gc a = some o1 from restG_some t1 (by show lendF B F H a = none; rw [lendF_no hb]; exact x3) hia fun _ ps => t2 ps] at w4
                cases w4
        · rw [if_neg hfl] at h; exact h.elim
end
end TL

set_option Elab.async false
set_option linter.all false
set_option maxRecDepth 100000
/-! calls of the module's defs; chains of comparisons. -/
namespace TL
open PySem PySem.Spec PyProof.Rows L2
/-- a call with the number of its arguments checked -/
def chkN (n : Nat) (ms : DA) : DA := fun ev => (ms ev).bind fun p => if p.1.length = n then .ok p else .stuck
section
variable {X : Cx} {S : Sx} {W : WX} {a b c e : Expr} {es : List Expr} {ma mb mc m n : DE} {ms : DA} {pos p : Pos} {x : Str} {f : FnS} {k : Nat} {fa : Addr} {fd : FuncData} {ps : List Str} {T' : List (Addr × Str)}
theorem sa_chk {n : Nat} (h : PA X es (tA X.K X.mg S W ms)) : PA X es (fun σ H Q => tA X.K X.mg S W (chkN n ms) σ H fun vs H' => vs.length = n → Q vs H') := h.imp fun σ H Q ⟨F, G, P, ev, M, h⟩ => by
  refine ⟨F, G, P, ev, M, h.bind.imp fun rs ev1 F1 H1 _ s1 M1 h1 vs rvs => ?_⟩
  obtain ⟨hl, h1⟩ := h1.cond
  exact h1 F1 H1 (Same.refl _) M1 vs rvs (by rw [← rvs.1]; exact hl)
theorem core_fn {σ : L2.St} {H : Hp} {Q : VK} (hT : T' = [] ∨ T' = S.T) (hro : f.ro = false) (h : tE X.K X.mg S W (eCall f (chkN f.np ms)) σ H Q) : tCallS (spF X.K X.mg T' f) (fun σ => WE W σ) (tA X.K X.mg S W ms) σ H Q := by
  obtain ⟨F, G, P, ev, M, h⟩ := h
  refine ⟨F, G, P, ev, M, h.bind.bind.imp fun rs ev1 F1 H1 _ s1 M1 h1 vs rvs => ?_⟩
  obtain ⟨hl, h1⟩ := h1.cond
  have h2 := h1 F1 H1 (Same.refl _) M1
  refine call_core M1 rvs hT hl ?_
  cases q : callD f rs ev1 with
  | stuck => simp only at h2; rw [q] at h2; exact h2
  | err cc => simp only at h2; rw [q] at h2; exact h2
  | ok r =>
    simp only at h2
    rw [q] at h2
    exact fun F' H' s2 M2 => ⟨fun _ v r => h2 F' H' s2 M2 v r, fun z => (by rw [hro] at z; cases z)⟩
theorem core_fno {σ : L2.St} {H : Hp} {Q : VK} (hT : T' = [] ∨ T' = S.T) (hro : f.ro = true) (h : tO X.K X.mg S W (oCallF f (chkN f.np ms)) σ H Q) : tCallS (spF X.K X.mg T' f) (fun σ => WE W σ) (tA X.K X.mg S W ms) σ H Q := by
  obtain ⟨F, G, P, ev, M, h⟩ := h
  refine ⟨F, G, P, ev, M, h.bind.bind.imp fun rs ev1 F1 H1 _ s1 M1 h1 vs rvs => ?_⟩
  obtain ⟨hl, h1⟩ := h1.cond
  have h2 := h1 F1 H1 (Same.refl _) M1
  refine call_core M1 rvs hT hl ?_
  cases q : callD f rs ev1 with
  | stuck => simp only at h2; rw [q] at h2; exact h2
  | err cc => simp only at h2; rw [q] at h2; exact h2
  | ok r =>
    simp only at h2
    rw [q] at h2
    exact fun F' H' s2 M2 => ⟨fun z => (by rw [hro] at z; cases z), fun _ a o fr => h2 F' H' s2 M2 a o fr⟩
theorem sd_call (tk : L2N.Takes X W) (Fn : FnOk X.prog X.w X.K X.mg X.base (L2N.CX X.prog X.w) k fa fd ps (spF X.K X.mg T' f)) (hr : Room k X.A) (hT : T' = [] ∨ T' = S.T) (hg : Gl X x) (hm : X.mg x = some (.ref fa)) (hk : PySem.W.keepIn X.K (.ref fa) = true) (hb : Binds X.K fd ps [])
    (ha : PA X (e :: es) (tA X.K X.mg S W ms)) (hro : f.ro = false := by rfl) (hdb : (x == ("__debug__" : Str)) = false := by decide) (he : starEach (e :: es) X.env = (false, eval e X.env) :: starEach es X.env := by rfl) (hpl : (backTo pos (starEach es X.env)).any (·.1) = false := by rfl) :
    PE X (.Call (.Name x p) (e :: es) [] pos) (tE X.K X.mg S W (eCall f (chkN f.np ms))) := (pe_callS (E := fun σ => WE W σ) Fn hr hg hm hk hb (fun σ => L2N.passAt tk σ) ha hdb he hpl).imp fun _ _ _ h => core_fn hT hro h
theorem so_call (tk : L2N.Takes X W) (Fn : FnOk X.prog X.w X.K X.mg X.base (L2N.CX X.prog X.w) k fa fd ps (spF X.K X.mg T' f)) (hr : Room k X.A) (hT : T' = [] ∨ T' = S.T) (hg : Gl X x) (hm : X.mg x = some (.ref fa)) (hk : PySem.W.keepIn X.K (.ref fa) = true) (hb : Binds X.K fd ps [])
    (ha : PA X (e :: es) (tA X.K X.mg S W ms)) (hro : f.ro = true := by rfl) (hdb : (x == ("__debug__" : Str)) = false := by decide) (he : starEach (e :: es) X.env = (false, eval e X.env) :: starEach es X.env := by rfl) (hpl : (backTo pos (starEach es X.env)).any (·.1) = false := by rfl) :
    PE X (.Call (.Name x p) (e :: es) [] pos) (tO X.K X.mg S W (oCallF f (chkN f.np ms))) := (pe_callS (E := fun σ => WE W σ) Fn hr hg hm hk hb (fun σ => L2N.passAt tk σ) ha hdb he hpl).imp fun _ _ _ h => core_fno hT hro h
variable {g h : D → D → Option D} {op op' : CmpOp}
theorem sd_chain (ho : OpR X (compareOp op) (rV X.K X.mg g)) (ho' : OpR X (compareOp op') (rV X.K X.mg h)) (ha : PE X a (tE X.K X.mg S W ma)) (hb : PE X b (tE X.K X.mg S W mb)) (hc : PE X c (tE X.K X.mg S W mc)) (hm : lastMarks [op, op'] [b, c] = false := by with_unfolding_all rfl) :
    PE X (.Compare a [op, op'] [b, c] pos) (tE X.K X.mg S W (vChain g h ma mb mc)) := (pe_chain ho ho' ha hb hc hm).imp fun _ _ _ h => core_chain h
theorem st_chain (ho : OpR X (compareOp op) (rV X.K X.mg g)) (ho' : OpR X (compareOp op') (rV X.K X.mg h)) (ha : PE X a (tE X.K X.mg S W ma)) (hb : PE X b (tE X.K X.mg S W mb)) (hc : PE X c (tE X.K X.mg S W mc)) (hm : lastMarks [op, op'] [b, c] = false := by with_unfolding_all rfl) :
    PT X (.Compare a [op, op'] [b, c] pos) (tT X.K X.mg S W (tOf (vChain g h ma mb mc))) := (pt_chain ho ho' ha hb hc hm).imp fun _ _ _ h => core_chain (tE_bool h)
end
end TL

set_option Elab.async false
set_option linter.all false
set_option maxRecDepth 100000
set_option maxHeartbeats 2000000
/-! list comprehensions and unpacking where an exception is handled. -/
namespace TL
open PySem PySem.Spec PyProof.Rows L2 HotX L2H
section
variable {prog : Program} {w : World} {A : Around} {E : Value → Shared → Prop} {s : Shared}
/-- a list's iterator is at its end -/
theorem next_list_hot {it l x1 : Addr} {i : Nat} {items} {Q : Option Value → Shared → Prop} (hot : HotAt A x1 s.heap) (hne : x1 ≠ it)
    (hit : s.heap.IsListIter it l i) (hl : s.heap.IsList l items) (hx : items[i]? = none)
    (hQ : ∀ h', Heap.ExtBut it s.heap h' → Q none { s with heap := h' }) : wpAny (model prog w) A (pyNext (.ref it)) Q E s := by
  obtain ⟨o, ho, hc, hd⟩ := id hit
  obtain ⟨ol, hol, _, nl, hdl⟩ := hl
  obtain ⟨hh, o1, vs1, h1, d1, c1⟩ := hot
  unfold pyNext
  refine wpAny_bind (wpAny_attempt (wpAny_callSpecial?_slot (name := Str.ofString "__next__") hit.typeIs slot_listiter_next
    (wpAny_call_entry slot_listiter_next hit.typeIs entry_listiter_next ?_ (args_listiter_next _))))
  show wpAny _ _ (field (.ref it) 0 >>= _) _ _ s
  refine wpAny_bind (wpAny_field ho hd (x := .ref l) rfl ?_)
  show wpAny _ _ (if (Value.ref l == Value.none) = true then _ else _) _ _ s
  rw [if_neg (show ¬ ((Value.ref l == Value.none) = true) from Bool.false_ne_true)]
  show wpAny _ _ (field (.ref it) 1 >>= _) _ _ s
  refine wpAny_bind (wpAny_field ho hd (x := .int i 0) rfl ?_)
  show wpAny _ _ (seqItems? (.ref l) >>= _) _ _ s
  refine wpAny_bind (wpAny_seqItems hol hdl ?_)
  simp only [Int.toNat_natCast, hx]
  refine wpAny_bind (wpAny_rule (wpAny_bind (wpAny_setField ho hd (by simp) ?_)))
  show wpAny _ _ (newExc (.type "StopIteration") [] >>= _) _ _ _
  refine wpAny_bind ?_
  simp only [newExc, newTuple]
  refine wpAny_bind (wpAny_newObj_type ?_ (by size_fits))
  refine wpAny_bind (m := firstArgMember _ _) (wpAny_of_eq (a := Value.none) (by first | rfl | (simp only [firstArgMember]; rfl)) ?_)
  refine wpAny_newObj_type ?_ (by size_fits)
  have h1' : ∀ u, (s.heap.update it u).get? x1 = some o1 := fun u => by rw [Heap.get?_update_other _ _ (Ne.symm hne)]; exact h1
  refine raiseNew_hot ⟨hh, o1, vs1, Heap.get?_push_of_some _ (Heap.get?_push_of_some _ (h1' _)), d1, c1⟩ (Nat.ne_of_lt (Heap.lt_size (Heap.get?_push_of_some _ (h1' _)))) (Heap.get?_push_size _ rfl) rfl (by first | (simp; done) | (simp; omega) | (simp only [Array.size_append]; simp; omega)) ?_
  refine wpAny_bind (wpAny_isInstance (T := "StopIteration") (b := true) ⟨_, Heap.get?_update_self _ (Heap.get?_push_size _ rfl) rfl, rfl⟩ isSubtype_stop ?_)
  refine wpAny_pure (hQ _ fun b o hb e => ?_)
  have e2 : ∀ u, (s.heap.update it u).get? b = some o := fun u => by rw [Heap.get?_update_other _ _ (Ne.symm hb)]; exact e
  rw [Heap.get?_update_other _ _ (Nat.ne_of_gt (Heap.lt_size (Heap.get?_push_of_some _ (e2 _))))]
  exact Heap.get?_push_of_some _ (Heap.get?_push_of_some _ (e2 _))
theorem next_tuple_hot {it t x1 : Addr} {i : Nat} {items} {Q : Option Value → Shared → Prop} (hot : HotAt A x1 s.heap) (hne : x1 ≠ it)
    (hit : IsTupIter s.heap it t i) (ht : IsTup s.heap t items) (hx : items[i]? = none)
    (hQ : ∀ h', Heap.ExtBut it s.heap h' → Q none { s with heap := h' }) : wpAny (model prog w) A (pyNext (.ref it)) Q E s := by
  obtain ⟨o, ho, hc, hd⟩ := id hit
  obtain ⟨ol, hol, _, nl, hdl⟩ := ht
  obtain ⟨hh, o1, vs1, h1, d1, c1⟩ := hot
  unfold pyNext
  refine wpAny_bind (wpAny_attempt (wpAny_callSpecial?_slot (name := Str.ofString "__next__") hit.typeIs slot_tupleiter_next
    (wpAny_call_entry slot_tupleiter_next hit.typeIs entry_tupleiter_next ?_ (args_tupleiter_next _))))
  show wpAny _ _ (field (.ref it) 0 >>= _) _ _ s
  refine wpAny_bind (wpAny_field ho hd (x := .ref t) rfl ?_)
  show wpAny _ _ (if (Value.ref t == Value.none) = true then _ else _) _ _ s
  rw [if_neg (show ¬ ((Value.ref t == Value.none) = true) from Bool.false_ne_true)]
  show wpAny _ _ (field (.ref it) 1 >>= _) _ _ s
  refine wpAny_bind (wpAny_field ho hd (x := .int i 0) rfl ?_)
  show wpAny _ _ (seqItems? (.ref t) >>= _) _ _ s
  refine wpAny_bind (wpAny_seqItems hol hdl ?_)
  simp only [Int.toNat_natCast, hx]
  refine wpAny_bind (wpAny_rule (wpAny_bind (wpAny_setField ho hd (by simp) ?_)))
  show wpAny _ _ (newExc (.type "StopIteration") [] >>= _) _ _ _
  refine wpAny_bind ?_
  simp only [newExc, newTuple]
  refine wpAny_bind (wpAny_newObj_type ?_ (by size_fits))
  refine wpAny_bind (m := firstArgMember _ _) (wpAny_of_eq (a := Value.none) (by first | rfl | (simp only [firstArgMember]; rfl)) ?_)
  refine wpAny_newObj_type ?_ (by size_fits)
  have h1' : ∀ u, (s.heap.update it u).get? x1 = some o1 := fun u => by rw [Heap.get?_update_other _ _ (Ne.symm hne)]; exact h1
  refine raiseNew_hot ⟨hh, o1, vs1, Heap.get?_push_of_some _ (Heap.get?_push_of_some _ (h1' _)), d1, c1⟩ (Nat.ne_of_lt (Heap.lt_size (Heap.get?_push_of_some _ (h1' _)))) (Heap.get?_push_size _ rfl) rfl (by first | (simp; done) | (simp; omega) | (simp only [Array.size_append]; simp; omega)) ?_
  refine wpAny_bind (wpAny_isInstance (T := "StopIteration") (b := true) ⟨_, Heap.get?_update_self _ (Heap.get?_push_size _ rfl) rfl, rfl⟩ isSubtype_stop ?_)
  refine wpAny_pure (hQ _ fun b o hb e => ?_)
  have e2 : ∀ u, (s.heap.update it u).get? b = some o := fun u => by rw [Heap.get?_update_other _ _ (Ne.symm hb)]; exact e
  rw [Heap.get?_update_other _ _ (Nat.ne_of_gt (Heap.lt_size (Heap.get?_push_of_some _ (e2 _))))]
  exact Heap.get?_push_of_some _ (Heap.get?_push_of_some _ (e2 _))
theorem unpack_hot {t x1 : Addr} {items : Array Value} {Q : List Value → Shared → Prop} (hot : HotAt A x1 s.heap) (ht : IsTup s.heap t items)
    (hQ : ∀ h', Heap.ExtBut s.heap.objs.size s.heap h' → Q items.toList { s with heap := h' }) : wpAny (model prog w) A (unpackItems (.ref t) items.size none) Q E s := by
  have hlt : t ≠ s.heap.objs.size := by obtain ⟨o, ho, _⟩ := ht; exact Nat.ne_of_lt (Heap.lt_size ho)
  obtain ⟨hh, o1, vs1, h1, d1, c1⟩ := hot
  have hlx : x1 ≠ s.heap.objs.size := Nat.ne_of_lt (Heap.lt_size h1)
  unfold unpackItems
  refine wpAny_bind ?_
  · unfold notIterableAtAll
    refine wpAny_bind (wpAny_specialOf ht.typeIs slot_tuple_iter.lookup ?_)
    refine wpAny_pure ?_
    simp only [Bool.false_eq_true, if_false]
    refine wpAny_bind (wpAny_holding (iter_tuple ht ?_))
    refine wpAny_bind (wpAny_holding (draw_tuple hlt items.size 0 _ _ ⟨_, Heap.get?_push_size _ rfl, rfl, rfl⟩ (ht.push _) (by omega) fun h₁ hit₁ hs₁ => ?_))
    have hall : List.take items.size (List.drop 0 items.toList) = items.toList := by
      rw [List.drop_zero]; exact List.take_of_length_le (by simp)
    rw [hall]
    rw [if_neg (by simp)]
    have ht₁ : IsTup h₁ t items := (ht.push _).extBut hs₁.extBut hlt
    refine wpAny_bind (wpAny_holding (next_tuple_hot (x1 := x1) ⟨hh, o1, vs1, (hs₁.2 x1 hlx).trans (Heap.get?_push_of_some _ h1), d1, c1⟩ hlx hit₁ ht₁ (by simp) fun h₂ he₂ => ?_))
    simp only [Option.isSome_none, Bool.false_eq_true, if_false]
    refine wpAny_pure (hQ h₂ fun b o hb e => he₂ b o hb (hs₁.extBut b o hb (Heap.get?_push_of_some _ e)))
theorem asg_tuple_hot {env : Env} {elts : List Expr} {k : Nat} {pos : Pos} {t x1 : Addr} {items : Array Value} {Q : Unit → Shared → Prop} (hot : HotAt A x1 s.heap) (ht : IsTup s.heap t items)
    (hn : (assignEach elts env).length = items.size) (hstar : (assignEach elts env).findIdx? (·.1) = none)
    (h : ∀ h', Heap.ExtBut s.heap.objs.size s.heap h' → wpAny (model prog w) A (assignInOrder ((assignEach elts env).map (·.2)) items.toList) Q E { s with heap := h' }) :
    wpAny (model prog w) A (assign (.Tuple elts k pos) env (.ref t)) Q E s := by
  rw [PyProof.Rows.assign_Tuple]
  refine wpAny_bind (wpAny_standAt ?_)
  unfold unpack
  rw [hn, hstar]
  exact wpAny_bind (wpAny_holding (unpack_hot hot ht h))
end
/-- the context bears a handled exception; the iterators are other objects -/
def HotX (X : Cx) : Prop := ∀ (pins : List (Addr × Obj)) (σ : L2.St) (H : Hp) (s : Shared), Inv X pins σ H s → ∃ x1, HotAt X.A x1 s.heap ∧ ∀ H' b, FpOk X pins H' b → x1 ≠ b
theorem hotx_of {X : Cx} (c : HotC X) : HotX X := fun pins σ H s I => by
  obtain ⟨p, ⟨hh, v1, e1, c1⟩, hp⟩ := c
  obtain ⟨g, n, _⟩ := I.pin p (List.mem_append_left _ hp)
  exact ⟨p.1, ⟨hh, p.2, v1, g, e1, c1⟩, fun H' b f => f.2.2.2.2.2 p (List.mem_append_left _ hp)⟩
theorem hotx_blk {X : Cx} {pins : List (Addr × Obj)} {σ : L2.St} {H : Hp} {s : Shared} {scope : Scope} {ce : Env} {fp : List Addr} (c : HotC X) (I : Inv X pins σ H s) (hfp : ∀ b ∈ fp, ∃ H', FpOk X pins H' b) : HotX (X.blk s H scope ce fp) := fun pins' σ' H' s' I' => by
  obtain ⟨p, ⟨hh, v1, e1, c1⟩, hp⟩ := c
  obtain ⟨g, n, nl, nf, _⟩ := I.pin p (List.mem_append_left _ hp)
  have nfp : p.1 ∉ fp := fun z => by
    obtain ⟨H2, f⟩ := hfp _ z
    exact f.2.2.2.2.2 p (List.mem_append_left _ hp) rfl
  have nst : p.1 ∉ frs X.stack := fun z => (List.mem_cons.mp (I.stkSub _ z)).elim nl nf
  have g' : s'.heap.get? p.1 = some p.2 := I'.base.keep p.1 p.2 g n nst nfp
  refine ⟨p.1, ⟨hh, p.2, v1, g', e1, c1⟩, fun H2 b f z => ?_⟩
  rcases f.2.2.2.1 with q | q
  · have q : b ∈ fp := q
    exact nfp (by rw [z]; exact q)
  · have q : s.heap.objs.size ≤ b := q
    exact absurd (Heap.lt_size g) (by rw [z]; exact Nat.not_lt.mpr q)
section
variable {X : Cx} {pos : Pos}
theorem pg_tupH {es : List Expr} {k : Nat} {t : TGs} {n : Nat} (hc : HotX X) (h : PGs X es t)
    (hn : (assignEach es X.env).length = n := by rfl) (hst : (assignEach es X.env).findIdx? (·.1) = none := by rfl) : PG X (.Tuple es k pos) (gTup X.K n t) := by
  refine ⟨fun pins s σ H v u Q I r hw => ?_⟩
  obtain ⟨a, xs, e1, hq, hl, hw⟩ := hw
  subst e1
  cases r
  obtain ⟨its, rv, ht, hz⟩ := I.tuple hq
  obtain ⟨x1, hot, _⟩ := hc pins σ H s I
  refine asg_tuple_hot hot ht (by simp [hn, ← hl, rv.length]) hst fun h' hx => ?_
  have I1 : Inv X pins σ H { s with heap := h' } := I.kept (t' := s.toks) fun b o e => hx b o (Nat.ne_of_lt (Heap.lt_size e)) e
  exact h.run pins _ σ H xs _ Q I1 (by simpa using rv) hw
end
/-! ### the walk of a list -/
structure TurnQ (P : Program) (w : World) (K : PySem.W.Frag) (tg : Expr) (J : It) (fp : List Addr) (it : Addr) (tn : Nat → Heap → Prop) : Prop where
  mem : it ∈ fp
  obj : ∀ i h, tn i h → ∀ b ∈ fp, ∃ o, h.get? b = some o ∧ ∀ v, o.data ≠ .cell v
  keep : ∀ i h h', tn i h → (∀ b ∈ fp, ∀ o, h.get? b = some o → h'.get? b = some o) → tn i h'
  item : ∀ (X : Cx), X.prog = P → X.w = w → X.K = K → HotX X → ∀ (i : Nat) (pins : List (Addr × Obj)) (s : Shared) (σ : L2.St) (H : Hp) (E : Value → Shared → Prop), Inv X pins σ H s → (∀ b ∈ fp, FpOk X pins H b) → tn i s.heap → J.go i H →
    wpAny (model P w) X.A (pyNext (.ref it)) (fun r s1 => ∃ u, r = some u ∧
      wpAny (model P w) X.A (letOwnedTupleGo tg (.ref it) u) (fun _ s2 => ∃ x H', Inv X pins σ H' s2 ∧ RelV x u ∧ J.yld i H x H' ∧ tn (i + 1) s2.heap ∧ ∀ b ∈ fp, H' b = none) E s1) E s
  done : ∀ (X : Cx), X.prog = P → X.w = w → X.K = K → HotX X → ∀ (i : Nat) (pins : List (Addr × Obj)) (s : Shared) (σ : L2.St) (H : Hp) (E : Value → Shared → Prop), Inv X pins σ H s → (∀ b ∈ fp, FpOk X pins H b) → tn i s.heap → J.stop i H →
    wpAny (model P w) X.A (pyNext (.ref it)) (fun r s1 => r = none ∧ Inv X pins σ H s1) E s
  self : ∀ (A : Around) (i : Nat) (s : Shared) (Q : Value → Shared → Prop) (E : Value → Shared → Prop), tn i s.heap → Q (.ref it) s → wpAny (model P w) A (pyIter (.ref it)) Q E s
theorem turnq_list {P : Program} {w : World} {K : PySem.W.Frag} {tg : Expr} (a it : Addr) : TurnQ P w K tg (Itl K a) [it] it (fun i h => h.IsListIter it a i) where
  mem := by simp
  obj := (turn_list (P := P) (w := w) (K := K) (tg := tg) a it).obj
  keep := (turn_list (P := P) (w := w) (K := K) (tg := tg) a it).keep
  item := by
    intro X hP hw hK hc i pins s σ H E I hf st hg
    subst hP hw hK
    obtain ⟨xs, x, hq, hx⟩ := hg
    obtain ⟨its, rv, p, hz⟩ := I.list hq
    obtain ⟨u, hu, ru⟩ := rv.get hx
    obtain ⟨f0, f1, f2, f3, f4, f5⟩ := hf it (by simp)
    refine wpAny_pyNext_list_item st p.isList (x := u) (by simpa using hu) fun h' st' sb => ?_
    have I1 : Inv X pins σ H { s with heap := h' } := I.turned (t' := s.toks) (fun b o hb e => (sb.2 b hb).trans e) f0 f1 f3 f4 f5
    obtain ⟨o, e, c, d⟩ := id st'
    exact ⟨u, rfl, go_of (s := { s with heap := h' }) e c d (by decide) ⟨x, H, I1, ru, ⟨rfl, fun ys hy => by rw [I.list_inj hy hq]; exact hx⟩, st', fun b hb => (hf b hb).1⟩⟩
  done := by
    intro X hP hw hK hc i pins s σ H E I hf st hg
    subst hP hw hK
    obtain ⟨xs, hq, hx⟩ := hg
    obtain ⟨its, rv, p, hz⟩ := I.list hq
    obtain ⟨x1, hot, hne⟩ := hc pins σ H s I
    obtain ⟨f0, f1, f2, f3, f4, f5⟩ := hf it (by simp)
    have hl := rv.length
    exact next_list_hot hot (hne H it (hf it (by simp))) st p.isList (by simp; omega) fun h' eb => ⟨rfl, I.turned (t' := s.toks) (fun b o hb e => eb b o hb e) f0 f1 f3 f4 f5⟩
  self := fun _ _ _ _ _ st h => wpAny_pyIter_listiter st h
def PIEQ (X : Cx) (pins : List (Addr × Obj)) (σ : L2.St) (tg : Expr) (R : It → Hp → Prop) (itv : Value) (s2 : Shared) : Prop :=
  ∃ (it : Addr) (fp : List Addr) (tn : Nat → Heap → Prop) (J : It) (H' : Hp), itv = .ref it ∧ Inv X pins σ H' s2 ∧ TurnQ X.prog X.w X.K tg J fp it tn ∧ tn 0 s2.heap ∧ (∀ b ∈ fp, FpOk X pins H' b) ∧ R J H'
structure PIQ (X : Cx) (tg iter : Expr) (wi : TI) : Prop where
  run : ∀ (pins : List (Addr × Obj)) (s : Shared) (σ : L2.St) (H : Hp) (R : It → Hp → Prop), Inv X pins σ H s → wi σ H R →
    wpAny (model X.prog X.w) X.A (eval iter X.env) (fun v s1 => wpAny (model X.prog X.w) X.A (pyIter v) (PIEQ X pins σ tg R) X.xe s1) X.xe s
theorem piq_list {X : Cx} {tg l : Expr} {tl : TE} (hl : PE X l tl) : PIQ X tg l (iList X.K tl) := by
  refine ⟨fun pins s σ H R I h => ?_⟩
  refine thn (hl.run pins s σ H _ I h) fun v s1 ⟨x, H1, I1, r1, q1⟩ => ?_
  obtain ⟨a, e, ⟨xs, hq⟩, q⟩ := q1
  subst e
  cases r1
  obtain ⟨its, rv, p, hz⟩ := I1.list hq
  refine wpAny_pyIter_list p.isList ?_
  refine ⟨s1.heap.objs.size, [s1.heap.objs.size], _, _, H1, rfl, I1.kept (t' := s1.toks) fun b o e => Heap.get?_push_of_some _ e, turnq_list a _, ⟨_, Heap.get?_push_size _ rfl, rfl, rfl⟩, fun b hb => ?_, q⟩
  have e : b = s1.heap.objs.size := by simpa using hb
  subst e
  exact I1.fpOk (Nat.le_refl _) (I1.hok.fresh (Nat.le_refl _))
end TL

set_option Elab.async false
set_option linter.all false
set_option maxRecDepth 100000
set_option maxHeartbeats 2000000
/-! list comprehensions where an exception is handled (statement and proof follow HandS's lc_core, the iterator's end told for a handled exception). -/
namespace TL
open PySem PySem.Spec PyProof.Rows L2 HotX L2H
section
variable {X : Cx}
theorem lc_hot {pins : List (Addr × Obj)} {s : Shared} {σ : L2.St} {H : Hp} {Q : VK} {elt tg iter : Expr} {ifs : List Expr} {scope : Scope} {own : List (Str × Nat)} {pos pos' : Pos} {wi : TI} {g : TG} {tt : TT} {te : TE} {use : Option (Value → Sem Unit)} {Qf : Value → Shared → Prop}
    (hc : HotC X) (hN : X.N.Nodup) (I : Inv X pins σ H s) (hi : PIQ X tg iter wi) (ok : BlkOk X.N X.env.scope scope own)
    (hg : ∀ (s : Shared) (H : Hp) (C : Addr) (cl : List (Str × Addr)) (fp : List Addr), HotX (X.blk s H scope (compEnvC scope cl C X.env) fp) → PG (X.blk s H scope (compEnvC scope cl C X.env) fp) tg g) (ht : ∀ (s : Shared) (H : Hp) (C : Addr) (cl : List (Str × Addr)) (fp : List Addr), PTs (X.blk s H scope (compEnvC scope cl C X.env) fp) ifs tt)
    (he : ∀ (s : Shared) (H : Hp) (C : Addr) (cl : List (Str × Addr)) (fp : List Addr), PE (X.blk s H scope (compEnvC scope cl C X.env) fp) elt te) (hs : ∀ x, foldedSetIterable iter X.env x = pure x)
    (h : tLc wi g tt te (own.map (·.2)) σ H Q)
    (hRR : ∀ D C s' m H', Inv X pins σ H' s' → Q (.ref D) H' → s'.heap.Ns C m → FpOk X pins H' C → compPost (model X.prog X.w) X.A X.xe use Qf (.ref D) C (.ok .next) s') :
    wpAny (model X.prog X.w) X.A (comprehension (.ListComp elt [⟨tg, iter, ifs, 0⟩] scope pos) scope X.env pos' (newList []) false (eval iter X.env) use) Qf X.xe s := by
  have hfree : ∀ y ∈ scope.names, y.2 = .free → ∃ c, X.env.cells.lookup y.1 = some c := fun y hy e => by
    rcases ok.free y hy e with k | k
    · exact I.ok.has _ (.inl k)
    · exact I.ok.has _ (.inr k)
  refine wpAny_comprehension_free (use := use) rfl hs (closure_ok hfree) ok.kind (fun y hy e => by rw [ok.uniq y hy, e])
    (thn (hi.run pins s σ H _ I h) fun xv s1 hx => thn hx fun itv s2 h2 => ?_)
  obtain ⟨it, fp, tn, J, H2, e, I2, T, st2, f2, q⟩ := h2
  subst e
  refine wpAny_newObj_type (newEnv_comp ?_) (by show 0 ≤ sizeLine; decide)
  generalize hD : s2.heap.objs.size = D
  have hDn : H2 D = none := I2.hok.fresh (Nat.le_of_eq hD)
  obtain ⟨W, ⟨m0, w0⟩, turn⟩ := q D hDn
  -- the new list
  generalize hs3 : ({ s2 with heap := s2.heap.push { cls := .type "list", data := .seq ([] : List Value).toArray } } : Shared) = s3
  have I3 : Inv X pins σ (upd H2 D (.lst [])) s3 := by
    rw [← hs3]
    refine I2.laid (t' := s2.toks) (fun b o e => Heap.get?_push_of_some _ e) (Nat.le_of_eq hD) ⟨Nat.zero_le _, [], 0, .nil, ?_⟩
    rw [← hD]
    exact Heap.get?_push_size _ rfl
  have h3 : s3.heap = s2.heap.push { cls := .type "list", data := .seq ([] : List Value).toArray } := by rw [← hs3]
  have sz : ∀ b ∈ fp, b < s2.heap.objs.size := fun b hb => by
    obtain ⟨o, e, _⟩ := T.obj _ _ st2 b hb
    exact Heap.lt_size e
  have f3 : ∀ b ∈ fp, FpOk X pins (upd H2 D (.lst [])) b ∧ b < s3.heap.objs.size := fun b hb => by
    have hlt := sz b hb
    refine ⟨⟨?_, (f2 b hb).2⟩, by rw [h3, Heap.size_push]; exact Nat.lt_succ_of_lt hlt⟩
    rw [upd_ne (by rw [← hD]; exact Nat.ne_of_lt hlt)]
    exact (f2 b hb).1
  have st3 : tn 0 s3.heap := T.keep _ _ _ st2 fun b _ o e => by rw [h3]; exact Heap.get?_push_of_some _ e
  have I4 := block_start I3 ok hN f3
  have hq' : ∀ ce, HotX (X.blk s3 (upd H2 D (.lst [])) scope ce fp) := fun ce => hotx_blk hc I3 fun b hb => ⟨_, (f3 b hb).1⟩
  have pg := hg s3 (upd H2 D (.lst [])) s3.heap.objs.size (cellsFrom (s3.heap.objs.size + 1) scope.names (cloFrom X.env.cells scope.names [])) fp (hq' _)
  have pt := ht s3 (upd H2 D (.lst [])) s3.heap.objs.size (cellsFrom (s3.heap.objs.size + 1) scope.names (cloFrom X.env.cells scope.names [])) fp
  have pe := he s3 (upd H2 D (.lst [])) s3.heap.objs.size (cellsFrom (s3.heap.objs.size + 1) scope.names (cloFrom X.env.cells scope.names [])) fp
  show codeAny _ _ (.compStart (.ListComp elt [⟨tg, iter, ifs, 0⟩] scope pos) 0 (.ref it) (.ref D) (compEnvC scope (cellsFrom (s3.heap.objs.size + 1) scope.names (cloFrom X.env.cells scope.names [])) s3.heap.objs.size X.env)) (compPost (model X.prog X.w) X.A X.xe use Qf (.ref D) s3.heap.objs.size) { s3 with heap := pushCells (s3.heap.push { cls := .type "dict", data := .dict #[] }) scope.names }
  have nfp : ∀ b ∈ fp, (upd H2 D (.lst [])) b = none := fun b hb => (f3 b hb).1.1
  generalize hce : compEnvC scope (cellsFrom (s3.heap.objs.size + 1) scope.names (cloFrom X.env.cells scope.names [])) s3.heap.objs.size X.env = ce at I4 pg pt pe ⊢
  have cL : ce.locals = s3.heap.objs.size := by subst hce; rfl
  generalize hH3 : upd H2 D (.lst []) = H3 at I3 I4 pg pt pe w0 nfp f3 hq'
  generalize hs4 : ({ s3 with heap := pushCells (s3.heap.push { cls := .type "dict", data := .dict #[] }) scope.names } : Shared) = s4 at I4 ⊢
  have st4 : tn 0 s4.heap := T.keep _ _ _ st3 fun b _ o e => by rw [← hs4]; exact pushCells_keeps _ _ _ _ (Heap.get?_push_of_some _ e)
  have stat : ∀ {σ' : L2.St} {H' : Hp} {s' : Shared}, Inv (X.blk s3 H3 scope ce fp) [] σ' H' s' → (∀ b ∈ fp, H' b = none) → ∀ b ∈ fp, FpOk (X.blk s3 H3 scope ce fp) [] H' b := fun {σ' H' s'} I' hn b hb =>
    ⟨hn b hb, (I'.ok.exf b hb).1, I'.ok.exfs b hb, .inl hb, fun x c e => (I'.ok.exf b hb).2 x c e, fun p hp => absurd (show p ∈ ([] : List (Addr × Obj)) ++ [] from hp) (by simp)⟩
  have loop : codeAny (model X.prog X.w) X.A (.compLoop (.ListComp elt [⟨tg, iter, ifs, 0⟩] scope pos) 0 (.ref it) (.ref D) ce) (compPost (model X.prog X.w) X.A X.xe use Qf (.ref D) s3.heap.objs.size) s4 := by
    refine compLoop_any (fun n s' => ∃ i H', Inv (X.blk s3 H3 scope ce fp) [] (wipe σ (own.map (·.2))) H' s' ∧ tn i s'.heap ∧ (∀ b ∈ fp, H' b = none) ∧ W i n H') ?_ m0 ⟨0, H3, I4, st4, nfp, w0⟩
    rintro n s5 ⟨i, H5, I5, st5, n5, w5⟩
    rcases turn i n H5 w5 with ⟨stop, qq⟩ | ⟨go, Nx, hNx, step⟩
    · have td := T.done (X.blk s3 H3 scope ce fp) rfl rfl rfl (hq' ce) i [] s5 _ H5 (fun _ _ => False) I5 (stat I5 n5) st5 stop
      refine thnF td fun r s6 ⟨hr, I6⟩ => ?_
      subst hr
      -- back in the def's context
      have I7 : Inv X pins σ H5 s6 := I3.call' (ch := fp) I6.os I6.base I6.hok I6.bare fun b hb => ⟨(f3 b hb).1.2.2.2.1, (f3 b hb).1.2.1, (f3 b hb).1.2.2.2.2.1, (f3 b hb).1.2.2.2.2.2⟩
      have nC : H5 s3.heap.objs.size = none := by
        have z : H5 ce.locals = none := I6.free
        rw [cL] at z
        exact z
      obtain ⟨m, hn, _⟩ := I6.loc
      have hn : s6.heap.Ns ce.locals m := hn
      rw [cL] at hn
      exact hRR D s3.heap.objs.size s6 m H5 I7 qq hn (I3.fpOk (Nat.le_refl _) nC)
    · have ti := T.item (X.blk s3 H3 scope ce fp) rfl rfl rfl (hq' ce) i [] s5 _ H5 (fun _ _ => False) I5 (stat I5 n5) st5 go
      refine thnF ti fun r s6 ⟨u, hr, h6⟩ => ?_
      subst hr
      refine thnF h6 fun _ s7 ⟨x, H7, I7, r7, y7, st7, n7⟩ => ?_
      have I7' := I7.pinned (stat I7 n7) (T.obj _ _ st7)
      refine thnF (pg.run _ s7 _ H7 x u _ I7' r7 (step x H7 y7)) fun _ s8 ⟨σ8, H8, I8, hw8, q8⟩ => ?_
      refine thnF (pt.run _ s8 σ8 H8 _ I8 q8) fun b s9 ⟨H9, I9, q9⟩ => ?_
      -- the turn's end
      have fin : ∀ {s' : Shared} {H' : Hp}, Inv (X.blk s3 H3 scope ce fp) ([] ++ pinsAt fp s7.heap) σ8 H' s' → Nx H' → ∃ m, m < n ∧ ∃ i H', Inv (X.blk s3 H3 scope ce fp) [] (wipe σ (own.map (·.2))) H' s' ∧ tn i s'.heap ∧ (∀ b ∈ fp, H' b = none) ∧ W i m H' := fun {s' H'} I' nx => by
        obtain ⟨m', hm, w'⟩ := hNx H' nx
        have pin' : ∀ b ∈ fp, ∀ o, s7.heap.get? b = some o → s'.heap.get? b = some o ∧ H' b = none := fun b hb o e =>
          let z := I'.pin (b, o) (List.mem_append_right _ (List.mem_append_right _ (mem_pinsAt hb e)))
          ⟨z.1, z.2.1⟩
        have hl : (wipe σ (own.map (·.2))).length = σ8.length := by rw [← hw8, wipe_length]
        refine ⟨m', hm, i + 1, H', (I'.unpinned (pins := [])).weak hl (fun j v e => ?_), T.keep _ _ _ st7 fun b hb o e => (pin' b hb o e).1, fun b hb => ?_, w'⟩
        · rw [← hw8] at e
          exact (wipe_some e).1
        · obtain ⟨o, e, _⟩ := T.obj _ _ st7 b hb
          exact (pin' b hb o e).2
      cases b with
      | false =>
        simp only [Bool.false_eq_true, if_false] at q9 ⊢
        exact fin I9 q9
      | true =>
        simp only [if_true] at q9 ⊢
        refine thnF (pe.run _ s9 σ8 H9 _ I9 q9) fun z s10 ⟨yv, H10, I10, r10, acc, hD10, hz10, nx⟩ => ?_
        exact app_ok (X := X.blk s3 H3 scope ce fp) I10 hD10 hz10 r10 fun s11 I11 => fin I11 nx
  exact codeAny_compStart_list loop (T.self X.A 0 _ _ _ st4 loop)
theorem pe_lcH {elt tg iter : Expr} {ifs : List Expr} {scope : Scope} {own : List (Str × Nat)} {pos : Pos} {wi : TI} {g : TG} {tt : TT} {te : TE} (hc : HotC X) (hN : X.N.Nodup) (hi : PIQ X tg iter wi) (ok : BlkOk X.N X.env.scope scope own)
    (hg : ∀ (s : Shared) (H : Hp) (C : Addr) (cl : List (Str × Addr)) (fp : List Addr), HotX (X.blk s H scope (compEnvC scope cl C X.env) fp) → PG (X.blk s H scope (compEnvC scope cl C X.env) fp) tg g) (ht : ∀ (s : Shared) (H : Hp) (C : Addr) (cl : List (Str × Addr)) (fp : List Addr), PTs (X.blk s H scope (compEnvC scope cl C X.env) fp) ifs tt)
    (he : ∀ (s : Shared) (H : Hp) (C : Addr) (cl : List (Str × Addr)) (fp : List Addr), PE (X.blk s H scope (compEnvC scope cl C X.env) fp) elt te) (hs : ∀ x, foldedSetIterable iter X.env x = pure x := by intro _; rfl) :
    PE X (.ListComp elt [⟨tg, iter, ifs, 0⟩] scope pos) (tLc wi g tt te (own.map (·.2))) := by
  refine ⟨fun pins s σ H Q I h => ?_⟩
  rw [eval_ListComp]
  refine lc_hot hc hN I hi ok hg ht he hs h fun D C s' m H' I' q hn f => ⟨m, hn, fun h'' sb => ?_⟩
  obtain ⟨f0, f1, f2, f3, f4, f5⟩ := f
  exact ⟨.ref D, H', I'.turned (t' := s'.toks) (fun b o hb e => (sb.2 b hb).trans e) f0 f1 f3 f4 f5, rfl, q⟩
theorem ps_setLcH {i : Nat} {y : Str} {py : Pos} {elt tg iter : Expr} {ifs : List Expr} {scope : Scope} {own : List (Str × Nat)} {pos spos : Pos} {wi : TI} {g : TG} {tt : TT} {te : TE} (hc : HotC X) (hN : X.N.Nodup) (hy : X.N[i]? = some y) (hyl : X.env.scope.names.lookup y = some .local)
    (hsw : swapsWith (.ListComp elt [⟨tg, iter, ifs, 0⟩] scope pos) (some (.Name y py)) spos.line X.env = pure true) (hi : PIQ X tg iter wi) (ok : BlkOk X.N X.env.scope scope own)
    (hg : ∀ (s : Shared) (H : Hp) (C : Addr) (cl : List (Str × Addr)) (fp : List Addr), HotX (X.blk s H scope (compEnvC scope cl C X.env) fp) → PG (X.blk s H scope (compEnvC scope cl C X.env) fp) tg g) (ht : ∀ (s : Shared) (H : Hp) (C : Addr) (cl : List (Str × Addr)) (fp : List Addr), PTs (X.blk s H scope (compEnvC scope cl C X.env) fp) ifs tt)
    (he : ∀ (s : Shared) (H : Hp) (C : Addr) (cl : List (Str × Addr)) (fp : List Addr), PE (X.blk s H scope (compEnvC scope cl C X.env) fp) elt te) (hs : ∀ x, foldedSetIterable iter X.env x = pure x := by intro _; rfl) :
    PS X (.Assign [.Name y py] (.ListComp elt [⟨tg, iter, ifs, 0⟩] scope pos) spos) (tAsg (tLc wi g tt te (own.map (·.2))) (gName i)) := by
  refine ⟨fun pins s σ H D I h => ?_⟩
  rw [exec_Assign_Name_used _ _ _ _ hsw]
  refine wpAny_bind (wpAny_standAt (wpAny_bind ?_))
  show wpAny _ X.A (do let _ ← comprehension (.ListComp elt [⟨tg, iter, ifs, 0⟩] scope pos) scope X.env (firstIterPos [⟨tg, iter, ifs, 0⟩] pos) (newList []) false (eval iter X.env) (some (assign (.Name y py) X.env))) _ _ s
  have h : tLc wi g tt te (own.map (·.2)) σ H (fun x H1 => gName i x σ H1 D.nx) := h
  refine wpAny_bind (thn (lc_hot (Qf := fun _ s' => SP X pins D .next s') hc hN I hi ok hg ht he hs h fun L C s' m H' I' q hn f => ?_) fun _ s' hq => wpAny_pure (wpAny_pure hq))
  show wpAny _ _ (assign (.Name y py) X.env (.ref L)) _ _ _
  refine wpAny_assign_Name (store_ok2 (v := V.ref L) I' hN hy (.inl hyl) rfl (fun s2 I2 ⟨a, sb, ha⟩ => ?_) (.inr hyl))
  obtain ⟨f0, f1, f2, f3, f4, f5⟩ := f
  have haC : C ≠ a := by
    rcases ha with z | z
    · rw [z]; exact f1
    · exact fun e => f4 y a z e.symm
  refine ⟨m, hn.sameBut sb haC, fun h3 sb3 => ?_⟩
  exact ⟨_, H', I2.turned (t' := s2.toks) (fun b o hb e => (sb3.2 b hb).trans e) f0 f1 f3 f4 f5, q⟩
end
section
variable {X : Cx} {S : Sx} {W : WX} {elt tg iter c : Expr} {ifs : List Expr} {m : DE} {t : DT} {pos : Pos} {bd : D → Ev → Option Ev} {bds : List D → Ev → Option Ev} {is : List Nat} {it : DI} {own : List (Str × Nat)} {scope : Scope} {es : List Expr}
theorem sg_tupH {kk : Nat} {n : Nat} (hc : HotX X) (h : PGs X es (tGs X.K X.mg S bds is)) (hn : (assignEach es X.env).length = n := by rfl) (hst : (assignEach es X.env).findIdx? (·.1) = none := by rfl) : PG X (.Tuple es kk pos) (tG X.K X.mg S (bTup n bds) is) := PG_imp (pg_tupH hc h hn hst) fun v σ H Q ⟨F, G, P, ev, d, ev', M, r, e, k⟩ => by
  cases d with
  | tuple ds =>
    have e : (if ds.length = n then bds ds ev else none) = some ev' := e
    by_cases hl : ds.length = n
    · rw [if_pos hl] at e
      simp only [Rp] at r
      obtain ⟨a, vs, rfl, q, rs⟩ := r
      exact ⟨a, vs, rfl, SqT_mono M.fr.fh q, by rw [← rs.len]; exact hl, F, G, P, ev, ds, ev', M, rs, e, k⟩
    · rw [if_neg hl] at e; cases e
  | _ => cases e
/-- a list's content, as what is walked -/
def iLst (m : DE) : DI := fun ev => (m ev).bind fun p => (toVal p.1 p.2).bind fun q => match q.1 with
  | .list ds => .ok (ds, q.2)
  | _ => .stuck
theorem sj_lstH (he : PE X iter (tE X.K X.mg S W m)) : PIQ X tg iter (tIt X.K X.mg S W (iLst m)) := by
  have h0 := piq_list (tg := tg) he
  refine ⟨fun pins s σ H R I h => h0.run pins s σ H R I ?_⟩
  obtain ⟨F, G, P, ev, M, h⟩ := h
  refine ⟨F, G, P, ev, M, h.bind.imp fun rv ev1 F1 H1 _ s1 M1 h1 v r => ?_⟩
  obtain ⟨d, ev2, F2, _, s2, M2, r2, h1⟩ := tM.val M1 r h1
  cases d with
  | list ds =>
    simp only [Rp] at r2
    obtain ⟨a, vs, rfl, q, rs⟩ := r2
    exact ⟨a, rfl, ⟨vs, .inl (Rd_mono M2.fr.fh q)⟩, h1 F2 H1 (Same.refl _) M2 _ (serves_list q rs)⟩
  | _ => exact False.elim h1
theorem so_compH (hc : HotC X) (hN : X.N.Nodup) (hi : PIQ X tg iter (tIt X.K X.mg S W it)) (ok : BlkOk X.N X.env.scope scope own)
    (hg : ∀ (s : Shared) (H : Hp) (C : Addr) (cl : List (Str × Addr)) (fp : List Addr), HotX (X.blk s H scope (compEnvC scope cl C X.env) fp) → PG (X.blk s H scope (compEnvC scope cl C X.env) fp) tg (tG X.K X.mg S bd is)) (ht : ∀ (s : Shared) (H : Hp) (C : Addr) (cl : List (Str × Addr)) (fp : List Addr), PTs (X.blk s H scope (compEnvC scope cl C X.env) fp) ifs (tT X.K X.mg S W0 t))
    (he : ∀ (s : Shared) (H : Hp) (C : Addr) (cl : List (Str × Addr)) (fp : List Addr), PE (X.blk s H scope (compEnvC scope cl C X.env) fp) elt (tE X.K X.mg S W0 m)) (hv : ∀ v ∈ own.map (·.2), S.own v = false ∧ S.io v = false := by decide) (hsub : ∀ v ∈ is, v ∈ own.map (·.2) := by decide) (hs : ∀ x, foldedSetIterable iter X.env x = pure x := by intro _; rfl) :
    PE X (.ListComp elt [⟨tg, iter, ifs, 0⟩] scope pos) (tO X.K X.mg S W (oComp it (own.map (·.2)) bd t m)) := (pe_lcH hc hN hi ok hg ht he hs).imp fun _ _ _ h => core_comp hv hsub h
theorem sx_compH (i : Nat) {y : Str} {py spos : Pos} (hc : HotC X) (hN : X.N.Nodup) (hi : PIQ X tg iter (tIt X.K X.mg S W it)) (ok : BlkOk X.N X.env.scope scope own)
    (hg : ∀ (s : Shared) (H : Hp) (C : Addr) (cl : List (Str × Addr)) (fp : List Addr), HotX (X.blk s H scope (compEnvC scope cl C X.env) fp) → PG (X.blk s H scope (compEnvC scope cl C X.env) fp) tg (tG X.K X.mg S bd is)) (ht : ∀ (s : Shared) (H : Hp) (C : Addr) (cl : List (Str × Addr)) (fp : List Addr), PTs (X.blk s H scope (compEnvC scope cl C X.env) fp) ifs (tT X.K X.mg S W0 t))
    (he : ∀ (s : Shared) (H : Hp) (C : Addr) (cl : List (Str × Addr)) (fp : List Addr), PE (X.blk s H scope (compEnvC scope cl C X.env) fp) elt (tE X.K X.mg S W0 m)) (hv : ∀ v ∈ own.map (·.2), S.own v = false ∧ S.io v = false := by decide) (hsub : ∀ v ∈ is, v ∈ own.map (·.2) := by decide) (h1 : S.own i = false := by rfl) (h2 : S.io i = false := by rfl)
    (hy : X.N[i]? = some y := by rfl) (hyl : X.env.scope.names.lookup y = some .local := by rfl) (hsw : swapsWith (.ListComp elt [⟨tg, iter, ifs, 0⟩] scope pos) (some (.Name y py)) spos.line X.env = pure true := by exact sw_true rfl rfl rfl (by decide +kernel)) (hs : ∀ x, foldedSetIterable iter X.env x = pure x := by intro _; rfl) :
    PS X (.Assign [.Name y py] (.ListComp elt [⟨tg, iter, ifs, 0⟩] scope pos) spos) (tS X.K X.mg S W (sSet i (vOf (oComp it (own.map (·.2)) bd t m)))) := (ps_setLcH hc hN hy hyl hsw hi ok hg ht he hs).imp fun Dn σ H ⟨F, G, P, ev, M, h⟩ => by
  show tLc _ _ _ _ _ σ H _
  refine core_comp hv hsub ⟨F, G, P, ev, M, ?_⟩
  unfold sSet vOf at h
  rw [Res.bind_assoc] at h
  refine h.bind.imp fun d ev1 F1 H1 _ s1 M1 h3 a o f => ?_
  obtain ⟨F2, s2, M2, r⟩ := M1.freeze o f
  exact h3 F2 H1 _ s2 (M2.setv h1 h2 r)
end
end TL

set_option Elab.async false
set_option linter.all false
set_option maxRecDepth 100000
set_option maxHeartbeats 2000000
/-! sep.join; isinstance(e, C); a def that calls the lambda it got and tells what it raised. -/
namespace TL
open PySem PySem.Spec PyProof.Rows L2 HotX L2H
/-! ### sep.join(texts) -/
def strsOf : List D → Option (List Str)
  | [] => some []
  | .str x :: ds => (strsOf ds).map (x :: ·)
  | _ => none
theorem strsOf_some : ∀ {ds : List D} {ys : List Str}, strsOf ds = some ys → ds = ys.map PyData.str
  | [], _, h => by cases h; rfl
  | .str x :: ds, ys, h => by
    obtain ⟨zs, e, rfl⟩ := Option.map_eq_some_iff.mp (show (strsOf ds).map (x :: ·) = some ys from h)
    rw [strsOf_some e]; rfl
theorem Rps.strs {K : PySem.W.Frag} {mg : Str → Option Value} {F : Hp} : ∀ {ys : List Str} {vs : List V}, Rps K mg F (ys.map PyData.str) vs → vs = ys.map V.str
  | [], vs, h => by simpa [Rps] using h
  | n :: ns, vs, h => by
    simp only [List.map_cons, Rps, Rp] at h
    obtain ⟨v, r, rfl, rfl, q⟩ := h
    rw [Rps.strs q]; rfl
def seqO : D → Option (List D)
  | .list ds => some ds
  | .tuple ds => some ds
  | _ => none
def toStr : D → Option Str
  | .str a => some a
  | _ => none
def gJoin (a : Str) (d : D) : Option D := (seqO d).bind fun ds => (strsOf ds).bind fun ys => if (ys.map (·.length)).sum + ys.length * a.length ≤ 16777216 then some (.str (Txt.join a ys)) else none
def eJoin (ma mb : DE) : DE := fun ev => (ma ev).bind fun p => (lift ((p.1.get p.2).bind toStr)).bind fun a => (mb p.2).bind fun q => (lift (q.1.get q.2)).bind fun d => (lift (gJoin a d)).bind fun r => .ok (.val r, q.2)
section
variable {X : Cx} {S : Sx} {W : WX} {o e : Expr} {ma mb : DE}
theorem sd_join {apos pos : Pos} (ho : PE X o (tE X.K X.mg S W ma)) (he : PE X e (tE X.K X.mg S W mb)) (hs : starEach [e] X.env = [(false, eval e X.env)] := by rfl) (hbase : attributeBase o "join" X.env (eval o X.env) = eval o X.env := by rfl) (hline : (apos.endLine == pos.line) = true := by rfl) :
    PE X (.Call (.Attribute o "join" apos) [e] [] pos) (tE X.K X.mg S W (eJoin ma mb)) := (pe_join ho he hs hbase hline).imp fun σ H Q ⟨F, G, P, ev, M, h⟩ => by
  refine ⟨F, G, P, ev, M, h.bind.imp fun r1 ev1 F1 H1 _ s1 M1 h1 v rv => ?_⟩
  obtain ⟨a, e1, h1⟩ := h1.lift
  obtain ⟨x, e0, e1⟩ := Option.bind_eq_some_iff.mp e1
  cases x with
  | str a' =>
    cases e1
    have hv := (M1.acc rv e0).str
    refine ⟨⟨_, hv⟩, F1, G, P, ev1, M1, h1.bind.imp fun r2 ev2 F2 H2 _ s2 M2 h2 u ru => ?_⟩
    obtain ⟨y, e2, h2⟩ := h2.lift
    obtain ⟨d, e3, h3⟩ := h2.lift
    obtain ⟨ds, q1, e4⟩ := Option.bind_eq_some_iff.mp e3
    obtain ⟨ys, q2, e5⟩ := Option.bind_eq_some_iff.mp e4
    clear e3 e4
    have := strsOf_some q2
    subst this
    split at e5
    · rename_i hz
      cases e5
      cases y with
      | list zs =>
        cases q1
        obtain ⟨p, vs, rfl, hp, hr⟩ := (M2.acc ru e2).list
        rw [Rps.strs hr] at hp
        exact ⟨_, p, ys, hv, rfl, .inl (.inl hp), hz, h3 F2 H2 (Same.refl _) M2 _ (rp_str (K := X.K) (mg := X.mg) (F := F2) _)⟩
      | tuple zs =>
        cases q1
        obtain ⟨p, vs, rfl, hp, hr⟩ := (M2.acc ru e2).tuple
        rw [Rps.strs hr] at hp
        exact ⟨_, p, ys, hv, rfl, .inr (SqT_mono M2.fr.fh hp), hz, h3 F2 H2 (Same.refl _) M2 _ (rp_str (K := X.K) (mg := X.mg) (F := F2) _)⟩
      | _ => cases q1
    · cases e5
  | _ => cases e1
end
/-! ### isinstance(e, C), e the exception that the suite holds -/
def gIsE (a : Addr) (b : Str → Option Bool) : List D → Option D
  | [.dict [(.dict [], .int n)], .dict [(.dict [], .str c)]] => if n = (a : Nat) then (b c).map PyData.bool else none
  | _ => none
theorem call_isD {X : Cx} {a Dc : Addr} {oe : Obj} {pn : List (Addr × Obj)} {b : Str → Option Bool} (C : ExcC X.K Dc) (hz : Zc (.ref Dc) none oe) (hf : ∃ vs, oe.data = .fields vs)
    (hb : ∀ c f k, b c = some k → X.mg c = some (.ref f) → PySem.W.kitOne X.K (.ref Dc) (.ref f) = some k) : CallR (X.suite a ((a, oe) :: pn)) (.builtin "isinstance") (rVs X.K X.mg (gIsE a b)) := by
  intro pins s σ H xs us Q I r h
  refine call_isE (X := X) C hz hf pins s σ H xs us Q I r ?_
  obtain ⟨F, ds, d, sm, hl, rq, e, k⟩ := h
  unfold gIsE at e
  split at e
  · rename_i n c
    split at e
    · rename_i hn
      obtain ⟨kb, e1, rfl⟩ := Option.map_eq_some_iff.mp e
      obtain ⟨x, y, rfl⟩ : ∃ x y, xs = [x, y] := by
        match xs, hl with
        | [x, y], _ => exact ⟨x, y, rfl⟩
      have q1 : Rp X.K X.mg F (.dict [(.dict [], .int n)]) x := rq 0 _ _ rfl rfl
      have q2 : Rp X.K X.mg F (.dict [(.dict [], .str c)]) y := rq 1 _ _ rfl rfl
      simp only [Rp] at q1 q2
      rcases q1 with ⟨_, _, z, _⟩ | ⟨a2, z, rfl⟩ | ⟨_, _, z, _⟩
      · cases z
      rotate_left
      · cases z
      rcases q2 with ⟨x2, f2, z2, rfl, hm⟩ | ⟨_, z2, _⟩ | ⟨_, _, z2, _⟩
      · cases z2
        have ea : a2 = a := by
          have : (.int n : D) = .int (a2 : Nat) := by
            have := congrArg (fun l => (l.head?.map Prod.snd)) z
            simpa using this
          injection this with this
          rw [hn] at this
          exact (Int.ofNat.inj this).symm
        subst ea
        exact ⟨.ref f2, .ref f2, kb, rfl, fun u r => r, hb c f2 kb e1 hm, k F H _ (Grow.refl _ _) (rp_bool (K := X.K) (mg := X.mg) (F := F) kb)⟩
      · cases z2
      · cases z2
    · cases e
  · cases e
end TL

set_option Elab.async false
set_option linter.all false
set_option maxRecDepth 100000
set_option maxHeartbeats 2000000
/-! a def that calls the lambda it got and tells what it raised. -/
namespace TL
open PySem PySem.Spec PyProof.Rows L2 HotX L2H LamX
abbrev E0 : XK := fun _ _ _ => False
/-- the lambda's body, its exceptions without context -/
def lamN (X : Cx) (A : Around) (outer : List Env) (s : Shared) (H : Hp) (E : XK) (scope : Scope) (f c' : Addr) : Cx :=
  (lamCx X A outer s H E scope f c').tr [] (fun e s' => wpAny (model X.prog X.w) (A.deeper (lamEnv X scope s.heap.objs.size f c')) (leaving (lamEnv X scope s.heap.objs.size f c') e) (fun _ s'' => L2N.CX X.prog X.w outer H s E e s'') (fun e' s'' => L2N.CX X.prog X.w outer H s E e' s'') s')
theorem lamN_takes {X : Cx} {A : Around} {outer : List Env} {s : Shared} {H : Hp} {E : XK} {scope : Scope} {f c' : Addr} : L2N.Takes (lamN X A outer s H E scope f c') (fun cls d _ H => E cls d H) :=
  L2N.takes_of (X := lamN X A outer s H E scope f c') (E := E) rfl rfl rfl rfl
/-- x(), in the def that got the lambda -/
theorem pe_actN {X : Cx} {pins : List (Addr × Obj)} {σ : L2.St} {H : Hp} {s : Shared} {Eg : XK} {Ng : List Str} {qg : Str} {sg : Scope} {g f c' : Addr} {cdg pm ctv : Value} {params : Arguments} {body : Expr} {scope : Scope} {k i : Nat} {a : Str} {pn : List (Addr × Obj)} {xe : Value → Shared → Prop} {W : WX} {E : XK} {tb : TE} {p1 p2 : Pos} {σ0 : L2.St}
    (I : Inv X pins σ H s) (L : LamS X.env.scope scope) (hf : s.heap.get? f = some (PySem.W.kla_obj "<lambda>" (X.env.qual ++ "<lambda>") params body scope (cloFrom X.env.cells scope.names []) pm c' ctv)) (hfn : H f = none) (hfr : f ∉ frs X.stack)
    (hbind : bindArgs (PySem.W.kla_fn "<lambda>" (X.env.qual ++ "<lambda>") params body scope (cloFrom X.env.cells scope.names []) pm (.ref c') ctv) ⟨[], []⟩ = pure [])
    (tk : L2N.Takes ((cxOf (L2N.CX X.prog X.w) X.prog X.w X.K X.mg X.base Ng qg sg g cdg X.A X.stack s H Eg).tr pn xe) W) (hW : ∀ cls d H', E cls d H' → W cls d σ0 H') (hr : Room (k + 1) (X.A.deeper (envOfC qg sg s.heap.objs.size g cdg)))
    (hbody : ∀ (A : Around) (outer : List Env) (s : Shared) (H : Hp), Room k (A.deeper (lamEnv X scope s.heap.objs.size f c')) → PE (lamN X A outer s H E scope f c') body tb)
    (hN : Ng[i]? = some a) (hv : Vis sg a) (hd : (a == ("__debug__" : Str)) = false := by decide) (hcd : (a == ("__classdict__" : Str)) = false := by decide) :
    PE ((cxOf (L2N.CX X.prog X.w) X.prog X.w X.K X.mg X.base Ng qg sg g cdg X.A X.stack s H Eg).tr pn xe) (.Call (.Name a p1) [] [] p2)
      (fun σZ HZ Q => σZ = σ0 ∧ σZ[i]? = some (some (.ref f)) ∧ HZ c' = some (CodeO c' (X.env.qual ++ "<lambda>")) ∧ tb σ HZ Q) := by
  refine ⟨fun pinsZ sZ σZ HZ Q IZ h => ?_⟩
  obtain ⟨hz0, hs, hc, ht⟩ := h
  refine wpAny_Call_Name_kw (thn ((pe_var (pos := p1) (i := i) hN hv hd hcd).run pinsZ sZ σZ HZ (fun v H1 => v = .ref f ∧ H1 = HZ) IZ ⟨.ref f, hs, rfl, rfl⟩) fun u s1 ⟨v, H1, I1, r1, q1⟩ => ?_)
  obtain ⟨ev, eH⟩ := q1
  subst ev
  rw [eH] at I1
  obtain rfl : u = Value.ref f := r1
  have of1 : s1.heap.get? f = some (PySem.W.kla_obj "<lambda>" (X.env.qual ++ "<lambda>") params body scope (cloFrom X.env.cells scope.names []) pm c' ctv) := I1.base.keep f _ hf hfn hfr (fun z => nomatch (show f ∈ ([] : List Addr) from z))
  refine PySem.W.callWith_F0 ⟨_, _, _, _, of1⟩ ?_
  have un : Un (frs X.stack) [] H HZ s.heap s1.heap := I1.base
  obtain ⟨⟨oc, vs, t, hoc, hdc, hvc⟩, _, _⟩ := I1.hok c' _ hc
  have rc : codeAny (model X.prog X.w) (X.A.deeper (envOfC qg sg s.heap.objs.size g cdg)) (.call (.ref f) ⟨[], []⟩) (CR (L2N.CX X.prog X.w) (envOfC qg sg s.heap.objs.size g cdg :: X.stack) X.prog X.w HZ s1 Q E) s1 := by
    refine PySem.W.kla_callFunE hr.depth of1 rfl L.co L.gen rfl ⟨c', oc, vs, t, rfl, hoc, hdc, hvc⟩ ?_
    rw [hbind]
    refine wpAny_pure (wpAny_newFunctionEnv (fun y hy => (L.own y hy).2) (fun y hy => absurd hy (by simp)) (fun h₁ hns hsb => ⟨I1.nolimit.fresh _ hsb, ?_⟩) L.kind)
    show codeAny _ _ (.expr body (lamEnv X scope s1.heap.objs.size f c')) _ _
    have kp : ∀ b o, s1.heap.get? b = some o → h₁.get? b = some o := fun b o e => hsb.extBut b o (Nat.ne_of_lt (Heap.lt_size e)) (Heap.get?_push_of_some _ e)
    have J0 : Inv (lamCx X (X.A.deeper (envOfC qg sg s.heap.objs.size g cdg)) (envOfC qg sg s.heap.objs.size g cdg :: X.stack) s1 HZ E scope f c') [] σ HZ { s1 with heap := h₁, toks := s1.toks + ([] : List (Str × Value)).length } :=
      lam_start2 I L I1.env0 hr.hd un hns kp
    have J : Inv (lamN X (X.A.deeper (envOfC qg sg s.heap.objs.size g cdg)) (envOfC qg sg s.heap.objs.size g cdg :: X.stack) s1 HZ E scope f c') [] σ HZ { s1 with heap := h₁, toks := s1.toks + ([] : List (Str × Value)).length } := J0.toTry _
    refine PySem.W.kla_codeExpr (wpAny_mono ((hbody _ _ s1 HZ (hr.deeper _)).run [] _ _ HZ Q J ht) (fun v s' hq => ?_) fun e s' hq => hq)
    obtain ⟨w', H', J', rv, q⟩ := hq
    exact ⟨w', H', J'.os, J'.bare, J'.base, J'.hok, rv, q⟩
  refine wpAny_call (codeAny_mono rc fun r s' hq => ?_)
  cases r with
  | error e =>
    refine tk e s' (L2N.XE.of_call (X := (cxOf (L2N.CX X.prog X.w) X.prog X.w X.K X.mg X.base Ng qg sg g cdg X.A X.stack s H Eg).tr pn xe) I1 (fun cls d H' h => ?_) hq)
    rw [hz0]
    exact hW cls d H' h
  | ok fl =>
    cases fl with
    | ret u => exact I1.after hq
    | next => exact False.elim hq
    | brk => exact False.elim hq
    | cont => exact False.elim hq
/-- the def that calls what it got -/
def GivesN (X : Cx) (Ng : List Str) (x : Str) (sg : Scope) (g : Addr) (cdg : Value) (bg : List Stmt) (a : Str) (q : Str) (TT : (XK → Hp → VK → Prop) → Hp → VK → Prop) : Prop :=
  ∀ (f c' : Addr) (s : Shared) (H : Hp) (Q : VK) (tl : XK → Hp → VK → Prop),
    (∀ (W : WX) (pn : List (Addr × Obj)) (xe : Value → Shared → Prop) (E : XK) (σ0 : L2.St) (p1 p2 : Pos), L2N.Takes ((cxOf (L2N.CX X.prog X.w) X.prog X.w X.K X.mg X.base Ng x sg g cdg X.A X.stack s H E0).tr pn xe) W → (∀ cls d H', E cls d H' → W cls d σ0 H') →
      PE ((cxOf (L2N.CX X.prog X.w) X.prog X.w X.K X.mg X.base Ng x sg g cdg X.A X.stack s H E0).tr pn xe) (.Call (.Name a p1) [] [] p2) (fun σZ HZ Q => σZ = σ0 ∧ σZ[0]? = some (some (.ref f)) ∧ HZ c' = some (CodeO c' q) ∧ tl E HZ Q)) →
    H c' = some (CodeO c' q) → (X.A.deeper (envOfC x sg s.heap.objs.size g cdg)).units + 64 < cLine → TT tl H Q →
    ∃ t, PSs (cxOf (L2N.CX X.prog X.w) X.prog X.w X.K X.mg X.base Ng x sg g cdg X.A X.stack s H E0) bg t ∧ t { nx := fun _ H' => Q .non H', rt := Q } (L2.start Ng [.ref f]) H
/-- x(lambda: body) -/
theorem pe_lamN {X : Cx} {T : List (Addr × Str)} {TT : (XK → Hp → VK → Prop) → Hp → VK → Prop} {x a : Str} {g c P : Addr} {k : Nat} {pg : Arguments} {bg : List Stmt} {sg : Scope} {dV kV doc pm cdv ct oc : Value} {an od : Option Addr} {osl : Array (Option Value)} {Ng : List Str}
    {params : Arguments} {body : Expr} {scope : Scope} {t : XK → TE} {p lpos pos : Pos} (hg : Gl X x) (hm : X.mg x = some (.ref g)) (hk : PySem.W.keepIn X.K (.ref g) = true)
    (lk : X.K.lookup g = some ⟨oc, od, .func (PySem.W.fnOf x x pg bg sg dV kV doc pm an cdv ct), osl⟩) (hcg : PySem.W.codeIn X.K cdv x = true) (hb : L2.Binds X.K (PySem.W.fnOf x x pg bg sg dV kV doc pm an cdv ct) [a] []) (Sg : FnScope Ng [a] sg) (hNg : Ng[0]? = some a) (hva : Vis sg a)
    (hG : GivesN X Ng x sg g cdv bg a (X.env.qual ++ "<lambda>") TT)
    (TB : TabB X.base X.mg c P) (hcode : X.env.code = .ref c) (hmT : (P, X.env.qual ++ "<lambda>") ∈ T) (hu : ∀ p ∈ T, p.1 = P → p.2 = X.env.qual ++ "<lambda>") (hr : Room (k + 2) X.A) (L : LamS X.env.scope scope) (hdef : defaultsOf params X.env = ([], []))
    (hbind : ∀ (q : Str) (cl : List (Str × Addr)) (pm cv ctv : Value), bindArgs (PySem.W.kla_fn "<lambda>" q params body scope cl pm cv ctv) ⟨[], []⟩ = pure [])
    (hbody : ∀ (A : Around) (outer : List Env) (s : Shared) (H : Hp) (E : XK) (f c' : Addr), Room k (A.deeper (lamEnv X scope s.heap.objs.size f c')) → PE (lamN X A outer s H E scope f c') body (t E))
    (hdb : (x == ("__debug__" : Str)) = false := by decide) (hd : (a == ("__debug__" : Str)) = false := by decide) (hcd : (a == ("__classdict__" : Str)) = false := by decide) :
    PE X (.Call (.Name x p) [.Lambda params body scope lpos] [] pos) (tLam T TT t) := by
  refine ⟨fun pins s σ H Q I h => ?_⟩
  obtain ⟨hT, h⟩ := h
  refine wpAny_Call_Name_kw (ld_glob I hg hm ?_ hdb)
  refine PySem.W.callWith_K (h₀ := X.base) I.ok.mod.kin hk ?_ (by rfl) (by rfl)
  show wpAny _ _ (spliced ((false, eval (.Lambda params body scope lpos) X.env) :: backTo pos (starEach [] X.env))) _ _ s
  refine Calls.spliced_cons (lam_make2 I TB hcode hmT hu hT hdef (L.has I.ok) fun f c' pm' ctv H1 s' I1 eN T1 hf hfn hfr hco => ?_)
  refine Calls.spliced_nil ⟨I1.kIn, ?_⟩
  have rc : codeAny (model X.prog X.w) X.A (.call (.ref g) ⟨[.ref f], []⟩) (CR (L2N.CX X.prog X.w) X.stack X.prog X.w H1 s' Q E0) s' := by
    refine run_ofS (N := Ng) (ps := [a]) (us := [.ref f]) (vs := [.ref f]) lk hcg Sg hr I1.env0 (hb s' [.ref f] I1.kIn rfl) (.cons rfl .nil) rfl fun hr' => ?_
    exact hG f c' s' H1 Q (fun E H' Q' => t E σ H' Q') (fun W pn xe E σ0 p1 p2 tk hW => pe_actN (i := 0) I1 L hf hfn hfr (hbind _ _ _ _ _) tk hW hr' (fun A outer s H hr2 => hbody A outer s H E f c' hr2) hNg hva hd hcd) hco (by have := hr'.un; omega) (h H1 eN T1)
  refine wpAny_call (codeAny_mono rc fun r s2 hq => ?_)
  cases r with
  | error e =>
    obtain ⟨_, _, _, _, _, _, _, _, _, _, _, _, z⟩ := hq
    exact z.elim
  | ok fl =>
    cases fl with
    | ret u => exact I1.after hq
    | next => exact False.elim hq
    | brk => exact False.elim hq
    | cont => exact False.elim hq
end TL

set_option Elab.async false
set_option linter.all false
set_option maxRecDepth 100000
set_option maxHeartbeats 2000000
/-! try: call() / except C as e: .. / return word. -/
namespace TL
open PySem PySem.Spec PyProof.Rows L2 HotX L2H LamX
/-- what the def tells: dflt if nothing was raised, else the word of the class -/
def TTf (mg : Str → Option Value) (dflt : Str) (wd : Str → Option Str) : (XK → Hp → VK → Prop) → Hp → VK → Prop := fun tl H Q => ∃ F G, Frm [] F G H ∧
  tl (fun cls d H' => ∃ (F' : Hp) (c : Str) (Dc : Addr) (w : Str), Same F F' ∧ Frm [] F' G H' ∧ cls = .ref Dc ∧ d = none ∧ mg c = some (.ref Dc) ∧ wd c = some w ∧ ∀ F2 H2, Same F' F2 → Frm [] F2 G H2 → Q (.str w) H2) H (fun _ H' => Q (.str dflt) H')
theorem takesN0 {X : Cx} : L2N.Takes X W0 := fun _ _ x => by
  obtain ⟨_, _, _, _, _, _, _, _, _, _, _, _, _, _, _, _, z⟩ := x
  exact z.elim
abbrev failX (X : Cx) (Ng : List Str) (x : Str) (sg : Scope) (g : Addr) (cdg : Value) (s : Shared) (H : Hp) : Cx := cxOf (L2N.CX X.prog X.w) X.prog X.w X.K X.mg X.base Ng x sg g cdg X.A X.stack s H E0
def ev0 (n ie : Nat) (ad : Addr) : Ev := (List.replicate n none).set ie (some (adD ad))
theorem ev0_some {n ie i : Nat} {ad : Addr} {d : D} (h : (ev0 n ie ad)[i]? = some (some d)) : i = ie ∧ d = adD ad := by
  rcases set_get h with ⟨rfl, e⟩ | ⟨_, e⟩
  · cases e; exact ⟨rfl, rfl⟩
  · have := List.mem_of_getElem? e
    rw [List.mem_replicate] at this
    exact absurd this.2.symm (by simp)
theorem fails_gives {X : Cx} {Ng : List Str} {x a e q CT dflt : Str} {sg : Scope} {g CTa : Addr} {ie : Nat} {cdg : Value} {wd : Str → Option Str} {SG : Sx} {b₀ : Stmt} {suite : List Stmt} {ms : Addr → Str → DS} {j : Nat} {p1 p2 p3 p4 p5 p6 p7 p8 : Pos}
    (hge : sg.names.lookup CT = some .globalImplicit) (hme : X.mg CT = some (.ref CTa)) (hde : (CT == ("__debug__" : Str)) = false) (hN : Ng.Nodup) (hie : Ng[ie]? = some e) (hle : sg.names.lookup e = some .local) (hl1 : 1 ≤ Ng.length)
    (h0 : ∀ f : Addr, (L2.start Ng [V.ref f])[0]? = some (some (V.ref f))) (hST : SG.T = []) (hSe : SG.own ie = false)
    (hex : ∀ c Dc w, wd c = some w → X.mg c = some (.ref Dc) → PySem.W.exmOne X.K (.ref Dc) (.ref CTa) = some true)
    (hms : ∀ ad c w, wd c = some w → ∃ ev', ms ad c (ev0 Ng.length ie ad) = .ok (.rt (.str w), ev'))
    (hsu : ∀ (s : Shared) (H : Hp) (ad : Addr) (oe : Obj) (c : Str) (Dc : Addr) (w : Str) (pn : List (Addr × Obj)), wd c = some w → X.mg c = some (.ref Dc) → Zc (.ref Dc) none oe → (∃ vs, oe.data = .fields vs) → HotC ((failX X Ng x sg g cdg s H).suite ad ((ad, oe) :: pn)) → ((failX X Ng x sg g cdg s H).suite ad ((ad, oe) :: pn)).A.units + 64 < cLine →
      PSs ((failX X Ng x sg g cdg s H).suite ad ((ad, oe) :: pn)) (b₀ :: suite) (tS X.K X.mg SG W0 (ms ad c)))
    (hsw : ∀ (s : Shared) (H : Hp), swapsWith (.Call (.Name a p1) [] [] p2) none p3.line (failX X Ng x sg g cdg s H).env = pure false := by intro _ _; rfl) :
    GivesN X Ng x sg g cdg [.Try [.Expr (.Call (.Name a p1) [] [] p2) p3] [.ExceptHandler (some (.Name CT p4)) (some e) (b₀ :: suite) p7] [] [] p8, .Return (some (.Constant (.str dflt) j p5)) p6] a q (TTf X.mg dflt wd) := by
  intro f c' s H Q tl act hc hus h
  obtain ⟨F, G, fr, h⟩ := h
  have hgl : Gl (failX X Ng x sg g cdg s H) CT := hge
  refine ⟨_, pss_cons (L2N.ps_try_as (X := failX X Ng x sg g cdg s H) (c := .ref CTa) (i := ie)
    (tb := fun W D σ H => ∃ Ech : XK, (∀ cls d H', Ech cls d H' → W cls d σ H') ∧ σ[0]? = some (some (.ref f)) ∧ H c' = some (CodeO c' q) ∧ tl Ech H (fun _ H' => D.nx σ H'))
    (ts := fun ad cls d Dn σ H => ∃ c Dc w, wd c = some w ∧ X.mg c = some (.ref Dc) ∧ cls = .ref Dc ∧ d = none ∧ tS X.K X.mg SG W0 (ms ad c) Dn σ H)
    rfl rfl hN hie hle ⟨hgl, hde, .inl hme⟩ takesN0 (fun W pn xe tk _ => pss_one ⟨fun pins s' σ H' D I h' => ?_⟩) (fun ad oe cls d pn hz hf => ⟨fun pins s' σ H' D I h' => ?_⟩)) (pss_one (ps_ret pe_str)), ?_⟩
  · obtain ⟨Ech, hW, h1, h2, h3⟩ := h'
    exact (ps_expr (act W pn xe Ech σ p1 p2 tk hW) (hsw s H)).run pins s' σ H' D I ⟨rfl, h1, h2, h3⟩
  · obtain ⟨c, Dc, w, e1, e2, rfl, rfl, h3⟩ := h'
    refine (hsu s H ad oe c Dc w pn e1 e2 hz.zc hf ?_ hus).run pins s' σ H' D I h3
    obtain ⟨vs, hv⟩ := hf
    exact ⟨(ad, oe), ⟨rfl, vs, hv, hz.2.2 vs hv⟩, List.mem_cons_self⟩
  · refine ⟨_, fun cls d H' hh => ?_, h0 f, hc, h⟩
    obtain ⟨F', c, Dc, w, s1, fr1, rfl, rfl, e1, e2, k⟩ := hh
    refine ⟨true, hex c Dc w e2 e1, fun _ ad _ => ⟨c, Dc, w, e2, e1, rfl, rfl, F', G, fun _ => none, ev0 Ng.length ie ad, ?_, ?_⟩, fun z => nomatch z⟩
    · have hlen : (L2.start Ng [V.ref f]).length = Ng.length := by unfold L2.start; simp; omega
      refine ⟨by rw [hST]; exact fr1, by unfold ev0; rw [List.length_set, List.length_replicate, List.length_set, hlen], fun i d ho e3 => ?_, fun i d ho e3 => ?_, fun i i2 d d2 b ho ho2 hn e3 e4 => ?_, fun i b z => nomatch z⟩
      · obtain ⟨rfl, rfl⟩ := ev0_some e3
        refine ⟨.ref ad, ?_, ?_⟩
        · exact List.getElem?_set_self (by rw [hlen]; exact (List.getElem?_eq_some_iff.mp hie).1)
        · simp only [adD, Rp]; exact .inr (.inl ⟨ad, rfl, rfl⟩)
      · obtain ⟨rfl, rfl⟩ := ev0_some e3
        rw [hSe] at ho; cases ho
      · obtain ⟨rfl, rfl⟩ := ev0_some e3
        rw [hSe] at ho; cases ho
    · obtain ⟨ev', e3⟩ := hms ad c w e2
      rw [e3]
      intro F2 H2 σ2 s2 M2 v r
      have : v = .str w := by simpa only [Rp] using r
      subst this
      exact k F2 H2 s2 (by have := M2.fr; rw [hST] at this; exact this)
/-! ### the call with a lambda -/
def wipeO (own : Nat → Bool) (ev : Ev) : Ev := ev.mapIdx fun i o => bif own i then none else o
theorem wipeO_some {own : Nat → Bool} {ev : Ev} {i : Nat} {d : D} (h : (wipeO own ev)[i]? = some (some d)) : own i = false ∧ ev[i]? = some (some d) := by
  unfold wipeO at h
  rw [List.getElem?_mapIdx] at h
  obtain ⟨o, e1, e2⟩ := Option.map_eq_some_iff.mp h
  cases q : own i with
  | true => rw [q] at e2; cases e2
  | false => rw [q] at e2; exact ⟨rfl, by rw [e1]; exact congrArg some e2⟩
def eFails (own : Nat → Bool) (dflt : Str) (wd : Str → Option Str) (mb : DE) : DE := fun ev => match mb (wipeO own ev) with
  | .ok _ => .ok (.val (.str dflt), ev)
  | .err c => (lift (wd c)).bind fun w => .ok (.val (.str w), ev)
  | .stuck => .stuck
abbrev S0 : Sx := ⟨fun _ => false, fun _ => false, []⟩
section
variable {K : PySem.W.Frag} {mg : Str → Option Value} {S : Sx} {W : WX} {F G H H1 : Hp} {P : Nat → Option Addr} {ev : Ev} {σ : L2.St}
theorem Sim.extN (M : Sim K mg S F G P H ev σ) (hT : S.T ≠ []) (e : ExtN H H1) (t : Tabs S.T H1) : Sim K mg S F G P H1 ev σ where
  fr := ⟨fun a o h => e a o (M.fr.fh _ _ h) fun ps z => M.fr.nt a ps (by rw [← z]; exact h), fun a o h => e a o (M.fr.gh _ _ h) fun ps z => M.fr.gt hT a ps (by rw [← z]; exact h), M.fr.gf, M.fr.nt, M.fr.gt, t⟩
  len := M.len
  sl := M.sl
  so := fun i d h q => by
    obtain ⟨a, e1, o, f0, g0⟩ := M.so i d h q
    refine ⟨a, e1, ?_, f0, g0⟩
    cases d with
    | list ds => obtain ⟨vs, y1, y2⟩ := o; exact ⟨vs, e _ _ y1 (fun ps z => nomatch z), y2⟩
    | _ => exact False.elim o
  sp := M.sp
  pn := M.pn
theorem core_fails {dflt : Str} {wd : Str → Option Str} {mb : DE} {Q : VK} (hT : S.T ≠ []) (h : tE K mg S W (eFails S.own dflt wd mb) σ H Q) : tLam S.T (TTf mg dflt wd) (fun E => tE K mg S0 (fun cls d _ H => E cls d H) mb) σ H Q := by
  obtain ⟨F, G, P, ev, M, h⟩ := h
  refine ⟨M.fr.tb, fun H1 eN T1 => ?_⟩
  have M1 := M.extN hT eN T1
  obtain ⟨G0, hG0⟩ : ∃ G0 : Hp, ∀ a, (∀ o, F a = some o → G0 a = none) ∧ (F a = none → G0 a = H1 a) := by
    refine ⟨fun a => match F a with | some _ => none | none => H1 a, fun a => ⟨fun o e => ?_, fun e => ?_⟩⟩
    · simp only [e]
    · simp only [e]
  have g0 : ∀ a o, G0 a = some o → F a = none ∧ H1 a = some o := fun a o e => by
    cases q : F a with
    | none => exact ⟨rfl, by rw [← (hG0 a).2 q]; exact e⟩
    | some u => rw [(hG0 a).1 u q] at e; cases e
  have fr0 : Frm [] F G0 H1 := ⟨M1.fr.fh, fun a o e => (g0 a o e).2, fun a o e => (hG0 a).1 o e, M1.fr.nt, fun z => absurd rfl z, fun p hp => absurd hp (by simp)⟩
  have gr : ∀ F' H', Same F F' → Frm [] F' G0 H' → Grow F H1 F' H' := fun F' H' s fr => by
    refine ⟨s, fun a o e => ?_, fun a o e => ?_⟩
    · cases q : F a with
      | none => exact fr.gh a o (by rw [(hG0 a).2 q]; exact e)
      | some u =>
        have := M1.fr.fh a u q
        rw [e] at this; cases this
        exact fr.fh a _ (s a _ q)
    · cases q : F a with
      | some u =>
        have := s a u q
        rw [e] at this; cases this
        exact .inl rfl
      | none =>
        refine .inr ⟨?_, fr.fh a o e, fun ps z => fr.nt a ps (by rw [← z]; exact e)⟩
        rw [← (hG0 a).2 q]
        exact fr.gf a o e
  refine ⟨F, G0, fr0, F, G0, fun _ => none, wipeO S.own ev, ⟨fr0, ?_, fun i d _ e => ?_, fun i d z => (Bool.noConfusion z), fun i j d d2 b z => (Bool.noConfusion z), fun i b z => (nomatch z)⟩, ?_⟩
  · unfold wipeO; rw [List.length_mapIdx]; exact M1.len
  · obtain ⟨h1, h2⟩ := wipeO_some e
    exact M1.sl i d h1 h2
  · unfold eFails at h
    cases q : mb (wipeO S.own ev) with
    | stuck => rw [q] at h; exact h
    | ok p =>
      rw [q] at h
      intro F' H' s M' v r
      exact h F' H' s (M1.grow (gr F' H' s M'.fr)) _ (rp_str (K := K) (mg := mg) (F := F') _)
    | err c =>
      rw [q] at h
      simp only at h
      obtain ⟨w, e1, h⟩ := tM.lift h
      intro F' H' s fr f hf
      exact ⟨F', c, f, w, s, fr, rfl, rfl, hf, e1, fun F2 H2 s2 fr2 => h F2 H2 (s.trans s2) (M1.grow (gr F2 H2 (s.trans s2) fr2)) _ (rp_str (K := K) (mg := mg) (F := F2) _)⟩
end
end TL

set_option Elab.async false
set_option linter.all false
set_option maxRecDepth 100000
set_option maxHeartbeats 2000000
/-! the module's defs by names. -/
namespace TL
open PySem PySem.Spec PyProof.Rows L2 HotX L2H LamX
/-- the def of the name x keeps the meaning f -/
structure DefOk (P : Program) (w : World) (K : PySem.W.Frag) (mg : Str → Option Value) (base : Heap) (k : Nat) (x : Str) (T' : List (Addr × Str)) (f : FnS) : Prop where
  ex : ∃ (fa : Addr) (fd : FuncData) (ps : List Str), mg x = some (.ref fa) ∧ PySem.W.keepIn K (.ref fa) = true ∧ Binds K fd ps [] ∧ FnOk P w K mg base (L2N.CX P w) k fa fd ps (spF K mg T' f)
abbrev FnP (K : PySem.W.Frag) (x : Str) (st : Stmt) : Prop := ∃ fd, FunD K x x (defArgs st) (defBody st) (defScope st) [] [] (He.ga K x) fd
section
variable {P : Program} {w : World} {K : PySem.W.Frag} {mg : Str → Option Value} {base : Heap} {x : Str} {T' : List (Addr × Str)} {f : FnS} {k j : Nat} {st : Stmt}
theorem DefOk.mono (D : DefOk P w K mg base j x T' f) (h : j ≤ k) : DefOk P w K mg base k x T' f := by
  obtain ⟨fa, fd, ps, h1, h2, h3, h4⟩ := D.ex
  exact ⟨fa, fd, ps, h1, h2, h3, h4.mono h⟩
/-- the def's context -/
abbrev dX (P : Program) (w : World) (K : PySem.W.Frag) (mg : Str → Option Value) (base : Heap) (N : List Str) (x : Str) (st : Stmt) (A : Around) (outer : List Env) (s : Shared) (H : Hp) (E : XK) : Cx := cxOf (L2N.CX P w) P w K mg base N x (defScope st) (He.ga K x) (.ref (He.codeOf K (x, none))) A outer s H E
theorem dX_takes {N : List Str} {A : Around} {outer : List Env} {s : Shared} {H : Hp} {E : XK} : L2N.Takes (dX P w K mg base N x st A outer s H E) (fun cls d _ H => E cls d H) := L2N.takes_of (X := dX P w K mg base N x st A outer s H E) (E := E) rfl rfl rfl rfl
theorem def_okF {N ps : List Str} {m : DS} {io : Option Nat} {ro : Bool} {S : Sx} {fd : FuncData} (Fd : FunD K x x (defArgs st) (defBody st) (defScope st) [] [] (He.ga K x) fd) (SC : FnScope N ps (defScope st)) (hN : ps.length ≤ N.length) (hio : ∀ i, i < ps.length → (S.own i = true ↔ io = some i)) (hio2 : ∀ i, io = some i → S.io i = true ∧ i < ps.length)
    (hb : ∀ (A : Around) (outer : List Env) (s : Shared) (H : Hp) (E : XK), Room k (dX P w K mg base N x st A outer s H E).A → PSs (dX P w K mg base N x st A outer s H E) (defBody st) (tS K mg S (fun cls d _ H => E cls d H) m)) :
    FnOk P w K mg base (L2N.CX P w) (k + 1) (He.ga K x) fd ps (spF K mg S.T ⟨ps.length, io, ro, bodyM N.length io ro m⟩) := by
  obtain ⟨oc, od, dV, kV, doc, pm, an, cdv, ct, osl, rfl, lk, hcd, _, _⟩ := Fd.ex
  obtain ⟨c, rfl⟩ := He.codeIn_ref hcd
  have hc := He.codeOf_eq (p := (x, none)) lk rfl
  exact fn_ok lk hcd SC hN hio hio2 fun A outer s H E hr => by
    have := hb A outer s H E (by show Room k (A.deeper _); rw [hc]; exact hr)
    unfold dX at this
    rw [hc] at this
    exact this
theorem def_ok {N ps : List Str} {m : DS} {io : Option Nat} {ro : Bool} {S : Sx} (hm : mg x = some (.ref (He.ga K x))) (Fn : FnP K x st) (SC : FnScope N ps (defScope st)) (hN : ps.length ≤ N.length) (hio : ∀ i, i < ps.length → (S.own i = true ↔ io = some i)) (hio2 : ∀ i, io = some i → S.io i = true ∧ i < ps.length)
    (hbind : ∀ (kV doc pm : Value) (an : Option Addr) (cdv ct : Value) (us : List Value), us.length = ps.length → bindArgs (PySem.W.fnOf x x (defArgs st) (defBody st) (defScope st) .none kV doc pm an cdv ct) ⟨us, []⟩ = pure (ps.zip us))
    (hb : ∀ (A : Around) (outer : List Env) (s : Shared) (H : Hp) (E : XK), Room k (dX P w K mg base N x st A outer s H E).A → PSs (dX P w K mg base N x st A outer s H E) (defBody st) (tS K mg S (fun cls d _ H => E cls d H) m)) :
    DefOk P w K mg base (k + 1) x S.T ⟨ps.length, io, ro, bodyM N.length io ro m⟩ := by
  obtain ⟨fd, Fd⟩ := Fn
  exact ⟨_, fd, ps, hm, Fd.kp, Fd.bindsN hbind, def_okF Fd SC hN hio hio2 hb⟩
theorem def_stuck {np : Nat} {io : Option Nat} {ro : Bool} (hm : mg x = some (.ref (He.ga K x))) (Fn : FnP K x st) {ps : List Str} (hp : ps.length = np)
    (hbind : ∀ (kV doc pm : Value) (an : Option Addr) (cdv ct : Value) (us : List Value), us.length = ps.length → bindArgs (PySem.W.fnOf x x (defArgs st) (defBody st) (defScope st) .none kV doc pm an cdv ct) ⟨us, []⟩ = pure (ps.zip us)) :
    DefOk P w K mg base k x T' ⟨np, io, ro, fun _ => .stuck⟩ := by
  obtain ⟨fd, Fd⟩ := Fn
  exact ⟨_, fd, ps, hm, Fd.kp, Fd.bindsN hbind, fun vs H Q E ⟨F, G, ds, _, e, _⟩ => by rw [hp]; exact e, fun A outer s H args us vs Q E _ _ _ _ ⟨F, G, ds, _, _, _, z⟩ => z.elim⟩
end
section
variable {X : Cx} {S : Sx} {W : WX} {e : Expr} {es : List Expr} {ms : DA} {pos p : Pos} {x : Str} {f : FnS} {k : Nat} {T' : List (Addr × Str)}
theorem sd_cal (D : DefOk X.prog X.w X.K X.mg X.base k x T' f) (tk : L2N.Takes X W) (hr : Room k X.A) (hT : T' = [] ∨ T' = S.T) (hg : Gl X x)
    (ha : PA X (e :: es) (tA X.K X.mg S W ms)) (hro : f.ro = false := by rfl) (hdb : (x == ("__debug__" : Str)) = false := by decide) (he : starEach (e :: es) X.env = (false, eval e X.env) :: starEach es X.env := by rfl) (hpl : (backTo pos (starEach es X.env)).any (·.1) = false := by rfl) :
    PE X (.Call (.Name x p) (e :: es) [] pos) (tE X.K X.mg S W (eCall f (chkN f.np ms))) := by
  obtain ⟨fa, fd, ps, h1, h2, h3, h4⟩ := D.ex
  exact sd_call tk h4 hr hT hg h1 h2 h3 ha hro hdb he hpl
theorem so_cal (D : DefOk X.prog X.w X.K X.mg X.base k x T' f) (tk : L2N.Takes X W) (hr : Room k X.A) (hT : T' = [] ∨ T' = S.T) (hg : Gl X x)
    (ha : PA X (e :: es) (tA X.K X.mg S W ms)) (hro : f.ro = true := by rfl) (hdb : (x == ("__debug__" : Str)) = false := by decide) (he : starEach (e :: es) X.env = (false, eval e X.env) :: starEach es X.env := by rfl) (hpl : (backTo pos (starEach es X.env)).any (·.1) = false := by rfl) :
    PE X (.Call (.Name x p) (e :: es) [] pos) (tO X.K X.mg S W (oCallF f (chkN f.np ms))) := by
  obtain ⟨fa, fd, ps, h1, h2, h3, h4⟩ := D.ex
  exact so_call tk h4 hr hT hg h1 h2 h3 ha hro hdb he hpl
/-- a slot's def called -/
def fnOfD : D → Option Str
  | .dict [(.dict [], .str x)] => some x
  | _ => none
def eCallV (i : Nat) (tbl : Str → Option FnS) (ms : DA) : DE := fun ev => (lift (((ev[i]?).join.bind fnOfD).bind tbl)).bind fun f => if f.ro = false then eCall f (chkN f.np ms) ev else .stuck
theorem sd_calV (i : Nat) {tbl : Str → Option FnS} {E : XK} (hD : ∀ y f, tbl y = some f → ∃ T', DefOk X.prog X.w X.K X.mg X.base k y T' f ∧ (T' = [] ∨ T' = S.T)) (tk : L2N.Takes X (fun cls d _ H => E cls d H)) (hr : Room k X.A)
    (ha : PA X (e :: es) (tA X.K X.mg S (fun cls d _ H => E cls d H) ms)) (ho : S.own i = false := by rfl) (hN : X.N[i]? = some x := by rfl) (hv : Vis X.env.scope x := by first | exact Or.inl rfl | exact Or.inr (Or.inl rfl) | exact Or.inr (Or.inr rfl)) (hd : (x == ("__debug__" : Str)) = false := by decide)
    (hcd : (x == ("__classdict__" : Str)) = false := by decide) (he : starEach (e :: es) X.env = (false, eval e X.env) :: starEach es X.env := by rfl) (hpl : (backTo pos (starEach es X.env)).any (·.1) = false := by rfl) :
    PE X (.Call (.Name x p) (e :: es) [] pos) (tE X.K X.mg S (fun cls d _ H => E cls d H) (eCallV i tbl ms)) := by
  refine ⟨fun pins s σ H Q I h => ?_⟩
  obtain ⟨F, G, P, ev, M, h⟩ := h
  obtain ⟨f, e1, h2⟩ := h.lift
  obtain ⟨y, e2, e3⟩ := Option.bind_eq_some_iff.mp e1
  obtain ⟨d, e4, e5⟩ := Option.bind_eq_some_iff.mp e2
  obtain ⟨hro, h3⟩ := h2.cond
  obtain ⟨T', D, hT⟩ := hD y f e3
  obtain ⟨fa, fd, ps, g1, g2, g3, g4⟩ := D.ex
  obtain ⟨v, e6, r⟩ := M.sl i d ho (join_some e4)
  have hd' : d = fnD y := by
    unfold fnOfD at e5
    split at e5
    · cases e5; rfl
    · cases e5
  subst hd'
  simp only [fnD, Rp] at r
  rcases r with ⟨x2, f2, z, rfl, hm⟩ | ⟨_, z, _⟩ | ⟨_, _, z, _⟩
  · have : x2 = y := by
      have := congrArg (fun l => l.head?.map Prod.snd) z
      simp at this
      exact this.symm
    subst this
    rw [g1] at hm
    cases hm
    refine (pe_callL (i := i) (E := E) (dvs := []) g4 hr hN hv g2 g3 .nil (L2N.passes_call tk fun _ _ _ _ h => h) ha hd hcd he hpl).run pins s σ H Q I ⟨e6, ?_⟩
    have h4 := core_fn (σ := σ) (H := H) (Q := Q) (W := fun cls d _ H => E cls d H) hT hro ⟨F, G, P, ev, M, h3⟩
    have e0 : (fun (vs : List V) (H1 : Hp) => spF X.K X.mg T' f (vs ++ []) H1 Q E) = fun vs H1 => spF X.K X.mg T' f vs H1 Q E := by
      funext vs H1
      rw [List.append_nil]
    rw [e0]
    exact h4
  · cases z
  · cases z
end
/-! ### a def that tells what a lambda raised -/
structure FailsOk (P : Program) (w : World) (K : PySem.W.Frag) (mg : Str → Option Value) (base : Heap) (x a : Str) (dflt : Str) (wd : Str → Option Str) : Prop where
  ex : ∃ (g : Addr) (pg : Arguments) (bg : List Stmt) (sg : Scope) (dV kV doc pm cdv ct oc : Value) (an od : Option Addr) (osl : Array (Option Value)) (Ng : List Str), mg x = some (.ref g) ∧ PySem.W.keepIn K (.ref g) = true ∧ K.lookup g = some ⟨oc, od, .func (PySem.W.fnOf x x pg bg sg dV kV doc pm an cdv ct), osl⟩ ∧
    PySem.W.codeIn K cdv x = true ∧ L2.Binds K (PySem.W.fnOf x x pg bg sg dV kV doc pm an cdv ct) [a] [] ∧ FnScope Ng [a] sg ∧ Ng[0]? = some a ∧ Vis sg a ∧ ∀ (X : Cx) (q : Str), X.prog = P → X.w = w → X.K = K → X.mg = mg → X.base = base → GivesN X Ng x sg g cdv bg a q (TTf mg dflt wd)
section
variable {X : Cx} {S : Sx} {W : WX} {pos p lpos : Pos} {x a dflt : Str} {wd : Str → Option Str} {k : Nat} {c P : Addr} {params : Arguments} {body : Expr} {scope : Scope} {mb : DE}
theorem sd_fails (D : FailsOk X.prog X.w X.K X.mg X.base x a dflt wd) (hg : Gl X x) (TB : TabB X.base X.mg c P) (hcode : X.env.code = .ref c) (hmT : (P, X.env.qual ++ "<lambda>") ∈ S.T) (hu : ∀ p ∈ S.T, p.1 = P → p.2 = X.env.qual ++ "<lambda>") (hr : Room (k + 2) X.A) (L : LamS X.env.scope scope)
    (hbody : ∀ (A : Around) (outer : List Env) (s : Shared) (H : Hp) (E : XK) (f c' : Addr), Room k (lamN X A outer s H E scope f c').A → PE (lamN X A outer s H E scope f c') body (tE X.K X.mg S0 (fun cls d _ H => E cls d H) mb))
    (hdef : defaultsOf params X.env = ([], []) := by rfl)
    (hbind : ∀ (q : Str) (cl : List (Str × Addr)) (pm cv ctv : Value), bindArgs (PySem.W.kla_fn "<lambda>" q params body scope cl pm cv ctv) ⟨[], []⟩ = pure [] := by intro _ _ _ _ _; rfl)
    (hdb : (x == ("__debug__" : Str)) = false := by decide) (hd : (a == ("__debug__" : Str)) = false := by decide) (hcd : (a == ("__classdict__" : Str)) = false := by decide) :
    PE X (.Call (.Name x p) [.Lambda params body scope lpos] [] pos) (tE X.K X.mg S W (eFails S.own dflt wd mb)) := by
  obtain ⟨g, pg, bg, sg, dV, kV, doc, pm, cdv, ct, oc, an, od, osl, Ng, h1, h2, h3, h4, h5, h6, h7, h8, h9⟩ := D.ex
  exact (pe_lamN (t := fun E => tE X.K X.mg S0 (fun cls d _ H => E cls d H) mb) hg h1 h2 h3 h4 h5 h6 h7 h8 (h9 X _ rfl rfl rfl rfl rfl) TB hcode hmT hu hr L hdef hbind hbody hdb hd hcd).imp fun _ _ _ h => core_fails (fun z => (by rw [z] at hmT; cases hmT)) h
end
end TL

set_option Elab.async false
set_option linter.all false
set_option maxRecDepth 100000
set_option maxHeartbeats 2000000
/-! xs.pop(), xs.index(y), a list times a number, names = values over a tuple. -/
namespace TL
open PySem PySem.Spec PyProof.Rows L2 HotX L2H LamX
theorem room_hu {k : Nat} {A : Around} (h : Room k A) : A.units + 64 < cLine := by have := h.un; omega
theorem d_own {P : Program} {w : World} {K : PySem.W.Frag} {mg : Str → Option Value} {base : Heap} {N : List Str} {x : Str} {st : Stmt} {A : Around} {outer : List Env} {s : Shared} {H : Hp} {E : XK} :
    PassesOwn (model (dX P w K mg base N x st A outer s H E).prog (dX P w K mg base N x st A outer s H E).w) (dX P w K mg base N x st A outer s H E).A (dX P w K mg base N x st A outer s H E).env (dX P w K mg base N x st A outer s H E).xe := PassesOwn.leaving
theorem pt_bool {X : Cx} {e : Expr} {t : TT} (h : PW X e t) : PT X e t := h.pt
/-- the text that a suite gives -/
def wordOf : Res (Fl × Ev) → Option Str
  | .ok (.rt (.str s), _) => some s
  | _ => none
theorem wordOf_ok {r : Res (Fl × Ev)} {s : Str} (h : wordOf r = some s) : ∃ ev, r = .ok (.rt (.str s), ev) := by
  unfold wordOf at h
  split at h
  · cases h; exact ⟨_, rfl⟩
  · cases h
/-! ### xs.pop() -/
def sPop (i : Nat) : DS := fun ev => (lift ((ev[i]?).join.bind lstOf)).bind fun ds => if ds ≠ [] then .ok (.nx, ev.set i (some (.list ds.dropLast))) else .stuck
theorem Rps.dropLast {K : PySem.W.Frag} {mg : Str → Option Value} {F : Hp} {ds : List D} {vs : List V} (h : Rps K mg F ds vs) : Rps K mg F ds.dropLast vs.dropLast := by
  rw [List.dropLast_eq_take, List.dropLast_eq_take, h.len]
  exact h.take _
section
variable {X : Cx} {S : Sx} {W : WX} {a b e : Expr} {es tgs : List Expr} {ma mb : DE} {pos : Pos} {its : List Itm}
theorem sx_pop (i : Nat) {x : Str} {p1 p2 p3 : Pos} (ho : S.own i = true := by rfl) (hN : X.N[i]? = some x := by rfl) (hv : Vis X.env.scope x := by first | exact Or.inl rfl | exact Or.inr (Or.inl rfl) | exact Or.inr (Or.inr rfl))
    (hd : (x == ("__debug__" : Str)) = false := by decide) (hcd : (x == ("__classdict__" : Str)) = false := by decide) (hb : attributeBase (.Name x p1) "pop" X.env (eval (.Name x p1) X.env) = eval (.Name x p1) X.env := by rfl) (hline : (p2.endLine == p3.line) = true := by rfl)
    (hs : swapsWith (.Call (.Attribute (.Name x p1) "pop" p2) [] [] p3) none pos.line X.env = pure false := by rfl) :
    PS X (.Expr (.Call (.Attribute (.Name x p1) "pop" p2) [] [] p3) pos) (tS X.K X.mg S W (sPop i)) := by
  refine (ps_expr (pe_bm0 PySem.F.plainAttrs_list PySem.F.slot_list_pop PySem.F.type_list_pop (fun pins s σ H x xs v us Q I rx rxs h => mt_pop pins s σ H x xs v us Q I rx rxs h) (pe_var hN hv hd hcd) hb hline) hs).imp fun Dn σ H ⟨F, G, P, ev, M, h⟩ => ?_
  obtain ⟨ds, e1, h⟩ := h.lift
  have e1 := lstOf_some e1
  obtain ⟨hne, h⟩ := h.cond
  obtain ⟨a, x1, ⟨vs, x2, x3⟩, f0, g0⟩ := M.so i _ ho e1
  have hl := x3.len
  obtain ⟨y, hy⟩ : ∃ y, vs[vs.length - 1]? = some y := by
    have : 0 < vs.length := by rw [← hl]; exact List.length_pos_iff.mpr hne
    exact ⟨_, List.getElem?_eq_getElem (by omega)⟩
  exact ⟨_, x1, .inl ⟨rfl, vs, .inl (.inl x2)⟩, a, vs, y, rfl, rfl, x2, hy, h F _ σ (Same.refl _) (M.write ho e1 x1 x3.dropLast)⟩
/-! ### xs.index(y) -/
def gIdx : D → D → Option D
  | .list ds, d => if okD (.list ds) && okD d && decide (ds.length ≤ sizeLine) && (ds.map fun z => PyData.eqv z d).contains true then some (.int ((ds.map fun z => PyData.eqv z d).idxOf true : Nat)) else none
  | _, _ => none
theorem reads_get {h : Heap} : ∀ {ds : List PyData} {vs : List Value} {as : List Addr} {j : Nat} {v : Value} {d : PyData}, ReadsAll h vs ds as → vs[j]? = some v → ds[j]? = some d → ∃ bs, Reads h v d bs
  | [], _, _, _, _, _, r, e1, e2 => by simp at e2
  | d0 :: ds, _, _, 0, _, _, r, e1, e2 => by
    cases r with
    | cons r1 r2 => simp at e1 e2; subst e1; subst e2; exact ⟨_, r1⟩
  | d0 :: ds, _, _, j + 1, _, _, r, e1, e2 => by
    cases r with
    | cons r1 r2 => exact reads_get r2 (by simpa using e1) (by simpa using e2)
theorem plainAll_get : ∀ {ds : List PyData} {j : Nat} {d : PyData}, PyData.plainAll ds = true → ds[j]? = some d → d.plain = true
  | [], _, _, _, e => by simp at e
  | d0 :: ds, 0, d, h, e => by simp only [PyData.plainAll, Bool.and_eq_true] at h; simp at e; subst e; exact h.1
  | d0 :: ds, j + 1, d, h, e => by simp only [PyData.plainAll, Bool.and_eq_true] at h; exact plainAll_get h.2 (by simpa using e)
theorem mt_gIdx (hu : X.A.units + 64 < cLine) : MtR X "list.index" (fun x xs H Q => ∃ F a b d y, xs = [y] ∧ Same F H ∧ Rq X.K X.mg F H a x ∧ Rq X.K X.mg F H b y ∧ gIdx a b = some d ∧ ∀ F' H' v, Grow F H F' H' → Rp X.K X.mg F' d v → Q v H') := by
  intro pins s σ H x xs v us Q I rx rxs h
  obtain ⟨F, a, b, d, y, rfl, sm, ra, rb, e, k⟩ := h
  unfold gIdx at e
  split at e
  · rename_i ds
    split at e
    · rename_i hm
      simp only [Bool.and_eq_true, decide_eq_true_eq] at hm
      obtain ⟨⟨⟨m1, m2⟩, m3⟩, m4⟩ := hm
      cases e
      obtain ⟨p1, d1⟩ := okD_p m1
      obtain ⟨p2, d2⟩ := okD_p m2
      simp only [PyData.plain] at p1
      obtain ⟨p, vs, rfl, hl, rl⟩ := ra.list
      cases rx
      cases rxs with
      | cons ry rt =>
        rename_i uy ut
        cases rt
        obtain ⟨z, its, n, rv, _, ho⟩ := Inv.lstR I hl
        obtain ⟨as, r1⟩ := Rps.reads I ds vs its p1 (Rps.mono sm _ _ rl) rv
        obtain ⟨bs, r2⟩ := rq_reads I sm rb ry p2
        have hlen : its.length = ds.length := by rw [← rv.length, rl.len]
        refine PySem.SeqAt.call_list_index (α := Bool) (k := true) (ks := ds.map fun z => PyData.eqv z b) ⟨_, ho, rfl, n, rfl⟩ ⟨by rw [List.length_map]; exact hlen, fun j h1 h2 => ?_⟩ (by rw [List.length_map]; exact m3) (by simpa using m4) ⟨.int _, H, I.tok _, ⟨_, rfl⟩, k F H _ (Grow.refl _ _) (rp_int _)⟩
        have hj : j < ds.length := by rw [← hlen]; exact h1
        have e1 : its[j]? = some its[j] := List.getElem?_eq_getElem h1
        have e2 : ds[j]? = some ds[j] := List.getElem?_eq_getElem hj
        obtain ⟨cs, r3⟩ := reads_get r1 e1 e2
        have := PySem.SeqAt.eqAt_plain ds[j] b X.A.in1 s its[j] uy cs bs r3 r2 (plainAll_get p1 e2) p2 (by show X.A.units + 1 + _ < _; omega)
        rw [List.getElem_map]
        simpa using this
    · cases e
  · cases e
def eIdx (ma mb : DE) : DE := fun ev => (ma ev).bind fun p => (lift ((p.1.get p.2).bind lstOf)).bind fun _ => (mb p.2).bind fun q => (lift (p.1.get q.2)).bind fun a => (lift (q.1.get q.2)).bind fun b => (lift (gIdx a b)).bind fun d => .ok (.val d, q.2)
theorem sd_idx (hu : X.A.units + 64 < cLine) {apos cpos : Pos} (ha : PE X a (tE X.K X.mg S W ma)) (hb : PE X b (tE X.K X.mg S W mb)) (hbase : attributeBase a "index" X.env (eval a X.env) = eval a X.env := by rfl)
    (hfew : ((backTo cpos (starEach [b] X.env)).all (fun x => !x.1) && (backToKw cpos (keywordEach [] X.env)).all (fun x => x.1.isSome) && decide ([b].length + ([] : List Keyword).length + (if ([] : List Keyword).isEmpty then 0 else 1) < 30)) = true := by rfl)
    (hline : (apos.endLine == cpos.line) = true := by rfl) (hs : starEach [b] X.env = (false, eval b X.env) :: starEach [] X.env := by rfl) :
    PE X (.Call (.Attribute a "index" apos) [b] [] cpos) (tE X.K X.mg S W (eIdx ma mb)) := by
  refine (pe_bm PySem.F.plainAttrs_list PySem.F.slot_list_index PySem.F.type_list_index (mt_gIdx hu) ha (pa_cons hb pa_nil hs) hbase hfew hline hs rfl).imp fun σ H Q ⟨F, G, P, ev, M, h⟩ => ?_
  refine ⟨F, G, P, ev, M, h.bind.imp fun r1 ev1 F1 H1 _ s1 M1 h1 v rv => ?_⟩
  obtain ⟨ds, e0, h2⟩ := h1.lift
  obtain ⟨d0, e1, e2⟩ := Option.bind_eq_some_iff.mp e0
  cases d0 with
  | list xs =>
    obtain ⟨p, vs, rfl, hl, rl⟩ := (M1.acc rv e1).list
    refine ⟨.inl ⟨rfl, vs, .inl hl⟩, F1, G, P, ev1, M1, h2.bind.imp fun r2 ev2 F2 H2 _ s2 M2 h3 u ru => ?_⟩
    obtain ⟨x, e4, h4⟩ := h3.lift
    obtain ⟨y, e5, h5⟩ := h4.lift
    obtain ⟨d, e6, h6⟩ := h5.lift
    exact ⟨F2, x, y, d, u, rfl, M2.fr.fh, M2.acc (rv.mono s2) e4, M2.acc ru e5, e6, fun F' H' v' g r => h6 F' H' g.f (M2.grow g) v' r⟩
  | _ => cases e2
/-! ### a list display times a number -/
def oRep (k : Int) (m : DO) : DO := fun ev => (m ev).bind fun p => (lift (lstOf p.1)).bind fun ds => if 0 ≤ k ∧ k < 2 ^ 63 ∧ ds.length * k.toNat ≤ sizeLine then .ok (.list (List.replicate k.toNat ds).flatten, p.2) else .stuck
theorem so_rep {k : Int} {j : Nat} {p2 : Pos} {mo : DO} (ha : PE X a (tO X.K X.mg S W mo)) : PE X (.BinOp a .Mult (.Constant (.int k) j p2) pos) (tO X.K X.mg S W (oRep k mo)) := (pe_op op_rep ha pe_int).imp fun σ H Q ⟨F, G, P, ev, M, h⟩ => by
  refine ⟨F, G, P, ev, M, h.bind.imp fun d ev1 F1 H1 _ s1 M1 h1 a ow f => ?_⟩
  obtain ⟨ds, e1, h2⟩ := h1.lift
  obtain ⟨hk, h3⟩ := h2.cond
  cases d with
  | list xs =>
    cases e1
    obtain ⟨vs, q1, q2⟩ := ow
    have l1 := q2.len
    refine ⟨a, k, vs, rfl, rfl, q1, by omega, hk.2.1, by rw [← l1]; exact hk.2.2, ?_⟩
    exact fin_own M1.fr.fh (q2.flat _) fun F' H' p g hp hF o => h3 F' H' g.f (M1.grow g) p o ⟨hF, (FreshAt.of M1 hp).2⟩
  | _ => cases e1
/-! ### names = values, over a tuple -/
def tNm (is : List Nat) : TGs := fun vs σ H Q => vs.length = is.length ∧ Q (setV is vs σ) H
theorem sn_nil : PGs X [] (tNm []) := PGs_imp pgs_nil fun vs σ H Q ⟨h1, h2⟩ => by
  cases vs with
  | nil => exact ⟨rfl, h2⟩
  | cons v vs => cases h1
theorem sn_cons (i : Nat) {x : Str} {is : List Nat} (hN : X.N.Nodup) (h2 : PGs X es (tNm is)) (hi : X.N[i]? = some x := by rfl) (hx : Loc X.env.scope x := by first | exact Or.inl rfl | exact Or.inr rfl)
    (hf : X.fn x = true ∨ X.env.scope.names.lookup x = some .local := by first | exact .inl rfl | exact .inr rfl) (hs : (assignEach (.Name x pos :: es) X.env).map (·.2) = assign (.Name x pos) X.env :: (assignEach es X.env).map (·.2) := by rfl) :
    PGs X (.Name x pos :: es) (tNm (i :: is)) := PGs_imp (pgs_cons (pg_name (i := i) hN hi hx hf) h2 hs) fun vs σ H Q ⟨h1, h3⟩ => by
  cases vs with
  | nil => cases h1
  | cons v vs => exact ⟨v, vs, rfl, by simpa using h1, h3⟩
theorem AVR.grow {K : PySem.W.Frag} {mg : Str → Option Value} {F H H' : Hp} {ev : Ev} {σ : L2.St} (g : Grow F H F H') : ∀ {G : Hp} {as : List AV} {vs : List V}, AVR K mg S F H ev σ G as vs → AVR K mg S F H' ev σ G as vs
  | _, [], _, h => h
  | _, .v d :: as, _, ⟨v, w, e, r, q⟩ => ⟨v, w, e, r, AVR.grow g q⟩
  | _, .o d :: as, _, ⟨a, w, o, e, r, f, ha, q⟩ => ⟨a, w, o, e, r.grow g, f, g.h _ _ ha, AVR.grow g q⟩
theorem sx_upar (is : List Nat) {kt : Nat} {k2 pt2 pt} (hc : X.calm = true) (ha : PA X es (tI X.K X.mg S W its)) (hg : PGs X tgs (tNm is)) (hk : kinds S is its = true := by rfl)
    (hn : (assignEach tgs X.env).length = is.length := by rfl) (hst : (assignEach tgs X.env).findIdx? (·.1) = none := by rfl) (hw : swappedStores [.Tuple tgs kt pt] (.Tuple es k2 pt2) X.env = pure none := by rfl)
    (hs : swapsWithSole [.Tuple tgs kt pt] (.Tuple es k2 pt2) pos.line X.env = pure false := by rfl) (hz : is.length ≤ sizeLine := by decide) (h1 : (assignEach [.Tuple tgs kt pt] X.env).map (·.2) = [assign (.Tuple tgs kt pt) X.env] := by rfl) :
    PS X (.Assign [.Tuple tgs kt pt] (.Tuple es k2 pt2) pos) (tS X.K X.mg S W (sPar is its)) := (ps_asg (pe_tup ha) (pg_tup hc hg hn hst) hs hw h1).imp fun Dn σ H ⟨F, G, P, ev, M, h⟩ => by
  refine ⟨F, G, P, ev, M, h.bind.imp fun as ev1 F1 H1 e1 s1 M1 h1 vs av => ?_⟩
  obtain ⟨ev2, e2, h3⟩ := h1.lift
  have kA := kinds_ev hk e1
  have l1 := av.two
  have l2 := evIt_len (its := its) kA
  refine ⟨by rw [l1, l2]; exact hz, fun p hp => ?_⟩
  have gr : Grow F1 H1 F1 (upd H1 p (.tup vs)) := Grow.keep (same_upd hp)
  exact ⟨p, vs, rfl, .inl (.inl upd_same), by rw [l1, l2], by rw [l1, l2], h3 F1 _ _ (Same.refl _) (setAll_ok kA (M1.grow gr) (av.grow gr) e2)⟩
end
end TL

set_option Elab.async false
set_option linter.all false
set_option maxRecDepth 100000
set_option maxHeartbeats 2000000
/-! the law's own call; facts of exception classes. -/
namespace TL
open PySem PySem.Spec PyProof.Rows L2 HotX L2H LamX
theorem sp_law {K : PySem.W.Frag} {mg : Str → Option Value} {T : List (Addr × Str)} {f : FnS} {ns : List Int} {o : D} {a : Addr} {H : Hp} (hm : f.m [scD ns] = .ok (.bool true, o)) (hT : ∀ p ∈ T, H p.1 = some (.tbl #[])) (hS : SqL K H a (ns.map V.int)) (hnp : f.np = 1 := by rfl) (hio : f.io = none := by rfl) (hro : f.ro = false := by rfl) :
    spF K mg T f [.ref a] H (fun v _ => v = .bl true) (fun _ _ _ => False) := by
  obtain ⟨F, hF⟩ : ∃ F : Hp, ∀ b, (∀ o, H b = some o → (∀ ps, o ≠ .tbl ps) → F b = some o) ∧ (∀ o, F b = some o → H b = some o ∧ ∀ ps, o ≠ .tbl ps) := by
    refine ⟨fun b => match H b with | some (.tbl _) => none | o => o, fun b => ⟨fun o e n => ?_, fun o e => ?_⟩⟩
    · simp only [e]
      split
      · rename_i z; cases z; exact absurd rfl (n _)
      · rfl
    · cases q : H b with
      | none => simp only [q] at e; cases e
      | some u =>
        simp only [q] at e
        split at e
        · cases e
        · rename_i z
          cases e
          exact ⟨rfl, fun ps y => z ps (by rw [y])⟩
  refine ⟨F, fun _ => none, [scD ns], ⟨fun b o e => ((hF b).2 o e).1, fun b o e => (nomatch e), fun _ _ _ => rfl, fun b ps e => ((hF b).2 _ e).2 ps rfl, fun _ b ps e => (nomatch e), fun p hp => TabS.nil (hT p hp)⟩, by rw [hnp]; rfl, ⟨rfl, fun i d v e1 e2 => ⟨fun z => (by rw [hio] at z; cases z), fun _ => ?_⟩⟩, ?_⟩
  · cases i with
    | zero =>
      simp at e1 e2
      subst e1 e2
      simp only [scD, Rp]
      refine .inr (.inr ⟨ns, a, rfl, rfl, ?_⟩)
      rcases hS with hS | hS
      · refine .inl ?_
        rcases hS with hS | ⟨ob, hS⟩
        · exact .inl ((hF a).1 _ hS fun ps z => nomatch z)
        · exact .inr ⟨ob, (hF a).1 _ hS fun ps z => nomatch z⟩
      · exact .inr hS
    | succ i => simp at e1
  · rw [hm]
    intro F' H' v s fr io res
    unfold ResR at res
    rw [hro] at res
    simpa [Rp] using res
/-! ### facts of an exception class -/
def excCB (K : PySem.W.Frag) (D : Addr) : Bool := He.eqO (PySem.W.findIn K (.ref D) "__getattribute__") (some (some (.builtin "BaseException.__getattribute__"))) && (He.eqO (PySem.W.findIn K (.ref D) "__getattr__") (some none) && (decide (PySem.W.subIn K (.ref D) (.type "BaseException") = some true) &&
  (PySem.W.hasDictIn K D && (He.eqO (PySem.W.findIn K (.ref D) "__class__") (some (some (.builtin "object.__class__"))) && (He.eqO (PySem.W.specialIn K (.builtin "object.__class__") "__get__") (some (some (.builtin "getset_descriptor.__get__"))) && (decide (PySem.W.takesIn K (.builtin "object.__class__") = some true) && decide (PySem.W.mroIn K D (.type "object") = some true)))))))
theorem excCB_ok {K : PySem.W.Frag} {D : Addr} (h : excCB K D = true) : ExcC K D := by
  obtain ⟨h1, h⟩ := He.ba h
  obtain ⟨h2, h⟩ := He.ba h
  obtain ⟨h3, h⟩ := He.ba h
  obtain ⟨h4, h⟩ := He.ba h
  obtain ⟨h5, h⟩ := He.ba h
  obtain ⟨h6, h⟩ := He.ba h
  obtain ⟨h7, h8⟩ := He.ba h
  exact ⟨He.eqO_ok h1, He.eqO_ok h2, of_decide_eq_true h3, h4, He.eqO_ok h5, He.eqO_ok h6, of_decide_eq_true h7, of_decide_eq_true h8⟩
end TL

set_option Elab.async false
set_option linter.all false
set_option maxRecDepth 100000
set_option maxHeartbeats 2000000
/-! plain lemmas about the meanings of loops and comprehensions. -/
namespace TL
open PySem PySem.Spec PyProof.Rows L2
/-- a for that runs through -/
theorem forL_inv {α σ : Type} {b : D → Ev → Option Ev} {body : DS} {enc : α → D} (step : σ → α → σ) (I : σ → Ev → Prop) : ∀ {xs : List α} {s : σ} {ev : Ev},
    (∀ a ∈ xs, ∀ s ev, I s ev → ∃ ev1 ev2 fl, b (enc a) ev = some ev1 ∧ body ev1 = .ok (fl, ev2) ∧ (fl = .nx ∨ fl = .ct) ∧ I (step s a) ev2) → I s ev → ∃ ev', forL b body (xs.map enc) ev = .ok (.nx, ev') ∧ I (xs.foldl step s) ev'
  | [], s, ev, _, i => ⟨ev, rfl, i⟩
  | a :: xs, s, ev, h, i => by
    obtain ⟨ev1, ev2, fl, e1, e2, e3, i2⟩ := h a List.mem_cons_self s ev i
    obtain ⟨ev', e4, i3⟩ := forL_inv step I (fun x hx => h x (List.mem_cons_of_mem _ hx)) i2
    refine ⟨ev', ?_, i3⟩
    rw [List.map_cons]
    unfold forL
    rw [e1]
    simp only [lift_some, Res.bind_ok, e2]
    rcases e3 with rfl | rfl <;> exact e4
/-- .. with the place -/
theorem forL_ix {α σ : Type} {b : D → Ev → Option Ev} {body : DS} {enc : α → D} (step : σ → α → σ) (I : Nat → σ → Ev → Prop) : ∀ {xs : List α} (n : Nat) {s : σ} {ev : Ev},
    (∀ i a, xs[i]? = some a → ∀ s ev, I (n + i) s ev → ∃ ev1 ev2 fl, b (enc a) ev = some ev1 ∧ body ev1 = .ok (fl, ev2) ∧ (fl = .nx ∨ fl = .ct) ∧ I (n + i + 1) (step s a) ev2) → I n s ev → ∃ ev', forL b body (xs.map enc) ev = .ok (.nx, ev') ∧ I (n + xs.length) (xs.foldl step s) ev'
  | [], n, s, ev, _, i => ⟨ev, rfl, i⟩
  | a :: xs, n, s, ev, h, i => by
    obtain ⟨ev1, ev2, fl, e1, e2, e3, i2⟩ := h 0 a rfl s ev i
    obtain ⟨ev', e4, i3⟩ := forL_ix step I (xs := xs) (n + 1) (fun j x hx s ev q => by
      have := h (j + 1) x (by simpa using hx) s ev (by rw [show n + (j + 1) = n + 1 + j by omega]; exact q)
      rw [show n + (j + 1) + 1 = n + 1 + j + 1 by omega] at this
      exact this) i2
    refine ⟨ev', ?_, by rw [List.length_cons, show n + (xs.length + 1) = n + 1 + xs.length by omega]; exact i3⟩
    rw [List.map_cons]
    unfold forL
    rw [e1]
    simp only [lift_some, Res.bind_ok, e2]
    rcases e3 with rfl | rfl <;> exact e4
/-- .. whose state need not be told as a function of the items -/
theorem forL_all {b : D → Ev → Option Ev} {body : DS} (I : Ev → Prop) : ∀ {ds : List D} {ev : Ev},
    (∀ d ∈ ds, ∀ ev, I ev → ∃ ev1 ev2 fl, b d ev = some ev1 ∧ body ev1 = .ok (fl, ev2) ∧ (fl = .nx ∨ fl = .ct) ∧ I ev2) → I ev → ∃ ev', forL b body ds ev = .ok (.nx, ev') ∧ I ev'
  | [], ev, _, i => ⟨ev, rfl, i⟩
  | a :: xs, ev, h, i => by
    obtain ⟨ev1, ev2, fl, e1, e2, e3, i2⟩ := h a List.mem_cons_self ev i
    obtain ⟨ev', e4, i3⟩ := forL_all I (fun x hx => h x (List.mem_cons_of_mem _ hx)) i2
    refine ⟨ev', ?_, i3⟩
    unfold forL
    rw [e1]
    simp only [lift_some, Res.bind_ok, e2]
    rcases e3 with rfl | rfl <;> exact e4
/-- a for that returns at the first item that is not p -/
theorem forL_find {α : Type} {b : D → Ev → Option Ev} {body : DS} {enc : α → D} (p : α → Bool) (r : D) (I : Ev → Prop) : ∀ {xs : List α} {ev : Ev},
    (∀ a ∈ xs, ∀ ev, I ev → ∃ ev1 ev2, b (enc a) ev = some ev1 ∧ (if p a = true then body ev1 = .ok (.nx, ev2) ∧ I ev2 else body ev1 = .ok (.rt r, ev2) ∧ I ev2)) → I ev →
    ∃ ev', I ev' ∧ forL b body (xs.map enc) ev = .ok (if xs.all p = true then .nx else .rt r, ev')
  | [], ev, _, i => ⟨ev, i, rfl⟩
  | a :: xs, ev, h, i => by
    obtain ⟨ev1, ev2, e1, e2⟩ := h a List.mem_cons_self ev i
    rw [List.map_cons]
    unfold forL
    rw [e1]
    simp only [lift_some, Res.bind_ok]
    by_cases hp : p a = true
    · rw [if_pos hp] at e2
      obtain ⟨ev', i3, e4⟩ := forL_find p r I (fun x hx => h x (List.mem_cons_of_mem _ hx)) e2.2
      refine ⟨ev', i3, ?_⟩
      rw [e2.1]
      simp only [Res.bind_ok, List.all_cons, hp, Bool.true_and]
      exact e4
    · rw [if_neg hp] at e2
      refine ⟨ev2, e2.2, ?_⟩
      rw [e2.1]
      simp [hp]
/-- a comprehension that changes nothing but its own names -/
theorem compL_map {α : Type} {b : D → Ev → Option Ev} {m : DE} {vs : List Nat} {enc f : α → D} {W : Ev} : ∀ {xs : List α} {acc : List D},
    (∀ a ∈ xs, ∃ ev1 ev2, b (enc a) W = some ev1 ∧ m ev1 = .ok (.val (f a), ev2) ∧ wipeE ev2 vs = W) → compL b tYesD m vs (xs.map enc) acc W = .ok (acc ++ xs.map f, W)
  | [], acc, _ => by simp [compL]
  | a :: xs, acc, h => by
    obtain ⟨ev1, ev2, e1, e2, e3⟩ := h a List.mem_cons_self
    rw [List.map_cons]
    unfold compL
    rw [e1]
    simp only [lift_some, Res.bind_ok, tYesD, noErr_ok, cond_true, e2, toVal, e3]
    rw [compL_map (xs := xs) fun x hx => h x (List.mem_cons_of_mem _ hx)]
    simp
theorem compL_filter {α : Type} {b : D → Ev → Option Ev} {t : DT} {m : DE} {vs : List Nat} {enc f : α → D} {p : α → Bool} {W : Ev} : ∀ {xs : List α} {acc : List D},
    (∀ a ∈ xs, ∃ ev1 ev2, b (enc a) W = some ev1 ∧ t ev1 = .ok (p a, ev2) ∧ wipeE ev2 vs = W ∧ (p a = true → ∃ ev3, m ev2 = .ok (.val (f a), ev3) ∧ wipeE ev3 vs = W)) → compL b t m vs (xs.map enc) acc W = .ok (acc ++ (xs.filter p).map f, W)
  | [], acc, _ => by simp [compL]
  | a :: xs, acc, h => by
    obtain ⟨ev1, ev2, e1, e2, e3, e4⟩ := h a List.mem_cons_self
    rw [List.map_cons]
    unfold compL
    rw [e1]
    simp only [lift_some, Res.bind_ok, e2, noErr_ok]
    have ih := fun acc => compL_filter (xs := xs) (acc := acc) fun x hx => h x (List.mem_cons_of_mem _ hx)
    cases hp : p a with
    | false => simp only [cond_false, e3]; rw [ih]; simp [hp]
    | true =>
      obtain ⟨ev3, q1, q2⟩ := e4 hp
      simp only [cond_true, q1, noErr_ok, Res.bind_ok, toVal, q2]
      rw [ih]; simp [hp]
theorem oComp_map {α : Type} {it : DI} {vs : List Nat} {b : D → Ev → Option Ev} {m : DE} {ev : Ev} {xs : List α} (enc f : α → D) (hit : it ev = .ok (xs.map enc, ev)) (hl : xs.length ≤ sizeLine)
    (hx : ∀ a ∈ xs, ∃ ev1, b (enc a) (wipeE ev vs) = some ev1 ∧ m ev1 = .ok (.val (f a), ev1) ∧ wipeE ev1 vs = wipeE ev vs) (hb : backE ev (wipeE ev vs) vs = ev) : oComp it vs b tYesD m ev = .ok (.list (xs.map f), ev) := by
  unfold oComp
  rw [hit]
  simp only [Res.bind_ok, List.length_map, hl, if_true]
  rw [compL_map (f := f) fun a ha => let ⟨ev1, h1, h2, h3⟩ := hx a ha; ⟨ev1, ev1, h1, h2, h3⟩]
  simp only [Res.bind_ok, List.nil_append, hb]
theorem oComp_filter {α : Type} {it : DI} {vs : List Nat} {b : D → Ev → Option Ev} {t : DT} {m : DE} {ev : Ev} {xs : List α} (enc f : α → D) (p : α → Bool) (hit : it ev = .ok (xs.map enc, ev)) (hl : xs.length ≤ sizeLine)
    (hx : ∀ a ∈ xs, ∃ ev1 ev2, b (enc a) (wipeE ev vs) = some ev1 ∧ t ev1 = .ok (p a, ev2) ∧ wipeE ev2 vs = wipeE ev vs ∧ (p a = true → ∃ ev3, m ev2 = .ok (.val (f a), ev3) ∧ wipeE ev3 vs = wipeE ev vs)) (hb : backE ev (wipeE ev vs) vs = ev) : oComp it vs b t m ev = .ok (.list ((xs.filter p).map f), ev) := by
  unfold oComp
  rw [hit]
  simp only [Res.bind_ok, List.length_map, hl, if_true]
  rw [compL_filter (f := f) (p := p) hx]
  simp only [Res.bind_ok, List.nil_append, hb]
def iter {σ : Type} (f : σ → σ) : Nat → σ → σ
  | 0, s => s
  | n + 1, s => iter f n (f s)
/-- while -/
theorem whileN_inv {σ : Type} {t : DT} {body : DS} (step : σ → σ) (c : σ → Bool) (I : σ → Ev → Prop) (ht : ∀ s ev, I s ev → ∃ ev1, t ev = .ok (c s, ev1) ∧ I s ev1) (hb : ∀ s ev, I s ev → c s = true → ∃ ev1, body ev = .ok (.nx, ev1) ∧ I (step s) ev1) :
    ∀ (n m : Nat) (s : σ) (ev : Ev), I s ev → (∀ k, k < m → c (iter step k s) = true) → c (iter step m s) = false → m < n → ∃ ev', whileN t body n ev = .ok (.nx, ev') ∧ I (iter step m s) ev'
  | 0, m, s, ev, _, _, _, h => absurd h (Nat.not_lt_zero _)
  | n + 1, m, s, ev, i, h1, h2, h => by
    obtain ⟨ev1, e1, i1⟩ := ht s ev i
    unfold whileN
    rw [e1]
    simp only [Res.bind_ok]
    cases m with
    | zero =>
      have h2 : c s = false := h2
      rw [h2]
      exact ⟨ev1, rfl, i1⟩
    | succ m =>
      have h0 : c s = true := h1 0 (Nat.succ_pos _)
      rw [h0]
      obtain ⟨ev2, e2, i2⟩ := hb s ev1 i1 h0
      simp only [cond_true, e2, Res.bind_ok]
      exact whileN_inv step c I ht hb n m (step s) ev2 i2 (fun k hk => h1 (k + 1) (by omega)) h2 (by omega)
/-! ### simp: evaluation -/
section
variable {f : FnS} {ev : Ev} {a b c d : D}
@[simp] theorem z_lift_none {α : Type} : lift (none : Option α) = .stuck := rfl
@[simp] theorem z_get_val : (RV.val d).get ev = some d := rfl
@[simp] theorem z_get_slot {i : Nat} : (RV.slot i).get ev = (ev[i]?).join := rfl
@[simp] theorem z_toVal : toVal (.val d) ev = .ok (d, ev) := rfl
@[simp] theorem z_toVal_slot {i : Nat} : toVal (.slot i) ev = (lift (ev[i]?).join).bind fun d => .ok (d, ev.set i none) := rfl
@[simp] theorem z_vals_nil : vals [] ev = .ok ([], ev) := rfl
@[simp] theorem z_vals_cons {r : RV} {rs : List RV} : vals (r :: rs) ev = (toVal r ev).bind fun p => (vals rs p.2).bind fun q => .ok (p.1 :: q.1, q.2) := rfl
@[simp] theorem z_gets_nil : gets [] ev = some [] := rfl
@[simp] theorem z_gets_cons {r : RV} {rs : List RV} : gets (r :: rs) ev = (r.get ev).bind fun d => (gets rs ev).bind fun ds => some (d :: ds) := rfl
@[simp] theorem z_toBool {k : Bool} : TL.toBool (.bool k) = some k := rfl
@[simp] theorem z_toInt {i : Int} : TL.toInt (.int i) = some i := rfl
@[simp] theorem z_tru_b {k : Bool} : truD (.bool k) = some k := rfl
@[simp] theorem z_lstOf {ds : List D} : lstOf (.list ds) = some ds := rfl
@[simp] theorem z_noErr_stuck {α : Type} : noErr (Res.stuck : Res α) = .stuck := rfl
@[simp] theorem z_len_t {xs : List D} : gLen [.tuple xs] = some (.int xs.length) := rfl
@[simp] theorem z_len_l {xs : List D} : gLen [.list xs] = some (.int xs.length) := rfl
@[simp] theorem z_le {i j : Int} : gLe (.int i) (.int j) = some (.bool (decide (i ≤ j))) := rfl
@[simp] theorem z_lt {i j : Int} : gLt (.int i) (.int j) = some (.bool (decide (i < j))) := rfl
@[simp] theorem z_ge {i j : Int} : gGe (.int i) (.int j) = some (.bool (decide (j ≤ i))) := rfl
@[simp] theorem z_gt {i j : Int} : gGt (.int i) (.int j) = some (.bool (decide (j < i))) := rfl
@[simp] theorem z_sub {i j : Int} : TL.gSub (.int i) (.int j) = some (.int (i - j)) := rfl
@[simp] theorem z_add {i j : Int} : gAdd (.int i) (.int j) = some (.int (i + j)) := rfl
@[simp] theorem z_neg {i : Int} : gNeg (.int i) = some (.int (-i)) := rfl
@[simp] theorem z_ixt {xs : List D} {i : Int} : gIx (.tuple xs) (.int i) = atI xs i := rfl
@[simp] theorem z_ixl {xs : List D} {i : Int} : gIx (.list xs) (.int i) = atI xs i := rfl
@[simp] theorem z_rev_t {xs : List D} : gRev (.tuple xs) = some (.tuple xs.reverse) := rfl
@[simp] theorem z_rev_l {xs : List D} : gRev (.list xs) = some (.list xs.reverse) := rfl
@[simp] theorem z_tup_l {xs : List D} : gTuple [.list xs] = some (.tuple xs) := rfl
@[simp] theorem z_tup_t {xs : List D} : gTuple [.tuple xs] = some (.tuple xs) := rfl
@[simp] theorem z_lst_l {xs : List D} : gList [.list xs] = some (.list xs) := rfl
@[simp] theorem z_lst_t {xs : List D} : gList [.tuple xs] = some (.list xs) := rfl
@[simp] theorem z_int {i : Int} : gInt [.int i] = some (.int i) := rfl
@[simp] theorem z_abs {i : Int} : gAbs [.int i] = some (.int (if i < 0 then -i else i)) := rfl
@[simp] theorem z_seq_t {xs : List D} : seqOf (.tuple xs) = some xs := rfl
@[simp] theorem z_seq_l {xs : List D} : seqOf (.list xs) = some xs := rfl
@[simp] theorem z_sl_t {xs : List D} {l h : Option Int} : gSl l h (.tuple xs) = some (.tuple (cutL xs l h)) := rfl
@[simp] theorem z_sl_l {xs : List D} {l h : Option Int} : gSl l h (.list xs) = some (.list (cutL xs l h)) := rfl
@[simp] theorem z_add_t {xs ys : List D} : gAdd (.tuple xs) (.tuple ys) = if xs.length + ys.length ≤ sizeLine then some (.tuple (xs ++ ys)) else none := rfl
@[simp] theorem z_add_l {xs ys : List D} : gAdd (.list xs) (.list ys) = if xs.length + ys.length ≤ sizeLine then some (.list (xs ++ ys)) else none := rfl
@[simp] theorem z_bName {i : Nat} : bName i d ev = some (ev.set i (some d)) := rfl
@[simp] theorem z_bNil : bNil [] ev = some ev := rfl
@[simp] theorem z_bCons {t : D → Ev → Option Ev} {ts : List D → Ev → Option Ev} {ds : List D} : bCons t ts (d :: ds) ev = (t d ev).bind (ts ds) := rfl
@[simp] theorem z_bTup {n : Nat} {ts : List D → Ev → Option Ev} {ds : List D} : bTup n ts (.tuple ds) ev = if ds.length = n then ts ds ev else none := rfl
@[simp] theorem z_set_nil {ev : Ev} : setAll [] [] ev = some ev := rfl
@[simp] theorem z_set_v {i : Nat} {is : List Nat} {as : List AV} : setAll (i :: is) (.v d :: as) ev = setAll is as (ev.set i (some d)) := rfl
@[simp] theorem z_set_o {i : Nat} {is : List Nat} {as : List AV} : setAll (i :: is) (.o d :: as) ev = setAll is as (ev.set i (some d)) := rfl
@[simp] theorem z_it_nil : evIt [] ev = .ok ([], ev) := rfl
@[simp] theorem z_it_v {m : DE} {r : List Itm} : evIt (.v m :: r) ev = (m ev).bind fun p => (toVal p.1 p.2).bind fun q => (evIt r q.2).bind fun t => .ok (.v q.1 :: t.1, t.2) := rfl
@[simp] theorem z_it_o {m : DO} {r : List Itm} : evIt (.o m :: r) ev = (m ev).bind fun p => (evIt r p.2).bind fun t => .ok (.o p.1 :: t.1, t.2) := rfl
@[simp] theorem z_eq_i {i j : Int} : gEq (.int i) (.int j) = some (.bool (i == j)) := by simp [gEq, okD, PyData.plain, PyData.depth, PyData.eqv]
@[simp] theorem z_ne_i {i j : Int} : gNe (.int i) (.int j) = some (.bool (!(i == j))) := by simp [gNe, okD, PyData.plain, PyData.depth, PyData.eqv]
theorem z_atn {xs : List D} {i : Nat} (h : i < xs.length) : atI xs (i : Int) = xs[i]? := by
  have e : ixN xs.length (i : Int) = some i := by
    unfold ixN
    rw [if_pos (by omega), if_pos (by omega)]
    simp
  unfold atI; rw [e]; rfl
@[simp] theorem z_at0 {x : D} {xs : List D} : atI (x :: xs) 0 = some x := z_atn (i := 0) (by simp)
@[simp] theorem z_at1 {x y : D} {xs : List D} : atI (x :: y :: xs) 1 = some y := z_atn (i := 1) (by simp)
theorem z_atm {xs : List D} (h : xs ≠ []) : atI xs (-1) = xs.getLast? := by
  have h0 : 0 < xs.length := List.length_pos_iff.mpr h
  have e : ixN xs.length (-1) = some (xs.length - 1) := by
    unfold ixN
    rw [if_neg (by omega), if_pos (by omega)]
    congr 1
    omega
  unfold atI; rw [e, List.getLast?_eq_getElem?]; rfl
theorem z_cut_nk {xs : List D} {k : Nat} (h : k ≤ xs.length) : cutL xs none (some (k : Int)) = xs.take k := by
  unfold cutL; rw [HT.sIx_none, HT.sIx_nat]; simp [Nat.min_eq_left h]
theorem z_cut_kn {xs : List D} {k : Nat} (h : k ≤ xs.length) : cutL xs (some (k : Int)) none = xs.drop k := by
  unfold cutL; rw [HT.sIx_none, HT.sIx_nat, Nat.min_eq_left h]
  exact List.take_of_length_le (by simp)
theorem z_cut_kk {xs : List D} {i j : Nat} (h : i ≤ xs.length) (h2 : j ≤ xs.length) : cutL xs (some (i : Int)) (some (j : Int)) = (xs.drop i).take (j - i) := by
  unfold cutL; rw [HT.sIx_nat, HT.sIx_nat, Nat.min_eq_left h, Nat.min_eq_left h2]
theorem z_cut_m {xs : List D} : cutL xs none (some (-1)) = xs.dropLast := by
  unfold cutL; rw [HT.sIx_none]
  have e : HT.sIx xs.length xs.length (some (-1)) = xs.length - 1 := by
    unfold HT.sIx; simp; omega
  rw [e, List.dropLast_eq_take]; simp
theorem z_cut_1m {xs : List D} (h : 1 ≤ xs.length) : cutL xs (some 1) (some (-1)) = (xs.drop 1).take (xs.length - 2) := by
  unfold cutL
  have e : HT.sIx xs.length xs.length (some (-1)) = xs.length - 1 := by
    unfold HT.sIx; simp; omega
  have e2 : HT.sIx xs.length 0 (some 1) = 1 := by
    unfold HT.sIx; simp; omega
  rw [e, e2]
  congr 1
theorem iter_succ : ∀ (m s : Nat), iter (· + 1) m s = s + m
  | 0, s => rfl
  | m + 1, s => by show iter (· + 1) m (s + 1) = _; rw [iter_succ m]; omega
/-- the first place from k on, of at most n looked at, at which c fails -/
def cnt (c : Nat → Bool) : Nat → Nat → Nat
  | 0, k => k
  | n + 1, k => if c k = true then cnt c n (k + 1) else k
theorem cnt_spec {c : Nat → Bool} : ∀ (n k : Nat), k ≤ cnt c n k ∧ cnt c n k ≤ k + n ∧ (∀ j, k ≤ j → j < cnt c n k → c j = true) ∧ (cnt c n k = k + n ∨ c (cnt c n k) = false)
  | 0, k => ⟨Nat.le_refl _, Nat.le_refl _, fun j h1 h2 => absurd h2 (by show ¬ j < k; omega), .inl rfl⟩
  | n + 1, k => by
    unfold cnt
    by_cases h : c k = true
    · rw [if_pos h]
      obtain ⟨h1, h2, h3, h4⟩ := cnt_spec (c := c) n (k + 1)
      refine ⟨by omega, by omega, fun j a b => ?_, h4.imp (fun z => by omega) id⟩
      by_cases e : j = k
      · rw [e]; exact h
      · exact h3 j (by omega) b
    · rw [if_neg h]
      exact ⟨Nat.le_refl _, by omega, fun j a b => absurd b (by omega), .inr (by simpa using h)⟩
theorem rng_ok {n : Nat} (h : n < 1000000) : rngD1 [.int (n : Int)] = some ((List.range n).map fun i => .int (i : Nat)) := by
  have h1 : -(2 ^ 62) ≤ (n : Int) := by omega
  have h2 : (n : Int) < 2 ^ 62 := by omega
  simp only [rngD1, h1, h2, and_self, if_true, Int.toNat_natCast, Int.zero_add]
theorem iRng1_ok {ms : DA} {ev ev' : Ev} {n : Nat} (h : ms ev = .ok ([.val (.int (n : Int))], ev')) (hn : n < 1000000) : TL.iRng1 ms ev = .ok ((List.range n).map fun i => .int (i : Nat), ev') := by
  have key : ∀ (g : List D → Option (List D)) (zs : List D), g [.int (n : Int)] = some zs → ((ms ev).bind fun p => (lift (gets p.1 p.2)).bind fun ds => (lift (g ds)).bind fun r => Res.ok (r, p.2)) = .ok (zs, ev') := by
    intro g zs hg
    rw [h]
    simp [hg]
  exact key rngD1 _ (rng_ok hn)
/-- calls of defs without an io parameter, of values -/
theorem z_call1 (h : f.io = none) : callD f [.val a] ev = (f.m [a]).bind fun r => .ok (r.1, ev) := by
  unfold callD ioSlot lends; rw [h]; simp [putIo]
theorem z_call2 (h : f.io = none) : callD f [.val a, .val b] ev = (f.m [a, b]).bind fun r => .ok (r.1, ev) := by
  unfold callD ioSlot lends; rw [h]; simp [putIo]
theorem z_call3 (h : f.io = none) : callD f [.val a, .val b, .val c] ev = (f.m [a, b, c]).bind fun r => .ok (r.1, ev) := by
  unfold callD ioSlot lends; rw [h]; simp [putIo]
/-- .. with the object of the slot j as the first -/
theorem z_io1 {j : Nat} (h : f.io = some 0) : callD f [.slot j] ev = (lift (ev[j]?).join).bind fun d => (f.m [d]).bind fun r => .ok (r.1, ev.set j (some r.2)) := by
  unfold callD ioSlot lends; rw [h]; cases hq : (ev[j]?).join <;> simp [putIo, hq]
theorem z_io2 {j : Nat} (h : f.io = some 0) : callD f [.slot j, .val a] ev = (lift (ev[j]?).join).bind fun d => (f.m [d, a]).bind fun r => .ok (r.1, ev.set j (some r.2)) := by
  unfold callD ioSlot lends; rw [h]; cases hq : (ev[j]?).join <;> simp [putIo, hq, isSlot]
theorem z_io3 {j : Nat} (h : f.io = some 0) : callD f [.slot j, .val a, .val b] ev = (lift (ev[j]?).join).bind fun d => (f.m [d, a, b]).bind fun r => .ok (r.1, ev.set j (some r.2)) := by
  unfold callD ioSlot lends; rw [h]; cases hq : (ev[j]?).join <;> simp [putIo, hq, isSlot]
end
end TL

set_option Elab.async false
set_option linter.all false
set_option maxRecDepth 100000
set_option maxHeartbeats 4000000
/-! the walk of k66_whole_closed_cords; written by gen.py. -/
namespace WL
open PySem PySem.Spec PyProof.Rows L2 HotX L2H LamX TL
abbrev PR : Program := PySem.Challenge.pw_tautlines_k66_whole_closed_cords
def top (i : Nat) : Stmt := PR.main.body.getD i (.Pass ⟨0, 0, 0, 0⟩)
abbrev s_is_whole : Stmt := top 4
abbrev N_is_whole : List Str := ["value", "low", "high"]
theorem sc_is_whole : FnScope N_is_whole ["value", "low", "high"] (defScope s_is_whole) := ⟨rfl, rfl, rfl, by decide +kernel, rfl, by decide +kernel, by decide +kernel⟩
abbrev s_is_tuple_of : Stmt := top 5
abbrev N_is_tuple_of : List Str := ["value", "low", "high"]
theorem sc_is_tuple_of : FnScope N_is_tuple_of ["value", "low", "high"] (defScope s_is_tuple_of) := ⟨rfl, rfl, rfl, by decide +kernel, rfl, by decide +kernel, by decide +kernel⟩
abbrev s_is_turn : Stmt := top 9
abbrev N_is_turn : List Str := ["value"]
theorem sc_is_turn : FnScope N_is_turn ["value"] (defScope s_is_turn) := ⟨rfl, rfl, rfl, by decide +kernel, rfl, by decide +kernel, by decide +kernel⟩
abbrev s_is_cord : Stmt := top 10
abbrev N_is_cord : List Str := ["value", "turn"]
theorem sc_is_cord : FnScope N_is_cord ["value"] (defScope s_is_cord) := ⟨rfl, rfl, rfl, by decide +kernel, rfl, by decide +kernel, by decide +kernel⟩
abbrev s_need_cord : Stmt := top 11
abbrev N_need_cord : List Str := ["value"]
theorem sc_need_cord : FnScope N_need_cord ["value"] (defScope s_need_cord) := ⟨rfl, rfl, rfl, by decide +kernel, rfl, by decide +kernel, by decide +kernel⟩
abbrev s_are_opposite : Stmt := top 12
abbrev N_are_opposite : List Str := ["one", "other"]
theorem sc_are_opposite : FnScope N_are_opposite ["one", "other"] (defScope s_are_opposite) := ⟨rfl, rfl, rfl, by decide +kernel, rfl, by decide +kernel, by decide +kernel⟩
abbrev s_back_of : Stmt := top 13
abbrev N_back_of : List Str := ["row", "peg", "way"]
theorem sc_back_of : FnScope N_back_of ["row"] (defScope s_back_of) := ⟨rfl, rfl, rfl, by decide +kernel, rfl, by decide +kernel, by decide +kernel⟩
abbrev s_reduced_row : Stmt := top 14
abbrev N_reduced_row : List Str := ["row", "found", "turn"]
theorem sc_reduced_row : FnScope N_reduced_row ["row"] (defScope s_reduced_row) := ⟨rfl, rfl, rfl, by decide +kernel, rfl, by decide +kernel, by decide +kernel⟩
abbrev s_core_of : Stmt := top 16
abbrev N_core_of : List Str := ["row", "at"]
theorem sc_core_of : FnScope N_core_of ["row"] (defScope s_core_of) := ⟨rfl, rfl, rfl, by decide +kernel, rfl, by decide +kernel, by decide +kernel⟩
abbrev s_turned_rows : Stmt := top 17
abbrev N_turned_rows : List Str := ["row", "at"]
theorem sc_turned_rows : FnScope N_turned_rows ["row"] (defScope s_turned_rows) := ⟨rfl, rfl, rfl, by decide +kernel, rfl, by decide +kernel, by decide +kernel⟩
abbrev s_round_of : Stmt := top 18
abbrev N_round_of : List Str := ["row"]
theorem sc_round_of : FnScope N_round_of ["row"] (defScope s_round_of) := ⟨rfl, rfl, rfl, by decide +kernel, rfl, by decide +kernel, by decide +kernel⟩
abbrev s_reduced_round : Stmt := top 19
abbrev N_reduced_round : List Str := ["cord"]
theorem sc_reduced_round : FnScope N_reduced_round ["cord"] (defScope s_reduced_round) := ⟨rfl, rfl, rfl, by decide +kernel, rfl, by decide +kernel, by decide +kernel⟩
abbrev s_are_turnings : Stmt := top 20
abbrev N_are_turnings : List Str := ["one", "other"]
theorem sc_are_turnings : FnScope N_are_turnings ["one", "other"] (defScope s_are_turnings) := ⟨rfl, rfl, rfl, by decide +kernel, rfl, by decide +kernel, by decide +kernel⟩
abbrev s_turning_of : Stmt := top 21
abbrev N_turning_of : List Str := ["one", "other", "first", "core", "second", "row", "rows"]
theorem sc_turning_of : FnScope N_turning_of ["one", "other"] (defScope s_turning_of) := ⟨rfl, rfl, rfl, by decide +kernel, rfl, by decide +kernel, by decide +kernel⟩
abbrev s_is_turning : Stmt := top 22
abbrev N_is_turning : List Str := ["one", "other", "value"]
theorem sc_is_turning : FnScope N_is_turning ["one", "other", "value"] (defScope s_is_turning) := ⟨rfl, rfl, rfl, by decide +kernel, rfl, by decide +kernel, by decide +kernel⟩
abbrev s__law_cup : Stmt := top 24
abbrev N__law_cup : List Str := ["script", "cell"]
theorem sc__law_cup : FnScope N__law_cup ["script"] (defScope s__law_cup) := ⟨rfl, rfl, rfl, by decide +kernel, rfl, by decide +kernel, by decide +kernel⟩
abbrev s__law_roll : Stmt := top 25
abbrev N__law_roll : List Str := ["cup", "many", "deep", "found"]
theorem sc__law_roll : FnScope N__law_roll ["cup", "many"] (defScope s__law_roll) := ⟨rfl, rfl, rfl, by decide +kernel, rfl, by decide +kernel, by decide +kernel⟩
abbrev s__law_some : Stmt := top 26
abbrev N__law_some : List Str := ["cup", "things"]
theorem sc__law_some : FnScope N__law_some ["cup", "things"] (defScope s__law_some) := ⟨rfl, rfl, rfl, by decide +kernel, rfl, by decide +kernel, by decide +kernel⟩
abbrev s__law_sort : Stmt := top 27
abbrev N__law_sort : List Str := ["value"]
theorem sc__law_sort : FnScope N__law_sort ["value"] (defScope s__law_sort) := ⟨rfl, rfl, rfl, by decide +kernel, rfl, by decide +kernel, by decide +kernel⟩
abbrev s__law_like : Stmt := top 28
abbrev N__law_like : List Str := ["one", "other", "sort", "first", "second"]
theorem sc__law_like : FnScope N__law_like ["one", "other"] (defScope s__law_like) := ⟨rfl, rfl, rfl, by decide +kernel, rfl, by decide +kernel, by decide +kernel⟩
abbrev s__law_cord : Stmt := top 29
abbrev N__law_cord : List Str := ["cup", "pegs", "many", "found", "turn"]
theorem sc__law_cord : FnScope N__law_cord ["cup", "pegs", "many"] (defScope s__law_cord) := ⟨rfl, rfl, rfl, by decide +kernel, rfl, by decide +kernel, by decide +kernel⟩
abbrev s__law_reduced : Stmt := top 30
abbrev N__law_reduced : List Str := ["row", "found", "peg", "way"]
theorem sc__law_reduced : FnScope N__law_reduced ["row"] (defScope s__law_reduced) := ⟨rfl, rfl, rfl, by decide +kernel, rfl, by decide +kernel, by decide +kernel⟩
abbrev s__law_back : Stmt := top 31
abbrev N__law_back : List Str := ["row", "peg", "way"]
theorem sc__law_back : FnScope N__law_back ["row"] (defScope s__law_back) := ⟨rfl, rfl, rfl, by decide +kernel, rfl, by decide +kernel, by decide +kernel⟩
abbrev s__law_fails : Stmt := top 32
abbrev N__law_fails : List Str := ["call", "e", "some", "words", "word", "good"]
theorem sc__law_fails : FnScope N__law_fails ["call"] (defScope s__law_fails) := ⟨rfl, rfl, rfl, by decide +kernel, rfl, by decide +kernel, by decide +kernel⟩
abbrev s__law_round : Stmt := top 33
abbrev N__law_round : List Str := ["row", "left", "turn", "at"]
theorem sc__law_round : FnScope N__law_round ["row"] (defScope s__law_round) := ⟨rfl, rfl, rfl, by decide +kernel, rfl, by decide +kernel, by decide +kernel⟩
abbrev s__law_is_turns : Stmt := top 34
abbrev N__law_is_turns : List Str := ["value", "turn"]
theorem sc__law_is_turns : FnScope N__law_is_turns ["value"] (defScope s__law_is_turns) := ⟨rfl, rfl, rfl, by decide +kernel, rfl, by decide +kernel, by decide +kernel⟩
abbrev s__law_is_turning : Stmt := top 35
abbrev N__law_is_turning : List Str := ["one", "other", "value"]
theorem sc__law_is_turning : FnScope N__law_is_turning ["one", "other", "value"] (defScope s__law_is_turning) := ⟨rfl, rfl, rfl, by decide +kernel, rfl, by decide +kernel, by decide +kernel⟩
abbrev s__law_right : Stmt := top 36
abbrev N__law_right : List Str := ["cup", "one", "other", "due", "told", "base", "values", "value"]
theorem sc__law_right : FnScope N__law_right ["cup", "one", "other"] (defScope s__law_right) := ⟨rfl, rfl, rfl, by decide +kernel, rfl, by decide +kernel, by decide +kernel⟩
abbrev s__law_great : Stmt := top 37
abbrev N__law_great : List Str := ["cup", "at", "many", "ring", "turned", "long", "far", "own"]
theorem sc__law_great : FnScope N__law_great ["cup"] (defScope s__law_great) := ⟨rfl, rfl, rfl, by decide +kernel, rfl, by decide +kernel, by decide +kernel⟩
abbrev s__law_errors : Stmt := top 38
abbrev N__law_errors : List Str := ["cup", "odd", "words", "call", "one", "other"]
theorem sc__law_errors : FnScope N__law_errors ["cup"] (defScope s__law_errors) := ⟨rfl, rfl, rfl, by decide +kernel, rfl, by decide +kernel, by decide +kernel⟩
abbrev s_law : Stmt := top 39
abbrev N_law : List Str := ["script", "cup", "turn", "four", "told", "pegs", "one", "by", "row", "at", "lots"]
theorem sc_law : FnScope N_law ["script"] (defScope s_law) := ⟨rfl, rfl, rfl, by decide +kernel, rfl, by decide +kernel, by decide +kernel⟩
/-! ### facts -/
structure Facts (K : PySem.W.Frag) (mg : Str → Option Value) : Prop where
  b_isinstance : mg "isinstance" = none
  b_int : mg "int" = none
  b_bool : mg "bool" = none
  b_tuple : mg "tuple" = none
  b_len : mg "len" = none
  c_PEGS : ∃ t, mg "PEGS" = some (.int (8) t)
  c_TURNS : ∃ t, mg "TURNS" = some (.int (400) t)
  b_all : mg "all" = none
  e_InvalidCord : PySem.W.excIn K (He.ga K "InvalidCord") He.veBase "ValueError.__new__" = true ∧ PySem.W.keepIn K (.ref (He.ga K "InvalidCord")) = true ∧ PySem.W.subIn K (.ref (He.ga K "InvalidCord")) (.type "BaseException") = some true ∧ PySem.W.typeIn K (.ref (He.ga K "InvalidCord")) = some (.type "type")
  g_InvalidCord : mg "InvalidCord" = some (.ref (He.ga K "InvalidCord"))
  b_max : mg "max" = none
  b_range : mg "range" = none
  b_min : mg "min" = none
  b_list : mg "list" = none
  b_abs : mg "abs" = none
  b_str : mg "str" = none
  b_zip : mg "zip" = none
  g_turning_of : mg "turning_of" = some (.ref (He.ga K "turning_of"))
  g_are_turnings : mg "are_turnings" = some (.ref (He.ga K "are_turnings"))
  g_is_whole : mg "is_whole" = some (.ref (He.ga K "is_whole"))
  d_is_whole : FnP K "is_whole" s_is_whole
  g_is_tuple_of : mg "is_tuple_of" = some (.ref (He.ga K "is_tuple_of"))
  d_is_tuple_of : FnP K "is_tuple_of" s_is_tuple_of
  g_is_turn : mg "is_turn" = some (.ref (He.ga K "is_turn"))
  d_is_turn : FnP K "is_turn" s_is_turn
  g_is_cord : mg "is_cord" = some (.ref (He.ga K "is_cord"))
  d_is_cord : FnP K "is_cord" s_is_cord
  g_need_cord : mg "need_cord" = some (.ref (He.ga K "need_cord"))
  d_need_cord : FnP K "need_cord" s_need_cord
  g_are_opposite : mg "are_opposite" = some (.ref (He.ga K "are_opposite"))
  d_are_opposite : FnP K "are_opposite" s_are_opposite
  g_back_of : mg "back_of" = some (.ref (He.ga K "back_of"))
  d_back_of : FnP K "back_of" s_back_of
  g_reduced_row : mg "reduced_row" = some (.ref (He.ga K "reduced_row"))
  d_reduced_row : FnP K "reduced_row" s_reduced_row
  g_core_of : mg "core_of" = some (.ref (He.ga K "core_of"))
  d_core_of : FnP K "core_of" s_core_of
  g_turned_rows : mg "turned_rows" = some (.ref (He.ga K "turned_rows"))
  d_turned_rows : FnP K "turned_rows" s_turned_rows
  g_round_of : mg "round_of" = some (.ref (He.ga K "round_of"))
  d_round_of : FnP K "round_of" s_round_of
  g_reduced_round : mg "reduced_round" = some (.ref (He.ga K "reduced_round"))
  d_reduced_round : FnP K "reduced_round" s_reduced_round
  d_are_turnings : FnP K "are_turnings" s_are_turnings
  d_turning_of : FnP K "turning_of" s_turning_of
  g_is_turning : mg "is_turning" = some (.ref (He.ga K "is_turning"))
  d_is_turning : FnP K "is_turning" s_is_turning
  g__law_cup : mg "_law_cup" = some (.ref (He.ga K "_law_cup"))
  d__law_cup : FnP K "_law_cup" s__law_cup
  g__law_roll : mg "_law_roll" = some (.ref (He.ga K "_law_roll"))
  d__law_roll : FnP K "_law_roll" s__law_roll
  g__law_some : mg "_law_some" = some (.ref (He.ga K "_law_some"))
  d__law_some : FnP K "_law_some" s__law_some
  g__law_sort : mg "_law_sort" = some (.ref (He.ga K "_law_sort"))
  d__law_sort : FnP K "_law_sort" s__law_sort
  g__law_like : mg "_law_like" = some (.ref (He.ga K "_law_like"))
  d__law_like : FnP K "_law_like" s__law_like
  g__law_cord : mg "_law_cord" = some (.ref (He.ga K "_law_cord"))
  d__law_cord : FnP K "_law_cord" s__law_cord
  g__law_reduced : mg "_law_reduced" = some (.ref (He.ga K "_law_reduced"))
  d__law_reduced : FnP K "_law_reduced" s__law_reduced
  g__law_back : mg "_law_back" = some (.ref (He.ga K "_law_back"))
  d__law_back : FnP K "_law_back" s__law_back
  g__law_fails : mg "_law_fails" = some (.ref (He.ga K "_law_fails"))
  d__law_fails : FnP K "_law_fails" s__law_fails
  g_TautError : mg "TautError" = some (.ref (He.ga K "TautError"))
  g__law_round : mg "_law_round" = some (.ref (He.ga K "_law_round"))
  d__law_round : FnP K "_law_round" s__law_round
  g__law_is_turns : mg "_law_is_turns" = some (.ref (He.ga K "_law_is_turns"))
  d__law_is_turns : FnP K "_law_is_turns" s__law_is_turns
  g__law_is_turning : mg "_law_is_turning" = some (.ref (He.ga K "_law_is_turning"))
  d__law_is_turning : FnP K "_law_is_turning" s__law_is_turning
  g__law_right : mg "_law_right" = some (.ref (He.ga K "_law_right"))
  d__law_right : FnP K "_law_right" s__law_right
  g__law_great : mg "_law_great" = some (.ref (He.ga K "_law_great"))
  d__law_great : FnP K "_law_great" s__law_great
  g__law_errors : mg "_law_errors" = some (.ref (He.ga K "_law_errors"))
  d__law_errors : FnP K "_law_errors" s__law_errors
  g_law : mg "law" = some (.ref (He.ga K "law"))
  d_law : FnP K "law" s_law
  x_InvalidCord : PySem.W.exmOne K (.ref (He.ga K "InvalidCord")) (.ref (He.ga K "TautError")) = some true
  i_InvalidCord : ExcC K (He.ga K "InvalidCord")
  k_InvalidCord_CC_InvalidCord : PySem.W.kitOne K (.ref (He.ga K "InvalidCord")) (.ref (He.ga K "InvalidCord")) = some true
/-! ### meanings -/
variable (T0 : List (Addr × Str))
/-- isinstance(e, C), e of the class cl -/
def isb (cl : Str) : Str → Option Bool := fun c => if cl = "InvalidCord" then (if c = "InvalidCord" then some true else none) else none
def wd (c : Str) : Option Str := if c = "InvalidCord" then some "cord" else none
abbrev S_is_whole : Sx := ⟨fun i => false, fun i => false, []⟩
abbrev S_is_tuple_of : Sx := ⟨fun i => false, fun i => false, []⟩
abbrev S_is_turn : Sx := ⟨fun i => false, fun i => false, []⟩
abbrev S_is_cord : Sx := ⟨fun i => false, fun i => false, []⟩
abbrev S_need_cord : Sx := ⟨fun i => false, fun i => false, []⟩
abbrev S_are_opposite : Sx := ⟨fun i => false, fun i => false, []⟩
abbrev S_back_of : Sx := ⟨fun i => false, fun i => false, []⟩
abbrev S_reduced_row : Sx := ⟨fun i => i == 1, fun i => false, []⟩
abbrev S_core_of : Sx := ⟨fun i => false, fun i => false, []⟩
abbrev S_turned_rows : Sx := ⟨fun i => false, fun i => false, []⟩
abbrev S_round_of : Sx := ⟨fun i => false, fun i => false, []⟩
abbrev S_reduced_round : Sx := ⟨fun i => false, fun i => false, []⟩
abbrev S_are_turnings : Sx := ⟨fun i => false, fun i => false, []⟩
abbrev S_turning_of : Sx := ⟨fun i => false, fun i => false, []⟩
abbrev S_is_turning : Sx := ⟨fun i => false, fun i => false, []⟩
abbrev S__law_cup : Sx := ⟨fun i => false, fun i => false, []⟩
abbrev S__law_roll : Sx := ⟨fun i => i == 0, fun i => i == 0, []⟩
abbrev S__law_some : Sx := ⟨fun i => i == 0, fun i => i == 0, []⟩
abbrev S__law_sort : Sx := ⟨fun i => false, fun i => false, []⟩
abbrev S__law_like : Sx := ⟨fun i => false, fun i => false, []⟩
abbrev S__law_cord : Sx := ⟨fun i => i == 0, fun i => i == 0, []⟩
abbrev S__law_reduced : Sx := ⟨fun i => false, fun i => false, []⟩
abbrev S__law_back : Sx := ⟨fun i => false, fun i => false, []⟩
abbrev S__law_fails : Sx := ⟨fun i => i == 2, fun i => false, []⟩
abbrev S__law_round : Sx := ⟨fun i => false, fun i => false, []⟩
abbrev S__law_is_turns : Sx := ⟨fun i => false, fun i => false, []⟩
abbrev S__law_is_turning : Sx := ⟨fun i => false, fun i => false, []⟩
abbrev S__law_right : Sx := ⟨fun i => i == 0 || i == 6, fun i => i == 0, []⟩
abbrev S__law_great : Sx := ⟨fun i => i == 0, fun i => i == 0, []⟩
abbrev S__law_errors : Sx := ⟨fun i => i == 0 || i == 2, fun i => i == 0, T0⟩
abbrev S_law : Sx := ⟨fun i => i == 1, fun i => false, T0⟩
def m_is_whole : DS := sRet (vAn (vUn (gIsa "int") (eVar 0)) (vAn (vNo (vUn (gIsa "bool") (eVar 0))) (vChain gLe gLe (eVar 1) (eVar 0) (eVar 2))))
def f_is_whole : FnS := ⟨3, none, false, bodyM 3 none false m_is_whole⟩
def m_is_tuple_of : DS := sRet (vAn (vUn (gIsa "tuple") (eVar 0)) (vChain gLe gLe (eVar 1) (vCall gLen (aCons (eVar 0) (aNil))) (eVar 2)))
def f_is_tuple_of : FnS := ⟨3, none, false, bodyM 3 none false m_is_tuple_of⟩
def m_is_turn : DS := sSeq (sIf (tOrr (tNo (tTru (eCall f_is_tuple_of (chkN f_is_tuple_of.np (aCons (eVar 0) (aCons (eC (.int 2)) (aCons (eC (.int 2)) (aNil)))))))) (tNo (tTru (eCall f_is_whole (chkN f_is_whole.np (aCons (vBin gIx (eVar 0) (eC (.int 0))) (aCons (eC (.int 0)) (aCons (vBin gSub (eC (.int (8))) (eC (.int 1))) (aNil))))))))) (sRet (eC (.bool false))) (sNext)) (sRet (vAn (eCall f_is_whole (chkN f_is_whole.np (aCons (vBin gIx (eVar 0) (eC (.int 1))) (aCons (vUn gNeg (eC (.int 1))) (aCons (eC (.int 1)) (aNil)))))) (vBin gNe (vBin gIx (eVar 0) (eC (.int 1))) (eC (.int 0)))))
def f_is_turn : FnS := ⟨1, none, false, bodyM 1 none false m_is_turn⟩
def m_is_cord : DS := sRet (vAn (eCall f_is_tuple_of (chkN f_is_tuple_of.np (aCons (eVar 0) (aCons (eC (.int 0)) (aCons (eC (.int (400))) (aNil)))))) (vCall gAll (aCons (vOf (oComp (iSeq (eVar 0)) [1] (bName 1) (tYesD) (eCall f_is_turn (chkN f_is_turn.np (aCons (eVar 1) (aNil)))))) (aNil))))
def f_is_cord : FnS := ⟨1, none, false, bodyM 2 none false m_is_cord⟩
def m_need_cord : DS := sIf (tNo (tTru (eCall f_is_cord (chkN f_is_cord.np (aCons (eVar 0) (aNil)))))) (sRaise "InvalidCord") (sNext)
def f_need_cord : FnS := ⟨1, none, false, bodyM 1 none false m_need_cord⟩
def m_are_opposite : DS := sRet (vAn (vBin gEq (vBin gIx (eVar 0) (eC (.int 0))) (vBin gIx (eVar 1) (eC (.int 0)))) (vBin gEq (vBin gIx (eVar 0) (eC (.int 1))) (vUn gNeg (vBin gIx (eVar 1) (eC (.int 1))))))
def f_are_opposite : FnS := ⟨2, none, false, bodyM 2 none false m_are_opposite⟩
def m_back_of : DS := sRet (vCall gTuple (aCons (vOf (oComp (iSeq (vUn gRev (eVar 0))) [1, 2] (bTup 2 (bCons (bName 1) (bCons (bName 2) (bNil)))) (tYesD) (eTup (aCons (eVar 1) (aCons (vUn gNeg (eVar 2)) (aNil)))))) (aNil)))
def f_back_of : FnS := ⟨1, none, false, bodyM 3 none false m_back_of⟩
def m_reduced_row : DS := sSeq (sSetO 1 (oLst (aNil))) (sSeq (sFor (iSeq (eVar 0)) (bName 2) (sIf (tAn (tOf (vBin gNe (eOwn 1) (vOf (oLst (aNil))))) (tTru (eCall f_are_opposite (chkN f_are_opposite.np (aCons (vBin gIx (eOwn 1) (vUn gNeg (eC (.int 1)))) (aCons (eVar 2) (aNil))))))) (sPop 1) (sApp 1 (eVar 2)))) (sRet (vCall gTuple (aCons (eOwn 1) (aNil)))))
def f_reduced_row : FnS := ⟨1, none, false, bodyM 3 none false m_reduced_row⟩
def m_core_of : DS := sSeq (sSet 1 (eC (.int 0))) (sSeq (sWhile 1000 (tAn (tOf (vBin gGt (vBin gSub (vCall gLen (aCons (eVar 0) (aNil))) (vBin gMul (eC (.int 2)) (eVar 1))) (eC (.int 1)))) (tTru (eCall f_are_opposite (chkN f_are_opposite.np (aCons (vBin gIx (eVar 0) (eVar 1)) (aCons (vBin gIx (eVar 0) (vBin gSub (vBin gSub (vCall gLen (aCons (eVar 0) (aNil))) (eC (.int 1))) (eVar 1))) (aNil))))))) (sSet 1 (vBin gAdd (eVar 1) (eC (.int 1))))) (sRet (eTup (aCons (vSl (eVar 0) (pNone) (pSome (eVar 1))) (aCons (vSl (eVar 0) (pSome (eVar 1)) (pSome (vBin gSub (vCall gLen (aCons (eVar 0) (aNil))) (eVar 1)))) (aNil))))))
def f_core_of : FnS := ⟨1, none, false, bodyM 2 none false m_core_of⟩
def m_turned_rows : DS := sRet (vOf (oComp (iRng1 (aCons (vCall gMax (aCons (vCall gLen (aCons (eVar 0) (aNil))) (aCons (eC (.int 1)) (aNil)))) (aNil))) [1] (bName 1) (tYesD) (vBin gAdd (vSl (eVar 0) (pSome (eVar 1)) (pNone)) (vSl (eVar 0) (pNone) (pSome (eVar 1))))))
def f_turned_rows : FnS := ⟨1, none, false, bodyM 2 none false m_turned_rows⟩
def m_round_of : DS := sRet (vCall gMin (aCons (eCall f_turned_rows (chkN f_turned_rows.np (aCons (vBin gIx (eCall f_core_of (chkN f_core_of.np (aCons (eCall f_reduced_row (chkN f_reduced_row.np (aCons (eVar 0) (aNil)))) (aNil)))) (eC (.int 1))) (aNil)))) (aNil)))
def f_round_of : FnS := ⟨1, none, false, bodyM 1 none false m_round_of⟩
def m_reduced_round : DS := sSeq (sDrop (eCall f_need_cord (chkN f_need_cord.np (aCons (eVar 0) (aNil))))) (sRet (eCall f_round_of (chkN f_round_of.np (aCons (eVar 0) (aNil)))))
def f_reduced_round : FnS := ⟨1, none, false, bodyM 1 none false m_reduced_round⟩
def m_are_turnings : DS := sSeq (sDrop (eCall f_need_cord (chkN f_need_cord.np (aCons (eVar 0) (aNil))))) (sSeq (sDrop (eCall f_need_cord (chkN f_need_cord.np (aCons (eVar 1) (aNil))))) (sRet (vBin gEq (eCall f_round_of (chkN f_round_of.np (aCons (eVar 0) (aNil)))) (eCall f_round_of (chkN f_round_of.np (aCons (eVar 1) (aNil)))))))
def f_are_turnings : FnS := ⟨2, none, false, bodyM 2 none false m_are_turnings⟩
def m_turning_of : DS := sSeq (sDrop (eCall f_need_cord (chkN f_need_cord.np (aCons (eVar 0) (aNil))))) (sSeq (sDrop (eCall f_need_cord (chkN f_need_cord.np (aCons (eVar 1) (aNil))))) (sSeq (sUnp (bTup 2 (bCons (bTup 2 (bCons (bName 2) (bCons (bName 3) (bNil)))) (bCons (bTup 2 (bCons (bName 4) (bCons (bName 5) (bNil)))) (bNil)))) (eTup (aCons (eCall f_core_of (chkN f_core_of.np (aCons (eCall f_reduced_row (chkN f_reduced_row.np (aCons (eVar 0) (aNil)))) (aNil)))) (aCons (eCall f_core_of (chkN f_core_of.np (aCons (eCall f_reduced_row (chkN f_reduced_row.np (aCons (eVar 1) (aNil)))) (aNil)))) (aNil))))) (sSeq (sSet 6 (eCall f_turned_rows (chkN f_turned_rows.np (aCons (eVar 3) (aNil))))) (sSeq (sIf (tOf (vBin gNotIn (eVar 5) (eVar 6))) (sRet (eC .none)) (sNext)) (sRet (eCall f_reduced_row (chkN f_reduced_row.np (aCons (vBin gAdd (vBin gAdd (eVar 4) (eCall f_back_of (chkN f_back_of.np (aCons (vSl (eVar 3) (pNone) (pSome (eIdx (eVar 6) (eVar 5)))) (aNil))))) (eCall f_back_of (chkN f_back_of.np (aCons (eVar 2) (aNil))))) (aNil)))))))))
def f_turning_of : FnS := ⟨2, none, false, bodyM 7 none false m_turning_of⟩
def m_is_turning : DS := sSeq (sDrop (eCall f_need_cord (chkN f_need_cord.np (aCons (eVar 0) (aNil))))) (sSeq (sDrop (eCall f_need_cord (chkN f_need_cord.np (aCons (eVar 1) (aNil))))) (sRet (vAn (eCall f_is_cord (chkN f_is_cord.np (aCons (eVar 2) (aNil)))) (vBin gEq (eCall f_reduced_row (chkN f_reduced_row.np (aCons (vBin gAdd (vBin gAdd (eVar 2) (eVar 0)) (eCall f_back_of (chkN f_back_of.np (aCons (eVar 2) (aNil))))) (aNil)))) (eCall f_reduced_row (chkN f_reduced_row.np (aCons (eVar 1) (aNil))))))))
def f_is_turning : FnS := ⟨3, none, false, bodyM 3 none false m_is_turning⟩
def m__law_cup : DS := sSeq (sSet 1 (vCall gAbs (aCons (vBin gIx (vBin gAdd (vOf (oCall gList (aCons (eVar 0) (aNil)))) (vOf (oLst (aCons (eC (.int 0)) (aNil))))) (eC (.int 0))) (aNil)))) (sRetO (oLst (aCons (vIf (tOf (vBin gGe (eVar 1) (vBin gPow (eC (.int 10)) (eC (.int 18))))) (vBin gFdiv (eVar 1) (eC (.int 97))) (eC (.int 0))) (aCons (vBin gAdd (vBin gMod (vCall gInt (aCons (vBin gAdd (vBin gMul (eVar 1) (eC (.int 337))) (eC (.int 4801))) (aNil))) (eC (.int 2034129307))) (eC (.int 193))) (aNil)))))
def f__law_cup : FnS := ⟨1, none, true, bodyM 2 none true m__law_cup⟩
def m__law_roll : DS := sSeq (sIf (tOf (vBin gGt (vBin gIx (eOwn 0) (eC (.int 0))) (eC (.int 0)))) (sSeq (sSet 3 (vBin gMod (vCall gInt (aCons (vBin gIx (eOwn 0) (eC (.int 0))) (aNil))) (eVar 1))) (sSeq (sSetIx 0 (eC (.int 0)) (vBin gFdiv (vBin gIx (eOwn 0) (eC (.int 0))) (eVar 1))) (sRet (eVar 3)))) (sNext)) (sSeq (sSetIx 0 (eC (.int 1)) (vBin gMod (vCall gInt (aCons (vBin gAdd (vBin gMul (vBin gIx (eOwn 0) (eC (.int 1))) (eC (.int 30493))) (eC (.int 8513))) (aNil))) (eC (.int 2147483543)))) (sSeq (sSet 2 (vBin gMod (vCall gInt (aCons (vBin gMul (vBin gIx (eOwn 0) (eC (.int 1))) (vBin gAdd (vBin gIx (eOwn 0) (eC (.int 1))) (eC (.int 269)))) (aNil))) (eC (.int 2147483587)))) (sRet (vBin gMod (vCall gInt (aCons (vBin gFdiv (eVar 2) (eC (.int 857))) (aNil))) (eVar 1)))))
def f__law_roll : FnS := ⟨2, (some 0), false, bodyM 4 (some 0) false m__law_roll⟩
def m__law_some : DS := sRet (vBin gIx (eVar 1) (eCall f__law_roll (chkN f__law_roll.np (aCons (eOwn 0) (aCons (vCall gLen (aCons (eVar 1) (aNil))) (aNil))))))
def f__law_some : FnS := ⟨2, (some 0), false, bodyM 2 (some 0) false m__law_some⟩
def m__law_sort : DS := sSeq (sIf (tOrr (tOf (vBin gIs (eVar 0) (eC .none))) (tTru (vUn (gIsa "bool") (eVar 0)))) (sRet (vIf (tOf (vBin gIs (eVar 0) (eC .none))) (eC (.int 0)) (eC (.int 1)))) (sNext)) (sSeq (sIf (tOrr (tTru (vUn (gIsa "int") (eVar 0))) (tTru (vUn (gIsa "str") (eVar 0)))) (sRet (vIf (tTru (vUn (gIsa "int") (eVar 0))) (eC (.int 2)) (eC (.int 3)))) (sNext)) (sRet (vIf (tTru (vUn (gIsa "tuple") (eVar 0))) (eC (.int 4)) (vIf (tTru (vUn (gIsa "list") (eVar 0))) (eC (.int 5)) (eC (.int 6))))))
def f__law_sort : FnS := ⟨1, none, false, bodyM 1 none false m__law_sort⟩
def m__law_like (rc : FnS) : DS := sSeq (sSet 2 (eCall f__law_sort (chkN f__law_sort.np (aCons (eVar 1) (aNil))))) (sSeq (sIf (tOrr (tOf (vBin gNe (eCall f__law_sort (chkN f__law_sort.np (aCons (eVar 0) (aNil)))) (eVar 2))) (tOf (vBin gEq (eVar 2) (eC (.int 6))))) (sRet (eC (.bool false))) (sNext)) (sSeq (sIf (tOf (vBin gIn (eVar 2) (eTup (aCons (eC (.int 4)) (aCons (eC (.int 5)) (aNil)))))) (sRet (vAn (vBin gEq (vCall gLen (aCons (eVar 0) (aNil))) (vCall gLen (aCons (eVar 1) (aNil)))) (vBin gEq (vOf (oComp (iZip (aCons (eVar 0) (aCons (eVar 1) (aNil)))) [3, 4] (bTup 2 (bCons (bName 3) (bCons (bName 4) (bNil)))) (tNo (tTru (eCall rc (chkN rc.np (aCons (eVar 3) (aCons (eVar 4) (aNil))))))) (eC (.int 1)))) (vOf (oLst (aNil)))))) (sNext)) (sRet (vBin gEq (eVar 0) (eVar 1)))))
def f__law_like : Nat → FnS
  | 0 => ⟨2, none, false, fun _ => .stuck⟩
  | n + 1 => ⟨2, none, false, bodyM 5 none false (m__law_like (f__law_like n))⟩
def m__law_cord : DS := sSeq (sSet 3 (eTup (aNil))) (sSeq (sFor (iRng1 (aCons (eCall f__law_roll (chkN f__law_roll.np (aCons (eOwn 0) (aCons (vBin gAdd (eVar 2) (eC (.int 1))) (aNil))))) (aNil))) (bName 4) (sIf (tAn (tOf (vBin gNe (eVar 3) (eTup (aNil)))) (tOf (vBin gEq (eCall f__law_roll (chkN f__law_roll.np (aCons (eOwn 0) (aCons (eC (.int 3)) (aNil))))) (eC (.int 0))))) (sSet 3 (vBin gAdd (eVar 3) (eTup (aCons (eTup (aCons (vBin gIx (vBin gIx (eVar 3) (vUn gNeg (eC (.int 1)))) (eC (.int 0))) (aCons (vUn gNeg (vBin gIx (vBin gIx (eVar 3) (vUn gNeg (eC (.int 1)))) (eC (.int 1)))) (aNil)))) (aNil))))) (sSet 3 (vBin gAdd (eVar 3) (eTup (aCons (eTup (aCons (eCall f__law_some (chkN f__law_some.np (aCons (eOwn 0) (aCons (eVar 1) (aNil))))) (aCons (vBin gSub (eC (.int 1)) (vBin gMul (eC (.int 2)) (eCall f__law_roll (chkN f__law_roll.np (aCons (eOwn 0) (aCons (eC (.int 2)) (aNil))))))) (aNil)))) (aNil))))))) (sRet (eVar 3)))
def f__law_cord : FnS := ⟨3, (some 0), false, bodyM 5 (some 0) false m__law_cord⟩
def m__law_reduced : DS := sSeq (sSet 1 (eTup (aNil))) (sSeq (sFor (iSeq (eVar 0)) (bTup 2 (bCons (bName 2) (bCons (bName 3) (bNil)))) (sIf (tAn (tOf (vBin gNe (eVar 1) (eTup (aNil)))) (tOf (vBin gEq (vBin gIx (eVar 1) (vUn gNeg (eC (.int 1)))) (eTup (aCons (eVar 2) (aCons (vUn gNeg (eVar 3)) (aNil))))))) (sSet 1 (vSl (eVar 1) (pNone) (pSome (vUn gNeg (eC (.int 1)))))) (sSet 1 (vBin gAdd (eVar 1) (eTup (aCons (eTup (aCons (eVar 2) (aCons (eVar 3) (aNil)))) (aNil))))))) (sRet (eVar 1)))
def f__law_reduced : FnS := ⟨1, none, false, bodyM 4 none false m__law_reduced⟩
def m__law_back : DS := sRet (vCall gTuple (aCons (vOf (oComp (iSeq (vUn gRev (eVar 0))) [1, 2] (bTup 2 (bCons (bName 1) (bCons (bName 2) (bNil)))) (tYesD) (eTup (aCons (eVar 1) (aCons (vUn gNeg (eVar 2)) (aNil)))))) (aNil)))
def f__law_back : FnS := ⟨1, none, false, bodyM 3 none false m__law_back⟩
def ms__law_fails (ad : Addr) (cl : Str) : DS := sSeq (sSetO 2 (oLst (aNil))) (sSeq (sApp 2 (eTup (aCons (eC (.str "cord")) (aCons (vCall (gIsE ad (isb cl)) (aCons (eVar 1) (aCons (eC (fnD "InvalidCord")) aNil))) (aNil))))) (sSeq (sSet 3 (vOf (oComp (iLst (eOwn 2)) [4, 5] (bTup 2 (bCons (bName 4) (bCons (bName 5) (bNil)))) (tTru (eVar 5)) (eVar 4)))) (sRet (vIf (tOf (vBin gNe (eVar 3) (vOf (oLst (aNil))))) (eJoin (eC (.str " ")) (eVar 3)) (eC (.str "other"))))))
def m__law_round : DS := sSeq (sSet 1 (eCall f__law_reduced (chkN f__law_reduced.np (aCons (eVar 0) (aNil))))) (sSeq (sFor (iRng1 (aCons (vCall gLen (aCons (eVar 1) (aNil))) (aNil))) (bName 2) (sIf (tAn (tOf (vBin gGt (vCall gLen (aCons (eVar 1) (aNil))) (eC (.int 1)))) (tOf (vBin gEq (vBin gIx (eVar 1) (eC (.int 0))) (eTup (aCons (vBin gIx (vBin gIx (eVar 1) (vUn gNeg (eC (.int 1)))) (eC (.int 0))) (aCons (vUn gNeg (vBin gIx (vBin gIx (eVar 1) (vUn gNeg (eC (.int 1)))) (eC (.int 1)))) (aNil))))))) (sSet 1 (vSl (eVar 1) (pSome (eC (.int 1))) (pSome (vUn gNeg (eC (.int 1)))))) (sNext))) (sRet (vIf (tOf (vBin gNe (eVar 1) (eTup (aNil)))) (vCall gMin (aCons (vOf (oComp (iRng1 (aCons (vCall gLen (aCons (eVar 1) (aNil))) (aNil))) [3] (bName 3) (tYesD) (vBin gAdd (vSl (eVar 1) (pSome (eVar 3)) (pNone)) (vSl (eVar 1) (pNone) (pSome (eVar 3)))))) (aNil))) (eTup (aNil)))))
def f__law_round : FnS := ⟨1, none, false, bodyM 4 none false m__law_round⟩
def m__law_is_turns : DS := sSeq (sIf (tOrr (tNo (tTru (vUn (gIsa "tuple") (eVar 0)))) (tOf (vBin gGt (vCall gLen (aCons (eVar 0) (aNil))) (eC (.int 400))))) (sRet (eC (.bool false))) (sNext)) (sSeq (sFor (iSeq (eVar 0)) (bName 1) (sSeq (sIf (tOrr (tNo (tTru (vUn (gIsa "tuple") (eVar 1)))) (tOrr (tOf (vBin gNe (vCall gLen (aCons (eVar 1) (aNil))) (eC (.int 2)))) (tOrr (tOf (vBin gNe (eCall f__law_sort (chkN f__law_sort.np (aCons (vBin gIx (eVar 1) (eC (.int 0))) (aNil)))) (eC (.int 2)))) (tOf (vBin gNe (eCall f__law_sort (chkN f__law_sort.np (aCons (vBin gIx (eVar 1) (eC (.int 1))) (aNil)))) (eC (.int 2))))))) (sRet (eC (.bool false))) (sNext)) (sIf (tOrr (tNo (tOf (vChain gLe gLe (eC (.int 0)) (vBin gIx (eVar 1) (eC (.int 0))) (eC (.int 7))))) (tOf (vBin gNotIn (vBin gIx (eVar 1) (eC (.int 1))) (eTup (aCons (eC (.int 1)) (aCons (vUn gNeg (eC (.int 1))) (aNil))))))) (sRet (eC (.bool false))) (sNext)))) (sRet (eC (.bool true))))
def f__law_is_turns : FnS := ⟨1, none, false, bodyM 2 none false m__law_is_turns⟩
def m__law_is_turning : DS := sRet (vAn (eCall f__law_is_turns (chkN f__law_is_turns.np (aCons (eVar 2) (aNil)))) (vBin gEq (eCall f__law_reduced (chkN f__law_reduced.np (aCons (vBin gAdd (vBin gAdd (eVar 2) (eVar 0)) (eCall f__law_back (chkN f__law_back.np (aCons (eVar 2) (aNil))))) (aNil)))) (eCall f__law_reduced (chkN f__law_reduced.np (aCons (eVar 1) (aNil))))))
def f__law_is_turning : FnS := ⟨3, none, false, bodyM 3 none false m__law_is_turning⟩
def m__law_right : DS := sSeq (sSet 3 (vBin gEq (eCall f__law_round (chkN f__law_round.np (aCons (eVar 1) (aNil)))) (eCall f__law_round (chkN f__law_round.np (aCons (eVar 2) (aNil)))))) (sSeq (sIf (tNo (tTru (eCall (f__law_like 8) (chkN (f__law_like 8).np (aCons (vOf (oLst (aCons (eCall f_reduced_round (chkN f_reduced_round.np (aCons (eVar 1) (aNil)))) (aCons (eCall f_are_turnings (chkN f_are_turnings.np (aCons (eVar 1) (aCons (eVar 2) (aNil))))) (aNil))))) (aCons (vOf (oLst (aCons (eCall f__law_round (chkN f__law_round.np (aCons (eVar 1) (aNil)))) (aCons (eVar 3) (aNil))))) (aNil))))))) (sRet (eC (.bool false))) (sNext)) (sSeq (sSet 4 (eCall f_turning_of (chkN f_turning_of.np (aCons (eVar 1) (aCons (eVar 2) (aNil)))))) (sSeq (sIf (tOrr (tOf (vBin gNe (vBin gIsNot (eVar 4) (eC .none)) (eVar 3))) (tAn (tOf (vBin gIsNot (eVar 4) (eC .none))) (tNo (tTru (eCall f__law_is_turning (chkN f__law_is_turning.np (aCons (eVar 1) (aCons (eVar 2) (aCons (eVar 4) (aNil)))))))))) (sRet (eC (.bool false))) (sNext)) (sSeq (sSet 5 (vIf (tAn (tOf (vBin gIsNot (eVar 4) (eC .none))) (tOf (vBin gLt (vCall gLen (aCons (eVar 4) (aNil))) (eC (.int 399))))) (eVar 4) (eCall f__law_cord (chkN f__law_cord.np (aCons (eOwn 0) (aCons (vOf (oLst (aCons (eC (.int 0)) (aCons (eC (.int 1)) (aCons (eC (.int 2)) (aNil)))))) (aCons (eC (.int 5)) (aNil)))))))) (sSeq (sSetO 6 (oLst (aCons (eVar 4) (aCons (eVar 5) (aCons (eTup (aNil)) (aCons (eC .none) (aCons (vOf (oCall gList (aCons (eVar 5) (aNil)))) (aCons (vSl (eVar 5) (pSome (eC (.int 1))) (pNone)) (aCons (vUn gRev (eVar 5)) (aCons (eCall f__law_back (chkN f__law_back.np (aCons (eVar 5) (aNil)))) (aCons (vBin gAdd (eVar 5) (eTup (aCons (eTup (aCons (eC (.int 0)) (aCons (eC (.int 1)) (aNil)))) (aCons (eTup (aCons (eC (.int 0)) (aCons (vUn gNeg (eC (.int 1))) (aNil)))) (aNil))))) (aNil)))))))))))) (sSeq (sApp 6 (vBin gAdd (eTup (aCons (eTup (aCons (eC (.int 0)) (aCons (eC (.int 1)) (aNil)))) (aNil))) (eVar 5))) (sSeq (sFor (iSeq (vBin gAdd (eOwn 6) (vOf (oLst (aCons (eTup (aCons (eTup (aCons (eC (.bool true)) (aCons (eC (.int 1)) (aNil)))) (aNil))) (aCons (eTup (aCons (eTup (aCons (eC (.int 0)) (aCons (eC (.int 2)) (aNil)))) (aNil))) (aCons (eC (.int 0)) (aCons (eCall f__law_cord (chkN f__law_cord.np (aCons (eOwn 0) (aCons (vOf (oLst (aCons (eC (.int 0)) (aCons (eC (.int 1)) (aNil))))) (aCons (eC (.int 3)) (aNil)))))) (aCons (vBin gMul (eTup (aCons (eTup (aCons (eC (.int 0)) (aCons (eC (.int 1)) (aNil)))) (aNil))) (eC (.int 401))) (aNil)))))))))) (bName 7) (sIf (tNo (tTru (eCall (f__law_like 8) (chkN (f__law_like 8).np (aCons (eCall f_is_turning (chkN f_is_turning.np (aCons (eVar 1) (aCons (eVar 2) (aCons (eVar 7) (aNil)))))) (aCons (eCall f__law_is_turning (chkN f__law_is_turning.np (aCons (eVar 1) (aCons (eVar 2) (aCons (eVar 7) (aNil)))))) (aNil))))))) (sRet (eC (.bool false))) (sNext))) (sRet (eC (.bool true))))))))))
def f__law_right : FnS := ⟨3, (some 0), false, bodyM 8 (some 0) false m__law_right⟩
def m__law_great : DS := sSeq (sPar [1, 2] [.v (vBin gAdd (eC (.int 1)) (eCall f__law_roll (chkN f__law_roll.np (aCons (eOwn 0) (aCons (eC (.int 398)) (aNil)))))), .v (vBin gAdd (eC (.int 1)) (eCall f__law_roll (chkN f__law_roll.np (aCons (eOwn 0) (aCons (eC (.int 199)) (aNil))))))]) (sSeq (sSet 3 (vBin gAdd (vCall gTuple (aCons (vOf (oComp (iRng1 (aCons (eC (.int 399)) (aNil))) [7] (bName 7) (tYesD) (eTup (aCons (vBin gMod (vCall gInt (aCons (eVar 7) (aNil))) (eC (.int 7))) (aCons (eC (.int 1)) (aNil)))))) (aNil))) (eTup (aCons (eTup (aCons (eC (.int 7)) (aCons (eC (.int 1)) (aNil)))) (aNil))))) (sSeq (sSet 4 (vBin gAdd (vSl (eVar 3) (pSome (eVar 1)) (pNone)) (vSl (eVar 3) (pNone) (pSome (eVar 1))))) (sSeq (sIf (tOrr (tOf (vBin gIsNot (eCall f_are_turnings (chkN f_are_turnings.np (aCons (eVar 3) (aCons (eVar 4) (aNil))))) (eC (.bool true)))) (tNo (tTru (eCall f__law_is_turning (chkN f__law_is_turning.np (aCons (eVar 3) (aCons (eVar 4) (aCons (eCall f_turning_of (chkN f_turning_of.np (aCons (eVar 3) (aCons (eVar 4) (aNil))))) (aNil))))))))) (sRet (eC (.bool false))) (sNext)) (sSeq (sIf (tOrr (tOf (vBin gNe (eCall f_reduced_round (chkN f_reduced_round.np (aCons (eVar 4) (aNil)))) (eVar 3))) (tOf (vBin gIsNot (eCall f_are_turnings (chkN f_are_turnings.np (aCons (eVar 3) (aCons (vUn gRev (eVar 3)) (aNil))))) (eC (.bool false))))) (sRet (eC (.bool false))) (sNext)) (sSeq (sIf (tOf (vBin gIsNot (eCall f_is_turning (chkN f_is_turning.np (aCons (eVar 3) (aCons (eVar 4) (aCons (eCall f__law_back (chkN f__law_back.np (aCons (vSl (eVar 3) (pNone) (pSome (eVar 1))) (aNil)))) (aNil)))))) (eC (.bool true)))) (sRet (eC (.bool false))) (sNext)) (sSeq (sSet 5 (vBin gMul (eTup (aCons (eTup (aCons (eC (.int 0)) (aCons (eC (.int 1)) (aNil)))) (aCons (eTup (aCons (eC (.int 1)) (aCons (eC (.int 1)) (aNil)))) (aNil)))) (eC (.int 100)))) (sSeq (sSet 6 (vBin gAdd (vBin gAdd (vSl (eVar 5) (pNone) (pSome (eVar 2))) (eTup (aCons (eTup (aCons (eC (.int 5)) (aCons (eC (.int 1)) (aNil)))) (aNil)))) (eCall f__law_back (chkN f__law_back.np (aCons (vSl (eVar 5) (pNone) (pSome (eVar 2))) (aNil)))))) (sSeq (sIf (tOrr (tOf (vBin gNe (eCall f_reduced_round (chkN f_reduced_round.np (aCons (eVar 6) (aNil)))) (eTup (aCons (eTup (aCons (eC (.int 5)) (aCons (eC (.int 1)) (aNil)))) (aNil))))) (tNo (tTru (eCall f__law_is_turning (chkN f__law_is_turning.np (aCons (eVar 6) (aCons (eTup (aCons (eTup (aCons (eC (.int 5)) (aCons (eC (.int 1)) (aNil)))) (aNil))) (aCons (eCall f_turning_of (chkN f_turning_of.np (aCons (eVar 6) (aCons (eTup (aCons (eTup (aCons (eC (.int 5)) (aCons (eC (.int 1)) (aNil)))) (aNil))) (aNil))))) (aNil))))))))) (sRet (eC (.bool false))) (sNext)) (sRet (vAn (vBin gIs (eCall f_are_turnings (chkN f_are_turnings.np (aCons (eVar 6) (aCons (eTup (aCons (eTup (aCons (eC (.int 5)) (aCons (vUn gNeg (eC (.int 1))) (aNil)))) (aNil))) (aNil))))) (eC (.bool false))) (vBin gIs (eCall f_is_turning (chkN f_is_turning.np (aCons (eTup (aCons (eTup (aCons (eC (.int 5)) (aCons (eC (.int 1)) (aNil)))) (aNil))) (aCons (eVar 6) (aCons (vSl (eVar 5) (pNone) (pSome (eVar 2))) (aNil)))))) (eC (.bool true)))))))))))))
def f__law_great : FnS := ⟨1, (some 0), false, bodyM 8 (some 0) false m__law_great⟩
def tbl__law_errors (y : Str) : Option FnS := if y = "are_turnings" then some f_are_turnings else if y = "turning_of" then some f_turning_of else none
def m__law_errors : DS := sSeq (sPar [1, 2] [.v (eCall f__law_some (chkN f__law_some.np (aCons (eOwn 0) (aCons (vOf (oLst (aCons (vBin gMul (eTup (aCons (eTup (aCons (eC (.int 0)) (aCons (eC (.int 1)) (aNil)))) (aNil))) (eC (.int 401))) (aCons (eTup (aCons (eTup (aCons (eC (.int 8)) (aCons (eC (.int 1)) (aNil)))) (aNil))) (aCons (eTup (aCons (eTup (aCons (eC (.int 0)) (aCons (eC (.int 0)) (aNil)))) (aNil))) (aCons (eTup (aCons (eTup (aCons (eC (.bool true)) (aCons (eC (.int 1)) (aNil)))) (aNil))) (aCons (vOf (oLst (aCons (eTup (aCons (eC (.int 0)) (aCons (eC (.int 1)) (aNil)))) (aNil)))) (aCons (eC .none) (aNil))))))))) (aNil))))), .o (oLst (aNil))]) (sSeq (sApp 2 (eFails (S__law_errors []).own "" wd (eCall f_reduced_round (chkN f_reduced_round.np (aCons (eVar 1) (aNil)))))) (sSeq (sFor (iSeq (eTup (aCons (eC (fnD "are_turnings")) (aCons (eC (fnD "turning_of")) (aNil))))) (bName 3) (sSetO 2 (oBin gCat (eOwn 2) (vOf (oComp (iSeq (eTup (aCons (eTup (aCons (eVar 1) (aCons (eTup (aNil)) (aNil)))) (aCons (eTup (aCons (eTup (aNil)) (aCons (eVar 1) (aNil)))) (aCons (eTup (aCons (eVar 1) (aCons (eC .none) (aNil)))) (aNil)))))) [4, 5] (bTup 2 (bCons (bName 4) (bCons (bName 5) (bNil)))) (tYesD) (eFails (S__law_errors []).own "" wd (eCallV 3 tbl__law_errors (aCons (eVar 4) (aCons (eVar 5) (aNil)))))))))) (sSeq (sSetO 2 (oBin gCat (eOwn 2) (vOf (oComp (iSeq (eTup (aCons (eTup (aCons (eVar 1) (aCons (eTup (aNil)) (aNil)))) (aCons (eTup (aCons (eTup (aNil)) (aCons (eVar 1) (aNil)))) (aNil))))) [4, 5] (bTup 2 (bCons (bName 4) (bCons (bName 5) (bNil)))) (tYesD) (eFails (S__law_errors []).own "" wd (eCall f_is_turning (chkN f_is_turning.np (aCons (eVar 4) (aCons (eVar 5) (aCons (eC .none) (aNil))))))))))) (sRet (vBin gEq (eOwn 2) (vOf (oRep 9 (oLst (aCons (eC (.str "cord")) (aNil))))))))))
def f__law_errors : FnS := ⟨1, (some 0), false, bodyM 6 (some 0) false m__law_errors⟩
def m_law : DS := sSeq (sSetO 1 (oCallF f__law_cup (chkN f__law_cup.np (aCons (eVar 0) (aNil))))) (sSeq (sFor (iRng1 (aCons (eC (.int 5)) (aNil))) (bName 2) (sSeq (sSet 5 (eCall f__law_some (chkN f__law_some.np (aCons (eOwn 1) (aCons (vOf (oLst (aCons (vOf (oLst (aCons (eC (.int 0)) (aCons (eC (.int 1)) (aNil))))) (aCons (vOf (oLst (aCons (eC (.int 0)) (aCons (eC (.int 3)) (aCons (eC (.int 7)) (aNil)))))) (aCons (vOf (oLst (aCons (eC (.int 5)) (aNil)))) (aNil)))))) (aNil)))))) (sSeq (sPar [6, 7] [.v (eCall f__law_cord (chkN f__law_cord.np (aCons (eOwn 1) (aCons (eVar 5) (aCons (eC (.int 12)) (aNil)))))), .v (eCall f__law_cord (chkN f__law_cord.np (aCons (eOwn 1) (aCons (eVar 5) (aCons (eC (.int 6)) (aNil))))))]) (sSeq (sSet 8 (eCall f__law_reduced (chkN f__law_reduced.np (aCons (eVar 6) (aNil))))) (sSeq (sSet 9 (eCall f__law_roll (chkN f__law_roll.np (aCons (eOwn 1) (aCons (vBin gAdd (vCall gLen (aCons (eVar 8) (aNil))) (eC (.int 1))) (aNil)))))) (sSeq (sSet 10 (vOf (oLst (aCons (eCall f__law_cord (chkN f__law_cord.np (aCons (eOwn 1) (aCons (eVar 5) (aCons (eC (.int 12)) (aNil)))))) (aCons (vBin gAdd (vBin gAdd (eVar 7) (eVar 6)) (eCall f__law_back (chkN f__law_back.np (aCons (eVar 7) (aNil))))) (aCons (vBin gAdd (vSl (eVar 8) (pSome (eVar 9)) (pNone)) (vSl (eVar 8) (pNone) (pSome (eVar 9)))) (aCons (eCall f__law_back (chkN f__law_back.np (aCons (eVar 6) (aNil)))) (aCons (vUn gRev (eVar 6)) (aNil))))))))) (sIf (tOrr (tNo (tTru (eCall f__law_right (chkN f__law_right.np (aCons (eOwn 1) (aCons (eVar 6) (aCons (eCall f__law_some (chkN f__law_some.np (aCons (eOwn 1) (aCons (eVar 10) (aNil))))) (aNil)))))))) (tNo (tTru (eCall f__law_right (chkN f__law_right.np (aCons (eOwn 1) (aCons (eVar 6) (aCons (vBin gAdd (vBin gAdd (vBin gAdd (eVar 7) (vSl (eVar 8) (pSome (eVar 9)) (pNone))) (vSl (eVar 8) (pNone) (pSome (eVar 9)))) (eCall f__law_back (chkN f__law_back.np (aCons (eVar 7) (aNil))))) (aNil))))))))) (sRet (eC (.bool false))) (sNext)))))))) (sSeq (sSet 3 (eTup (aCons (eTup (aCons (eC (.int 0)) (aCons (eC (.int 1)) (aNil)))) (aCons (eTup (aCons (eC (.int 1)) (aCons (eC (.int 1)) (aNil)))) (aCons (eTup (aCons (eC (.int 0)) (aCons (vUn gNeg (eC (.int 1))) (aNil)))) (aCons (eTup (aCons (eC (.int 1)) (aCons (vUn gNeg (eC (.int 1))) (aNil)))) (aNil))))))) (sSeq (sSet 4 (vOf (oLst (aCons (eCall f_reduced_round (chkN f_reduced_round.np (aCons (eTup (aCons (eTup (aCons (eC (.int 1)) (aCons (eC (.int 1)) (aNil)))) (aCons (eTup (aCons (eC (.int 0)) (aCons (eC (.int 1)) (aNil)))) (aCons (eTup (aCons (eC (.int 1)) (aCons (vUn gNeg (eC (.int 1))) (aNil)))) (aNil))))) (aNil)))) (aCons (eCall f_reduced_round (chkN f_reduced_round.np (aCons (eVar 3) (aNil)))) (aCons (eCall f_are_turnings (chkN f_are_turnings.np (aCons (eVar 3) (aCons (vBin gAdd (vSl (eVar 3) (pSome (eC (.int 1))) (pNone)) (vSl (eVar 3) (pNone) (pSome (eC (.int 1))))) (aNil))))) (aNil))))))) (sSeq (sSet 4 (vBin gAdd (eVar 4) (vOf (oLst (aCons (eCall f_are_turnings (chkN f_are_turnings.np (aCons (eVar 3) (aCons (eCall f__law_back (chkN f__law_back.np (aCons (eVar 3) (aNil)))) (aNil))))) (aCons (eCall f_is_turning (chkN f_is_turning.np (aCons (eVar 3) (aCons (vBin gAdd (vSl (eVar 3) (pSome (eC (.int 1))) (pNone)) (vSl (eVar 3) (pNone) (pSome (eC (.int 1))))) (aCons (eTup (aCons (eTup (aCons (eC (.int 0)) (aCons (vUn gNeg (eC (.int 1))) (aNil)))) (aNil))) (aNil)))))) (aCons (eCall f_reduced_round (chkN f_reduced_round.np (aCons (eTup (aNil)) (aNil)))) (aNil)))))))) (sSeq (sIf (tNo (tTru (eCall (f__law_like 8) (chkN (f__law_like 8).np (aCons (eVar 4) (aCons (vOf (oLst (aCons (eTup (aCons (eTup (aCons (eC (.int 0)) (aCons (eC (.int 1)) (aNil)))) (aNil))) (aCons (eTup (aCons (eTup (aCons (eC (.int 0)) (aCons (vUn gNeg (eC (.int 1))) (aNil)))) (aCons (eTup (aCons (eC (.int 1)) (aCons (vUn gNeg (eC (.int 1))) (aNil)))) (aCons (eTup (aCons (eC (.int 0)) (aCons (eC (.int 1)) (aNil)))) (aCons (eTup (aCons (eC (.int 1)) (aCons (eC (.int 1)) (aNil)))) (aNil)))))) (aCons (eC (.bool true)) (aCons (eC (.bool false)) (aCons (eC (.bool true)) (aCons (eTup (aNil)) (aNil))))))))) (aNil))))))) (sRet (eC (.bool false))) (sNext)) (sSeq (sIf (tOf (vBin gIsNot (eCall f_are_turnings (chkN f_are_turnings.np (aCons (eTup (aCons (eTup (aCons (eC (.int 0)) (aCons (eC (.int 1)) (aNil)))) (aCons (eTup (aCons (eC (.int 0)) (aCons (eC (.int 1)) (aNil)))) (aCons (eTup (aCons (eC (.int 1)) (aCons (eC (.int 1)) (aNil)))) (aCons (eTup (aCons (eC (.int 1)) (aCons (eC (.int 1)) (aNil)))) (aNil)))))) (aCons (vBin gMul (eTup (aCons (eTup (aCons (eC (.int 0)) (aCons (eC (.int 1)) (aNil)))) (aCons (eTup (aCons (eC (.int 1)) (aCons (eC (.int 1)) (aNil)))) (aNil)))) (eC (.int 2))) (aNil))))) (eC (.bool false)))) (sRet (eC (.bool false))) (sNext)) (sSeq (sIf (tNo (tTru (eCall f__law_right (chkN f__law_right.np (aCons (eOwn 1) (aCons (vBin gMul (eTup (aCons (eTup (aCons (eC (.int 0)) (aCons (eC (.int 1)) (aNil)))) (aCons (eTup (aCons (eC (.int 1)) (aCons (eC (.int 1)) (aNil)))) (aNil)))) (eC (.int 3))) (aCons (vBin gMul (eTup (aCons (eTup (aCons (eC (.int 1)) (aCons (eC (.int 1)) (aNil)))) (aCons (eTup (aCons (eC (.int 0)) (aCons (eC (.int 1)) (aNil)))) (aNil)))) (eC (.int 3))) (aNil)))))))) (sRet (eC (.bool false))) (sNext)) (sSeq (sIf (tOrr (tNo (tTru (eCall f__law_right (chkN f__law_right.np (aCons (eOwn 1) (aCons (eTup (aNil)) (aCons (eTup (aCons (eTup (aCons (eC (.int 0)) (aCons (eC (.int 1)) (aNil)))) (aCons (eTup (aCons (eC (.int 0)) (aCons (vUn gNeg (eC (.int 1))) (aNil)))) (aNil)))) (aNil)))))))) (tNo (tTru (eCall f__law_right (chkN f__law_right.np (aCons (eOwn 1) (aCons (eTup (aNil)) (aCons (eTup (aCons (eTup (aCons (eC (.int 0)) (aCons (eC (.int 1)) (aNil)))) (aNil))) (aNil))))))))) (sRet (eC (.bool false))) (sNext)) (sRet (vAn (eCall f__law_great (chkN f__law_great.np (aCons (eOwn 1) (aNil)))) (eCall f__law_errors (chkN f__law_errors.np (aCons (eOwn 1) (aNil))))))))))))))
def f_law : FnS := ⟨1, none, false, bodyM 11 none false m_law⟩
@[simp] theorem zio_is_whole : f_is_whole.io = none := id rfl
@[simp] theorem znp_is_whole : f_is_whole.np = 3 := id rfl
@[simp] theorem zio_is_tuple_of : f_is_tuple_of.io = none := id rfl
@[simp] theorem znp_is_tuple_of : f_is_tuple_of.np = 3 := id rfl
@[simp] theorem zio_is_turn : f_is_turn.io = none := id rfl
@[simp] theorem znp_is_turn : f_is_turn.np = 1 := id rfl
@[simp] theorem zio_is_cord : f_is_cord.io = none := id rfl
@[simp] theorem znp_is_cord : f_is_cord.np = 1 := id rfl
@[simp] theorem zio_need_cord : f_need_cord.io = none := id rfl
@[simp] theorem znp_need_cord : f_need_cord.np = 1 := id rfl
@[simp] theorem zio_are_opposite : f_are_opposite.io = none := id rfl
@[simp] theorem znp_are_opposite : f_are_opposite.np = 2 := id rfl
@[simp] theorem zio_back_of : f_back_of.io = none := id rfl
@[simp] theorem znp_back_of : f_back_of.np = 1 := id rfl
@[simp] theorem zio_reduced_row : f_reduced_row.io = none := id rfl
@[simp] theorem znp_reduced_row : f_reduced_row.np = 1 := id rfl
@[simp] theorem zio_core_of : f_core_of.io = none := id rfl
@[simp] theorem znp_core_of : f_core_of.np = 1 := id rfl
@[simp] theorem zio_turned_rows : f_turned_rows.io = none := id rfl
@[simp] theorem znp_turned_rows : f_turned_rows.np = 1 := id rfl
@[simp] theorem zio_round_of : f_round_of.io = none := id rfl
@[simp] theorem znp_round_of : f_round_of.np = 1 := id rfl
@[simp] theorem zio_reduced_round : f_reduced_round.io = none := id rfl
@[simp] theorem znp_reduced_round : f_reduced_round.np = 1 := id rfl
@[simp] theorem zio_are_turnings : f_are_turnings.io = none := id rfl
@[simp] theorem znp_are_turnings : f_are_turnings.np = 2 := id rfl
@[simp] theorem zio_turning_of : f_turning_of.io = none := id rfl
@[simp] theorem znp_turning_of : f_turning_of.np = 2 := id rfl
@[simp] theorem zio_is_turning : f_is_turning.io = none := id rfl
@[simp] theorem znp_is_turning : f_is_turning.np = 3 := id rfl
@[simp] theorem zio__law_cup : f__law_cup.io = none := id rfl
@[simp] theorem znp__law_cup : f__law_cup.np = 1 := id rfl
@[simp] theorem zio__law_roll : f__law_roll.io = some 0 := id rfl
@[simp] theorem znp__law_roll : f__law_roll.np = 2 := id rfl
@[simp] theorem zio__law_some : f__law_some.io = some 0 := id rfl
@[simp] theorem znp__law_some : f__law_some.np = 2 := id rfl
@[simp] theorem zio__law_sort : f__law_sort.io = none := id rfl
@[simp] theorem znp__law_sort : f__law_sort.np = 1 := id rfl
@[simp] theorem zio__law_like (n : Nat) : (f__law_like n).io = none := by cases n <;> rfl
@[simp] theorem znp__law_like (n : Nat) : (f__law_like n).np = 2 := by cases n <;> rfl
@[simp] theorem zio__law_cord : f__law_cord.io = some 0 := id rfl
@[simp] theorem znp__law_cord : f__law_cord.np = 3 := id rfl
@[simp] theorem zio__law_reduced : f__law_reduced.io = none := id rfl
@[simp] theorem znp__law_reduced : f__law_reduced.np = 1 := id rfl
@[simp] theorem zio__law_back : f__law_back.io = none := id rfl
@[simp] theorem znp__law_back : f__law_back.np = 1 := id rfl
@[simp] theorem zio__law_round : f__law_round.io = none := id rfl
@[simp] theorem znp__law_round : f__law_round.np = 1 := id rfl
@[simp] theorem zio__law_is_turns : f__law_is_turns.io = none := id rfl
@[simp] theorem znp__law_is_turns : f__law_is_turns.np = 1 := id rfl
@[simp] theorem zio__law_is_turning : f__law_is_turning.io = none := id rfl
@[simp] theorem znp__law_is_turning : f__law_is_turning.np = 3 := id rfl
@[simp] theorem zio__law_right : f__law_right.io = some 0 := id rfl
@[simp] theorem znp__law_right : f__law_right.np = 3 := id rfl
@[simp] theorem zio__law_great : f__law_great.io = some 0 := id rfl
@[simp] theorem znp__law_great : f__law_great.np = 1 := id rfl
@[simp] theorem zio__law_errors : f__law_errors.io = some 0 := id rfl
@[simp] theorem znp__law_errors : f__law_errors.np = 1 := id rfl
@[simp] theorem zio_law : f_law.io = none := id rfl
@[simp] theorem znp_law : f_law.np = 1 := id rfl
section
variable {P : Program} {w : World} {K : PySem.W.Frag} {mg : Str → Option Value} {base : Heap}
def T0of (K : PySem.W.Frag) : List (Addr × Str) := [((He.cT K ("_law_errors", none)).2, ("_law_errors" : Str) ++ ".<locals>." ++ "<lambda>")]
theorem hmT__law_errors (K : PySem.W.Frag) : ((He.cT K ("_law_errors", none)).2, ("_law_errors" : Str) ++ ".<locals>." ++ "<lambda>") ∈ T0of K := by unfold T0of; simp
theorem hu__law_errors (K : PySem.W.Frag) : ∀ p ∈ T0of K, p.1 = (He.cT K ("_law_errors", none)).2 → p.2 = ("_law_errors" : Str) ++ ".<locals>." ++ "<lambda>" := by intro p hp _; unfold T0of at hp; rw [List.mem_singleton] at hp; rw [hp]
abbrev TBs (K : PySem.W.Frag) (mg : Str → Option Value) (base : Heap) : Prop := ∀ x ∈ (["_law_errors"] : List Str), TabB base mg (He.codeOf K (x, none)) (He.cT K (x, none)).2
theorem D_is_whole (C : Facts K mg) : DefOk P w K mg base 1 "is_whole" [] f_is_whole := by
  have := def_ok (P := P) (w := w) (base := base) (k := 0) (m := m_is_whole) (io := none) (ro := false) (S := S_is_whole) C.g_is_whole C.d_is_whole sc_is_whole (by decide) (by simp only [S_is_whole]; decide) (by simp only [S_is_whole]; decide) (fun _ _ _ _ _ _ us hl => match us, hl with | [_, _, _], _ => rfl)
    (fun A outer s H E hr => by
      have tk := dX_takes (P := P) (w := w) (K := K) (mg := mg) (base := base) (N := N_is_whole) (x := "is_whole") (st := s_is_whole) (A := A) (outer := outer) (s := s) (H := H) (E := E)
      have hp := d_own (P := P) (w := w) (K := K) (mg := mg) (base := base) (N := N_is_whole) (x := "is_whole") (st := s_is_whole) (A := A) (outer := outer) (s := s) (H := H) (E := E)
      exact (ss_one (by exact sx_ret (by exact sd_and (by exact sd_isa "int" rfl C.b_isinstance rfl C.b_int boot_int (by exact sd_var 0)) (sd_and (by exact sd_not (by exact sd_isa "bool" rfl C.b_isinstance rfl C.b_bool boot_bool (by exact sd_var 0))) (sd_one (by exact sd_chain (op_gLe (room_hu hr)) (op_gLe (room_hu hr)) (by exact sd_var 1) (by exact sd_var 0) (by exact sd_var 2))))))))
  exact this
theorem D_is_tuple_of (C : Facts K mg) : DefOk P w K mg base 1 "is_tuple_of" [] f_is_tuple_of := by
  have := def_ok (P := P) (w := w) (base := base) (k := 0) (m := m_is_tuple_of) (io := none) (ro := false) (S := S_is_tuple_of) C.g_is_tuple_of C.d_is_tuple_of sc_is_tuple_of (by decide) (by simp only [S_is_tuple_of]; decide) (by simp only [S_is_tuple_of]; decide) (fun _ _ _ _ _ _ us hl => match us, hl with | [_, _, _], _ => rfl)
    (fun A outer s H E hr => by
      have tk := dX_takes (P := P) (w := w) (K := K) (mg := mg) (base := base) (N := N_is_tuple_of) (x := "is_tuple_of") (st := s_is_tuple_of) (A := A) (outer := outer) (s := s) (H := H) (E := E)
      have hp := d_own (P := P) (w := w) (K := K) (mg := mg) (base := base) (N := N_is_tuple_of) (x := "is_tuple_of") (st := s_is_tuple_of) (A := A) (outer := outer) (s := s) (H := H) (E := E)
      exact (ss_one (by exact sx_ret (by exact sd_and (by exact sd_isa "tuple" rfl C.b_isinstance rfl C.b_tuple boot_tuple (by exact sd_var 0)) (sd_one (by exact sd_chain (op_gLe (room_hu hr)) (op_gLe (room_hu hr)) (by exact sd_var 1) (by exact sd_callB call_gLen rfl C.b_len boot_len (by exact sa_cons (by exact sd_var 0) (sa_nil))) (by exact sd_var 2)))))))
  exact this
theorem D_is_turn (C : Facts K mg) : DefOk P w K mg base 2 "is_turn" [] f_is_turn := by
  have := def_ok (P := P) (w := w) (base := base) (k := 1) (m := m_is_turn) (io := none) (ro := false) (S := S_is_turn) C.g_is_turn C.d_is_turn sc_is_turn (by decide) (by simp only [S_is_turn]; decide) (by simp only [S_is_turn]; decide) (fun _ _ _ _ _ _ us hl => match us, hl with | [_], _ => rfl)
    (fun A outer s H E hr => by
      have tk := dX_takes (P := P) (w := w) (K := K) (mg := mg) (base := base) (N := N_is_turn) (x := "is_turn") (st := s_is_turn) (A := A) (outer := outer) (s := s) (H := H) (E := E)
      have hp := d_own (P := P) (w := w) (K := K) (mg := mg) (base := base) (N := N_is_turn) (x := "is_turn") (st := s_is_turn) (A := A) (outer := outer) (s := s) (H := H) (E := E)
      exact (ss_cons (by exact sx_if (by exact pt_bool (sw_or (by exact st_not (by exact st_tru (by exact sd_cal (D_is_tuple_of C) tk (hr.mono (by omega)) (.inl rfl) rfl (by exact sa_cons (by exact sd_var 0) (sa_cons (by exact sd_int) (sa_cons (by exact sd_int) (sa_nil))))))) (sw_or1 (by exact st_not (by exact st_tru (by exact sd_cal (D_is_whole C) tk (hr.mono (by omega)) (.inl rfl) rfl (by exact sa_cons (by exact sd_ix (by exact sd_var 0) (by exact sd_int)) (sa_cons (by exact sd_int) (sa_cons (by exact sd_bin op_gSub (by exact sd_glob rfl C.c_PEGS.choose_spec) (by exact sd_int)) (sa_nil)))))))))) (ss_one (by exact sx_ret (by exact sd_bool))) (ss_nil)) (ss_one (by exact sx_ret (by exact sd_and (by exact sd_cal (D_is_whole C) tk (hr.mono (by omega)) (.inl rfl) rfl (by exact sa_cons (by exact sd_ix (by exact sd_var 0) (by exact sd_int)) (sa_cons (by exact sd_un un_gNeg (by exact sd_int)) (sa_cons (by exact sd_int) (sa_nil))))) (sd_one (by exact sd_cmp (op_gNe (room_hu hr)) (by exact sd_ix (by exact sd_var 0) (by exact sd_int)) (by exact sd_int))))))))
  exact this
theorem D_is_cord (C : Facts K mg) : DefOk P w K mg base 3 "is_cord" [] f_is_cord := by
  have := def_ok (P := P) (w := w) (base := base) (k := 2) (m := m_is_cord) (io := none) (ro := false) (S := S_is_cord) C.g_is_cord C.d_is_cord sc_is_cord (by decide) (by simp only [S_is_cord]; decide) (by simp only [S_is_cord]; decide) (fun _ _ _ _ _ _ us hl => match us, hl with | [_], _ => rfl)
    (fun A outer s H E hr => by
      have tk := dX_takes (P := P) (w := w) (K := K) (mg := mg) (base := base) (N := N_is_cord) (x := "is_cord") (st := s_is_cord) (A := A) (outer := outer) (s := s) (H := H) (E := E)
      have hp := d_own (P := P) (w := w) (K := K) (mg := mg) (base := base) (N := N_is_cord) (x := "is_cord") (st := s_is_cord) (A := A) (outer := outer) (s := s) (H := H) (E := E)
      exact (ss_one (by exact sx_ret (by exact sd_and (by exact sd_cal (D_is_tuple_of C) tk (hr.mono (by omega)) (.inl rfl) rfl (by exact sa_cons (by exact sd_var 0) (sa_cons (by exact sd_int) (sa_cons (by exact sd_glob rfl C.c_TURNS.choose_spec) (sa_nil))))) (sd_one (by exact sd_callB (call_gAll rfl) rfl C.b_all boot_all (by exact sa_cons (by exact sd_of (by exact so_comp (own := [("turn", 1)]) rfl sc_is_cord.nd (by exact sj_seq (by exact sd_var 0)) (blkOk_by (N := N_is_cord) (sc := defScope s_is_cord) (own := [("turn", 1)]) (by decide +kernel)) (fun _ _ _ _ _ => by exact (by exact sg_name 1 sc_is_cord.nd)) (fun _ _ _ _ _ => by exact (sc_nil)) (fun _ _ _ _ _ => by exact (by exact sd_cal (D_is_turn C) takesN0 (hr.mono (by omega)) (.inl rfl) rfl (by exact sa_cons (by exact sd_var 1) (sa_nil)))))) (sa_nil))))))))
  exact this
theorem D_need_cord (C : Facts K mg) : DefOk P w K mg base 4 "need_cord" [] f_need_cord := by
  have := def_ok (P := P) (w := w) (base := base) (k := 3) (m := m_need_cord) (io := none) (ro := false) (S := S_need_cord) C.g_need_cord C.d_need_cord sc_need_cord (by decide) (by simp only [S_need_cord]; decide) (by simp only [S_need_cord]; decide) (fun _ _ _ _ _ _ us hl => match us, hl with | [_], _ => rfl)
    (fun A outer s H E hr => by
      have tk := dX_takes (P := P) (w := w) (K := K) (mg := mg) (base := base) (N := N_need_cord) (x := "need_cord") (st := s_need_cord) (A := A) (outer := outer) (s := s) (H := H) (E := E)
      have hp := d_own (P := P) (w := w) (K := K) (mg := mg) (base := base) (N := N_need_cord) (x := "need_cord") (st := s_need_cord) (A := A) (outer := outer) (s := s) (H := H) (E := E)
      exact (ss_one (by exact sx_if (by exact st_not (by exact st_tru (by exact sd_cal (D_is_cord C) tk (hr.mono (by omega)) (.inl rfl) rfl (by exact sa_cons (by exact sd_var 0) (sa_nil))))) (ss_one (by exact sx_raise rfl tk PySem.F.excBase_ValueError C.e_InvalidCord.1 C.g_InvalidCord C.e_InvalidCord.2.1 (raises_own C.e_InvalidCord.2.2.1 C.e_InvalidCord.2.2.2) rfl)) (ss_nil))))
  exact this
theorem D_are_opposite (C : Facts K mg) : DefOk P w K mg base 1 "are_opposite" [] f_are_opposite := by
  have := def_ok (P := P) (w := w) (base := base) (k := 0) (m := m_are_opposite) (io := none) (ro := false) (S := S_are_opposite) C.g_are_opposite C.d_are_opposite sc_are_opposite (by decide) (by simp only [S_are_opposite]; decide) (by simp only [S_are_opposite]; decide) (fun _ _ _ _ _ _ us hl => match us, hl with | [_, _], _ => rfl)
    (fun A outer s H E hr => by
      have tk := dX_takes (P := P) (w := w) (K := K) (mg := mg) (base := base) (N := N_are_opposite) (x := "are_opposite") (st := s_are_opposite) (A := A) (outer := outer) (s := s) (H := H) (E := E)
      have hp := d_own (P := P) (w := w) (K := K) (mg := mg) (base := base) (N := N_are_opposite) (x := "are_opposite") (st := s_are_opposite) (A := A) (outer := outer) (s := s) (H := H) (E := E)
      exact (ss_one (by exact sx_ret (by exact sd_and (by exact sd_cmp (op_gEq (room_hu hr)) (by exact sd_ix (by exact sd_var 0) (by exact sd_int)) (by exact sd_ix (by exact sd_var 1) (by exact sd_int))) (sd_one (by exact sd_cmp (op_gEq (room_hu hr)) (by exact sd_ix (by exact sd_var 0) (by exact sd_int)) (by exact sd_un un_gNeg (by exact sd_ix (by exact sd_var 1) (by exact sd_int)))))))))
  exact this
theorem D_back_of (C : Facts K mg) : DefOk P w K mg base 1 "back_of" [] f_back_of := by
  have := def_ok (P := P) (w := w) (base := base) (k := 0) (m := m_back_of) (io := none) (ro := false) (S := S_back_of) C.g_back_of C.d_back_of sc_back_of (by decide) (by simp only [S_back_of]; decide) (by simp only [S_back_of]; decide) (fun _ _ _ _ _ _ us hl => match us, hl with | [_], _ => rfl)
    (fun A outer s H E hr => by
      have tk := dX_takes (P := P) (w := w) (K := K) (mg := mg) (base := base) (N := N_back_of) (x := "back_of") (st := s_back_of) (A := A) (outer := outer) (s := s) (H := H) (E := E)
      have hp := d_own (P := P) (w := w) (K := K) (mg := mg) (base := base) (N := N_back_of) (x := "back_of") (st := s_back_of) (A := A) (outer := outer) (s := s) (H := H) (E := E)
      exact (ss_one (by exact sx_ret (by exact sd_callTy call_gTuple rfl C.b_tuple boot_tuple (by exact sa_cons (by exact sd_of (by exact so_comp (own := [("peg", 1), ("way", 2)]) rfl sc_back_of.nd (by exact sj_seq (by exact sd_rev (by exact sd_var 0))) (blkOk_by (N := N_back_of) (sc := defScope s_back_of) (own := [("peg", 1), ("way", 2)]) (by decide +kernel)) (fun _ _ _ _ _ => by exact (by exact sg_tup rfl (sg_cons (by exact sg_name 1 sc_back_of.nd) (sg_cons (by exact sg_name 2 sc_back_of.nd) (sg_nil))))) (fun _ _ _ _ _ => by exact (sc_nil)) (fun _ _ _ _ _ => by exact (by exact sd_tup (by exact sa_cons (by exact sd_var 1) (sa_cons (by exact sd_un un_gNeg (by exact sd_var 2)) (sa_nil))))))) (sa_nil))))))
  exact this
theorem D_reduced_row (C : Facts K mg) : DefOk P w K mg base 2 "reduced_row" [] f_reduced_row := by
  have := def_ok (P := P) (w := w) (base := base) (k := 1) (m := m_reduced_row) (io := none) (ro := false) (S := S_reduced_row) C.g_reduced_row C.d_reduced_row sc_reduced_row (by decide) (by simp only [S_reduced_row]; decide) (by simp only [S_reduced_row]; decide) (fun _ _ _ _ _ _ us hl => match us, hl with | [_], _ => rfl)
    (fun A outer s H E hr => by
      have tk := dX_takes (P := P) (w := w) (K := K) (mg := mg) (base := base) (N := N_reduced_row) (x := "reduced_row") (st := s_reduced_row) (A := A) (outer := outer) (s := s) (H := H) (E := E)
      have hp := d_own (P := P) (w := w) (K := K) (mg := mg) (base := base) (N := N_reduced_row) (x := "reduced_row") (st := s_reduced_row) (A := A) (outer := outer) (s := s) (H := H) (E := E)
      exact (ss_cons (by exact sx_seto 1 sc_reduced_row.nd (by exact so_lst (by exact sa_nil))) (ss_cons (by exact sx_for hp rfl (by exact sj_seq (by exact sd_var 0)) (by exact sg_name 2 sc_reduced_row.nd) (ss_one (by exact sx_if (by exact pt_bool (sw_and (by exact st_cmp (op_gNe (room_hu hr)) (by exact sd_own 1) (by exact sd_of (by exact so_lst (by exact sa_nil)))) (sw_and1 (by exact st_tru (by exact sd_cal (D_are_opposite C) tk (hr.mono (by omega)) (.inl rfl) rfl (by exact sa_cons (by exact sd_ix (by exact sd_own 1) (by exact sd_un un_gNeg (by exact sd_int))) (sa_cons (by exact sd_var 2) (sa_nil)))))))) (ss_one (by exact sx_pop 1)) (ss_one (by exact sx_app 1 (by exact sd_var 2)))))) (ss_one (by exact sx_ret (by exact sd_callTy call_gTuple rfl C.b_tuple boot_tuple (by exact sa_cons (by exact sd_own 1) (sa_nil))))))))
  exact this
theorem D_core_of (C : Facts K mg) : DefOk P w K mg base 2 "core_of" [] f_core_of := by
  have := def_ok (P := P) (w := w) (base := base) (k := 1) (m := m_core_of) (io := none) (ro := false) (S := S_core_of) C.g_core_of C.d_core_of sc_core_of (by decide) (by simp only [S_core_of]; decide) (by simp only [S_core_of]; decide) (fun _ _ _ _ _ _ us hl => match us, hl with | [_], _ => rfl)
    (fun A outer s H E hr => by
      have tk := dX_takes (P := P) (w := w) (K := K) (mg := mg) (base := base) (N := N_core_of) (x := "core_of") (st := s_core_of) (A := A) (outer := outer) (s := s) (H := H) (E := E)
      have hp := d_own (P := P) (w := w) (K := K) (mg := mg) (base := base) (N := N_core_of) (x := "core_of") (st := s_core_of) (A := A) (outer := outer) (s := s) (H := H) (E := E)
      exact (ss_cons (by exact sx_set 1 sc_core_of.nd (by exact sd_int)) (ss_cons (by exact sx_while 1000 hp (by exact pt_bool (sw_and (by exact st_cmp (op_gGt (room_hu hr)) (by exact sd_bin op_gSub (by exact sd_callB call_gLen rfl C.b_len boot_len (by exact sa_cons (by exact sd_var 0) (sa_nil))) (by exact sd_bin op_gMul (by exact sd_int) (by exact sd_var 1))) (by exact sd_int)) (sw_and1 (by exact st_tru (by exact sd_cal (D_are_opposite C) tk (hr.mono (by omega)) (.inl rfl) rfl (by exact sa_cons (by exact sd_ix (by exact sd_var 0) (by exact sd_var 1)) (sa_cons (by exact sd_ix (by exact sd_var 0) (by exact sd_bin op_gSub (by exact sd_bin op_gSub (by exact sd_callB call_gLen rfl C.b_len boot_len (by exact sa_cons (by exact sd_var 0) (sa_nil))) (by exact sd_int)) (by exact sd_var 1))) (sa_nil)))))))) (ss_one (by exact sx_set 1 sc_core_of.nd (by exact sd_bin op_gAdd (by exact sd_var 1) (by exact sd_int))))) (ss_one (by exact sx_ret (by exact sd_tup (by exact sa_cons (by exact sd_sl (by exact sd_var 0) (sp_none) (sp_some (by exact sd_var 1))) (sa_cons (by exact sd_sl (by exact sd_var 0) (sp_some (by exact sd_var 1)) (sp_some (by exact sd_bin op_gSub (by exact sd_callB call_gLen rfl C.b_len boot_len (by exact sa_cons (by exact sd_var 0) (sa_nil))) (by exact sd_var 1)))) (sa_nil)))))))))
  exact this
theorem D_turned_rows (C : Facts K mg) : DefOk P w K mg base 1 "turned_rows" [] f_turned_rows := by
  have := def_ok (P := P) (w := w) (base := base) (k := 0) (m := m_turned_rows) (io := none) (ro := false) (S := S_turned_rows) C.g_turned_rows C.d_turned_rows sc_turned_rows (by decide) (by simp only [S_turned_rows]; decide) (by simp only [S_turned_rows]; decide) (fun _ _ _ _ _ _ us hl => match us, hl with | [_], _ => rfl)
    (fun A outer s H E hr => by
      have tk := dX_takes (P := P) (w := w) (K := K) (mg := mg) (base := base) (N := N_turned_rows) (x := "turned_rows") (st := s_turned_rows) (A := A) (outer := outer) (s := s) (H := H) (E := E)
      have hp := d_own (P := P) (w := w) (K := K) (mg := mg) (base := base) (N := N_turned_rows) (x := "turned_rows") (st := s_turned_rows) (A := A) (outer := outer) (s := s) (H := H) (E := E)
      exact (ss_one (by exact sx_ret (by exact sd_of (by exact so_comp (own := [("at", 1)]) rfl sc_turned_rows.nd (by exact sj_rng1 rfl C.b_range (by exact sa_cons (by exact sd_callB (call_gMax rfl (room_hu hr)) rfl C.b_max boot_max (by exact sa_cons (by exact sd_callB call_gLen rfl C.b_len boot_len (by exact sa_cons (by exact sd_var 0) (sa_nil))) (sa_cons (by exact sd_int) (sa_nil)))) (sa_nil))) (blkOk_by (N := N_turned_rows) (sc := defScope s_turned_rows) (own := [("at", 1)]) (by decide +kernel)) (fun _ _ _ _ _ => by exact (by exact sg_name 1 sc_turned_rows.nd)) (fun _ _ _ _ _ => by exact (sc_nil)) (fun _ _ _ _ _ => by exact (by exact sd_bin op_gAdd (by exact sd_sl (by exact sd_var 0) (sp_some (by exact sd_var 1)) (sp_none)) (by exact sd_sl (by exact sd_var 0) (sp_none) (sp_some (by exact sd_var 1))))))))))
  exact this
theorem D_round_of (C : Facts K mg) : DefOk P w K mg base 3 "round_of" [] f_round_of := by
  have := def_ok (P := P) (w := w) (base := base) (k := 2) (m := m_round_of) (io := none) (ro := false) (S := S_round_of) C.g_round_of C.d_round_of sc_round_of (by decide) (by simp only [S_round_of]; decide) (by simp only [S_round_of]; decide) (fun _ _ _ _ _ _ us hl => match us, hl with | [_], _ => rfl)
    (fun A outer s H E hr => by
      have tk := dX_takes (P := P) (w := w) (K := K) (mg := mg) (base := base) (N := N_round_of) (x := "round_of") (st := s_round_of) (A := A) (outer := outer) (s := s) (H := H) (E := E)
      have hp := d_own (P := P) (w := w) (K := K) (mg := mg) (base := base) (N := N_round_of) (x := "round_of") (st := s_round_of) (A := A) (outer := outer) (s := s) (H := H) (E := E)
      exact (ss_one (by exact sx_ret (by exact sd_callB (call_gMin rfl (room_hu hr)) rfl C.b_min boot_min (by exact sa_cons (by exact sd_cal (D_turned_rows C) tk (hr.mono (by omega)) (.inl rfl) rfl (by exact sa_cons (by exact sd_ix (by exact sd_cal (D_core_of C) tk (hr.mono (by omega)) (.inl rfl) rfl (by exact sa_cons (by exact sd_cal (D_reduced_row C) tk (hr.mono (by omega)) (.inl rfl) rfl (by exact sa_cons (by exact sd_var 0) (sa_nil))) (sa_nil))) (by exact sd_int)) (sa_nil))) (sa_nil))))))
  exact this
theorem D_reduced_round (C : Facts K mg) : DefOk P w K mg base 5 "reduced_round" [] f_reduced_round := by
  have := def_ok (P := P) (w := w) (base := base) (k := 4) (m := m_reduced_round) (io := none) (ro := false) (S := S_reduced_round) C.g_reduced_round C.d_reduced_round sc_reduced_round (by decide) (by simp only [S_reduced_round]; decide) (by simp only [S_reduced_round]; decide) (fun _ _ _ _ _ _ us hl => match us, hl with | [_], _ => rfl)
    (fun A outer s H E hr => by
      have tk := dX_takes (P := P) (w := w) (K := K) (mg := mg) (base := base) (N := N_reduced_round) (x := "reduced_round") (st := s_reduced_round) (A := A) (outer := outer) (s := s) (H := H) (E := E)
      have hp := d_own (P := P) (w := w) (K := K) (mg := mg) (base := base) (N := N_reduced_round) (x := "reduced_round") (st := s_reduced_round) (A := A) (outer := outer) (s := s) (H := H) (E := E)
      exact (ss_cons (by exact sx_expr (by exact sd_cal (D_need_cord C) tk (hr.mono (by omega)) (.inl rfl) rfl (by exact sa_cons (by exact sd_var 0) (sa_nil)))) (ss_one (by exact sx_ret (by exact sd_cal (D_round_of C) tk (hr.mono (by omega)) (.inl rfl) rfl (by exact sa_cons (by exact sd_var 0) (sa_nil)))))))
  exact this
theorem D_are_turnings (C : Facts K mg) : DefOk P w K mg base 5 "are_turnings" [] f_are_turnings := by
  have := def_ok (P := P) (w := w) (base := base) (k := 4) (m := m_are_turnings) (io := none) (ro := false) (S := S_are_turnings) C.g_are_turnings C.d_are_turnings sc_are_turnings (by decide) (by simp only [S_are_turnings]; decide) (by simp only [S_are_turnings]; decide) (fun _ _ _ _ _ _ us hl => match us, hl with | [_, _], _ => rfl)
    (fun A outer s H E hr => by
      have tk := dX_takes (P := P) (w := w) (K := K) (mg := mg) (base := base) (N := N_are_turnings) (x := "are_turnings") (st := s_are_turnings) (A := A) (outer := outer) (s := s) (H := H) (E := E)
      have hp := d_own (P := P) (w := w) (K := K) (mg := mg) (base := base) (N := N_are_turnings) (x := "are_turnings") (st := s_are_turnings) (A := A) (outer := outer) (s := s) (H := H) (E := E)
      exact (ss_cons (by exact sx_expr (by exact sd_cal (D_need_cord C) tk (hr.mono (by omega)) (.inl rfl) rfl (by exact sa_cons (by exact sd_var 0) (sa_nil)))) (ss_cons (by exact sx_expr (by exact sd_cal (D_need_cord C) tk (hr.mono (by omega)) (.inl rfl) rfl (by exact sa_cons (by exact sd_var 1) (sa_nil)))) (ss_one (by exact sx_ret (by exact sd_cmp (op_gEq (room_hu hr)) (by exact sd_cal (D_round_of C) tk (hr.mono (by omega)) (.inl rfl) rfl (by exact sa_cons (by exact sd_var 0) (sa_nil))) (by exact sd_cal (D_round_of C) tk (hr.mono (by omega)) (.inl rfl) rfl (by exact sa_cons (by exact sd_var 1) (sa_nil)))))))))
  exact this
theorem D_turning_of (C : Facts K mg) : DefOk P w K mg base 5 "turning_of" [] f_turning_of := by
  have := def_ok (P := P) (w := w) (base := base) (k := 4) (m := m_turning_of) (io := none) (ro := false) (S := S_turning_of) C.g_turning_of C.d_turning_of sc_turning_of (by decide) (by simp only [S_turning_of]; decide) (by simp only [S_turning_of]; decide) (fun _ _ _ _ _ _ us hl => match us, hl with | [_, _], _ => rfl)
    (fun A outer s H E hr => by
      have tk := dX_takes (P := P) (w := w) (K := K) (mg := mg) (base := base) (N := N_turning_of) (x := "turning_of") (st := s_turning_of) (A := A) (outer := outer) (s := s) (H := H) (E := E)
      have hp := d_own (P := P) (w := w) (K := K) (mg := mg) (base := base) (N := N_turning_of) (x := "turning_of") (st := s_turning_of) (A := A) (outer := outer) (s := s) (H := H) (E := E)
      exact (ss_cons (by exact sx_expr (by exact sd_cal (D_need_cord C) tk (hr.mono (by omega)) (.inl rfl) rfl (by exact sa_cons (by exact sd_var 0) (sa_nil)))) (ss_cons (by exact sx_expr (by exact sd_cal (D_need_cord C) tk (hr.mono (by omega)) (.inl rfl) rfl (by exact sa_cons (by exact sd_var 1) (sa_nil)))) (ss_cons (by exact sx_unp (by exact sd_tup (by exact sa_cons (by exact sd_cal (D_core_of C) tk (hr.mono (by omega)) (.inl rfl) rfl (by exact sa_cons (by exact sd_cal (D_reduced_row C) tk (hr.mono (by omega)) (.inl rfl) rfl (by exact sa_cons (by exact sd_var 0) (sa_nil))) (sa_nil))) (sa_cons (by exact sd_cal (D_core_of C) tk (hr.mono (by omega)) (.inl rfl) rfl (by exact sa_cons (by exact sd_cal (D_reduced_row C) tk (hr.mono (by omega)) (.inl rfl) rfl (by exact sa_cons (by exact sd_var 1) (sa_nil))) (sa_nil))) (sa_nil)))) (by exact sg_tup rfl (sg_cons (by exact sg_tup rfl (sg_cons (by exact sg_name 2 sc_turning_of.nd) (sg_cons (by exact sg_name 3 sc_turning_of.nd) (sg_nil)))) (sg_cons (by exact sg_tup rfl (sg_cons (by exact sg_name 4 sc_turning_of.nd) (sg_cons (by exact sg_name 5 sc_turning_of.nd) (sg_nil)))) (sg_nil))))) (ss_cons (by exact sx_set 6 sc_turning_of.nd (by exact sd_cal (D_turned_rows C) tk (hr.mono (by omega)) (.inl rfl) rfl (by exact sa_cons (by exact sd_var 3) (sa_nil)))) (ss_cons (by exact sx_if (by exact st_cmp (op_gNotIn (room_hu hr)) (by exact sd_var 5) (by exact sd_var 6)) (ss_one (by exact sx_ret (by exact sd_none))) (ss_nil)) (ss_one (by exact sx_ret (by exact sd_cal (D_reduced_row C) tk (hr.mono (by omega)) (.inl rfl) rfl (by exact sa_cons (by exact sd_bin op_gAdd (by exact sd_bin op_gAdd (by exact sd_var 4) (by exact sd_cal (D_back_of C) tk (hr.mono (by omega)) (.inl rfl) rfl (by exact sa_cons (by exact sd_sl (by exact sd_var 3) (sp_none) (sp_some (by exact sd_idx (room_hu hr) (by exact sd_var 6) (by exact sd_var 5)))) (sa_nil)))) (by exact sd_cal (D_back_of C) tk (hr.mono (by omega)) (.inl rfl) rfl (by exact sa_cons (by exact sd_var 2) (sa_nil)))) (sa_nil)))))))))))
  exact this
theorem D_is_turning (C : Facts K mg) : DefOk P w K mg base 5 "is_turning" [] f_is_turning := by
  have := def_ok (P := P) (w := w) (base := base) (k := 4) (m := m_is_turning) (io := none) (ro := false) (S := S_is_turning) C.g_is_turning C.d_is_turning sc_is_turning (by decide) (by simp only [S_is_turning]; decide) (by simp only [S_is_turning]; decide) (fun _ _ _ _ _ _ us hl => match us, hl with | [_, _, _], _ => rfl)
    (fun A outer s H E hr => by
      have tk := dX_takes (P := P) (w := w) (K := K) (mg := mg) (base := base) (N := N_is_turning) (x := "is_turning") (st := s_is_turning) (A := A) (outer := outer) (s := s) (H := H) (E := E)
      have hp := d_own (P := P) (w := w) (K := K) (mg := mg) (base := base) (N := N_is_turning) (x := "is_turning") (st := s_is_turning) (A := A) (outer := outer) (s := s) (H := H) (E := E)
      exact (ss_cons (by exact sx_expr (by exact sd_cal (D_need_cord C) tk (hr.mono (by omega)) (.inl rfl) rfl (by exact sa_cons (by exact sd_var 0) (sa_nil)))) (ss_cons (by exact sx_expr (by exact sd_cal (D_need_cord C) tk (hr.mono (by omega)) (.inl rfl) rfl (by exact sa_cons (by exact sd_var 1) (sa_nil)))) (ss_one (by exact sx_ret (by exact sd_and (by exact sd_cal (D_is_cord C) tk (hr.mono (by omega)) (.inl rfl) rfl (by exact sa_cons (by exact sd_var 2) (sa_nil))) (sd_one (by exact sd_cmp (op_gEq (room_hu hr)) (by exact sd_cal (D_reduced_row C) tk (hr.mono (by omega)) (.inl rfl) rfl (by exact sa_cons (by exact sd_bin op_gAdd (by exact sd_bin op_gAdd (by exact sd_var 2) (by exact sd_var 0)) (by exact sd_cal (D_back_of C) tk (hr.mono (by omega)) (.inl rfl) rfl (by exact sa_cons (by exact sd_var 2) (sa_nil)))) (sa_nil))) (by exact sd_cal (D_reduced_row C) tk (hr.mono (by omega)) (.inl rfl) rfl (by exact sa_cons (by exact sd_var 1) (sa_nil)))))))))))
  exact this
theorem D__law_cup (C : Facts K mg) : DefOk P w K mg base 1 "_law_cup" [] f__law_cup := by
  have := def_ok (P := P) (w := w) (base := base) (k := 0) (m := m__law_cup) (io := none) (ro := true) (S := S__law_cup) C.g__law_cup C.d__law_cup sc__law_cup (by decide) (by simp only [S__law_cup]; decide) (by simp only [S__law_cup]; decide) (fun _ _ _ _ _ _ us hl => match us, hl with | [_], _ => rfl)
    (fun A outer s H E hr => by
      have tk := dX_takes (P := P) (w := w) (K := K) (mg := mg) (base := base) (N := N__law_cup) (x := "_law_cup") (st := s__law_cup) (A := A) (outer := outer) (s := s) (H := H) (E := E)
      have hp := d_own (P := P) (w := w) (K := K) (mg := mg) (base := base) (N := N__law_cup) (x := "_law_cup") (st := s__law_cup) (A := A) (outer := outer) (s := s) (H := H) (E := E)
      exact (ss_cons (by exact sx_set 1 sc__law_cup.nd (by exact sd_callB call_gAbs rfl C.b_abs boot_abs (by exact sa_cons (by exact sd_ix (by exact sd_bin op_gAdd (by exact sd_of (by exact so_callTy call_gList rfl C.b_list boot_list (by exact sa_cons (by exact sd_var 0) (sa_nil)))) (by exact sd_of (by exact so_lst (by exact sa_cons (by exact sd_int) (sa_nil))))) (by exact sd_int)) (sa_nil)))) (ss_one (by exact sx_reto (by exact so_lst (by exact sa_cons (by exact sd_if (by exact st_cmp (op_gGe (room_hu hr)) (by exact sd_var 1) (by exact sd_bin op_gPow (by exact sd_int) (by exact sd_int))) (by exact sd_bin op_gFdiv (by exact sd_var 1) (by exact sd_int)) (by exact sd_int)) (sa_cons (by exact sd_bin op_gAdd (by exact sd_bin op_gMod (by exact sd_callTy call_gInt rfl C.b_int boot_int (by exact sa_cons (by exact sd_bin op_gAdd (by exact sd_bin op_gMul (by exact sd_var 1) (by exact sd_int)) (by exact sd_int)) (sa_nil))) (by exact sd_int)) (by exact sd_int)) (sa_nil))))))))
  exact this
theorem D__law_roll (C : Facts K mg) : DefOk P w K mg base 1 "_law_roll" [] f__law_roll := by
  have := def_ok (P := P) (w := w) (base := base) (k := 0) (m := m__law_roll) (io := (some 0)) (ro := false) (S := S__law_roll) C.g__law_roll C.d__law_roll sc__law_roll (by decide) (by simp only [S__law_roll]; decide) (by simp only [S__law_roll]; decide) (fun _ _ _ _ _ _ us hl => match us, hl with | [_, _], _ => rfl)
    (fun A outer s H E hr => by
      have tk := dX_takes (P := P) (w := w) (K := K) (mg := mg) (base := base) (N := N__law_roll) (x := "_law_roll") (st := s__law_roll) (A := A) (outer := outer) (s := s) (H := H) (E := E)
      have hp := d_own (P := P) (w := w) (K := K) (mg := mg) (base := base) (N := N__law_roll) (x := "_law_roll") (st := s__law_roll) (A := A) (outer := outer) (s := s) (H := H) (E := E)
      exact (ss_cons (by exact sx_if (by exact st_cmp (op_gGt (room_hu hr)) (by exact sd_ix (by exact sd_own 0) (by exact sd_int)) (by exact sd_int)) (ss_cons (by exact sx_set 3 sc__law_roll.nd (by exact sd_bin op_gMod (by exact sd_callTy call_gInt rfl C.b_int boot_int (by exact sa_cons (by exact sd_ix (by exact sd_own 0) (by exact sd_int)) (sa_nil))) (by exact sd_var 1))) (ss_cons (by exact sx_setix 0 (by exact sd_bin op_gFdiv (by exact sd_ix (by exact sd_own 0) (by exact sd_int)) (by exact sd_var 1)) (by exact sd_int)) (ss_one (by exact sx_ret (by exact sd_var 3))))) (ss_nil)) (ss_cons (by exact sx_setix 0 (by exact sd_bin op_gMod (by exact sd_callTy call_gInt rfl C.b_int boot_int (by exact sa_cons (by exact sd_bin op_gAdd (by exact sd_bin op_gMul (by exact sd_ix (by exact sd_own 0) (by exact sd_int)) (by exact sd_int)) (by exact sd_int)) (sa_nil))) (by exact sd_int)) (by exact sd_int)) (ss_cons (by exact sx_set 2 sc__law_roll.nd (by exact sd_bin op_gMod (by exact sd_callTy call_gInt rfl C.b_int boot_int (by exact sa_cons (by exact sd_bin op_gMul (by exact sd_ix (by exact sd_own 0) (by exact sd_int)) (by exact sd_bin op_gAdd (by exact sd_ix (by exact sd_own 0) (by exact sd_int)) (by exact sd_int))) (sa_nil))) (by exact sd_int))) (ss_one (by exact sx_ret (by exact sd_bin op_gMod (by exact sd_callTy call_gInt rfl C.b_int boot_int (by exact sa_cons (by exact sd_bin op_gFdiv (by exact sd_var 2) (by exact sd_int)) (sa_nil))) (by exact sd_var 1))))))))
  exact this
theorem D__law_some (C : Facts K mg) : DefOk P w K mg base 2 "_law_some" [] f__law_some := by
  have := def_ok (P := P) (w := w) (base := base) (k := 1) (m := m__law_some) (io := (some 0)) (ro := false) (S := S__law_some) C.g__law_some C.d__law_some sc__law_some (by decide) (by simp only [S__law_some]; decide) (by simp only [S__law_some]; decide) (fun _ _ _ _ _ _ us hl => match us, hl with | [_, _], _ => rfl)
    (fun A outer s H E hr => by
      have tk := dX_takes (P := P) (w := w) (K := K) (mg := mg) (base := base) (N := N__law_some) (x := "_law_some") (st := s__law_some) (A := A) (outer := outer) (s := s) (H := H) (E := E)
      have hp := d_own (P := P) (w := w) (K := K) (mg := mg) (base := base) (N := N__law_some) (x := "_law_some") (st := s__law_some) (A := A) (outer := outer) (s := s) (H := H) (E := E)
      exact (ss_one (by exact sx_ret (by exact sd_ix (by exact sd_var 1) (by exact sd_cal (D__law_roll C) tk (hr.mono (by omega)) (.inl rfl) rfl (by exact sa_cons (by exact sd_own 0) (sa_cons (by exact sd_callB call_gLen rfl C.b_len boot_len (by exact sa_cons (by exact sd_var 1) (sa_nil))) (sa_nil))))))))
  exact this
theorem D__law_sort (C : Facts K mg) : DefOk P w K mg base 1 "_law_sort" [] f__law_sort := by
  have := def_ok (P := P) (w := w) (base := base) (k := 0) (m := m__law_sort) (io := none) (ro := false) (S := S__law_sort) C.g__law_sort C.d__law_sort sc__law_sort (by decide) (by simp only [S__law_sort]; decide) (by simp only [S__law_sort]; decide) (fun _ _ _ _ _ _ us hl => match us, hl with | [_], _ => rfl)
    (fun A outer s H E hr => by
      have tk := dX_takes (P := P) (w := w) (K := K) (mg := mg) (base := base) (N := N__law_sort) (x := "_law_sort") (st := s__law_sort) (A := A) (outer := outer) (s := s) (H := H) (E := E)
      have hp := d_own (P := P) (w := w) (K := K) (mg := mg) (base := base) (N := N__law_sort) (x := "_law_sort") (st := s__law_sort) (A := A) (outer := outer) (s := s) (H := H) (E := E)
      exact (ss_cons (by exact sx_if (by exact pt_bool (sw_or (by exact st_cmp (op_gIs) (by exact sd_var 0) (by exact sd_none)) (sw_or1 (by exact st_tru (by exact sd_isa "bool" rfl C.b_isinstance rfl C.b_bool boot_bool (by exact sd_var 0)))))) (ss_one (by exact sx_ret (by exact sd_if (by exact st_cmp (op_gIs) (by exact sd_var 0) (by exact sd_none)) (by exact sd_int) (by exact sd_int)))) (ss_nil)) (ss_cons (by exact sx_if (by exact pt_bool (sw_or (by exact st_tru (by exact sd_isa "int" rfl C.b_isinstance rfl C.b_int boot_int (by exact sd_var 0))) (sw_or1 (by exact st_tru (by exact sd_isa "str" rfl C.b_isinstance rfl C.b_str boot_str (by exact sd_var 0)))))) (ss_one (by exact sx_ret (by exact sd_if (by exact st_tru (by exact sd_isa "int" rfl C.b_isinstance rfl C.b_int boot_int (by exact sd_var 0))) (by exact sd_int) (by exact sd_int)))) (ss_nil)) (ss_one (by exact sx_ret (by exact sd_if (by exact st_tru (by exact sd_isa "tuple" rfl C.b_isinstance rfl C.b_tuple boot_tuple (by exact sd_var 0))) (by exact sd_int) (by exact sd_if (by exact st_tru (by exact sd_isa "list" rfl C.b_isinstance rfl C.b_list boot_list (by exact sd_var 0))) (by exact sd_int) (by exact sd_int))))))))
  exact this
theorem D__law_like (C : Facts K mg) : ∀ n : Nat, DefOk P w K mg base (2 + n) "_law_like" [] (f__law_like n)
  | 0 => def_stuck C.g__law_like C.d__law_like (ps := ["one", "other"]) rfl (fun _ _ _ _ _ _ us hl => match us, hl with | [_, _], _ => rfl)
  | n + 1 => by
    have ih : DefOk P w K mg base (2 + n) "_law_like" [] (f__law_like n) := D__law_like C n
    have := def_ok (k := 2 + n) (m := m__law_like (f__law_like n)) (io := none) (ro := false) (S := S__law_like) C.g__law_like C.d__law_like sc__law_like (by decide) (by decide) (by decide) (fun _ _ _ _ _ _ us hl => match us, hl with | [_, _], _ => rfl) (fun A outer s H E hr => by
      have tk := dX_takes (P := P) (w := w) (K := K) (mg := mg) (base := base) (N := N__law_like) (x := "_law_like") (st := s__law_like) (A := A) (outer := outer) (s := s) (H := H) (E := E)
      have hp := d_own (P := P) (w := w) (K := K) (mg := mg) (base := base) (N := N__law_like) (x := "_law_like") (st := s__law_like) (A := A) (outer := outer) (s := s) (H := H) (E := E)
      exact (ss_cons (by exact sx_set 2 sc__law_like.nd (by exact sd_cal (D__law_sort C) tk (hr.mono (by omega)) (.inl rfl) rfl (by exact sa_cons (by exact sd_var 1) (sa_nil)))) (ss_cons (by exact sx_if (by exact pt_bool (sw_or (by exact st_cmp (op_gNe (room_hu hr)) (by exact sd_cal (D__law_sort C) tk (hr.mono (by omega)) (.inl rfl) rfl (by exact sa_cons (by exact sd_var 0) (sa_nil))) (by exact sd_var 2)) (sw_or1 (by exact st_cmp (op_gEq (room_hu hr)) (by exact sd_var 2) (by exact sd_int))))) (ss_one (by exact sx_ret (by exact sd_bool))) (ss_nil)) (ss_cons (by exact sx_if (by exact st_cmp (op_gIn (room_hu hr)) (by exact sd_var 2) (by exact sd_tup (by exact sa_cons (by exact sd_int) (sa_cons (by exact sd_int) (sa_nil))))) (ss_one (by exact sx_ret (by exact sd_and (by exact sd_cmp (op_gEq (room_hu hr)) (by exact sd_callB call_gLen rfl C.b_len boot_len (by exact sa_cons (by exact sd_var 0) (sa_nil))) (by exact sd_callB call_gLen rfl C.b_len boot_len (by exact sa_cons (by exact sd_var 1) (sa_nil)))) (sd_one (by exact sd_cmp (op_gEq (room_hu hr)) (by exact sd_of (by exact so_comp (own := [("first", 3), ("second", 4)]) rfl sc__law_like.nd (by exact sj_zip rfl C.b_zip (by exact sa_cons (by exact sd_var 0) (sa_cons (by exact sd_var 1) (sa_nil)))) (blkOk_by (N := N__law_like) (sc := defScope s__law_like) (own := [("first", 3), ("second", 4)]) (by decide +kernel)) (fun _ _ _ _ _ => by exact (by exact sg_tup rfl (sg_cons (by exact sg_name 3 sc__law_like.nd) (sg_cons (by exact sg_name 4 sc__law_like.nd) (sg_nil))))) (fun _ _ _ _ _ => by exact (sc_one (by exact st_not (by exact st_tru (by exact sd_cal (hro := by cases n <;> rfl) ih takesN0 hr (.inl rfl) rfl (by exact sa_cons (by exact sd_var 3) (sa_cons (by exact sd_var 4) (sa_nil)))))))) (fun _ _ _ _ _ => by exact (by exact sd_int)))) (by exact sd_of (by exact so_lst (by exact sa_nil)))))))) (ss_nil)) (ss_one (by exact sx_ret (by exact sd_cmp (op_gEq (room_hu hr)) (by exact sd_var 0) (by exact sd_var 1))))))))
    exact this
theorem D__law_cord (C : Facts K mg) : DefOk P w K mg base 3 "_law_cord" [] f__law_cord := by
  have := def_ok (P := P) (w := w) (base := base) (k := 2) (m := m__law_cord) (io := (some 0)) (ro := false) (S := S__law_cord) C.g__law_cord C.d__law_cord sc__law_cord (by decide) (by simp only [S__law_cord]; decide) (by simp only [S__law_cord]; decide) (fun _ _ _ _ _ _ us hl => match us, hl with | [_, _, _], _ => rfl)
    (fun A outer s H E hr => by
      have tk := dX_takes (P := P) (w := w) (K := K) (mg := mg) (base := base) (N := N__law_cord) (x := "_law_cord") (st := s__law_cord) (A := A) (outer := outer) (s := s) (H := H) (E := E)
      have hp := d_own (P := P) (w := w) (K := K) (mg := mg) (base := base) (N := N__law_cord) (x := "_law_cord") (st := s__law_cord) (A := A) (outer := outer) (s := s) (H := H) (E := E)
      exact (ss_cons (by exact sx_set 3 sc__law_cord.nd (by exact sd_tup (by exact sa_nil))) (ss_cons (by exact sx_for hp rfl (by exact sj_rng1 rfl C.b_range (by exact sa_cons (by exact sd_cal (D__law_roll C) tk (hr.mono (by omega)) (.inl rfl) rfl (by exact sa_cons (by exact sd_own 0) (sa_cons (by exact sd_bin op_gAdd (by exact sd_var 2) (by exact sd_int)) (sa_nil)))) (sa_nil))) (by exact sg_name 4 sc__law_cord.nd) (ss_one (by exact sx_if (by exact pt_bool (sw_and (by exact st_cmp (op_gNe (room_hu hr)) (by exact sd_var 3) (by exact sd_tup (by exact sa_nil))) (sw_and1 (by exact st_cmp (op_gEq (room_hu hr)) (by exact sd_cal (D__law_roll C) tk (hr.mono (by omega)) (.inl rfl) rfl (by exact sa_cons (by exact sd_own 0) (sa_cons (by exact sd_int) (sa_nil)))) (by exact sd_int))))) (ss_one (by exact sx_set 3 sc__law_cord.nd (by exact sd_bin op_gAdd (by exact sd_var 3) (by exact sd_tup (by exact sa_cons (by exact sd_tup (by exact sa_cons (by exact sd_ix (by exact sd_ix (by exact sd_var 3) (by exact sd_un un_gNeg (by exact sd_int))) (by exact sd_int)) (sa_cons (by exact sd_un un_gNeg (by exact sd_ix (by exact sd_ix (by exact sd_var 3) (by exact sd_un un_gNeg (by exact sd_int))) (by exact sd_int))) (sa_nil)))) (sa_nil)))))) (ss_one (by exact sx_set 3 sc__law_cord.nd (by exact sd_bin op_gAdd (by exact sd_var 3) (by exact sd_tup (by exact sa_cons (by exact sd_tup (by exact sa_cons (by exact sd_cal (D__law_some C) tk (hr.mono (by omega)) (.inl rfl) rfl (by exact sa_cons (by exact sd_own 0) (sa_cons (by exact sd_var 1) (sa_nil)))) (sa_cons (by exact sd_bin op_gSub (by exact sd_int) (by exact sd_bin op_gMul (by exact sd_int) (by exact sd_cal (D__law_roll C) tk (hr.mono (by omega)) (.inl rfl) rfl (by exact sa_cons (by exact sd_own 0) (sa_cons (by exact sd_int) (sa_nil)))))) (sa_nil)))) (sa_nil))))))))) (ss_one (by exact sx_ret (by exact sd_var 3))))))
  exact this
theorem D__law_reduced (C : Facts K mg) : DefOk P w K mg base 1 "_law_reduced" [] f__law_reduced := by
  have := def_ok (P := P) (w := w) (base := base) (k := 0) (m := m__law_reduced) (io := none) (ro := false) (S := S__law_reduced) C.g__law_reduced C.d__law_reduced sc__law_reduced (by decide) (by simp only [S__law_reduced]; decide) (by simp only [S__law_reduced]; decide) (fun _ _ _ _ _ _ us hl => match us, hl with | [_], _ => rfl)
    (fun A outer s H E hr => by
      have tk := dX_takes (P := P) (w := w) (K := K) (mg := mg) (base := base) (N := N__law_reduced) (x := "_law_reduced") (st := s__law_reduced) (A := A) (outer := outer) (s := s) (H := H) (E := E)
      have hp := d_own (P := P) (w := w) (K := K) (mg := mg) (base := base) (N := N__law_reduced) (x := "_law_reduced") (st := s__law_reduced) (A := A) (outer := outer) (s := s) (H := H) (E := E)
      exact (ss_cons (by exact sx_set 1 sc__law_reduced.nd (by exact sd_tup (by exact sa_nil))) (ss_cons (by exact sx_for hp rfl (by exact sj_seq (by exact sd_var 0)) (by exact sg_tup rfl (sg_cons (by exact sg_name 2 sc__law_reduced.nd) (sg_cons (by exact sg_name 3 sc__law_reduced.nd) (sg_nil)))) (ss_one (by exact sx_if (by exact pt_bool (sw_and (by exact st_cmp (op_gNe (room_hu hr)) (by exact sd_var 1) (by exact sd_tup (by exact sa_nil))) (sw_and1 (by exact st_cmp (op_gEq (room_hu hr)) (by exact sd_ix (by exact sd_var 1) (by exact sd_un un_gNeg (by exact sd_int))) (by exact sd_tup (by exact sa_cons (by exact sd_var 2) (sa_cons (by exact sd_un un_gNeg (by exact sd_var 3)) (sa_nil)))))))) (ss_one (by exact sx_set 1 sc__law_reduced.nd (by exact sd_sl (by exact sd_var 1) (sp_none) (sp_some (by exact sd_un un_gNeg (by exact sd_int)))))) (ss_one (by exact sx_set 1 sc__law_reduced.nd (by exact sd_bin op_gAdd (by exact sd_var 1) (by exact sd_tup (by exact sa_cons (by exact sd_tup (by exact sa_cons (by exact sd_var 2) (sa_cons (by exact sd_var 3) (sa_nil)))) (sa_nil))))))))) (ss_one (by exact sx_ret (by exact sd_var 1))))))
  exact this
theorem D__law_back (C : Facts K mg) : DefOk P w K mg base 1 "_law_back" [] f__law_back := by
  have := def_ok (P := P) (w := w) (base := base) (k := 0) (m := m__law_back) (io := none) (ro := false) (S := S__law_back) C.g__law_back C.d__law_back sc__law_back (by decide) (by simp only [S__law_back]; decide) (by simp only [S__law_back]; decide) (fun _ _ _ _ _ _ us hl => match us, hl with | [_], _ => rfl)
    (fun A outer s H E hr => by
      have tk := dX_takes (P := P) (w := w) (K := K) (mg := mg) (base := base) (N := N__law_back) (x := "_law_back") (st := s__law_back) (A := A) (outer := outer) (s := s) (H := H) (E := E)
      have hp := d_own (P := P) (w := w) (K := K) (mg := mg) (base := base) (N := N__law_back) (x := "_law_back") (st := s__law_back) (A := A) (outer := outer) (s := s) (H := H) (E := E)
      exact (ss_one (by exact sx_ret (by exact sd_callTy call_gTuple rfl C.b_tuple boot_tuple (by exact sa_cons (by exact sd_of (by exact so_comp (own := [("peg", 1), ("way", 2)]) rfl sc__law_back.nd (by exact sj_seq (by exact sd_rev (by exact sd_var 0))) (blkOk_by (N := N__law_back) (sc := defScope s__law_back) (own := [("peg", 1), ("way", 2)]) (by decide +kernel)) (fun _ _ _ _ _ => by exact (by exact sg_tup rfl (sg_cons (by exact sg_name 1 sc__law_back.nd) (sg_cons (by exact sg_name 2 sc__law_back.nd) (sg_nil))))) (fun _ _ _ _ _ => by exact (sc_nil)) (fun _ _ _ _ _ => by exact (by exact sd_tup (by exact sa_cons (by exact sd_var 1) (sa_cons (by exact sd_un un_gNeg (by exact sd_var 2)) (sa_nil))))))) (sa_nil))))))
  exact this
theorem hms_InvalidCord (ad : Addr) : ∃ ev, ms__law_fails ad "InvalidCord" (ev0 6 1 ad) = .ok (.rt (.str "cord"), ev) := by
  apply wordOf_ok
  simp [ms__law_fails, ev0, sSeq, sSetO, sSet, sApp, sRet, oLst, aNil, aCons, vals, toVal, eTup, eC, eVar, eOwn, vCall, gets, RV.get, lift, gIsE, adD, fnD, isb, oComp, compL, iLst, iSeq, seqOf, bTup, bCons, bName, bNil, tTru, truD, noErr, wipeE, backE, vOf, vIf, tOf, vBin, lstOf, sizeLine_eq]
  all_goals rfl
theorem D__law_fails (C : Facts K mg) : FailsOk P w K mg base "_law_fails" "call" "" wd := by
  obtain ⟨fd, Fd⟩ := C.d__law_fails
  have hB := Fd.bindsN (ps := ["call"]) (fun _ _ _ _ _ _ us hl => match us, hl with | [_], _ => rfl)
  have hk := Fd.kp
  obtain ⟨oc, od, dV, kV, doc, pm, an, cdv, ct, osl, rfl, lk, hcd, _, _⟩ := Fd.ex
  refine ⟨⟨_, _, _, _, dV, kV, doc, pm, cdv, ct, oc, an, od, osl, N__law_fails, C.g__law_fails, hk, lk, hcd, hB, sc__law_fails, rfl, .inl rfl, fun X q e1 e2 e3 e4 e5 => ?_⟩⟩
  subst e1 e2 e3 e4 e5
  refine fails_gives (SG := S__law_fails) (ie := 1) (ms := ms__law_fails) (wd := wd) rfl C.g_TautError rfl (by decide) rfl rfl (by decide) (fun _ => rfl) rfl rfl ?hex ?hms ?hsu
  case hex =>
    intro c Dc w e1 e2
    unfold wd at e1
    split at e1
    · rename_i z; subst z; cases e1; cases (C.g_InvalidCord.symm.trans e2); exact C.x_InvalidCord
    cases e1
  case hms =>
    intro ad c w e1
    unfold wd at e1
    split at e1
    · rename_i z; subst z; cases e1; exact hms_InvalidCord ad
    cases e1
  case hsu =>
    intro s H ad oe c Dc w pn e1 e2 hz hf hot hus
    unfold wd at e1
    split at e1
    · rename_i z; subst z; cases e1; cases (C.g_InvalidCord.symm.trans e2)
      have hisE := call_isD (X := failX X N__law_fails "_law_fails" (defScope s__law_fails) (He.ga X.K "_law_fails") cdv s H) (a := ad) (pn := pn) (b := isb "InvalidCord") C.i_InvalidCord hz hf (by
      intro c f k k1 k2
      unfold isb at k1
      rw [if_pos rfl] at k1
      split at k1
      · rename_i z; subst z; cases k1; cases (C.g_InvalidCord.symm.trans k2); exact C.k_InvalidCord_CC_InvalidCord
      cases k1)
      exact (ss_cons (by exact sx_seto 2 sc__law_fails.nd (by exact so_lst (by exact sa_nil))) (ss_cons (by exact sx_app 2 (by exact sd_tup (by exact sa_cons (by exact sd_str) (sa_cons (by exact sd_callB hisE rfl C.b_isinstance boot_isinstance (sa_cons (by exact sd_var 1) (sa_cons (sd_fn rfl C.g_InvalidCord) sa_nil))) (sa_nil))))) (ss_cons (by exact sx_compH 3 (own := [("word", 4), ("good", 5)]) hot sc__law_fails.nd (by exact sj_lstH (by exact sd_own 2)) (blkOk_by (N := N__law_fails) (sc := defScope s__law_fails) (own := [("word", 4), ("good", 5)]) (by decide +kernel)) (fun _ _ _ _ _ hq => by exact (by exact sg_tupH hq (sg_cons (by exact sg_name 4 sc__law_fails.nd) (sg_cons (by exact sg_name 5 sc__law_fails.nd) (sg_nil))))) (fun _ _ _ _ _ => by exact (sc_one (by exact st_tru (by exact sd_var 5)))) (fun _ _ _ _ _ => by exact (by exact sd_var 4))) (ss_one (by exact sx_ret (by exact sd_if (by exact st_cmp (op_gNe hus) (by exact sd_var 3) (by exact sd_of (by exact so_lst (by exact sa_nil)))) (by exact sd_join (by exact sd_str) (by exact sd_var 3)) (by exact sd_str)))))))
    cases e1
theorem D__law_round (C : Facts K mg) : DefOk P w K mg base 2 "_law_round" [] f__law_round := by
  have := def_ok (P := P) (w := w) (base := base) (k := 1) (m := m__law_round) (io := none) (ro := false) (S := S__law_round) C.g__law_round C.d__law_round sc__law_round (by decide) (by simp only [S__law_round]; decide) (by simp only [S__law_round]; decide) (fun _ _ _ _ _ _ us hl => match us, hl with | [_], _ => rfl)
    (fun A outer s H E hr => by
      have tk := dX_takes (P := P) (w := w) (K := K) (mg := mg) (base := base) (N := N__law_round) (x := "_law_round") (st := s__law_round) (A := A) (outer := outer) (s := s) (H := H) (E := E)
      have hp := d_own (P := P) (w := w) (K := K) (mg := mg) (base := base) (N := N__law_round) (x := "_law_round") (st := s__law_round) (A := A) (outer := outer) (s := s) (H := H) (E := E)
      exact (ss_cons (by exact sx_set 1 sc__law_round.nd (by exact sd_cal (D__law_reduced C) tk (hr.mono (by omega)) (.inl rfl) rfl (by exact sa_cons (by exact sd_var 0) (sa_nil)))) (ss_cons (by exact sx_for hp rfl (by exact sj_rng1 rfl C.b_range (by exact sa_cons (by exact sd_callB call_gLen rfl C.b_len boot_len (by exact sa_cons (by exact sd_var 1) (sa_nil))) (sa_nil))) (by exact sg_name 2 sc__law_round.nd) (ss_one (by exact sx_if (by exact pt_bool (sw_and (by exact st_cmp (op_gGt (room_hu hr)) (by exact sd_callB call_gLen rfl C.b_len boot_len (by exact sa_cons (by exact sd_var 1) (sa_nil))) (by exact sd_int)) (sw_and1 (by exact st_cmp (op_gEq (room_hu hr)) (by exact sd_ix (by exact sd_var 1) (by exact sd_int)) (by exact sd_tup (by exact sa_cons (by exact sd_ix (by exact sd_ix (by exact sd_var 1) (by exact sd_un un_gNeg (by exact sd_int))) (by exact sd_int)) (sa_cons (by exact sd_un un_gNeg (by exact sd_ix (by exact sd_ix (by exact sd_var 1) (by exact sd_un un_gNeg (by exact sd_int))) (by exact sd_int))) (sa_nil)))))))) (ss_one (by exact sx_set 1 sc__law_round.nd (by exact sd_sl (by exact sd_var 1) (sp_some (by exact sd_int)) (sp_some (by exact sd_un un_gNeg (by exact sd_int)))))) (ss_nil)))) (ss_one (by exact sx_ret (by exact sd_if (by exact st_cmp (op_gNe (room_hu hr)) (by exact sd_var 1) (by exact sd_tup (by exact sa_nil))) (by exact sd_callB (call_gMin rfl (room_hu hr)) rfl C.b_min boot_min (by exact sa_cons (by exact sd_of (by exact so_comp (own := [("at", 3)]) rfl sc__law_round.nd (by exact sj_rng1 rfl C.b_range (by exact sa_cons (by exact sd_callB call_gLen rfl C.b_len boot_len (by exact sa_cons (by exact sd_var 1) (sa_nil))) (sa_nil))) (blkOk_by (N := N__law_round) (sc := defScope s__law_round) (own := [("at", 3)]) (by decide +kernel)) (fun _ _ _ _ _ => by exact (by exact sg_name 3 sc__law_round.nd)) (fun _ _ _ _ _ => by exact (sc_nil)) (fun _ _ _ _ _ => by exact (by exact sd_bin op_gAdd (by exact sd_sl (by exact sd_var 1) (sp_some (by exact sd_var 3)) (sp_none)) (by exact sd_sl (by exact sd_var 1) (sp_none) (sp_some (by exact sd_var 3))))))) (sa_nil))) (by exact sd_tup (by exact sa_nil))))))))
  exact this
theorem D__law_is_turns (C : Facts K mg) : DefOk P w K mg base 2 "_law_is_turns" [] f__law_is_turns := by
  have := def_ok (P := P) (w := w) (base := base) (k := 1) (m := m__law_is_turns) (io := none) (ro := false) (S := S__law_is_turns) C.g__law_is_turns C.d__law_is_turns sc__law_is_turns (by decide) (by simp only [S__law_is_turns]; decide) (by simp only [S__law_is_turns]; decide) (fun _ _ _ _ _ _ us hl => match us, hl with | [_], _ => rfl)
    (fun A outer s H E hr => by
      have tk := dX_takes (P := P) (w := w) (K := K) (mg := mg) (base := base) (N := N__law_is_turns) (x := "_law_is_turns") (st := s__law_is_turns) (A := A) (outer := outer) (s := s) (H := H) (E := E)
      have hp := d_own (P := P) (w := w) (K := K) (mg := mg) (base := base) (N := N__law_is_turns) (x := "_law_is_turns") (st := s__law_is_turns) (A := A) (outer := outer) (s := s) (H := H) (E := E)
      exact (ss_cons (by exact sx_if (by exact pt_bool (sw_or (by exact st_not (by exact st_tru (by exact sd_isa "tuple" rfl C.b_isinstance rfl C.b_tuple boot_tuple (by exact sd_var 0)))) (sw_or1 (by exact st_cmp (op_gGt (room_hu hr)) (by exact sd_callB call_gLen rfl C.b_len boot_len (by exact sa_cons (by exact sd_var 0) (sa_nil))) (by exact sd_int))))) (ss_one (by exact sx_ret (by exact sd_bool))) (ss_nil)) (ss_cons (by exact sx_for hp rfl (by exact sj_seq (by exact sd_var 0)) (by exact sg_name 1 sc__law_is_turns.nd) (ss_cons (by exact sx_if (by exact pt_bool (sw_or (by exact st_not (by exact st_tru (by exact sd_isa "tuple" rfl C.b_isinstance rfl C.b_tuple boot_tuple (by exact sd_var 1)))) (sw_or (by exact st_cmp (op_gNe (room_hu hr)) (by exact sd_callB call_gLen rfl C.b_len boot_len (by exact sa_cons (by exact sd_var 1) (sa_nil))) (by exact sd_int)) (sw_or (by exact st_cmp (op_gNe (room_hu hr)) (by exact sd_cal (D__law_sort C) tk (hr.mono (by omega)) (.inl rfl) rfl (by exact sa_cons (by exact sd_ix (by exact sd_var 1) (by exact sd_int)) (sa_nil))) (by exact sd_int)) (sw_or1 (by exact st_cmp (op_gNe (room_hu hr)) (by exact sd_cal (D__law_sort C) tk (hr.mono (by omega)) (.inl rfl) rfl (by exact sa_cons (by exact sd_ix (by exact sd_var 1) (by exact sd_int)) (sa_nil))) (by exact sd_int))))))) (ss_one (by exact sx_ret (by exact sd_bool))) (ss_nil)) (ss_one (by exact sx_if (by exact pt_bool (sw_or (by exact st_not (by exact st_chain (op_gLe (room_hu hr)) (op_gLe (room_hu hr)) (by exact sd_int) (by exact sd_ix (by exact sd_var 1) (by exact sd_int)) (by exact sd_int))) (sw_or1 (by exact st_cmp (op_gNotIn (room_hu hr)) (by exact sd_ix (by exact sd_var 1) (by exact sd_int)) (by exact sd_tup (by exact sa_cons (by exact sd_int) (sa_cons (by exact sd_un un_gNeg (by exact sd_int)) (sa_nil)))))))) (ss_one (by exact sx_ret (by exact sd_bool))) (ss_nil))))) (ss_one (by exact sx_ret (by exact sd_bool))))))
  exact this
theorem D__law_is_turning (C : Facts K mg) : DefOk P w K mg base 3 "_law_is_turning" [] f__law_is_turning := by
  have := def_ok (P := P) (w := w) (base := base) (k := 2) (m := m__law_is_turning) (io := none) (ro := false) (S := S__law_is_turning) C.g__law_is_turning C.d__law_is_turning sc__law_is_turning (by decide) (by simp only [S__law_is_turning]; decide) (by simp only [S__law_is_turning]; decide) (fun _ _ _ _ _ _ us hl => match us, hl with | [_, _, _], _ => rfl)
    (fun A outer s H E hr => by
      have tk := dX_takes (P := P) (w := w) (K := K) (mg := mg) (base := base) (N := N__law_is_turning) (x := "_law_is_turning") (st := s__law_is_turning) (A := A) (outer := outer) (s := s) (H := H) (E := E)
      have hp := d_own (P := P) (w := w) (K := K) (mg := mg) (base := base) (N := N__law_is_turning) (x := "_law_is_turning") (st := s__law_is_turning) (A := A) (outer := outer) (s := s) (H := H) (E := E)
      exact (ss_one (by exact sx_ret (by exact sd_and (by exact sd_cal (D__law_is_turns C) tk (hr.mono (by omega)) (.inl rfl) rfl (by exact sa_cons (by exact sd_var 2) (sa_nil))) (sd_one (by exact sd_cmp (op_gEq (room_hu hr)) (by exact sd_cal (D__law_reduced C) tk (hr.mono (by omega)) (.inl rfl) rfl (by exact sa_cons (by exact sd_bin op_gAdd (by exact sd_bin op_gAdd (by exact sd_var 2) (by exact sd_var 0)) (by exact sd_cal (D__law_back C) tk (hr.mono (by omega)) (.inl rfl) rfl (by exact sa_cons (by exact sd_var 2) (sa_nil)))) (sa_nil))) (by exact sd_cal (D__law_reduced C) tk (hr.mono (by omega)) (.inl rfl) rfl (by exact sa_cons (by exact sd_var 1) (sa_nil)))))))))
  exact this
theorem D__law_right (C : Facts K mg) : DefOk P w K mg base 11 "_law_right" [] f__law_right := by
  have := def_ok (P := P) (w := w) (base := base) (k := 10) (m := m__law_right) (io := (some 0)) (ro := false) (S := S__law_right) C.g__law_right C.d__law_right sc__law_right (by decide) (by simp only [S__law_right]; decide) (by simp only [S__law_right]; decide) (fun _ _ _ _ _ _ us hl => match us, hl with | [_, _, _], _ => rfl)
    (fun A outer s H E hr => by
      have tk := dX_takes (P := P) (w := w) (K := K) (mg := mg) (base := base) (N := N__law_right) (x := "_law_right") (st := s__law_right) (A := A) (outer := outer) (s := s) (H := H) (E := E)
      have hp := d_own (P := P) (w := w) (K := K) (mg := mg) (base := base) (N := N__law_right) (x := "_law_right") (st := s__law_right) (A := A) (outer := outer) (s := s) (H := H) (E := E)
      exact (ss_cons (by exact sx_set 3 sc__law_right.nd (by exact sd_cmp (op_gEq (room_hu hr)) (by exact sd_cal (D__law_round C) tk (hr.mono (by omega)) (.inl rfl) rfl (by exact sa_cons (by exact sd_var 1) (sa_nil))) (by exact sd_cal (D__law_round C) tk (hr.mono (by omega)) (.inl rfl) rfl (by exact sa_cons (by exact sd_var 2) (sa_nil))))) (ss_cons (by exact sx_if (by exact st_not (by exact st_tru (by exact sd_cal (D__law_like C 8) tk (hr.mono (by omega)) (.inl rfl) rfl (by exact sa_cons (by exact sd_of (by exact so_lst (by exact sa_cons (by exact sd_cal (D_reduced_round C) tk (hr.mono (by omega)) (.inl rfl) rfl (by exact sa_cons (by exact sd_var 1) (sa_nil))) (sa_cons (by exact sd_cal (D_are_turnings C) tk (hr.mono (by omega)) (.inl rfl) rfl (by exact sa_cons (by exact sd_var 1) (sa_cons (by exact sd_var 2) (sa_nil)))) (sa_nil))))) (sa_cons (by exact sd_of (by exact so_lst (by exact sa_cons (by exact sd_cal (D__law_round C) tk (hr.mono (by omega)) (.inl rfl) rfl (by exact sa_cons (by exact sd_var 1) (sa_nil))) (sa_cons (by exact sd_var 3) (sa_nil))))) (sa_nil)))))) (ss_one (by exact sx_ret (by exact sd_bool))) (ss_nil)) (ss_cons (by exact sx_set 4 sc__law_right.nd (by exact sd_cal (D_turning_of C) tk (hr.mono (by omega)) (.inl rfl) rfl (by exact sa_cons (by exact sd_var 1) (sa_cons (by exact sd_var 2) (sa_nil))))) (ss_cons (by exact sx_if (by exact pt_bool (sw_or (by exact st_cmp (op_gNe (room_hu hr)) (by exact sd_cmp (op_gIsNot) (by exact sd_var 4) (by exact sd_none)) (by exact sd_var 3)) (sw_or1 (by exact pt_bool (sw_and (by exact st_cmp (op_gIsNot) (by exact sd_var 4) (by exact sd_none)) (sw_and1 (by exact st_not (by exact st_tru (by exact sd_cal (D__law_is_turning C) tk (hr.mono (by omega)) (.inl rfl) rfl (by exact sa_cons (by exact sd_var 1) (sa_cons (by exact sd_var 2) (sa_cons (by exact sd_var 4) (sa_nil))))))))))))) (ss_one (by exact sx_ret (by exact sd_bool))) (ss_nil)) (ss_cons (by exact sx_set 5 sc__law_right.nd (by exact sd_if (by exact pt_bool (sw_and (by exact st_cmp (op_gIsNot) (by exact sd_var 4) (by exact sd_none)) (sw_and1 (by exact st_cmp (op_gLt (room_hu hr)) (by exact sd_callB call_gLen rfl C.b_len boot_len (by exact sa_cons (by exact sd_var 4) (sa_nil))) (by exact sd_int))))) (by exact sd_var 4) (by exact sd_cal (D__law_cord C) tk (hr.mono (by omega)) (.inl rfl) rfl (by exact sa_cons (by exact sd_own 0) (sa_cons (by exact sd_of (by exact so_lst (by exact sa_cons (by exact sd_int) (sa_cons (by exact sd_int) (sa_cons (by exact sd_int) (sa_nil)))))) (sa_cons (by exact sd_int) (sa_nil))))))) (ss_cons (by exact sx_seto 6 sc__law_right.nd (by exact so_lst (by exact sa_cons (by exact sd_var 4) (sa_cons (by exact sd_var 5) (sa_cons (by exact sd_tup (by exact sa_nil)) (sa_cons (by exact sd_none) (sa_cons (by exact sd_of (by exact so_callTy call_gList rfl C.b_list boot_list (by exact sa_cons (by exact sd_var 5) (sa_nil)))) (sa_cons (by exact sd_sl (by exact sd_var 5) (sp_some (by exact sd_int)) (sp_none)) (sa_cons (by exact sd_rev (by exact sd_var 5)) (sa_cons (by exact sd_cal (D__law_back C) tk (hr.mono (by omega)) (.inl rfl) rfl (by exact sa_cons (by exact sd_var 5) (sa_nil))) (sa_cons (by exact sd_bin op_gAdd (by exact sd_var 5) (by exact sd_tup (by exact sa_cons (by exact sd_tup (by exact sa_cons (by exact sd_int) (sa_cons (by exact sd_int) (sa_nil)))) (sa_cons (by exact sd_tup (by exact sa_cons (by exact sd_int) (sa_cons (by exact sd_un un_gNeg (by exact sd_int)) (sa_nil)))) (sa_nil))))) (sa_nil)))))))))))) (ss_cons (by exact sx_app 6 (by exact sd_bin op_gAdd (by exact sd_tup (by exact sa_cons (by exact sd_tup (by exact sa_cons (by exact sd_int) (sa_cons (by exact sd_int) (sa_nil)))) (sa_nil))) (by exact sd_var 5))) (ss_cons (by exact sx_for hp rfl (by exact sj_seq (by exact sd_bin op_gAdd (by exact sd_own 6) (by exact sd_of (by exact so_lst (by exact sa_cons (by exact sd_tup (by exact sa_cons (by exact sd_tup (by exact sa_cons (by exact sd_bool) (sa_cons (by exact sd_int) (sa_nil)))) (sa_nil))) (sa_cons (by exact sd_tup (by exact sa_cons (by exact sd_tup (by exact sa_cons (by exact sd_int) (sa_cons (by exact sd_int) (sa_nil)))) (sa_nil))) (sa_cons (by exact sd_int) (sa_cons (by exact sd_cal (D__law_cord C) tk (hr.mono (by omega)) (.inl rfl) rfl (by exact sa_cons (by exact sd_own 0) (sa_cons (by exact sd_of (by exact so_lst (by exact sa_cons (by exact sd_int) (sa_cons (by exact sd_int) (sa_nil))))) (sa_cons (by exact sd_int) (sa_nil))))) (sa_cons (by exact sd_bin op_gMul (by exact sd_tup (by exact sa_cons (by exact sd_tup (by exact sa_cons (by exact sd_int) (sa_cons (by exact sd_int) (sa_nil)))) (sa_nil))) (by exact sd_int)) (sa_nil)))))))))) (by exact sg_name 7 sc__law_right.nd) (ss_one (by exact sx_if (by exact st_not (by exact st_tru (by exact sd_cal (D__law_like C 8) tk (hr.mono (by omega)) (.inl rfl) rfl (by exact sa_cons (by exact sd_cal (D_is_turning C) tk (hr.mono (by omega)) (.inl rfl) rfl (by exact sa_cons (by exact sd_var 1) (sa_cons (by exact sd_var 2) (sa_cons (by exact sd_var 7) (sa_nil))))) (sa_cons (by exact sd_cal (D__law_is_turning C) tk (hr.mono (by omega)) (.inl rfl) rfl (by exact sa_cons (by exact sd_var 1) (sa_cons (by exact sd_var 2) (sa_cons (by exact sd_var 7) (sa_nil))))) (sa_nil)))))) (ss_one (by exact sx_ret (by exact sd_bool))) (ss_nil)))) (ss_one (by exact sx_ret (by exact sd_bool))))))))))))
  exact this
theorem D__law_great (C : Facts K mg) : DefOk P w K mg base 6 "_law_great" [] f__law_great := by
  have := def_ok (P := P) (w := w) (base := base) (k := 5) (m := m__law_great) (io := (some 0)) (ro := false) (S := S__law_great) C.g__law_great C.d__law_great sc__law_great (by decide) (by simp only [S__law_great]; decide) (by simp only [S__law_great]; decide) (fun _ _ _ _ _ _ us hl => match us, hl with | [_], _ => rfl)
    (fun A outer s H E hr => by
      have tk := dX_takes (P := P) (w := w) (K := K) (mg := mg) (base := base) (N := N__law_great) (x := "_law_great") (st := s__law_great) (A := A) (outer := outer) (s := s) (H := H) (E := E)
      have hp := d_own (P := P) (w := w) (K := K) (mg := mg) (base := base) (N := N__law_great) (x := "_law_great") (st := s__law_great) (A := A) (outer := outer) (s := s) (H := H) (E := E)
      exact (ss_cons (by exact sx_par 1 2 rfl sc__law_great.nd (si_v (by exact sd_bin op_gAdd (by exact sd_int) (by exact sd_cal (D__law_roll C) tk (hr.mono (by omega)) (.inl rfl) rfl (by exact sa_cons (by exact sd_own 0) (sa_cons (by exact sd_int) (sa_nil))))) (si_v (by exact sd_bin op_gAdd (by exact sd_int) (by exact sd_cal (D__law_roll C) tk (hr.mono (by omega)) (.inl rfl) rfl (by exact sa_cons (by exact sd_own 0) (sa_cons (by exact sd_int) (sa_nil))))) (si_nil)))) (ss_cons (by exact sx_set 3 sc__law_great.nd (by exact sd_bin op_gAdd (by exact sd_callTy call_gTuple rfl C.b_tuple boot_tuple (by exact sa_cons (by exact sd_of (by exact so_comp (own := [("own", 7)]) rfl sc__law_great.nd (by exact sj_rng1 rfl C.b_range (by exact sa_cons (by exact sd_int) (sa_nil))) (blkOk_by (N := N__law_great) (sc := defScope s__law_great) (own := [("own", 7)]) (by decide +kernel)) (fun _ _ _ _ _ => by exact (by exact sg_name 7 sc__law_great.nd)) (fun _ _ _ _ _ => by exact (sc_nil)) (fun _ _ _ _ _ => by exact (by exact sd_tup (by exact sa_cons (by exact sd_bin op_gMod (by exact sd_callTy call_gInt rfl C.b_int boot_int (by exact sa_cons (by exact sd_var 7) (sa_nil))) (by exact sd_int)) (sa_cons (by exact sd_int) (sa_nil))))))) (sa_nil))) (by exact sd_tup (by exact sa_cons (by exact sd_tup (by exact sa_cons (by exact sd_int) (sa_cons (by exact sd_int) (sa_nil)))) (sa_nil))))) (ss_cons (by exact sx_set 4 sc__law_great.nd (by exact sd_bin op_gAdd (by exact sd_sl (by exact sd_var 3) (sp_some (by exact sd_var 1)) (sp_none)) (by exact sd_sl (by exact sd_var 3) (sp_none) (sp_some (by exact sd_var 1))))) (ss_cons (by exact sx_if (by exact pt_bool (sw_or (by exact st_cmp (op_gIsNot) (by exact sd_cal (D_are_turnings C) tk (hr.mono (by omega)) (.inl rfl) rfl (by exact sa_cons (by exact sd_var 3) (sa_cons (by exact sd_var 4) (sa_nil)))) (by exact sd_bool)) (sw_or1 (by exact st_not (by exact st_tru (by exact sd_cal (D__law_is_turning C) tk (hr.mono (by omega)) (.inl rfl) rfl (by exact sa_cons (by exact sd_var 3) (sa_cons (by exact sd_var 4) (sa_cons (by exact sd_cal (D_turning_of C) tk (hr.mono (by omega)) (.inl rfl) rfl (by exact sa_cons (by exact sd_var 3) (sa_cons (by exact sd_var 4) (sa_nil)))) (sa_nil)))))))))) (ss_one (by exact sx_ret (by exact sd_bool))) (ss_nil)) (ss_cons (by exact sx_if (by exact pt_bool (sw_or (by exact st_cmp (op_gNe (room_hu hr)) (by exact sd_cal (D_reduced_round C) tk (hr.mono (by omega)) (.inl rfl) rfl (by exact sa_cons (by exact sd_var 4) (sa_nil))) (by exact sd_var 3)) (sw_or1 (by exact st_cmp (op_gIsNot) (by exact sd_cal (D_are_turnings C) tk (hr.mono (by omega)) (.inl rfl) rfl (by exact sa_cons (by exact sd_var 3) (sa_cons (by exact sd_rev (by exact sd_var 3)) (sa_nil)))) (by exact sd_bool))))) (ss_one (by exact sx_ret (by exact sd_bool))) (ss_nil)) (ss_cons (by exact sx_if (by exact st_cmp (op_gIsNot) (by exact sd_cal (D_is_turning C) tk (hr.mono (by omega)) (.inl rfl) rfl (by exact sa_cons (by exact sd_var 3) (sa_cons (by exact sd_var 4) (sa_cons (by exact sd_cal (D__law_back C) tk (hr.mono (by omega)) (.inl rfl) rfl (by exact sa_cons (by exact sd_sl (by exact sd_var 3) (sp_none) (sp_some (by exact sd_var 1))) (sa_nil))) (sa_nil))))) (by exact sd_bool)) (ss_one (by exact sx_ret (by exact sd_bool))) (ss_nil)) (ss_cons (by exact sx_set 5 sc__law_great.nd (by exact sd_bin op_gMul (by exact sd_tup (by exact sa_cons (by exact sd_tup (by exact sa_cons (by exact sd_int) (sa_cons (by exact sd_int) (sa_nil)))) (sa_cons (by exact sd_tup (by exact sa_cons (by exact sd_int) (sa_cons (by exact sd_int) (sa_nil)))) (sa_nil)))) (by exact sd_int))) (ss_cons (by exact sx_set 6 sc__law_great.nd (by exact sd_bin op_gAdd (by exact sd_bin op_gAdd (by exact sd_sl (by exact sd_var 5) (sp_none) (sp_some (by exact sd_var 2))) (by exact sd_tup (by exact sa_cons (by exact sd_tup (by exact sa_cons (by exact sd_int) (sa_cons (by exact sd_int) (sa_nil)))) (sa_nil)))) (by exact sd_cal (D__law_back C) tk (hr.mono (by omega)) (.inl rfl) rfl (by exact sa_cons (by exact sd_sl (by exact sd_var 5) (sp_none) (sp_some (by exact sd_var 2))) (sa_nil))))) (ss_cons (by exact sx_if (by exact pt_bool (sw_or (by exact st_cmp (op_gNe (room_hu hr)) (by exact sd_cal (D_reduced_round C) tk (hr.mono (by omega)) (.inl rfl) rfl (by exact sa_cons (by exact sd_var 6) (sa_nil))) (by exact sd_tup (by exact sa_cons (by exact sd_tup (by exact sa_cons (by exact sd_int) (sa_cons (by exact sd_int) (sa_nil)))) (sa_nil)))) (sw_or1 (by exact st_not (by exact st_tru (by exact sd_cal (D__law_is_turning C) tk (hr.mono (by omega)) (.inl rfl) rfl (by exact sa_cons (by exact sd_var 6) (sa_cons (by exact sd_tup (by exact sa_cons (by exact sd_tup (by exact sa_cons (by exact sd_int) (sa_cons (by exact sd_int) (sa_nil)))) (sa_nil))) (sa_cons (by exact sd_cal (D_turning_of C) tk (hr.mono (by omega)) (.inl rfl) rfl (by exact sa_cons (by exact sd_var 6) (sa_cons (by exact sd_tup (by exact sa_cons (by exact sd_tup (by exact sa_cons (by exact sd_int) (sa_cons (by exact sd_int) (sa_nil)))) (sa_nil))) (sa_nil)))) (sa_nil)))))))))) (ss_one (by exact sx_ret (by exact sd_bool))) (ss_nil)) (ss_one (by exact sx_ret (by exact sd_and (by exact sd_cmp (op_gIs) (by exact sd_cal (D_are_turnings C) tk (hr.mono (by omega)) (.inl rfl) rfl (by exact sa_cons (by exact sd_var 6) (sa_cons (by exact sd_tup (by exact sa_cons (by exact sd_tup (by exact sa_cons (by exact sd_int) (sa_cons (by exact sd_un un_gNeg (by exact sd_int)) (sa_nil)))) (sa_nil))) (sa_nil)))) (by exact sd_bool)) (sd_one (by exact sd_cmp (op_gIs) (by exact sd_cal (D_is_turning C) tk (hr.mono (by omega)) (.inl rfl) rfl (by exact sa_cons (by exact sd_tup (by exact sa_cons (by exact sd_tup (by exact sa_cons (by exact sd_int) (sa_cons (by exact sd_int) (sa_nil)))) (sa_nil))) (sa_cons (by exact sd_var 6) (sa_cons (by exact sd_sl (by exact sd_var 5) (sp_none) (sp_some (by exact sd_var 2))) (sa_nil))))) (by exact sd_bool))))))))))))))))
  exact this
theorem hD__law_errors (C : Facts K mg) {T0 : List (Addr × Str)} : ∀ y f, tbl__law_errors y = some f → ∃ T', DefOk P w K mg base 5 y T' f ∧ (T' = [] ∨ T' = T0) := by
  intro y f h
  unfold tbl__law_errors at h
  split at h
  · rename_i e; subst e; cases h; exact ⟨[], (D_are_turnings C).mono (by decide), .inl rfl⟩
  split at h
  · rename_i e; subst e; cases h; exact ⟨[], (D_turning_of C).mono (by decide), .inl rfl⟩
  cases h
theorem D__law_errors (C : Facts K mg) (TB : TBs K mg base) : DefOk P w K mg base 8 "_law_errors" (T0of K) f__law_errors := by
  have := def_ok (P := P) (w := w) (base := base) (k := 7) (m := m__law_errors) (io := (some 0)) (ro := false) (S := S__law_errors (T0of K)) C.g__law_errors C.d__law_errors sc__law_errors (by decide) (by simp only [S__law_errors]; decide) (by simp only [S__law_errors]; decide) (fun _ _ _ _ _ _ us hl => match us, hl with | [_], _ => rfl)
    (fun A outer s H E hr => by
      have tk := dX_takes (P := P) (w := w) (K := K) (mg := mg) (base := base) (N := N__law_errors) (x := "_law_errors") (st := s__law_errors) (A := A) (outer := outer) (s := s) (H := H) (E := E)
      have hp := d_own (P := P) (w := w) (K := K) (mg := mg) (base := base) (N := N__law_errors) (x := "_law_errors") (st := s__law_errors) (A := A) (outer := outer) (s := s) (H := H) (E := E)
      exact (ss_cons (by exact sx_upar [1, 2] rfl (si_v (by exact sd_cal (D__law_some C) tk (hr.mono (by omega)) (.inl rfl) rfl (by exact sa_cons (by exact sd_own 0) (sa_cons (by exact sd_of (by exact so_lst (by exact sa_cons (by exact sd_bin op_gMul (by exact sd_tup (by exact sa_cons (by exact sd_tup (by exact sa_cons (by exact sd_int) (sa_cons (by exact sd_int) (sa_nil)))) (sa_nil))) (by exact sd_int)) (sa_cons (by exact sd_tup (by exact sa_cons (by exact sd_tup (by exact sa_cons (by exact sd_int) (sa_cons (by exact sd_int) (sa_nil)))) (sa_nil))) (sa_cons (by exact sd_tup (by exact sa_cons (by exact sd_tup (by exact sa_cons (by exact sd_int) (sa_cons (by exact sd_int) (sa_nil)))) (sa_nil))) (sa_cons (by exact sd_tup (by exact sa_cons (by exact sd_tup (by exact sa_cons (by exact sd_bool) (sa_cons (by exact sd_int) (sa_nil)))) (sa_nil))) (sa_cons (by exact sd_of (by exact so_lst (by exact sa_cons (by exact sd_tup (by exact sa_cons (by exact sd_int) (sa_cons (by exact sd_int) (sa_nil)))) (sa_nil)))) (sa_cons (by exact sd_none) (sa_nil))))))))) (sa_nil)))) (si_o (by exact so_lst (by exact sa_nil)) (si_nil))) (sn_cons 1 sc__law_errors.nd (sn_cons 2 sc__law_errors.nd (sn_nil)))) (ss_cons (by exact sx_app 2 (by exact sd_fails (k := 5) (D__law_fails C) rfl (TB _ (by decide)) rfl (hmT__law_errors K) (hu__law_errors K) (hr.mono (by omega)) (by apply lamS_by; show lamSB (defScope s__law_errors) _ = true; decide +kernel) (fun A outer s H E f c' hr2 => by exact (by exact sd_cal (D_reduced_round C) lamN_takes (hr2.mono (by omega)) (.inl rfl) rfl (by exact sa_cons (by exact sd_var 1) (sa_nil)))))) (ss_cons (by exact sx_for hp rfl (by exact sj_seq (by exact sd_tup (by exact sa_cons (by exact sd_fn rfl C.g_are_turnings) (sa_cons (by exact sd_fn rfl C.g_turning_of) (sa_nil))))) (by exact sg_name 3 sc__law_errors.nd) (ss_one (by exact sx_seto 2 sc__law_errors.nd (by exact sd_obin op_gCat (by exact sd_own 2) (by exact sd_of (by exact so_comp (own := [("one", 4), ("other", 5)]) (hv := by simp only [S__law_errors]; decide) rfl sc__law_errors.nd (by exact sj_seq (by exact sd_tup (by exact sa_cons (by exact sd_tup (by exact sa_cons (by exact sd_var 1) (sa_cons (by exact sd_tup (by exact sa_nil)) (sa_nil)))) (sa_cons (by exact sd_tup (by exact sa_cons (by exact sd_tup (by exact sa_nil)) (sa_cons (by exact sd_var 1) (sa_nil)))) (sa_cons (by exact sd_tup (by exact sa_cons (by exact sd_var 1) (sa_cons (by exact sd_none) (sa_nil)))) (sa_nil)))))) (blkOk_by (N := N__law_errors) (sc := defScope s__law_errors) (own := [("one", 4), ("other", 5)]) (by decide +kernel)) (fun _ _ _ _ _ => by exact (by exact sg_tup rfl (sg_cons (by exact sg_name 4 sc__law_errors.nd) (sg_cons (by exact sg_name 5 sc__law_errors.nd) (sg_nil))))) (fun _ _ _ _ _ => by exact (sc_nil)) (fun _ _ _ _ _ => by exact (by exact sd_fails (k := 5) (D__law_fails C) rfl (TB _ (by decide)) rfl (hmT__law_errors K) (hu__law_errors K) (hr.mono (by omega)) (by apply lamS_by; show lamSB (relS _ (defScope s__law_errors)) _ = true; decide +kernel) (fun A outer s H E f c' hr2 => by exact (by exact sd_calV (k := 5) 3 (hD__law_errors C) lamN_takes (hr2.mono (by omega)) (by exact sa_cons (by exact sd_var 4) (sa_cons (by exact sd_var 5) (sa_nil))))))))))))) (ss_cons (by exact sx_seto 2 sc__law_errors.nd (by exact sd_obin op_gCat (by exact sd_own 2) (by exact sd_of (by exact so_comp (own := [("one", 4), ("other", 5)]) (hv := by simp only [S__law_errors]; decide) rfl sc__law_errors.nd (by exact sj_seq (by exact sd_tup (by exact sa_cons (by exact sd_tup (by exact sa_cons (by exact sd_var 1) (sa_cons (by exact sd_tup (by exact sa_nil)) (sa_nil)))) (sa_cons (by exact sd_tup (by exact sa_cons (by exact sd_tup (by exact sa_nil)) (sa_cons (by exact sd_var 1) (sa_nil)))) (sa_nil))))) (blkOk_by (N := N__law_errors) (sc := defScope s__law_errors) (own := [("one", 4), ("other", 5)]) (by decide +kernel)) (fun _ _ _ _ _ => by exact (by exact sg_tup rfl (sg_cons (by exact sg_name 4 sc__law_errors.nd) (sg_cons (by exact sg_name 5 sc__law_errors.nd) (sg_nil))))) (fun _ _ _ _ _ => by exact (sc_nil)) (fun _ _ _ _ _ => by exact (by exact sd_fails (k := 5) (D__law_fails C) rfl (TB _ (by decide)) rfl (hmT__law_errors K) (hu__law_errors K) (hr.mono (by omega)) (by apply lamS_by; show lamSB (relS _ (defScope s__law_errors)) _ = true; decide +kernel) (fun A outer s H E f c' hr2 => by exact (by exact sd_cal (D_is_turning C) lamN_takes (hr2.mono (by omega)) (.inl rfl) rfl (by exact sa_cons (by exact sd_var 4) (sa_cons (by exact sd_var 5) (sa_cons (by exact sd_none) (sa_nil)))))))))))) (ss_one (by exact sx_ret (by exact sd_cmp (op_gEq (room_hu hr)) (by exact sd_own 2) (by exact sd_of (by exact so_rep (by exact so_lst (by exact sa_cons (by exact sd_str) (sa_nil)))))))))))))
  exact this
theorem F_law (C : Facts K mg) (TB : TBs K mg base) {fd : FuncData} (Fd : FunD K "law" "law" (defArgs s_law) (defBody s_law) (defScope s_law) [] [] (He.ga K "law") fd) : FnOk P w K mg base (L2N.CX P w) 12 (He.ga K "law") fd ["script"] (spF K mg (T0of K) f_law) := by
  have := def_okF (P := P) (w := w) (mg := mg) (base := base) (k := 11) (m := m_law) (io := none) (ro := false) (S := S_law (T0of K)) Fd sc_law (by decide) (by simp only [S_law]; decide) (by simp only [S_law]; decide)
    (fun A outer s H E hr => by
      have tk := dX_takes (P := P) (w := w) (K := K) (mg := mg) (base := base) (N := N_law) (x := "law") (st := s_law) (A := A) (outer := outer) (s := s) (H := H) (E := E)
      have hp := d_own (P := P) (w := w) (K := K) (mg := mg) (base := base) (N := N_law) (x := "law") (st := s_law) (A := A) (outer := outer) (s := s) (H := H) (E := E)
      exact (ss_cons (by exact sx_seto 1 sc_law.nd (by exact so_cal (D__law_cup C) tk (hr.mono (by omega)) (.inl rfl) rfl (by exact sa_cons (by exact sd_var 0) (sa_nil)))) (ss_cons (by exact sx_for hp rfl (by exact sj_rng1 rfl C.b_range (by exact sa_cons (by exact sd_int) (sa_nil))) (by exact sg_name 2 sc_law.nd) (ss_cons (by exact sx_set 5 sc_law.nd (by exact sd_cal (D__law_some C) tk (hr.mono (by omega)) (.inl rfl) rfl (by exact sa_cons (by exact sd_own 1) (sa_cons (by exact sd_of (by exact so_lst (by exact sa_cons (by exact sd_of (by exact so_lst (by exact sa_cons (by exact sd_int) (sa_cons (by exact sd_int) (sa_nil))))) (sa_cons (by exact sd_of (by exact so_lst (by exact sa_cons (by exact sd_int) (sa_cons (by exact sd_int) (sa_cons (by exact sd_int) (sa_nil)))))) (sa_cons (by exact sd_of (by exact so_lst (by exact sa_cons (by exact sd_int) (sa_nil)))) (sa_nil)))))) (sa_nil))))) (ss_cons (by exact sx_par 6 7 rfl sc_law.nd (si_v (by exact sd_cal (D__law_cord C) tk (hr.mono (by omega)) (.inl rfl) rfl (by exact sa_cons (by exact sd_own 1) (sa_cons (by exact sd_var 5) (sa_cons (by exact sd_int) (sa_nil))))) (si_v (by exact sd_cal (D__law_cord C) tk (hr.mono (by omega)) (.inl rfl) rfl (by exact sa_cons (by exact sd_own 1) (sa_cons (by exact sd_var 5) (sa_cons (by exact sd_int) (sa_nil))))) (si_nil)))) (ss_cons (by exact sx_set 8 sc_law.nd (by exact sd_cal (D__law_reduced C) tk (hr.mono (by omega)) (.inl rfl) rfl (by exact sa_cons (by exact sd_var 6) (sa_nil)))) (ss_cons (by exact sx_set 9 sc_law.nd (by exact sd_cal (D__law_roll C) tk (hr.mono (by omega)) (.inl rfl) rfl (by exact sa_cons (by exact sd_own 1) (sa_cons (by exact sd_bin op_gAdd (by exact sd_callB call_gLen rfl C.b_len boot_len (by exact sa_cons (by exact sd_var 8) (sa_nil))) (by exact sd_int)) (sa_nil))))) (ss_cons (by exact sx_set 10 sc_law.nd (by exact sd_of (by exact so_lst (by exact sa_cons (by exact sd_cal (D__law_cord C) tk (hr.mono (by omega)) (.inl rfl) rfl (by exact sa_cons (by exact sd_own 1) (sa_cons (by exact sd_var 5) (sa_cons (by exact sd_int) (sa_nil))))) (sa_cons (by exact sd_bin op_gAdd (by exact sd_bin op_gAdd (by exact sd_var 7) (by exact sd_var 6)) (by exact sd_cal (D__law_back C) tk (hr.mono (by omega)) (.inl rfl) rfl (by exact sa_cons (by exact sd_var 7) (sa_nil)))) (sa_cons (by exact sd_bin op_gAdd (by exact sd_sl (by exact sd_var 8) (sp_some (by exact sd_var 9)) (sp_none)) (by exact sd_sl (by exact sd_var 8) (sp_none) (sp_some (by exact sd_var 9)))) (sa_cons (by exact sd_cal (D__law_back C) tk (hr.mono (by omega)) (.inl rfl) rfl (by exact sa_cons (by exact sd_var 6) (sa_nil))) (sa_cons (by exact sd_rev (by exact sd_var 6)) (sa_nil))))))))) (ss_one (by exact sx_if (by exact pt_bool (sw_or (by exact st_not (by exact st_tru (by exact sd_cal (D__law_right C) tk (hr.mono (by omega)) (.inl rfl) rfl (by exact sa_cons (by exact sd_own 1) (sa_cons (by exact sd_var 6) (sa_cons (by exact sd_cal (D__law_some C) tk (hr.mono (by omega)) (.inl rfl) rfl (by exact sa_cons (by exact sd_own 1) (sa_cons (by exact sd_var 10) (sa_nil)))) (sa_nil))))))) (sw_or1 (by exact st_not (by exact st_tru (by exact sd_cal (D__law_right C) tk (hr.mono (by omega)) (.inl rfl) rfl (by exact sa_cons (by exact sd_own 1) (sa_cons (by exact sd_var 6) (sa_cons (by exact sd_bin op_gAdd (by exact sd_bin op_gAdd (by exact sd_bin op_gAdd (by exact sd_var 7) (by exact sd_sl (by exact sd_var 8) (sp_some (by exact sd_var 9)) (sp_none))) (by exact sd_sl (by exact sd_var 8) (sp_none) (sp_some (by exact sd_var 9)))) (by exact sd_cal (D__law_back C) tk (hr.mono (by omega)) (.inl rfl) rfl (by exact sa_cons (by exact sd_var 7) (sa_nil)))) (sa_nil)))))))))) (ss_one (by exact sx_ret (by exact sd_bool))) (ss_nil))))))))) (ss_cons (by exact sx_set 3 sc_law.nd (by exact sd_tup (by exact sa_cons (by exact sd_tup (by exact sa_cons (by exact sd_int) (sa_cons (by exact sd_int) (sa_nil)))) (sa_cons (by exact sd_tup (by exact sa_cons (by exact sd_int) (sa_cons (by exact sd_int) (sa_nil)))) (sa_cons (by exact sd_tup (by exact sa_cons (by exact sd_int) (sa_cons (by exact sd_un un_gNeg (by exact sd_int)) (sa_nil)))) (sa_cons (by exact sd_tup (by exact sa_cons (by exact sd_int) (sa_cons (by exact sd_un un_gNeg (by exact sd_int)) (sa_nil)))) (sa_nil))))))) (ss_cons (by exact sx_set 4 sc_law.nd (by exact sd_of (by exact so_lst (by exact sa_cons (by exact sd_cal (D_reduced_round C) tk (hr.mono (by omega)) (.inl rfl) rfl (by exact sa_cons (by exact sd_tup (by exact sa_cons (by exact sd_tup (by exact sa_cons (by exact sd_int) (sa_cons (by exact sd_int) (sa_nil)))) (sa_cons (by exact sd_tup (by exact sa_cons (by exact sd_int) (sa_cons (by exact sd_int) (sa_nil)))) (sa_cons (by exact sd_tup (by exact sa_cons (by exact sd_int) (sa_cons (by exact sd_un un_gNeg (by exact sd_int)) (sa_nil)))) (sa_nil))))) (sa_nil))) (sa_cons (by exact sd_cal (D_reduced_round C) tk (hr.mono (by omega)) (.inl rfl) rfl (by exact sa_cons (by exact sd_var 3) (sa_nil))) (sa_cons (by exact sd_cal (D_are_turnings C) tk (hr.mono (by omega)) (.inl rfl) rfl (by exact sa_cons (by exact sd_var 3) (sa_cons (by exact sd_bin op_gAdd (by exact sd_sl (by exact sd_var 3) (sp_some (by exact sd_int)) (sp_none)) (by exact sd_sl (by exact sd_var 3) (sp_none) (sp_some (by exact sd_int)))) (sa_nil)))) (sa_nil))))))) (ss_cons (by exact sx_set 4 sc_law.nd (by exact sd_bin op_gAdd (by exact sd_var 4) (by exact sd_of (by exact so_lst (by exact sa_cons (by exact sd_cal (D_are_turnings C) tk (hr.mono (by omega)) (.inl rfl) rfl (by exact sa_cons (by exact sd_var 3) (sa_cons (by exact sd_cal (D__law_back C) tk (hr.mono (by omega)) (.inl rfl) rfl (by exact sa_cons (by exact sd_var 3) (sa_nil))) (sa_nil)))) (sa_cons (by exact sd_cal (D_is_turning C) tk (hr.mono (by omega)) (.inl rfl) rfl (by exact sa_cons (by exact sd_var 3) (sa_cons (by exact sd_bin op_gAdd (by exact sd_sl (by exact sd_var 3) (sp_some (by exact sd_int)) (sp_none)) (by exact sd_sl (by exact sd_var 3) (sp_none) (sp_some (by exact sd_int)))) (sa_cons (by exact sd_tup (by exact sa_cons (by exact sd_tup (by exact sa_cons (by exact sd_int) (sa_cons (by exact sd_un un_gNeg (by exact sd_int)) (sa_nil)))) (sa_nil))) (sa_nil))))) (sa_cons (by exact sd_cal (D_reduced_round C) tk (hr.mono (by omega)) (.inl rfl) rfl (by exact sa_cons (by exact sd_tup (by exact sa_nil)) (sa_nil))) (sa_nil)))))))) (ss_cons (by exact sx_if (by exact st_not (by exact st_tru (by exact sd_cal (D__law_like C 8) tk (hr.mono (by omega)) (.inl rfl) rfl (by exact sa_cons (by exact sd_var 4) (sa_cons (by exact sd_of (by exact so_lst (by exact sa_cons (by exact sd_tup (by exact sa_cons (by exact sd_tup (by exact sa_cons (by exact sd_int) (sa_cons (by exact sd_int) (sa_nil)))) (sa_nil))) (sa_cons (by exact sd_tup (by exact sa_cons (by exact sd_tup (by exact sa_cons (by exact sd_int) (sa_cons (by exact sd_un un_gNeg (by exact sd_int)) (sa_nil)))) (sa_cons (by exact sd_tup (by exact sa_cons (by exact sd_int) (sa_cons (by exact sd_un un_gNeg (by exact sd_int)) (sa_nil)))) (sa_cons (by exact sd_tup (by exact sa_cons (by exact sd_int) (sa_cons (by exact sd_int) (sa_nil)))) (sa_cons (by exact sd_tup (by exact sa_cons (by exact sd_int) (sa_cons (by exact sd_int) (sa_nil)))) (sa_nil)))))) (sa_cons (by exact sd_bool) (sa_cons (by exact sd_bool) (sa_cons (by exact sd_bool) (sa_cons (by exact sd_tup (by exact sa_nil)) (sa_nil))))))))) (sa_nil)))))) (ss_one (by exact sx_ret (by exact sd_bool))) (ss_nil)) (ss_cons (by exact sx_if (by exact st_cmp (op_gIsNot) (by exact sd_cal (D_are_turnings C) tk (hr.mono (by omega)) (.inl rfl) rfl (by exact sa_cons (by exact sd_tup (by exact sa_cons (by exact sd_tup (by exact sa_cons (by exact sd_int) (sa_cons (by exact sd_int) (sa_nil)))) (sa_cons (by exact sd_tup (by exact sa_cons (by exact sd_int) (sa_cons (by exact sd_int) (sa_nil)))) (sa_cons (by exact sd_tup (by exact sa_cons (by exact sd_int) (sa_cons (by exact sd_int) (sa_nil)))) (sa_cons (by exact sd_tup (by exact sa_cons (by exact sd_int) (sa_cons (by exact sd_int) (sa_nil)))) (sa_nil)))))) (sa_cons (by exact sd_bin op_gMul (by exact sd_tup (by exact sa_cons (by exact sd_tup (by exact sa_cons (by exact sd_int) (sa_cons (by exact sd_int) (sa_nil)))) (sa_cons (by exact sd_tup (by exact sa_cons (by exact sd_int) (sa_cons (by exact sd_int) (sa_nil)))) (sa_nil)))) (by exact sd_int)) (sa_nil)))) (by exact sd_bool)) (ss_one (by exact sx_ret (by exact sd_bool))) (ss_nil)) (ss_cons (by exact sx_if (by exact st_not (by exact st_tru (by exact sd_cal (D__law_right C) tk (hr.mono (by omega)) (.inl rfl) rfl (by exact sa_cons (by exact sd_own 1) (sa_cons (by exact sd_bin op_gMul (by exact sd_tup (by exact sa_cons (by exact sd_tup (by exact sa_cons (by exact sd_int) (sa_cons (by exact sd_int) (sa_nil)))) (sa_cons (by exact sd_tup (by exact sa_cons (by exact sd_int) (sa_cons (by exact sd_int) (sa_nil)))) (sa_nil)))) (by exact sd_int)) (sa_cons (by exact sd_bin op_gMul (by exact sd_tup (by exact sa_cons (by exact sd_tup (by exact sa_cons (by exact sd_int) (sa_cons (by exact sd_int) (sa_nil)))) (sa_cons (by exact sd_tup (by exact sa_cons (by exact sd_int) (sa_cons (by exact sd_int) (sa_nil)))) (sa_nil)))) (by exact sd_int)) (sa_nil))))))) (ss_one (by exact sx_ret (by exact sd_bool))) (ss_nil)) (ss_cons (by exact sx_if (by exact pt_bool (sw_or (by exact st_not (by exact st_tru (by exact sd_cal (D__law_right C) tk (hr.mono (by omega)) (.inl rfl) rfl (by exact sa_cons (by exact sd_own 1) (sa_cons (by exact sd_tup (by exact sa_nil)) (sa_cons (by exact sd_tup (by exact sa_cons (by exact sd_tup (by exact sa_cons (by exact sd_int) (sa_cons (by exact sd_int) (sa_nil)))) (sa_cons (by exact sd_tup (by exact sa_cons (by exact sd_int) (sa_cons (by exact sd_un un_gNeg (by exact sd_int)) (sa_nil)))) (sa_nil)))) (sa_nil))))))) (sw_or1 (by exact st_not (by exact st_tru (by exact sd_cal (D__law_right C) tk (hr.mono (by omega)) (.inl rfl) rfl (by exact sa_cons (by exact sd_own 1) (sa_cons (by exact sd_tup (by exact sa_nil)) (sa_cons (by exact sd_tup (by exact sa_cons (by exact sd_tup (by exact sa_cons (by exact sd_int) (sa_cons (by exact sd_int) (sa_nil)))) (sa_nil))) (sa_nil)))))))))) (ss_one (by exact sx_ret (by exact sd_bool))) (ss_nil)) (ss_one (by exact sx_ret (by exact sd_and (by exact sd_cal (D__law_great C) tk (hr.mono (by omega)) (.inl rfl) rfl (by exact sa_cons (by exact sd_own 1) (sa_nil))) (sd_one (by exact sd_cal (D__law_errors C TB) tk (hr.mono (by omega)) (.inr rfl) rfl (by exact sa_cons (by exact sd_own 1) (sa_nil)))))))))))))))))
  exact this
end
end WL

set_option Elab.async false
set_option linter.all false
set_option maxRecDepth 100000
set_option maxHeartbeats 0
/-! the head of k66_whole_closed_cords; written by gen.py. -/
namespace WL
open PySem PySem.Spec PyProof.Rows L2 HotX L2H LamX TL
def dD (x : Str) (st : Stmt) : He.DefD := ⟨(x, none), x, x, defArgs st, defBody st, defScope st, [], []⟩
def fn : List He.DefD := [dD "is_whole" s_is_whole, dD "is_tuple_of" s_is_tuple_of, dD "is_turn" s_is_turn, dD "is_cord" s_is_cord, dD "need_cord" s_need_cord, dD "are_opposite" s_are_opposite, dD "back_of" s_back_of, dD "reduced_row" s_reduced_row, dD "core_of" s_core_of, dD "turned_rows" s_turned_rows, dD "round_of" s_round_of, dD "reduced_round" s_reduced_round, dD "are_turnings" s_are_turnings, dD "turning_of" s_turning_of, dD "is_turning" s_is_turning, dD "_law_cup" s__law_cup, dD "_law_roll" s__law_roll, dD "_law_some" s__law_some, dD "_law_sort" s__law_sort, dD "_law_like" s__law_like, dD "_law_cord" s__law_cord, dD "_law_reduced" s__law_reduced, dD "_law_back" s__law_back, dD "_law_fails" s__law_fails, dD "_law_round" s__law_round, dD "_law_is_turns" s__law_is_turns, dD "_law_is_turning" s__law_is_turning, dD "_law_right" s__law_right, dD "_law_great" s__law_great, dD "_law_errors" s__law_errors, dD "law" s_law]
def fa : List He.Fa := [.free "isinstance", .free "int", .free "bool", .free "tuple", .free "len", .int "PEGS" (8), .int "TURNS" (400), .free "all", .exc "InvalidCord", .glo "InvalidCord", .free "max", .free "range", .free "min", .free "list", .free "abs", .free "str", .free "zip", .glo "turning_of", .glo "are_turnings", .glo "is_whole", .glo "is_tuple_of", .glo "is_turn", .glo "is_cord", .glo "need_cord", .glo "are_opposite", .glo "back_of", .glo "reduced_row", .glo "core_of", .glo "turned_rows", .glo "round_of", .glo "reduced_round", .glo "is_turning", .glo "_law_cup", .glo "_law_roll", .glo "_law_some", .glo "_law_sort", .glo "_law_like", .glo "_law_cord", .glo "_law_reduced", .glo "_law_back", .glo "_law_fails", .glo "TautError", .glo "_law_round", .glo "_law_is_turns", .glo "_law_is_turning", .glo "_law_right", .glo "_law_great", .glo "_law_errors", .glo "law", .exm "InvalidCord" "TautError" true]
def tf : List He.Defn := [("_law_errors", none)]
def exL (K : PySem.W.Frag) : List Bool := [excCB K (He.ga K "InvalidCord"), decide (PySem.W.kitOne K (.ref (He.ga K "InvalidCord")) (.ref (He.ga K "InvalidCord")) = some true)]
def ex (K : PySem.W.Frag) : Bool := (exL K).all id
theorem exAt {K : PySem.W.Frag} {b : Bool} (i : Nat) (h : ex K = true) (e : (exL K)[i]? = some b := by rfl) : b = true := List.all_eq_true.mp h b (List.mem_of_getElem? e)
abbrev RO : PySem.W.OpenRow := PySem.W.OpenLaw.row PySem.Challenge.rw_tautlines_k66_whole_closed_cords
abbrev hk : PySem.W.Hook := He.hookX 5 fa fn [] tf ex
def ob (s : PySem.W.SharedT) : He.AlX := He.obsX 5 fa fn [] tf ex (HandSHeadRun.getT s)
theorem ob_eq (s : PySem.W.SharedT) : ob s = hk.obs s.abs := He.obsX_eq (HandSHeadRun.getT_eq s)
def loose0 : List Str := ["TautError", "InvalidCord", "is_whole", "is_tuple_of", "PEGS", "TURNS", "is_turn", "is_cord", "need_cord", "are_opposite", "back_of", "reduced_row", "core_of", "turned_rows", "round_of", "reduced_round", "are_turnings", "turning_of", "is_turning", "_law_cup", "_law_roll", "_law_some", "_law_sort", "_law_like", "_law_cord", "_law_reduced", "_law_back", "_law_fails", "_law_round", "_law_is_turns"]
def loose1 : List Str := ["_law_is_turning", "_law_right", "_law_great", "_law_errors"]
def loose : List Str := loose0 ++ loose1
theorem run (w : World) : HandSHeadRun.RunEq RO (PySem.W.view RO.prog [39]) hk ob 6000 loose w := by
  intro os
  kernel_rfl
theorem facts_of {w : World} {K : PySem.W.Frag} {h : Heap} {mg : Str → Option Value} (X : K.In h) (G : h.Ns mainGlobals mg) (c : He.SaysX fa fn [] tf ex w h K) : Facts K mg where
  b_isinstance := He.free_ok X G (c.t.d.fact 0 (f := .free "isinstance") rfl)
  b_int := He.free_ok X G (c.t.d.fact 1 (f := .free "int") rfl)
  b_bool := He.free_ok X G (c.t.d.fact 2 (f := .free "bool") rfl)
  b_tuple := He.free_ok X G (c.t.d.fact 3 (f := .free "tuple") rfl)
  b_len := He.free_ok X G (c.t.d.fact 4 (f := .free "len") rfl)
  c_PEGS := He.int_ok X G (c.t.d.fact 5 (f := .int "PEGS" (8)) rfl)
  c_TURNS := He.int_ok X G (c.t.d.fact 6 (f := .int "TURNS" (400)) rfl)
  b_all := He.free_ok X G (c.t.d.fact 7 (f := .free "all") rfl)
  e_InvalidCord := He.exc_ok (c.t.d.fact 8 (f := .exc "InvalidCord") rfl)
  g_InvalidCord := He.glo_ok X G (c.t.d.fact 9 (f := .glo "InvalidCord") rfl)
  b_max := He.free_ok X G (c.t.d.fact 10 (f := .free "max") rfl)
  b_range := He.free_ok X G (c.t.d.fact 11 (f := .free "range") rfl)
  b_min := He.free_ok X G (c.t.d.fact 12 (f := .free "min") rfl)
  b_list := He.free_ok X G (c.t.d.fact 13 (f := .free "list") rfl)
  b_abs := He.free_ok X G (c.t.d.fact 14 (f := .free "abs") rfl)
  b_str := He.free_ok X G (c.t.d.fact 15 (f := .free "str") rfl)
  b_zip := He.free_ok X G (c.t.d.fact 16 (f := .free "zip") rfl)
  g_turning_of := He.glo_ok X G (c.t.d.fact 17 (f := .glo "turning_of") rfl)
  g_are_turnings := He.glo_ok X G (c.t.d.fact 18 (f := .glo "are_turnings") rfl)
  g_is_whole := He.glo_ok X G (c.t.d.fact 19 (f := .glo "is_whole") rfl)
  d_is_whole := c.t.d.def_ 0 (d := dD "is_whole" s_is_whole) rfl
  g_is_tuple_of := He.glo_ok X G (c.t.d.fact 20 (f := .glo "is_tuple_of") rfl)
  d_is_tuple_of := c.t.d.def_ 1 (d := dD "is_tuple_of" s_is_tuple_of) rfl
  g_is_turn := He.glo_ok X G (c.t.d.fact 21 (f := .glo "is_turn") rfl)
  d_is_turn := c.t.d.def_ 2 (d := dD "is_turn" s_is_turn) rfl
  g_is_cord := He.glo_ok X G (c.t.d.fact 22 (f := .glo "is_cord") rfl)
  d_is_cord := c.t.d.def_ 3 (d := dD "is_cord" s_is_cord) rfl
  g_need_cord := He.glo_ok X G (c.t.d.fact 23 (f := .glo "need_cord") rfl)
  d_need_cord := c.t.d.def_ 4 (d := dD "need_cord" s_need_cord) rfl
  g_are_opposite := He.glo_ok X G (c.t.d.fact 24 (f := .glo "are_opposite") rfl)
  d_are_opposite := c.t.d.def_ 5 (d := dD "are_opposite" s_are_opposite) rfl
  g_back_of := He.glo_ok X G (c.t.d.fact 25 (f := .glo "back_of") rfl)
  d_back_of := c.t.d.def_ 6 (d := dD "back_of" s_back_of) rfl
  g_reduced_row := He.glo_ok X G (c.t.d.fact 26 (f := .glo "reduced_row") rfl)
  d_reduced_row := c.t.d.def_ 7 (d := dD "reduced_row" s_reduced_row) rfl
  g_core_of := He.glo_ok X G (c.t.d.fact 27 (f := .glo "core_of") rfl)
  d_core_of := c.t.d.def_ 8 (d := dD "core_of" s_core_of) rfl
  g_turned_rows := He.glo_ok X G (c.t.d.fact 28 (f := .glo "turned_rows") rfl)
  d_turned_rows := c.t.d.def_ 9 (d := dD "turned_rows" s_turned_rows) rfl
  g_round_of := He.glo_ok X G (c.t.d.fact 29 (f := .glo "round_of") rfl)
  d_round_of := c.t.d.def_ 10 (d := dD "round_of" s_round_of) rfl
  g_reduced_round := He.glo_ok X G (c.t.d.fact 30 (f := .glo "reduced_round") rfl)
  d_reduced_round := c.t.d.def_ 11 (d := dD "reduced_round" s_reduced_round) rfl
  d_are_turnings := c.t.d.def_ 12 (d := dD "are_turnings" s_are_turnings) rfl
  d_turning_of := c.t.d.def_ 13 (d := dD "turning_of" s_turning_of) rfl
  g_is_turning := He.glo_ok X G (c.t.d.fact 31 (f := .glo "is_turning") rfl)
  d_is_turning := c.t.d.def_ 14 (d := dD "is_turning" s_is_turning) rfl
  g__law_cup := He.glo_ok X G (c.t.d.fact 32 (f := .glo "_law_cup") rfl)
  d__law_cup := c.t.d.def_ 15 (d := dD "_law_cup" s__law_cup) rfl
  g__law_roll := He.glo_ok X G (c.t.d.fact 33 (f := .glo "_law_roll") rfl)
  d__law_roll := c.t.d.def_ 16 (d := dD "_law_roll" s__law_roll) rfl
  g__law_some := He.glo_ok X G (c.t.d.fact 34 (f := .glo "_law_some") rfl)
  d__law_some := c.t.d.def_ 17 (d := dD "_law_some" s__law_some) rfl
  g__law_sort := He.glo_ok X G (c.t.d.fact 35 (f := .glo "_law_sort") rfl)
  d__law_sort := c.t.d.def_ 18 (d := dD "_law_sort" s__law_sort) rfl
  g__law_like := He.glo_ok X G (c.t.d.fact 36 (f := .glo "_law_like") rfl)
  d__law_like := c.t.d.def_ 19 (d := dD "_law_like" s__law_like) rfl
  g__law_cord := He.glo_ok X G (c.t.d.fact 37 (f := .glo "_law_cord") rfl)
  d__law_cord := c.t.d.def_ 20 (d := dD "_law_cord" s__law_cord) rfl
  g__law_reduced := He.glo_ok X G (c.t.d.fact 38 (f := .glo "_law_reduced") rfl)
  d__law_reduced := c.t.d.def_ 21 (d := dD "_law_reduced" s__law_reduced) rfl
  g__law_back := He.glo_ok X G (c.t.d.fact 39 (f := .glo "_law_back") rfl)
  d__law_back := c.t.d.def_ 22 (d := dD "_law_back" s__law_back) rfl
  g__law_fails := He.glo_ok X G (c.t.d.fact 40 (f := .glo "_law_fails") rfl)
  d__law_fails := c.t.d.def_ 23 (d := dD "_law_fails" s__law_fails) rfl
  g_TautError := He.glo_ok X G (c.t.d.fact 41 (f := .glo "TautError") rfl)
  g__law_round := He.glo_ok X G (c.t.d.fact 42 (f := .glo "_law_round") rfl)
  d__law_round := c.t.d.def_ 24 (d := dD "_law_round" s__law_round) rfl
  g__law_is_turns := He.glo_ok X G (c.t.d.fact 43 (f := .glo "_law_is_turns") rfl)
  d__law_is_turns := c.t.d.def_ 25 (d := dD "_law_is_turns" s__law_is_turns) rfl
  g__law_is_turning := He.glo_ok X G (c.t.d.fact 44 (f := .glo "_law_is_turning") rfl)
  d__law_is_turning := c.t.d.def_ 26 (d := dD "_law_is_turning" s__law_is_turning) rfl
  g__law_right := He.glo_ok X G (c.t.d.fact 45 (f := .glo "_law_right") rfl)
  d__law_right := c.t.d.def_ 27 (d := dD "_law_right" s__law_right) rfl
  g__law_great := He.glo_ok X G (c.t.d.fact 46 (f := .glo "_law_great") rfl)
  d__law_great := c.t.d.def_ 28 (d := dD "_law_great" s__law_great) rfl
  g__law_errors := He.glo_ok X G (c.t.d.fact 47 (f := .glo "_law_errors") rfl)
  d__law_errors := c.t.d.def_ 29 (d := dD "_law_errors" s__law_errors) rfl
  g_law := He.glo_ok X G (c.t.d.fact 48 (f := .glo "law") rfl)
  d_law := c.t.d.def_ 30 (d := dD "law" s_law) rfl
  x_InvalidCord := He.exm_ok (c.t.d.fact 49 (f := .exm "InvalidCord" "TautError" true) rfl)
  i_InvalidCord := excCB_ok (exAt 0 c.more)
  k_InvalidCord_CC_InvalidCord := of_decide_eq_true (exAt 1 c.more)
theorem bindL {K : PySem.W.Frag} {f : Addr} {fd : FuncData} (F : FunD K "law" "law" (defArgs s_law) (defBody s_law) (defScope s_law) [] [] f fd) (s : Shared) (u : Value) : BindsTo s fd ⟨[u], []⟩ [("script", u)] := F.bindsA (ps := ["script"]) (fun _ _ _ _ _ _ us hl => match us, hl with | [_], _ => rfl) s [u] rfl
/-- the law's meaning at every script is True: the row holds -/
theorem holds_of (hm : ∀ ns : List Int, ns.length ≤ 63 → (∀ z ∈ ns, Builtin.Int.intBits z ≤ 1048576) → ∃ o, f_law.m [scD ns] = .ok (.bool true, o)) : PySem.Challenge.rw_tautlines_k66_whole_closed_cords.Holds := by
  open PySem.W in
  w_on; o_law
  refine HandSHeadRun.head_any (r := RO) (q := PySem.W.view RO.prog [39]) (H := hk) (ob := ob) (M := 6000) (loose := loose) (d := HandSHeadRun.topDef RO.prog 39) (kwd := []) ob_eq
    (by kernel_rfl) (fun s => by kernel_rfl) run (by kernel_rfl) (by kernel_rfl) (by kernel_rfl) (by rfl) (by first | assumption | decide +kernel) (by decide +kernel) ⟨rfl, rfl, rfl, rfl, rfl, by decide +kernel⟩ ?hw ?hc
  case hw => w_witness2
  case hc =>
    refine LamX.walk_ofTsE (l := PySem.Challenge.rw_tautlines_k66_whole_closed_cords) (n := 63) (k := 12) (x := "script") (CX := fun w => L2N.CX PR w) rfl (by decide) (by kernel_rfl) ⟨rfl, by decide, by decide⟩ ?F (fun _ _ _ _ _ z => by obtain ⟨_, _, _, _, _, _, _, _, _, _, _, _, z⟩ := z; exact z)
    intro w mg fa0 h Y G hmg0
    obtain ⟨K, KX, c⟩ := Y
    have C := facts_of KX G c
    have hmg : mg ("law" : PySem.Str) = some (.ref fa0) := by
      have e : (HandSHeadRun.topDef RO.prog 39).name = ("law" : PySem.Str) := by kernel_rfl
      rw [← e]
      exact hmg0
    have hg := C.g_law
    obtain ⟨fd, Fd⟩ := C.d_law
    rw [hmg] at hg
    cases hg
    refine ⟨K, KX, fd, tf.map (He.cT K), spF K mg (T0of K) f_law, fun p hp => ?_, fun p hp => ?_, fun p hp => ?_, bindL Fd, fun H a ns hl hbits hT hS => ?_, fun base b1 b2 b3 => ?_⟩
    · obtain ⟨y, hy, rfl⟩ := List.mem_map.mp hp; exact c.empty y hy
    · obtain ⟨y, hy, rfl⟩ := List.mem_map.mp hp; exact c.out y hy
    · obtain ⟨y, hy, rfl⟩ := List.mem_map.mp hp; exact PySem.W.codeHd_of_K KX (c.hd y hy)
    · obtain ⟨o, ho⟩ := hm ns hl hbits
      exact sp_law ho (fun p hp => by
        unfold T0of at hp
        simp only [List.mem_cons, List.not_mem_nil, or_false] at hp
        rcases hp with rfl
        · exact hT (He.cT K ("_law_errors", none)) (List.mem_map.mpr ⟨("_law_errors", none), by simp [tf], rfl⟩)) hS
    · exact F_law C (fun x hx => b3 (He.cT K (x, none)) (List.mem_map.mpr ⟨(x, none), by revert hx; simp [tf], rfl⟩)) Fd
end WL

set_option Elab.async false
set_option linter.all false
/-! free words: turns about pegs, reduction by a stack. -/
namespace Wd
abbrev Tn := Int × Int
def inv1 (x : Tn) : Tn := (x.1, -x.2)
@[simp] theorem inv1_inv1 (x : Tn) : inv1 (inv1 x) = x := by unfold inv1; simp
theorem inv1_eq {x y : Tn} : y = inv1 x ↔ x = inv1 y := ⟨fun h => by rw [h, inv1_inv1], fun h => by rw [h, inv1_inv1]⟩
/-- the stack, its top first -/
def push (s : List Tn) (x : Tn) : List Tn := match s with
  | y :: s' => if y = inv1 x then s' else x :: y :: s'
  | [] => [x]
def act (s w : List Tn) : List Tn := w.foldl push s
def red (w : List Tn) : List Tn := (act [] w).reverse
def inv (w : List Tn) : List Tn := (w.map inv1).reverse
def Red : List Tn → Prop
  | y :: z :: s => z ≠ inv1 y ∧ Red (z :: s)
  | _ => True
theorem Red.tail {y : Tn} {s : List Tn} (h : Red (y :: s)) : Red s := by
  cases s with
  | nil => trivial
  | cons z s => exact h.2
theorem red_push {s : List Tn} (h : Red s) (x : Tn) : Red (push s x) := by
  cases s with
  | nil => trivial
  | cons y s =>
    unfold push
    by_cases e : y = inv1 x
    · simp only [e, if_true]; exact h.tail
    · simp only [e, if_false]; exact ⟨fun z => e z, h⟩
theorem cancel {s : List Tn} (h : Red s) (x : Tn) : push (push s x) (inv1 x) = s := by
  cases s with
  | nil => simp [push]
  | cons y s =>
    by_cases e : y = inv1 x
    · have e1 : push (y :: s) x = s := by simp [push, e]
      rw [e1]
      cases s with
      | nil => simp [push, e]
      | cons z s =>
        have : ¬ z = inv1 (inv1 x) := by rw [inv1_inv1]; intro q; exact h.1 (by rw [q, e, inv1_inv1])
        show (if z = inv1 (inv1 x) then s else inv1 x :: z :: s) = _
        rw [if_neg this, e]
    · have e1 : push (y :: s) x = x :: y :: s := by simp [push, e]
      rw [e1]
      simp [push]
theorem act_app (s u v : List Tn) : act s (u ++ v) = act (act s u) v := by simp [act, List.foldl_append]
theorem act_cons (s : List Tn) (x : Tn) (v : List Tn) : act s (x :: v) = act (push s x) v := rfl
theorem red_act {s : List Tn} (h : Red s) (w : List Tn) : Red (act s w) := by
  induction w generalizing s with
  | nil => exact h
  | cons x w ih => exact ih (red_push h x)
/-- the same word -/
def Eqv (u v : List Tn) : Prop := ∀ s, Red s → act s u = act s v
theorem Eqv.refl (u : List Tn) : Eqv u u := fun _ _ => rfl
theorem Eqv.symm {u v : List Tn} (h : Eqv u v) : Eqv v u := fun s r => (h s r).symm
theorem Eqv.trans {u v w : List Tn} (h : Eqv u v) (k : Eqv v w) : Eqv u w := fun s r => (h s r).trans (k s r)
theorem Eqv.app {u v u' v' : List Tn} (h : Eqv u u') (k : Eqv v v') : Eqv (u ++ v) (u' ++ v') := fun s r => by
  rw [act_app, act_app, h s r]
  exact k _ (red_act r _)
theorem inv_app (u v : List Tn) : inv (u ++ v) = inv v ++ inv u := by simp [inv]
@[simp] theorem inv_inv (u : List Tn) : inv (inv u) = u := by
  have : inv1 ∘ inv1 = id := funext fun x => by simp
  simp [inv, List.map_reverse, this]
theorem eqv_inv (w : List Tn) : Eqv (w ++ inv w) [] := by
  induction w with
  | nil => exact Eqv.refl _
  | cons x w ih =>
    intro s r
    have e : (x :: w) ++ inv (x :: w) = x :: ((w ++ inv w) ++ [inv1 x]) := by simp [inv]
    rw [e, act_cons, act_app, ih _ (red_push r x)]
    exact cancel r x
theorem eqv_inv' (w : List Tn) : Eqv (inv w ++ w) [] := by
  have := eqv_inv (inv w)
  rwa [inv_inv] at this
theorem Eqv.inv {u v : List Tn} (h : Eqv u v) : Eqv (Wd.inv u) (Wd.inv v) := by
  have a : Eqv (Wd.inv u) (Wd.inv u ++ (v ++ Wd.inv v)) := by
    have := (Eqv.refl (Wd.inv u)).app (eqv_inv v).symm
    rwa [List.append_nil] at this
  have b : Eqv (Wd.inv u ++ (v ++ Wd.inv v)) ((Wd.inv u ++ u) ++ Wd.inv v) := by
    rw [← List.append_assoc]
    exact ((Eqv.refl _).app h.symm).app (Eqv.refl _)
  have c : Eqv ((Wd.inv u ++ u) ++ Wd.inv v) (Wd.inv v) := by
    have := (eqv_inv' u).app (Eqv.refl (Wd.inv v))
    rwa [List.nil_append] at this
  exact (a.trans b).trans c
theorem red_snoc (w : List Tn) (x : Tn) : act [] (w ++ [x]) = push (act [] w) x := by rw [act_app]; rfl
theorem eqv_red' (s : List Tn) (hs : Red s) : ∀ w : List Tn, act s (w.reverse) = act s (red w.reverse)
  | [] => rfl
  | x :: w => by
    have ih := eqv_red' s hs w
    rw [List.reverse_cons, act_app]
    unfold red at ih ⊢
    rw [red_snoc, ih]
    generalize act [] w.reverse = t
    show push (act s t.reverse) x = _
    cases t with
    | nil => rfl
    | cons y t =>
      by_cases e : y = inv1 x
      · have e1 : push (y :: t) x = t := by simp [push, e]
        have e2 : x = inv1 y := inv1_eq.mp e
        rw [e1, List.reverse_cons, act_app]
        show push (push (act s t.reverse) y) x = _
        rw [e2]
        exact cancel (red_act hs _) y
      · have e1 : push (y :: t) x = x :: y :: t := by simp [push, e]
        rw [e1]
        simp only [List.reverse_cons]
        rw [act_app _ (t.reverse ++ [y]) [x]]
        rfl
theorem eqv_red (w : List Tn) : Eqv w (red w) := fun s hs => by
  have := eqv_red' s hs w.reverse
  rwa [List.reverse_reverse] at this
theorem red_of_eqv {u v : List Tn} (h : Eqv u v) : red u = red v := by unfold red; rw [h [] trivial]
theorem eqv_of_red {u v : List Tn} (h : red u = red v) : Eqv u v := (eqv_red u).trans (by rw [h]; exact (eqv_red v).symm)
/-- what turning_of gives turns one into the other -/
theorem turning_law {one other f1 c1 f2 a b : List Tn} (h1 : red one = f1 ++ (a ++ b) ++ inv f1) (h2 : red other = f2 ++ (b ++ a) ++ inv f2) :
    red (red (f2 ++ inv a ++ inv f1) ++ one ++ inv (red (f2 ++ inv a ++ inv f1))) = red other := by
  refine red_of_eqv ?_
  have e1 : Eqv one (f1 ++ (a ++ b) ++ inv f1) := by rw [← h1]; exact eqv_red one
  have e2 : Eqv other (f2 ++ (b ++ a) ++ inv f2) := by rw [← h2]; exact eqv_red other
  have t : Eqv (red (f2 ++ inv a ++ inv f1)) (f2 ++ inv a ++ inv f1) := (eqv_red _).symm
  have s1 := (t.app e1).app t.inv
  refine s1.trans (Eqv.trans ?_ e2.symm)
  rw [inv_app, inv_app, inv_inv, inv_inv]
  -- f2 a' f1' f1 a b f1' f1 a f2'
  have k1 : Eqv (f2 ++ inv a ++ inv f1 ++ (f1 ++ (a ++ b) ++ inv f1) ++ (f1 ++ (a ++ inv f2))) (f2 ++ ((inv a ++ ((inv f1 ++ f1) ++ a)) ++ (b ++ ((inv f1 ++ f1) ++ (a ++ inv f2))))) := by
    have : f2 ++ inv a ++ inv f1 ++ (f1 ++ (a ++ b) ++ inv f1) ++ (f1 ++ (a ++ inv f2)) = f2 ++ ((inv a ++ ((inv f1 ++ f1) ++ a)) ++ (b ++ ((inv f1 ++ f1) ++ (a ++ inv f2)))) := by simp [List.append_assoc]
    rw [this]; exact Eqv.refl _
  have n1 : ∀ x : List Tn, Eqv ((inv f1 ++ f1) ++ x) x := fun x => by
    have := (eqv_inv' f1).app (Eqv.refl x)
    rwa [List.nil_append] at this
  have k2 : Eqv (inv a ++ ((inv f1 ++ f1) ++ a)) [] := ((Eqv.refl (inv a)).app (n1 a)).trans (eqv_inv' a)
  have k3 : Eqv (b ++ ((inv f1 ++ f1) ++ (a ++ inv f2))) (b ++ (a ++ inv f2)) := (Eqv.refl b).app (n1 _)
  have k4 := (Eqv.refl f2).app (k2.app k3)
  refine k1.trans (k4.trans ?_)
  have : f2 ++ ([] ++ (b ++ (a ++ inv f2))) = f2 ++ (b ++ a) ++ inv f2 := by simp [List.append_assoc]
  rw [this]; exact Eqv.refl _
end Wd

set_option Elab.async false
set_option linter.all false
set_option maxRecDepth 100000
set_option maxHeartbeats 4000000
namespace WL
open PySem PySem.Spec PyProof.Rows L2 HotX L2H LamX TL Wd
local macro_rules | `(tactic| walk_at "ev") => `(tactic| simp [bodyM, sSeq, sIf, sSet, sSetO, sRet, sRetO, sRetS, sRetN, sApp, sPop, sDrop, sRaise, sUnp, sPar, sNext, oLst, oCall, oBin, oRep, vOf, aNil, aCons, eTup, eC, eVar, eOwn, vCall, vUn, vBin, vAn, vOrr, vNo, vIf, vChain, tOf, tTru, tNo, tAn, tOrr, ioGet, List.replicate, eCall, oCallF, chkN, z_call1, z_call2, z_call3, z_io1, z_io2, z_io3, vSl, pNone, pSome, sizeLine_eq, wipeE, backE])
theorem isa_tt {xs : List D} (h : PyData.plainAll xs = true) : gIsa "tuple" (.tuple xs) = some (.bool true) := by unfold gIsa isaD; simp [PyData.plain, h, PySem.PyData.isTuple]
theorem isa_ii {i : Int} : gIsa "int" (.int i) = some (.bool true) := by simp [gIsa, isaD, PyData.plain, PySem.PyData.isInt]
theorem isa_bi {i : Int} : gIsa "bool" (.int i) = some (.bool false) := by simp [gIsa, isaD, PyData.plain, PySem.PyData.isBool]
@[simp] theorem v_is_tuple (xs : List D) (lo hi : Int) (hp : PyData.plainAll xs = true) : f_is_tuple_of.m [.tuple xs, .int lo, .int hi] = .ok (.bool (decide (lo ≤ xs.length) && decide ((xs.length : Int) ≤ hi)), .none) := by
  unfold f_is_tuple_of m_is_tuple_of
  walk_at "ev"
  simp [isa_tt hp]
  by_cases h : lo ≤ xs.length <;> simp [h]
@[simp] theorem v_is_whole (i lo hi : Int) : f_is_whole.m [.int i, .int lo, .int hi] = .ok (.bool (decide (lo ≤ i) && decide (i ≤ hi)), .none) := by
  unfold f_is_whole m_is_whole
  walk_at "ev"
  simp [isa_ii, isa_bi]
  by_cases h : lo ≤ i <;> simp [h]
def tD (p : Tn) : D := .tuple [.int p.1, .int p.2]
def okT (p : Tn) : Bool := decide (0 ≤ p.1) && decide (p.1 ≤ 7) && (decide (-1 ≤ p.2) && decide (p.2 ≤ 1) && !(p.2 == 0))
@[simp] theorem pl_nil : PyData.plainAll [] = true := rfl
@[simp] theorem pl_cons {x : D} {xs : List D} : PyData.plainAll (x :: xs) = (x.plain && PyData.plainAll xs) := rfl
@[simp] theorem pl_i {i : Int} : (PyData.int i).plain = true := rfl
@[simp] theorem pl_b {i : Bool} : (PyData.bool i).plain = true := rfl
@[simp] theorem pl_t {xs : List D} : (PyData.tuple xs).plain = PyData.plainAll xs := rfl
@[simp] theorem pl_l {xs : List D} : (PyData.list xs).plain = PyData.plainAll xs := rfl
@[simp] theorem v_is_turn (p : Tn) : f_is_turn.m [tD p] = .ok (.bool (okT p), .none) := by
  show bodyM 1 none false m_is_turn _ = _
  unfold m_is_turn tD okT
  walk_at "ev"
  cases decide (0 ≤ p.1) <;> cases decide (p.1 ≤ 7) <;> walk_at "ev"
  cases decide (-1 ≤ p.2) <;> cases decide (p.2 ≤ 1) <;> simp
def rD (r : List Tn) : D := .tuple (r.map tD)
theorem pl_r (r : List Tn) : PyData.plainAll (r.map tD) = true := by
  induction r with
  | nil => rfl
  | cons p r ih => simp [tD, ih]
@[simp] theorem pl_rD (r : List Tn) : (rD r).plain = true := pl_r r
def okC (r : List Tn) : Bool := decide (r.length ≤ 400) && r.all okT
@[simp] theorem v_is_cord (r : List Tn) : f_is_cord.m [rD r] = .ok (.bool (okC r), .none) := by
  show bodyM 2 none false m_is_cord _ = _
  unfold m_is_cord rD okC
  walk_at "ev"
  simp [pl_r]
  by_cases h : (r.length : Int) ≤ 400
  · have h' : r.length ≤ 400 := by omega
    simp only [h, h', decide_true, cond_true, Bool.true_and]
    rw [oComp_map (enc := tD) (f := fun p => .bool (okT p)) (xs := r) (by unfold iSeq; walk_at "ev") (by rw [sizeLine_eq]; omega) (fun a ha => ⟨_, rfl, by walk_at "ev", by simp [wipeE]⟩) rfl]
    walk_at "ev"
    have : boolsOf (List.map (fun p => PyData.bool (okT p)) r) = some (r.map okT) := by
      rw [← bools_map (r.map okT), List.map_map]; rfl
    simp [gAll, this]
  · have h' : ¬ r.length ≤ 400 := by omega
    simp [h, h']
@[simp] theorem v_opp (p s : Tn) : f_are_opposite.m [tD p, tD s] = .ok (.bool (decide (p = inv1 s)), .none) := by
  show bodyM 2 none false m_are_opposite _ = _
  have e : decide (p = inv1 s) = (p.1 == s.1 && p.2 == -s.2) := by
    unfold inv1
    rw [Bool.eq_iff_iff]
    simp [Prod.ext_iff]
  unfold m_are_opposite tD
  walk_at "ev"
  rw [e]
  cases p.1 == s.1 <;> simp
@[simp] theorem v_back (r : List Tn) (h : r.length ≤ 16777216) : f_back_of.m [rD r] = .ok (rD (inv r), .none) := by
  show bodyM 3 none false m_back_of _ = _
  unfold m_back_of rD
  walk_at "ev"
  rw [oComp_map (enc := tD) (f := fun p => tD (inv1 p)) (xs := r.reverse) (by unfold iSeq; walk_at "ev") (by rw [sizeLine_eq]; simpa using h) (fun a ha => ⟨_, rfl, by walk_at "ev"; rfl, by simp [wipeE]⟩) rfl]
  walk_at "ev"
  simp [inv, List.map_reverse]
/-- need_cord -/
theorem v_need (r : List Tn) (h : okC r = true) : f_need_cord.m [rD r] = .ok (.none, .none) := by
  show bodyM 1 none false m_need_cord _ = _
  unfold m_need_cord
  walk_at "ev"
  simp [h]
theorem dep_r (r : List Tn) : PyData.depthAll (r.map tD) ≤ 1 := by
  induction r with
  | nil => simp [PyData.depthAll]
  | cons p r ih => simp only [List.map_cons, PyData.depthAll, tD, PyData.depth]; omega
theorem okD_tD (r : List Tn) : okD (.list (r.map tD)) = true := by
  have := dep_r r
  unfold okD
  rw [Bool.and_eq_true]
  exact ⟨pl_r r, decide_eq_true (by show PyData.depthAll (r.map tD) + 1 ≤ 60; omega)⟩
theorem okD_rD (r : List Tn) : okD (rD r) = true := by
  have := dep_r r
  unfold okD
  rw [Bool.and_eq_true]
  exact ⟨pl_r r, decide_eq_true (by show PyData.depthAll (r.map tD) + 1 ≤ 60; omega)⟩
theorem okD_nil : okD (.list []) = true := rfl
theorem ne_nil (r : List Tn) : gNe (.list (r.map tD)) (.list []) = some (.bool (!r.isEmpty)) := by
  unfold gNe
  rw [okD_tD, okD_nil]
  cases r <;> simp [PyData.eqv, PyData.eqvAll]
theorem at_last (s : List Tn) (y : Tn) : atI ((y :: s).reverse.map tD) (-1) = some (tD y) := by
  rw [z_atm (by simp)]
  simp
theorem v_reduced (r : List Tn) (h : r.length ≤ 16777216) : f_reduced_row.m [rD r] = .ok (rD (red r), .none) := by
  show bodyM 3 none false m_reduced_row _ = _
  unfold m_reduced_row rD
  walk_at "ev"
  unfold sFor iSeq
  walk_at "ev"
  obtain ⟨ev', e1, x, rfl, hl⟩ := forL_ix (b := bName 2) (body := sIf (tAn (tOf (vBin gNe (eOwn 1) (vOf (oLst aNil)))) (tTru (eCall f_are_opposite (chkN 2 (aCons (vBin gIx (eOwn 1) (vUn gNeg (eC (PyData.int 1)))) (aCons (eVar 2) aNil)))))) (sPop 1) (sApp 1 (eVar 2)))
    (enc := tD) push (fun n s ev => ∃ x, ev = [some (.tuple (r.map tD)), some (.list (s.reverse.map tD)), x] ∧ s.length ≤ n) (xs := r) 0 (s := []) (ev := [some (.tuple (r.map tD)), some (.list []), none]) (fun i a ha s ev hI => by
      obtain ⟨x, rfl, hl⟩ := hI
      have hi : i < r.length := (List.getElem?_eq_some_iff.mp ha).1
      refine ⟨_, [some (.tuple (r.map tD)), some (.list ((push s a).reverse.map tD)), some (tD a)], .nx, rfl, ?_, .inl rfl, some (tD a), rfl, ?_⟩
      · cases s with
        | nil =>
          have h0 := ne_nil []
          simp at h0
          walk_at "ev"
          simp [h0, push]
        | cons y s =>
          have h0 := ne_nil (y :: s).reverse
          have h1 := at_last s y
          simp at h0 h1
          walk_at "ev"
          have h2 : (s.reverse ++ [y]).isEmpty = false := by cases s.reverse <;> rfl
          simp [h0, h1, h2]
          walk_at "ev"
          simp at hl
          by_cases e : y = inv1 a
          · simp [e, push]
          · simp [e, push]
            omega
      · cases s with
        | nil => simp [push]
        | cons y s => simp only [push]; split <;> simp at hl ⊢ <;> omega) ⟨_, rfl, by simp⟩
  rw [e1]
  walk_at "ev"
  simp [red, act, List.map_reverse]
end WL

set_option Elab.async false
set_option linter.all false
set_option maxRecDepth 100000
set_option maxHeartbeats 4000000
namespace WL
open PySem PySem.Spec PyProof.Rows L2 HotX L2H LamX TL Wd
local macro_rules | `(tactic| walk_at "ev") => `(tactic| simp [bodyM, sSeq, sIf, sSet, sSetO, sRet, sRetO, sRetS, sRetN, sApp, sPop, sDrop, sRaise, sUnp, sPar, sNext, oLst, oCall, oBin, oRep, vOf, aNil, aCons, eTup, eC, eVar, eOwn, vCall, vUn, vBin, vAn, vOrr, vNo, vIf, vChain, tOf, tTru, tNo, tAn, tOrr, ioGet, List.replicate, eCall, oCallF, chkN, z_call1, z_call2, z_call3, z_io1, z_io2, z_io3, vSl, pNone, pSome, sizeLine_eq, wipeE, backE])
/-! ### the order of rows -/
def tl (p q : Tn) : Bool := decide (p.1 < q.1 ∨ (p.1 = q.1 ∧ p.2 < q.2))
def rl : List Tn → List Tn → Bool
  | [], [] => false
  | [], _ :: _ => true
  | _ :: _, [] => false
  | p :: a, q :: b => if p = q then rl a b else tl p q
theorem tl_trans {p q r : Tn} (h : tl p q = true) (k : tl q r = true) : tl p r = true := by
  unfold tl at *
  simp only [decide_eq_true_eq] at *
  omega
theorem tl_anti {p q : Tn} (h : tl p q = false) (k : tl q p = false) : p = q := by
  unfold tl at *
  simp only [decide_eq_false_iff_not] at *
  apply Prod.ext <;> omega
theorem tl_irr {p : Tn} : tl p p = false := by unfold tl; simp
theorem rl_anti : ∀ {a b : List Tn}, rl a b = false → rl b a = false → a = b
  | [], [], _, _ => rfl
  | [], _ :: _, h, _ => by cases h
  | _ :: _, [], _, h => by cases h
  | p :: a, q :: b, h, k => by
    unfold rl at h k
    by_cases e : p = q
    · subst e
      simp only [if_true] at h k
      rw [rl_anti h k]
    · rw [if_neg e] at h
      rw [if_neg (Ne.symm e)] at k
      exact absurd (tl_anti h k) e
theorem rl_trans : ∀ {a b c : List Tn}, rl a b = true → rl b c = true → rl a c = true
  | [], _, [], h, k => by
    rename_i b
    cases b <;> simp [rl] at h k
  | [], _, _ :: _, _, _ => rfl
  | _ :: _, [], _, h, _ => by simp [rl] at h
  | _ :: _, _ :: _, [], _, k => by simp [rl] at k
  | p :: a, q :: b, r :: c, h, k => by
    unfold rl at h k ⊢
    by_cases e1 : p = q
    · subst e1
      rw [if_pos rfl] at h
      by_cases e2 : p = r
      · subst e2; rw [if_pos rfl] at k ⊢; exact rl_trans h k
      · rw [if_neg e2] at k ⊢; exact k
    · rw [if_neg e1] at h
      by_cases e2 : q = r
      · subst e2; rw [if_neg e1]; exact h
      · rw [if_neg e2] at k
        have t := tl_trans h k
        by_cases e3 : p = r
        · subst e3; rw [tl_irr] at t; cases t
        · rw [if_neg e3]; exact t
theorem lt_rD : ∀ (a b : List Tn), PySem.W.rowLt (a.map tD) (b.map tD) = rl a b
  | [], [] => by decide
  | [], q :: b => by
    unfold PySem.W.rowLt
    simp only [List.map_nil, List.map_cons]
    rfl
  | p :: a, [] => by
    unfold PySem.W.rowLt
    simp only [List.map_nil, List.map_cons]
    rfl
  | p :: a, q :: b => by
    unfold PySem.W.rowLt
    rw [List.map_cons, List.map_cons, PySem.W.dataLt_cons (by simp [tD, PySem.W.alike, PySem.W.alikeAll])]
    have e : PyData.eqv (tD p) (tD q) = decide (p = q) := by
      rw [Bool.eq_iff_iff]
      simp [tD, PyData.eqv, PyData.eqvAll, Prod.ext_iff]
    have ih := lt_rD a b
    unfold PySem.W.rowLt at ih
    rw [e, ih]
    have t : PySem.W.dataLt (tD p) (tD q) = tl p q := PySem.W.dataLt_ii _ _ _ _
    rw [t]
    show _ = (if p = q then rl a b else tl p q)
    simp
theorem lt_row (a b : List Tn) : PySem.W.dataLt (rD a) (rD b) = rl a b := (PySem.W.dataLt_tuple _ _).trans (lt_rD a b)
def minR (x : List Tn) (xs : List (List Tn)) : List Tn := xs.foldl (fun a y => if rl y a then y else a) x
theorem minD_rows : ∀ (xs : List (List Tn)) (x : List Tn), PySem.W.minD (rD x) (xs.map rD) = rD (minR x xs)
  | [], x => rfl
  | y :: xs, x => by
    have ih := minD_rows xs (if rl y x then y else x)
    unfold PySem.W.minD minR at ih ⊢
    simp only [List.map_cons, List.foldl_cons]
    rw [lt_row, ← ih]
    congr 1
    split <;> rfl
theorem minR_spec : ∀ (xs : List (List Tn)) (x : List Tn), minR x xs ∈ x :: xs ∧ ∀ y ∈ x :: xs, rl y (minR x xs) = false
  | [], x => by
    refine ⟨List.mem_cons_self, fun y hy => ?_⟩
    have : y = x := by simpa using hy
    subst this
    show rl y y = false
    cases q : rl y y with
    | false => rfl
    | true =>
      have irr : ∀ a : List Tn, rl a a = false := fun a => by
        induction a with
        | nil => rfl
        | cons p a ih => unfold rl; simp [ih]
      rw [irr] at q; cases q
  | z :: xs, x => by
    have e : minR x (z :: xs) = minR (if rl z x then z else x) xs := rfl
    rw [e]
    obtain ⟨h1, h2⟩ := minR_spec xs (if rl z x then z else x)
    refine ⟨?_, fun y hy => ?_⟩
    · rcases List.mem_cons.mp h1 with h | h
      · rw [h]; split <;> simp
      · simp [h]
    · have h0 := h2 _ List.mem_cons_self
      rcases List.mem_cons.mp hy with rfl | hy
      · by_cases q : rl z y = true
        · rw [if_pos q] at h0 ⊢
          cases k : rl y (minR z xs) with
          | false => rfl
          | true =>
            have := rl_trans q k
            rw [h0] at this; cases this
        · rw [if_neg q] at h0 ⊢; exact h0
      · rcases List.mem_cons.mp hy with rfl | hy
        · by_cases q : rl y x = true
          · rw [if_pos q] at h0 ⊢; exact h0
          · rw [if_neg q] at h0 ⊢
            cases k : rl y (minR x xs) with
            | false => rfl
            | true =>
              rcases Bool.eq_false_or_eq_true (rl x y) with t | t
              · have := rl_trans t k
                rw [h0] at this; cases this
              · have q' : rl y x = false := by simpa using q
                have := rl_anti t q'
                subst this
                rw [h0] at k; cases k
        · exact h2 y (List.mem_cons_of_mem _ hy)
theorem minR_set {x y : List Tn} {xs ys : List (List Tn)} (h : ∀ z, z ∈ x :: xs ↔ z ∈ y :: ys) : minR x xs = minR y ys := by
  obtain ⟨a1, a2⟩ := minR_spec xs x
  obtain ⟨b1, b2⟩ := minR_spec ys y
  exact rl_anti (b2 _ ((h _).mp a1)) (a2 _ ((h _).mpr b1))
end WL

set_option Elab.async false
set_option linter.all false
set_option maxRecDepth 100000
set_option maxHeartbeats 4000000
namespace WL
open PySem PySem.Spec PyProof.Rows L2 HotX L2H LamX TL Wd
local macro_rules | `(tactic| walk_at "ev") => `(tactic| simp [bodyM, sSeq, sIf, sSet, sSetO, sRet, sRetO, sRetS, sRetN, sApp, sPop, sDrop, sRaise, sUnp, sPar, sNext, oLst, oCall, oBin, oRep, vOf, aNil, aCons, eTup, eC, eVar, eOwn, vCall, vUn, vBin, vAn, vOrr, vNo, vIf, vChain, tOf, tTru, tNo, tAn, tOrr, ioGet, List.replicate, eCall, oCallF, chkN, z_call1, z_call2, z_call3, z_io1, z_io2, z_io3, vSl, pNone, pSome, sizeLine_eq, wipeE, backE])
theorem mul_ok {i j : Int} (h : -(2 ^ 64) < i) (h2 : i < 2 ^ 64) : gMul (.int i) (.int j) = some (.int (i * j)) := by
  unfold gMul mulOk
  simp [h, h2]
  intro hh
  omega
def nth (r : List Tn) (i : Nat) : Tn := r.getD i (0, 0)
theorem nth_at {r : List Tn} {i : Nat} (h : i < r.length) : atI (r.map tD) (i : Int) = some (tD (nth r i)) := by
  rw [z_atn (by simpa using h)]
  simp [nth, List.getElem?_eq_getElem h]
def cc (r : List Tn) (k : Nat) : Bool := decide (1 + 2 * k < r.length) && decide (nth r k = inv1 (nth r (r.length - 1 - k)))
def cm (r : List Tn) : Nat := cnt (cc r) r.length 0
theorem cm_spec (r : List Tn) : (∀ j, j < cm r → cc r j = true) ∧ cc r (cm r) = false := by
  obtain ⟨h1, h2, h3, h4⟩ := cnt_spec (c := cc r) r.length 0
  refine ⟨fun j h => h3 j (Nat.zero_le _) h, ?_⟩
  rcases h4 with h | h
  · show cc r (cnt (cc r) r.length 0) = false
    rw [h]
    unfold cc
    have : ¬ (1 + 2 * (0 + r.length) < r.length) := by omega
    simp
    intro hh
    omega
  · exact h
theorem cm_le (r : List Tn) : 2 * cm r ≤ r.length := by
  obtain ⟨h1, _⟩ := cm_spec r
  by_cases h : cm r = 0
  · omega
  · have := h1 (cm r - 1) (by omega)
    unfold cc at this
    simp only [Bool.and_eq_true, decide_eq_true_eq] at this
    omega
theorem v_core (r : List Tn) (h : r.length ≤ 1900) : f_core_of.m [rD r] = .ok (.tuple [rD (r.take (cm r)), rD ((r.drop (cm r)).take (r.length - 2 * cm r))], .none) := by
  have hc := cm_spec r
  have hl := cm_le r
  show bodyM 2 none false m_core_of _ = _
  unfold m_core_of rD
  walk_at "ev"
  unfold sWhile
  have key := whileN_inv (t := tAn (tOf (vBin gGt (vBin TL.gSub (vCall gLen (aCons (eVar 0) aNil)) (vBin gMul (eC (.int 2)) (eVar 1))) (eC (.int 1)))) (tTru (eCall f_are_opposite (chkN 2 (aCons (vBin gIx (eVar 0) (eVar 1)) (aCons (vBin gIx (eVar 0) (vBin TL.gSub (vBin TL.gSub (vCall gLen (aCons (eVar 0) aNil)) (eC (.int 1))) (eVar 1))) aNil))))))
    (body := sSet 1 (vBin gAdd (eVar 1) (eC (.int 1)))) (· + 1) (cc r) (fun k ev => ev = [some (.tuple (r.map tD)), some (.int (k : Nat))])
    (fun k ev hI => by
      subst hI
      refine ⟨_, ?_, rfl⟩
      walk_at "ev"
      rw [mul_ok (i := 2) (by decide) (by decide)]
      walk_at "ev"
      unfold cc
      by_cases h1 : 1 + 2 * k < r.length
      · have h2 : (1 : Int) < (r.length : Int) - 2 * k := by omega
        have e1 : (r.length : Int) - 1 - k = ((r.length - 1 - k : Nat) : Int) := by omega
        simp only [h2, h1, decide_true, cond_true, Bool.true_and]
        rw [nth_at (i := k) (by omega)]
        walk_at "ev"
        rw [e1, nth_at (i := r.length - 1 - k) (by omega)]
        walk_at "ev"
      · have h2 : ¬ (1 : Int) < (r.length : Int) - 2 * k := by omega
        simp [h1, h2])
    (fun k ev hI _ => by
      subst hI
      refine ⟨_, ?_, rfl⟩
      walk_at "ev") 1000 (cm r) 0 [some (.tuple (r.map tD)), some (.int 0)] rfl (fun k hk => by rw [iter_succ]; simpa using hc.1 k hk) (by rw [iter_succ]; simpa using hc.2) (by omega)
  obtain ⟨ev', e1, e2⟩ := key
  rw [iter_succ] at e2
  simp only [Nat.zero_add] at e2
  subst e2
  rw [e1]
  walk_at "ev"
  have e3 : (r.length : Int) - (cm r : Nat) = ((r.length - cm r : Nat) : Int) := by omega
  rw [z_cut_nk (by simp; omega), e3, z_cut_kk (by simp; omega) (by simp)]
  refine ⟨rfl, ?_⟩
  congr 1
  omega
end WL

set_option Elab.async false
set_option linter.all false
set_option maxRecDepth 100000
set_option maxHeartbeats 4000000
namespace WL
open PySem PySem.Spec PyProof.Rows L2 HotX L2H LamX TL Wd
local macro_rules | `(tactic| walk_at "ev") => `(tactic| simp [bodyM, sSeq, sIf, sSet, sSetO, sRet, sRetO, sRetS, sRetN, sApp, sPop, sDrop, sRaise, sUnp, sPar, sNext, oLst, oCall, oBin, oRep, vOf, aNil, aCons, eTup, eC, eVar, eOwn, vCall, vUn, vBin, vAn, vOrr, vNo, vIf, vChain, tOf, tTru, tNo, tAn, tOrr, ioGet, List.replicate, eCall, oCallF, chkN, z_call1, z_call2, z_call3, z_io1, z_io2, z_io3, vSl, pNone, pSome, sizeLine_eq, wipeE, backE])
theorem gmax_ok (n : Nat) : gMax [.int (n : Nat), .int 1] = some (.int ((max n 1 : Nat) : Int)) := by
  show some (PyData.int (if (1 : Int) > (n : Int) then 1 else (n : Int))) = _
  congr 2
  split <;> omega
theorem turn_it (r : List Tn) (h : r.length ≤ 1900) (x : Option D) : TL.iRng1 (aCons (vCall gMax (aCons (vCall gLen (aCons (eVar 0) aNil)) (aCons (eC (.int 1)) aNil))) aNil) [some (.tuple (r.map tD)), x] = .ok ((List.range (max r.length 1)).map fun i => .int (i : Nat), [some (.tuple (r.map tD)), x]) := by
  refine iRng1_ok ?_ (by omega)
  walk_at "ev"
  rw [gmax_ok]
  walk_at "ev"
theorem turn_el (r : List Tn) (h : r.length ≤ 1900) (i : Nat) (hi : i ≤ r.length) : vBin gAdd (vSl (eVar 0) (pSome (eVar 1)) pNone) (vSl (eVar 0) pNone (pSome (eVar 1))) [some (.tuple (r.map tD)), some (.int (i : Nat))] = .ok (.val (rD (r.drop i ++ r.take i)), [some (.tuple (r.map tD)), some (.int (i : Nat))]) := by
  walk_at "ev"
  rw [z_cut_kn (by simpa using hi), z_cut_nk (by simpa using hi)]
  walk_at "ev"
  rw [if_pos (by omega)]
  simp [rD]
theorem v_turned (r : List Tn) (h : r.length ≤ 1900) : f_turned_rows.m [rD r] = .ok (.list (((List.range (max r.length 1)).map fun i => r.drop i ++ r.take i).map rD), .none) := by
  show bodyM 2 none false m_turned_rows _ = _
  unfold m_turned_rows
  have e := oComp_map (vs := [1]) (b := bName 1) (m := vBin gAdd (vSl (eVar 0) (pSome (eVar 1)) pNone) (vSl (eVar 0) pNone (pSome (eVar 1)))) (enc := fun i : Nat => .int (i : Nat)) (f := fun i => rD (r.drop i ++ r.take i)) (xs := List.range (max r.length 1)) (turn_it r h none) (by rw [sizeLine_eq, List.length_range]; omega) (fun i hi => by
      have hi : i < max r.length 1 := List.mem_range.mp hi
      refine ⟨[some (.tuple (r.map tD)), some (.int (i : Nat))], by simp [wipeE], turn_el r h i (by omega), by simp [wipeE]⟩) (by simp [wipeE, backE])
  unfold rD
  walk_at "ev"
  rw [e]
  walk_at "ev"
  simp [rD]
end WL

set_option Elab.async false
set_option linter.all false
set_option maxRecDepth 100000
set_option maxHeartbeats 4000000
namespace WL
open PySem PySem.Spec PyProof.Rows L2 HotX L2H LamX TL Wd
local macro_rules | `(tactic| walk_at "ev") => `(tactic| simp [bodyM, sSeq, sIf, sSet, sSetO, sRet, sRetO, sRetS, sRetN, sApp, sPop, sDrop, sRaise, sUnp, sPar, sNext, oLst, oCall, oBin, oRep, vOf, aNil, aCons, eTup, eC, eVar, eOwn, vCall, vUn, vBin, vAn, vOrr, vNo, vIf, vChain, tOf, tTru, tNo, tAn, tOrr, ioGet, List.replicate, eCall, oCallF, chkN, z_call1, z_call2, z_call3, z_io1, z_io2, z_io3, vSl, pNone, pSome, sizeLine_eq, wipeE, backE])
def rots (r : List Tn) : List (List Tn) := (List.range (max r.length 1)).map fun i => r.drop i ++ r.take i
theorem rots_ne (r : List Tn) : ∃ x xs, rots r = x :: xs := by
  unfold rots
  cases h : List.range (max r.length 1) with
  | nil =>
    have := congrArg List.length h
    rw [List.length_range] at this
    simp at this
  | cons i is => exact ⟨_, _, rfl⟩
def minL : List (List Tn) → List Tn
  | [] => []
  | x :: xs => minR x xs
theorem alike_rows (a b : List Tn) : PySem.W.alike (rD a) (rD b) = true := by
  show PySem.W.alikeAll (a.map tD) (b.map tD) = true
  induction a generalizing b with
  | nil => rfl
  | cons p a ih =>
    cases b with
    | nil => rfl
    | cons q b => simp [PySem.W.alikeAll, ih, tD, PySem.W.alike]
theorem dep_rows : ∀ (L : List (List Tn)), PyData.depthAll (L.map rD) ≤ 2
  | [] => by simp [PyData.depthAll]
  | r :: L => by
    have := dep_rows L
    have h := dep_r r
    simp only [List.map_cons, PyData.depthAll]
    have : (rD r).depth = PyData.depthAll (r.map tD) + 1 := rfl
    omega
theorem pl_rows : ∀ (L : List (List Tn)), PyData.plainAll (L.map rD) = true
  | [] => rfl
  | r :: L => by simp [pl_rows L]
theorem okD_rows (L : List (List Tn)) : okD (.list (L.map rD)) = true := by
  have := dep_rows L
  unfold okD
  rw [Bool.and_eq_true]
  exact ⟨pl_rows L, decide_eq_true (by show PyData.depthAll (L.map rD) + 1 ≤ 60; omega)⟩
theorem v_min {L : List (List Tn)} (h : L ≠ []) : gMin [.list (L.map rD)] = some (rD (minL L)) := by
  cases L with
  | nil => exact absurd rfl h
  | cons x xs =>
    have hm : minOk (rD x) (xs.map rD) = true := by
      unfold minOk
      have e1 : rD x :: xs.map rD = (x :: xs).map rD := rfl
      rw [e1, okD_rows]
      simp only [Bool.true_and, Bool.and_eq_true]
      refine ⟨?_, ?_⟩
      · rw [List.all_eq_true]
        intro a ha
        rw [List.all_eq_true]
        intro b hb
        obtain ⟨a', _, rfl⟩ := List.mem_map.mp ha
        obtain ⟨b', _, rfl⟩ := List.mem_map.mp hb
        exact alike_rows _ _
      · rw [List.all_eq_true]
        intro a ha
        obtain ⟨a', _, rfl⟩ := List.mem_map.mp ha
        rfl
    show (if minOk (rD x) (xs.map rD) = true then some (PySem.W.minD (rD x) (xs.map rD)) else none) = _
    rw [if_pos hm, minD_rows]
    rfl
theorem red_len (r : List Tn) : (red r).length ≤ r.length := by
  have key : ∀ (w s : List Tn), (act s w).length ≤ s.length + w.length := by
    intro w
    induction w with
    | nil => intro s; exact Nat.le_refl _
    | cons x w ih =>
      intro s
      have h := ih (push s x)
      have : (push s x).length ≤ s.length + 1 := by
        cases s with
        | nil => simp [push]
        | cons y s => simp only [push]; split <;> simp; omega
      rw [act_cons]
      simp only [List.length_cons]
      omega
  have := key r []
  unfold red
  simpa using this
def coreR (r : List Tn) : List Tn := ((red r).drop (cm (red r))).take ((red r).length - 2 * cm (red r))
def headR (r : List Tn) : List Tn := (red r).take (cm (red r))
def rnd (r : List Tn) : List Tn := minL (rots (coreR r))
theorem v_round (r : List Tn) (h : r.length ≤ 1900) : f_round_of.m [rD r] = .ok (rD (rnd r), .none) := by
  have h2 := red_len r
  have h3 : (coreR r).length ≤ 1900 := by unfold coreR; simp; omega
  have hc := v_core (red r) (by omega)
  have ht := v_turned (coreR r) h3
  have hm := v_min (L := rots (coreR r)) (fun z => by obtain ⟨x, xs, e⟩ := rots_ne (coreR r); rw [e] at z; cases z)
  show bodyM 1 none false m_round_of _ = _
  unfold m_round_of
  walk_at "ev"
  rw [v_reduced r (by omega)]
  walk_at "ev"
  rw [hc]
  walk_at "ev"
  unfold coreR at ht
  rw [ht]
  walk_at "ev"
  unfold rots coreR at hm
  simp at hm
  simp [hm]
  unfold rnd rots coreR
  simp
theorem v_redround (r : List Tn) (h : okC r = true) : f_reduced_round.m [rD r] = .ok (rD (rnd r), .none) := by
  have hl : r.length ≤ 400 := by unfold okC at h; simp at h; exact h.1
  show bodyM 1 none false m_reduced_round _ = _
  unfold m_reduced_round
  walk_at "ev"
  rw [v_need r h]
  walk_at "ev"
  rw [v_round r (by omega)]
  walk_at "ev"
theorem eqv_rD : ∀ (a b : List Tn), PyData.eqvAll (a.map tD) (b.map tD) = decide (a = b)
  | [], [] => rfl
  | [], _ :: _ => rfl
  | _ :: _, [] => rfl
  | p :: a, q :: b => by
    have e : PyData.eqv (tD p) (tD q) = decide (p = q) := by
      rw [Bool.eq_iff_iff]
      simp [tD, PyData.eqv, PyData.eqvAll, Prod.ext_iff]
    simp only [List.map_cons, PyData.eqvAll, e, eqv_rD a b]
    rw [Bool.eq_iff_iff]
    simp
theorem v_eq (a b : List Tn) : gEq (rD a) (rD b) = some (.bool (decide (a = b))) := by
  unfold gEq
  rw [okD_rD, okD_rD]
  simp only [Bool.and_self, if_true]
  have : PyData.eqv (rD a) (rD b) = PyData.eqvAll (a.map tD) (b.map tD) := rfl
  rw [this, eqv_rD]
theorem v_turnings (a b : List Tn) (h : okC a = true) (h2 : okC b = true) : f_are_turnings.m [rD a, rD b] = .ok (.bool (decide (rnd a = rnd b)), .none) := by
  have hl : a.length ≤ 400 := by unfold okC at h; simp at h; exact h.1
  have hl2 : b.length ≤ 400 := by unfold okC at h2; simp at h2; exact h2.1
  show bodyM 2 none false m_are_turnings _ = _
  unfold m_are_turnings
  walk_at "ev"
  rw [v_need a h]
  walk_at "ev"
  rw [v_need b h2]
  walk_at "ev"
  rw [v_round a (by omega)]
  walk_at "ev"
  rw [v_round b (by omega)]
  walk_at "ev"
  rw [v_eq]
  walk_at "ev"
end WL

set_option Elab.async false
set_option linter.all false
set_option maxRecDepth 100000
set_option maxHeartbeats 4000000
namespace WL
open PySem PySem.Spec PyProof.Rows L2 HotX L2H LamX TL Wd
local macro_rules | `(tactic| walk_at "ev") => `(tactic| simp [bodyM, sSeq, sIf, sSet, sSetO, sRet, sRetO, sRetS, sRetN, sApp, sPop, sDrop, sRaise, sUnp, sPar, sNext, oLst, oCall, oBin, oRep, vOf, aNil, aCons, eTup, eC, eVar, eOwn, vCall, vUn, vBin, vAn, vOrr, vNo, vIf, vChain, tOf, tTru, tNo, tAn, tOrr, ioGet, List.replicate, eCall, oCallF, chkN, z_call1, z_call2, z_call3, z_io1, z_io2, z_io3, vSl, pNone, pSome, eIdx, sizeLine_eq, wipeE, backE])
theorem any_rows (L : List (List Tn)) (r : List Tn) : (L.map rD).any (fun y => PyData.eqv y (rD r)) = decide (r ∈ L) := by
  induction L with
  | nil => rfl
  | cons x L ih =>
    have e : PyData.eqv (rD x) (rD r) = decide (x = r) := eqv_rD x r
    simp only [List.map_cons, List.any_cons, e, ih]
    by_cases h1 : x = r
    · subst h1; simp
    · have h1' : ¬ r = x := fun z => h1 z.symm
      simp [h1, h1']
theorem v_notin (L : List (List Tn)) (r : List Tn) : gNotIn (rD r) (.list (L.map rD)) = some (.bool (!decide (r ∈ L))) := by
  unfold gNotIn inD
  have : okD (rD r) = true ∧ okD (.list (L.map rD)) = true := ⟨okD_rD r, okD_rows L⟩
  simp only [this, and_self, if_true, Option.map_some, any_rows]
def kIx (L : List (List Tn)) (r : List Tn) : Nat := (L.map fun z => decide (z = r)).idxOf true
theorem kIx_spec : ∀ {L : List (List Tn)} {r : List Tn}, r ∈ L → L[kIx L r]? = some r
  | x :: L, r, h => by
    unfold kIx
    by_cases e : x = r
    · subst e; simp
    · have h2 : r ∈ L := by
        rcases List.mem_cons.mp h with z | z
        · exact absurd z.symm e
        · exact z
      have ih := kIx_spec h2
      unfold kIx at ih
      rw [List.map_cons, decide_eq_false e, List.idxOf_cons]
      simpa using ih
theorem v_idx (L : List (List Tn)) (r : List Tn) (h : r ∈ L) (hl : L.length ≤ 16777216) : gIdx (.list (L.map rD)) (rD r) = some (.int (kIx L r : Nat)) := by
  have e : (L.map rD).map (fun z => PyData.eqv z (rD r)) = L.map fun z => decide (z = r) := by
    rw [List.map_map]
    apply List.map_congr_left
    intro x _
    exact eqv_rD x r
  have hc : (L.map fun z => decide (z = r)).contains true = true := by
    rw [List.contains_iff_mem]
    exact List.mem_map.mpr ⟨r, h, by simp⟩
  have hs : decide ((L.map rD).length ≤ sizeLine) = true := by rw [sizeLine_eq]; simpa using hl
  unfold gIdx
  simp only [e, hc, hs, okD_rows, okD_rD, Bool.and_self, if_true]
  rfl
theorem rD_add {a b : List Tn} (h : a.length + b.length ≤ 16777216) : gAdd (rD a) (rD b) = some (rD (a ++ b)) := by
  unfold rD
  rw [z_add_t, if_pos (by simpa [sizeLine_eq] using h)]
  simp
theorem rD_take {a : List Tn} {k : Nat} (h : k ≤ a.length) : gSl none (some (k : Int)) (rD a) = some (rD (a.take k)) := by
  unfold rD
  rw [z_sl_t, z_cut_nk (by simpa using h)]
  simp
theorem inv_len (a : List Tn) : (inv a).length = a.length := by simp [inv]
theorem kIx_lt {L : List (List Tn)} {r : List Tn} (h : r ∈ L) : kIx L r < L.length := (List.getElem?_eq_some_iff.mp (kIx_spec h)).1
def turnR (a b : List Tn) : List Tn := red (headR b ++ inv ((coreR a).take (kIx (rots (coreR a)) (coreR b))) ++ inv (headR a))
theorem v_turning (a b : List Tn) (h : okC a = true) (h2 : okC b = true) : f_turning_of.m [rD a, rD b] = .ok (if coreR b ∈ rots (coreR a) then rD (turnR a b) else .none, .none) := by
  have hl : a.length ≤ 400 := by unfold okC at h; simp at h; exact h.1
  have hl2 : b.length ≤ 400 := by unfold okC at h2; simp at h2; exact h2.1
  have ra := red_len a
  have rb := red_len b
  have ca : (coreR a).length ≤ 400 := by unfold coreR; simp; omega
  have cb : (coreR b).length ≤ 400 := by unfold coreR; simp; omega
  have ha : (headR a).length ≤ 400 := by unfold headR; simp; omega
  have hb : (headR b).length ≤ 400 := by unfold headR; simp; omega
  have e1 : f_core_of.m [rD (red a)] = .ok (.tuple [rD (headR a), rD (coreR a)], .none) := v_core (red a) (by omega)
  have e2 : f_core_of.m [rD (red b)] = .ok (.tuple [rD (headR b), rD (coreR b)], .none) := v_core (red b) (by omega)
  have e3 : f_turned_rows.m [rD (coreR a)] = .ok (.list ((rots (coreR a)).map rD), .none) := v_turned (coreR a) (by omega)
  show bodyM 7 none false m_turning_of _ = _
  unfold m_turning_of
  walk_at "ev"
  rw [v_need a h]
  walk_at "ev"
  rw [v_need b h2]
  walk_at "ev"
  rw [v_reduced a (by omega)]
  walk_at "ev"
  rw [e1]
  walk_at "ev"
  rw [v_reduced b (by omega)]
  walk_at "ev"
  rw [e2]
  walk_at "ev"
  rw [e3]
  walk_at "ev"
  rw [v_notin]
  walk_at "ev"
  by_cases hm : coreR b ∈ rots (coreR a)
  · rw [if_pos hm]
    simp only [hm, decide_true, Bool.not_true, cond_false]
    walk_at "ev"
    have hk := v_idx (rots (coreR a)) (coreR b) hm (by unfold rots; simp; omega)
    have hk2 := kIx_lt hm
    have hk3 : (rots (coreR a)).length = max (coreR a).length 1 := by unfold rots; simp
    rw [hk]
    walk_at "ev"
    rw [rD_take (by omega)]
    walk_at "ev"
    rw [v_back _ (by simp; omega)]
    walk_at "ev"
    rw [rD_add (by rw [inv_len]; simp; omega)]
    walk_at "ev"
    rw [v_back _ (by omega)]
    walk_at "ev"
    rw [rD_add (by simp [inv_len]; omega)]
    walk_at "ev"
    rw [v_reduced _ (by simp [inv_len]; omega)]
    walk_at "ev"
    simp [turnR]
  · rw [if_neg hm]
    simp [hm]
end WL

set_option Elab.async false
set_option linter.all false
set_option maxRecDepth 100000
set_option maxHeartbeats 4000000
namespace WL
open PySem PySem.Spec PyProof.Rows L2 HotX L2H LamX TL Wd
local macro_rules | `(tactic| walk_at "ev") => `(tactic| simp [bodyM, sSeq, sIf, sSet, sSetO, sRet, sRetO, sRetS, sRetN, sApp, sPop, sDrop, sRaise, sUnp, sPar, sNext, oLst, oCall, oBin, oRep, vOf, aNil, aCons, eTup, eC, eVar, eOwn, vCall, vUn, vBin, vAn, vOrr, vNo, vIf, vChain, tOf, tTru, tNo, tAn, tOrr, ioGet, List.replicate, eCall, oCallF, chkN, z_call1, z_call2, z_call3, z_io1, z_io2, z_io3, vSl, pNone, pSome, eIdx, sizeLine_eq, wipeE, backE])
theorem v_ne (a b : List Tn) : gNe (rD a) (rD b) = some (.bool (!decide (a = b))) := by
  unfold gNe
  rw [okD_rD, okD_rD]
  simp only [Bool.and_self, if_true]
  have : PyData.eqv (rD a) (rD b) = PyData.eqvAll (a.map tD) (b.map tD) := rfl
  rw [this, eqv_rD]
theorem okD_t (p : Tn) : okD (tD p) = true := rfl
theorem v_eqt (p q : Tn) : gEq (tD p) (tD q) = some (.bool (decide (p = q))) := by
  unfold gEq
  rw [okD_t, okD_t]
  simp only [Bool.and_self, if_true]
  have e : PyData.eqv (tD p) (tD q) = decide (p = q) := by
    rw [Bool.eq_iff_iff]
    simp [tD, PyData.eqv, PyData.eqvAll, Prod.ext_iff]
  rw [e]
theorem ix_last (s : List Tn) (y : Tn) : gIx (rD (s.reverse ++ [y])) (.int (-1)) = some (tD y) := by
  have := at_last s y
  simpa [rD] using this
theorem sl_last (s : List Tn) (y : Tn) : gSl none (some (-1)) (rD (s.reverse ++ [y])) = some (rD s.reverse) := by
  unfold rD
  rw [z_sl_t, z_cut_m]
  simp
theorem v_lback (r : List Tn) (h : r.length ≤ 16777216) : f__law_back.m [rD r] = .ok (rD (inv r), .none) := v_back r h
theorem v_lreduced (r : List Tn) (h : r.length ≤ 1000000) : f__law_reduced.m [rD r] = .ok (rD (red r), .none) := by
  show bodyM 4 none false m__law_reduced _ = _
  unfold m__law_reduced
  walk_at "ev"
  unfold sFor iSeq
  walk_at "ev"
  have e0 : seqOf (rD r) = some (r.map tD) := rfl
  rw [e0]
  walk_at "ev"
  obtain ⟨ev', e1, x, y, rfl, hl⟩ := forL_ix (b := bTup 2 (bCons (bName 2) (bCons (bName 3) bNil))) (body := sIf (tAn (tOf (vBin gNe (eVar 1) (eTup aNil))) (tOf (vBin gEq (vBin gIx (eVar 1) (vUn gNeg (eC (PyData.int 1)))) (eTup (aCons (eVar 2) (aCons (vUn gNeg (eVar 3)) aNil)))))) (sSet 1 (vSl (eVar 1) pNone (pSome (vUn gNeg (eC (PyData.int 1)))))) (sSet 1 (vBin gAdd (eVar 1) (eTup (aCons (eTup (aCons (eVar 2) (aCons (eVar 3) aNil))) aNil)))))
    (enc := tD) push (fun n s ev => ∃ x y, ev = [some (rD r), some (rD s.reverse), x, y] ∧ s.length ≤ n) (xs := r) 0 (s := []) (ev := [some (rD r), some (.tuple []), none, none]) (fun i a ha s ev hI => by
      obtain ⟨x, y, rfl, hl⟩ := hI
      have hi : i < r.length := (List.getElem?_eq_some_iff.mp ha).1
      have ne := v_ne s.reverse []
      have e5 : rD [] = .tuple [] := rfl
      have e6 : PyData.tuple [.int a.1, .int (-a.2)] = tD (inv1 a) := rfl
      have e7 : PyData.tuple [.tuple [.int a.1, .int a.2]] = rD [a] := rfl
      rw [e5] at ne
      refine ⟨_, [some (rD r), some (rD (push s a).reverse), some (.int a.1), some (.int a.2)], .nx, rfl, ?_, .inl rfl, _, _, rfl, ?_⟩
      · cases s with
        | nil =>
          simp at ne
          walk_at "ev"
          rw [ne]
          walk_at "ev"
          have := rD_add (a := []) (b := [a]) (by simp)
          rw [e7, this]
          simp [push]
        | cons y s =>
          have h2 : (s.reverse ++ [y] = []) = False := by simp
          simp only [List.reverse_cons, h2, decide_false, Bool.not_false] at ne
          walk_at "ev"
          rw [ne]
          walk_at "ev"
          rw [ix_last]
          walk_at "ev"
          rw [e6, v_eqt]
          walk_at "ev"
          simp at hl
          by_cases e : y = inv1 a
          · simp only [e, decide_true, cond_true]
            try walk_at "ev"
            have := sl_last s (inv1 a)
            rw [this]
            simp [push]
          · simp only [e, decide_false, cond_false]
            try walk_at "ev"
            have := rD_add (a := s.reverse ++ [y]) (b := [a]) (by simp; omega)
            rw [e7, this]
            simp [push, e]
      · cases s with
        | nil => simp [push]
        | cons y s => simp only [push]; split <;> simp at hl ⊢ <;> omega) ⟨_, _, rfl, by simp⟩
  rw [e1]
  walk_at "ev"
  simp [red, act]
end WL

set_option Elab.async false
set_option linter.all false
set_option maxRecDepth 100000
set_option maxHeartbeats 4000000
namespace WL
open PySem PySem.Spec PyProof.Rows L2 HotX L2H LamX TL Wd
local macro_rules | `(tactic| walk_at "ev") => `(tactic| simp [bodyM, sSeq, sIf, sSet, sSetO, sRet, sRetO, sRetS, sRetN, sApp, sPop, sDrop, sRaise, sUnp, sPar, sNext, oLst, oCall, oBin, oRep, vOf, aNil, aCons, eTup, eC, eVar, eOwn, vCall, vUn, vBin, vAn, vOrr, vNo, vIf, vChain, tOf, tTru, tNo, tAn, tOrr, ioGet, List.replicate, eCall, oCallF, chkN, z_call1, z_call2, z_call3, z_io1, z_io2, z_io3, vSl, pNone, pSome, eIdx, sizeLine_eq, wipeE, backE])
/-! ### the law's own round -/
def seg (R : List Tn) (k : Nat) : List Tn := (R.drop k).take (R.length - 2 * k)
theorem seg_len {R : List Tn} {k : Nat} (h : 2 * k ≤ R.length) : (seg R k).length = R.length - 2 * k := by unfold seg; simp; omega
theorem seg_get {R : List Tn} {k i : Nat} (h : 2 * k ≤ R.length) (hi : i < R.length - 2 * k) : (seg R k)[i]? = some (nth R (k + i)) := by
  unfold seg nth
  rw [List.getElem?_take_of_lt hi, List.getElem?_drop, List.getElem?_eq_getElem (by omega)]
  simp [List.getElem?_eq_getElem (show k + i < R.length by omega)]
theorem seg_0 {R : List Tn} {k : Nat} (h : 2 * k < R.length) : atI ((seg R k).map tD) 0 = some (tD (nth R k)) := by
  have := z_atn (xs := (seg R k).map tD) (i := 0) (by rw [List.length_map, seg_len (by omega)]; omega)
  rw [show ((0 : Nat) : Int) = 0 from rfl] at this
  rw [this, List.getElem?_map, seg_get (by omega) (by omega)]
  rfl
theorem seg_m {R : List Tn} {k : Nat} (h : 2 * k < R.length) : atI ((seg R k).map tD) (-1) = some (tD (nth R (R.length - 1 - k))) := by
  have hl := seg_len (R := R) (k := k) (by omega)
  have hne : (seg R k).map tD ≠ [] := fun z => by
    have := congrArg List.length z
    rw [List.length_map, hl] at this
    simp at this
    omega
  rw [z_atm hne, List.getLast?_eq_getElem?, List.length_map, hl, List.getElem?_map, seg_get (by omega) (by omega)]
  have e : k + (R.length - 2 * k - 1) = R.length - 1 - k := by omega
  rw [e]
  rfl
theorem seg_sl {R : List Tn} {k : Nat} (h : 1 + 2 * k < R.length) : gSl (some 1) (some (-1)) (rD (seg R k)) = some (rD (seg R (k + 1))) := by
  have hl := seg_len (R := R) (k := k) (by omega)
  unfold rD
  rw [z_sl_t, z_cut_1m (by rw [List.length_map, hl]; omega), List.length_map, hl]
  congr 2
  rw [← List.map_drop, ← List.map_take]
  congr 1
  unfold seg
  rw [List.drop_take, List.drop_drop, List.take_take]
  congr 1
  omega
def stp (R : List Tn) (k : Nat) : Nat := if cc R k = true then k + 1 else k
theorem fold_stp (R : List Tn) : ∀ (l : List Nat) (k : Nat), k ≤ cm R → l.foldl (fun k _ => stp R k) k = min (k + l.length) (cm R)
  | [], k, h => by simp; omega
  | x :: l, k, h => by
    obtain ⟨h1, h2⟩ := cm_spec R
    rw [List.foldl_cons]
    unfold stp
    by_cases e : k = cm R
    · rw [e, h2]
      have := fold_stp R l (cm R) (Nat.le_refl _)
      unfold stp at this
      simp only [Bool.false_eq_true, if_false]
      rw [this]
      simp
    · rw [h1 k (by omega)]
      simp only [if_true]
      have := fold_stp R l (k + 1) (by omega)
      unfold stp at this
      rw [this, List.length_cons]
      congr 1
      omega
theorem len_rD (r : List Tn) : gLen [rD r] = some (.int (r.length : Nat)) := by unfold rD; simp
theorem lround_it (r R : List Tn) (h : R.length ≤ 1900) (x y : Option D) (k : Nat) : TL.iRng1 (aCons (vCall gLen (aCons (eVar 1) aNil)) aNil) [some (rD r), some (rD (seg R k)), x, y] = .ok ((List.range (seg R k).length).map fun i => .int (i : Nat), [some (rD r), some (rD (seg R k)), x, y]) := by
  refine iRng1_ok ?_ (by unfold seg; simp; omega)
  walk_at "ev"
  rw [len_rD]
  walk_at "ev"
theorem rot_el (r C : List Tn) (x : Option D) (h : C.length ≤ 1900) (i : Nat) (hi : i ≤ C.length) : vBin gAdd (vSl (eVar 1) (pSome (eVar 3)) pNone) (vSl (eVar 1) pNone (pSome (eVar 3))) [some (rD r), some (rD C), x, some (.int (i : Nat))] = .ok (.val (rD (C.drop i ++ C.take i)), [some (rD r), some (rD C), x, some (.int (i : Nat))]) := by
  unfold rD
  walk_at "ev"
  rw [z_cut_kn (by simpa using hi), z_cut_nk (by simpa using hi)]
  walk_at "ev"
  rw [if_pos (by omega)]
  simp
theorem v_lround (r : List Tn) (h : r.length ≤ 1900) : f__law_round.m [rD r] = .ok (rD (rnd r), .none) := by
  have hr := red_len r
  have hcm := cm_le (red r)
  have hco : coreR r = seg (red r) (cm (red r)) := rfl
  have key : ∀ I : DI, (∀ x k y, I [some (rD r), some (rD (seg (red r) k)), x, y] = .ok ((List.range (seg (red r) k).length).map fun i => .int (i : Nat), [some (rD r), some (rD (seg (red r) k)), x, y])) →
      bodyM 4 none false (sSeq (sSet 1 (eCall f__law_reduced (chkN f__law_reduced.np (aCons (eVar 0) (aNil))))) (sSeq (sFor I (bName 2) (sIf (tAn (tOf (vBin gGt (vCall gLen (aCons (eVar 1) (aNil))) (eC (.int 1)))) (tOf (vBin gEq (vBin gIx (eVar 1) (eC (.int 0))) (eTup (aCons (vBin gIx (vBin gIx (eVar 1) (vUn gNeg (eC (.int 1)))) (eC (.int 0))) (aCons (vUn gNeg (vBin gIx (vBin gIx (eVar 1) (vUn gNeg (eC (.int 1)))) (eC (.int 1)))) (aNil))))))) (sSet 1 (vSl (eVar 1) (pSome (eC (.int 1))) (pSome (vUn gNeg (eC (.int 1)))))) (sNext))) (sRet (vIf (tOf (vBin gNe (eVar 1) (eTup (aNil)))) (vCall gMin (aCons (vOf (oComp I [3] (bName 3) (tYesD) (vBin gAdd (vSl (eVar 1) (pSome (eVar 3)) (pNone)) (vSl (eVar 1) (pNone) (pSome (eVar 3)))))) (aNil))) (eTup (aNil)))))) [rD r] = .ok (rD (rnd r), .none) := by
    intro I hI
    walk_at "ev"
    rw [v_lreduced r (by omega)]
    walk_at "ev"
    unfold rnd
    rw [hco]
    clear hco
    generalize hR : red r = R at *
    unfold sFor
    have s0 : seg R 0 = R := by unfold seg; simp
    have it0 := hI none 0 none
    rw [s0] at it0
    rw [it0]
    simp only [Res.bind_ok]
    obtain ⟨ev', e1, x, rfl, hk⟩ := forL_inv (b := bName 2) (body := sIf (tAn (tOf (vBin gGt (vCall gLen (aCons (eVar 1) aNil)) (eC (.int 1)))) (tOf (vBin gEq (vBin gIx (eVar 1) (eC (.int 0))) (eTup (aCons (vBin gIx (vBin gIx (eVar 1) (vUn gNeg (eC (.int 1)))) (eC (.int 0))) (aCons (vUn gNeg (vBin gIx (vBin gIx (eVar 1) (vUn gNeg (eC (.int 1)))) (eC (.int 1)))) aNil)))))) (sSet 1 (vSl (eVar 1) (pSome (eC (.int 1))) (pSome (vUn gNeg (eC (.int 1)))))) sNext)
      (enc := fun i : Nat => .int (i : Nat)) (fun k _ => stp R k) (fun k ev => ∃ x, ev = [some (rD r), some (rD (seg R k)), x, none] ∧ k ≤ cm R) (xs := List.range R.length) (s := 0) (ev := [some (rD r), some (rD R), none, none]) (fun i _ k ev hI => by
        obtain ⟨x, rfl, hk⟩ := hI
        obtain ⟨c1, c2⟩ := cm_spec R
        refine ⟨_, [some (rD r), some (rD (seg R (stp R k))), some (.int (i : Nat)), none], .nx, rfl, ?_, .inl rfl, _, rfl, ?_⟩
        · walk_at "ev"
          rw [len_rD, seg_len (by omega)]
          walk_at "ev"
          by_cases h1 : 1 + 2 * k < R.length
          · have h2 : (1 : Int) < ((R.length - 2 * k : Nat) : Int) := by omega
            have z0 : gIx (rD (seg R k)) (.int 0) = some (tD (nth R k)) := seg_0 (by omega)
            have zm : gIx (rD (seg R k)) (.int (-1)) = some (tD (nth R (R.length - 1 - k))) := seg_m (by omega)
            have y0 : ∀ p : Tn, gIx (tD p) (.int 0) = some (.int p.1) := fun p => by unfold tD; simp
            have y1 : ∀ p : Tn, gIx (tD p) (.int 1) = some (.int p.2) := fun p => by unfold tD; simp
            have e6 : ∀ p : Tn, PyData.tuple [.int p.1, .int (-p.2)] = tD (inv1 p) := fun p => rfl
            simp only [h2, decide_true, cond_true]
            try walk_at "ev"
            rw [z0]
            walk_at "ev"
            rw [zm]
            walk_at "ev"
            rw [y0]
            walk_at "ev"
            rw [zm]
            walk_at "ev"
            rw [y1]
            walk_at "ev"
            rw [e6, v_eqt]
            walk_at "ev"
            by_cases e : nth R k = inv1 (nth R (R.length - 1 - k))
            · have hc : stp R k = k + 1 := by unfold stp cc; simp [h1, ← e]
              simp only [decide_eq_true e, cond_true]
              rw [seg_sl h1, hc]
              simp
            · have hc : stp R k = k := by unfold stp cc; simp [e]
              rw [hc]
              simp [e]
          · have h2 : ¬ (1 : Int) < ((R.length - 2 * k : Nat) : Int) := by omega
            have h3 : cc R k = false := by unfold cc; simp [h1]
            simp [h2, stp, h3]
        · unfold stp
          split
          · rename_i hc
            have : k ≠ cm R := fun z => by rw [z, c2] at hc; cases hc
            omega
          · exact hk) ⟨_, by rw [s0], Nat.zero_le _⟩
    rw [e1]
    rw [fold_stp R _ 0 (Nat.zero_le _)]
    have e9 : min (0 + (List.range R.length).length) (cm R) = cm R := by rw [List.length_range]; omega
    rw [e9]
    generalize hC : seg R (cm R) = C at *
    have hCl : C.length ≤ 1900 := by rw [← hC]; unfold seg; simp; omega
    have ne := v_ne C []
    have e5 : rD [] = .tuple [] := rfl
    rw [e5] at ne
    walk_at "ev"
    rw [ne]
    by_cases hn : C = []
    · subst hn
      simp
      rfl
    · simp only [hn, decide_false, Bool.not_false]
      walk_at "ev"
      have hl : 1 ≤ C.length := by
        cases C with
        | nil => exact absurd rfl hn
        | cons _ _ => simp
      have hI2 := hI x (cm R) none
      rw [hC] at hI2
      rw [oComp_map (enc := fun i : Nat => .int (i : Nat)) (f := fun i => rD (C.drop i ++ C.take i)) (xs := List.range C.length) hI2 (by rw [sizeLine_eq, List.length_range]; omega) (fun i hi => by
        have hi : i < C.length := List.mem_range.mp hi
        exact ⟨[some (rD r), some (rD C), x, some (.int (i : Nat))], by simp [wipeE], rot_el r C x hCl i (by omega), by simp [wipeE]⟩) (by simp [wipeE, backE])]
      walk_at "ev"
      have er : (List.range C.length).map (fun i => rD (C.drop i ++ C.take i)) = (rots C).map rD := by
        unfold rots
        rw [show max C.length 1 = C.length by omega, List.map_map]
        rfl
      rw [er, v_min (fun z => by obtain ⟨x, xs, e⟩ := rots_ne C; rw [e] at z; cases z)]
      walk_at "ev"
  exact key (TL.iRng1 (aCons (vCall gLen (aCons (eVar 1) aNil)) aNil)) fun x k y => lround_it r (red r) (by omega) x y k
end WL

set_option Elab.async false
set_option linter.all false
set_option maxRecDepth 100000
set_option maxHeartbeats 4000000
namespace WL
open PySem PySem.Spec PyProof.Rows L2 HotX L2H LamX TL Wd
local macro_rules | `(tactic| walk_at "ev") => `(tactic| simp [bodyM, sSeq, sIf, sSet, sSetO, sRet, sRetO, sRetS, sRetN, sApp, sPop, sDrop, sRaise, sUnp, sPar, sNext, oLst, oCall, oBin, oRep, vOf, aNil, aCons, eTup, eC, eVar, eOwn, vCall, vUn, vBin, vAn, vOrr, vNo, vIf, vChain, tOf, tTru, tNo, tAn, tOrr, ioGet, List.replicate, eCall, oCallF, chkN, z_call1, z_call2, z_call3, z_io1, z_io2, z_io3, vSl, pNone, pSome, eIdx, sizeLine_eq, wipeE, backE])
def sortD' : D → Int
  | .none => 0
  | .bool _ => 1
  | .int _ => 2
  | .str _ => 3
  | .tuple _ => 4
  | .list _ => 5
  | .dict _ => 6
theorem v_sort (d : D) (h : d.plain = true) : f__law_sort.m [d] = .ok (.int (sortD' d), .none) := by
  show bodyM 1 none false m__law_sort _ = _
  unfold m__law_sort
  cases d <;> simp only [sortD'] <;> walk_at "ev" <;> simp [gIs, isD, isNone, gIsa, isaD, h, PySem.PyData.isInt, PySem.PyData.isBool, PySem.PyData.isStr, PySem.PyData.isTuple, PySem.PyData.isList] <;> try rfl
theorem v_is_cord_no (d : D) (h : d = .none ∨ (∃ r : List Tn, d = .list (r.map tD)) ∨ d = .int 0 ∨ d = .tuple [.tuple [.bool true, .int 1]]) : f_is_cord.m [d] = .ok (.bool false, .none) := by
  show bodyM 2 none false m_is_cord _ = _
  unfold m_is_cord
  rcases h with rfl | ⟨r, rfl⟩ | rfl | rfl
  · rfl
  · have : f_is_tuple_of.m [.list (r.map tD), .int 0, .int 400] = .ok (.bool false, .none) := by
      show bodyM 3 none false m_is_tuple_of _ = _
      unfold m_is_tuple_of
      walk_at "ev"
      simp [gIsa, isaD, pl_r, PySem.PyData.isTuple]
    walk_at "ev"
    rw [this]
    walk_at "ev"
  · rfl
  · rfl
theorem v_need_no (d : D) (h : f_is_cord.m [d] = .ok (.bool false, .none)) : f_need_cord.m [d] = .err "InvalidCord" := by
  show bodyM 1 none false m_need_cord _ = _
  unfold m_need_cord
  walk_at "ev"
  rw [h]
  walk_at "ev"
theorem v_pm (j : Int) : gNotIn (.int j) (.tuple [.int 1, .int (-1)]) = some (.bool (!(decide (j = 1) || decide (j = -1)))) := by
  have h1 : okD (.int j) = true := rfl
  have h2 : okD (.tuple [.int 1, .int (-1)]) = true := rfl
  unfold gNotIn inD
  simp only [h1, h2, and_self, if_true, Option.map_some, List.any_cons, List.any_nil, Bool.or_false, PyData.eqv]
  congr 3
  rw [Bool.eq_iff_iff]
  simp only [Bool.or_eq_true, beq_iff_eq, decide_eq_true_eq]
  omega
def ltBody : DS := (sSeq
              (sIf
                (tOrr (tNo (tTru (vUn (gIsa "tuple") (eVar 1))))
                  (tOrr (tOf (vBin gNe (vCall gLen (aCons (eVar 1) aNil)) (eC (PyData.int 2))))
                    (tOrr
                      (tOf
                        (vBin gNe (eCall f__law_sort (chkN 1 (aCons (vBin gIx (eVar 1) (eC (PyData.int 0))) aNil)))
                          (eC (PyData.int 2))))
                      (tOf
                        (vBin gNe (eCall f__law_sort (chkN 1 (aCons (vBin gIx (eVar 1) (eC (PyData.int 1))) aNil)))
                          (eC (PyData.int 2)))))))
                (sRet (eC (PyData.bool false))) sNext)
              (sIf
                (tOrr
                  (tNo
                    (tOf
                      (vChain gLe gLe (eC (PyData.int 0)) (vBin gIx (eVar 1) (eC (PyData.int 0))) (eC (PyData.int 7)))))
                  (tOf
                    (vBin gNotIn (vBin gIx (eVar 1) (eC (PyData.int 1)))
                      (eTup (aCons (eC (PyData.int 1)) (aCons (vUn gNeg (eC (PyData.int 1))) aNil))))))
                (sRet (eC (PyData.bool false))) sNext))
theorem lt_step (r : List Tn) (p : Tn) : ltBody [some (rD r), some (tD p)] = .ok (if okT p = true then .nx else .rt (.bool false), [some (rD r), some (tD p)]) := by
  have hp : (tD p).plain = true := rfl
  have e1 : gIsa "tuple" (tD p) = some (.bool true) := isa_tt (by simp)
  have y0 : gIx (tD p) (.int 0) = some (.int p.1) := by unfold tD; simp
  have y1 : gIx (tD p) (.int 1) = some (.int p.2) := by unfold tD; simp
  have l2 : gLen [tD p] = some (.int 2) := rfl
  have hok : okT p = (decide (0 ≤ p.1) && decide (p.1 ≤ 7) && (decide (p.2 = 1) || decide (p.2 = -1))) := by
    unfold okT
    rw [Bool.eq_iff_iff]
    simp
    omega
  unfold ltBody
  walk_at "ev"
  rw [e1]
  walk_at "ev"
  rw [l2]
  walk_at "ev"
  rw [y0]
  walk_at "ev"
  rw [v_sort _ (by rfl)]
  walk_at "ev"
  rw [y1]
  walk_at "ev"
  rw [v_sort _ (by rfl)]
  simp only [sortD']
  walk_at "ev"
  rw [y0]
  walk_at "ev"
  rw [hok]
  cases decide (0 ≤ p.1) with
  | false => simp
  | true =>
    cases decide (p.1 ≤ 7) with
    | false => simp
    | true =>
      walk_at "ev"
      rw [y1]
      walk_at "ev"
      rw [v_pm]
      walk_at "ev"
      by_cases a1 : p.2 = 1
      · simp [a1]
      · by_cases a2 : p.2 = -1
        · simp [a2]
        · simp [a1, a2]
theorem v_lis_turns (r : List Tn) : f__law_is_turns.m [rD r] = .ok (.bool (okC r), .none) := by
  show bodyM 2 none false m__law_is_turns _ = _
  unfold m__law_is_turns
  have e1 : gIsa "tuple" (rD r) = some (.bool true) := isa_tt (pl_r r)
  walk_at "ev"
  rw [e1]
  walk_at "ev"
  rw [len_rD]
  walk_at "ev"
  by_cases hl : r.length ≤ 400
  · have h2 : ¬ (400 : Int) < (r.length : Int) := by omega
    simp only [h2, decide_false, cond_false]
    walk_at "ev"
    unfold sFor iSeq
    walk_at "ev"
    have e0 : seqOf (rD r) = some (r.map tD) := rfl
    rw [e0]
    walk_at "ev"
    obtain ⟨ev', ⟨x, rfl⟩, e2⟩ := forL_find (b := bName 1) (body := ltBody) (enc := tD) okT (.bool false) (fun ev => ∃ x, ev = [some (rD r), x]) (xs := r) (ev := [some (rD r), none]) (fun a _ ev hI => by
      obtain ⟨x, rfl⟩ := hI
      refine ⟨_, [some (rD r), some (tD a)], rfl, ?_⟩
      have := lt_step r a
      by_cases h : okT a = true
      · rw [if_pos h] at this ⊢
        exact ⟨this, _, rfl⟩
      · rw [if_neg h] at this ⊢
        exact ⟨this, _, rfl⟩) ⟨_, rfl⟩
    unfold ltBody at e2
    rw [e2]
    have h3 : okC r = r.all okT := by unfold okC; simp [hl]
    rw [h3]
    by_cases h : r.all okT = true
    · rw [if_pos h, h]; simp
    · rw [if_neg h]
      have : r.all okT = false := by simpa using h
      rw [this]
      simp
  · have h2 : (400 : Int) < (r.length : Int) := by omega
    have h3 : okC r = false := by unfold okC; simp [hl]
    rw [h3]
    simp [h2]
/-! ### is_turning, and the law's -/
def isT (a b v : List Tn) : Bool := okC v && decide (red (v ++ a ++ inv v) = red b)
theorem v_isturning (a b v : List Tn) (h : okC a = true) (h2 : okC b = true) (hv : v.length ≤ 1000) : f_is_turning.m [rD a, rD b, rD v] = .ok (.bool (isT a b v), .none) := by
  have hl : a.length ≤ 400 := by unfold okC at h; simp at h; exact h.1
  have hl2 : b.length ≤ 400 := by unfold okC at h2; simp at h2; exact h2.1
  show bodyM 3 none false m_is_turning _ = _
  unfold m_is_turning
  walk_at "ev"
  rw [v_need a h]
  walk_at "ev"
  rw [v_need b h2]
  walk_at "ev"
  unfold isT
  by_cases hc : okC v = true
  · simp only [hc, cond_true, Bool.true_and]
    walk_at "ev"
    rw [rD_add (by omega)]
    walk_at "ev"
    rw [v_back _ (by omega)]
    walk_at "ev"
    rw [rD_add (by simp [inv_len]; omega)]
    walk_at "ev"
    rw [v_reduced _ (by simp [inv_len]; omega)]
    walk_at "ev"
    rw [v_reduced _ (by omega)]
    walk_at "ev"
    rw [v_eq]
    simp
  · have : okC v = false := by simpa using hc
    simp [this]
theorem v_lisT (a b v : List Tn) (hl : a.length ≤ 400) (hl2 : b.length ≤ 400) (hv : v.length ≤ 1000) : f__law_is_turning.m [rD a, rD b, rD v] = .ok (.bool (isT a b v), .none) := by
  show bodyM 3 none false m__law_is_turning _ = _
  unfold m__law_is_turning
  walk_at "ev"
  rw [v_lis_turns]
  walk_at "ev"
  unfold isT
  by_cases hc : okC v = true
  · simp only [hc, cond_true, Bool.true_and]
    walk_at "ev"
    rw [rD_add (by omega)]
    walk_at "ev"
    rw [v_lback _ (by omega)]
    walk_at "ev"
    rw [rD_add (by simp [inv_len]; omega)]
    walk_at "ev"
    rw [v_lreduced _ (by simp [inv_len]; omega)]
    walk_at "ev"
    rw [v_lreduced _ (by omega)]
    walk_at "ev"
    rw [v_eq]
    simp
  · have : okC v = false := by simpa using hc
    simp [this]
def odd4 (d : D) : Prop := d = .none ∨ (∃ r : List Tn, d = .list (r.map tD)) ∨ d = .int 0 ∨ d = .tuple [.tuple [.bool true, .int 1]]
theorem v_isturning_no (a b : List Tn) (d : D) (h : okC a = true) (h2 : okC b = true) (hd : odd4 d) : f_is_turning.m [rD a, rD b, d] = .ok (.bool false, .none) := by
  show bodyM 3 none false m_is_turning _ = _
  unfold m_is_turning
  walk_at "ev"
  rw [v_need a h]
  walk_at "ev"
  rw [v_need b h2]
  walk_at "ev"
  rw [v_is_cord_no d hd]
  walk_at "ev"
theorem v_lis_no (d : D) (hd : odd4 d) : f__law_is_turns.m [d] = .ok (.bool false, .none) := by
  show bodyM 2 none false m__law_is_turns _ = _
  unfold m__law_is_turns
  rcases hd with rfl | ⟨r, rfl⟩ | rfl | rfl
  · rfl
  · have e : gIsa "tuple" (.list (r.map tD)) = some (.bool false) := by simp [gIsa, isaD, pl_r, PySem.PyData.isTuple]
    walk_at "ev"
    rw [e]
    walk_at "ev"
  · rfl
  · rfl
theorem v_lisT_no (a b : List Tn) (d : D) (hd : odd4 d) : f__law_is_turning.m [rD a, rD b, d] = .ok (.bool false, .none) := by
  show bodyM 3 none false m__law_is_turning _ = _
  unfold m__law_is_turning
  walk_at "ev"
  rw [v_lis_no d hd]
  walk_at "ev"
end WL

set_option Elab.async false
set_option linter.all false
set_option maxRecDepth 100000
set_option maxHeartbeats 4000000
namespace WL
open PySem PySem.Spec PyProof.Rows L2 HotX L2H LamX TL Wd
local macro_rules | `(tactic| walk_at "ev") => `(tactic| simp [bodyM, sSeq, sIf, sSet, sSetO, sRet, sRetO, sRetS, sRetN, sApp, sPop, sDrop, sRaise, sUnp, sPar, sNext, oLst, oCall, oBin, oRep, vOf, aNil, aCons, eTup, eC, eVar, eOwn, vCall, vUn, vBin, vAn, vOrr, vNo, vIf, vChain, tOf, tTru, tNo, tAn, tOrr, ioGet, List.replicate, eCall, oCallF, chkN, z_call1, z_call2, z_call3, z_io1, z_io2, z_io3, vSl, pNone, pSome, eIdx, sizeLine_eq, wipeE, backE])
def good : Nat → D → Prop
  | _, .none => True
  | _, .bool _ => True
  | _, .int _ => True
  | n + 1, .list xs => xs.length ≤ 16777216 ∧ ∀ x ∈ xs, good n x
  | n + 1, .tuple xs => xs.length ≤ 16777216 ∧ ∀ x ∈ xs, good n x
  | _, _ => False
theorem good_plain : ∀ (n : Nat) (d : D), good n d → d.plain = true
  | n, .none, _ => rfl
  | n, .bool _, _ => rfl
  | n, .int _, _ => rfl
  | n + 1, .list xs, h => by
    have h : xs.length ≤ 16777216 ∧ ∀ x ∈ xs, good n x := h
    have : ∀ ys : List D, (∀ x ∈ ys, good n x) → PyData.plainAll ys = true := fun ys => by
      induction ys with
      | nil => intro _; rfl
      | cons y ys ih => intro h; simp [good_plain n y (h y (by simp)), ih fun x hx => h x (by simp [hx])]
    exact this xs h.2
  | n + 1, .tuple xs, h => by
    have h : xs.length ≤ 16777216 ∧ ∀ x ∈ xs, good n x := h
    have : ∀ ys : List D, (∀ x ∈ ys, good n x) → PyData.plainAll ys = true := fun ys => by
      induction ys with
      | nil => intro _; rfl
      | cons y ys ih => intro h; simp [good_plain n y (h y (by simp)), ih fun x hx => h x (by simp [hx])]
    exact this xs h.2
  | 0, .list _, h => h.elim
  | 0, .tuple _, h => h.elim
  | 0, .str _, h => h.elim
  | 0, .dict _, h => h.elim
  | n + 1, .str _, h => h.elim
  | n + 1, .dict _, h => h.elim
theorem in45 (j : Int) : gIn (.int j) (.tuple [.int 4, .int 5]) = some (.bool (decide (j = 4) || decide (j = 5))) := by
  have h1 : okD (.int j) = true := rfl
  have h2 : okD (.tuple [.int 4, .int 5]) = true := rfl
  unfold gIn inD
  simp only [h1, h2, and_self, if_true, Option.map_some, List.any_cons, List.any_nil, Bool.or_false, PyData.eqv]
  congr 2
  rw [Bool.eq_iff_iff]
  simp only [Bool.or_eq_true, beq_iff_eq, decide_eq_true_eq]
  omega
theorem zip_same (xs : List D) : zip2 xs xs = xs.map fun x => .tuple [x, x] := by
  unfold zip2
  induction xs with
  | nil => rfl
  | cons x xs ih => simp [ih]
theorem like_in (n : Nat) (xs : List D) (hl : xs.length ≤ 16777216) (a b : D) (h : ∀ x ∈ xs, (f__law_like n).m [x, x] = .ok (.bool true, .none)) (s : Option D) (hz : zipD [a, b] = some (zip2 xs xs)) :
    oComp (iZip (aCons (eVar 0) (aCons (eVar 1) (aNil)))) [3, 4] (bTup 2 (bCons (bName 3) (bCons (bName 4) (bNil)))) (tNo (tTru (eCall (f__law_like n) (chkN (f__law_like n).np (aCons (eVar 3) (aCons (eVar 4) (aNil))))))) (eC (.int 1)) [some a, some b, s, none, none] = .ok (.list [], [some a, some b, s, none, none]) := by
  rw [oComp_filter (enc := fun x : D => .tuple [x, x]) (f := fun _ => .int 1) (p := fun _ => false) (xs := xs) (by
    unfold TL.iZip
    walk_at "ev"
    rw [hz, zip_same]
    walk_at "ev") (by rw [sizeLine_eq]; exact hl) (fun x hx => by
    refine ⟨[some a, some b, s, some x, some x], [some a, some b, s, some x, some x], by simp [wipeE], ?_, by simp [wipeE], fun z => nomatch z⟩
    walk_at "ev"
    rw [h x hx]
    walk_at "ev") (by simp [wipeE, backE])]
  simp
theorem v_like : ∀ (n : Nat) (d : D), good n d → (f__law_like (n + 1)).m [d, d] = .ok (.bool true, .none) := by
  intro n
  induction n with
  | zero =>
    intro d h
    have hp := good_plain 0 d h
    have hs := v_sort d hp
    show bodyM 5 none false (m__law_like (f__law_like 0)) _ = _
    unfold m__law_like
    cases d with
    | none => rfl
    | bool b => cases b <;> rfl
    | int i =>
      walk_at "ev"
      rw [hs]
      simp only [sortD']
      walk_at "ev"
      rw [hs]
      simp only [sortD']
      walk_at "ev"
      rw [in45]
      simp
    | _ => exact h.elim
  | succ n ih =>
    intro d h
    have hp := good_plain (n + 1) d h
    have hs := v_sort d hp
    show bodyM 5 none false (m__law_like (f__law_like (n + 1))) _ = _
    unfold m__law_like
    cases d with
    | none => rfl
    | bool b => cases b <;> rfl
    | int i =>
      walk_at "ev"
      rw [hs]
      simp only [sortD']
      walk_at "ev"
      rw [hs]
      simp only [sortD']
      walk_at "ev"
      rw [in45]
      simp
    | str x => exact h.elim
    | dict x => exact h.elim
    | list xs =>
      have hx : xs.length ≤ 16777216 ∧ ∀ x ∈ xs, good n x := h
      have hc := like_in (n + 1) xs hx.1 (.list xs) (.list xs) (fun x q => ih x (hx.2 x q)) (some (.int 5)) rfl
      walk_at "ev"
      rw [hs]
      simp only [sortD']
      walk_at "ev"
      rw [hs]
      simp only [sortD']
      walk_at "ev"
      rw [in45]
      walk_at "ev"
      simp at hc
      rw [hc]
      walk_at "ev"
      rfl
    | tuple xs =>
      have hx : xs.length ≤ 16777216 ∧ ∀ x ∈ xs, good n x := h
      have hc := like_in (n + 1) xs hx.1 (.tuple xs) (.tuple xs) (fun x q => ih x (hx.2 x q)) (some (.int 4)) rfl
      walk_at "ev"
      rw [hs]
      simp only [sortD']
      walk_at "ev"
      rw [hs]
      simp only [sortD']
      walk_at "ev"
      rw [in45]
      walk_at "ev"
      simp at hc
      rw [hc]
      walk_at "ev"
      rfl
end WL

set_option Elab.async false
set_option linter.all false
set_option maxRecDepth 100000
set_option maxHeartbeats 4000000
namespace WL
open PySem PySem.Spec PyProof.Rows L2 HotX L2H LamX TL Wd
local macro_rules | `(tactic| walk_at "ev") => `(tactic| simp [bodyM, sSeq, sIf, sSet, sSetO, sRet, sRetO, sRetS, sRetN, sApp, sPop, sDrop, sRaise, sUnp, sPar, sNext, oLst, oCall, oBin, oRep, vOf, aNil, aCons, eTup, eC, eVar, eOwn, vCall, vUn, vBin, vAn, vOrr, vNo, vIf, vChain, tOf, tTru, tNo, tAn, tOrr, ioGet, List.replicate, eCall, oCallF, chkN, z_call1, z_call2, z_call3, z_io1, z_io2, z_io3, vSl, pNone, pSome, eIdx, sSetIx, sizeLine_eq, wipeE, backE])
def Cup (d : D) : Prop := ∃ c0 c1 : Int, d = .list [.int c0, .int c1] ∧ 0 ≤ c0 ∧ 0 ≤ c1 ∧ c1 < 2147483648
theorem z_mod {i j : Int} (h : j ≠ 0) : gMod (.int i) (.int j) = some (.int (i.fmod j)) := by
  show (if j ≠ 0 then some (PyData.int (i.fmod j)) else none) = _
  rw [if_pos h]
theorem z_fdiv {i j : Int} (h : 0 < j) (h2 : j < 1073741824) : gFdiv (.int i) (.int j) = some (.int (i.fdiv j)) := by
  show (if j ≠ 0 ∧ j.natAbs < 1073741824 then some (PyData.int (i.fdiv j)) else if 0 < j ∧ j.natAbs.log2 < 9000 then some (.int (i.fdiv j)) else none) = _
  rw [if_pos ⟨by omega, by omega⟩]
theorem ix20 : ixN 2 0 = some 0 := rfl
theorem ix21 : ixN 2 1 = some 1 := rfl
theorem fm {i j : Int} (h : 0 < j) : 0 ≤ i.fmod j ∧ i.fmod j < j := ⟨Int.fmod_nonneg_of_pos i h, Int.fmod_lt_of_pos i h⟩
theorem v_roll (cup : D) (many : Int) (hc : Cup cup) (h1 : 0 < many) (h2 : many < 1000000) : ∃ r cup', f__law_roll.m [cup, .int many] = .ok (.int r, cup') ∧ 0 ≤ r ∧ r < many ∧ Cup cup' := by
  obtain ⟨c0, c1, rfl, p0, p1, p2⟩ := hc
  by_cases hz : 0 < c0
  · refine ⟨c0.fmod many, .list [.int (c0.fdiv many), .int c1], ?_, (fm h1).1, (fm h1).2, _, _, rfl, Int.fdiv_nonneg p0 (by omega), p1, p2⟩
    show bodyM 4 (some 0) false m__law_roll _ = _
    unfold m__law_roll
    walk_at "ev"
    simp only [hz, decide_true, cond_true]
    try walk_at "ev"
    rw [z_mod (by omega)]
    walk_at "ev"
    rw [z_fdiv h1 (by omega)]
    walk_at "ev"
    simp [ix20]
  · have ha : -(2 ^ 64) < c1 := by omega
    have hb : c1 < 2 ^ 64 := by omega
    generalize hd : (c1 * 30493 + 8513).fmod 2147483543 = d1
    have hd2 := fm (i := c1 * 30493 + 8513) (j := 2147483543) (by omega)
    rw [hd] at hd2
    have hc' : -(2 ^ 64) < d1 := by omega
    have hd' : d1 < 2 ^ 64 := by omega
    refine ⟨((((d1 * (d1 + 269)).fmod 2147483587).fdiv 857).fmod many), .list [.int c0, .int d1], ?_, (fm h1).1, (fm h1).2, _, _, rfl, p0, by omega, by omega⟩
    show bodyM 4 (some 0) false m__law_roll _ = _
    unfold m__law_roll
    walk_at "ev"
    simp only [hz, decide_false, cond_false]
    walk_at "ev"
    rw [mul_ok ha hb]
    walk_at "ev"
    rw [z_mod (by omega), hd]
    walk_at "ev"
    simp [ix21]
    rw [mul_ok hc' hd']
    walk_at "ev"
    rw [z_mod (by omega)]
    walk_at "ev"
    rw [z_fdiv (by omega) (by omega)]
    walk_at "ev"
    rw [z_mod (by omega)]
    walk_at "ev"
theorem v_some (cup : D) (xs : List D) (hc : Cup cup) (h1 : 0 < xs.length) (h2 : xs.length < 1000000) : ∃ x cup', x ∈ xs ∧ f__law_some.m [cup, .list xs] = .ok (x, cup') ∧ Cup cup' := by
  obtain ⟨r, cup', e, r0, r1, hc'⟩ := v_roll cup xs.length hc (by omega) (by omega)
  obtain ⟨k, rfl⟩ := Int.eq_ofNat_of_zero_le r0
  have hk : k < xs.length := by omega
  refine ⟨xs[k], cup', List.getElem_mem hk, ?_, hc'⟩
  show bodyM 2 (some 0) false m__law_some _ = _
  unfold m__law_some
  walk_at "ev"
  rw [e]
  walk_at "ev"
  rw [z_atn hk]
  simp [List.getElem?_eq_getElem hk]
end WL

set_option Elab.async false
set_option linter.all false
set_option maxRecDepth 100000
set_option maxHeartbeats 4000000
namespace WL
open PySem PySem.Spec PyProof.Rows L2 HotX L2H LamX TL Wd
local macro_rules | `(tactic| walk_at "ev") => `(tactic| simp [bodyM, sSeq, sIf, sSet, sSetO, sRet, sRetO, sRetS, sRetN, sApp, sPop, sDrop, sRaise, sUnp, sPar, sNext, oLst, oCall, oBin, oRep, vOf, aNil, aCons, eTup, eC, eVar, eOwn, vCall, vUn, vBin, vAn, vOrr, vNo, vIf, vChain, tOf, tTru, tNo, tAn, tOrr, ioGet, List.replicate, eCall, oCallF, chkN, z_call1, z_call2, z_call3, z_io1, z_io2, z_io3, vSl, pNone, pSome, eIdx, sizeLine_eq, wipeE, backE])
theorem mul_ok2 {i j : Int} (h : -(2 ^ 64) < j) (h2 : j < 2 ^ 64) : gMul (.int i) (.int j) = some (.int (i * j)) := by
  unfold gMul mulOk
  simp [h, h2]
  intro hh
  omega
theorem pow18 : gPow (.int 10) (.int 18) = some (.int 1000000000000000000) := by rfl
theorem v_cup (ns : List Int) (h : ns.length ≤ 63) : ∃ cup, f__law_cup.m [scD ns] = .ok (cup, .none) ∧ Cup cup := by
  obtain ⟨c, cs, hcs⟩ : ∃ (c : Int) (cs : List D), ns.map PyData.int ++ [.int 0] = .int c :: cs := by
    cases ns with
    | nil => exact ⟨0, [], rfl⟩
    | cons n ns => exact ⟨n, ns.map PyData.int ++ [.int 0], rfl⟩
  generalize hcell : (if c < 0 then -c else c) = cell
  have hp : 0 ≤ cell := by rw [← hcell]; split <;> omega
  have hm := fm (i := cell * 337 + 4801) (j := 2034129307) (by omega)
  refine ⟨.list [.int (if 1000000000000000000 ≤ cell then cell.fdiv 97 else 0), .int ((cell * 337 + 4801).fmod 2034129307 + 193)], ?_, _, _, rfl, ?_, by omega, by omega⟩
  · show bodyM 2 none true m__law_cup _ = _
    have hg : gList [scD ns] = some (.list (ns.map PyData.int)) := rfl
    have ha : gAdd (.list (ns.map PyData.int)) (.list [.int 0]) = some (.list (.int c :: cs)) := by
      rw [z_add_l, if_pos (by simp [sizeLine_eq]; omega), hcs]
    unfold m__law_cup
    walk_at "ev"
    rw [hg]
    walk_at "ev"
    rw [if_pos (show ns.length ≤ 16777215 by omega), hcs]
    walk_at "ev"
    rw [hcell, pow18]
    walk_at "ev"
    by_cases h1 : 1000000000000000000 ≤ cell
    · simp only [h1, decide_true, cond_true, if_true]
      try walk_at "ev"
      rw [z_fdiv (by omega) (by omega)]
      walk_at "ev"
      rw [mul_ok2 (by decide) (by decide)]
      walk_at "ev"
      rw [z_mod (by omega)]
      walk_at "ev"
    · simp only [h1, decide_false, cond_false, if_false]
      try walk_at "ev"
      rw [mul_ok2 (by decide) (by decide)]
      walk_at "ev"
      rw [z_mod (by omega)]
      walk_at "ev"
  · split
    · exact Int.fdiv_nonneg hp (by omega)
    · omega
def pgs (l : List Int) : Prop := 0 < l.length ∧ l.length ≤ 10 ∧ ∀ p ∈ l, 0 ≤ p ∧ p ≤ 7
theorem okT_inv {p : Tn} (h : okT p = true) : okT (inv1 p) = true := by
  unfold okT inv1 at *
  simp at *
  omega
theorem v_cord (cup : D) (l : List Int) (many : Nat) (hc : Cup cup) (hl : pgs l) (hm : many ≤ 100) : ∃ r cup', f__law_cord.m [cup, .list (l.map PyData.int), .int (many : Nat)] = .ok (rD r, cup') ∧ Cup cup' ∧ r.length ≤ many ∧ r.all okT = true := by
  have key : ∀ I : DI, (∃ (n : Nat) (cup1 : D), n ≤ many ∧ Cup cup1 ∧ I [some cup, some (.list (l.map PyData.int)), some (.int (many : Nat)), some (.tuple []), none] = .ok ((List.range n).map fun i => .int (i : Nat), [some cup1, some (.list (l.map PyData.int)), some (.int (many : Nat)), some (.tuple []), none])) →
      ∃ r cup', bodyM 5 (some 0) false (sSeq (sSet 3 (eTup (aNil))) (sSeq (sFor I (bName 4) (sIf (tAn (tOf (vBin gNe (eVar 3) (eTup (aNil)))) (tOf (vBin gEq (eCall f__law_roll (chkN f__law_roll.np (aCons (eOwn 0) (aCons (eC (.int 3)) (aNil))))) (eC (.int 0))))) (sSet 3 (vBin gAdd (eVar 3) (eTup (aCons (eTup (aCons (vBin gIx (vBin gIx (eVar 3) (vUn gNeg (eC (.int 1)))) (eC (.int 0))) (aCons (vUn gNeg (vBin gIx (vBin gIx (eVar 3) (vUn gNeg (eC (.int 1)))) (eC (.int 1)))) (aNil)))) (aNil))))) (sSet 3 (vBin gAdd (eVar 3) (eTup (aCons (eTup (aCons (eCall f__law_some (chkN f__law_some.np (aCons (eOwn 0) (aCons (eVar 1) (aNil))))) (aCons (vBin TL.gSub (eC (.int 1)) (vBin gMul (eC (.int 2)) (eCall f__law_roll (chkN f__law_roll.np (aCons (eOwn 0) (aCons (eC (.int 2)) (aNil))))))) (aNil)))) (aNil))))))) (sRet (eVar 3)))) [cup, .list (l.map PyData.int), .int (many : Nat)] = .ok (rD r, cup') ∧ Cup cup' ∧ r.length ≤ many ∧ r.all okT = true := by
    rintro I ⟨n, cup1, hn, hc1, hI⟩
    walk_at "ev"
    unfold sFor
    rw [hI]
    simp only [Res.bind_ok]
    obtain ⟨ev', e1, cup2, r, x, rfl, hc2, hr, ho⟩ := forL_ix (b := bName 4) (body := sIf (tAn (tOf (vBin gNe (eVar 3) (eTup (aNil)))) (tOf (vBin gEq (eCall f__law_roll (chkN 2 (aCons (eOwn 0) (aCons (eC (.int 3)) (aNil))))) (eC (.int 0))))) (sSet 3 (vBin gAdd (eVar 3) (eTup (aCons (eTup (aCons (vBin gIx (vBin gIx (eVar 3) (vUn gNeg (eC (.int 1)))) (eC (.int 0))) (aCons (vUn gNeg (vBin gIx (vBin gIx (eVar 3) (vUn gNeg (eC (.int 1)))) (eC (.int 1)))) (aNil)))) (aNil))))) (sSet 3 (vBin gAdd (eVar 3) (eTup (aCons (eTup (aCons (eCall f__law_some (chkN 2 (aCons (eOwn 0) (aCons (eVar 1) (aNil))))) (aCons (vBin TL.gSub (eC (.int 1)) (vBin gMul (eC (.int 2)) (eCall f__law_roll (chkN 2 (aCons (eOwn 0) (aCons (eC (.int 2)) (aNil))))))) (aNil)))) (aNil))))))
      (enc := fun i : Nat => .int (i : Nat)) (fun (_ : Unit) _ => ()) (fun n _ ev => ∃ cup2 r x, ev = [some cup2, some (.list (l.map PyData.int)), some (.int (many : Nat)), some (rD r), x] ∧ Cup cup2 ∧ r.length ≤ n ∧ r.all okT = true) (xs := List.range n) 0 (s := ()) (ev := [some cup1, some (.list (l.map PyData.int)), some (.int (many : Nat)), some (.tuple []), none]) (fun i a ha _ ev hI => by
        obtain ⟨cup2, r, x, rfl, hc2, hr, ho⟩ := hI
        have hi : i < n := by have := (List.getElem?_eq_some_iff.mp ha).1; simpa using this
        have ne := v_ne r []
        have e5 : rD [] = .tuple [] := rfl
        rw [e5] at ne
        -- the new turn
        have fresh : ∀ cup2, Cup cup2 → ∃ ev2, (sSet 3 (vBin gAdd (eVar 3) (eTup (aCons (eTup (aCons (eCall f__law_some (chkN 2 (aCons (eOwn 0) (aCons (eVar 1) (aNil))))) (aCons (vBin TL.gSub (eC (.int 1)) (vBin gMul (eC (.int 2)) (eCall f__law_roll (chkN 2 (aCons (eOwn 0) (aCons (eC (.int 2)) (aNil))))))) (aNil)))) (aNil)))) : DS) [some cup2, some (.list (l.map PyData.int)), some (.int (many : Nat)), some (rD r), some (.int (a : Nat))] = .ok (.nx, ev2) ∧ ∃ cup3 r3 x3, ev2 = [some cup3, some (.list (l.map PyData.int)), some (.int (many : Nat)), some (rD r3), x3] ∧ Cup cup3 ∧ r3.length ≤ 0 + i + 1 ∧ r3.all okT = true := by
          intro cup2 hc2
          obtain ⟨p, cup3, hp, es, hc3⟩ := v_some cup2 (l.map PyData.int) hc2 (by simpa using hl.1) (by have := hl.2.1; simp; omega)
          obtain ⟨q, hq, rfl⟩ := List.mem_map.mp hp
          obtain ⟨w, cup4, er, w0, w1, hc4⟩ := v_roll cup3 2 hc3 (by omega) (by omega)
          have hq2 := hl.2.2 q hq
          refine ⟨_, ?_, cup4, r ++ [(q, 1 - 2 * w)], some (.int (a : Nat)), rfl, hc4, by simp; omega, ?_⟩
          · walk_at "ev"
            rw [es]
            walk_at "ev"
            rw [er]
            walk_at "ev"
            rw [mul_ok (i := 2) (by decide) (by decide)]
            walk_at "ev"
            have e7 : PyData.tuple [.tuple [.int q, .int (1 - 2 * w)]] = rD [(q, 1 - 2 * w)] := rfl
            rw [e7, rD_add (by simp; omega)]
            simp
          · rw [List.all_append, ho]
            simp [okT]
            omega
        by_cases hn : r = []
        · subst hn
          obtain ⟨ev2, f1, f2⟩ := fresh cup2 hc2
          refine ⟨_, ev2, .nx, rfl, ?_, .inl rfl, f2⟩
          simp only [decide_true, Bool.not_true] at ne
          show (sIf _ _ _ : DS) [some cup2, some (.list (l.map PyData.int)), some (.int (many : Nat)), some (rD []), some (.int (a : Nat))] = _
          unfold sIf
          have ht : (tAn (tOf (vBin gNe (eVar 3) (eTup (aNil)))) (tOf (vBin gEq (eCall f__law_roll (chkN 2 (aCons (eOwn 0) (aCons (eC (.int 3)) (aNil))))) (eC (.int 0)))) : DT) [some cup2, some (.list (l.map PyData.int)), some (.int (many : Nat)), some (rD []), some (.int (a : Nat))] = .ok (false, [some cup2, some (.list (l.map PyData.int)), some (.int (many : Nat)), some (rD []), some (.int (a : Nat))]) := by
            walk_at "ev"
            rw [ne]
            simp
          rw [ht]
          exact f1
        · obtain ⟨y, s, rfl⟩ : ∃ y s, r = s ++ [y] := ⟨r.getLast hn, r.dropLast, (List.dropLast_concat_getLast hn).symm⟩
          obtain ⟨w, cup3, er, w0, w1, hc3⟩ := v_roll cup2 3 hc2 (by omega) (by omega)
          have ht : (tAn (tOf (vBin gNe (eVar 3) (eTup (aNil)))) (tOf (vBin gEq (eCall f__law_roll (chkN 2 (aCons (eOwn 0) (aCons (eC (.int 3)) (aNil))))) (eC (.int 0)))) : DT) [some cup2, some (.list (l.map PyData.int)), some (.int (many : Nat)), some (rD (s ++ [y])), some (.int (a : Nat))] = .ok (w == 0, [some cup3, some (.list (l.map PyData.int)), some (.int (many : Nat)), some (rD (s ++ [y])), some (.int (a : Nat))]) := by
            have h2 : (s ++ [y] = []) = False := by simp
            simp only [h2, decide_false, Bool.not_false] at ne
            walk_at "ev"
            rw [ne]
            walk_at "ev"
            rw [er]
            walk_at "ev"
          by_cases hw : w = 0
          · subst hw
            have hx := ix_last s.reverse y
            rw [List.reverse_reverse] at hx
            have y0 : gIx (tD y) (.int 0) = some (.int y.1) := by unfold tD; simp
            have y1 : gIx (tD y) (.int 1) = some (.int y.2) := by unfold tD; simp
            refine ⟨_, [some cup3, some (.list (l.map PyData.int)), some (.int (many : Nat)), some (rD (s ++ [y] ++ [inv1 y])), some (.int (a : Nat))], .nx, rfl, ?_, .inl rfl, cup3, s ++ [y] ++ [inv1 y], _, rfl, hc3, by simp at hr ⊢; omega, ?_⟩
            · show (sIf _ _ _ : DS) [some cup2, some (.list (l.map PyData.int)), some (.int (many : Nat)), some (rD (s ++ [y])), some (.int (a : Nat))] = _
              unfold sIf
              rw [ht]
              walk_at "ev"
              rw [hx]
              walk_at "ev"
              rw [y0]
              walk_at "ev"
              rw [hx]
              walk_at "ev"
              rw [y1]
              walk_at "ev"
              have e7 : PyData.tuple [.tuple [.int y.1, .int (-y.2)]] = rD [inv1 y] := rfl
              rw [e7, rD_add (by simp at hr ⊢; omega)]
              simp
            · rw [List.all_append, ho]
              have hy : okT y = true := by
                rw [List.all_append] at ho
                simp at ho
                exact ho.2
              simp [okT_inv hy]
          · obtain ⟨ev2, f1, f2⟩ := fresh cup3 hc3
            refine ⟨_, ev2, .nx, rfl, ?_, .inl rfl, f2⟩
            show (sIf _ _ _ : DS) [some cup2, some (.list (l.map PyData.int)), some (.int (many : Nat)), some (rD (s ++ [y])), some (.int (a : Nat))] = _
            unfold sIf
            rw [ht]
            have : (w == 0) = false := by simpa using hw
            rw [this]
            exact f1) ⟨_, [], _, rfl, hc1, by simp, rfl⟩
    rw [e1]
    refine ⟨r, cup2, ?_, hc2, by simp at hr; omega, by first | exact ho | (rw [List.all_eq_true] at ho; exact fun a b q => ho (a, b) q)⟩
    walk_at "ev"
  obtain ⟨n, cup1, e, n0, n1, hc1⟩ := v_roll cup ((many : Nat) + 1 : Int) hc (by omega) (by omega)
  obtain ⟨n, rfl⟩ := Int.eq_ofNat_of_zero_le n0
  refine key (TL.iRng1 (aCons (eCall f__law_roll (chkN f__law_roll.np (aCons (eOwn 0) (aCons (vBin gAdd (eVar 2) (eC (.int 1))) (aNil))))) (aNil))) ⟨n, cup1, by omega, hc1, iRng1_ok ?_ (by omega)⟩
  walk_at "ev"
  rw [e]
  walk_at "ev"
end WL

set_option Elab.async false
set_option linter.all false
set_option maxRecDepth 100000
set_option maxHeartbeats 4000000
namespace WL
open PySem PySem.Spec PyProof.Rows L2 HotX L2H LamX TL Wd
/-! ### rotations, cores: plain -/
theorem mem_rots {c z : List Tn} : z ∈ rots c ↔ ∃ u v, c = u ++ v ∧ z = v ++ u := by
  unfold rots
  rw [List.mem_map]
  constructor
  · rintro ⟨i, _, rfl⟩
    exact ⟨c.take i, c.drop i, (List.take_append_drop i c).symm, rfl⟩
  · rintro ⟨u, v, rfl, rfl⟩
    by_cases hv : v = []
    · subst hv
      refine ⟨0, List.mem_range.mpr (by omega), ?_⟩
      simp
    · refine ⟨u.length, List.mem_range.mpr ?_, ?_⟩
      · have : 0 < v.length := List.length_pos_iff.mpr hv
        rw [List.length_append]
        omega
      · simp
theorem rots_symm {c z : List Tn} (h : z ∈ rots c) : c ∈ rots z := by
  obtain ⟨u, v, rfl, rfl⟩ := mem_rots.mp h
  exact mem_rots.mpr ⟨v, u, rfl, rfl⟩
theorem rots_trans {c z w : List Tn} (h : z ∈ rots c) (k : w ∈ rots z) : w ∈ rots c := by
  obtain ⟨u, v, rfl, rfl⟩ := mem_rots.mp h
  obtain ⟨u', v', e, rfl⟩ := mem_rots.mp k
  refine mem_rots.mpr ?_
  rcases List.append_eq_append_iff.mp e with ⟨t, h1, h2⟩ | ⟨t, h1, h2⟩
  · subst h1 h2
    exact ⟨t, v' ++ v, by simp [List.append_assoc], by simp [List.append_assoc]⟩
  · subst h1 h2
    exact ⟨u ++ u', t, by simp [List.append_assoc], by simp [List.append_assoc]⟩
theorem minL_mem {L : List (List Tn)} (h : L ≠ []) : minL L ∈ L := by
  cases L with
  | nil => exact absurd rfl h
  | cons x xs => exact (minR_spec xs x).1
theorem rots_nn (c : List Tn) : rots c ≠ [] := fun z => by
  obtain ⟨x, xs, e⟩ := rots_ne c
  rw [e] at z; cases z
theorem due_iff (a b : List Tn) : rnd a = rnd b ↔ coreR b ∈ rots (coreR a) := by
  constructor
  · intro h
    have h1 := minL_mem (rots_nn (coreR a))
    have h2 := minL_mem (rots_nn (coreR b))
    unfold rnd at h
    rw [h] at h1
    exact rots_trans h1 (rots_symm h2)
  · intro h
    have hs : ∀ z, z ∈ rots (coreR a) ↔ z ∈ rots (coreR b) := fun z => ⟨fun q => rots_trans (rots_symm h) q, fun q => rots_trans h q⟩
    unfold rnd
    obtain ⟨x, xs, e1⟩ := rots_ne (coreR a)
    obtain ⟨y, ys, e2⟩ := rots_ne (coreR b)
    rw [e1, e2]
    rw [e1, e2] at hs
    exact minR_set hs
theorem split_red (a : List Tn) : red a = headR a ++ coreR a ++ inv (headR a) := by
  unfold headR coreR
  generalize red a = R
  have hl := cm_le R
  obtain ⟨c1, _⟩ := cm_spec R
  generalize cm R = m at *
  apply List.ext_getElem?
  intro i
  have e1 : (R.take m).length = m := by simp; omega
  have e2 : ((R.drop m).take (R.length - 2 * m)).length = R.length - 2 * m := by simp; omega
  by_cases h1 : i < m
  · rw [List.append_assoc, List.getElem?_append_left (by omega), List.getElem?_take_of_lt h1]
  · by_cases h2 : i < R.length - m
    · rw [List.append_assoc, List.getElem?_append_right (by omega), List.getElem?_append_left (by omega), e1, List.getElem?_take_of_lt (by omega), List.getElem?_drop]
      congr 1
      omega
    · rw [List.getElem?_append_right (by rw [List.length_append]; omega), List.length_append, e1, e2]
      by_cases h3 : i < R.length
      · have hj : m - 1 - (i - (m + (R.length - 2 * m))) = R.length - 1 - i := by omega
        have hc := c1 (R.length - 1 - i) (by omega)
        unfold cc at hc
        simp only [Bool.and_eq_true, decide_eq_true_eq] at hc
        have hn := hc.2
        have hk : R.length - 1 - (R.length - 1 - i) = i := by omega
        rw [hk] at hn
        have hinv : (inv (R.take m))[i - (m + (R.length - 2 * m))]? = some (inv1 (nth R (R.length - 1 - i))) := by
          unfold inv
          rw [List.getElem?_reverse (by simp; omega)]
          simp only [List.length_map, e1]
          rw [hj, List.getElem?_map, List.getElem?_take_of_lt (by omega), List.getElem?_eq_getElem (by omega)]
          simp [nth, List.getElem?_eq_getElem (show R.length - 1 - i < R.length by omega)]
        rw [hinv, hn, inv1_inv1, List.getElem?_eq_getElem h3]
        simp [nth, List.getElem?_eq_getElem h3]
      · rw [List.getElem?_eq_none (by omega), List.getElem?_eq_none (by rw [inv_len, e1]; omega)]
theorem act_mem : ∀ (w s : List Tn) (p : Tn), p ∈ act s w → p ∈ s ∨ p ∈ w
  | [], s, p, h => .inl h
  | x :: w, s, p, h => by
    rw [act_cons] at h
    rcases act_mem w _ p h with h | h
    · cases s with
      | nil => simp [push] at h; simp [h]
      | cons y s =>
        have e : push (y :: s) x = if y = inv1 x then s else x :: y :: s := rfl
        rw [e] at h
        split at h
        · exact .inl (List.mem_cons_of_mem _ h)
        · rcases List.mem_cons.mp h with h | h
          · simp [h]
          · exact .inl h
    · exact .inr (List.mem_cons_of_mem _ h)
theorem red_all {w : List Tn} (h : w.all okT = true) : (red w).all okT = true := by
  rw [List.all_eq_true] at h ⊢
  intro p hp
  unfold red at hp
  rw [List.mem_reverse] at hp
  rcases act_mem w [] p hp with q | q
  · simp at q
  · exact h p q
theorem inv_all {w : List Tn} (h : w.all okT = true) : (inv w).all okT = true := by
  rw [List.all_eq_true] at h ⊢
  intro p hp
  unfold inv at hp
  rw [List.mem_reverse, List.mem_map] at hp
  obtain ⟨q, hq, rfl⟩ := hp
  exact okT_inv (h q hq)
theorem take_all {w : List Tn} (n : Nat) (h : w.all okT = true) : (w.take n).all okT = true := by
  rw [List.all_eq_true] at h ⊢
  exact fun p hp => h p (List.mem_of_mem_take hp)
theorem drop_all {w : List Tn} (n : Nat) (h : w.all okT = true) : (w.drop n).all okT = true := by
  rw [List.all_eq_true] at h ⊢
  exact fun p hp => h p (List.mem_of_mem_drop hp)
theorem okC_iff {w : List Tn} : okC w = true ↔ w.length ≤ 400 ∧ w.all okT = true := by unfold okC; simp
/-- what turning_of gives is a turning -/
theorem turnR_ok (a b : List Tn) (ha : okC a = true) (hb : okC b = true) (hl : a.length ≤ 400) (hs : (headR b).length + (coreR a).length + (headR a).length ≤ 400) (hm : coreR b ∈ rots (coreR a)) : isT a b (turnR a b) = true := by
  have hk := kIx_spec hm
  have hk2 := kIx_lt hm
  generalize hkk : kIx (rots (coreR a)) (coreR b) = k at *
  have e1 : coreR b = (coreR a).drop k ++ (coreR a).take k := by
    unfold rots at hk
    rw [List.getElem?_map] at hk
    obtain ⟨j, e1, e2⟩ := Option.map_eq_some_iff.mp hk
    obtain ⟨hj, e3⟩ := List.getElem?_eq_some_iff.mp e1
    rw [List.getElem_range] at e3
    subst e3
    exact e2.symm
  have h1 : red a = headR a ++ ((coreR a).take k ++ (coreR a).drop k) ++ inv (headR a) := by rw [List.take_append_drop]; exact split_red a
  have h2 : red b = headR b ++ ((coreR a).drop k ++ (coreR a).take k) ++ inv (headR b) := by rw [← e1]; exact split_red b
  have law := turning_law (c1 := []) h1 h2
  unfold isT turnR
  rw [hkk]
  rw [Bool.and_eq_true]
  refine ⟨okC_iff.mpr ⟨?_, red_all ?_⟩, decide_eq_true law⟩
  · refine Nat.le_trans (red_len _) ?_
    simp [inv_len]
    omega
  · obtain ⟨_, qa⟩ := okC_iff.mp ha
    obtain ⟨_, qb⟩ := okC_iff.mp hb
    rw [List.all_append, List.all_append]
    have p1 : (headR b).all okT = true := take_all _ (red_all qb)
    have p2 : (headR a).all okT = true := take_all _ (red_all qa)
    have p3 : (coreR a).all okT = true := take_all _ (drop_all _ (red_all qa))
    rw [p1, inv_all (take_all _ p3), inv_all p2]
    rfl
end WL

set_option Elab.async false
set_option linter.all false
set_option maxRecDepth 100000
set_option maxHeartbeats 4000000
namespace WL
open PySem PySem.Spec PyProof.Rows L2 HotX L2H LamX TL Wd
local macro_rules | `(tactic| walk_at "ev") => `(tactic| simp [bodyM, sSeq, sIf, sSet, sSetO, sRet, sRetO, sRetS, sRetN, sApp, sPop, sDrop, sRaise, sUnp, sPar, sNext, oLst, oCall, oBin, oRep, vOf, aNil, aCons, eTup, eC, eVar, eOwn, vCall, vUn, vBin, vAn, vOrr, vNo, vIf, vChain, tOf, tTru, tNo, tAn, tOrr, ioGet, List.replicate, eCall, oCallF, chkN, z_call1, z_call2, z_call3, z_io1, z_io2, z_io3, vSl, pNone, pSome, eIdx, sizeLine_eq, wipeE, backE])
theorem good_rD (r : List Tn) (h : r.length ≤ 16777216) : good 2 (rD r) := by
  refine ⟨by simpa using h, fun x hx => ?_⟩
  obtain ⟨p, _, rfl⟩ := List.mem_map.mp hx
  refine ⟨by simp, fun y hy => ?_⟩
  simp at hy
  rcases hy with rfl | rfl <;> trivial
theorem like_row (r : List Tn) (b : Bool) (h : r.length ≤ 16777216) : (f__law_like 8).m [.list [rD r, .bool b], .list [rD r, .bool b]] = .ok (.bool true, .none) := by
  refine v_like 7 _ ?_
  have mono : ∀ n d, good n d → good (n + 1) d := by
    intro n
    induction n with
    | zero => intro d h; cases d <;> first | trivial | exact h.elim
    | succ n ih =>
      intro d h
      cases d with
      | list xs => exact ⟨h.1, fun x q => ih x (h.2 x q)⟩
      | tuple xs => exact ⟨h.1, fun x q => ih x (h.2 x q)⟩
      | none => trivial
      | bool _ => trivial
      | int _ => trivial
      | str _ => exact h.elim
      | dict _ => exact h.elim
  refine ⟨by simp, fun x hx => ?_⟩
  simp at hx
  rcases hx with rfl | rfl
  · exact mono _ _ (mono _ _ (mono _ _ (mono _ _ (good_rD r h))))
  · trivial
theorem like_b (b : Bool) : (f__law_like 8).m [.bool b, .bool b] = .ok (.bool true, .none) := v_like 7 _ trivial
def valOk (d : D) : Prop := (∃ v : List Tn, d = rD v ∧ v.length ≤ 1000) ∨ odd4 d
theorem val_same (a b : List Tn) (d : D) (ha : okC a = true) (hb : okC b = true) (hd : valOk d) : ∃ k, f_is_turning.m [rD a, rD b, d] = .ok (.bool k, .none) ∧ f__law_is_turning.m [rD a, rD b, d] = .ok (.bool k, .none) := by
  rcases hd with ⟨v, rfl, hv⟩ | hd
  · exact ⟨_, v_isturning a b v ha hb hv, v_lisT a b v (okC_iff.mp ha).1 (okC_iff.mp hb).1 hv⟩
  · exact ⟨_, v_isturning_no a b d ha hb hd, v_lisT_no a b d hd⟩
theorem rnd_len (a : List Tn) (h : a.length ≤ 1000) : (rnd a).length ≤ 1000 := by
  have h1 := minL_mem (rots_nn (coreR a))
  obtain ⟨u, v, e, e2⟩ := mem_rots.mp h1
  have h2 := red_len a
  have h3 : (coreR a).length ≤ (red a).length := by unfold coreR; simp; omega
  unfold rnd
  rw [e2, List.length_append]
  rw [e, List.length_append] at h3
  omega
theorem isnot_row (r : List Tn) : gIsNot (rD r) .none = some (.bool true) := rfl
theorem isnot_none : gIsNot .none .none = some (.bool false) := rfl
theorem ne_bb (a b : Bool) : gNe (.bool a) (.bool b) = some (.bool (!(a == b))) := by cases a <;> cases b <;> rfl
def rightTail : DS := sSeq (sSetO 6 (oLst (aCons (eVar 4) (aCons (eVar 5) (aCons (eTup (aNil)) (aCons (eC .none) (aCons (vOf (oCall gList (aCons (eVar 5) (aNil)))) (aCons (vSl (eVar 5) (pSome (eC (.int 1))) (pNone)) (aCons (vUn gRev (eVar 5)) (aCons (eCall f__law_back (chkN f__law_back.np (aCons (eVar 5) (aNil)))) (aCons (vBin gAdd (eVar 5) (eTup (aCons (eTup (aCons (eC (.int 0)) (aCons (eC (.int 1)) (aNil)))) (aCons (eTup (aCons (eC (.int 0)) (aCons (vUn gNeg (eC (.int 1))) (aNil)))) (aNil))))) (aNil)))))))))))) (sSeq (sApp 6 (vBin gAdd (eTup (aCons (eTup (aCons (eC (.int 0)) (aCons (eC (.int 1)) (aNil)))) (aNil))) (eVar 5))) (sSeq (sFor (iSeq (vBin gAdd (eOwn 6) (vOf (oLst (aCons (eTup (aCons (eTup (aCons (eC (.bool true)) (aCons (eC (.int 1)) (aNil)))) (aNil))) (aCons (eTup (aCons (eTup (aCons (eC (.int 0)) (aCons (eC (.int 2)) (aNil)))) (aNil))) (aCons (eC (.int 0)) (aCons (eCall f__law_cord (chkN f__law_cord.np (aCons (eOwn 0) (aCons (vOf (oLst (aCons (eC (.int 0)) (aCons (eC (.int 1)) (aNil))))) (aCons (eC (.int 3)) (aNil)))))) (aCons (vBin gMul (eTup (aCons (eTup (aCons (eC (.int 0)) (aCons (eC (.int 1)) (aNil)))) (aNil))) (eC (.int 401))) (aNil)))))))))) (bName 7) (sIf (tNo (tTru (eCall (f__law_like 8) (chkN (f__law_like 8).np (aCons (eCall f_is_turning (chkN f_is_turning.np (aCons (eVar 1) (aCons (eVar 2) (aCons (eVar 7) (aNil)))))) (aCons (eCall f__law_is_turning (chkN f__law_is_turning.np (aCons (eVar 1) (aCons (eVar 2) (aCons (eVar 7) (aNil)))))) (aNil))))))) (sRet (eC (.bool false))) (sNext))) (sRet (eC (.bool true)))))
theorem add_l {xs ys : List D} (h : xs.length + ys.length ≤ 16777216) : gAdd (.list xs) (.list ys) = some (.list (xs ++ ys)) := by
  rw [z_add_l, if_pos (by rw [sizeLine_eq]; exact h)]
theorem right_step (a b : List Tn) (d cup k told base vals x : D) (y : Option D) (ha : okC a = true) (hb : okC b = true) (hd : valOk d) : ((sIf (tNo (tTru (eCall (f__law_like 8) (chkN (f__law_like 8).np (aCons (eCall f_is_turning (chkN f_is_turning.np (aCons (eVar 1) (aCons (eVar 2) (aCons (eVar 7) (aNil)))))) (aCons (eCall f__law_is_turning (chkN f__law_is_turning.np (aCons (eVar 1) (aCons (eVar 2) (aCons (eVar 7) (aNil)))))) (aNil))))))) (sRet (eC (.bool false))) (sNext)) : DS) [some cup, some (rD a), some (rD b), some k, some told, some base, some vals, some d] = .ok (.nx, [some cup, some (rD a), some (rD b), some k, some told, some base, some vals, some d]) := by
  obtain ⟨q, e1, e2⟩ := val_same a b d ha hb hd
  walk_at "ev"
  rw [e1]
  walk_at "ev"
  rw [e2]
  walk_at "ev"
  rw [like_b]
  walk_at "ev"
def r401 : List Tn := List.replicate 401 (0, 1)
theorem r401_len : r401.length = 401 := by unfold r401; simp
theorem v_tail (cup told : D) (a b base : List Tn) (k : D) (hc : Cup cup) (ha : okC a = true) (hb : okC b = true) (ht : valOk told) (hbl : base.length ≤ 500) : ∃ cup' v w, rightTail [some cup, some (rD a), some (rD b), some k, some told, some (rD base), none, none] = .ok (.rt (.bool true), [some cup', some (rD a), some (rD b), some k, some told, some (rD base), v, w]) ∧ Cup cup' := by
  obtain ⟨r, cup', er, hc', hrl, _⟩ := v_cord cup [0, 1] 3 hc ⟨by decide, by decide, by decide⟩ (by decide)
  have el : gList [rD base] = some (.list (base.map tD)) := rfl
  have e1 : gSl (some 1) none (rD base) = some (rD (base.drop 1)) := by
    by_cases h : 1 ≤ base.length
    · unfold rD
      have := z_cut_kn (xs := base.map tD) (k := 1) (by simpa using h)
      rw [z_sl_t]
      rw [show ((1 : Nat) : Int) = 1 from rfl] at this
      rw [this]
      simp
    · have : base = [] := List.length_eq_zero_iff.mp (by omega)
      subst this
      rfl
  have e2 : gRev (rD base) = some (rD base.reverse) := by unfold rD; simp
  have e3 : PyData.tuple [.tuple [.int 0, .int 1], .tuple [.int 0, .int (-1)]] = rD [(0, 1), (0, -1)] := rfl
  have e4 : PyData.tuple [.tuple [.int 0, .int 1]] = rD [(0, 1)] := rfl
  have em : gMul (rD [(0, 1)]) (.int 401) = some (rD r401) := by rfl
  have vr : ∀ v : List Tn, v.length ≤ 1000 → valOk (rD v) := fun v h => .inl ⟨v, rfl, h⟩
  unfold rightTail
  walk_at "ev"
  rw [el]
  walk_at "ev"
  rw [e1]
  walk_at "ev"
  rw [e2]
  walk_at "ev"
  rw [v_lback _ (by omega)]
  walk_at "ev"
  rw [e3, rD_add (by simp; omega)]
  walk_at "ev"
  rw [e4, rD_add (by simp; omega)]
  walk_at "ev"
  unfold sFor iSeq
  walk_at "ev"
  have er : f__law_cord.m [cup, .list [.int 0, .int 1], .int 3] = .ok (rD r, cup') := er
  rw [er]
  walk_at "ev"
  rw [e4, em]
  walk_at "ev"
  generalize hvs : PyData.list [told, rD base, PyData.tuple [], PyData.none, PyData.list (List.map tD base), rD base.tail, rD base.reverse, rD (inv base), rD (base ++ [(0, 1), (0, -1)]), rD ((0, 1) :: base)] = vals
  obtain ⟨ev', e9, y, rfl⟩ := forL_all (b := bName 7) (body := (sIf
                  (tNo
                    (tTru
                      (eCall (f__law_like 8)
                        (chkN 2
                          (aCons (eCall f_is_turning (chkN 3 (aCons (eVar 1) (aCons (eVar 2) (aCons (eVar 7) aNil)))))
                            (aCons
                              (eCall f__law_is_turning (chkN 3 (aCons (eVar 1) (aCons (eVar 2) (aCons (eVar 7) aNil)))))
                              aNil))))))
                  (sRet (eC (PyData.bool false))) sNext)) (fun ev => ∃ y, ev = [some cup', some (rD a), some (rD b), some k, some told, some (rD base), some vals, y])
    (ds := [told, rD base, PyData.tuple [], PyData.none, PyData.list (List.map tD base), rD base.tail, rD base.reverse, rD (inv base), rD (base ++ [(0, 1), (0, -1)]), rD ((0, 1) :: base), PyData.tuple [PyData.tuple [PyData.bool true, PyData.int 1]], PyData.tuple [PyData.tuple [PyData.int 0, PyData.int 2]], PyData.int 0, rD r, rD r401])
    (ev := [some cup', some (rD a), some (rD b), some k, some told, some (rD base), some vals, none]) (fun d hd ev hI => by
      obtain ⟨y, rfl⟩ := hI
      have hv : valOk d := by
        simp only [List.mem_cons, List.not_mem_nil, or_false] at hd
        rcases hd with rfl | rfl | rfl | rfl | rfl | rfl | rfl | rfl | rfl | rfl | rfl | rfl | rfl | rfl | rfl
        · exact ht
        · exact vr _ (by omega)
        · exact vr [] (by simp)
        · exact .inr (.inl rfl)
        · exact .inr (.inr (.inl ⟨base, rfl⟩))
        · exact vr _ (by simp; omega)
        · exact vr _ (by simp; omega)
        · exact vr _ (by rw [inv_len]; omega)
        · exact vr _ (by simp; omega)
        · exact vr _ (by simp; omega)
        · exact .inr (.inr (.inr (.inr rfl)))
        · exact vr [(0, 2)] (by simp)
        · exact .inr (.inr (.inr (.inl rfl)))
        · exact vr _ (by omega)
        · exact vr _ (by rw [r401_len]; omega)
      exact ⟨_, _, .nx, rfl, right_step a b d cup' k told (rD base) vals d none ha hb hv, .inl rfl, some d, rfl⟩) ⟨_, rfl⟩
  rw [e9]
  exact ⟨cup', ⟨some vals, y, rfl⟩, hc'⟩
theorem v_right (cup : D) (a b : List Tn) (hc : Cup cup) (ha : okC a = true) (hb : okC b = true) (hs : (headR b).length + (coreR a).length + (headR a).length ≤ 400) : ∃ cup', f__law_right.m [cup, rD a, rD b] = .ok (.bool true, cup') ∧ Cup cup' := by
  have hla := (okC_iff.mp ha).1
  have hlb := (okC_iff.mp hb).1
  have hra := rnd_len a (by omega)
  have hlk := like_row (rnd a) (decide (rnd a = rnd b)) (by omega)
  have htn := v_turning a b ha hb
  show ∃ cup', bodyM 8 (some 0) false (sSeq (sSet 3 (vBin gEq (eCall f__law_round (chkN f__law_round.np (aCons (eVar 1) (aNil)))) (eCall f__law_round (chkN f__law_round.np (aCons (eVar 2) (aNil)))))) (sSeq (sIf (tNo (tTru (eCall (f__law_like 8) (chkN (f__law_like 8).np (aCons (vOf (oLst (aCons (eCall f_reduced_round (chkN f_reduced_round.np (aCons (eVar 1) (aNil)))) (aCons (eCall f_are_turnings (chkN f_are_turnings.np (aCons (eVar 1) (aCons (eVar 2) (aNil))))) (aNil))))) (aCons (vOf (oLst (aCons (eCall f__law_round (chkN f__law_round.np (aCons (eVar 1) (aNil)))) (aCons (eVar 3) (aNil))))) (aNil))))))) (sRet (eC (.bool false))) (sNext)) (sSeq (sSet 4 (eCall f_turning_of (chkN f_turning_of.np (aCons (eVar 1) (aCons (eVar 2) (aNil)))))) (sSeq (sIf (tOrr (tOf (vBin gNe (vBin gIsNot (eVar 4) (eC .none)) (eVar 3))) (tAn (tOf (vBin gIsNot (eVar 4) (eC .none))) (tNo (tTru (eCall f__law_is_turning (chkN f__law_is_turning.np (aCons (eVar 1) (aCons (eVar 2) (aCons (eVar 4) (aNil)))))))))) (sRet (eC (.bool false))) (sNext)) (sSeq (sSet 5 (vIf (tAn (tOf (vBin gIsNot (eVar 4) (eC .none))) (tOf (vBin gLt (vCall gLen (aCons (eVar 4) (aNil))) (eC (.int 399))))) (eVar 4) (eCall f__law_cord (chkN f__law_cord.np (aCons (eOwn 0) (aCons (vOf (oLst (aCons (eC (.int 0)) (aCons (eC (.int 1)) (aCons (eC (.int 2)) (aNil)))))) (aCons (eC (.int 5)) (aNil)))))))) rightTail))))) _ = _ ∧ _
  walk_at "ev"
  rw [v_lround a (by omega)]
  walk_at "ev"
  rw [v_lround b (by omega)]
  walk_at "ev"
  rw [v_eq]
  walk_at "ev"
  rw [v_redround a ha]
  walk_at "ev"
  rw [v_turnings a b ha hb]
  walk_at "ev"
  rw [v_lround a (by omega)]
  walk_at "ev"
  rw [hlk]
  walk_at "ev"
  rw [htn]
  have e012 : PyData.list [.int 0, .int 1, .int 2] = .list (([0, 1, 2] : List Int).map PyData.int) := rfl
  obtain ⟨cr, cup2, ec, hc2, hcl, _⟩ := v_cord cup [0, 1, 2] 5 hc ⟨by decide, by decide, by decide⟩ (by decide)
  have ec : f__law_cord.m [cup, .list [.int 0, .int 1, .int 2], .int 5] = .ok (rD cr, cup2) := ec
  by_cases hm : coreR b ∈ rots (coreR a)
  · have hd := (due_iff a b).mpr hm
    have hT := turnR_ok a b ha hb hla hs hm
    have hTl : (turnR a b).length ≤ 400 := by unfold isT at hT; rw [Bool.and_eq_true] at hT; exact (okC_iff.mp hT.1).1
    rw [if_pos hm]
    walk_at "ev"
    rw [isnot_row]
    walk_at "ev"
    simp only [hd, decide_true]
    rw [ne_bb]
    walk_at "ev"
    rw [isnot_row]
    walk_at "ev"
    rw [v_lisT a b _ hla hlb (by omega), hT]
    walk_at "ev"
    rw [isnot_row]
    walk_at "ev"
    rw [len_rD]
    walk_at "ev"
    by_cases hq : ((turnR a b).length : Int) < 399
    · simp only [hq, decide_true, cond_true]
      walk_at "ev"
      obtain ⟨c3, v, w, e9, hc3⟩ := v_tail cup (rD (turnR a b)) a b (turnR a b) (.bool true) hc ha hb (.inl ⟨_, rfl, by omega⟩) (by omega)
      rw [e9]
      exact ⟨c3, rfl, hc3⟩
    · simp only [hq, decide_false, cond_false]
      rw [ec]
      walk_at "ev"
      obtain ⟨c3, v, w, e9, hc3⟩ := v_tail cup2 (rD (turnR a b)) a b cr (.bool true) hc2 ha hb (.inl ⟨_, rfl, by omega⟩) (by omega)
      rw [e9]
      exact ⟨c3, rfl, hc3⟩
  · have hd : ¬ rnd a = rnd b := fun z => hm ((due_iff a b).mp z)
    rw [if_neg hm]
    walk_at "ev"
    rw [isnot_none]
    walk_at "ev"
    simp only [hd, decide_false]
    rw [ne_bb]
    walk_at "ev"
    rw [isnot_none]
    walk_at "ev"
    rw [isnot_none]
    walk_at "ev"
    rw [ec]
    walk_at "ev"
    obtain ⟨c3, v, w, e9, hc3⟩ := v_tail cup2 .none a b cr (.bool false) hc2 ha hb (.inr (.inl rfl)) (by omega)
    rw [e9]
    exact ⟨c3, rfl, hc3⟩
end WL

set_option Elab.async false
set_option linter.all false
set_option maxRecDepth 100000
set_option maxHeartbeats 4000000
namespace WL
open PySem PySem.Spec PyProof.Rows L2 HotX L2H LamX TL Wd
/-! ### words of one way, and a word carried far: plain -/
theorem act_red_id : ∀ (w s : List Tn), Red (w.reverse ++ s) → act s w = w.reverse ++ s
  | [], s, _ => rfl
  | x :: w, s, h => by
    have h' : Red (w.reverse ++ (x :: s)) := by simpa using h
    rw [act_cons]
    have hx : Red (x :: s) := by
      have key : ∀ (a b : List Tn), Red (a ++ b) → Red b := by
        intro a
        induction a with
        | nil => intro b h; exact h
        | cons y a ih => intro b h; exact ih b h.tail
      exact key _ _ h'
    have e : push s x = x :: s := by
      cases s with
      | nil => rfl
      | cons y s =>
        have : y ≠ inv1 x := hx.1
        show (if y = inv1 x then s else x :: y :: s) = _
        rw [if_neg this]
    rw [e, act_red_id w (x :: s) h']
    simp
theorem red_id {w : List Tn} (h : Red w.reverse) : red w = w := by
  unfold red
  rw [act_red_id w [] (by simpa using h)]
  simp
theorem red_of_apart : ∀ {s : List Tn}, (∀ i p q, s[i]? = some p → s[i + 1]? = some q → q ≠ inv1 p) → Red s
  | [], _ => trivial
  | [x], _ => trivial
  | x :: y :: s, h => ⟨h 0 x y rfl rfl, red_of_apart fun i p q a b => h (i + 1) p q (by simpa using a) (by simpa using b)⟩
/-- all of one way -/
theorem one_way {w : List Tn} (h : ∀ p ∈ w, p.2 = 1) : red w = w ∧ coreR w = w ∧ headR w = [] := by
  have hr : red w = w := red_id (red_of_apart fun i p q a b e => by
    have h1 := h p (by have := List.mem_of_getElem? a; simpa using this)
    have h2 := h q (by have := List.mem_of_getElem? b; simpa using this)
    rw [e] at h2
    unfold inv1 at h2
    simp at h2
    omega)
  have hc : cm w = 0 := by
    obtain ⟨c1, _⟩ := cm_spec w
    apply Classical.byContradiction
    intro hn
    have := c1 0 (by omega)
    unfold cc at this
    simp only [Bool.and_eq_true, decide_eq_true_eq] at this
    obtain ⟨a1, a2⟩ := this
    have g : ∀ i, i < w.length → (nth w i).2 = 1 := fun i hi => by
      unfold nth
      rw [List.getD_eq_getElem?_getD, List.getElem?_eq_getElem hi]
      exact h _ (List.getElem_mem hi)
    have g1 := g 0 (by omega)
    have g2 := g (w.length - 1 - 0) (by omega)
    rw [a2] at g1
    unfold inv1 at g1
    simp at g1 g2
    omega
  refine ⟨hr, ?_, ?_⟩
  · unfold coreR; rw [hr, hc]; simp
  · unfold headR; rw [hr, hc]; simp
def ringR : List Tn := (List.range 399).map (fun i : Nat => (((i : Nat) : Int).fmod 7, (1 : Int))) ++ [(7, 1)]
theorem ring_len : ringR.length = 400 := by unfold ringR; simp
theorem ring_ways : ∀ p ∈ ringR, p.2 = 1 := by
  intro p hp
  unfold ringR at hp
  rw [List.mem_append] at hp
  rcases hp with hp | hp
  · obtain ⟨i, _, rfl⟩ := List.mem_map.mp hp; rfl
  · simp at hp; rw [hp]
theorem ring_ok : okC ringR = true := by decide +kernel
theorem ring_min : minL (rots ringR) = ringR := by decide +kernel
theorem ring_rev : ringR.reverse ∉ rots ringR := by decide +kernel
def longR (m : Nat) : List Tn := (List.range m).map fun i => (((i % 2 : Nat) : Int), 1)
def farR (m : Nat) : List Tn := longR m ++ [(5, 1)] ++ inv (longR m)
theorem long_get {m i : Nat} (h : i < m) : (longR m)[i]? = some (((i % 2 : Nat) : Int), 1) := by
  unfold longR
  rw [List.getElem?_map, List.getElem?_range h]
  rfl
theorem long_len (m : Nat) : (longR m).length = m := by unfold longR; simp
theorem far_len (m : Nat) : (farR m).length = 2 * m + 1 := by unfold farR; simp [inv_len, long_len]; omega
theorem inv_get {w : List Tn} {i : Nat} (h : i < w.length) : (inv w)[i]? = some (inv1 (nth w (w.length - 1 - i))) := by
  unfold inv
  rw [List.getElem?_reverse (by simpa using h), List.length_map, List.getElem?_map, List.getElem?_eq_getElem (by omega)]
  simp [nth, List.getElem?_eq_getElem (show w.length - 1 - i < w.length by omega)]
theorem far_get (m i : Nat) (h : i < 2 * m + 1) : (farR m)[i]? = some (if i < m then (((i % 2 : Nat) : Int), 1) else if i = m then (5, 1) else ((((2 * m - i) % 2 : Nat) : Int), -1)) := by
  unfold farR
  by_cases h1 : i < m
  · rw [if_pos h1, List.append_assoc, List.getElem?_append_left (by rw [long_len]; exact h1), long_get h1]
  · rw [if_neg h1]
    by_cases h2 : i = m
    · subst h2
      rw [if_pos rfl, List.append_assoc, List.getElem?_append_right (by rw [long_len]; omega), long_len]
      simp
    · rw [if_neg h2, List.getElem?_append_right (by simp [long_len]; omega)]
      have e : (longR m ++ [(5, 1)]).length = m + 1 := by simp [long_len]
      rw [e, inv_get (by rw [long_len]; omega), long_len]
      have hi : m - 1 - (i - (m + 1)) = 2 * m - i := by omega
      have hlt : 2 * m - i < m := by omega
      rw [hi]
      unfold nth
      rw [List.getD_eq_getElem?_getD, long_get hlt]
      rfl
theorem far_red (m : Nat) : red (farR m) = farR m := by
  refine red_id (red_of_apart fun i p q a b e => ?_)
  have hi : i + 1 < (farR m).length := by have := (List.getElem?_eq_some_iff.mp b).1; simpa using this
  rw [List.getElem?_reverse (by omega)] at a b
  rw [far_len] at hi a b
  rw [far_get _ _ (by omega)] at a b
  have ha := Option.some.inj a
  have hb := Option.some.inj b
  have e1 : q.1 = p.1 := by rw [e]; rfl
  rw [← ha, ← hb] at e1
  have x1 : 2 * m + 1 - 1 - (i + 1) + 1 = 2 * m + 1 - 1 - i := by omega
  split at e1 <;> split at e1 <;> (try split at e1) <;> (try split at e1) <;> simp at e1 <;> omega
theorem far_cm (m : Nat) : cm (farR m) = m := by
  obtain ⟨c1, c2⟩ := cm_spec (farR m)
  have hl := far_len m
  have nf : ∀ i, i < 2 * m + 1 → nth (farR m) i = if i < m then (((i % 2 : Nat) : Int), 1) else if i = m then (5, 1) else ((((2 * m - i) % 2 : Nat) : Int), -1) := fun i hi => by
    unfold nth
    rw [List.getD_eq_getElem?_getD, far_get m i hi]
    rfl
  apply Classical.byContradiction
  intro hn
  rcases Nat.lt_or_ge (cm (farR m)) m with h | h
  · unfold cc at c2
    rw [hl] at c2
    have a1 : 1 + 2 * cm (farR m) < 2 * m + 1 := by omega
    have a2 : 2 * m + 1 - 1 - cm (farR m) = 2 * m - cm (farR m) := by omega
    rw [a2, nf _ (by omega), nf _ (by omega), if_pos h, if_neg (by omega), if_neg (by omega)] at c2
    have a3 : 2 * m - (2 * m - cm (farR m)) = cm (farR m) := by omega
    rw [a3] at c2
    simp [a1, inv1] at c2
  · have := c1 m (by omega)
    unfold cc at this
    rw [hl] at this
    simp at this
    omega
theorem far_core (m : Nat) : coreR (farR m) = [(5, 1)] ∧ headR (farR m) = longR m := by
  unfold coreR headR
  rw [far_red, far_cm, far_len]
  have e : 2 * m + 1 - 2 * m = 1 := by omega
  rw [e]
  unfold farR
  constructor
  · rw [List.append_assoc, List.drop_left' (long_len m)]
    rfl
  · rw [List.append_assoc, List.take_left' (long_len m)]
end WL

set_option Elab.async false
set_option linter.all false
set_option maxRecDepth 100000
set_option maxHeartbeats 4000000
namespace WL
open PySem PySem.Spec PyProof.Rows L2 HotX L2H LamX TL Wd
local macro_rules | `(tactic| walk_at "ev") => `(tactic| simp [bodyM, sSeq, sIf, sSet, sSetO, sRet, sRetO, sRetS, sRetN, sApp, sPop, sDrop, sRaise, sUnp, sPar, sNext, oLst, oCall, oBin, oRep, vOf, aNil, aCons, eTup, eC, eVar, eOwn, vCall, vUn, vBin, vAn, vOrr, vNo, vIf, vChain, tOf, tTru, tNo, tAn, tOrr, ioGet, List.replicate, eCall, oCallF, chkN, z_call1, z_call2, z_call3, z_io1, z_io2, z_io3, vSl, pNone, pSome, eIdx, sizeLine_eq, wipeE, backE])
theorem rD_drop {a : List Tn} {k : Nat} (h : k ≤ a.length) : gSl (some (k : Int)) none (rD a) = some (rD (a.drop k)) := by
  unfold rD
  simp only [gSl]
  rw [z_cut_kn (by simpa using h)]
  simp
def ringE (i : Nat) : D := tD (((i : Nat) : Int).fmod 7, 1)
theorem ringE_eq : gAdd (.tuple ((List.range 399).map ringE)) (.tuple [.tuple [.int 7, .int 1]]) = some (rD ringR) := by
  have e : PyData.tuple ((List.range 399).map ringE) = rD ((List.range 399).map (fun i : Nat => (((i : Nat) : Int).fmod 7, (1 : Int)))) := by
    unfold rD
    rw [List.map_map]
    rfl
  have e2 : PyData.tuple [.tuple [.int 7, .int 1]] = rD [(7, 1)] := rfl
  rw [e, e2, rD_add (by simp)]
  rfl
/-- the ring and its turned copy -/
theorem turned_ok (k : Nat) (h : k ≤ 400) : okC (ringR.drop k ++ ringR.take k) = true ∧ coreR (ringR.drop k ++ ringR.take k) = ringR.drop k ++ ringR.take k ∧ headR (ringR.drop k ++ ringR.take k) = [] ∧ (ringR.drop k ++ ringR.take k) ∈ rots (coreR ringR) ∧ coreR ringR = ringR ∧ headR ringR = [] := by
  obtain ⟨r1, r2, r3⟩ := one_way ring_ways
  obtain ⟨t1, t2, t3⟩ := one_way (w := ringR.drop k ++ ringR.take k) (fun p hp => by
    rw [List.mem_append] at hp
    rcases hp with hp | hp
    · exact ring_ways p (List.mem_of_mem_drop hp)
    · exact ring_ways p (List.mem_of_mem_take hp))
  have ho := okC_iff.mp ring_ok
  refine ⟨okC_iff.mpr ⟨by simp [ring_len]; omega, ?_⟩, t2, t3, ?_, r2, r3⟩
  · rw [List.all_append, drop_all k ho.2, take_all k ho.2]; rfl
  · rw [r2, mem_rots]
    exact ⟨ringR.take k, ringR.drop k, (List.take_append_drop k ringR).symm, rfl⟩
theorem ring_rnd : rnd ringR = ringR := by
  unfold rnd
  rw [(one_way ring_ways).2.1, ring_min]
theorem rev_core : coreR ringR.reverse = ringR.reverse := (one_way fun p hp => ring_ways p (by simpa using hp)).2.1
theorem rev_ok : okC ringR.reverse = true := by decide +kernel
theorem ring_not : ¬ rnd ringR = rnd ringR.reverse := fun h => by
  rw [due_iff, rev_core, (one_way ring_ways).2.1] at h
  exact ring_rev h
theorem ring_isT (k : Nat) (h : k ≤ 400) : isT ringR (ringR.drop k ++ ringR.take k) (inv (ringR.take k)) = true := by
  have ho := okC_iff.mp ring_ok
  unfold isT
  rw [Bool.and_eq_true]
  refine ⟨okC_iff.mpr ⟨by rw [inv_len]; simp [ring_len]; omega, inv_all (take_all k ho.2)⟩, ?_⟩
  rw [decide_eq_true_eq]
  refine red_of_eqv ?_
  have e : inv (ringR.take k) ++ ringR ++ inv (inv (ringR.take k)) = inv (ringR.take k) ++ (ringR.take k ++ ringR.drop k) ++ ringR.take k := by
    rw [List.take_append_drop, inv_inv]
  rw [e]
  have e2 : inv (ringR.take k) ++ (ringR.take k ++ ringR.drop k) ++ ringR.take k = (inv (ringR.take k) ++ ringR.take k) ++ (ringR.drop k ++ ringR.take k) := by simp only [List.append_assoc]
  rw [e2]
  exact (eqv_inv' _).app (Eqv.refl _)
/-- the word carried far -/
theorem far_ok (m : Nat) (h : m ≤ 199) : okC (farR m) = true := by
  refine okC_iff.mpr ⟨by rw [far_len]; omega, ?_⟩
  have hl : (longR m).all okT = true := by
    rw [List.all_eq_true]
    intro p hp
    unfold longR at hp
    obtain ⟨i, _, rfl⟩ := List.mem_map.mp hp
    simp [okT]
    omega
  unfold farR
  rw [List.all_append, List.all_append, hl, inv_all hl]
  rfl
theorem long_ok (m : Nat) (h : m ≤ 400) : okC (longR m) = true := by
  refine okC_iff.mpr ⟨by rw [long_len]; exact h, ?_⟩
  rw [List.all_eq_true]
  intro p hp
  unfold longR at hp
  obtain ⟨i, _, rfl⟩ := List.mem_map.mp hp
  simp [okT]
  omega
theorem five_ok : okC [(5, 1)] = true := rfl
theorem five_core : coreR [(5, 1)] = [(5, 1)] ∧ headR [(5, 1)] = [] := ⟨by decide, by decide⟩
theorem five_mem (m : Nat) : coreR [(5, 1)] ∈ rots (coreR (farR m)) := by
  rw [five_core.1, (far_core m).1]
  decide
theorem far_rnd (m : Nat) : rnd (farR m) = [(5, 1)] := by
  unfold rnd
  rw [(far_core m).1]
  decide
theorem far_not (m : Nat) : ¬ rnd (farR m) = rnd [(5, -1)] := by
  rw [far_rnd]
  decide
theorem far_isT (m : Nat) (h : m ≤ 199) : isT [(5, 1)] (farR m) (longR m) = true := by
  unfold isT
  rw [long_ok m (by omega)]
  simp [farR]
end WL

set_option Elab.async false
set_option linter.all false
set_option maxRecDepth 100000
set_option maxHeartbeats 4000000
namespace WL
open PySem PySem.Spec PyProof.Rows L2 HotX L2H LamX TL Wd
local macro_rules | `(tactic| walk_at "ev") => `(tactic| simp [bodyM, sSeq, sIf, sSet, sSetO, sRet, sRetO, sRetS, sRetN, sApp, sPop, sDrop, sRaise, sUnp, sPar, sNext, oLst, oCall, oBin, oRep, vOf, aNil, aCons, eTup, eC, eVar, eOwn, vCall, vUn, vBin, vAn, vOrr, vNo, vIf, vChain, tOf, tTru, tNo, tAn, tOrr, ioGet, List.replicate, eCall, oCallF, chkN, z_call1, z_call2, z_call3, z_io1, z_io2, z_io3, vSl, pNone, pSome, eIdx, sizeLine_eq, wipeE, backE])
theorem long_eq : gMul (.tuple [.tuple [.int 0, .int 1], .tuple [.int 1, .int 1]]) (.int 100) = some (rD (longR 200)) := by
  rfl
theorem is_tt : gIsNot (.bool true) (.bool true) = some (.bool false) := rfl
theorem is_ff : gIsNot (.bool false) (.bool false) = some (.bool false) := rfl
theorem isb_tt : gIs (.bool true) (.bool true) = some (.bool true) := rfl
theorem isb_ff : gIs (.bool false) (.bool false) = some (.bool true) := rfl
theorem rD_rev (r : List Tn) : gRev (rD r) = some (rD r.reverse) := by
  unfold rD
  rw [List.map_reverse]
  rfl
theorem long_take (m : Nat) (h : m ≤ 200) : (longR 200).take m = longR m := by
  unfold longR
  rw [← List.map_take, List.take_range, Nat.min_eq_left h]
def greatB : DS := (sSeq (sSet 5 (vBin gMul (eTup (aCons (eTup (aCons (eC (.int 0)) (aCons (eC (.int 1)) (aNil)))) (aCons (eTup (aCons (eC (.int 1)) (aCons (eC (.int 1)) (aNil)))) (aNil)))) (eC (.int 100)))) (sSeq (sSet 6 (vBin gAdd (vBin gAdd (vSl (eVar 5) (pNone) (pSome (eVar 2))) (eTup (aCons (eTup (aCons (eC (.int 5)) (aCons (eC (.int 1)) (aNil)))) (aNil)))) (eCall f__law_back (chkN f__law_back.np (aCons (vSl (eVar 5) (pNone) (pSome (eVar 2))) (aNil)))))) (sSeq (sIf (tOrr (tOf (vBin gNe (eCall f_reduced_round (chkN f_reduced_round.np (aCons (eVar 6) (aNil)))) (eTup (aCons (eTup (aCons (eC (.int 5)) (aCons (eC (.int 1)) (aNil)))) (aNil))))) (tNo (tTru (eCall f__law_is_turning (chkN f__law_is_turning.np (aCons (eVar 6) (aCons (eTup (aCons (eTup (aCons (eC (.int 5)) (aCons (eC (.int 1)) (aNil)))) (aNil))) (aCons (eCall f_turning_of (chkN f_turning_of.np (aCons (eVar 6) (aCons (eTup (aCons (eTup (aCons (eC (.int 5)) (aCons (eC (.int 1)) (aNil)))) (aNil))) (aNil))))) (aNil))))))))) (sRet (eC (.bool false))) (sNext)) (sRet (vAn (vBin gIs (eCall f_are_turnings (chkN f_are_turnings.np (aCons (eVar 6) (aCons (eTup (aCons (eTup (aCons (eC (.int 5)) (aCons (vUn gNeg (eC (.int 1))) (aNil)))) (aNil))) (aNil))))) (eC (.bool false))) (vBin gIs (eCall f_is_turning (chkN f_is_turning.np (aCons (eTup (aCons (eTup (aCons (eC (.int 5)) (aCons (eC (.int 1)) (aNil)))) (aNil))) (aCons (eVar 6) (aCons (vSl (eVar 5) (pNone) (pSome (eVar 2))) (aNil)))))) (eC (.bool true))))))))
def greatA : DS := (sSeq (sIf (tOrr (tOf (vBin gIsNot (eCall f_are_turnings (chkN f_are_turnings.np (aCons (eVar 3) (aCons (eVar 4) (aNil))))) (eC (.bool true)))) (tNo (tTru (eCall f__law_is_turning (chkN f__law_is_turning.np (aCons (eVar 3) (aCons (eVar 4) (aCons (eCall f_turning_of (chkN f_turning_of.np (aCons (eVar 3) (aCons (eVar 4) (aNil))))) (aNil))))))))) (sRet (eC (.bool false))) (sNext)) (sSeq (sIf (tOrr (tOf (vBin gNe (eCall f_reduced_round (chkN f_reduced_round.np (aCons (eVar 4) (aNil)))) (eVar 3))) (tOf (vBin gIsNot (eCall f_are_turnings (chkN f_are_turnings.np (aCons (eVar 3) (aCons (vUn gRev (eVar 3)) (aNil))))) (eC (.bool false))))) (sRet (eC (.bool false))) (sNext)) (sSeq (sIf (tOf (vBin gIsNot (eCall f_is_turning (chkN f_is_turning.np (aCons (eVar 3) (aCons (eVar 4) (aCons (eCall f__law_back (chkN f__law_back.np (aCons (vSl (eVar 3) (pNone) (pSome (eVar 1))) (aNil)))) (aNil)))))) (eC (.bool true)))) (sRet (eC (.bool false))) (sNext)) greatB)))
theorem great_b (cup x1 x3 x4 : D) (m : Nat) (hm : m ≤ 199) : ∃ ev, greatB [some cup, some x1, some (.int (m : Nat)), some x3, some x4, none, none, none] = .ok (.rt (.bool true), ev) ∧ ev[0]? = some (some cup) := by
  have h1 := far_ok m hm
  have ef : longR m ++ [(5, 1)] ++ inv (longR m) = farR m := rfl
  have vA := v_redround (farR m) h1
  rw [far_rnd] at vA
  have hs : (headR [(5, 1)]).length + (coreR (farR m)).length + (headR (farR m)).length ≤ 400 := by rw [five_core.2, (far_core m).1, (far_core m).2]; simp [long_len]; omega
  have tA := turnR_ok (farR m) [(5, 1)] h1 five_ok (okC_iff.mp h1).1 hs (five_mem m)
  have hTl : (turnR (farR m) [(5, 1)]).length ≤ 400 := by unfold isT at tA; rw [Bool.and_eq_true] at tA; exact (okC_iff.mp tA.1).1
  have vB := v_turning (farR m) [(5, 1)] h1 five_ok
  rw [if_pos (five_mem m)] at vB
  have vC := v_lisT (farR m) [(5, 1)] _ (okC_iff.mp h1).1 (by decide) (show (turnR (farR m) [(5, 1)]).length ≤ 1000 by omega)
  rw [tA] at vC
  have vD := v_turnings (farR m) [(5, -1)] h1 rfl
  rw [decide_eq_false (far_not m)] at vD
  have vE := v_isturning [(5, 1)] (farR m) (longR m) five_ok h1 (by rw [long_len]; omega)
  rw [far_isT m hm] at vE
  have vG := v_lback (longR m) (by rw [long_len]; omega)
  have e5 : PyData.tuple [.tuple [.int 5, .int 1]] = rD [(5, 1)] := rfl
  have e5m : PyData.tuple [.tuple [.int 5, .int (-1)]] = rD [(5, -1)] := rfl
  have tk : gSl none (some (m : Int)) (rD (longR 200)) = some (rD (longR m)) := by rw [rD_take (by rw [long_len]; omega), long_take m (by omega)]
  have a1 : gAdd (rD (longR m)) (rD [(5, 1)]) = some (rD (longR m ++ [(5, 1)])) := rD_add (by simp [long_len]; omega)
  have a2 : gAdd (rD (longR m ++ [(5, 1)])) (rD (inv (longR m))) = some (rD (farR m)) := rD_add (by simp [long_len, inv_len]; omega)
  unfold greatB
  walk_at "ev"
  rw [long_eq]
  walk_at "ev"
  rw [tk]
  walk_at "ev"
  rw [e5, a1]
  walk_at "ev"
  rw [tk]
  walk_at "ev"
  rw [vG]
  walk_at "ev"
  rw [a2]
  walk_at "ev"
  rw [vA]
  walk_at "ev"
  rw [v_ne, decide_eq_true rfl]
  walk_at "ev"
  rw [vB]
  walk_at "ev"
  rw [vC]
  walk_at "ev"
  rw [e5m, vD]
  walk_at "ev"
  rw [isb_ff]
  walk_at "ev"
  rw [tk]
  walk_at "ev"
  rw [vE]
  walk_at "ev"
  rw [isb_tt]
  walk_at "ev"
end WL

set_option Elab.async false
set_option linter.all false
set_option maxRecDepth 100000
set_option maxHeartbeats 4000000
namespace WL
open PySem PySem.Spec PyProof.Rows L2 HotX L2H LamX TL Wd
local macro_rules | `(tactic| walk_at "ev") => `(tactic| simp [bodyM, sSeq, sIf, sSet, sSetO, sRet, sRetO, sRetS, sRetN, sApp, sPop, sDrop, sRaise, sUnp, sPar, sNext, oLst, oCall, oBin, oRep, vOf, aNil, aCons, eTup, eC, eVar, eOwn, vCall, vUn, vBin, vAn, vOrr, vNo, vIf, vChain, tOf, tTru, tNo, tAn, tOrr, ioGet, List.replicate, eCall, oCallF, chkN, z_call1, z_call2, z_call3, z_io1, z_io2, z_io3, vSl, pNone, pSome, eIdx, sizeLine_eq, wipeE, backE])
theorem great_w (cup : D) (k m : Nat) (R T V U W Z : List Tn) (hm : m ≤ 199)
    (vA : f_are_turnings.m [rD R, rD T] = .ok (.bool true, .none)) (vB : f_turning_of.m [rD R, rD T] = .ok (rD V, .none))
    (vC : f__law_is_turning.m [rD R, rD T, rD V] = .ok (.bool true, .none)) (vD : f_reduced_round.m [rD T] = .ok (rD R, .none))
    (vE : f_is_turning.m [rD R, rD T, rD U] = .ok (.bool true, .none)) (vF : f_are_turnings.m [rD R, rD Z] = .ok (.bool false, .none))
    (vG : f__law_back.m [rD W] = .ok (rD U, .none)) (tk : gSl none (some (k : Int)) (rD R) = some (rD W)) (rv : gRev (rD R) = some (rD Z)) :
    ∃ ev, greatA [some cup, some (.int (k : Nat)), some (.int (m : Nat)), some (rD R), some (rD T), none, none, none] = .ok (.rt (.bool true), ev) ∧ ev[0]? = some (some cup) := by
  obtain ⟨ev, eb, e0⟩ := great_b cup (.int (k : Nat)) (rD R) (rD T) m hm
  refine ⟨ev, ?_, e0⟩
  unfold greatA
  walk_at "ev"
  rw [vA]
  walk_at "ev"
  rw [is_tt]
  walk_at "ev"
  rw [vB]
  walk_at "ev"
  rw [vC]
  walk_at "ev"
  rw [vD]
  walk_at "ev"
  rw [v_ne, decide_eq_true rfl]
  walk_at "ev"
  rw [rv]
  walk_at "ev"
  rw [vF]
  walk_at "ev"
  rw [is_ff]
  walk_at "ev"
  rw [tk]
  walk_at "ev"
  rw [vG]
  walk_at "ev"
  rw [vE]
  walk_at "ev"
  rw [is_tt]
  walk_at "ev"
  rw [eb]
end WL

set_option Elab.async false
set_option linter.all false
set_option maxRecDepth 100000
set_option maxHeartbeats 4000000
namespace WL
open PySem PySem.Spec PyProof.Rows L2 HotX L2H LamX TL Wd
local macro_rules | `(tactic| walk_at "ev") => `(tactic| simp [bodyM, sSeq, sIf, sSet, sSetO, sRet, sRetO, sRetS, sRetN, sApp, sPop, sDrop, sRaise, sUnp, sPar, sNext, oLst, oCall, oBin, oRep, vOf, aNil, aCons, eTup, eC, eVar, eOwn, vCall, vUn, vBin, vAn, vOrr, vNo, vIf, vChain, tOf, tTru, tNo, tAn, tOrr, ioGet, List.replicate, eCall, oCallF, chkN, z_call1, z_call2, z_call3, z_io1, z_io2, z_io3, vSl, pNone, pSome, eIdx, sizeLine_eq, wipeE, backE])
theorem ga_mem (k : Nat) (h : k ≤ 400) : coreR (ringR.drop k ++ ringR.take k) ∈ rots (coreR ringR) := by
  rw [(turned_ok k h).2.1]
  exact (turned_ok k h).2.2.2.1
theorem ga_due (k : Nat) (h : k ≤ 400) : rnd ringR = rnd (ringR.drop k ++ ringR.take k) := (due_iff _ _).mpr (ga_mem k h)
theorem ga_sum (k : Nat) (h : k ≤ 400) : (headR (ringR.drop k ++ ringR.take k)).length + (coreR ringR).length + (headR ringR).length ≤ 400 := by
  obtain ⟨T1, T2, T3, T4, T5, T6⟩ := turned_ok k h
  rw [T3, T6, T5, ring_len, List.length_nil, Nat.zero_add, Nat.add_zero]
  exact Nat.le_refl 400
theorem ga_tA (k : Nat) (h : k ≤ 400) : isT ringR (ringR.drop k ++ ringR.take k) (turnR ringR (ringR.drop k ++ ringR.take k)) = true := turnR_ok ringR _ ring_ok (turned_ok k h).1 (Nat.le_of_eq ring_len) (ga_sum k h) (ga_mem k h)
theorem ga_len (k : Nat) (h : k ≤ 400) : (turnR ringR (ringR.drop k ++ ringR.take k)).length ≤ 1000 := by
  have := ga_tA k h
  unfold isT at this
  rw [Bool.and_eq_true] at this
  exact Nat.le_trans (okC_iff.mp this.1).1 (by decide)
theorem ga_A (k : Nat) (h : k ≤ 400) : f_are_turnings.m [rD ringR, rD (ringR.drop k ++ ringR.take k)] = .ok (.bool true, .none) := by
  rw [v_turnings ringR _ ring_ok (turned_ok k h).1, decide_eq_true (ga_due k h)]
theorem ga_B (k : Nat) (h : k ≤ 400) : f_turning_of.m [rD ringR, rD (ringR.drop k ++ ringR.take k)] = .ok (rD (turnR ringR (ringR.drop k ++ ringR.take k)), .none) := by
  rw [v_turning ringR _ ring_ok (turned_ok k h).1, if_pos (ga_mem k h)]
theorem ga_C (k : Nat) (h : k ≤ 400) : f__law_is_turning.m [rD ringR, rD (ringR.drop k ++ ringR.take k), rD (turnR ringR (ringR.drop k ++ ringR.take k))] = .ok (.bool true, .none) := by
  rw [v_lisT ringR _ _ (Nat.le_of_eq ring_len) (okC_iff.mp (turned_ok k h).1).1 (ga_len k h), ga_tA k h]
theorem ga_D (k : Nat) (h : k ≤ 400) : f_reduced_round.m [rD (ringR.drop k ++ ringR.take k)] = .ok (rD ringR, .none) := by
  rw [v_redround _ (turned_ok k h).1, ← ga_due k h, ring_rnd]
theorem ga_E (k : Nat) (h : k ≤ 400) : f_is_turning.m [rD ringR, rD (ringR.drop k ++ ringR.take k), rD (inv (ringR.take k))] = .ok (.bool true, .none) := by
  rw [v_isturning ringR _ (inv (ringR.take k)) ring_ok (turned_ok k h).1 (by rw [inv_len, List.length_take, ring_len]; omega), ring_isT k h]
theorem ga_F : f_are_turnings.m [rD ringR, rD ringR.reverse] = .ok (.bool false, .none) := by
  rw [v_turnings ringR _ ring_ok rev_ok, decide_eq_false ring_not]
theorem ga_G (k : Nat) : f__law_back.m [rD (ringR.take k)] = .ok (rD (inv (ringR.take k)), .none) := v_lback _ (by rw [List.length_take, ring_len]; omega)
theorem great_a (cup : D) (k m : Nat) (hk : k ≤ 400) (hm : m ≤ 199) : ∃ ev, greatA [some cup, some (.int (k : Nat)), some (.int (m : Nat)), some (rD ringR), some (rD (ringR.drop k ++ ringR.take k)), none, none, none] = .ok (.rt (.bool true), ev) ∧ ev[0]? = some (some cup) :=
  great_w cup k m ringR _ _ _ _ _ hm (ga_A k hk) (ga_B k hk) (ga_C k hk) (ga_D k hk) (ga_E k hk) ga_F (ga_G k) (rD_take (by rw [ring_len]; exact hk)) (rD_rev ringR)
theorem v_great (cup : D) (hc : Cup cup) : ∃ cup', f__law_great.m [cup] = .ok (.bool true, cup') ∧ Cup cup' := by
  have key : ∀ I : DI, (∀ x y z : Option D, I [x, y, z, none, none, none, none, none] = .ok ((List.range 399).map fun i => .int (i : Nat), [x, y, z, none, none, none, none, none])) →
      ∃ cup', bodyM 8 (some 0) false (sSeq (sPar [1, 2] [.v (vBin gAdd (eC (.int 1)) (eCall f__law_roll (chkN f__law_roll.np (aCons (eOwn 0) (aCons (eC (.int 398)) (aNil)))))), .v (vBin gAdd (eC (.int 1)) (eCall f__law_roll (chkN f__law_roll.np (aCons (eOwn 0) (aCons (eC (.int 199)) (aNil))))))]) (sSeq (sSet 3 (vBin gAdd (vCall gTuple (aCons (vOf (oComp (I) [7] (bName 7) (tYesD) (eTup (aCons (vBin gMod (vCall gInt (aCons (eVar 7) (aNil))) (eC (.int 7))) (aCons (eC (.int 1)) (aNil)))))) (aNil))) (eTup (aCons (eTup (aCons (eC (.int 7)) (aCons (eC (.int 1)) (aNil)))) (aNil))))) (sSeq (sSet 4 (vBin gAdd (vSl (eVar 3) (pSome (eVar 1)) (pNone)) (vSl (eVar 3) (pNone) (pSome (eVar 1))))) greatA))) [cup] = .ok (.bool true, cup') ∧ Cup cup' := by
    intro I hI
    obtain ⟨w1, cup1, er1, w10, w11, hc1⟩ := v_roll cup 398 hc (by omega) (by omega)
    obtain ⟨w2, cup2, er2, w20, w21, hc2⟩ := v_roll cup1 199 hc1 (by omega) (by omega)
    obtain ⟨k, hk⟩ := Int.eq_ofNat_of_zero_le (show 0 ≤ 1 + w1 by omega)
    obtain ⟨m, hm⟩ := Int.eq_ofNat_of_zero_le (show 0 ≤ 1 + w2 by omega)
    have hk4 : k ≤ 400 := by omega
    have hm4 : m ≤ 199 := by omega
    clear w10 w11 w20 w21
    walk_at "ev"
    rw [er1]
    walk_at "ev"
    rw [er2]
    walk_at "ev"
    rw [hk, hm]
    have hcm := oComp_map (vs := [7]) (b := bName 7) (m := eTup (aCons (vBin gMod (vCall gInt (aCons (eVar 7) (aNil))) (eC (.int 7))) (aCons (eC (.int 1)) (aNil)))) (enc := fun i : Nat => .int (i : Nat)) (f := ringE) (xs := List.range 399) (ev := [some cup2, some (.int (k : Nat)), some (.int (m : Nat)), none, none, none, none, none]) (hI _ _ _) (by rw [sizeLine_eq, List.length_range]; omega) (fun i hi => by
        refine ⟨[some cup2, some (.int (k : Nat)), some (.int (m : Nat)), none, none, none, none, some (.int (i : Nat))], by simp [wipeE], ?_, by simp [wipeE]⟩
        walk_at "ev"
        rw [z_mod (by decide)]
        walk_at "ev"
        rfl) (by simp [wipeE, backE])
    rw [hcm]
    have eR : List.map ringE (List.range 399) ++ [PyData.tuple [PyData.int 7, PyData.int 1]] = ringR.map tD := by
      unfold ringR
      rw [List.map_append, List.map_map]
      rfl
    have hkl : k ≤ (ringR.map tD).length := by simp [ring_len]; omega
    obtain ⟨ev, ea, e0⟩ := great_a cup2 k m hk4 hm4
    walk_at "ev"
    rw [eR, z_cut_kn hkl, z_cut_nk hkl]
    rw [if_pos (by simp [ring_len]; omega)]
    have e1 : PyData.tuple (ringR.map tD) = rD ringR := rfl
    have e2 : PyData.tuple ((ringR.map tD).drop k ++ (ringR.map tD).take k) = rD (ringR.drop k ++ ringR.take k) := by unfold rD; rw [List.map_append, List.map_drop, List.map_take]
    rw [e1, e2]
    walk_at "ev"
    rw [ea]
    walk_at "ev"
    rw [e0]
    simp
    exact hc2
  exact key _ (fun x y z => by
    refine iRng1_ok (n := 399) ?_ (by omega)
    walk_at "ev")
end WL

set_option Elab.async false
set_option linter.all false
set_option maxRecDepth 100000
set_option maxHeartbeats 4000000
namespace WL
open PySem PySem.Spec PyProof.Rows L2 HotX L2H LamX TL Wd
local macro_rules | `(tactic| walk_at "ev") => `(tactic| simp [bodyM, sSeq, sIf, sSet, sSetO, sRet, sRetO, sRetS, sRetN, sApp, sPop, sDrop, sRaise, sUnp, sPar, sNext, oLst, oCall, oBin, oRep, vOf, aNil, aCons, eTup, eC, eVar, eOwn, vCall, vUn, vBin, vAn, vOrr, vNo, vIf, vChain, tOf, tTru, tNo, tAn, tOrr, ioGet, List.replicate, eCall, oCallF, chkN, z_call1, z_call2, z_call3, z_io1, z_io2, z_io3, vSl, pNone, pSome, eIdx, sizeLine_eq, wipeE, backE])
/-! ### what is no cord is told as an error -/
def bad (d : D) : Prop := f_is_cord.m [d] = .ok (.bool false, .none)
theorem bad_row (r : List Tn) (h : okC r = false) : bad (rD r) := by
  unfold bad
  rw [v_is_cord, h]
theorem r_bad {d : D} (h : bad d) : f_reduced_round.m [d] = .err "InvalidCord" := by
  show bodyM 1 none false m_reduced_round _ = _
  unfold m_reduced_round sDrop
  walk_at "ev"
  rw [v_need_no d h]
  try walk_at "ev"
theorem at_bad1 {d : D} (x : D) (h : bad d) : f_are_turnings.m [d, x] = .err "InvalidCord" := by
  show bodyM 2 none false m_are_turnings _ = _
  unfold m_are_turnings sDrop
  walk_at "ev"
  rw [v_need_no d h]
  try walk_at "ev"
theorem at_bad2 {d : D} (h : bad d) : f_are_turnings.m [.tuple [], d] = .err "InvalidCord" := by
  show bodyM 2 none false m_are_turnings _ = _
  unfold m_are_turnings sDrop
  have e : f_need_cord.m [.tuple []] = .ok (.none, .none) := v_need [] rfl
  walk_at "ev"
  rw [e]
  walk_at "ev"
  rw [v_need_no d h]
  try walk_at "ev"
theorem to_bad1 {d : D} (x : D) (h : bad d) : f_turning_of.m [d, x] = .err "InvalidCord" := by
  show bodyM 7 none false m_turning_of _ = _
  unfold m_turning_of sDrop
  walk_at "ev"
  rw [v_need_no d h]
  try walk_at "ev"
theorem to_bad2 {d : D} (h : bad d) : f_turning_of.m [.tuple [], d] = .err "InvalidCord" := by
  show bodyM 7 none false m_turning_of _ = _
  unfold m_turning_of sDrop
  have e : f_need_cord.m [.tuple []] = .ok (.none, .none) := v_need [] rfl
  walk_at "ev"
  rw [e]
  walk_at "ev"
  rw [v_need_no d h]
  try walk_at "ev"
theorem it_bad1 {d : D} (x y : D) (h : bad d) : f_is_turning.m [d, x, y] = .err "InvalidCord" := by
  show bodyM 3 none false m_is_turning _ = _
  unfold m_is_turning sDrop
  walk_at "ev"
  rw [v_need_no d h]
  try walk_at "ev"
theorem it_bad2 {d : D} (y : D) (h : bad d) : f_is_turning.m [.tuple [], d, y] = .err "InvalidCord" := by
  show bodyM 3 none false m_is_turning _ = _
  unfold m_is_turning sDrop
  have e : f_need_cord.m [.tuple []] = .ok (.none, .none) := v_need [] rfl
  walk_at "ev"
  rw [e]
  walk_at "ev"
  rw [v_need_no d h]
  try walk_at "ev"
end WL

set_option Elab.async false
set_option linter.all false
set_option maxRecDepth 100000
set_option maxHeartbeats 4000000
namespace WL
open PySem PySem.Spec PyProof.Rows L2 HotX L2H LamX TL Wd
local macro_rules | `(tactic| walk_at "ev") => `(tactic| simp [bodyM, sSeq, sIf, sSet, sSetO, sRet, sRetO, sRetS, sRetN, sApp, sPop, sDrop, sRaise, sUnp, sPar, sNext, oLst, oCall, oBin, oRep, vOf, aNil, aCons, eTup, eC, eVar, eOwn, vCall, vUn, vBin, vAn, vOrr, vNo, vIf, vChain, tOf, tTru, tNo, tAn, tOrr, ioGet, List.replicate, eCall, oCallF, chkN, z_call1, z_call2, z_call3, z_io1, z_io2, z_io3, vSl, pNone, pSome, eIdx, sizeLine_eq, wipeE, backE])
def bigR : List Tn := List.replicate 401 (0, 1)
theorem odd1 : gMul (.tuple [.tuple [.int 0, .int 1]]) (.int 401) = some (rD bigR) := by
  rfl
theorem cat_l {xs ys : List D} (h : xs.length + ys.length ≤ 16777216) : gCat (.list xs) (.list ys) = some (.list (xs ++ ys)) := by
  unfold gCat
  simp [h, sizeLine_eq]
theorem nine : gEq (.list [.str "cord", .str "cord", .str "cord", .str "cord", .str "cord", .str "cord", .str "cord", .str "cord", .str "cord"]) (.list [.str "cord", .str "cord", .str "cord", .str "cord", .str "cord", .str "cord", .str "cord", .str "cord", .str "cord"]) = some (.bool true) := by
  rfl
theorem fails_err {own : Nat → Bool} {dflt : Str} {mb : DE} {ev : Ev} (h : mb (wipeO own ev) = .err "InvalidCord") : eFails own dflt wd mb ev = .ok (.val (.str "cord"), ev) := by
  unfold eFails
  rw [h]
  rfl
theorem comp_cords {it : DI} {mb : DE} {ev : Ev} (ps : List (D × D)) (hl : ev.length = 6) (h4 : ev[4]? = some none) (h5 : ev[5]? = some none) (hn : ps.length ≤ 10) (hit : it ev = .ok (ps.map fun p => .tuple [p.1, p.2], ev))
    (hm : ∀ p ∈ ps, mb (wipeO (fun i => i == 0 || i == 2) ((ev.set 4 (some p.1)).set 5 (some p.2))) = .err "InvalidCord") :
    oComp it [4, 5] (bTup 2 (bCons (bName 4) (bCons (bName 5) (bNil)))) tYesD (eFails (fun i => i == 0 || i == 2) "" wd mb) ev = .ok (.list (ps.map fun _ => .str "cord"), ev) := by
  obtain ⟨a0, a1, a2, a3, rfl⟩ : ∃ a0 a1 a2 a3, ev = [a0, a1, a2, a3, none, none] := by
    match ev, hl with
    | [a0, a1, a2, a3, a4, a5], _ =>
      simp at h4 h5
      subst h4
      subst h5
      exact ⟨a0, a1, a2, a3, rfl⟩
  refine oComp_map (enc := fun p : D × D => .tuple [p.1, p.2]) (f := fun _ => .str "cord") hit (by rw [sizeLine_eq]; omega) (fun p hp => ?_) (by simp [wipeE, backE])
  refine ⟨[a0, a1, a2, a3, some p.1, some p.2], ?_, ?_, by simp [wipeE]⟩
  · simp [wipeE, bTup, bCons, bName, bNil]
  · exact fails_err (hm p hp)
theorem v_errors (cup : D) (hc : Cup cup) : ∃ cup', f__law_errors.m [cup] = .ok (.bool true, cup') ∧ Cup cup' := by
  obtain ⟨d, cup', hd, es, hc'⟩ := v_some cup [rD bigR, rD [(8, 1)], rD [(0, 0)], .tuple [.tuple [.bool true, .int 1]], .list [.tuple [.int 0, .int 1]], .none] hc (by decide) (by decide)
  have hb : bad d := by
    simp only [List.mem_cons, List.not_mem_nil, or_false] at hd
    rcases hd with rfl | rfl | rfl | rfl | rfl | rfl
    · exact bad_row _ (by decide)
    · exact bad_row _ rfl
    · exact bad_row _ rfl
    · exact v_is_cord_no _ (.inr (.inr (.inr rfl)))
    · exact v_is_cord_no _ (.inr (.inl ⟨[(0, 1)], rfl⟩))
    · exact v_is_cord_no _ (.inl rfl)
  refine ⟨cup', ?_, hc'⟩
  clear hd
  show bodyM 6 (some 0) false m__law_errors _ = _
  unfold m__law_errors
  have e8 : PyData.tuple [.tuple [.int 8, .int 1]] = rD [(8, 1)] := rfl
  have e0 : PyData.tuple [.tuple [.int 0, .int 0]] = rD [(0, 0)] := rfl
  walk_at "ev"
  rw [odd1]
  walk_at "ev"
  rw [e8, e0, es]
  walk_at "ev"
  have f1 : eFails (fun i => i == 0 || i == 2) "" wd (eCall f_reduced_round (chkN 1 (aCons (eVar 1) aNil))) [some cup', some d, some (.list []), none, none, none] = .ok (.val (.str "cord"), [some cup', some d, some (.list []), none, none, none]) := by
    refine fails_err ?_
    simp only [wipeO]
    walk_at "ev"
    rw [r_bad hb]
    try walk_at "ev"
  have c1 : ∀ (y : Str) (g : FnS) (L : List D), fnOfD (fnD y) = some y → tbl__law_errors y = some g → g.np = 2 → g.io = none → g.ro = false → (∀ x, g.m [d, x] = .err "InvalidCord") → g.m [.tuple [], d] = .err "InvalidCord" →
      oComp (iSeq (eTup (aCons (eTup (aCons (eVar 1) (aCons (eTup aNil) aNil))) (aCons (eTup (aCons (eTup aNil) (aCons (eVar 1) aNil))) (aCons (eTup (aCons (eVar 1) (aCons (eC .none) aNil))) aNil))))) [4, 5] (bTup 2 (bCons (bName 4) (bCons (bName 5) bNil))) tYesD (eFails (fun i => i == 0 || i == 2) "" wd (eCallV 3 tbl__law_errors (aCons (eVar 4) (aCons (eVar 5) aNil)))) [some cup', some d, some (.list L), some (fnD y), none, none] = .ok (.list [.str "cord", .str "cord", .str "cord"], [some cup', some d, some (.list L), some (fnD y), none, none]) := by
    intro y g L hy ht hn hi hr h1 h2
    refine comp_cords [(d, .tuple []), (.tuple [], d), (d, .none)] rfl rfl rfl (by simp) ?_ ?_
    · unfold iSeq
      walk_at "ev"
    · intro p hp
      simp only [List.mem_cons, List.not_mem_nil, or_false] at hp
      rcases hp with rfl | rfl | rfl <;> simp [wipeO, eCallV, hy, ht, hr, hn, eCall, chkN, aCons, aNil, eVar, callD, hi, h1, h2, ioSlot]
  have c2 : ∀ (o : Option D) (L : List D), oComp (iSeq (eTup (aCons (eTup (aCons (eVar 1) (aCons (eTup aNil) aNil))) (aCons (eTup (aCons (eTup aNil) (aCons (eVar 1) aNil))) aNil)))) [4, 5] (bTup 2 (bCons (bName 4) (bCons (bName 5) bNil))) tYesD (eFails (fun i => i == 0 || i == 2) "" wd (eCall f_is_turning (chkN 3 (aCons (eVar 4) (aCons (eVar 5) (aCons (eC .none) aNil)))))) [some cup', some d, some (.list L), o, none, none] = .ok (.list [.str "cord", .str "cord"], [some cup', some d, some (.list L), o, none, none]) := by
    intro o L
    refine comp_cords [(d, .tuple []), (.tuple [], d)] rfl rfl rfl (by simp) ?_ ?_
    · unfold iSeq
      walk_at "ev"
    · intro p hp
      simp only [List.mem_cons, List.not_mem_nil, or_false] at hp
      rcases hp with rfl | rfl <;> simp only [wipeO] <;> walk_at "ev" <;> first | rw [it_bad1 _ _ hb] | rw [it_bad2 _ hb]
      all_goals (try walk_at "ev")
  rw [f1]
  walk_at "ev"
  have b3 : ∀ (ev : Ev), iSeq (eTup (aCons (eC (fnD "are_turnings")) (aCons (eC (fnD "turning_of")) aNil))) ev = .ok ([fnD "are_turnings", fnD "turning_of"], ev) := by
    intro ev
    unfold iSeq
    walk_at "ev"
  have c3 := fun L => c1 "are_turnings" f_are_turnings L rfl rfl rfl rfl rfl (fun x => at_bad1 x hb) (at_bad2 hb)
  have c4 := fun L => c1 "turning_of" f_turning_of L rfl rfl rfl rfl rfl (fun x => to_bad1 x hb) (to_bad2 hb)
  unfold sFor
  rw [b3]
  simp only [Res.bind_ok, forL]
  walk_at "ev"
  rw [c3]
  walk_at "ev"
  rw [cat_l (by decide)]
  walk_at "ev"
  rw [c4]
  walk_at "ev"
  rw [cat_l (by decide)]
  walk_at "ev"
  rw [c2]
  walk_at "ev"
  rw [cat_l (by decide)]
  walk_at "ev"
  rw [nine]
  walk_at "ev"
end WL

set_option Elab.async false
set_option linter.all false
set_option maxRecDepth 100000
set_option maxHeartbeats 4000000
namespace WL
open PySem PySem.Spec PyProof.Rows L2 HotX L2H LamX TL Wd
local macro_rules | `(tactic| walk_at "ev") => `(tactic| simp [bodyM, sSeq, sIf, sSet, sSetO, sRet, sRetO, sRetS, sRetN, sApp, sPop, sDrop, sRaise, sUnp, sPar, sNext, oLst, oCall, oBin, oRep, vOf, aNil, aCons, eTup, eC, eVar, eOwn, vCall, vUn, vBin, vAn, vOrr, vNo, vIf, vChain, tOf, tTru, tNo, tAn, tOrr, ioGet, List.replicate, eCall, oCallF, chkN, z_call1, z_call2, z_call3, z_io1, z_io2, z_io3, vSl, pNone, pSome, eIdx, sizeLine_eq, wipeE, backE])
def bodyL : DS := sSeq (sSet 5 (eCall f__law_some (chkN f__law_some.np (aCons (eOwn 1) (aCons (vOf (oLst (aCons (vOf (oLst (aCons (eC (.int 0)) (aCons (eC (.int 1)) (aNil))))) (aCons (vOf (oLst (aCons (eC (.int 0)) (aCons (eC (.int 3)) (aCons (eC (.int 7)) (aNil)))))) (aCons (vOf (oLst (aCons (eC (.int 5)) (aNil)))) (aNil)))))) (aNil)))))) (sSeq (sPar [6, 7] [.v (eCall f__law_cord (chkN f__law_cord.np (aCons (eOwn 1) (aCons (eVar 5) (aCons (eC (.int 12)) (aNil)))))), .v (eCall f__law_cord (chkN f__law_cord.np (aCons (eOwn 1) (aCons (eVar 5) (aCons (eC (.int 6)) (aNil))))))]) (sSeq (sSet 8 (eCall f__law_reduced (chkN f__law_reduced.np (aCons (eVar 6) (aNil))))) (sSeq (sSet 9 (eCall f__law_roll (chkN f__law_roll.np (aCons (eOwn 1) (aCons (vBin gAdd (vCall gLen (aCons (eVar 8) (aNil))) (eC (.int 1))) (aNil)))))) (sSeq (sSet 10 (vOf (oLst (aCons (eCall f__law_cord (chkN f__law_cord.np (aCons (eOwn 1) (aCons (eVar 5) (aCons (eC (.int 12)) (aNil)))))) (aCons (vBin gAdd (vBin gAdd (eVar 7) (eVar 6)) (eCall f__law_back (chkN f__law_back.np (aCons (eVar 7) (aNil))))) (aCons (vBin gAdd (vSl (eVar 8) (pSome (eVar 9)) (pNone)) (vSl (eVar 8) (pNone) (pSome (eVar 9)))) (aCons (eCall f__law_back (chkN f__law_back.np (aCons (eVar 6) (aNil)))) (aCons (vUn gRev (eVar 6)) (aNil))))))))) (sIf (tOrr (tNo (tTru (eCall f__law_right (chkN f__law_right.np (aCons (eOwn 1) (aCons (eVar 6) (aCons (eCall f__law_some (chkN f__law_some.np (aCons (eOwn 1) (aCons (eVar 10) (aNil))))) (aNil)))))))) (tNo (tTru (eCall f__law_right (chkN f__law_right.np (aCons (eOwn 1) (aCons (eVar 6) (aCons (vBin gAdd (vBin gAdd (vBin gAdd (eVar 7) (vSl (eVar 8) (pSome (eVar 9)) (pNone))) (vSl (eVar 8) (pNone) (pSome (eVar 9)))) (eCall f__law_back (chkN f__law_back.np (aCons (eVar 7) (aNil))))) (aNil))))))))) (sRet (eC (.bool false))) (sNext))))))
def tailL : DS := sSeq (sSet 3 (eTup (aCons (eTup (aCons (eC (.int 0)) (aCons (eC (.int 1)) (aNil)))) (aCons (eTup (aCons (eC (.int 1)) (aCons (eC (.int 1)) (aNil)))) (aCons (eTup (aCons (eC (.int 0)) (aCons (vUn gNeg (eC (.int 1))) (aNil)))) (aCons (eTup (aCons (eC (.int 1)) (aCons (vUn gNeg (eC (.int 1))) (aNil)))) (aNil))))))) (sSeq (sSet 4 (vOf (oLst (aCons (eCall f_reduced_round (chkN f_reduced_round.np (aCons (eTup (aCons (eTup (aCons (eC (.int 1)) (aCons (eC (.int 1)) (aNil)))) (aCons (eTup (aCons (eC (.int 0)) (aCons (eC (.int 1)) (aNil)))) (aCons (eTup (aCons (eC (.int 1)) (aCons (vUn gNeg (eC (.int 1))) (aNil)))) (aNil))))) (aNil)))) (aCons (eCall f_reduced_round (chkN f_reduced_round.np (aCons (eVar 3) (aNil)))) (aCons (eCall f_are_turnings (chkN f_are_turnings.np (aCons (eVar 3) (aCons (vBin gAdd (vSl (eVar 3) (pSome (eC (.int 1))) (pNone)) (vSl (eVar 3) (pNone) (pSome (eC (.int 1))))) (aNil))))) (aNil))))))) (sSeq (sSet 4 (vBin gAdd (eVar 4) (vOf (oLst (aCons (eCall f_are_turnings (chkN f_are_turnings.np (aCons (eVar 3) (aCons (eCall f__law_back (chkN f__law_back.np (aCons (eVar 3) (aNil)))) (aNil))))) (aCons (eCall f_is_turning (chkN f_is_turning.np (aCons (eVar 3) (aCons (vBin gAdd (vSl (eVar 3) (pSome (eC (.int 1))) (pNone)) (vSl (eVar 3) (pNone) (pSome (eC (.int 1))))) (aCons (eTup (aCons (eTup (aCons (eC (.int 0)) (aCons (vUn gNeg (eC (.int 1))) (aNil)))) (aNil))) (aNil)))))) (aCons (eCall f_reduced_round (chkN f_reduced_round.np (aCons (eTup (aNil)) (aNil)))) (aNil)))))))) (sSeq (sIf (tNo (tTru (eCall (f__law_like 8) (chkN (f__law_like 8).np (aCons (eVar 4) (aCons (vOf (oLst (aCons (eTup (aCons (eTup (aCons (eC (.int 0)) (aCons (eC (.int 1)) (aNil)))) (aNil))) (aCons (eTup (aCons (eTup (aCons (eC (.int 0)) (aCons (vUn gNeg (eC (.int 1))) (aNil)))) (aCons (eTup (aCons (eC (.int 1)) (aCons (vUn gNeg (eC (.int 1))) (aNil)))) (aCons (eTup (aCons (eC (.int 0)) (aCons (eC (.int 1)) (aNil)))) (aCons (eTup (aCons (eC (.int 1)) (aCons (eC (.int 1)) (aNil)))) (aNil)))))) (aCons (eC (.bool true)) (aCons (eC (.bool false)) (aCons (eC (.bool true)) (aCons (eTup (aNil)) (aNil))))))))) (aNil))))))) (sRet (eC (.bool false))) (sNext)) (sSeq (sIf (tOf (vBin gIsNot (eCall f_are_turnings (chkN f_are_turnings.np (aCons (eTup (aCons (eTup (aCons (eC (.int 0)) (aCons (eC (.int 1)) (aNil)))) (aCons (eTup (aCons (eC (.int 0)) (aCons (eC (.int 1)) (aNil)))) (aCons (eTup (aCons (eC (.int 1)) (aCons (eC (.int 1)) (aNil)))) (aCons (eTup (aCons (eC (.int 1)) (aCons (eC (.int 1)) (aNil)))) (aNil)))))) (aCons (vBin gMul (eTup (aCons (eTup (aCons (eC (.int 0)) (aCons (eC (.int 1)) (aNil)))) (aCons (eTup (aCons (eC (.int 1)) (aCons (eC (.int 1)) (aNil)))) (aNil)))) (eC (.int 2))) (aNil))))) (eC (.bool false)))) (sRet (eC (.bool false))) (sNext)) (sSeq (sIf (tNo (tTru (eCall f__law_right (chkN f__law_right.np (aCons (eOwn 1) (aCons (vBin gMul (eTup (aCons (eTup (aCons (eC (.int 0)) (aCons (eC (.int 1)) (aNil)))) (aCons (eTup (aCons (eC (.int 1)) (aCons (eC (.int 1)) (aNil)))) (aNil)))) (eC (.int 3))) (aCons (vBin gMul (eTup (aCons (eTup (aCons (eC (.int 1)) (aCons (eC (.int 1)) (aNil)))) (aCons (eTup (aCons (eC (.int 0)) (aCons (eC (.int 1)) (aNil)))) (aNil)))) (eC (.int 3))) (aNil)))))))) (sRet (eC (.bool false))) (sNext)) (sSeq (sIf (tOrr (tNo (tTru (eCall f__law_right (chkN f__law_right.np (aCons (eOwn 1) (aCons (eTup (aNil)) (aCons (eTup (aCons (eTup (aCons (eC (.int 0)) (aCons (eC (.int 1)) (aNil)))) (aCons (eTup (aCons (eC (.int 0)) (aCons (vUn gNeg (eC (.int 1))) (aNil)))) (aNil)))) (aNil)))))))) (tNo (tTru (eCall f__law_right (chkN f__law_right.np (aCons (eOwn 1) (aCons (eTup (aNil)) (aCons (eTup (aCons (eTup (aCons (eC (.int 0)) (aCons (eC (.int 1)) (aNil)))) (aNil))) (aNil))))))))) (sRet (eC (.bool false))) (sNext)) (sRet (vAn (eCall f__law_great (chkN f__law_great.np (aCons (eOwn 1) (aNil)))) (eCall f__law_errors (chkN f__law_errors.np (aCons (eOwn 1) (aNil))))))))))))
theorem v_right_small (cup : D) (a b : List Tn) (hc : Cup cup) (la : a.length ≤ 100) (lb : b.length ≤ 100) (oa : a.all okT = true) (ob : b.all okT = true) : ∃ cup', f__law_right.m [cup, rD a, rD b] = .ok (.bool true, cup') ∧ Cup cup' := by
  refine v_right cup a b hc (okC_iff.mpr ⟨by omega, oa⟩) (okC_iff.mpr ⟨by omega, ob⟩) ?_
  have h1 := red_len a
  have h2 := red_len b
  have e1 : (headR b).length ≤ (red b).length := by unfold headR; simp; omega
  have e2 : (headR a).length ≤ (red a).length := by unfold headR; simp; omega
  have e3 : (coreR a).length ≤ (red a).length := by unfold coreR; simp; omega
  omega
theorem rev_all {w : List Tn} (h : w.all okT = true) : w.reverse.all okT = true := by rw [List.all_reverse]; exact h
theorem app_all {v w : List Tn} (h : v.all okT = true) (k : w.all okT = true) : (v ++ w).all okT = true := by rw [List.all_append, h, k]; rfl
theorem law_turn (sc cup : D) (x2 x5 x6 x7 x8 x9 x10 : Option D) (hc : Cup cup) : ∃ cup' y5 y6 y7 y8 y9 y10, bodyL [some sc, some cup, x2, none, none, x5, x6, x7, x8, x9, x10] = .ok (.nx, [some sc, some cup', x2, none, none, y5, y6, y7, y8, y9, y10]) ∧ Cup cup' := by
  obtain ⟨pg, c1, hp, e1, hc1⟩ := v_some cup [.list [.int 0, .int 1], .list [.int 0, .int 3, .int 7], .list [.int 5]] hc (by decide) (by decide)
  obtain ⟨l, rfl, hl⟩ : ∃ l : List Int, pg = .list (l.map PyData.int) ∧ pgs l := by
    simp only [List.mem_cons, List.not_mem_nil, or_false] at hp
    rcases hp with rfl | rfl | rfl
    · exact ⟨[0, 1], rfl, by decide, by decide, by decide⟩
    · exact ⟨[0, 3, 7], rfl, by decide, by decide, by decide⟩
    · exact ⟨[5], rfl, by decide, by decide, by decide⟩
  obtain ⟨one, c2, e2, hc2, l2, o2⟩ := v_cord c1 l 12 hc1 hl (by decide)
  obtain ⟨by_, c3, e3, hc3, l3, o3⟩ := v_cord c2 l 6 hc2 hl (by decide)
  have lr := red_len one
  have orr := red_all o2
  obtain ⟨at_, c4, e4, a0, a1, hc4⟩ := v_roll c3 ((red one).length + 1) hc3 (by omega) (by omega)
  obtain ⟨k, rfl⟩ := Int.eq_ofNat_of_zero_le a0
  have hk : k ≤ (red one).length := by omega
  obtain ⟨lot, c5, e5, hc5, l5, o5⟩ := v_cord c4 l 12 hc4 hl (by decide)
  have e2 : f__law_cord.m [c1, .list (l.map PyData.int), .int 12] = .ok (rD one, c2) := e2
  have e3 : f__law_cord.m [c2, .list (l.map PyData.int), .int 6] = .ok (rD by_, c3) := e3
  have e5 : f__law_cord.m [c4, .list (l.map PyData.int), .int 12] = .ok (rD lot, c5) := e5
  obtain ⟨z, c6, hz, e6, hc6⟩ := v_some c5 [rD lot, rD (by_ ++ one ++ inv by_), rD ((red one).drop k ++ (red one).take k), rD (inv one), rD one.reverse] hc5 (by simp) (by simp)
  have ob := inv_all o3
  have od := drop_all k orr
  have ot := take_all k orr
  obtain ⟨q, rfl, lq, oq⟩ : ∃ q, z = rD q ∧ q.length ≤ 100 ∧ q.all okT = true := by
    simp only [List.mem_cons, List.not_mem_nil, or_false] at hz
    rcases hz with rfl | rfl | rfl | rfl | rfl
    · exact ⟨_, rfl, by omega, o5⟩
    · exact ⟨_, rfl, by simp [inv_len]; omega, app_all (app_all o3 o2) ob⟩
    · exact ⟨_, rfl, by simp; omega, app_all od ot⟩
    · exact ⟨_, rfl, by rw [inv_len]; omega, inv_all o2⟩
    · exact ⟨_, rfl, by simp; omega, rev_all o2⟩
  obtain ⟨c7, e7, hc7⟩ := v_right_small c6 one q hc6 (by omega) lq o2 oq
  obtain ⟨c8, e8, hc8⟩ := v_right_small c7 one (by_ ++ (red one).drop k ++ (red one).take k ++ inv by_) hc7 (by omega) (by simp [inv_len]; omega) o2 (app_all (app_all (app_all o3 od) ot) ob)
  have rr := rD_rev one
  have b1 := v_lback by_ (by omega)
  have b2 := v_lback one (by omega)
  refine ⟨c8, some (.list (l.map PyData.int)), some (rD one), some (rD by_), some (rD (red one)), some (.int (k : Nat)), some (.list [rD lot, rD (by_ ++ one ++ inv by_), rD ((red one).drop k ++ (red one).take k), rD (inv one), rD one.reverse]), ?_, hc8⟩
  unfold bodyL
  walk_at "ev"
  rw [e1]
  walk_at "ev"
  rw [e2]
  walk_at "ev"
  rw [e3]
  walk_at "ev"
  rw [v_lreduced one (by omega)]
  walk_at "ev"
  rw [len_rD]
  walk_at "ev"
  rw [e4]
  walk_at "ev"
  rw [e5]
  walk_at "ev"
  rw [rD_add (by omega)]
  walk_at "ev"
  rw [b1]
  walk_at "ev"
  rw [rD_add (by simp [inv_len]; omega)]
  walk_at "ev"
  rw [rD_drop hk]
  walk_at "ev"
  rw [rD_take hk]
  walk_at "ev"
  rw [rD_add (by simp; omega)]
  walk_at "ev"
  rw [b2]
  walk_at "ev"
  rw [rr]
  walk_at "ev"
  simp only [List.append_assoc] at e6 e7 e8
  rw [e6]
  walk_at "ev"
  rw [e7]
  walk_at "ev"
  rw [rD_drop hk]
  walk_at "ev"
  rw [rD_add (by simp; omega)]
  walk_at "ev"
  rw [rD_take hk]
  walk_at "ev"
  rw [rD_add (by simp; omega)]
  walk_at "ev"
  rw [b1]
  walk_at "ev"
  rw [rD_add (by simp [inv_len]; omega)]
  walk_at "ev"
  rw [e8]
  walk_at "ev"

theorem rr_of (r z : List Tn) (h : okC r = true) (e : rnd r = z) : f_reduced_round.m [rD r] = .ok (rD z, .none) := by
  rw [v_redround r h, e]
theorem at_of (a b : List Tn) (k : Bool) (h : okC a = true) (h2 : okC b = true) (e : decide (rnd a = rnd b) = k) : f_are_turnings.m [rD a, rD b] = .ok (.bool k, .none) := by
  rw [v_turnings a b h h2, e]
theorem it_of (a b v : List Tn) (k : Bool) (h : okC a = true) (h2 : okC b = true) (hl : v.length ≤ 1000) (e : isT a b v = k) : f_is_turning.m [rD a, rD b, rD v] = .ok (.bool k, .none) := by
  rw [v_isturning a b v h h2 hl, e]
theorem law_tail (sc cup : D) (x2 x5 x6 x7 x8 x9 x10 : Option D) (hc : Cup cup) : ∃ ev, tailL [some sc, some cup, x2, none, none, x5, x6, x7, x8, x9, x10] = .ok (.rt (.bool true), ev) := by
  have t1 : f_reduced_round.m [.tuple [.tuple [.int 1, .int 1], .tuple [.int 0, .int 1], .tuple [.int 1, .int (-1)]]] = .ok (.tuple [.tuple [.int 0, .int 1]], .none) := rr_of [(1, 1), (0, 1), (1, -1)] [(0, 1)] (by decide) (by decide)
  have t2 : f_reduced_round.m [.tuple [.tuple [.int 0, .int 1], .tuple [.int 1, .int 1], .tuple [.int 0, .int (-1)], .tuple [.int 1, .int (-1)]]] = .ok (.tuple [.tuple [.int 0, .int (-1)], .tuple [.int 1, .int (-1)], .tuple [.int 0, .int 1], .tuple [.int 1, .int 1]], .none) := rr_of [(0, 1), (1, 1), (0, -1), (1, -1)] [(0, -1), (1, -1), (0, 1), (1, 1)] (by decide) (by decide)
  have t3 : f_are_turnings.m [.tuple [.tuple [.int 0, .int 1], .tuple [.int 1, .int 1], .tuple [.int 0, .int (-1)], .tuple [.int 1, .int (-1)]], .tuple [.tuple [.int 1, .int 1], .tuple [.int 0, .int (-1)], .tuple [.int 1, .int (-1)], .tuple [.int 0, .int 1]]] = .ok (.bool true, .none) := at_of [(0, 1), (1, 1), (0, -1), (1, -1)] [(1, 1), (0, -1), (1, -1), (0, 1)] true (by decide) (by decide) (by decide)
  have t4 : f_are_turnings.m [.tuple [.tuple [.int 0, .int 1], .tuple [.int 1, .int 1], .tuple [.int 0, .int (-1)], .tuple [.int 1, .int (-1)]], rD (inv [(0, 1), (1, 1), (0, -1), (1, -1)])] = .ok (.bool false, .none) := at_of [(0, 1), (1, 1), (0, -1), (1, -1)] _ false (by decide) (by decide) (by decide)
  have t5 : f_is_turning.m [.tuple [.tuple [.int 0, .int 1], .tuple [.int 1, .int 1], .tuple [.int 0, .int (-1)], .tuple [.int 1, .int (-1)]], .tuple [.tuple [.int 1, .int 1], .tuple [.int 0, .int (-1)], .tuple [.int 1, .int (-1)], .tuple [.int 0, .int 1]], .tuple [.tuple [.int 0, .int (-1)]]] = .ok (.bool true, .none) := it_of [(0, 1), (1, 1), (0, -1), (1, -1)] [(1, 1), (0, -1), (1, -1), (0, 1)] [(0, -1)] true (by decide) (by decide) (by decide) (by decide)
  have t6 : f_reduced_round.m [.tuple []] = .ok (.tuple [], .none) := rr_of [] [] (by decide) (by decide)
  have t7 : f_are_turnings.m [.tuple [.tuple [.int 0, .int 1], .tuple [.int 0, .int 1], .tuple [.int 1, .int 1], .tuple [.int 1, .int 1]], .tuple [.tuple [.int 0, .int 1], .tuple [.int 1, .int 1], .tuple [.int 0, .int 1], .tuple [.int 1, .int 1]]] = .ok (.bool false, .none) := at_of [(0, 1), (0, 1), (1, 1), (1, 1)] [(0, 1), (1, 1), (0, 1), (1, 1)] false (by decide) (by decide) (by decide)
  have b1 : f__law_back.m [.tuple [.tuple [.int 0, .int 1], .tuple [.int 1, .int 1], .tuple [.int 0, .int (-1)], .tuple [.int 1, .int (-1)]]] = .ok (rD (inv [(0, 1), (1, 1), (0, -1), (1, -1)]), .none) := v_lback [(0, 1), (1, 1), (0, -1), (1, -1)] (by decide)
  obtain ⟨c1, e1, hc1⟩ := v_right_small cup [(0, 1), (1, 1), (0, 1), (1, 1), (0, 1), (1, 1)] [(1, 1), (0, 1), (1, 1), (0, 1), (1, 1), (0, 1)] hc (by decide) (by decide) (by decide) (by decide)
  obtain ⟨c2, e2, hc2⟩ := v_right_small c1 [] [(0, 1), (0, -1)] hc1 (by decide) (by decide) (by decide) (by decide)
  obtain ⟨c3, e3, hc3⟩ := v_right_small c2 [] [(0, 1)] hc2 (by decide) (by decide) (by decide) (by decide)
  obtain ⟨c4, e4, hc4⟩ := v_great c3 hc3
  obtain ⟨c5, e5, hc5⟩ := v_errors c4 hc4
  have m1 : gMul (.tuple [.tuple [.int 0, .int 1], .tuple [.int 1, .int 1]]) (.int 2) = some (.tuple [.tuple [.int 0, .int 1], .tuple [.int 1, .int 1], .tuple [.int 0, .int 1], .tuple [.int 1, .int 1]]) := by rfl
  have m2 : gMul (.tuple [.tuple [.int 0, .int 1], .tuple [.int 1, .int 1]]) (.int 3) = some (rD [(0, 1), (1, 1), (0, 1), (1, 1), (0, 1), (1, 1)]) := by rfl
  have m3 : gMul (.tuple [.tuple [.int 1, .int 1], .tuple [.int 0, .int 1]]) (.int 3) = some (rD [(1, 1), (0, 1), (1, 1), (0, 1), (1, 1), (0, 1)]) := by rfl
  have s1 : cutL [PyData.tuple [.int 0, .int 1], .tuple [.int 1, .int 1], .tuple [.int 0, .int (-1)], .tuple [.int 1, .int (-1)]] (some 1) none = [.tuple [.int 1, .int 1], .tuple [.int 0, .int (-1)], .tuple [.int 1, .int (-1)]] := by rfl
  have s2 : cutL [PyData.tuple [.int 0, .int 1], .tuple [.int 1, .int 1], .tuple [.int 0, .int (-1)], .tuple [.int 1, .int (-1)]] none (some 1) = [.tuple [.int 0, .int 1]] := by rfl
  have lk : (f__law_like 8).m [.list [.tuple [.tuple [.int 0, .int 1]], .tuple [.tuple [.int 0, .int (-1)], .tuple [.int 1, .int (-1)], .tuple [.int 0, .int 1], .tuple [.int 1, .int 1]], .bool true, .bool false, .bool true, .tuple []], .list [.tuple [.tuple [.int 0, .int 1]], .tuple [.tuple [.int 0, .int (-1)], .tuple [.int 1, .int (-1)], .tuple [.int 0, .int 1], .tuple [.int 1, .int 1]], .bool true, .bool false, .bool true, .tuple []]] = .ok (.bool true, .none) := v_like 7 _ (by simp [good])
  have e2 : f__law_right.m [c1, .tuple [], .tuple [.tuple [.int 0, .int 1], .tuple [.int 0, .int (-1)]]] = .ok (.bool true, c2) := e2
  have e3 : f__law_right.m [c2, .tuple [], .tuple [.tuple [.int 0, .int 1]]] = .ok (.bool true, c3) := e3
  refine ⟨?_, ?_⟩
  rotate_left
  · unfold tailL
    walk_at "ev"
    rw [t1]
    walk_at "ev"
    rw [t2]
    walk_at "ev"
    rw [s1, s2]
    walk_at "ev"
    rw [t3]
    walk_at "ev"
    rw [b1]
    walk_at "ev"
    rw [t4]
    walk_at "ev"
    rw [s1, s2]
    walk_at "ev"
    rw [t5]
    walk_at "ev"
    rw [t6]
    walk_at "ev"
    rw [lk]
    walk_at "ev"
    rw [m1]
    walk_at "ev"
    rw [t7]
    walk_at "ev"
    rw [is_ff]
    walk_at "ev"
    rw [m2]
    walk_at "ev"
    rw [m3]
    walk_at "ev"
    rw [e1]
    walk_at "ev"
    rw [e2]
    walk_at "ev"
    rw [e3]
    walk_at "ev"
    rw [e4]
    walk_at "ev"
    rw [e5]
    walk_at "ev"
    rfl
theorem v_law_key (ns : List Int) (h : ns.length ≤ 63) (I : DI) (B T : DS) (hI : ∀ ev : Ev, I ev = .ok ((List.range 5).map fun i => .int (i : Nat), ev))
    (hB : ∀ (sc cup : D) (x2 x5 x6 x7 x8 x9 x10 : Option D), Cup cup → ∃ cup' y5 y6 y7 y8 y9 y10, B [some sc, some cup, x2, none, none, x5, x6, x7, x8, x9, x10] = .ok (.nx, [some sc, some cup', x2, none, none, y5, y6, y7, y8, y9, y10]) ∧ Cup cup')
    (hT : ∀ (sc cup : D) (x2 x5 x6 x7 x8 x9 x10 : Option D), Cup cup → ∃ ev, T [some sc, some cup, x2, none, none, x5, x6, x7, x8, x9, x10] = .ok (.rt (.bool true), ev)) :
    ∃ o, bodyM 11 none false (sSeq (sSetO 1 (oCallF f__law_cup (chkN f__law_cup.np (aCons (eVar 0) (aNil))))) (sSeq (sFor I (bName 2) B) T)) [scD ns] = .ok (.bool true, o) := by
  obtain ⟨cup, ec, hc⟩ := v_cup ns h
  generalize scD ns = sc at *
  obtain ⟨ev', e1, cup', y2, y5, y6, y7, y8, y9, y10, rfl, hc'⟩ := forL_all (b := bName 2) (body := B) (fun ev => ∃ cup' y2 y5 y6 y7 y8 y9 y10, ev = [some sc, some cup', y2, none, none, y5, y6, y7, y8, y9, y10] ∧ Cup cup') (ds := (List.range 5).map fun i => PyData.int (i : Nat))
    (ev := [some sc, some cup, none, none, none, none, none, none, none, none, none]) (fun d hd ev hI => by
      obtain ⟨cup', y2, y5, y6, y7, y8, y9, y10, rfl, hc'⟩ := hI
      obtain ⟨cup'', z5, z6, z7, z8, z9, z10, e, hc''⟩ := hB sc cup' (some d) y5 y6 y7 y8 y9 y10 hc'
      exact ⟨[some sc, some cup', some d, none, none, y5, y6, y7, y8, y9, y10], _, .nx, rfl, e, .inl rfl, cup'', some d, z5, z6, z7, z8, z9, z10, rfl, hc''⟩) ⟨cup, none, none, none, none, none, none, none, rfl, hc⟩
  obtain ⟨ev2, e2⟩ := hT sc cup' y2 y5 y6 y7 y8 y9 y10 hc'
  generalize hds : ((List.range 5).map fun i => PyData.int (i : Nat)) = ds at *
  walk_at "ev"
  rw [ec]
  walk_at "ev"
  unfold sFor
  rw [hI]
  simp only [Res.bind_ok]
  rw [e1]
  walk_at "ev"
  rw [e2]
  exact ⟨_, rfl⟩
theorem law_eq : m_law = sSeq (sSetO 1 (oCallF f__law_cup (chkN f__law_cup.np (aCons (eVar 0) (aNil))))) (sSeq (sFor (TL.iRng1 (aCons (eC (.int 5)) aNil)) (bName 2) bodyL) tailL) := id rfl
theorem it5 : ∀ ev : Ev, TL.iRng1 (aCons (eC (.int 5)) aNil) ev = .ok ((List.range 5).map fun i => .int (i : Nat), ev) := by
  intro ev
  refine iRng1_ok (n := 5) ?_ (by omega)
  walk_at "ev"
theorem law_m : f_law.m = bodyM 11 none false m_law := id rfl
theorem v_law (ns : List Int) (h : ns.length ≤ 63) : ∃ o, f_law.m [scD ns] = .ok (.bool true, o) := by
  rw [law_m, law_eq]
  exact v_law_key ns h _ _ _ it5 law_turn law_tail

end WL

set_option Elab.async false
open PySem
set_option maxRecDepth 100000 in
set_option maxHeartbeats 8000000 in
theorem PySem.Challenge.cw_tautlines_k66_whole_closed_cords_holds : PySem.Challenge.rw_tautlines_k66_whole_closed_cords.Holds := by
  exact WL.holds_of fun ns h _ => WL.v_law ns h
#print axioms PySem.Challenge.cw_tautlines_k66_whole_closed_cords_holds

