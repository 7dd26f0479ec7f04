import PyProof.Rows.All
import Wide.All
import OpenK.AllK
import Wide.FinOn
import HandS.ForMost
import HandS.ForExc
import HandS.Wide
import HandS.Walk
import HandS.Zip
import HandS.ExcCtx
import HandS.HotCalls
import KE.KeyNested
import HandS.Conv
import HandS.IsInst
import HandS.SortInts
import HandS.ExcOwn
import HandS.ExcIs
import HandS.TryOnly
import HandS.Dict
import HandS.Small
import HandS.WordsDict
import HandS.Rev
import PyProof.ListNew
import HandS.Style
import HandS.Text
import HandS.Iter
import PyProof.StrBlock2
import PyProof.WalksS
import PyProof.WalkInts
import HandS.SortKw
import HandS.SortOrd
import HandS.SortRule
import PyProof.Rows.SortKeyStr
import PyProof.Rows.SortStr
import HandS.Hot
import HandS.More
import HandS.RevRange
import HandS.Deep
import HandS.TupSets
import HandS.SetFor
import HandS.EndBits
import PyProof.ReprRoads
import HandS.FStr
import KE.GoesRaise
import KE.KDictKeyed
import KE.KDictDisplayH
import HandS.TupLen
import HandS.SetKeys
import KE.LtSeq
import PySem.Challenge.RW_foreverrows_k27_sets_read_one_way
set_option Elab.async false
set_option linter.all false
set_option maxRecDepth 100000
set_option maxHeartbeats 4000000
set_option exponentiation.threshold 2000
namespace Zx
open PySem PySem.Spec L2
def isMk : PyData → Bool
  | .none => true
  | _ => false
def lkq : List (PyData × PyData) → Bool
  | [] => false
  | p :: _ => isMk p.1
def lkd (ps : List (PyData × PyData)) : PyData := .dict ((.none, .none) :: ps)
def DkAt (F : Hp) (a : Addr) (b : Bool) (ps : List (Key × V)) : Prop := match b with
  | true => ∃ od, F a = some (.frz od (.dK ps))
  | false => F a = some (.dK ps)
theorem DkAt.mono {F F' : Hp} (s : Same F F') {a : Addr} {b : Bool} {ps : List (Key × V)} (h : DkAt F a b ps) : DkAt F' a b ps := by
  cases b with
  | true => obtain ⟨od, h⟩ := h; exact ⟨od, s _ _ h⟩
  | false => exact s _ _ h
theorem DkAt.rd {F : Hp} {a : Addr} {b : Bool} {ps : List (Key × V)} (h : DkAt F a b ps) : Rd F a (.dK ps) := by
  cases b with
  | true => exact .inr h
  | false => exact .inl h
mutual
/-- v stands for the datum in F -/
def Rp (K : PySem.W.Frag) (F : Hp) (v : V) : PyData → Prop
  | .none => v = .non
  | .bool b => v = .bl b
  | .int i => v = .int i
  | .str x => v = .str x
  | .list ds => ∃ a xs, v = .ref a ∧ F a = some (.lst xs) ∧ RpL K F xs ds
  | .tuple ds => ∃ a xs, v = .ref a ∧ SqT K F a xs ∧ RpL K F xs ds
  | .dict kvs => ∃ a ps, v = .ref a ∧ DkAt F a (lkq kvs) ps ∧ RpK K F ps kvs
def RpL (K : PySem.W.Frag) (F : Hp) (vs : List V) : List PyData → Prop
  | [] => vs = []
  | d :: ds => ∃ x r, vs = x :: r ∧ Rp K F x d ∧ RpL K F r ds
def RpK (K : PySem.W.Frag) (F : Hp) (ps : List (Key × V)) : List (PyData × PyData) → Prop
  | [] => ps = []
  | (k, d) :: kvs => match isMk k with
    | true => RpK K F ps kvs
    | false => ∃ p r, ps = p :: r ∧ Rp K F (kV p.1) k ∧ Rp K F p.2 d ∧ RpK K F r kvs
end

theorem sqT_mono {K : PySem.W.Frag} {H H' : Hp} {a : Addr} {xs : List V} (e : ∀ o, H a = some o → H' a = some o) (h : SqT K H a xs) : SqT K H' a xs := by
  rcases h with (h | ⟨o, h⟩) | h
  · exact .inl (.inl (e _ h))
  · exact .inl (.inr ⟨o, e _ h⟩)
  · exact .inr h
theorem sqL_mono {K : PySem.W.Frag} {H H' : Hp} {a : Addr} {xs : List V} (e : ∀ o, H a = some o → H' a = some o) (h : SqL K H a xs) : SqL K H' a xs := by
  rcases h with (h | ⟨o, h⟩) | h
  · exact .inl (.inl (e _ h))
  · exact .inl (.inr ⟨o, e _ h⟩)
  · exact .inr h
mutual
theorem Rp.mono {K : PySem.W.Frag} {F F' : Hp} (s : Same F F') : ∀ (d : PyData) (v : V), Rp K F v d → Rp K F' v d
  | .none, v, h => by unfold Rp at h ⊢; exact h
  | .bool b, v, h => by unfold Rp at h ⊢; exact h
  | .int i, v, h => by unfold Rp at h ⊢; exact h
  | .str x, v, h => by unfold Rp at h ⊢; exact h
  | .list ds, v, h => by
    unfold Rp at h ⊢
    obtain ⟨a, xs, e, q, r⟩ := h
    exact ⟨a, xs, e, s _ _ q, RpL.mono s ds xs r⟩
  | .tuple ds, v, h => by
    unfold Rp at h ⊢
    obtain ⟨a, xs, e, q, r⟩ := h
    exact ⟨a, xs, e, sqT_mono (s a) q, RpL.mono s ds xs r⟩
  | .dict kvs, v, h => by
    unfold Rp at h ⊢
    obtain ⟨a, ps, e, q, r⟩ := h
    exact ⟨a, ps, e, q.mono s, RpK.mono s kvs ps r⟩
theorem RpL.mono {K : PySem.W.Frag} {F F' : Hp} (s : Same F F') : ∀ (ds : List PyData) (vs : List V), RpL K F vs ds → RpL K F' vs ds
  | [], vs, h => by unfold RpL at h ⊢; exact h
  | d :: ds, vs, h => by
    unfold RpL at h ⊢
    obtain ⟨x, r, e, h1, h2⟩ := h
    exact ⟨x, r, e, Rp.mono s d x h1, RpL.mono s ds r h2⟩
theorem RpK.mono {K : PySem.W.Frag} {F F' : Hp} (s : Same F F') : ∀ (ds : List (PyData × PyData)) (vs : List (Key × V)), RpK K F vs ds → RpK K F' vs ds
  | [], vs, h => by unfold RpK at h ⊢; exact h
  | (k, d) :: ds, vs, h => by
    unfold RpK at h ⊢
    cases c : isMk k with
    | true => rw [c] at h; exact RpK.mono s ds vs h
    | false =>
      rw [c] at h
      obtain ⟨x, r, e, h1, h2, h3⟩ := h
      exact ⟨x, r, e, Rp.mono s k _ h1, Rp.mono s d _ h2, RpK.mono s ds r h3⟩
end

mutual
/-- no dict within -/
def nod : PyData → Bool
  | .list ds => nodL ds
  | .tuple ds => nodL ds
  | .dict _ => false
  | _ => true
def nodL : List PyData → Bool
  | [] => true
  | d :: ds => nod d && nodL ds
end
mutual
theorem Rp.dp {K : PySem.W.Frag} {F : Hp} : ∀ (d : PyData) (v : V), nod d = true → Rp K F v d → Dp K F v d
  | .none, v, _, h => by unfold Rp at h; subst h; exact .non
  | .bool b, v, _, h => by unfold Rp at h; subst h; exact .bl b
  | .int i, v, _, h => by unfold Rp at h; subst h; exact .int i
  | .str x, v, _, h => by unfold Rp at h; subst h; exact .str x
  | .list ds, v, n, h => by
    unfold Rp at h
    obtain ⟨a, xs, rfl, q, r⟩ := h
    exact .lst (.of q) (RpL.dp ds xs (by unfold nod at n; exact n) r)
  | .tuple ds, v, n, h => by
    unfold Rp at h
    obtain ⟨a, xs, rfl, q, r⟩ := h
    exact .tup q (RpL.dp ds xs (by unfold nod at n; exact n) r)
  | .dict kvs, v, n, h => by unfold nod at n; cases n
theorem RpL.dp {K : PySem.W.Frag} {F : Hp} : ∀ (ds : List PyData) (vs : List V), nodL ds = true → RpL K F vs ds → DpAll K F vs ds
  | [], vs, _, h => by unfold RpL at h; subst h; exact .nil
  | d :: ds, vs, n, h => by
    unfold RpL at h
    obtain ⟨x, r, rfl, h1, h2⟩ := h
    unfold nodL at n
    have n2 := (Bool.and_eq_true _ _).mp n
    exact .cons (Rp.dp d x n2.1 h1) (RpL.dp ds r n2.2 h2)
end

theorem RpL.length {K : PySem.W.Frag} {F : Hp} : ∀ {ds : List PyData} {vs : List V}, RpL K F vs ds → vs.length = ds.length
  | [], vs, h => by unfold RpL at h; subst h; rfl
  | d :: ds, vs, h => by
    unfold RpL at h
    obtain ⟨x, r, rfl, _, h2⟩ := h
    rw [List.length_cons, List.length_cons, RpL.length h2]
theorem RpL.get {K : PySem.W.Frag} {F : Hp} : ∀ {ds : List PyData} {vs : List V} {i : Nat} {d : PyData}, RpL K F vs ds → ds[i]? = some d → ∃ v, vs[i]? = some v ∧ Rp K F v d
  | [], vs, i, d, _, e => by simp at e
  | d :: ds, vs, 0, d', h, e => by
    unfold RpL at h
    obtain ⟨x, r, rfl, h1, h2⟩ := h
    simp at e
    subst e
    exact ⟨x, rfl, h1⟩
  | d :: ds, vs, i + 1, d', h, e => by
    unfold RpL at h
    obtain ⟨x, r, rfl, h1, h2⟩ := h
    have e' : ds[i]? = some d' := by simpa using e
    obtain ⟨v, ev, hv⟩ := RpL.get h2 e'
    exact ⟨v, by simpa using ev, hv⟩
/-- un: nothing is known; d: frozen data; vw: data that stand still while the def runs; r: the n-th owned object -/
inductive SV where
  | un | d (x : PyData) | vw (x : PyData) | r (n : Nat) | sc (x : List Int) | ex (c : Str)
def RpS (K : PySem.W.Frag) (H : Hp) (v : V) (ns : List Int) : Prop := ∃ a, v = .ref a ∧ SqL K H a (ns.map V.int)
/-- an owned object -/
inductive AO where
  | lst (xs : List SV)
  | dct (kvs : List (Key × SV))
  | tup (xs : List SV)
  | dkt (kvs : List (NestedKey × SV))
abbrev AH := List (Option AO)
def AO.isT : AO → Bool
  | .tup _ => true
  | _ => false
mutual
/-- immutable through and through -/
def imm : PyData → Bool
  | .list _ => false
  | .tuple ds => immL ds
  | .dict _ => false
  | _ => true
def immL : List PyData → Bool
  | [] => true
  | d :: ds => imm d && immL ds
end
def mkv (x : PyData) : SV := if imm x then .d x else .vw x
/-- the entry: what stands still (G), what was frozen (F0); the world now: addresses of the owned, the frozen -/
structure En where
  K : PySem.W.Frag
  G : Hp
  F0 : Hp
  ex : Option Value
  wd : World
structure OkS (en : En) (K : PySem.W.Frag) (e : Option Value) (w : World) : Prop where
  hK : en.K = K
  hE : en.ex = e
  hW : en.wd = w
def En.ok (en : En) (X : Cx) : Prop := OkS en X.K X.A.handled X.w
structure Wd where
  rho : List Addr
  F : Hp
def Wd.le (w w' : Wd) : Prop := w.rho <+: w'.rho ∧ Same w.F w'.F
theorem Wd.le.refl (w : Wd) : w.le w := ⟨List.prefix_refl _, Same.refl _⟩
theorem Wd.le.trans {a b c : Wd} (h : a.le b) (k : b.le c) : a.le c := ⟨h.1.trans k.1, h.2.trans k.2⟩
def RS (en : En) (w : Wd) (v : V) : SV → Prop
  | .un => True
  | .d x => Rp en.K w.F v x
  | .vw x => Rp en.K en.G v x
  | .r n => ∃ a, w.rho[n]? = some a ∧ v = .ref a
  | .sc ns => RpS en.K en.G v ns
  | .ex _ => ∃ a, v = .ref a ∧ en.ex = some (.ref a)
def RSL (en : En) (w : Wd) (vs : List V) : List SV → Prop
  | [] => vs = []
  | s :: ss => ∃ x r, vs = x :: r ∧ RS en w x s ∧ RSL en w r ss
theorem prefix_get {α : Type} {a b : List α} (h : a <+: b) {n : Nat} {x : α} (e : a[n]? = some x) : b[n]? = some x := by
  obtain ⟨t, rfl⟩ := h
  rw [List.getElem?_append_left (List.getElem?_eq_some_iff.mp e).1]
  exact e
theorem RS.mono {en : En} {w w' : Wd} (h : w.le w') {v : V} : ∀ {s : SV}, RS en w v s → RS en w' v s
  | .un, _ => trivial
  | .d x, q => Rp.mono h.2 x v q
  | .vw x, q => q
  | .r n, ⟨a, e, z⟩ => ⟨a, prefix_get h.1 e, z⟩
  | .sc _, q => q
  | .ex _, q => q
theorem RSL.mono {en : En} {w w' : Wd} (h : w.le w') : ∀ {ss : List SV} {vs : List V}, RSL en w vs ss → RSL en w' vs ss
  | [], _, q => q
  | s :: ss, vs, ⟨x, r, e, a, b⟩ => ⟨x, r, e, RS.mono h a, RSL.mono h b⟩
theorem RSL.length {en : En} {w : Wd} : ∀ {ss : List SV} {vs : List V}, RSL en w vs ss → vs.length = ss.length
  | [], vs, h => by cases h; rfl
  | s :: ss, vs, ⟨x, r, e, a, b⟩ => by rw [e, List.length_cons, List.length_cons, RSL.length b]
theorem RSL.get {en : En} {w : Wd} : ∀ {ss : List SV} {vs : List V} {i : Nat} {s : SV}, RSL en w vs ss → ss[i]? = some s → ∃ v, vs[i]? = some v ∧ RS en w v s
  | [], vs, i, s, _, e => by simp at e
  | s :: ss, vs, 0, s', ⟨x, r, e, a, b⟩, q => by
    simp at q
    subst q
    exact ⟨x, by rw [e]; rfl, a⟩
  | s :: ss, vs, i + 1, s', ⟨x, r, e, a, b⟩, q => by
    have q' : ss[i]? = some s' := by simpa using q
    obtain ⟨v, ev, hv⟩ := RSL.get b q'
    exact ⟨v, by rw [e]; simpa using ev, hv⟩
theorem RSL.app {en : En} {w : Wd} : ∀ {ss ts : List SV} {vs us : List V}, RSL en w vs ss → RSL en w us ts → RSL en w (vs ++ us) (ss ++ ts)
  | [], ts, vs, us, h, k => by cases h; exact k
  | s :: ss, ts, vs, us, ⟨x, r, e, a, b⟩, k => ⟨x, r ++ us, by rw [e]; rfl, a, RSL.app b k⟩
theorem RSL.set {en : En} {w : Wd} {v : V} {s : SV} (q : RS en w v s) : ∀ {ss : List SV} {vs : List V} (i : Nat), RSL en w vs ss → RSL en w (vs.set i v) (ss.set i s)
  | [], vs, i, h => by cases h; cases i <;> exact rfl
  | t :: ss, vs, 0, ⟨x, r, e, a, b⟩ => by subst e; exact ⟨v, r, rfl, q, b⟩
  | t :: ss, vs, i + 1, ⟨x, r, e, a, b⟩ => by subst e; exact ⟨x, r.set i v, rfl, a, RSL.set q i b⟩
theorem RSL.ofRp {en : En} {w : Wd} : ∀ {ds : List PyData} {vs : List V}, RpL en.K w.F vs ds → RSL en w vs (ds.map SV.d)
  | [], vs, h => by unfold RpL at h; exact h
  | d :: ds, vs, h => by
    unfold RpL at h
    obtain ⟨x, r, e, h1, h2⟩ := h
    exact ⟨x, r, e, h1, RSL.ofRp h2⟩
def TupIn (H F : Hp) : Prop := (∀ a xs, H a = some (.tup xs) → F a = some (.tup xs)) ∧ ∀ a o u, H a = some (.frz o u) → F a = some (.frz o u)
mutual
theorem Rp.immF {K : PySem.W.Frag} {G H F : Hp} (s : Same G H) (t : TupIn H F) : ∀ (d : PyData) (v : V), imm d = true → Rp K G v d → Rp K F v d
  | .none, v, _, h => by unfold Rp at h ⊢; exact h
  | .bool b, v, _, h => by unfold Rp at h ⊢; exact h
  | .int i, v, _, h => by unfold Rp at h ⊢; exact h
  | .str x, v, _, h => by unfold Rp at h ⊢; exact h
  | .list ds, v, n, h => by unfold imm at n; cases n
  | .tuple ds, v, n, h => by
    unfold Rp at h ⊢
    obtain ⟨a, xs, rfl, q, r⟩ := h
    refine ⟨a, xs, rfl, ?_, RpL.immF s t ds xs (by unfold imm at n; exact n) r⟩
    rcases q with (q | ⟨o, q⟩) | q
    · exact .inl (.inl (t.1 _ _ (s _ _ q)))
    · exact .inl (.inr ⟨o, t.2 _ _ _ (s _ _ q)⟩)
    · exact .inr q
  | .dict kvs, v, n, h => by unfold imm at n; cases n
theorem RpL.immF {K : PySem.W.Frag} {G H F : Hp} (s : Same G H) (t : TupIn H F) : ∀ (ds : List PyData) (vs : List V), immL ds = true → RpL K G vs ds → RpL K F vs ds
  | [], vs, _, h => by unfold RpL at h ⊢; exact h
  | d :: ds, vs, n, h => by
    unfold RpL at h ⊢
    obtain ⟨x, r, e, h1, h2⟩ := h
    unfold immL at n
    have n2 := (Bool.and_eq_true _ _).mp n
    exact ⟨x, r, e, Rp.immF s t d x n2.1 h1, RpL.immF s t ds r n2.2 h2⟩
end

def NDx (wd : World) (a : Addr) (rows : List (NestedKey × Addr × V)) (h : Heap) : Prop := rows.length ≤ sizeLine ∧ (a == sysModules) = false ∧
  ∃ xs : List (NestedKey × Addr × Value), Paired (fun (p : NestedKey × Addr × V) (q : NestedKey × Addr × Value) => p.1 = q.1 ∧ p.2.1 = q.2.1 ∧ RelV p.2.2 q.2.2) rows xs ∧
    ∃ o es ep, h.get? a = some o ∧ o.ExactDict ∧ o.data = .dict es ep ∧ es.toList = xs.map (fun x => (⟨x.1.hash wd, .ref x.2.1, x.2.2⟩ : DictEntry)) ∧ (xs.map (·.1)).Nodup
def AOk (en : En) (w : Wd) (H : Hp) (a : Addr) : AO → Prop
  | .tup xs => ∃ vs, H a = some (.tup vs) ∧ RSL en w vs xs
  | .lst xs => ∃ vs, H a = some (.lst vs) ∧ RSL en w vs xs
  | .dct kvs => ∃ kws : List (Key × V), H a = some (.dK kws) ∧ kws.map Prod.fst = kvs.map Prod.fst ∧ RSL en w (kws.map Prod.snd) (kvs.map Prod.snd)
  | .dkt kvs => ∃ rows : List (NestedKey × Addr × V), H a = some (.ext (NDx en.wd a rows)) ∧ rows.map Prod.fst = kvs.map Prod.fst ∧ (∀ r ∈ rows, r.1.depth ≤ 8 ∧ Rp en.K w.F (.ref r.2.1) r.1.data) ∧ RSL en w (rows.map fun r => r.2.2) (kvs.map Prod.snd)
structure SimH (en : En) (w : Wd) (H : Hp) (h : AH) : Prop where
  gh : Same en.G H
  fh : Same w.F H
  f0 : Same en.F0 w.F
  nw : ∀ a o, w.F a = some o → en.F0 a = some o ∨ en.G a = none
  ti : TupIn H w.F
  len : w.rho.length = h.length
  live : ∀ (n : Nat) (o : AO), h[n]? = some (some o) → ∃ a, w.rho[n]? = some a ∧ AOk en w H a o ∧ (o.isT = false → w.F a = none) ∧ en.G a = none
  sep : ∀ (n m : Nat) (a : Addr) (o1 o2 : AO), h[n]? = some (some o1) → h[m]? = some (some o2) → w.rho[n]? = some a → w.rho[m]? = some a → n = m
def Slt (en : En) (w : Wd) (σ : St) (sl : List SV) : Prop := sl.length = σ.length ∧ ∀ (i : Nat) (s : SV), sl[i]? = some s → s = .un ∨ ∃ v, σ[i]? = some (some v) ∧ RS en w v s
structure Sim (en : En) (w : Wd) (σ : St) (H : Hp) (sl : List SV) (h : AH) : Prop extends SimH en w H h where
  slots : Slt en w σ sl
theorem Slt.mono {en : En} {w w' : Wd} {σ : St} {sl : List SV} (k : w.le w') (q : Slt en w σ sl) : Slt en w' σ sl :=
  ⟨q.1, fun i s e => (q.2 i s e).imp_right fun ⟨v, ev, r⟩ => ⟨v, ev, RS.mono k r⟩⟩
theorem AOk.mono {en : En} {w w' : Wd} {H H' : Hp} {a : Addr} {o : AO} (k : w.le w') (e : H' a = H a) (q : AOk en w H a o) : AOk en w' H' a o := by
  cases o with
  | lst xs =>
    obtain ⟨vs, e1, r⟩ := q
    exact ⟨vs, e.trans e1, RSL.mono k r⟩
  | dct kvs =>
    obtain ⟨vs, e1, ek, r⟩ := q
    exact ⟨vs, e.trans e1, ek, RSL.mono k r⟩
  | tup xs =>
    obtain ⟨vs, e1, r⟩ := q
    exact ⟨vs, e.trans e1, RSL.mono k r⟩
  | dkt kvs =>
    obtain ⟨rows, e1, ek, rk, r⟩ := q
    exact ⟨rows, e.trans e1, ek, fun z hz => ⟨(rk z hz).1, Rp.mono k.2 _ _ (rk z hz).2⟩, RSL.mono k r⟩
theorem AOk.some {en : En} {w : Wd} {H : Hp} {a : Addr} {o : AO} (q : AOk en w H a o) : ∃ u, H a = some u ∧ (o.isT = false → ∀ xs, u ≠ .tup xs) ∧ ∀ ob u', u ≠ .frz ob u' := by
  cases o with
  | lst xs =>
    obtain ⟨vs, e1, r⟩ := q
    exact ⟨_, e1, (fun _ _ z => by cases z), (fun _ _ z => by cases z)⟩
  | dct kvs =>
    obtain ⟨vs, e1, ek, r⟩ := q
    exact ⟨_, e1, (fun _ _ z => by cases z), (fun _ _ z => by cases z)⟩
  | tup xs =>
    obtain ⟨vs, e1, r⟩ := q
    exact ⟨_, e1, (fun z => by cases z), (fun _ _ z => by cases z)⟩
  | dkt kvs =>
    obtain ⟨rows, e1, ek, rk, r⟩ := q
    exact ⟨_, e1, (fun _ _ z => by cases z), (fun _ _ z => by cases z)⟩
section
variable {en : En} {w w' : Wd} {σ : St} {H : Hp} {sl : List SV} {h : AH}
theorem SimH.G_none (S : SimH en w H h) {p : Addr} (n : H p = none) : en.G p = none := S.gh.free n
theorem SimH.F_none (S : SimH en w H h) {p : Addr} (n : H p = none) : w.F p = none := S.fh.free n
def Wd.fz (w : Wd) (p : Addr) (o : HO) : Wd := ⟨w.rho, upd w.F p o⟩
theorem le_fz {p : Addr} {o : HO} (n : w.F p = none) : w.le (w.fz p o) := ⟨List.prefix_refl _, fun b u e => by
  show upd w.F p o b = some u
  rw [upd_ne (ne_of_none e n)]; exact e⟩
theorem SimH.newF (S : SimH en w H h) {p : Addr} {o : HO} (n : H p = none) (hf : ∀ ob u, o ≠ .frz ob u) : SimH en (w.fz p o) (upd H p o) h where
  gh := fun b u e => by rw [upd_ne (ne_of_none e (S.G_none n))]; exact S.gh b u e
  fh := fun b u e => by
    have e : upd w.F p o b = some u := e
    by_cases hb : b = p
    · subst hb; rw [upd_same] at e ⊢; exact e
    · rw [upd_ne hb] at e ⊢; exact S.fh b u e
  f0 := S.f0.trans (le_fz (S.F_none n)).2
  nw := fun b u e => by
    have e : upd w.F p o b = some u := e
    by_cases hb : b = p
    · subst hb; exact .inr (S.G_none n)
    · rw [upd_ne hb] at e; exact S.nw b u e
  ti := ⟨fun b xs e => by
      show upd w.F p o b = _
      by_cases hb : b = p
      · subst hb; rw [upd_same] at e ⊢; exact e
      · rw [upd_ne hb] at e ⊢; exact S.ti.1 b xs e, fun b ob u e => by
      show upd w.F p o b = _
      by_cases hb : b = p
      · subst hb; rw [upd_same] at e ⊢; exact e
      · rw [upd_ne hb] at e ⊢; exact S.ti.2 b ob u e⟩
  len := S.len
  live := fun m ob e => by
    obtain ⟨a, e1, q, f, g⟩ := S.live m ob e
    obtain ⟨u, eu, _, _⟩ := q.some
    have ne : a ≠ p := ne_of_none eu n
    exact ⟨a, e1, q.mono (le_fz (S.F_none n)) (upd_ne ne), fun t => by show upd w.F p o a = none; rw [upd_ne ne]; exact f t, g⟩
  sep := S.sep
theorem Sim.newF (S : Sim en w σ H sl h) {p : Addr} {o : HO} (n : H p = none) (hf : ∀ ob u, o ≠ .frz ob u) : Sim en (w.fz p o) σ (upd H p o) sl h :=
  ⟨S.toSimH.newF n hf, S.slots.mono (le_fz (S.F_none n))⟩
def Wd.ow (w : Wd) (p : Addr) : Wd := ⟨w.rho ++ [p], w.F⟩
theorem le_ow {p : Addr} : w.le (w.ow p) := ⟨List.prefix_append _ _, Same.refl _⟩
theorem SimH.newAO (S : SimH en w H h) {p : Addr} {hu : HO} {ao : AO} (n : H p = none) (nt : ∀ xs, hu ≠ .tup xs) (nf : ∀ ob u, hu ≠ .frz ob u) (r : ∀ H2 : Hp, H2 p = some hu → AOk en w H2 p ao) : SimH en (w.ow p) (upd H p hu) (h ++ [some ao]) where
  gh := fun b u e => by rw [upd_ne (ne_of_none e (S.G_none n))]; exact S.gh b u e
  fh := fun b u e => by
    have e : w.F b = some u := e
    rw [upd_ne (ne_of_none e (S.F_none n))]; exact S.fh b u e
  f0 := S.f0
  nw := S.nw
  ti := ⟨fun b ys e => by
      by_cases hb : b = p
      · subst hb; rw [upd_same] at e; exact absurd (Option.some.inj e) (nt ys)
      · rw [upd_ne hb] at e; exact S.ti.1 b ys e, fun b ob u e => by
      by_cases hb : b = p
      · subst hb; rw [upd_same] at e; exact absurd (Option.some.inj e) (nf ob u)
      · rw [upd_ne hb] at e; exact S.ti.2 b ob u e⟩
  len := by show (w.rho ++ [p]).length = _; rw [List.length_append, List.length_append, S.len]; rfl
  live := fun m ob e => by
    by_cases hm : m < h.length
    · rw [List.getElem?_append_left hm] at e
      obtain ⟨a, e1, q, f, g⟩ := S.live m ob e
      obtain ⟨u, eu, _, _⟩ := q.some
      have ne : a ≠ p := ne_of_none eu n
      exact ⟨a, prefix_get le_ow.1 e1, q.mono le_ow (upd_ne ne), f, g⟩
    · rw [List.getElem?_append_right (by omega)] at e
      have hm0 : m - h.length = 0 := by
        cases k : m - h.length with
        | zero => rfl
        | succ j => rw [k] at e; simp at e
      have em : m = h.length := by omega
      subst em
      rw [hm0] at e
      simp at e
      subst e
      refine ⟨p, ?_, (r _ upd_same).mono le_ow rfl, fun _ => S.F_none n, S.G_none n⟩
      show (w.rho ++ [p])[h.length]? = some p
      rw [← S.len, List.getElem?_append_right (Nat.le_refl _)]
      simp
  sep := fun i j a o1 o2 e1 e2 a1 a2 => by
    have old : ∀ m o, m < h.length → (h ++ [some ao])[m]? = some (some o) → (w.rho ++ [p])[m]? = some a → a ≠ p := fun m o hm e k => by
      rw [List.getElem?_append_left hm] at e
      obtain ⟨b, e3, q, _, _⟩ := S.live m o e
      obtain ⟨u, eu, _, _⟩ := q.some
      have : b = a := by
        rw [List.getElem?_append_left (by rw [S.len]; exact hm), e3] at k
        exact Option.some.inj k
      rw [← this]
      exact ne_of_none eu n
    have lt : ∀ m o, (h ++ [some ao])[m]? = some (some o) → m < h.length ∨ m = h.length := fun m o e => by
      have := (List.getElem?_eq_some_iff.mp e).1
      rw [List.length_append] at this
      simp at this
      omega
    have new : (w.rho ++ [p])[h.length]? = some p := by
      rw [← S.len, List.getElem?_append_right (Nat.le_refl _)]
      simp
    rcases lt i _ e1 with hi | hi <;> rcases lt j _ e2 with hj | hj
    · rw [List.getElem?_append_left hi] at e1
      rw [List.getElem?_append_left hj] at e2
      refine S.sep i j a o1 o2 e1 e2 ?_ ?_
      · have a1 : (w.rho ++ [p])[i]? = some a := a1
        rw [List.getElem?_append_left (by rw [S.len]; exact hi)] at a1; exact a1
      · have a2 : (w.rho ++ [p])[j]? = some a := a2
        rw [List.getElem?_append_left (by rw [S.len]; exact hj)] at a2; exact a2
    · have ne := old i o1 hi e1 a1
      rw [hj] at a2
      exact absurd (Option.some.inj (a2.symm.trans new)) ne
    · have ne := old j o2 hj e2 a2
      rw [hi] at a1
      exact absurd (Option.some.inj (a1.symm.trans new)) ne
    · omega
theorem SimH.newT (S : SimH en w H h) {p : Addr} {vs : List V} {xs : List SV} (n : H p = none) (r : RSL en w vs xs) : SimH en ((w.fz p (.tup vs)).ow p) (upd H p (.tup vs)) (h ++ [some (.tup xs)]) := by
  have S1 := S.newF (o := .tup vs) n (fun _ _ z => by cases z)
  have k1 : w.le (w.fz p (.tup vs)) := le_fz (S.F_none n)
  refine ⟨S1.gh, S1.fh, S1.f0, S1.nw, S1.ti, ?_, fun m ob e => ?_, fun i j a o1 o2 e1 e2 a1 a2 => ?_⟩
  · show (w.rho ++ [p]).length = _
    rw [List.length_append, List.length_append, S.len]; rfl
  · by_cases hm : m < h.length
    · rw [List.getElem?_append_left hm] at e
      obtain ⟨a, e1, q, f, g⟩ := S1.live m ob e
      exact ⟨a, prefix_get le_ow.1 e1, q.mono le_ow rfl, f, g⟩
    · rw [List.getElem?_append_right (by omega)] at e
      have hm0 : m - h.length = 0 := by
        cases k : m - h.length with
        | zero => rfl
        | succ j => rw [k] at e; simp at e
      have em : m = h.length := by omega
      subst em
      rw [hm0] at e
      simp at e
      subst e
      refine ⟨p, ?_, ⟨vs, upd_same, RSL.mono le_ow (RSL.mono k1 r)⟩, (fun z => by cases z), S.G_none n⟩
      show (w.rho ++ [p])[h.length]? = some p
      rw [← S.len, List.getElem?_append_right (Nat.le_refl _)]
      simp
  · have old : ∀ m o, m < h.length → (h ++ [some (AO.tup xs)])[m]? = some (some o) → (w.rho ++ [p])[m]? = some a → a ≠ p := fun m o hm e k => by
      rw [List.getElem?_append_left hm] at e
      obtain ⟨b, e3, q, _, _⟩ := S.live m o e
      obtain ⟨u, eu, _, _⟩ := q.some
      have : b = a := by
        rw [List.getElem?_append_left (by rw [S.len]; exact hm), e3] at k
        exact Option.some.inj k
      rw [← this]
      exact ne_of_none eu n
    have lt : ∀ m o, (h ++ [some (AO.tup xs)])[m]? = some (some o) → m < h.length ∨ m = h.length := fun m o e => by
      have := (List.getElem?_eq_some_iff.mp e).1
      rw [List.length_append] at this
      simp at this
      omega
    have new : (w.rho ++ [p])[h.length]? = some p := by
      rw [← S.len, List.getElem?_append_right (Nat.le_refl _)]
      simp
    rcases lt i _ e1 with hi | hi <;> rcases lt j _ e2 with hj | hj
    · rw [List.getElem?_append_left hi] at e1
      rw [List.getElem?_append_left hj] at e2
      refine S.sep i j a o1 o2 e1 e2 ?_ ?_
      · have a1 : (w.rho ++ [p])[i]? = some a := a1
        rw [List.getElem?_append_left (by rw [S.len]; exact hi)] at a1; exact a1
      · have a2 : (w.rho ++ [p])[j]? = some a := a2
        rw [List.getElem?_append_left (by rw [S.len]; exact hj)] at a2; exact a2
    · have ne := old i o1 hi e1 a1
      rw [hj] at a2
      exact absurd (Option.some.inj (a2.symm.trans new)) ne
    · have ne := old j o2 hj e2 a2
      rw [hi] at a1
      exact absurd (Option.some.inj (a1.symm.trans new)) ne
    · omega
theorem Sim.newT (S : Sim en w σ H sl h) {p : Addr} {vs : List V} {xs : List SV} (n : H p = none) (r : RSL en w vs xs) : Sim en ((w.fz p (.tup vs)).ow p) σ (upd H p (.tup vs)) sl (h ++ [some (.tup xs)]) :=
  ⟨S.toSimH.newT n r, S.slots.mono ((le_fz (S.toSimH.F_none n)).trans le_ow)⟩
theorem SimH.newO (S : SimH en w H h) {p : Addr} {vs : List V} {xs : List SV} (n : H p = none) (r : RSL en w vs xs) : SimH en (w.ow p) (upd H p (.lst vs)) (h ++ [some (.lst xs)]) :=
  S.newAO n (fun _ z => by cases z) (fun _ _ z => by cases z) fun _ e => ⟨vs, e, r⟩
theorem Sim.newO (S : Sim en w σ H sl h) {p : Addr} {vs : List V} {xs : List SV} (n : H p = none) (r : RSL en w vs xs) : Sim en (w.ow p) σ (upd H p (.lst vs)) sl (h ++ [some (.lst xs)]) :=
  ⟨S.toSimH.newO n r, S.slots.mono le_ow⟩
theorem SimH.rs_new (S : SimH en w H h) {p : Addr} : RS en (w.ow p) (.ref p) (.r h.length) := ⟨p, by
  show (w.rho ++ [p])[h.length]? = some p
  rw [← S.len, List.getElem?_append_right (Nat.le_refl _)]
  simp, rfl⟩
theorem SimH.writeAO (S : SimH en w H h) {n : Nat} {a : Addr} {o : AO} {hu : HO} {ao : AO} (e : h[n]? = some (some o)) (ha : w.rho[n]? = some a) (mt : ∀ xs, hu ≠ .tup xs) (mf : ∀ ob u, hu ≠ .frz ob u) (r : ∀ H2 : Hp, H2 a = some hu → AOk en w H2 a ao) (ot : o.isT = false := by rfl) : SimH en w (upd H a hu) (h.set n (some ao)) := by
  obtain ⟨a', e1, q, f, g⟩ := S.live n o e
  have ea : a' = a := Option.some.inj (e1.symm.trans ha)
  subst ea
  have f := f ot
  obtain ⟨u, eu, nt, nf⟩ := q.some
  have hn : n < h.length := (List.getElem?_eq_some_iff.mp e).1
  refine ⟨fun b u' z => ?_, fun b u' z => ?_, S.f0, S.nw, ⟨fun b ys z => ?_, fun b ob u' z => ?_⟩, by rw [List.length_set]; exact S.len, fun m ob z => ?_, fun i j b o1 o2 z1 z2 b1 b2 => ?_⟩
  · have ne : b ≠ a' := fun k => by rw [k, g] at z; cases z
    rw [upd_ne ne]; exact S.gh b u' z
  · have ne : b ≠ a' := fun k => by rw [k, f] at z; cases z
    rw [upd_ne ne]; exact S.fh b u' z
  · by_cases hb : b = a'
    · subst hb; rw [upd_same] at z; exact absurd (Option.some.inj z) (mt ys)
    · rw [upd_ne hb] at z; exact S.ti.1 b ys z
  · by_cases hb : b = a'
    · subst hb; rw [upd_same] at z; exact absurd (Option.some.inj z) (mf ob u')
    · rw [upd_ne hb] at z; exact S.ti.2 b ob u' z
  · by_cases hm : m = n
    · subst hm
      rw [List.getElem?_set_self hn] at z
      cases z
      exact ⟨a', ha, r _ upd_same, fun _ => f, g⟩
    · rw [List.getElem?_set_ne (Ne.symm hm)] at z
      obtain ⟨b, e2, q2, f2, g2⟩ := S.live m ob z
      have ne : b ≠ a' := fun k => by subst k; exact hm (S.sep m n b ob o z e e2 ha)
      exact ⟨b, e2, q2.mono (Wd.le.refl w) (upd_ne ne), f2, g2⟩
  · have get : ∀ m o', (h.set n (some ao))[m]? = some (some o') → ∃ o'', h[m]? = some (some o'') := fun m o' z => by
      by_cases hm : m = n
      · subst hm; exact ⟨o, e⟩
      · rw [List.getElem?_set_ne (Ne.symm hm)] at z; exact ⟨_, z⟩
    obtain ⟨p1, k1⟩ := get i o1 z1
    obtain ⟨p2, k2⟩ := get j o2 z2
    exact S.sep i j b p1 p2 k1 k2 b1 b2
theorem SimH.write (S : SimH en w H h) {n : Nat} {a : Addr} {o : AO} {vs : List V} {xs : List SV} (e : h[n]? = some (some o)) (ha : w.rho[n]? = some a) (r : RSL en w vs xs) (ot : o.isT = false := by rfl) : SimH en w (upd H a (.lst vs)) (h.set n (some (.lst xs))) :=
  S.writeAO e ha (fun _ z => by cases z) (fun _ _ z => by cases z) (fun _ e => ⟨vs, e, r⟩) ot
theorem Sim.write (S : Sim en w σ H sl h) {n : Nat} {a : Addr} {o : AO} {vs : List V} {xs : List SV} (e : h[n]? = some (some o)) (ha : w.rho[n]? = some a) (r : RSL en w vs xs) (ot : o.isT = false := by rfl) : Sim en w σ (upd H a (.lst vs)) sl (h.set n (some (.lst xs))) :=
  ⟨S.toSimH.write e ha r ot, S.slots⟩
theorem SimH.le_own (S : SimH en w H h) {n : Nat} {a : Addr} {o : AO} {hu : HO} (e : h[n]? = some (some o)) (ha : w.rho[n]? = some a) (hv : H a = some hu) : w.le (w.fz a hu) := by
  obtain ⟨a', e1, q, f, g⟩ := S.live n o e
  have ea : a' = a := Option.some.inj (e1.symm.trans ha)
  subst ea
  cases o with
  | tup xs =>
    obtain ⟨vs, hv2, _⟩ := q
    have hu2 : HO.tup vs = hu := Option.some.inj (hv2.symm.trans hv)
    subst hu2
    have hF := S.ti.1 a' vs hv2
    refine ⟨List.prefix_refl _, fun b u z => ?_⟩
    show upd w.F a' (.tup vs) b = some u
    by_cases hb : b = a'
    · subst hb
      rw [upd_same, ← hF]; exact z
    · rw [upd_ne hb]; exact z
  | lst xs => exact le_fz (f rfl)
  | dct kvs => exact le_fz (f rfl)
  | dkt kvs => exact le_fz (f rfl)
theorem SimH.freeze (S : SimH en w H h) {n : Nat} {a : Addr} {o : AO} {hu : HO} (e : h[n]? = some (some o)) (ha : w.rho[n]? = some a) (hv : H a = some hu) : SimH en (w.fz a hu) H (h.set n none) := by
  obtain ⟨a', e1, q, f, g⟩ := S.live n o e
  have ea : a' = a := Option.some.inj (e1.symm.trans ha)
  subst ea
  have kk : w.le (w.fz a' hu) := S.le_own e ha hv
  refine ⟨S.gh, fun b u z => ?_, S.f0.trans kk.2, fun b u z => ?_, ⟨fun b ys z => kk.2 _ _ (S.ti.1 b ys z), fun b ob u z => kk.2 _ _ (S.ti.2 b ob u z)⟩, by rw [List.length_set]; exact S.len, fun m ob z => ?_, fun i j b o1 o2 z1 z2 b1 b2 => ?_⟩
  · have z : upd w.F a' hu b = some u := z
    by_cases hb : b = a'
    · subst hb; rw [upd_same] at z; rw [hv]; exact z
    · rw [upd_ne hb] at z; exact S.fh b u z
  · have z : upd w.F a' hu b = some u := z
    by_cases hb : b = a'
    · subst hb; exact .inr g
    · rw [upd_ne hb] at z; exact S.nw b u z
  · have hm : m ≠ n := fun k => by
      subst k
      rw [List.getElem?_set_self (List.getElem?_eq_some_iff.mp e).1] at z
      cases z
    rw [List.getElem?_set_ne (Ne.symm hm)] at z
    obtain ⟨b, e2, q2, f2, g2⟩ := S.live m ob z
    have ne : b ≠ a' := fun k => by subst k; exact hm (S.sep m n b ob o z e e2 ha)
    exact ⟨b, e2, q2.mono kk rfl, fun t => by show upd w.F a' hu b = none; rw [upd_ne ne]; exact f2 t, g2⟩
  · have get : ∀ m o', (h.set n none)[m]? = some (some o') → h[m]? = some (some o') := fun m o' z => by
      by_cases hm : m = n
      · subst hm
        rw [List.getElem?_set_self (List.getElem?_eq_some_iff.mp e).1] at z
        cases z
      · rw [List.getElem?_set_ne (Ne.symm hm)] at z; exact z
    exact S.sep i j b o1 o2 (get i o1 z1) (get j o2 z2) b1 b2
theorem Sim.freeze (S : Sim en w σ H sl h) {n : Nat} {a : Addr} {o : AO} {hu : HO} (e : h[n]? = some (some o)) (ha : w.rho[n]? = some a) (hv : H a = some hu) : Sim en (w.fz a hu) σ H sl (h.set n none) :=
  ⟨S.toSimH.freeze e ha hv, S.slots.mono (S.toSimH.le_own e ha hv)⟩
end
def kD : Key → PyData
  | .inl i => .int i
  | .inr x => .str x
theorem kD_mk (k : Key) : isMk (kD k) = false := by cases k <;> rfl
theorem kD_ok {K : PySem.W.Frag} {F : Hp} (k : Key) : Rp K F (kV k) (kD k) := by
  cases k <;> (unfold kD Rp; rfl)
def zipD (ks : List Key) (ds : List PyData) : List (PyData × PyData) := (ks.map kD).zip ds
theorem zipD_ok {K : PySem.W.Frag} {F : Hp} : ∀ {kws : List (Key × V)} {ds : List PyData}, RpL K F (kws.map Prod.snd) ds → RpK K F kws (zipD (kws.map Prod.fst) ds)
  | [], ds, r => by unfold zipD; rw [List.map_nil, List.map_nil, List.zip_nil_left]; unfold RpK; rfl
  | p :: q, [], r => by rw [List.map_cons] at r; unfold RpL at r; cases r
  | p :: q, d :: ds, r => by
    rw [List.map_cons] at r
    unfold RpL at r
    obtain ⟨x, y, e, h1, h2⟩ := r
    have e1 := (List.cons.inj e).1
    have e2 := (List.cons.inj e).2
    show RpK K F (p :: q) ((kD p.1, d) :: zipD (q.map Prod.fst) ds)
    unfold RpK
    rw [kD_mk]
    exact ⟨p, q, rfl, kD_ok p.1, e1 ▸ h1, zipD_ok (e2 ▸ h2)⟩
theorem zipD_mk : ∀ {ks : List Key} {ds : List PyData}, lkq (zipD ks ds) = false
  | [], _ => rfl
  | k :: ks, [] => rfl
  | k :: ks, d :: ds => kD_mk k
def zipN (ks : List NestedKey) (ds : List PyData) : List (PyData × PyData) := (ks.map NestedKey.data).zip ds
def mkN : PyData × PyData := (.bool true, .none)
def tkD (ks : List NestedKey) (ds : List PyData) : PyData := .dict (mkN :: zipN ks ds)
mutual
def rb (h : AH) : Nat → SV → Option PyData
  | _, .un => none
  | _, .d x => some x
  | _, .vw x => some x
  | _, .sc _ => none
  | _, .ex _ => none
  | 0, .r _ => none
  | k + 1, .r n => match h[n]? with
    | some (some (.lst xs)) => (rbL h k xs).map PyData.list
    | some (some (.dct kvs)) => (rbL h k (kvs.map Prod.snd)).map fun ds => PyData.dict (zipD (kvs.map Prod.fst) ds)
    | some (some (.tup xs)) => (rbL h k xs).map PyData.tuple
    | some (some (.dkt kvs)) => if 60 ≤ k then (rbL h k (kvs.map Prod.snd)).map fun ds => tkD (kvs.map Prod.fst) ds else none
    | _ => none
def rbL (h : AH) : Nat → List SV → Option (List PyData)
  | _, [] => some []
  | k, s :: ss => match rb h k s with
    | some d => match rbL h k ss with
      | some ds => some (d :: ds)
      | none => none
    | none => none
end
end Zx
namespace Zx
open PySem PySem.Spec L2
inductive R (α : Type) where
  | ok (a : α) (h : AH) | rz (c : Str) (h : AH) | st
def R.bind {α β : Type} (r : R α) (k : α → AH → R β) : R β := match r with
  | .ok a h => k a h
  | .rz c h => .rz c h
  | .st => .st
abbrev FE := List SV → AH → R SV
abbrev FA := List SV → AH → R (List SV)
abbrev FT := List SV → AH → R Bool
def clsW (X : Cx) (W : WX) (c : Str) (σ : St) (H : Hp) : Prop := ∀ u, X.mg c = some u → W u none σ H
def Po {α β : Type} (rep : En → Wd → β → α → Prop) (X : Cx) (W : WX) (en : En) (w : Wd) (σ : St) (sl : List SV) (r : R α) (Q : β → Hp → Prop) : Prop := match r with
  | .ok a h' => ∀ b w' H', w.le w' → Sim en w' σ H' sl h' → rep en w' b a → Q b H'
  | .rz c h' => ∀ w' H', w.le w' → Sim en w' σ H' sl h' → clsW X W c σ H'
  | .st => False
def repB : En → Wd → Bool → Bool → Prop := fun _ _ a b => a = b
section
variable {X : Cx} {W : WX} {en : En} {w : Wd} {σ : St} {sl : List SV} {H : Hp} {h : AH}
theorem Po.mono {α β : Type} {rep : En → Wd → β → α → Prop} {r : R α} {Q : β → Hp → Prop} {w' : Wd} (k : w.le w') (P : Po rep X W en w σ sl r Q) : Po rep X W en w' σ sl r Q := by
  cases r with
  | ok a h' => exact fun b w2 H2 l S q => P b w2 H2 (k.trans l) S q
  | rz c h' => exact fun w2 H2 l S => P w2 H2 (k.trans l) S
  | st => exact P
theorem Po.bind {α β α' β' : Type} {rep : En → Wd → β → α → Prop} {rep' : En → Wd → β' → α' → Prop} {r : R α} {k : α → AH → R α'} {Q : β' → Hp → Prop} {Q1 : β → Hp → Prop} (P : Po rep' X W en w σ sl (r.bind k) Q)
    (c : ∀ a h1 b w' H', w.le w' → Sim en w' σ H' sl h1 → rep en w' b a → Po rep' X W en w' σ sl (k a h1) Q → Q1 b H') : Po rep X W en w σ sl r Q1 := by
  cases r with
  | ok a h1 => exact fun b w' H' l S q => c a h1 b w' H' l S q (Po.mono l P)
  | rz cc h1 => exact P
  | st => exact P
theorem Po.imp {α β : Type} {rep : En → Wd → β → α → Prop} {r : R α} {Q Q1 : β → Hp → Prop} (P : Po rep X W en w σ sl r Q) (c : ∀ b H', Q b H' → Q1 b H') : Po rep X W en w σ sl r Q1 := by
  cases r with
  | ok a h1 => exact fun b w' H' l S q => c _ _ (P b w' H' l S q)
  | rz cc h1 => exact P
  | st => exact P
theorem Po.here {a : SV} {v : V} {Q : VK} (P : Po RS X W en w σ sl (.ok a h) Q) (S : Sim en w σ H sl h) (r : RS en w v a) : Q v H := P v w H (Wd.le.refl w) S r
end
def tE (X : Cx) (W : WX) (f : FE) : TE := fun σ H Q => ∃ en w sl h, en.ok X ∧ Sim en w σ H sl h ∧ Po RS X W en w σ sl (f sl h) Q
def tA (X : Cx) (W : WX) (f : FA) : TA := fun σ H Q => ∃ en w sl h, en.ok X ∧ Sim en w σ H sl h ∧ Po RSL X W en w σ sl (f sl h) Q
def tT (X : Cx) (W : WX) (f : FT) : TT := fun σ H Q => ∃ en w sl h, en.ok X ∧ Sim en w σ H sl h ∧ Po repB X W en w σ sl (f sl h) Q
abbrev SE (X : Cx) (W : WX) (e : Expr) (f : FE) : Prop := PE X e (tE X W f)
abbrev SA (X : Cx) (W : WX) (es : List Expr) (f : FA) : Prop := PA X es (tA X W f)
abbrev STt (X : Cx) (W : WX) (e : Expr) (f : FT) : Prop := PT X e (tT X W f)
abbrev SWt (X : Cx) (W : WX) (e : Expr) (f : FT) : Prop := PW X e (tT X W f)
theorem PE.imp {X : Cx} {e : Expr} {t t' : TE} (h : PE X e t) (k : ∀ σ H Q, t' σ H Q → t σ H Q) : PE X e t' := ⟨fun pins s σ H Q I q => h.run pins s σ H Q I (k σ H Q q)⟩
theorem PA.imp {X : Cx} {e : List Expr} {t t' : TA} (h : PA X e t) (k : ∀ σ H Q, t' σ H Q → t σ H Q) : PA X e t' := ⟨fun pos pins s σ H Q I q => h.run pos pins s σ H Q I (k σ H Q q)⟩
theorem PT.imp {X : Cx} {e : Expr} {t t' : TT} (h : PT X e t) (k : ∀ σ H Q, t' σ H Q → t σ H Q) : PT X e t' := ⟨fun pins s σ H Q I q => h.run pins s σ H Q I (k σ H Q q)⟩
theorem PW.imp {X : Cx} {e : Expr} {t t' : TT} (h : PW X e t) (k : ∀ σ H Q, t' σ H Q → t σ H Q) : PW X e t' := ⟨fun wh pins s σ H Q I q => h.run wh pins s σ H Q I (k σ H Q q)⟩
theorem PS.imp {X : Cx} {e : Stmt} {t t' : TS} (h : PS X e t) (k : ∀ D σ H, t' D σ H → t D σ H) : PS X e t' := ⟨fun pins s σ H Q I q => h.run pins s σ H Q I (k Q σ H q)⟩
theorem PSs.imp {X : Cx} {e : List Stmt} {t t' : TS} (h : PSs X e t) (k : ∀ D σ H, t' D σ H → t D σ H) : PSs X e t' := ⟨fun pins s σ H Q I q => h.run pins s σ H Q I (k Q σ H q)⟩
def fVar (i : Nat) : FE := fun sl h => match sl[i]? with
  | none => .st
  | some .un => .st
  | some s => .ok s h
def fC (x : PyData) : FE := fun _ h => .ok (.d x) h
section
variable {X : Cx} {W : WX}
theorem se_var {i : Nat} {x : Str} {pos : Pos} (h : PE X (.Name x pos) (tVar i)) : SE X W (.Name x pos) (fVar i) := PE.imp h (by
  rintro σ H Q ⟨en, w, sl, h, eK, S, P⟩
  cases e : sl[i]? with
  | none => simp only [fVar, e] at P; exact False.elim P
  | some s =>
    rcases S.slots.2 i s e with rfl | ⟨v, ev, r⟩
    · simp only [fVar, e] at P; exact False.elim P
    · cases s with
      | un => simp only [fVar, e] at P; exact False.elim P
      | d x => simp only [fVar, e] at P; exact ⟨v, ev, P.here S r⟩
      | vw x => simp only [fVar, e] at P; exact ⟨v, ev, P.here S r⟩
      | r n => simp only [fVar, e] at P; exact ⟨v, ev, P.here S r⟩
      | sc n => simp only [fVar, e] at P; exact ⟨v, ev, P.here S r⟩
      | ex n => simp only [fVar, e] at P; exact ⟨v, ev, P.here S r⟩)
theorem se_c {e : Expr} {v : V} {x : PyData} (h : PE X e (tC v)) (r : ∀ F, Rp X.K F v x) : SE X W e (fC x) := PE.imp h (by
  rintro σ H Q ⟨en, w, sl, h, eK, S, P⟩
  exact Po.here P S (show Rp en.K w.F v x by rw [eK.1]; exact r _))
theorem se_int {i j pos} : SE X W (.Constant (.int i) j pos) (fC (.int i)) := se_c pe_int fun F => by unfold Rp; rfl
theorem se_bl {b j pos} : SE X W (.Constant (.bool b) j pos) (fC (.bool b)) := se_c pe_bl fun F => by unfold Rp; rfl
theorem se_str {x j pos} : SE X W (.Constant (.str x) j pos) (fC (.str x)) := se_c pe_str fun F => by unfold Rp; rfl
end
def fBin (g : SV → SV → AH → R SV) (fa fb : FE) : FE := fun sl h => (fa sl h).bind fun x h1 => (fb sl h1).bind fun y h2 => g x y h2
def fUn (g : SV → AH → R SV) (fa : FE) : FE := fun sl h => (fa sl h).bind fun x h1 => g x h1
def OpS (X : Cx) (r : R2) (g : SV → SV → AH → R SV) : Prop := ∀ (W : WX) (en : En) (w : Wd) (σ : St) (H : Hp) (sl : List SV) (h : AH) (x y : V) (s t : SV) (Q : VK), en.ok X → Sim en w σ H sl h → RS en w x s → RS en w y t → Po RS X W en w σ sl (g s t h) Q → r x y H Q
section
variable {X : Cx} {W : WX} {a b : Expr} {fa fb : FE} {pos : Pos}
theorem bin_t {r : R2} {g : SV → SV → AH → R SV} (hr : OpS X r g) {σ : St} {H : Hp} {Q : VK} (q : tE X W (fBin g fa fb) σ H Q) : tOp r (tE X W fa) (tE X W fb) σ H Q := by
  obtain ⟨en, w, sl, h, eK, S, P⟩ := q
  refine ⟨en, w, sl, h, eK, S, Po.bind P fun s h1 v w1 H1 l1 S1 r1 P1 => ?_⟩
  exact ⟨en, w1, sl, h1, eK, S1, Po.bind P1 fun t h2 u w2 H2 l2 S2 r2 P2 => hr W en w2 σ H2 sl h2 v u s t Q eK S2 (RS.mono l2 r1) r2 P2⟩
theorem se_op {op : Operator} {r : R2} {g : SV → SV → AH → R SV} (ho : OpR X (binaryOp op) r) (hr : OpS X r g) (ha : SE X W a fa) (hb : SE X W b fb) : SE X W (.BinOp a op b pos) (fBin g fa fb) :=
  PE.imp (pe_op ho ha hb) fun _ _ _ q => bin_t hr q
theorem se_ix {r : R2} {g : SV → SV → AH → R SV} (ho : IxR X r) (hr : OpS X r g) (ha : SE X W a fa) (hb : SE X W b fb) (hs : PlainIx b) : SE X W (.Subscript a b pos) (fBin g fa fb) :=
  PE.imp (pe_ix ho ha hb hs) fun _ _ _ q => bin_t hr q
end
def gI (C : Int → Int → Bool) (k : Int → Int → PyData) : SV → SV → AH → R SV := fun s t h => match s, t with
  | .d (.int i), .d (.int j) => if C i j then .ok (.d (k i j)) h else .st
  | _, _ => .st
theorem gI_inv {C : Int → Int → Bool} {k : Int → Int → PyData} {X : Cx} {W : WX} {en : En} {w : Wd} {σ : St} {H : Hp} {sl : List SV} {h : AH} {x y : V} {s t : SV} {Q : VK} (S : Sim en w σ H sl h) (r1 : RS en w x s) (r2 : RS en w y t)
    (P : Po RS X W en w σ sl (gI C k s t h) Q) : ∃ i j, x = .int i ∧ y = .int j ∧ C i j = true ∧ Po RS X W en w σ sl (.ok (.d (k i j)) h) Q := by
  unfold gI at P
  split at P
  · rename_i i j
    split at P
    · rename_i hc
      refine ⟨i, j, ?_, ?_, hc, P⟩
      · have r1 : Rp en.K w.F x (.int i) := r1
        unfold Rp at r1; exact r1
      · have r2 : Rp en.K w.F y (.int j) := r2
        unfold Rp at r2; exact r2
    · exact False.elim P
  · exact False.elim P
theorem Rp.int {K : PySem.W.Frag} {F : Hp} {i : Int} : Rp K F (.int i) (.int i) := by unfold Rp; rfl
theorem Rp.bool {K : PySem.W.Frag} {F : Hp} {i : Bool} : Rp K F (.bl i) (.bool i) := by unfold Rp; rfl
theorem Rp.str {K : PySem.W.Frag} {F : Hp} {i : Str} : Rp K F (.str i) (.str i) := by unfold Rp; rfl
theorem Rp.non {K : PySem.W.Frag} {F : Hp} : Rp K F .non .none := by unfold Rp; rfl
section
variable {X : Cx} {W : WX} {en : En} {w : Wd} {σ : St} {sl : List SV} {H : Hp} {h : AH} {Q : VK}
theorem Po.int {i : Int} (P : Po RS X W en w σ sl (.ok (.d (.int i)) h) Q) (S : Sim en w σ H sl h) : Q (.int i) H := P.here S (show Rp en.K w.F (.int i) (.int i) from Rp.int)
theorem Po.bool {i : Bool} (P : Po RS X W en w σ sl (.ok (.d (.bool i)) h) Q) (S : Sim en w σ H sl h) : Q (.bl i) H := P.here S (show Rp en.K w.F (.bl i) (.bool i) from Rp.bool)
theorem Po.str {i : Str} (P : Po RS X W en w σ sl (.ok (.d (.str i)) h) Q) (S : Sim en w σ H sl h) : Q (.str i) H := P.here S (show Rp en.K w.F (.str i) (.str i) from Rp.str)
theorem Po.non (P : Po RS X W en w σ sl (.ok (.d .none) h) Q) (S : Sim en w σ H sl h) : Q .non H := P.here S (show Rp en.K w.F .non .none from Rp.non)
end
theorem os_I {X : Cx} {Cp : Int → Int → Prop} {C : Int → Int → Bool} {k : Int → Int → Int} (hC : ∀ i j, C i j = true → Cp i j) : OpS X (rI Cp fun i j => .int (k i j)) (gI C fun i j => .int (k i j)) := by
  intro W en w σ H sl h x y s t Q eK S r1 r2 P
  obtain ⟨i, j, rfl, rfl, c, P⟩ := gI_inv S r1 r2 P
  exact ⟨i, j, rfl, rfl, hC i j c, P.int S⟩
theorem os_I0 {X : Cx} {k : Int → Int → Int} : OpS X (rI0 fun i j => .int (k i j)) (gI (fun _ _ => true) fun i j => .int (k i j)) := by
  intro W en w σ H sl h x y s t Q eK S r1 r2 P
  obtain ⟨i, j, rfl, rfl, c, P⟩ := gI_inv S r1 r2 P
  exact ⟨i, j, rfl, rfl, P.int S⟩
theorem os_B0 {X : Cx} {k : Int → Int → Bool} : OpS X (rI0 fun i j => .bl (k i j)) (gI (fun _ _ => true) fun i j => .bool (k i j)) := by
  intro W en w σ H sl h x y s t Q eK S r1 r2 P
  obtain ⟨i, j, rfl, rfl, c, P⟩ := gI_inv S r1 r2 P
  exact ⟨i, j, rfl, rfl, P.bool S⟩
def gOr (g g' : SV → SV → AH → R SV) : SV → SV → AH → R SV := fun s t h => match g s t h with
  | .st => g' s t h
  | r => r
theorem os_or {X : Cx} {r r' : R2} {g g' : SV → SV → AH → R SV} (a : OpS X r g) (b : OpS X r' g') : OpS X (fun x y H Q => r x y H Q ∨ r' x y H Q) (gOr g g') := by
  intro W en w σ H sl h x y s t Q eK S r1 r2 P
  unfold gOr at P
  cases e : g s t h with
  | st => rw [e] at P; exact .inr (b W en w σ H sl h x y s t Q eK S r1 r2 P)
  | ok v h' => rw [e] at P; exact .inl (a W en w σ H sl h x y s t Q eK S r1 r2 (by rw [e]; exact P))
  | rz c h' => rw [e] at P; exact .inl (a W en w σ H sl h x y s t Q eK S r1 r2 (by rw [e]; exact P))
mutual
theorem rb_okm {en : En} {w : Wd} {H : Hp} {h : AH} (S : SimH en w H h) : ∀ (k : Nat) (s : SV) (v : V) (x : PyData), k ≤ 60 → RS en w v s → rb h k s = some x → Rp en.K H v x
  | _, .un, v, x, hk, r, e => by unfold rb at e; cases e
  | _, .d y, v, x, hk, r, e => by
    unfold rb at e; cases e
    exact Rp.mono S.fh y v r
  | _, .vw y, v, x, hk, r, e => by
    unfold rb at e; cases e
    exact Rp.mono S.gh y v r
  | _, .sc n, v, x, hk, r, e => by unfold rb at e; cases e
  | _, .ex n, v, x, hk, r, e => by unfold rb at e; cases e
  | 0, .r n, v, x, hk, r, e => by unfold rb at e; cases e
  | k + 1, .r n, v, x, hk, r, e => by
    unfold rb at e
    split at e
    · rename_i xs he
      cases q : rbL h k xs with
      | none => rw [q] at e; cases e
      | some ds =>
        rw [q] at e
        cases e
        obtain ⟨a, e1, rfl⟩ := r
        obtain ⟨a', e2, ⟨vs, hv, rv⟩, _, _⟩ := S.live n _ he
        have ea : a' = a := Option.some.inj (e2.symm.trans e1)
        subst ea
        unfold Rp
        exact ⟨a', vs, rfl, hv, rbL_okm S k xs vs ds (by omega) rv q⟩
    · rename_i kvs he
      cases q : rbL h k (kvs.map Prod.snd) with
      | none => rw [q] at e; cases e
      | some ds =>
        rw [q] at e
        cases e
        obtain ⟨a, e1, rfl⟩ := r
        obtain ⟨a', e2, ⟨kws, hv, ek, rv⟩, _, _⟩ := S.live n _ he
        have ea : a' = a := Option.some.inj (e2.symm.trans e1)
        subst ea
        unfold Rp
        refine ⟨a', kws, rfl, by rw [zipD_mk]; exact hv, ?_⟩
        rw [← ek]
        exact zipD_ok (rbL_okm S k _ _ ds (by omega) rv q)
    · rename_i xs he
      cases q : rbL h k xs with
      | none => rw [q] at e; cases e
      | some ds =>
        rw [q] at e
        cases e
        obtain ⟨a, e1, rfl⟩ := r
        obtain ⟨a', e2, ⟨vs, hv, rv⟩, _, _⟩ := S.live n _ he
        have ea : a' = a := Option.some.inj (e2.symm.trans e1)
        subst ea
        unfold Rp
        exact ⟨a', vs, rfl, .inl (.inl hv), rbL_okm S k xs vs ds (by omega) rv q⟩
    · rw [if_neg (by omega)] at e; cases e
    · cases e
theorem rbL_okm {en : En} {w : Wd} {H : Hp} {h : AH} (S : SimH en w H h) : ∀ (k : Nat) (ss : List SV) (vs : List V) (ds : List PyData), k ≤ 60 → RSL en w vs ss → rbL h k ss = some ds → RpL en.K H vs ds
  | k, [], vs, ds, hk, r, e => by
    unfold rbL at e
    cases e
    unfold RpL
    exact r
  | k, s :: ss, vs, ds, hk, ⟨x, q, e1, r1, r2⟩, e => by
    unfold rbL at e
    cases e2 : rb h k s with
    | none => rw [e2] at e; cases e
    | some d =>
      rw [e2] at e
      cases e3 : rbL h k ss with
      | none => rw [e3] at e; cases e
      | some d2 =>
        rw [e3] at e
        cases e
        unfold RpL
        exact ⟨x, q, e1, rb_okm S k s x d hk r1 e2, rbL_okm S k ss q d2 hk r2 e3⟩
end
theorem rb_ok {en : En} {w : Wd} {H : Hp} {h : AH} (S : SimH en w H h) (k : Nat) (s : SV) (v : V) (x : PyData) (r : RS en w v s) (e : rb h k s = some x) (hk : k ≤ 60 := by decide) : Rp en.K H v x := rb_okm S k s v x hk r e
def gEq (neg : Bool) : SV → SV → AH → R SV := fun s t h => match rb h 9 s, rb h 9 t with
  | some d, some e => if (nod d && nod e && SeqAt.shaped d && SeqAt.shaped e) = true then .ok (.d (.bool (neg ^^ PyData.eqv d e))) h else .st
  | _, _ => .st
theorem os_eq {X : Cx} : OpS X (rEqD X.K) (gEq false) := by
  intro W en w σ H sl h x y s t Q eK S r1 r2 P
  unfold gEq at P
  split at P
  · rename_i d e q1 q2
    split at P
    · rename_i c
      simp only [Bool.and_eq_true] at c
      obtain ⟨⟨⟨c1, c2⟩, c3⟩, c4⟩ := c
      refine ⟨d, e, ?_, ?_, c3, c4, ?_⟩
      · rw [← eK.1]; exact Rp.dp d x c1 (rb_ok S.toSimH 9 s x d r1 q1)
      · rw [← eK.1]; exact Rp.dp e y c2 (rb_ok S.toSimH 9 t y e r2 q2)
      · have := P.bool S
        simpa using this
    · exact False.elim P
  · exact False.elim P
theorem os_ne {X : Cx} : OpS X (rNeD X.K) (gEq true) := by
  intro W en w σ H sl h x y s t Q eK S r1 r2 P
  unfold gEq at P
  split at P
  · rename_i d e q1 q2
    split at P
    · rename_i c
      simp only [Bool.and_eq_true] at c
      obtain ⟨⟨⟨c1, c2⟩, c3⟩, c4⟩ := c
      refine ⟨d, e, ?_, ?_, c3, c4, ?_⟩
      · rw [← eK.1]; exact Rp.dp d x c1 (rb_ok S.toSimH 9 s x d r1 q1)
      · rw [← eK.1]; exact Rp.dp e y c2 (rb_ok S.toSimH 9 t y e r2 q2)
      · have := P.bool S
        simpa using this
    · exact False.elim P
  · exact False.elim P
def itemsOf (h : AH) : SV → Option (List SV)
  | .d (.list ds) => some (ds.map SV.d)
  | .d (.tuple ds) => some (ds.map SV.d)
  | .vw (.list ds) => some (ds.map mkv)
  | .vw (.tuple ds) => some (ds.map mkv)
  | .r n => match h[n]? with
    | some (some (.lst xs)) => some xs
    | some (some (.tup xs)) => some xs
    | _ => none
  | .sc ns => some (ns.map fun i => SV.d (.int i))
  | _ => none
theorem RSL.ofInts {en : En} {w : Wd} : ∀ {ns : List Int}, RSL en w (ns.map V.int) (ns.map fun i => SV.d (.int i))
  | [] => rfl
  | i :: ns => ⟨.int i, ns.map V.int, rfl, (by show Rp en.K w.F (.int i) (.int i); unfold Rp; rfl), RSL.ofInts⟩
theorem RSL.ofVw {en : En} {w : Wd} {H : Hp} {h : AH} (S : SimH en w H h) : ∀ {ds : List PyData} {vs : List V}, RpL en.K en.G vs ds → RSL en w vs (ds.map mkv)
  | [], vs, q => by unfold RpL at q; exact q
  | d :: ds, vs, q => by
    unfold RpL at q
    obtain ⟨x, r, e, h1, h2⟩ := q
    refine ⟨x, r, e, ?_, RSL.ofVw S h2⟩
    show RS en w x (mkv d)
    unfold mkv
    split
    · rename_i c
      exact Rp.immF S.gh S.ti d x c h1
    · exact h1
theorem items_ok {en : En} {w : Wd} {H : Hp} {h : AH} (S : SimH en w H h) {s : SV} {v : V} {xs : List SV} (r : RS en w v s) (e : itemsOf h s = some xs) : ∃ a vs, v = .ref a ∧ (SqL en.K H a vs ∨ SqT en.K H a vs) ∧ RSL en w vs xs := by
  unfold itemsOf at e
  split at e
  · cases e
    have r : Rp en.K w.F v (.list _) := r
    unfold Rp at r
    obtain ⟨a, vs, rfl, q, l⟩ := r
    exact ⟨a, vs, rfl, .inl (.of (S.fh _ _ q)), RSL.ofRp l⟩
  · cases e
    have r : Rp en.K w.F v (.tuple _) := r
    unfold Rp at r
    obtain ⟨a, vs, rfl, q, l⟩ := r
    exact ⟨a, vs, rfl, .inr (sqT_mono (S.fh a) q), RSL.ofRp l⟩
  · cases e
    have r : Rp en.K en.G v (.list _) := r
    unfold Rp at r
    obtain ⟨a, vs, rfl, q, l⟩ := r
    exact ⟨a, vs, rfl, .inl (.of (S.gh _ _ q)), RSL.ofVw S l⟩
  · cases e
    have r : Rp en.K en.G v (.tuple _) := r
    unfold Rp at r
    obtain ⟨a, vs, rfl, q, l⟩ := r
    exact ⟨a, vs, rfl, .inr (sqT_mono (S.gh a) q), RSL.ofVw S l⟩
  · split at e
    · cases e
      rename_i n ys he
      obtain ⟨a, e1, rfl⟩ := r
      obtain ⟨a', e2, ⟨vs, hv, rv⟩, _, _⟩ := S.live n _ he
      have ea : a' = a := Option.some.inj (e2.symm.trans e1)
      subst ea
      exact ⟨a', vs, rfl, .inl (.of hv), rv⟩
    · cases e
      rename_i n ys he
      obtain ⟨a, e1, rfl⟩ := r
      obtain ⟨a', e2, ⟨vs, hv, rv⟩, _, _⟩ := S.live n _ he
      have ea : a' = a := Option.some.inj (e2.symm.trans e1)
      subst ea
      exact ⟨a', vs, rfl, .inr (.inl (.inl hv)), rv⟩
    · cases e
  · cases e
    obtain ⟨a, rfl, q⟩ := r
    exact ⟨a, _, rfl, .inl (sqL_mono (S.gh a) q), RSL.ofInts⟩
  · cases e
def lstOf (h : AH) : SV → Option (List SV)
  | .d (.list ds) => some (ds.map SV.d)
  | .vw (.list ds) => some (ds.map mkv)
  | .r n => match h[n]? with
    | some (some (.lst xs)) => some xs
    | _ => none
  | _ => none
theorem lst_ok {en : En} {w : Wd} {H : Hp} {h : AH} (S : SimH en w H h) {s : SV} {v : V} {xs : List SV} (r : RS en w v s) (e : lstOf h s = some xs) : ∃ a vs, v = .ref a ∧ H a = some (.lst vs) ∧ RSL en w vs xs := by
  unfold lstOf at e
  split at e
  · cases e
    have r : Rp en.K w.F v (.list _) := r
    unfold Rp at r
    obtain ⟨a, vs, rfl, q, l⟩ := r
    exact ⟨a, vs, rfl, S.fh _ _ q, RSL.ofRp l⟩
  · cases e
    have r : Rp en.K en.G v (.list _) := r
    unfold Rp at r
    obtain ⟨a, vs, rfl, q, l⟩ := r
    exact ⟨a, vs, rfl, S.gh _ _ q, RSL.ofVw S l⟩
  · split at e
    · cases e
      rename_i n ys he
      obtain ⟨a, e1, rfl⟩ := r
      obtain ⟨a', e2, ⟨vs, hv, rv⟩, _, _⟩ := S.live n _ he
      have ea : a' = a := Option.some.inj (e2.symm.trans e1)
      subst ea
      exact ⟨a', vs, rfl, hv, rv⟩
    · cases e
  · cases e
theorem atI_RSL {en : En} {w : Wd} {vs : List V} {xs : List SV} {i : Int} {s : SV} (r : RSL en w vs xs) (e : atI xs i = some s) : ∃ v, atI vs i = some v ∧ RS en w v s := by
  unfold atI at e ⊢
  rw [RSL.length r]
  cases k : ixN xs.length i with
  | none => rw [k] at e; cases e
  | some j =>
    rw [k] at e
    have e : xs[j]? = some s := e
    obtain ⟨v, ev, rv⟩ := RSL.get r e
    exact ⟨v, ev, rv⟩
def gIx : SV → SV → AH → R SV := fun s t h => match t with
  | .d (.int i) => match s with
    | .d (.str z) => if z.length ≤ sizeLine then match atI z.cps.toList i with
        | some c => .ok (.d (.str ⟨#[c]⟩)) h
        | none => .st
      else .st
    | _ => match itemsOf h s with
      | some xs => match atI xs i with
        | some u => .ok u h
        | none => .st
      | none => .st
  | _ => .st
theorem os_ix {X : Cx} : OpS X (rIx X.K) gIx := by
  intro W en w σ H sl h x y s t Q eK S r1 r2 P
  unfold gIx at P
  split at P
  · rename_i i
    have r2 : Rp en.K w.F y (.int i) := r2
    unfold Rp at r2
    subst r2
    split at P
    · rename_i z
      have r1 : Rp en.K w.F x (.str z) := r1
      unfold Rp at r1
      subst r1
      split at P
      · rename_i hz
        split at P
        · rename_i c hc
          exact .inr (.inr ⟨z, i, c, rfl, rfl, hz, hc, P.str S⟩)
        · exact False.elim P
      · exact False.elim P
    · split at P
      · rename_i xs hx
        split at P
        · rename_i u hu
          obtain ⟨a, vs, rfl, q, rl⟩ := items_ok S.toSimH r1 hx
          obtain ⟨v, ev, rv⟩ := atI_RSL rl hu
          have q2 := P.here S rv
          rw [eK.1] at q
          rcases q with q | q
          · exact .inl ⟨a, vs, i, v, rfl, rfl, q, ev, q2⟩
          · exact .inr (.inl ⟨a, vs, i, v, rfl, rfl, q, ev, q2⟩)
        · exact False.elim P
      · exact False.elim P
  · exact False.elim P
end Zx
namespace Zx
open PySem PySem.Spec L2
def reset : List SV → List SV → List SV
  | a :: as, b :: bs => (match a with | .un => .un | _ => b) :: reset as bs
  | _, bs => bs
def below (L : Nat) : SV → Bool
  | .r n => decide (n < L)
  | _ => true
def belowO (L : Nat) : Option AO → Bool
  | some (.lst xs) => xs.all (below L)
  | some (.dct kvs) => (kvs.map Prod.snd).all (below L)
  | some (.tup xs) => xs.all (below L)
  | some (.dkt kvs) => (kvs.map Prod.snd).all (below L)
  | none => true
def trimOk (L : Nat) (sl : List SV) (h : AH) : Bool := (h.take L).all (belowO L) && sl.all (below L)
def norm (sl0 : List SV) (L : Nat) (sl : List SV) (h : AH) : List SV × AH :=
  if trimOk L (reset sl0 sl) h = true then (reset sl0 sl, h.take L) else (reset sl0 sl, h)
theorem pick_un {a b s : SV} (e : (match a with | .un => SV.un | _ => b) = s) : s = .un ∨ b = s := by
  cases a with
  | un => exact .inl e.symm
  | d x => exact .inr e
  | vw x => exact .inr e
  | r x => exact .inr e
  | sc x => exact .inr e
  | ex x => exact .inr e
theorem reset_get : ∀ {as bs : List SV} {i : Nat} {s : SV}, (reset as bs)[i]? = some s → s = .un ∨ bs[i]? = some s
  | [], bs, i, s, e => by unfold reset at e; exact .inr e
  | a :: as, [], i, s, e => by unfold reset at e; exact .inr e
  | a :: as, b :: bs, 0, s, e => by
    unfold reset at e
    exact (pick_un (Option.some.inj e)).imp_right fun z => congrArg some z
  | a :: as, b :: bs, i + 1, s, e => by
    unfold reset at e
    have e : (reset as bs)[i]? = some s := e
    rcases reset_get e with z | z
    · exact .inl z
    · exact .inr z
theorem reset_len : ∀ (as bs : List SV), (reset as bs).length = bs.length
  | [], bs => by unfold reset; rfl
  | a :: as, [] => by unfold reset; rfl
  | a :: as, b :: bs => by unfold reset; rw [List.length_cons, List.length_cons, reset_len]
theorem RS.cut {en : En} {w : Wd} {L : Nat} {v : V} {s : SV} (r : RS en w v s) (b : below L s = true) : RS en ⟨w.rho.take L, w.F⟩ v s := by
  cases s with
  | un => exact trivial
  | d x => exact r
  | vw x => exact r
  | sc x => exact r
  | ex x => exact r
  | r n =>
    obtain ⟨a, e, z⟩ := r
    unfold below at b
    have hn := of_decide_eq_true b
    refine ⟨a, ?_, z⟩
    show (w.rho.take L)[n]? = some a
    rw [List.getElem?_take_of_lt hn]
    exact e
theorem RSL.cut {en : En} {w : Wd} {L : Nat} : ∀ {ss : List SV} {vs : List V}, RSL en w vs ss → ss.all (below L) = true → RSL en ⟨w.rho.take L, w.F⟩ vs ss
  | [], vs, r, _ => r
  | s :: ss, vs, ⟨x, q, e, a, b⟩, c => by
    rw [List.all_cons, Bool.and_eq_true] at c
    exact ⟨x, q, e, RS.cut a c.1, RSL.cut b c.2⟩
def trimE (L : Nat) (sl : List SV) (h : AH) : AH := if trimOk L sl h = true then h.take L else h
theorem SimH.trim {en : En} {w0 w : Wd} {H : Hp} {h : AH} (S : SimH en w H h) (le : w0.le w) (c1 : (h.take w0.rho.length).all (belowO w0.rho.length) = true) :
    w0.le ⟨w.rho.take w0.rho.length, w.F⟩ ∧ SimH en ⟨w.rho.take w0.rho.length, w.F⟩ H (h.take w0.rho.length) := by
  have hL : w0.rho.length ≤ w.rho.length := le.1.length_le
  have get : ∀ (n : Nat) (o : AO), (h.take w0.rho.length)[n]? = some (some o) → n < w0.rho.length ∧ h[n]? = some (some o) := fun n o e => by
    have hn : n < (h.take w0.rho.length).length := (List.getElem?_eq_some_iff.mp e).1
    rw [List.length_take] at hn
    have hn2 : n < w0.rho.length := by omega
    rw [List.getElem?_take_of_lt hn2] at e
    exact ⟨hn2, e⟩
  refine ⟨⟨?_, le.2⟩, ⟨S.gh, S.fh, S.f0, S.nw, S.ti, ?_, fun n o e => ?_, fun n m a o1 o2 e1 e2 a1 a2 => ?_⟩⟩
  · obtain ⟨t, ht⟩ := le.1
    refine ⟨[], ?_⟩
    show w0.rho ++ [] = w.rho.take w0.rho.length
    rw [← ht, List.append_nil, List.take_left' rfl]
  · show (w.rho.take w0.rho.length).length = (h.take w0.rho.length).length
    rw [List.length_take, List.length_take, S.len]
  · obtain ⟨hn, e'⟩ := get n o e
    obtain ⟨a, ea, q, f, g⟩ := S.live n o e'
    refine ⟨a, ?_, ?_, f, g⟩
    · show (w.rho.take w0.rho.length)[n]? = some a
      rw [List.getElem?_take_of_lt hn]; exact ea
    · cases o with
      | lst xs =>
        obtain ⟨vs, hv, rl⟩ := q
        refine ⟨vs, hv, RSL.cut rl ?_⟩
        have hm : some (AO.lst xs) ∈ h.take w0.rho.length := List.mem_of_getElem? e
        have := List.all_eq_true.mp c1 _ hm
        exact this
      | dct kvs =>
        obtain ⟨vs, hv, ek, rl⟩ := q
        refine ⟨vs, hv, ek, RSL.cut rl ?_⟩
        have hm : some (AO.dct kvs) ∈ h.take w0.rho.length := List.mem_of_getElem? e
        have := List.all_eq_true.mp c1 _ hm
        exact this
      | tup xs =>
        obtain ⟨vs, hv, rl⟩ := q
        refine ⟨vs, hv, RSL.cut rl ?_⟩
        have hm : some (AO.tup xs) ∈ h.take w0.rho.length := List.mem_of_getElem? e
        have := List.all_eq_true.mp c1 _ hm
        exact this
      | dkt kvs =>
        obtain ⟨rows, hv, ek, rk, rl⟩ := q
        refine ⟨rows, hv, ek, rk, RSL.cut rl ?_⟩
        have hm : some (AO.dkt kvs) ∈ h.take w0.rho.length := List.mem_of_getElem? e
        have := List.all_eq_true.mp c1 _ hm
        exact this
  · obtain ⟨h1, e1'⟩ := get n o1 e1
    obtain ⟨h2, e2'⟩ := get m o2 e2
    have a1 : (w.rho.take w0.rho.length)[n]? = some a := a1
    have a2 : (w.rho.take w0.rho.length)[m]? = some a := a2
    rw [List.getElem?_take_of_lt h1] at a1
    rw [List.getElem?_take_of_lt h2] at a2
    exact S.sep n m a o1 o2 e1' e2' a1 a2
theorem Slt.cut {en : En} {w : Wd} {L : Nat} {σ : St} {sl : List SV} (sr : Slt en w σ sl) (c3 : sl.all (below L) = true) : Slt en ⟨w.rho.take L, w.F⟩ σ sl := by
  refine ⟨sr.1, fun i s e => ?_⟩
  rcases sr.2 i s e with z | ⟨v, ev, r⟩
  · exact .inl z
  · have hm : s ∈ sl := List.mem_of_getElem? e
    exact .inr ⟨v, ev, RS.cut r (List.all_eq_true.mp c3 _ hm)⟩
theorem Sim.trim {en : En} {w0 w : Wd} {σ : St} {H : Hp} {sl : List SV} {h : AH} (S : Sim en w σ H sl h) (le : w0.le w) :
    ∃ w2, w0.le w2 ∧ w2.F = w.F ∧ Sim en w2 σ H sl (trimE w0.rho.length sl h) := by
  unfold trimE
  by_cases c : trimOk w0.rho.length sl h = true
  · rw [if_pos c]
    unfold trimOk at c
    rw [Bool.and_eq_true] at c
    obtain ⟨c2, c3⟩ := c
    have := SimH.trim S.toSimH le c2
    exact ⟨_, this.1, rfl, ⟨this.2, Slt.cut S.slots c3⟩⟩
  · rw [if_neg c]
    exact ⟨w, le, rfl, S⟩
theorem Sim.norm {en : En} {w0 w : Wd} {σ : St} {H : Hp} {sl0 sl : List SV} {h : AH} (S : Sim en w σ H sl h) (le : w0.le w) :
    ∃ w2, w0.le w2 ∧ Sim en w2 σ H (norm sl0 w0.rho.length sl h).1 (norm sl0 w0.rho.length sl h).2 := by
  have sr : Slt en w σ (reset sl0 sl) := ⟨(reset_len sl0 sl).trans S.slots.1, fun i s e => by
    rcases reset_get e with z | z
    · exact .inl z
    · exact S.slots.2 i s z⟩
  obtain ⟨w2, l2, _, S2⟩ := Sim.trim ⟨S.toSimH, sr⟩ le
  unfold trimE at S2
  unfold Zx.norm
  split
  · rename_i c
    rw [if_pos c] at S2
    exact ⟨w2, l2, S2⟩
  · rename_i c
    rw [if_neg c] at S2
    exact ⟨w2, l2, S2⟩
def fTst (f : FE) : FT := fun sl h => (f sl h).bind fun s h1 => match s with
  | .d (.bool b) => .ok b h1
  | _ => .st
section
variable {X : Cx} {W : WX} {a b c : Expr} {fa fb fc : FE} {ta tb : FT} {pos : Pos} {rest : List Expr}
theorem tB_t {σ : St} {H : Hp} {Q : Bool → Hp → Prop} (q : tT X W (fTst fa) σ H Q) : tB (tE X W fa) σ H Q := by
  obtain ⟨en, w, sl, h, eK, S, P⟩ := q
  refine ⟨en, w, sl, h, eK, S, Po.bind P fun s h1 v w1 H1 l1 S1 r1 P1 => ?_⟩
  split at P1
  · rename_i k
    have r1 : Rp en.K w1.F v (.bool k) := r1
    unfold Rp at r1
    exact ⟨k, r1, P1 k w1 H1 (Wd.le.refl _) S1 rfl⟩
  · exact False.elim P1
theorem st_val (h : SE X W a fa) (he : ∀ whole, isTrue a X.env whole = (do let v ← whole; standAt a.pos; holding [v] (truthy v)) := by intro _; rfl) : STt X W a (fTst fa) :=
  PT.imp (pt_val h he) fun _ _ _ q => tB_t q
theorem st_cmp {op : CmpOp} {r : R2} {g : SV → SV → AH → R SV} (ho : OpR X (compareOp op) r) (hr : OpS X r g) (ha : SE X W a fa) (hb : SE X W b fb) (hm : behindInMarks op b = false) : STt X W (.Compare a [op] [b] pos) (fTst (fBin g fa fb)) :=
  PT.imp (pt_cmpR ho ha hb hm) (by
    rintro σ H Q ⟨en, w, sl, h, eK, S, P⟩
    refine bin_t (W := W) hr ⟨en, w, sl, h, eK, S, ?_⟩
    refine Po.bind P fun s h1 v w1 H1 l1 S1 r1 P1 => ?_
    split at P1
    · rename_i k
      have r1 : Rp en.K w1.F v (.bool k) := r1
      unfold Rp at r1
      exact ⟨k, r1, P1 k w1 H1 (Wd.le.refl _) S1 rfl⟩
    · exact False.elim P1)
def fChain (g g' : SV → SV → AH → R SV) (fa fb fc : FE) : FE := fun sl h => (fa sl h).bind fun x h1 => (fb sl h1).bind fun y h2 => (g x y h2).bind fun z h3 => match z with
  | .d (.bool true) => (fc sl h3).bind fun u h4 => g' y u h4
  | .d (.bool false) => .ok (.d (.bool false)) h3
  | _ => .st
def fAndT (ta tb : FT) : FT := fun sl h => (ta sl h).bind fun k h1 => if k = true then tb sl h1 else .ok false h1
def fOrT (ta tb : FT) : FT := fun sl h => (ta sl h).bind fun k h1 => if k = true then .ok true h1 else tb sl h1
def fNotT (ta : FT) : FT := fun sl h => (ta sl h).bind fun k h1 => .ok (!k) h1
theorem sw_and1 (ha : STt X W a ta) : SWt X W (.BoolOp .And [a] pos) ta := pw_and1 ha
theorem sw_or1 (ha : STt X W a ta) : SWt X W (.BoolOp .Or [a] pos) ta := pw_or1 ha
theorem sw_and (ha : STt X W a ta) (hb : SWt X W (.BoolOp .And (b :: rest) pos) tb) : SWt X W (.BoolOp .And (a :: b :: rest) pos) (fAndT ta tb) := PW.imp (pw_and ha hb) (by
  rintro σ H Q ⟨en, w, sl, h, eK, S, P⟩
  refine ⟨en, w, sl, h, eK, S, Po.bind P fun k h1 k' w1 H1 l1 S1 r1 P1 => ?_⟩
  have r1 : k' = k := r1
  subst r1
  cases k' with
  | true => rw [if_pos rfl] at P1 ⊢; exact ⟨en, w1, sl, h1, eK, S1, P1⟩
  | false => rw [if_neg (by decide)] at P1 ⊢; exact P1 false w1 H1 (Wd.le.refl _) S1 rfl)
theorem sw_or (ha : STt X W a ta) (hb : SWt X W (.BoolOp .Or (b :: rest) pos) tb) : SWt X W (.BoolOp .Or (a :: b :: rest) pos) (fOrT ta tb) := PW.imp (pw_or ha hb) (by
  rintro σ H Q ⟨en, w, sl, h, eK, S, P⟩
  refine ⟨en, w, sl, h, eK, S, Po.bind P fun k h1 k' w1 H1 l1 S1 r1 P1 => ?_⟩
  have r1 : k' = k := r1
  subst r1
  cases k' with
  | true => rw [if_pos rfl] at P1 ⊢; exact P1 true w1 H1 (Wd.le.refl _) S1 rfl
  | false => rw [if_neg (by decide)] at P1 ⊢; exact ⟨en, w1, sl, h1, eK, S1, P1⟩)
theorem st_w (h : SWt X W a ta) : STt X W a ta := PW.pt h
theorem st_not (ha : STt X W a ta) : STt X W (.UnaryOp .Not a pos) (fNotT ta) := PT.imp (pt_not ha) (by
  rintro σ H Q ⟨en, w, sl, h, eK, S, P⟩
  refine ⟨en, w, sl, h, eK, S, Po.bind P fun k h1 k' w1 H1 l1 S1 r1 P1 => ?_⟩
  have r1 : k' = k := r1
  subst r1
  exact P1 _ w1 H1 (Wd.le.refl _) S1 rfl)
def fAndV (fa fb : FE) : FE := fun sl h => (fa sl h).bind fun s h1 => match s with
  | .d (.bool true) => fb sl h1
  | .d (.bool false) => .ok (.d (.bool false)) h1
  | _ => .st
def fOrV (fa fb : FE) : FE := fun sl h => (fa sl h).bind fun s h1 => match s with
  | .d (.bool true) => .ok (.d (.bool true)) h1
  | .d (.bool false) => fb sl h1
  | _ => .st
def fNotV (fa : FE) : FE := fun sl h => (fa sl h).bind fun s h1 => match s with
  | .d (.bool k) => .ok (.d (.bool (!k))) h1
  | _ => .st
theorem se_one {op} (h : SE X W a fa) : SE X W (.BoolOp op [a] pos) fa := pe_one h
theorem se_and (ha : SE X W a fa) (hb : SE X W (.BoolOp .And (b :: rest) pos) fb) : SE X W (.BoolOp .And (a :: b :: rest) pos) (fAndV fa fb) := PE.imp (pe_and ha hb) (by
  rintro σ H Q ⟨en, w, sl, h, eK, S, P⟩
  refine ⟨en, w, sl, h, eK, S, Po.bind P fun s h1 v w1 H1 l1 S1 r1 P1 => ?_⟩
  split at P1
  · have r1 : Rp en.K w1.F v (.bool true) := r1
    unfold Rp at r1
    exact ⟨true, r1, by rw [if_pos rfl]; exact ⟨en, w1, sl, h1, eK, S1, P1⟩⟩
  · have r1 : Rp en.K w1.F v (.bool false) := r1
    unfold Rp at r1
    exact ⟨false, r1, by rw [if_neg (by decide)]; exact P1.bool S1⟩
  · exact False.elim P1)
theorem se_not (ha : SE X W a fa) : SE X W (.UnaryOp .Not a pos) (fNotV fa) := PE.imp (pe_not ha) (by
  rintro σ H Q ⟨en, w, sl, h, eK, S, P⟩
  refine ⟨en, w, sl, h, eK, S, Po.bind P fun s h1 v w1 H1 l1 S1 r1 P1 => ?_⟩
  split at P1
  · rename_i k
    have r1 : Rp en.K w1.F v (.bool k) := r1
    unfold Rp at r1
    exact ⟨k, r1, P1.bool S1⟩
  · exact False.elim P1)
def fIf (t : FT) (fa fb : FE) : FE := fun sl h => (t sl h).bind fun k h1 => if k = true then fa sl h1 else fb sl h1
end
def fNil : FA := fun _ h => .ok [] h
def fCons (fa : FE) (fr : FA) : FA := fun sl h => (fa sl h).bind fun s h1 => (fr sl h1).bind fun ss h2 => .ok (s :: ss) h2
section
variable {X : Cx} {W : WX} {a : Expr} {es : List Expr} {fa : FE} {fr : FA} {pos : Pos}
theorem sa_nil : SA X W [] fNil := PA.imp pa_nil (by
  rintro σ H Q ⟨en, w, sl, h, eK, S, P⟩
  exact P [] w H (Wd.le.refl _) S rfl)
theorem sa_cons (ha : SE X W a fa) (hr : SA X W es fr) (hs : starEach (a :: es) X.env = (false, eval a X.env) :: starEach es X.env := by rfl) : SA X W (a :: es) (fCons fa fr) := PA.imp (pa_cons ha hr hs) (by
  rintro σ H Q ⟨en, w, sl, h, eK, S, P⟩
  refine ⟨en, w, sl, h, eK, S, Po.bind P fun s h1 v w1 H1 l1 S1 r1 P1 => ?_⟩
  refine ⟨en, w1, sl, h1, eK, S1, Po.bind P1 fun ss h2 vs w2 H2 l2 S2 r2 P2 => ?_⟩
  exact P2 (v :: vs) w2 H2 (Wd.le.refl _) S2 ⟨v, vs, rfl, RS.mono l2 r1, r2⟩)
def fLst (fa : FA) : FE := fun sl h => (fa sl h).bind fun ss h1 => if ss.length ≤ 1000 then .ok (.r h1.length) (h1 ++ [some (.lst ss)]) else .st
theorem line1000 : 1000 ≤ sizeLine := Nat.le_of_lt (small1000 (Nat.le_refl _))
theorem se_lst {fa : FA} (ha : SA X W es fa) : SE X W (.List es pos) (fLst fa) := PE.imp (pe_lst ha) (by
  rintro σ H Q ⟨en, w, sl, h, eK, S, P⟩
  refine ⟨en, w, sl, h, eK, S, Po.bind P fun ss h1 vs w1 H1 l1 S1 r1 P1 => ?_⟩
  split at P1
  · rename_i hl
    refine ⟨by rw [RSL.length r1]; exact Nat.le_trans hl line1000, fun p np => ?_⟩
    exact P1 (.ref p) (w1.ow p) _ le_ow (S1.newO np r1) S1.toSimH.rs_new
  · exact False.elim P1)
def allD : List SV → Option (List PyData)
  | [] => some []
  | .d x :: r => (allD r).map (x :: ·)
  | _ => none
theorem allD_ok {en : En} {w : Wd} : ∀ {ss : List SV} {vs : List V} {ds : List PyData}, RSL en w vs ss → allD ss = some ds → RpL en.K w.F vs ds
  | [], vs, ds, r, e => by
    unfold allD at e
    cases e
    unfold RpL
    exact r
  | s :: ss, vs, ds, ⟨x, q, e1, r1, r2⟩, e => by
    cases s with
    | d y =>
      unfold allD at e
      cases k : allD ss with
      | none => rw [k] at e; cases e
      | some d2 =>
        rw [k] at e
        cases e
        unfold RpL
        exact ⟨x, q, e1, r1, allD_ok r2 k⟩
    | un => unfold allD at e; cases e
    | vw y => unfold allD at e; cases e
    | r n => unfold allD at e; cases e
    | sc n => unfold allD at e; cases e
    | ex n => unfold allD at e; cases e
def fTup (fa : FA) : FE := fun sl h => (fa sl h).bind fun ss h1 => match allD ss with
  | some ds => if ds.length ≤ 1000 then .ok (.d (.tuple ds)) h1 else .st
  | none => .st
theorem se_tup {x1} {fa : FA} (ha : SA X W es fa) : SE X W (.Tuple es x1 pos) (fTup fa) := PE.imp (pe_tup ha) (by
  rintro σ H Q ⟨en, w, sl, h, eK, S, P⟩
  refine ⟨en, w, sl, h, eK, S, Po.bind P fun ss h1 vs w1 H1 l1 S1 r1 P1 => ?_⟩
  split at P1
  · rename_i ds hd
    split at P1
    · rename_i hl
      have rl := allD_ok r1 hd
      refine ⟨by rw [RpL.length rl]; exact Nat.le_trans hl line1000, fun p np => ?_⟩
      refine P1 (.ref p) (w1.fz p (.tup vs)) _ (le_fz (S1.F_none np)) (S1.newF np (fun _ _ z => by cases z)) ?_
      show Rp en.K (upd w1.F p (.tup vs)) (.ref p) (.tuple ds)
      unfold Rp
      exact ⟨p, vs, rfl, .of upd_same, RpL.mono (le_fz (S1.F_none np)).2 ds vs rl⟩
    · exact False.elim P1
  · exact False.elim P1)
mutual
def fzv : Nat → AH → SV → Option (PyData × AH)
  | _, _, .un => none
  | _, h, .d x => some (x, h)
  | _, h, .vw x => if imm x then some (x, h) else none
  | _, _, .sc _ => none
  | _, _, .ex _ => none
  | 0, _, .r _ => none
  | k + 1, h, .r n => match h[n]? with
    | some (some (.lst xs)) => match fzL k h xs with
      | some (ds, h1) => match h1[n]? with
        | some (some (.lst ys)) => if ys.length = xs.length ∧ h1.length = h.length then some (.list ds, h1.set n none) else none
        | _ => none
      | none => none
    | some (some (.dct kvs)) => match fzL k h (kvs.map Prod.snd) with
      | some (ds, h1) => match h1[n]? with
        | some (some (.dct kvs2)) => if kvs2.length = kvs.length ∧ h1.length = h.length then some (.dict (zipD (kvs.map Prod.fst) ds), h1.set n none) else none
        | _ => none
      | none => none
    | some (some (.tup xs)) => match fzL k h xs with
      | some (ds, h1) => match h1[n]? with
        | some (some (.tup ys)) => if ys.length = xs.length ∧ h1.length = h.length then some (.tuple ds, h1.set n none) else none
        | _ => none
      | none => none
    | _ => none
def fzL : Nat → AH → List SV → Option (List PyData × AH)
  | _, h, [] => some ([], h)
  | k, h, s :: ss => match fzv k h s with
    | some (d, h1) => match fzL k h1 ss with
      | some (ds, h2) => some (d :: ds, h2)
      | none => none
    | none => none
end
/-- what freezing leaves -/
structure Fzd (en : En) (w w' : Wd) (H : Hp) (h h' : AH) : Prop where
  le : w.le w'
  S : SimH en w' H h'
  rho : w'.rho = w.rho
  same : ∀ (n : Nat) (o : AO), h'[n]? = some (some o) → h[n]? = some (some o)
mutual
theorem fzv_ok {en : En} {H : Hp} : ∀ (k : Nat) (w : Wd) (h : AH) (s : SV) (v : V) (x : PyData) (h' : AH), SimH en w H h → RS en w v s → fzv k h s = some (x, h') → ∃ w', Fzd en w w' H h h' ∧ Rp en.K w'.F v x
  | _, w, h, .un, v, x, h', S, r, e => by unfold fzv at e; cases e
  | _, w, h, .d y, v, x, h', S, r, e => by
    unfold fzv at e; cases e
    exact ⟨w, ⟨Wd.le.refl _, S, rfl, fun _ _ z => z⟩, r⟩
  | _, w, h, .vw y, v, x, h', S, r, e => by
    unfold fzv at e
    split at e
    · rename_i c
      cases e
      exact ⟨w, ⟨Wd.le.refl _, S, rfl, fun _ _ z => z⟩, Rp.immF S.gh S.ti y v c r⟩
    · cases e
  | _, w, h, .sc n, v, x, h', S, r, e => by unfold fzv at e; cases e
  | _, w, h, .ex n, v, x, h', S, r, e => by unfold fzv at e; cases e
  | 0, w, h, .r n, v, x, h', S, r, e => by unfold fzv at e; cases e
  | k + 1, w, h, .r n, v, x, h', S, r, e => by
    unfold fzv at e
    split at e
    · rename_i xs hx
      split at e
      · rename_i ds h1 q
        split at e
        · rename_i ys hy
          split at e
          · rename_i hc
            cases e
            obtain ⟨a, e1, rfl⟩ := r
            obtain ⟨a', e2, ⟨vs, hv, rv⟩, _, _⟩ := S.live n _ hx
            have ea : a' = a := Option.some.inj (e2.symm.trans e1)
            subst ea
            obtain ⟨w1, F1, rl⟩ := fzL_ok k w h xs vs ds h1 S rv q
            have e3 : w1.rho[n]? = some a' := by rw [F1.rho]; exact e1
            obtain ⟨a2, e4, _, f2, _⟩ := F1.S.live n _ hy
            have ea2 : a2 = a' := Option.some.inj (e4.symm.trans e3)
            subst ea2
            refine ⟨w1.fz a2 (.lst vs), ⟨F1.le.trans (F1.S.le_own hy e3 hv), F1.S.freeze hy e3 hv, F1.rho, fun m o z => F1.same m o ?_⟩, ?_⟩
            · by_cases hm : m = n
              · subst hm
                rw [List.getElem?_set_self (List.getElem?_eq_some_iff.mp hy).1] at z
                cases z
              · rw [List.getElem?_set_ne (Ne.symm hm)] at z; exact z
            · show Rp en.K (upd w1.F a2 (.lst vs)) (.ref a2) (.list ds)
              unfold Rp
              exact ⟨a2, vs, rfl, upd_same, RpL.mono (F1.S.le_own hy e3 hv).2 ds vs rl⟩
          · cases e
        · cases e
      · cases e
    · rename_i kvs hx
      split at e
      · rename_i ds h1 q
        split at e
        · rename_i ys hy
          split at e
          · rename_i hc
            cases e
            obtain ⟨a, e1, rfl⟩ := r
            obtain ⟨a', e2, ⟨kws, hv, ek, rv⟩, _, _⟩ := S.live n _ hx
            have ea : a' = a := Option.some.inj (e2.symm.trans e1)
            subst ea
            obtain ⟨w1, F1, rl⟩ := fzL_ok k w h (kvs.map Prod.snd) (kws.map Prod.snd) ds h1 S rv q
            have e3 : w1.rho[n]? = some a' := by rw [F1.rho]; exact e1
            obtain ⟨a2, e4, _, f2, _⟩ := F1.S.live n _ hy
            have ea2 : a2 = a' := Option.some.inj (e4.symm.trans e3)
            subst ea2
            refine ⟨w1.fz a2 (.dK kws), ⟨F1.le.trans (F1.S.le_own hy e3 hv), F1.S.freeze hy e3 hv, F1.rho, fun m o z => F1.same m o ?_⟩, ?_⟩
            · by_cases hm : m = n
              · subst hm
                rw [List.getElem?_set_self (List.getElem?_eq_some_iff.mp hy).1] at z
                cases z
              · rw [List.getElem?_set_ne (Ne.symm hm)] at z; exact z
            · show Rp en.K (upd w1.F a2 (.dK kws)) (.ref a2) (.dict (zipD (kvs.map Prod.fst) ds))
              unfold Rp
              refine ⟨a2, kws, rfl, by rw [zipD_mk]; exact upd_same, RpK.mono (F1.S.le_own hy e3 hv).2 _ kws ?_⟩
              rw [← ek]
              exact zipD_ok rl
          · cases e
        · cases e
      · cases e
    · rename_i xs hx
      split at e
      · rename_i ds h1 q
        split at e
        · rename_i ys hy
          split at e
          · rename_i hc
            cases e
            obtain ⟨a, e1, rfl⟩ := r
            obtain ⟨a', e2, ⟨vs, hv, rv⟩, _, _⟩ := S.live n _ hx
            have ea : a' = a := Option.some.inj (e2.symm.trans e1)
            subst ea
            obtain ⟨w1, F1, rl⟩ := fzL_ok k w h xs vs ds h1 S rv q
            have e3 : w1.rho[n]? = some a' := by rw [F1.rho]; exact e1
            obtain ⟨a2, e4, _, f2, _⟩ := F1.S.live n _ hy
            have ea2 : a2 = a' := Option.some.inj (e4.symm.trans e3)
            subst ea2
            refine ⟨w1.fz a2 (.tup vs), ⟨F1.le.trans (F1.S.le_own hy e3 hv), F1.S.freeze hy e3 hv, F1.rho, fun m o z => F1.same m o ?_⟩, ?_⟩
            · by_cases hm : m = n
              · subst hm
                rw [List.getElem?_set_self (List.getElem?_eq_some_iff.mp hy).1] at z
                cases z
              · rw [List.getElem?_set_ne (Ne.symm hm)] at z; exact z
            · show Rp en.K (upd w1.F a2 (.tup vs)) (.ref a2) (.tuple ds)
              unfold Rp
              exact ⟨a2, vs, rfl, .inl (.inl upd_same), RpL.mono (F1.S.le_own hy e3 hv).2 ds vs rl⟩
          · cases e
        · cases e
      · cases e
    · cases e
theorem fzL_ok {en : En} {H : Hp} : ∀ (k : Nat) (w : Wd) (h : AH) (ss : List SV) (vs : List V) (ds : List PyData) (h' : AH), SimH en w H h → RSL en w vs ss → fzL k h ss = some (ds, h') → ∃ w', Fzd en w w' H h h' ∧ RpL en.K w'.F vs ds
  | k, w, h, [], vs, ds, h', S, r, e => by
    unfold fzL at e
    cases e
    exact ⟨w, ⟨Wd.le.refl _, S, rfl, fun _ _ z => z⟩, by unfold RpL; exact r⟩
  | k, w, h, s :: ss, vs, ds, h', S, ⟨x, q, e1, r1, r2⟩, e => by
    unfold fzL at e
    split at e
    · rename_i d h1 q1
      split at e
      · rename_i d2 h2 q2
        cases e
        obtain ⟨w1, F1, p1⟩ := fzv_ok k w h s x d h1 S r1 q1
        obtain ⟨w2, F2, p2⟩ := fzL_ok k w1 h1 ss q d2 _ F1.S (RSL.mono F1.le r2) q2
        refine ⟨w2, ⟨F1.le.trans F2.le, F2.S, F2.rho.trans F1.rho, fun n o z => F1.same n o (F2.same n o z)⟩, ?_⟩
        unfold RpL
        exact ⟨x, q, e1, Rp.mono F2.le.2 d x p1, p2⟩
      · cases e
    · cases e
end
def fFz (f : FE) : FE := fun sl h => (f sl h).bind fun s h1 => match fzv 9 h1 s with
  | some (x, h2) => .ok (.d x) (trimE h.length sl h2)
  | none => .st
theorem fz_po {en : En} {w : Wd} {σ : St} {H : Hp} {sl : List SV} {h : AH} {f : FE} {Q : VK} (S : Sim en w σ H sl h) (P : Po RS X W en w σ sl (fFz f sl h) Q) : Po RS X W en w σ sl (f sl h) Q := by
  unfold fFz at P
  generalize f sl h = r at P ⊢
  cases r with
  | st => exact P
  | rz c h1 => exact P
  | ok s h1 =>
    intro v w1 H1 l1 S1 r1
    have P : Po RS X W en w σ sl (match fzv 9 h1 s with | some (x, h2) => .ok (.d x) (trimE h.length sl h2) | none => .st) Q := P
    split at P
    · rename_i x h2 q
      obtain ⟨w2, F2, p2⟩ := fzv_ok 9 w1 h1 s v x h2 S1.toSimH r1 q
      obtain ⟨w3, l3, e3, S3⟩ := Sim.trim (w0 := w) (σ := σ) (sl := sl) ⟨F2.S, S1.slots.mono F2.le⟩ (l1.trans F2.le)
      rw [S.len] at S3
      refine P v w3 H1 l3 S3 ?_
      show Rp en.K w3.F v x
      rw [e3]
      exact p2
    · exact False.elim P
theorem se_fz (ha : SE X W a fa) : SE X W a (fFz fa) := PE.imp ha (by
  rintro σ H Q ⟨en, w, sl, h, eK, S, P⟩
  exact ⟨en, w, sl, h, eK, S, fz_po S P⟩)
def CallS (X : Cx) (r : List V → Hp → VK → Prop) (g : List SV → AH → R SV) : Prop := ∀ (W : WX) (en : En) (w : Wd) (σ : St) (H : Hp) (sl : List SV) (h : AH) (xs : List V) (ss : List SV) (Q : VK), en.ok X → Sim en w σ H sl h → RSL en w xs ss → Po RS X W en w σ sl (g ss h) Q → r xs H Q
def fCB (g : List SV → AH → R SV) (fa : FA) : FE := fun sl h => (fa sl h).bind fun ss h1 => g ss h1
theorem cb_t {r : List V → Hp → VK → Prop} {g : List SV → AH → R SV} (hr : CallS X r g) {fa : FA} {σ : St} {H : Hp} {Q : VK} (q : tE X W (fCB g fa) σ H Q) : tCB r (tA X W fa) σ H Q := by
  obtain ⟨en, w, sl, h, eK, S, P⟩ := q
  exact ⟨en, w, sl, h, eK, S, Po.bind P fun ss h1 vs w1 H1 l1 S1 r1 P1 => hr W en w1 σ H1 sl h1 vs ss Q eK S1 r1 P1⟩
theorem se_callB {x : Str} {p : Pos} {id : String} {r : List V → Hp → VK → Prop} {g : List SV → AH → R SV} {fa : FA} (hc : CallR X (.builtin id) r) (hr : CallS X r g) (hg : Gl X x) (hm : X.mg x = none) (hv : bootBuiltins x = some (.builtin id)) (ha : SA X W (a :: es) fa) (hn : x ≠ "__name__" := by decide) (hdb : (x == ("__debug__" : Str)) = false := by decide)
    (he : starEach (a :: es) X.env = (false, eval a X.env) :: starEach es X.env := by rfl) (hpl : (backTo pos (starEach es X.env)).any (·.1) = false := by rfl) : SE X W (.Call (.Name x p) (a :: es) [] pos) (fCB g fa) :=
  PE.imp (pe_callB hc hg hm hv ha hn hdb he hpl) fun _ _ _ q => cb_t hr q
theorem se_callTy {x : Str} {p : Pos} {id : String} {r : List V → Hp → VK → Prop} {g : List SV → AH → R SV} {fa : FA} (hc : CallR X (.type id) r) (hr : CallS X r g) (hg : Gl X x) (hm : X.mg x = none) (hv : bootBuiltins x = some (.type id)) (ha : SA X W (a :: es) fa) (hn : x ≠ "__name__" := by decide) (hdb : (x == ("__debug__" : Str)) = false := by decide)
    (he : starEach (a :: es) X.env = (false, eval a X.env) :: starEach es X.env := by rfl) (hpl : (backTo pos (starEach es X.env)).any (·.1) = false := by rfl) : SE X W (.Call (.Name x p) (a :: es) [] pos) (fCB g fa) :=
  PE.imp (pe_callTy hc hg hm hv ha hn hdb he hpl) fun _ _ _ q => cb_t hr q
end
end Zx
namespace Zx
open PySem PySem.Spec L2
def shv (L : Nat) : SV → SV
  | .r n => .r (n + L)
  | .vw _ => .un
  | .d x => .d x
  | .un => .un
  | .sc _ => .un
  | .ex _ => .un
/-- how an argument is handed in: frozen, looked at, the script -/
inductive Md where
  | fz | vw | sc
def sho (L : Nat) : AO → AO
  | .lst xs => .lst (xs.map (shv L))
  | .dct kvs => .dct (kvs.map fun p => (p.1, shv L p.2))
  | .tup xs => .tup (xs.map (shv L))
  | .dkt kvs => .dkt (kvs.map fun p => (p.1, shv L p.2))
def shh (L : Nat) (h : AH) : AH := h.map (Option.map (sho L))
def argD (h : AH) : Md → SV → Option PyData
  | .fz, .d x => some x
  | .sc, .sc ns => some (.list (ns.map PyData.int))
  | .vw, s => rb h 9 s
  | _, _ => none
def ArgV (K : PySem.W.Frag) (F H : Hp) (v : V) : Md → PyData → Prop
  | .fz, d => Rp K F v d
  | .vw, d => Rp K H v d
  | .sc, d => ∃ ns, d = .list (ns.map PyData.int) ∧ RpS K H v ns
def argsD (h : AH) : List Md → List SV → Option (List PyData)
  | [], [] => some []
  | m :: ms, s :: ss => match argD h m s with
    | some d => match argsD h ms ss with
      | some ds => some (d :: ds)
      | none => none
    | none => none
  | _, _ => none
def ArgOk (K : PySem.W.Frag) (F H : Hp) : List Md → List V → List PyData → Prop
  | [], vs, ds => vs = [] ∧ ds = []
  | m :: ms, vs, ds => ∃ v vs' d ds', vs = v :: vs' ∧ ds = d :: ds' ∧ ArgV K F H v m d ∧ ArgOk K F H ms vs' ds'
theorem ArgOk.len {K : PySem.W.Frag} {F H : Hp} : ∀ {ms : List Md} {vs : List V} {ds : List PyData}, ArgOk K F H ms vs ds → vs.length = ms.length ∧ ds.length = ms.length
  | [], vs, ds, ⟨h1, h2⟩ => by rw [h1, h2]; exact ⟨rfl, rfl⟩
  | m :: ms, vs, ds, ⟨v, vs', d, ds', h1, h2, _, q⟩ => by
    obtain ⟨a, b⟩ := ArgOk.len q
    rw [h1, h2, List.length_cons, List.length_cons, List.length_cons, a, b]
    exact ⟨rfl, rfl⟩
def spD (wd : World) (K : PySem.W.Frag) (mg : Str → Option Value) (ms : List Md) (φ : List PyData → R SV) : Sp := fun vs H Q E => ∃ F ds, Same F H ∧ TupIn H F ∧ ArgOk K F H ms vs ds ∧ match φ ds with
  | .ok s hn => ∀ v w H', SimH ⟨K, H, F, none, wd⟩ w H' hn → RS ⟨K, H, F, none, wd⟩ w v s → Q v H'
  | .rz c _ => ∀ w H' hn, SimH ⟨K, H, F, none, wd⟩ w H' hn → ∀ u, mg c = some u → E u none H'
  | .st => False
theorem argsD_ok {en : En} {w : Wd} {H : Hp} {h : AH} (S : SimH en w H h) : ∀ {ms : List Md} {ss : List SV} {vs : List V} {ds : List PyData}, RSL en w vs ss → argsD h ms ss = some ds → ArgOk en.K w.F H ms vs ds
  | [], [], vs, ds, r, e => by
    unfold argsD at e
    cases e
    exact ⟨r, rfl⟩
  | [], s :: ss, vs, ds, r, e => by unfold argsD at e; cases e
  | m :: ms, [], vs, ds, r, e => by unfold argsD at e; cases e
  | m :: ms, s :: ss, vs, ds, ⟨x, q, e1, r1, r2⟩, e => by
    unfold argsD at e
    cases k : argD h m s with
    | none => rw [k] at e; cases e
    | some d =>
      rw [k] at e
      cases k2 : argsD h ms ss with
      | none => rw [k2] at e; cases e
      | some d2 =>
        rw [k2] at e
        cases e
        refine ⟨x, q, d, d2, e1, rfl, ?_, argsD_ok S r2 k2⟩
        cases m with
        | vw =>
          have k : rb h 9 s = some d := by unfold argD at k; exact k
          exact rb_ok S 9 s x d r1 k
        | fz =>
          cases s with
          | d y => unfold argD at k; cases k; exact r1
          | un => unfold argD at k; cases k
          | vw y => unfold argD at k; cases k
          | r n => unfold argD at k; cases k
          | sc n => unfold argD at k; cases k
          | ex n => unfold argD at k; cases k
        | sc =>
          cases s with
          | sc ns =>
            unfold argD at k; cases k
            obtain ⟨a, e, q⟩ := r1
            exact ⟨ns, rfl, a, e, sqL_mono (S.gh a) q⟩
          | un => unfold argD at k; cases k
          | vw y => unfold argD at k; cases k
          | r n => unfold argD at k; cases k
          | d n => unfold argD at k; cases k
          | ex n => unfold argD at k; cases k
theorem RS.shift {K : PySem.W.Frag} {wd : World} {G F0 : Hp} {en : En} {w1 w : Wd} (eK : en.K = K) {v : V} {s : SV} (r : RS ⟨K, G, F0, none, wd⟩ w v s) : RS en ⟨w1.rho ++ w.rho, w.F⟩ v (shv w1.rho.length s) := by
  cases s with
  | un => exact trivial
  | d x => exact (show Rp en.K w.F v x by rw [eK]; exact r)
  | vw x => exact trivial
  | sc x => exact trivial
  | ex x => exact trivial
  | r n =>
    obtain ⟨a, e, z⟩ := r
    refine ⟨a, ?_, z⟩
    show (w1.rho ++ w.rho)[n + w1.rho.length]? = some a
    rw [List.getElem?_append_right (by omega), Nat.add_sub_cancel]
    exact e
theorem RSL.shift {K : PySem.W.Frag} {wd : World} {G F0 : Hp} {en : En} {w1 w : Wd} (eK : en.K = K) : ∀ {ss : List SV} {vs : List V}, RSL ⟨K, G, F0, none, wd⟩ w vs ss → RSL en ⟨w1.rho ++ w.rho, w.F⟩ vs (ss.map (shv w1.rho.length))
  | [], vs, r => r
  | s :: ss, vs, ⟨x, q, e, a, b⟩ => ⟨x, q, e, RS.shift eK a, RSL.shift eK b⟩
theorem Sim.call {en : En} {w1 w : Wd} {σ : St} {H1 H' : Hp} {sl : List SV} {h1 hn : AH} (S1 : Sim en w1 σ H1 sl h1) (S2 : SimH ⟨en.K, H1, w1.F, none, en.wd⟩ w H' hn) :
    w1.le ⟨w1.rho ++ w.rho, w.F⟩ ∧ Sim en ⟨w1.rho ++ w.rho, w.F⟩ σ H' sl (h1 ++ shh h1.length hn) := by
  have le : w1.le ⟨w1.rho ++ w.rho, w.F⟩ := ⟨List.prefix_append _ _, S2.f0⟩
  have hL : h1.length = w1.rho.length := S1.len.symm
  have getN : ∀ (n : Nat) (o : AO), (h1 ++ shh h1.length hn)[n]? = some (some o) → (n < h1.length ∧ h1[n]? = some (some o)) ∨ (h1.length ≤ n ∧ ∃ o', hn[n - h1.length]? = some (some o') ∧ o = sho h1.length o') := fun n o e => by
    by_cases hn' : n < h1.length
    · rw [List.getElem?_append_left hn'] at e
      exact .inl ⟨hn', e⟩
    · rw [List.getElem?_append_right (by omega)] at e
      refine .inr ⟨by omega, ?_⟩
      unfold shh at e
      rw [List.getElem?_map] at e
      cases k : hn[n - h1.length]? with
      | none => rw [k] at e; cases e
      | some oo =>
        rw [k] at e
        cases oo with
        | none => cases e
        | some o' => cases e; exact ⟨o', rfl, rfl⟩
  have rhoR : ∀ (n : Nat), h1.length ≤ n → (w1.rho ++ w.rho)[n]? = w.rho[n - h1.length]? := fun n hn' => by
    rw [List.getElem?_append_right (by omega), hL]
  have rhoL : ∀ (n : Nat), n < h1.length → (w1.rho ++ w.rho)[n]? = w1.rho[n]? := fun n hn' => by
    rw [List.getElem?_append_left (by omega)]
  refine ⟨le, ⟨S1.gh.trans S2.gh, S2.fh, S1.f0.trans S2.f0, fun a o e => ?_, S2.ti, ?_, fun n o e => ?_, fun n m a o1 o2 e1 e2 a1 a2 => ?_⟩, S1.slots.mono le⟩
  · rcases S2.nw a o e with z | z
    · exact S1.nw a o z
    · exact .inr (S1.gh.free z)
  · show (w1.rho ++ w.rho).length = (h1 ++ shh h1.length hn).length
    rw [List.length_append, List.length_append, S1.len, S2.len]
    unfold shh
    rw [List.length_map]
  · rcases getN n o e with ⟨hlt, e'⟩ | ⟨hge, o', e', rfl⟩
    · obtain ⟨a, ea, q, f, g⟩ := S1.live n o e'
      obtain ⟨u, eu, _, _⟩ := q.some
      refine ⟨a, (rhoL n hlt).trans ea, q.mono le ((S2.gh a u eu).trans eu.symm), ?_, g⟩
      intro ht
      have f := f ht
      show w.F a = none
      cases k : w.F a with
      | none => rfl
      | some o2 =>
        rcases S2.nw a o2 k with z | z
        · have z : w1.F a = some o2 := z
          rw [f] at z; cases z
        · have z : H1 a = none := z
          rw [eu] at z; cases z
    · obtain ⟨a, ea, q, f, g⟩ := S2.live _ o' e'
      refine ⟨a, (rhoR n hge).trans ea, ?_, (fun t => f (by cases o' <;> first | rfl | exact t)), S1.gh.free g⟩
      cases o' with
      | lst xs =>
        obtain ⟨vs, hv, rl⟩ := q
        refine ⟨vs, hv, ?_⟩
        rw [hL]
        exact RSL.shift (en := en) (w1 := w1) rfl rl
      | dct kvs =>
        obtain ⟨vs, hv, ek, rl⟩ := q
        refine ⟨vs, hv, ?_, ?_⟩
        · rw [ek, List.map_map]; rfl
        · rw [hL, List.map_map, show (Prod.snd ∘ fun p : Key × SV => (p.1, shv w1.rho.length p.2)) = (shv w1.rho.length) ∘ Prod.snd from rfl, ← List.map_map]
          exact RSL.shift (en := en) (w1 := w1) rfl rl
      | tup xs =>
        obtain ⟨vs, hv, rl⟩ := q
        refine ⟨vs, hv, ?_⟩
        rw [hL]
        exact RSL.shift (en := en) (w1 := w1) rfl rl
      | dkt kvs =>
        obtain ⟨rows, hv, ek, rk, rl⟩ := q
        refine ⟨rows, hv, ?_, rk, ?_⟩
        · rw [ek, List.map_map]; rfl
        · rw [hL, List.map_map, show (Prod.snd ∘ fun p : NestedKey × SV => (p.1, shv w1.rho.length p.2)) = (shv w1.rho.length) ∘ Prod.snd from rfl, ← List.map_map]
          exact RSL.shift (en := en) (w1 := w1) rfl rl
  · have a1 : (w1.rho ++ w.rho)[n]? = some a := a1
    have a2 : (w1.rho ++ w.rho)[m]? = some a := a2
    rcases getN n o1 e1 with ⟨h1', e1'⟩ | ⟨h1', o1', e1', _⟩ <;> rcases getN m o2 e2 with ⟨h2', e2'⟩ | ⟨h2', o2', e2', _⟩
    · exact S1.sep n m a o1 o2 e1' e2' (by rw [← rhoL n h1']; exact a1) (by rw [← rhoL m h2']; exact a2)
    · obtain ⟨b, eb, q, f, g⟩ := S1.live n o1 e1'
      obtain ⟨u, eu, _, _⟩ := q.some
      obtain ⟨b2, eb2, q2, f2, g2⟩ := S2.live _ o2' e2'
      have z1 : b = a := Option.some.inj (((rhoL n h1').trans eb).symm.trans a1)
      have z2 : b2 = a := Option.some.inj (((rhoR m h2').trans eb2).symm.trans a2)
      have g2 : H1 b2 = none := g2
      rw [z2, ← z1, eu] at g2; cases g2
    · obtain ⟨b, eb, q, f, g⟩ := S1.live m o2 e2'
      obtain ⟨u, eu, _, _⟩ := q.some
      obtain ⟨b2, eb2, q2, f2, g2⟩ := S2.live _ o1' e1'
      have z1 : b = a := Option.some.inj (((rhoL m h2').trans eb).symm.trans a2)
      have z2 : b2 = a := Option.some.inj (((rhoR n h1').trans eb2).symm.trans a1)
      have g2 : H1 b2 = none := g2
      rw [z2, ← z1, eu] at g2; cases g2
    · have := S2.sep _ _ a o1' o2' e1' e2' (by rw [← rhoR n h1']; exact a1) (by rw [← rhoR m h2']; exact a2)
      omega
theorem SimH.drop {en : En} {w : Wd} {H : Hp} {h : AH} (S : SimH en w H h) : SimH en ⟨[], w.F⟩ H [] :=
  ⟨S.gh, S.fh, S.f0, S.nw, S.ti, rfl, fun n o e => by simp at e, fun n m a o1 o2 e => by simp at e⟩
def fCall (ms : List Md) (φ : List PyData → R SV) (fa : FA) : FE := fun sl h => (fa sl h).bind fun ss h1 => match argsD h1 ms ss with
  | some ds => match φ ds with
    | .ok s hn => .ok (shv h1.length s) (h1 ++ shh h1.length hn)
    | .rz c _ => .rz c h1
    | .st => .st
  | none => .st
section
variable {X : Cx} {W : WX} {a : Expr} {es : List Expr} {fa : FA} {pos p : Pos} {x : Str} {k : Nat} {f : Addr} {fd : FuncData} {ps : List Str} {ms : List Md} {φ : List PyData → R SV}
theorem call_t {σ : St} {H : Hp} {Q : VK} (q : tE X W (fCall ms φ fa) σ H Q) : tCallS (spD X.w X.K X.mg ms φ) (WE W) (tA X W fa) σ H Q := by
  obtain ⟨en, w, sl, h, eK, S, P⟩ := q
  refine ⟨en, w, sl, h, eK, S, Po.bind P fun ss h1 vs w1 H1 l1 S1 r1 P1 => ?_⟩
  split at P1
  · rename_i ds hd
    refine ⟨w1.F, ds, S1.fh, S1.ti, by rw [← eK.1]; exact argsD_ok S1.toSimH r1 hd, ?_⟩
    cases hφ : φ ds with
    | st => rw [hφ] at P1; exact False.elim P1
    | rz c hh =>
      rw [hφ] at P1
      show ∀ w H' hn, SimH ⟨X.K, H1, w1.F, none, X.w⟩ w H' hn → ∀ u, X.mg c = some u → W u none σ H'
      intro w2 H' hn S2 u hu
      rw [← eK.1, ← eK.3] at S2
      obtain ⟨le, S3⟩ := Sim.call S1 S2.drop
      refine P1 _ H' le ?_ u hu
      have S3 : Sim en ⟨w1.rho ++ [], w2.F⟩ σ H' sl (h1 ++ []) := S3
      rw [List.append_nil h1] at S3
      exact S3
    | ok s hn =>
      rw [hφ] at P1
      show ∀ v w H', SimH ⟨X.K, H1, w1.F, none, X.w⟩ w H' hn → RS ⟨X.K, H1, w1.F, none, X.w⟩ w v s → Q v H'
      intro v w2 H' S2 r2
      rw [← eK.1, ← eK.3] at S2 r2
      obtain ⟨le, S3⟩ := Sim.call S1 S2
      refine P1 v _ H' le S3 ?_
      rw [show h1.length = w1.rho.length from S1.len.symm]
      exact RS.shift rfl r2
  · exact False.elim P1
theorem se_call (F : FnOk X.prog X.w X.K X.mg X.base (L2N.CX X.prog X.w) k f fd ps (spD X.w X.K X.mg ms φ)) (hr : Room k X.A) (hg : Gl X x) (hm : X.mg x = some (.ref f)) (hk : PySem.W.keepIn X.K (.ref f) = true) (hb : Binds X.K fd ps []) (tk : L2N.Takes X W)
    (ha : SA X W (a :: es) fa) (hdb : (x == ("__debug__" : Str)) = false := by decide) (he : starEach (a :: es) X.env = (false, eval a X.env) :: starEach es X.env := by rfl) (hpl : (backTo pos (starEach es X.env)).any (·.1) = false := by rfl) :
    SE X W (.Call (.Name x p) (a :: es) [] pos) (fCall ms φ fa) :=
  PE.imp (pe_callS F hr hg hm hk hb (L2N.passAt tk) ha hdb he hpl) fun _ _ _ q => call_t q
end
inductive O where
  | nx (sl : List SV) (h : AH) | rt (s : SV) (h : AH) | bk (sl : List SV) (h : AH) | ct (sl : List SV) (h : AH) | rz (c : Str) (sl : List SV) (h : AH) | st
abbrev FS := List SV → AH → O
def PoS (X : Cx) (W : WX) (en : En) (w : Wd) (o : O) (D : Ends) : Prop := match o with
  | .nx sl h => ∀ w' σ' H', w.le w' → Sim en w' σ' H' sl h → D.nx σ' H'
  | .bk sl h => ∀ w' σ' H', w.le w' → Sim en w' σ' H' sl h → D.bk σ' H'
  | .ct sl h => ∀ w' σ' H', w.le w' → Sim en w' σ' H' sl h → D.ct σ' H'
  | .rt s h => ∀ w' H' v, w.le w' → SimH en w' H' h → RS en w' v s → D.rt v H'
  | .rz c sl h => ∀ w' σ' H', w.le w' → Sim en w' σ' H' sl h → clsW X W c σ' H'
  | .st => False
def tS (X : Cx) (W : WX) (g : FS) : TS := fun D σ H => ∃ en w sl h, en.ok X ∧ Sim en w σ H sl h ∧ PoS X W en w (g sl h) D
abbrev SS (X : Cx) (W : WX) (s : Stmt) (g : FS) : Prop := PS X s (tS X W g)
abbrev SSs (X : Cx) (W : WX) (s : List Stmt) (g : FS) : Prop := PSs X s (tS X W g)
theorem PoS.mono {X : Cx} {W : WX} {en : En} {w w' : Wd} {o : O} {D : Ends} (k : w.le w') (P : PoS X W en w o D) : PoS X W en w' o D := by
  cases o with
  | nx sl h => exact fun w2 σ2 H2 l S => P w2 σ2 H2 (k.trans l) S
  | bk sl h => exact fun w2 σ2 H2 l S => P w2 σ2 H2 (k.trans l) S
  | ct sl h => exact fun w2 σ2 H2 l S => P w2 σ2 H2 (k.trans l) S
  | rt s h => exact fun w2 H2 v l S r => P w2 H2 v (k.trans l) S r
  | rz c sl h => exact fun w2 σ2 H2 l S => P w2 σ2 H2 (k.trans l) S
  | st => exact P
def R.thn {α : Type} (r : R α) (sl : List SV) (k : α → AH → O) : O := match r with
  | .ok a h => k a h
  | .rz c h => .rz c sl h
  | .st => .st
theorem Po.thn {α β : Type} {rep : En → Wd → β → α → Prop} {X : Cx} {W : WX} {en : En} {w : Wd} {σ : St} {sl : List SV} {r : R α} {k : α → AH → O} {D : Ends} {Q1 : β → Hp → Prop} (P : PoS X W en w (r.thn sl k) D)
    (c : ∀ a h1 b w' H', w.le w' → Sim en w' σ H' sl h1 → rep en w' b a → PoS X W en w' (k a h1) D → Q1 b H') : Po rep X W en w σ sl r Q1 := by
  cases r with
  | ok a h1 => exact fun b w' H' l S q => c a h1 b w' H' l S q (PoS.mono l P)
  | rz cc h1 => exact fun w' H' l S => P w' σ H' l S
  | st => exact P
def sNext : FS := fun sl h => .nx sl h
def sSeq (a b : FS) : FS := fun sl h => match a sl h with
  | .nx sl' h' => b sl' h'
  | o => o
def sExpr (f : FE) : FS := fun sl h => (f sl h).thn sl fun _ h1 => .nx sl h1
def sRet (f : FE) : FS := fun sl h => (f sl h).thn sl fun s h1 => .rt s h1
def sRetN : FS := fun _ h => .rt (.d .none) h
def sSet (i : Nat) (f : FE) : FS := fun sl h => (f sl h).thn sl fun s h1 => .nx (sl.set i s) h1
def sIf (t : FT) (a b : FS) : FS := fun sl h => (t sl h).thn sl fun k h1 => if k = true then a sl h1 else b sl h1
def sBreak : FS := fun sl h => .bk sl h
def sCont : FS := fun sl h => .ct sl h
def sRaise (c : Str) : FS := fun sl h => .rz c sl h
theorem Slt.set {en : En} {w : Wd} {σ : St} {sl : List SV} (q : Slt en w σ sl) {v : V} {s : SV} (r : RS en w v s) (i : Nat) : Slt en w (σ.set i (some v)) (sl.set i s) := by
  refine ⟨by rw [List.length_set, List.length_set]; exact q.1, fun j u e => ?_⟩
  by_cases hj : i = j
  · subst hj
    by_cases hi : i < sl.length
    · rw [List.getElem?_set_self hi] at e
      cases e
      refine .inr ⟨v, ?_, r⟩
      rw [List.getElem?_set_self (by rw [← q.1]; exact hi)]
    · rw [List.getElem?_eq_none (by rw [List.length_set]; omega)] at e
      cases e
  · rw [List.getElem?_set_ne hj] at e
    rw [List.getElem?_set_ne hj]
    exact q.2 j u e
theorem Sim.set {en : En} {w : Wd} {σ : St} {H : Hp} {sl : List SV} {h : AH} (S : Sim en w σ H sl h) {v : V} {s : SV} (r : RS en w v s) (i : Nat) : Sim en w (σ.set i (some v)) H (sl.set i s) h := ⟨S.toSimH, S.slots.set r i⟩
section
variable {X : Cx} {W : WX} {e : Expr} {fe : FE} {st : Stmt} {rest : List Stmt} {a b : List Stmt} {g g' : FS} {pos : Pos} {ft : FT} {c : Expr}
theorem ss_nil : SSs X W [] sNext := PSs.imp pss_nil (by
  rintro D σ H ⟨en, w, sl, h, eK, S, P⟩
  exact P w σ H (Wd.le.refl _) S)
theorem ss_one (h1 : SS X W st g) : SSs X W [st] g := pss_one h1
theorem ss_cons (h1 : SS X W st g) (h2 : SSs X W rest g') : SSs X W (st :: rest) (sSeq g g') := PSs.imp (pss_cons h1 h2) (by
  rintro D σ H ⟨en, w, sl, h, eK, S, P⟩
  refine ⟨en, w, sl, h, eK, S, ?_⟩
  unfold sSeq at P
  cases q : g sl h with
  | nx sl1 h1 =>
    rw [q] at P
    exact fun w' σ' H' l S' => ⟨en, w', sl1, h1, eK, S', PoS.mono l P⟩
  | rt s h1 => rw [q] at P; exact P
  | bk sl1 h1 => rw [q] at P; exact P
  | ct sl1 h1 => rw [q] at P; exact P
  | rz cc sl1 h1 => rw [q] at P; exact P
  | st => rw [q] at P; exact P)
theorem ss_expr (he : SE X W e fe) (hs : swapsWith e none pos.line X.env = pure false := by rfl) : SS X W (.Expr e pos) (sExpr fe) := PS.imp (ps_expr he hs) (by
  rintro D σ H ⟨en, w, sl, h, eK, S, P⟩
  exact ⟨en, w, sl, h, eK, S, Po.thn P fun s h1 v w1 H1 l1 S1 r1 P1 => P1 w1 σ H1 (Wd.le.refl _) S1⟩)
theorem ss_ret (he : SE X W e fe) : SS X W (.Return (some e) pos) (sRet fe) := PS.imp (ps_ret he) (by
  rintro D σ H ⟨en, w, sl, h, eK, S, P⟩
  exact ⟨en, w, sl, h, eK, S, Po.thn P fun s h1 v w1 H1 l1 S1 r1 P1 => P1 w1 H1 v (Wd.le.refl _) S1.toSimH r1⟩)
theorem ss_set {i : Nat} {x : Str} {pos' : Pos} (hN : X.N.Nodup) (hi : X.N[i]? = some x) (hx : Loc X.env.scope x) (he : SE X W e fe) (hs : swapsWith e (some (.Name x pos')) pos.line X.env = pure false := by rfl) (hf : X.fn x = true ∨ X.env.scope.names.lookup x = some .local := by first | exact .inl rfl | exact .inr rfl | assumption) :
    SS X W (.Assign [.Name x pos'] e pos) (sSet i fe) := PS.imp (ps_set hN hi hx he hs hf) (by
  rintro D σ H ⟨en, w, sl, h, eK, S, P⟩
  exact ⟨en, w, sl, h, eK, S, Po.thn P fun s h1 v w1 H1 l1 S1 r1 P1 => P1 w1 _ H1 (Wd.le.refl _) (S1.set r1 i)⟩)
theorem ss_if (hc : STt X W c ft) (ha : SSs X W a g) (hb : SSs X W b g') : SS X W (.If c a b pos) (sIf ft g g') := PS.imp (ps_if hc ha hb) (by
  rintro D σ H ⟨en, w, sl, h, eK, S, P⟩
  refine ⟨en, w, sl, h, eK, S, Po.thn P fun k h1 k' w1 H1 l1 S1 r1 P1 => ?_⟩
  have r1 : k' = k := r1
  subst r1
  cases k' with
  | true => rw [if_pos rfl] at P1 ⊢; exact ⟨en, w1, sl, h1, eK, S1, P1⟩
  | false => rw [if_neg (by decide)] at P1 ⊢; exact ⟨en, w1, sl, h1, eK, S1, P1⟩)
end
end Zx
namespace Zx
open PySem PySem.Spec L2
inductive It1 where
  | one (s : SV) | two (x y : SV)
inductive Bd where
  | nm (i : Nat) | tp (is : List Nat)
def tupItems : SV → Option (List SV)
  | .d (.tuple ds) => some (ds.map SV.d)
  | .vw (.tuple ds) => some (ds.map mkv)
  | _ => none
def setAll : List Nat → List SV → List SV → Option (List SV)
  | [], [], sl => some sl
  | i :: is, x :: xs, sl => setAll is xs (sl.set i x)
  | _, _, _ => none
def Bd.go : Bd → It1 → List SV → Option (List SV)
  | .nm i, .one s, sl => some (sl.set i s)
  | .tp is, .one s, sl => match tupItems s with
    | some xs => setAll is xs sl
    | none => none
  | .tp is, .two x y, sl => setAll is [x, y] sl
  | .nm _, .two _ _, _ => none
def RepI (en : En) (w : Wd) (H : Hp) (v : V) : It1 → Prop
  | .one s => RS en w v s
  | .two x y => ∃ T a b, v = .ref T ∧ H T = some (.tup [a, b]) ∧ RS en w a x ∧ RS en w b y
theorem tup_ok {en : En} {w : Wd} {H : Hp} {h : AH} (S : SimH en w H h) {s : SV} {v : V} {xs : List SV} (r : RS en w v s) (e : tupItems s = some xs) : ∃ a vs, v = .ref a ∧ SqT en.K H a vs ∧ RSL en w vs xs := by
  unfold tupItems at e
  split at e
  · cases e
    have r : Rp en.K w.F v (.tuple _) := r
    unfold Rp at r
    obtain ⟨a, vs, rfl, q, l⟩ := r
    exact ⟨a, vs, rfl, sqT_mono (S.fh a) q, RSL.ofRp l⟩
  · cases e
    have r : Rp en.K en.G v (.tuple _) := r
    unfold Rp at r
    obtain ⟨a, vs, rfl, q, l⟩ := r
    exact ⟨a, vs, rfl, sqT_mono (S.gh a) q, RSL.ofVw S l⟩
  · cases e
def Bd.is : Bd → List Nat
  | .nm i => [i]
  | .tp is => is
def Chg (is : List Nat) (σ σ' : St) : Prop := σ'.length = σ.length ∧ ∀ j, j ∉ is → σ'[j]? = σ[j]?
theorem Chg.refl (is : List Nat) (σ : St) : Chg is σ σ := ⟨rfl, fun _ _ => rfl⟩
theorem Chg.set {is : List Nat} {σ σ' : St} {i : Nat} {v : Option V} (hi : i ∈ is) (c : Chg is (σ.set i v) σ') : Chg is σ σ' :=
  ⟨c.1.trans (by rw [List.length_set]), fun j hj => (c.2 j hj).trans (List.getElem?_set_ne (fun e => hj (by rw [← e]; exact hi)))⟩
def gNms : List Nat → TGs
  | [] => gNil
  | i :: is => gCons (gName i) (gNms is)
theorem gNms_ok {en : En} {w : Wd} {H : Hp} {h : AH} {Q : St → Hp → Prop} : ∀ {is : List Nat} {xs : List SV} {vs : List V} {σ : St} {sl sl' : List SV}, Sim en w σ H sl h → RSL en w vs xs → setAll is xs sl = some sl' → (∀ σ', Sim en w σ' H sl' h → Chg is σ σ' → Q σ' H) → gNms is vs σ H Q
  | [], [], vs, σ, sl, sl', S, r, e, q => by
    unfold setAll at e
    cases e
    exact ⟨r, q σ S (Chg.refl _ _)⟩
  | i :: is, x :: xs, vs, σ, sl, sl', S, ⟨v, vr, e1, a, b⟩, e, q => by
    unfold setAll at e
    exact ⟨v, vr, e1, gNms_ok (S.set a i) b e fun σ' S' c => q σ' S' (Chg.set List.mem_cons_self ⟨c.1, fun j hj => c.2 j fun z => hj (List.mem_cons_of_mem _ z)⟩)⟩
  | [], x :: xs, vs, σ, sl, sl', S, r, e, q => by unfold setAll at e; cases e
  | i :: is, [], vs, σ, sl, sl', S, r, e, q => by unfold setAll at e; cases e
theorem setAll_len : ∀ {is : List Nat} {xs sl sl' : List SV}, setAll is xs sl = some sl' → xs.length = is.length
  | [], [], sl, sl', e => rfl
  | i :: is, x :: xs, sl, sl', e => by
    unfold setAll at e
    rw [List.length_cons, List.length_cons, setAll_len e]
  | [], x :: xs, sl, sl', e => by unfold setAll at e; cases e
  | i :: is, [], sl, sl', e => by unfold setAll at e; cases e
def GS (X : Cx) (bd : Bd) (g : TG) : Prop := ∀ (en : En) (w : Wd) (σ : St) (H : Hp) (sl sl' : List SV) (h : AH) (v : V) (it : It1) (Q : St → Hp → Prop), en.ok X → Sim en w σ H sl h → RepI en w H v it → bd.go it sl = some sl' → (∀ σ', Sim en w σ' H sl' h → Chg bd.is σ σ' → Q σ' H) → g v σ H Q
theorem gs_name {X : Cx} {i : Nat} : GS X (.nm i) (gName i) := by
  intro en w σ H sl sl' h v it Q eK S r e q
  cases it with
  | one s => cases e; exact q _ (S.set r i) (Chg.set (List.mem_singleton_self i) (Chg.refl _ _))
  | two x y => cases e
theorem gs_tup {X : Cx} {is : List Nat} : GS X (.tp is) (gTup X.K is.length (gNms is)) := by
  intro en w σ H sl sl' h v it Q eK S r e q
  cases it with
  | one s =>
    have e : (match tupItems s with | some xs => setAll is xs sl | none => none) = some sl' := e
    split at e
    · rename_i xs hx
      obtain ⟨a, vs, rfl, hq, rl⟩ := tup_ok S.toSimH r hx
      refine ⟨a, vs, rfl, by rw [← eK.1]; exact hq, ?_, gNms_ok S rl e q⟩
      rw [RSL.length rl, setAll_len e]
    · cases e
  | two x y =>
    have e : setAll is [x, y] sl = some sl' := e
    obtain ⟨T, a, b, rfl, hT, r1, r2⟩ := r
    exact ⟨T, [a, b], rfl, .of hT, (setAll_len e), gNms_ok (is := is) (xs := [x, y]) S ⟨a, [b], rfl, r1, b, [], rfl, r2, rfl⟩ e q⟩
def sSetT (is : List Nat) (f : FE) : FS := fun sl h => (f sl h).thn sl fun s h1 => match (Bd.tp is).go (.one s) sl with
  | some sl' => .nx sl' h1
  | none => .st
section
variable {X : Cx} {W : WX} {e tg : Expr} {fe : FE} {pos : Pos}
end
inductive Src where
  | cn (l : List It1) | ow (n : Nat)
/-- the iterator J walks these items while the world stands -/
structure ItOk (en : En) (w0 : Wd) (J : It) (l : List It1) : Prop where
  goes : ∀ i σ w H sl h, w0.le w → Sim en w σ H sl h → i < l.length → J.go i H
  stop : ∀ σ w H sl h, w0.le w → Sim en w σ H sl h → J.stop l.length H
  yld : ∀ i σ w H sl h x H' it, w0.le w → Sim en w σ H sl h → l[i]? = some it → J.yld i H x H' → ∃ w', w.le w' ∧ Sim en w' σ H' sl h ∧ RepI en w' H' x it
def RepS (en : En) (w : Wd) (J : It) : Src → Prop
  | .cn l => ItOk en w J l
  | .ow n => ∃ a, w.rho[n]? = some a ∧ J = Itl en.K a
def tI (X : Cx) (W : WX) (f : List SV → AH → R Src) : TI := fun σ H Q => ∃ en w sl h, en.ok X ∧ Sim en w σ H sl h ∧ Po RepS X W en w σ sl (f sl h) Q
abbrev SI (X : Cx) (W : WX) (tg iter : Expr) (f : List SV → AH → R Src) : Prop := PI X tg iter (tI X W f)
theorem PI.imp {X : Cx} {tg iter : Expr} {t t' : TI} (h : PI X tg iter t) (k : ∀ σ H Q, t' σ H Q → t σ H Q) : PI X tg iter t' := ⟨fun pins s σ H Q I q => h.run pins s σ H Q I (k σ H Q q)⟩
def iSeq (f : FE) : List SV → AH → R Src := fun sl h => (f sl h).bind fun s h1 => match s with
  | .d (.list ds) => .ok (.cn (ds.map fun x => .one (.d x))) h1
  | .vw (.list ds) => .ok (.cn (ds.map fun x => .one (mkv x))) h1
  | .r n => match h1[n]? with
    | some (some (.lst _)) => .ok (.ow n) h1
    | _ => .st
  | _ => .st
def iTupl (f : FE) : List SV → AH → R Src := fun sl h => (f sl h).bind fun s h1 => match s with
  | .d (.tuple ds) => .ok (.cn (ds.map fun x => .one (.d x))) h1
  | .vw (.tuple ds) => .ok (.cn (ds.map fun x => .one (mkv x))) h1
  | _ => .st
theorem itl_ok {en : En} {w0 : Wd} {a : Addr} {vs : List V} {xs : List SV} (hq : ∀ σ w H sl h, w0.le w → Sim en w σ H sl h → SqL en.K H a vs) (rl : RSL en w0 vs xs) : ItOk en w0 (Itl en.K a) (xs.map It1.one) where
  goes := fun i σ w H sl h le S hi => by
    rw [List.length_map] at hi
    have hv : i < vs.length := by rw [RSL.length rl]; exact hi
    exact ⟨vs, vs[i], hq σ w H sl h le S, by simp [hv]⟩
  stop := fun σ w H sl h le S => ⟨vs, hq σ w H sl h le S, by rw [List.length_map, RSL.length rl]; exact Nat.le_refl _⟩
  yld := fun i σ w H sl h x H' it le S e y => by
    obtain ⟨rfl, y⟩ := y
    rw [List.getElem?_map] at e
    cases k : xs[i]? with
    | none => rw [k] at e; cases e
    | some s =>
      rw [k] at e
      cases e
      obtain ⟨v, ev, rv⟩ := RSL.get rl k
      have z : v = x := Option.some.inj (ev.symm.trans (y vs (hq σ w _ sl h le S)))
      subst z
      exact ⟨w, Wd.le.refl _, S, RS.mono le rv⟩
theorem itt_ok {en : En} {w0 : Wd} {a : Addr} {vs : List V} {xs : List SV} (hq : ∀ σ w H sl h, w0.le w → Sim en w σ H sl h → SqT en.K H a vs) (rl : RSL en w0 vs xs) : ItOk en w0 (Itt en.K a) (xs.map It1.one) where
  goes := fun i σ w H sl h le S hi => by
    rw [List.length_map] at hi
    have hv : i < vs.length := by rw [RSL.length rl]; exact hi
    exact ⟨vs, vs[i], hq σ w H sl h le S, by simp [hv]⟩
  stop := fun σ w H sl h le S => ⟨vs, hq σ w H sl h le S, by rw [List.length_map, RSL.length rl]; exact Nat.le_refl _⟩
  yld := fun i σ w H sl h x H' it le S e y => by
    obtain ⟨rfl, y⟩ := y
    rw [List.getElem?_map] at e
    cases k : xs[i]? with
    | none => rw [k] at e; cases e
    | some s =>
      rw [k] at e
      cases e
      obtain ⟨v, ev, rv⟩ := RSL.get rl k
      have z : v = x := Option.some.inj (ev.symm.trans (y vs (hq σ w _ sl h le S)))
      subst z
      exact ⟨w, Wd.le.refl _, S, RS.mono le rv⟩
section
variable {X : Cx} {W : WX} {e e2 tg : Expr} {fe : FE} {fa : FA} {pos p : Pos}
theorem map_one (ds : List PyData) (k : PyData → SV) : (ds.map fun x => It1.one (k x)) = (ds.map k).map It1.one := by rw [List.map_map]; rfl
theorem si_list (he : SE X W e fe) : SI X W tg e (iSeq fe) := PI.imp (pi_list he) (by
  rintro σ H R ⟨en, w, sl, h, eK, S, P⟩
  refine ⟨en, w, sl, h, eK, S, Po.bind P fun s h1 v w1 H1 l1 S1 r1 P1 => ?_⟩
  split at P1
  · rename_i ds
    have r1 : Rp en.K w1.F v (.list ds) := r1
    unfold Rp at r1
    obtain ⟨a, vs, rfl, q, l⟩ := r1
    refine ⟨a, rfl, ⟨vs, .of (S1.fh _ _ q)⟩, P1 _ w1 H1 (Wd.le.refl _) S1 ?_⟩
    show ItOk en w1 (Itl X.K a) _
    rw [map_one, ← eK.1]
    exact itl_ok (fun σ w H sl h le S => .of (S.fh _ _ (le.2 _ _ q))) (RSL.ofRp l)
  · rename_i ds
    have r1 : Rp en.K en.G v (.list ds) := r1
    unfold Rp at r1
    obtain ⟨a, vs, rfl, q, l⟩ := r1
    refine ⟨a, rfl, ⟨vs, .of (S1.gh _ _ q)⟩, P1 _ w1 H1 (Wd.le.refl _) S1 ?_⟩
    show ItOk en w1 (Itl X.K a) _
    rw [map_one, ← eK.1]
    exact itl_ok (fun σ w H sl h le S => .of (S.gh _ _ q)) (RSL.ofVw S1.toSimH l)
  · rename_i n
    split at P1
    · rename_i xs hx
      obtain ⟨a, e1, rfl⟩ := r1
      obtain ⟨a', e2, ⟨vs, hv, rv⟩, _, _⟩ := S1.live n _ hx
      have ea : a' = a := Option.some.inj (e2.symm.trans e1)
      subst ea
      exact ⟨a', rfl, ⟨vs, .of hv⟩, P1 _ w1 H1 (Wd.le.refl _) S1 ⟨a', e1, by rw [eK.1]⟩⟩
    · exact False.elim P1
  · exact False.elim P1)
theorem si_tup (he : SE X W e fe) : SI X W tg e (iTupl fe) := PI.imp (pi_tup he) (by
  rintro σ H R ⟨en, w, sl, h, eK, S, P⟩
  refine ⟨en, w, sl, h, eK, S, Po.bind P fun s h1 v w1 H1 l1 S1 r1 P1 => ?_⟩
  split at P1
  · rename_i ds
    have r1 : Rp en.K w1.F v (.tuple ds) := r1
    unfold Rp at r1
    obtain ⟨a, vs, rfl, q, l⟩ := r1
    refine ⟨a, rfl, ⟨vs, by rw [← eK.1]; exact sqT_mono (S1.fh a) q⟩, P1 _ w1 H1 (Wd.le.refl _) S1 ?_⟩
    show ItOk en w1 (Itt X.K a) _
    rw [map_one, ← eK.1]
    exact itt_ok (fun σ w H sl h le S => sqT_mono (fun o z => S.fh _ _ (le.2 _ _ z)) q) (RSL.ofRp l)
  · rename_i ds
    have r1 : Rp en.K en.G v (.tuple ds) := r1
    unfold Rp at r1
    obtain ⟨a, vs, rfl, q, l⟩ := r1
    refine ⟨a, rfl, ⟨vs, by rw [← eK.1]; exact sqT_mono (S1.gh a) q⟩, P1 _ w1 H1 (Wd.le.refl _) S1 ?_⟩
    show ItOk en w1 (Itt X.K a) _
    rw [map_one, ← eK.1]
    exact itt_ok (fun σ w H sl h le S => sqT_mono (S.gh a) q) (RSL.ofVw S1.toSimH l)
  · exact False.elim P1)
def rngI (lo : Int) (n : Nat) : List It1 := (List.range n).map fun i => .one (.d (.int (lo + (i : Nat))))
def inB (i : Int) : Bool := decide (-1000000000 ≤ i ∧ i ≤ 1000000000)
def iRng (fa : FA) : List SV → AH → R Src := fun sl h => (fa sl h).bind fun ss h1 => match ss with
  | [.d (.int j)] => if inB j then .ok (.cn (rngI 0 j.toNat)) h1 else .st
  | _ => .st
def iRng2 (fa : FA) : List SV → AH → R Src := fun sl h => (fa sl h).bind fun ss h1 => match ss with
  | [.d (.int i), .d (.int j)] => if (inB i && inB j) = true then .ok (.cn (rngI i (j - i).toNat)) h1 else .st
  | _ => .st
theorem itr_ok {en : En} {w0 : Wd} {lo : Int} {n : Nat} : ItOk en w0 (Itr lo n) (rngI lo n) where
  goes := fun i σ w H sl h le S hi => by
    unfold rngI at hi
    rw [List.length_map, List.length_range] at hi
    exact hi
  stop := fun σ w H sl h le S => by
    unfold rngI
    rw [List.length_map, List.length_range]
    exact Nat.le_refl _
  yld := fun i σ w H sl h x H' it le S e y => by
    obtain ⟨rfl, rfl⟩ := y
    unfold rngI at e
    rw [List.getElem?_map] at e
    cases k : (List.range n)[i]? with
    | none => rw [k] at e; cases e
    | some s =>
      rw [k] at e
      cases e
      have hs : s = i := by
        obtain ⟨hi, e2⟩ := List.getElem?_eq_some_iff.mp k
        rw [List.getElem_range] at e2
        exact e2.symm
      subst hs
      exact ⟨w, Wd.le.refl _, S, by show Rp en.K w.F _ _; exact Rp.int⟩
theorem inB_ok {i : Int} (h : inB i = true) : -(2 ^ 62) ≤ i ∧ i < 2 ^ 62 := by
  unfold inB at h
  have := of_decide_eq_true h
  omega
theorem si_rng (hg : Gl X "range") (hm : X.mg "range" = none) (ha : SA X W [e] fa) (hs : starEach [e] X.env = [(false, eval e X.env)] := by rfl) : SI X W tg (.Call (.Name "range" p) [e] [] pos) (iRng fa) := PI.imp (pi_range1 hg hm ha hs) (by
  rintro σ H R ⟨en, w, sl, h, eK, S, P⟩
  refine ⟨en, w, sl, h, eK, S, Po.bind P fun ss h1 vs w1 H1 l1 S1 r1 P1 => ?_⟩
  split at P1
  · rename_i j
    split at P1
    · rename_i hj
      obtain ⟨v, vr, e1, q1, e2⟩ := r1
      have q1 : Rp en.K w1.F v (.int j) := q1
      unfold Rp at q1
      subst q1
      have e2 : vr = [] := e2
      subst e2
      obtain ⟨b1, b2⟩ := inB_ok hj
      exact ⟨j, e1, b1, b2, P1 _ w1 H1 (Wd.le.refl _) S1 itr_ok⟩
    · exact False.elim P1
  · exact False.elim P1)
def stillL : SV → Option (List SV)
  | .d (.list ds) => some (ds.map SV.d)
  | .vw (.list ds) => some (ds.map mkv)
  | _ => none
def enumI : Nat → List SV → List It1
  | _, [] => []
  | k, x :: xs => .two (.d (.int (k : Nat))) x :: enumI (k + 1) xs
def iEnu (fa : FA) : List SV → AH → R Src := fun sl h => (fa sl h).bind fun ss h1 => match ss with
  | [s] => match stillL s with
    | some xs => .ok (.cn (enumI 0 xs)) h1
    | none => .st
  | _ => .st
def zipI : List SV → List SV → List It1
  | x :: xs, y :: ys => .two x y :: zipI xs ys
  | _, _ => []
def iZip (fa : FA) : List SV → AH → R Src := fun sl h => (fa sl h).bind fun ss h1 => match ss with
  | [s, t] => match stillL s, stillL t with
    | some xs, some ys => .ok (.cn (zipI xs ys)) h1
    | _, _ => .st
  | _ => .st
end
end Zx
namespace Zx
open PySem PySem.Spec L2
def aft (sl0 : List SV) (L : Nat) (o : O) (k : List SV → AH → O) : O := match o with
  | .nx sl h => k (norm sl0 L sl h).1 (norm sl0 L sl h).2
  | .ct sl h => k (norm sl0 L sl h).1 (norm sl0 L sl h).2
  | .bk sl h => .nx (norm sl0 L sl h).1 (norm sl0 L sl h).2
  | .rt s h => .rt s h
  | .rz c sl h => .rz c sl h
  | .st => .st
def forC (sl0 : List SV) (L : Nat) (bd : Bd) (body : FS) : List It1 → List SV → AH → O
  | [], sl, h => .nx sl h
  | x :: xs, sl, h => match bd.go x sl with
    | none => .st
    | some sl1 => aft sl0 L (body sl1 h) (forC sl0 L bd body xs)
def forR (sl0 : List SV) (L : Nat) (bd : Bd) (body : FS) (n : Nat) : Nat → Nat → List SV → AH → O
  | 0, i, sl, h => match h[n]? with
    | some (some (.lst xs)) => if xs.length ≤ i then .nx sl h else .st
    | _ => .st
  | k + 1, i, sl, h => match h[n]? with
    | some (some (.lst xs)) => match xs[i]? with
      | none => .nx sl h
      | some s => match bd.go (.one s) sl with
        | none => .st
        | some sl1 => aft sl0 L (body sl1 h) (forR sl0 L bd body n k (i + 1))
    | _ => .st
def sFor (fi : List SV → AH → R Src) (bd : Bd) (body : FS) : FS := fun sl h => (fi sl h).thn sl fun s h1 => match s with
  | .cn l => forC sl h1.length bd body l sl h1
  | .ow n => match h1[n]? with
    | some (some (.lst xs)) => forR sl h1.length bd body n xs.length 0 sl h1
    | _ => .st
section
variable {X : Cx} {W : WX} {en : En} {w w0 : Wd} {D : Ends} {σ : St} {H : Hp} {sl sl0 : List SV} {h : AH}
def Nt (X : Cx) (W : WX) (en : En) (w0 : Wd) (D : Ends) (k : List SV → AH → O) : St → Hp → Prop := fun σ H => ∃ w2 sl h, w0.le w2 ∧ Sim en w2 σ H sl h ∧ PoS X W en w0 (k sl h) D
theorem aft_ok {o : O} {k : List SV → AH → O} {N : St → Hp → Prop} (le : w0.le w) (P : PoS X W en w0 (aft sl0 w0.rho.length o k) D) (hN : ∀ σ H, Nt X W en w0 D k σ H → N σ H) : PoS X W en w o { D with nx := N, ct := N, bk := D.nx } := by
  have step : ∀ sl h, PoS X W en w0 (k (norm sl0 w0.rho.length sl h).1 (norm sl0 w0.rho.length sl h).2) D → ∀ w' σ' H', w.le w' → Sim en w' σ' H' sl h → N σ' H' := fun sl h P w' σ' H' l S => by
    obtain ⟨w2, l2, S2⟩ := S.norm (sl0 := sl0) (le.trans l)
    exact hN _ _ ⟨w2, _, _, l2, S2, P⟩
  cases o with
  | nx sl h => exact step sl h P
  | ct sl h => exact step sl h P
  | bk sl h =>
    intro w' σ' H' l S
    obtain ⟨w2, l2, S2⟩ := S.norm (sl0 := sl0) (le.trans l)
    exact P w2 σ' H' l2 S2
  | rt s h => exact fun w' H' v l S r => P w' H' v (le.trans l) S r
  | rz c sl h => exact fun w' σ' H' l S => P w' σ' H' (le.trans l) S
  | st => exact P
theorem forC_ok {J : It} {g : TG} {tb : TS} {bd : Bd} {body : FS} {l : List It1} (eK : en.ok X) (ok : ItOk en w0 J l) (hg : GS X bd g) (hb : ∀ D σ H, tS X W body D σ H → tb D σ H) (S : Sim en w0 σ H sl0 h) (P : PoS X W en w0 (forC sl0 w0.rho.length bd body l sl0 h) D) :
    ∃ W : Nat → Nat → St → Hp → Prop, (∃ m, W 0 m σ H) ∧ ∀ i m σ H, W i m σ H →
      (J.stop i H ∧ D.nx σ H) ∨ (J.go i H ∧ ∃ N : St → Hp → Prop, (∀ σ' H', N σ' H' → ∃ m', m' < m ∧ W (i + 1) m' σ' H') ∧ ∀ x H', J.yld i H x H' → g x σ H' fun σ2 H2 => tb { D with nx := N, ct := N, bk := D.nx } σ2 H2) := by
  refine ⟨fun i m σ H => m = l.length - i ∧ i ≤ l.length ∧ Nt X W en w0 D (forC sl0 w0.rho.length bd body (l.drop i)) σ H, ⟨l.length, by simp, Nat.zero_le _, w0, sl0, h, Wd.le.refl _, S, by simpa using P⟩, ?_⟩
  rintro i m σ H ⟨rfl, hi, w, sl, h, le, S, P⟩
  by_cases hlt : i < l.length
  · right
    have ed : l.drop i = l[i] :: l.drop (i + 1) := List.drop_eq_getElem_cons hlt
    rw [ed] at P
    refine ⟨ok.goes i σ w H sl h le S hlt, Nt X W en w0 D (forC sl0 w0.rho.length bd body (l.drop (i + 1))), fun σ' H' p' => ⟨l.length - (i + 1), by omega, rfl, hlt, p'⟩, fun x H' y => ?_⟩
    obtain ⟨w1, l1, S1, r1⟩ := ok.yld i σ w H sl h x H' l[i] le S (List.getElem?_eq_getElem hlt) y
    unfold forC at P
    cases e : bd.go l[i] sl with
    | none => rw [e] at P; exact False.elim P
    | some sl1 =>
      rw [e] at P
      refine hg en w1 σ H' sl sl1 h x l[i] _ eK S1 r1 e fun σ2 S2 _ => hb _ _ _ ⟨en, w1, sl1, h, eK, S2, ?_⟩
      exact aft_ok (le.trans l1) P fun _ _ z => z
  · have e : i = l.length := by omega
    subst e
    rw [List.drop_length] at P
    unfold forC at P
    exact .inl ⟨ok.stop σ w H sl h le S, P w σ H le S⟩
theorem forR_ok {a : Addr} {g : TG} {tb : TS} {bd : Bd} {body : FS} {n k0 : Nat} (eK : en.ok X) (ha : w0.rho[n]? = some a) (hg : GS X bd g) (hb : ∀ D σ H, tS X W body D σ H → tb D σ H) (S : Sim en w0 σ H sl0 h) (P : PoS X W en w0 (forR sl0 w0.rho.length bd body n k0 0 sl0 h) D) :
    ∃ W : Nat → Nat → St → Hp → Prop, (∃ m, W 0 m σ H) ∧ ∀ i m σ H, W i m σ H →
      ((Itl X.K a).stop i H ∧ D.nx σ H) ∨ ((Itl X.K a).go i H ∧ ∃ N : St → Hp → Prop, (∀ σ' H', N σ' H' → ∃ m', m' < m ∧ W (i + 1) m' σ' H') ∧ ∀ x H', (Itl X.K a).yld i H x H' → g x σ H' fun σ2 H2 => tb { D with nx := N, ct := N, bk := D.nx } σ2 H2) := by
  refine ⟨fun i m σ H => Nt X W en w0 D (forR sl0 w0.rho.length bd body n m i) σ H, ⟨k0, w0, sl0, h, Wd.le.refl _, S, P⟩, ?_⟩
  rintro i m σ H ⟨w, sl, h, le, S, P⟩
  have live : ∀ xs, h[n]? = some (some (.lst xs)) → ∃ vs, H a = some (.lst vs) ∧ RSL en w vs xs := fun xs hx => by
    obtain ⟨a', e2, ⟨vs, hv, rv⟩, _, _⟩ := S.live n _ hx
    have ea : a' = a := Option.some.inj (e2.symm.trans (prefix_get le.1 ha))
    subst ea
    exact ⟨vs, hv, rv⟩
  cases m with
  | zero =>
    unfold forR at P
    split at P
    · rename_i xs hx
      obtain ⟨vs, hv, rv⟩ := live xs hx
      split at P
      · rename_i hl
        exact .inl ⟨⟨vs, .of hv, by rw [RSL.length rv]; exact hl⟩, P w σ H le S⟩
      · exact False.elim P
    · exact False.elim P
  | succ k =>
    unfold forR at P
    split at P
    · rename_i xs hx
      obtain ⟨vs, hv, rv⟩ := live xs hx
      split at P
      · rename_i hxi
        exact .inl ⟨⟨vs, .of hv, by rw [RSL.length rv]; exact List.getElem?_eq_none_iff.mp hxi⟩, P w σ H le S⟩
      · rename_i s hs
        obtain ⟨v, ev, rs⟩ := RSL.get rv hs
        refine .inr ⟨⟨vs, v, .of hv, ev⟩, Nt X W en w0 D (forR sl0 w0.rho.length bd body n k (i + 1)), fun σ' H' p' => ⟨k, Nat.lt_succ_self k, p'⟩, fun x H' y => ?_⟩
        obtain ⟨rfl, y⟩ := y
        have z : v = x := Option.some.inj (ev.symm.trans (y vs (.of hv)))
        subst z
        cases e : bd.go (.one s) sl with
        | none => rw [e] at P; exact False.elim P
        | some sl1 =>
          rw [e] at P
          refine hg en w σ _ sl sl1 h v (.one s) _ eK S rs e fun σ2 S2 _ => hb _ _ _ ⟨en, w, sl1, h, eK, S2, ?_⟩
          exact aft_ok le P fun _ _ z => z
    · exact False.elim P
end
section
variable {X : Cx} {W : WX} {iter tg : Expr} {body : List Stmt} {fi : List SV → AH → R Src} {bd : Bd} {g : TG} {fb : FS} {pos : Pos}
theorem ss_for (hp : PassesOwn (model X.prog X.w) X.A X.env X.xe) (hc : X.calm = true) (hi : SI X W tg iter fi) (hg : PG X tg g) (gs : GS X bd g) (hb : SSs X W body fb)
    (hs : ∀ x, foldedSetIterable iter X.env x = pure x := by intro _; rfl) : SS X W (.For tg iter body [] pos) (sFor fi bd fb) := PS.imp (ps_for hp hc hi hg hb hs) (by
  rintro D σ H ⟨en, w, sl, h, eK, S, P⟩
  refine ⟨en, w, sl, h, eK, S, Po.thn P fun s h1 J w1 H1 l1 S1 r1 P1 => ?_⟩
  have hl : h1.length = w1.rho.length := S1.len.symm
  rw [hl] at P1
  cases s with
  | cn l => exact forC_ok eK r1 gs (fun _ _ _ q => q) S1 P1
  | ow n =>
    obtain ⟨a, ha, rfl⟩ := r1
    have P1 : PoS X W en w1 (match h1[n]? with | some (some (.lst xs)) => forR sl w1.rho.length bd fb n xs.length 0 sl h1 | _ => .st) D := P1
    split at P1
    · rw [eK.1]; exact forR_ok eK ha gs (fun _ _ _ q => q) S1 P1
    · exact False.elim P1)
def whL (sl0 : List SV) (L : Nat) (t : FT) (body : FS) : Nat → List SV → AH → O
  | 0, _, _ => .st
  | k + 1, sl, h => (t sl h).thn sl fun b h1 => if b = true then aft sl0 L (body sl h1) (whL sl0 L t body k) else .nx sl h1
def sWhile (fuel : Nat) (t : FT) (body : FS) : FS := fun sl h => whL sl h.length t body fuel sl h
theorem ss_while {c : Expr} {ft : FT} (fuel : Nat) (hp : PassesOwn (model X.prog X.w) X.A X.env X.xe) (hc : STt X W c ft) (hb : SSs X W body fb) : SS X W (.While c body [] pos) (sWhile fuel ft fb) := PS.imp (ps_while hp hc hb) (by
  rintro D σ H ⟨en, w, sl, h, eK, S, P⟩
  unfold sWhile at P
  rw [show h.length = w.rho.length from S.len.symm] at P
  refine ⟨fun m σ H => Nt X W en w D (whL sl w.rho.length ft fb m) σ H, ⟨fuel, w, sl, h, Wd.le.refl _, S, P⟩, ?_⟩
  rintro m σ1 H1 ⟨w1, sl1, h1, le, S1, P1⟩
  cases m with
  | zero => unfold whL at P1; exact False.elim P1
  | succ k =>
    unfold whL at P1
    refine ⟨en, w1, sl1, h1, eK, S1, ?_⟩
    generalize e : ft sl1 h1 = r at P1 ⊢
    cases r with
    | st => exact False.elim P1
    | rz cc hh => exact fun w' H' l S' => P1 w' σ1 H' (le.trans l) S'
    | ok b h2 =>
      intro b' w2 H2 l2 S2 r2
      have r2 : b' = b := r2
      subst r2
      have P1 : PoS X W en w (if b' = true then aft sl w.rho.length (fb sl1 h2) (whL sl w.rho.length ft fb k) else .nx sl1 h2) D := P1
      cases b' with
      | true =>
        rw [if_pos rfl] at P1 ⊢
        exact ⟨Nt X W en w D (whL sl w.rho.length ft fb k), fun σ' H' p' => ⟨k, Nat.lt_succ_self k, p'⟩, en, w2, sl1, h2, eK, S2, aft_ok (le.trans l2) P1 fun _ _ z => z⟩
      | false =>
        rw [if_neg (by decide)] at P1 ⊢
        exact P1 w2 σ1 H2 (le.trans l2) S2)
end
end Zx
namespace Zx
open PySem PySem.Spec L2
def wipeS (sl : List SV) : List Nat → List SV
  | [] => sl
  | v :: vs => (wipeS sl vs).set v .un
def nrz {α : Type} : R α → R α
  | .rz _ _ => .st
  | .ok a h => .ok a h
  | .st => .st
def lcPut (L : Nat) (slw : List SV) (s : SV) (h : AH) (k : AH → R Unit) : R Unit := match h[L]? with
  | some (some (.lst acc)) => if acc.length < 1000000 then k (norm [] (L + 1) slw (h.set L (some (.lst (acc ++ [s]))))).2 else .st
  | _ => .st
def lcOne (L : Nat) (bd : Bd) (tt : FT) (fe : FE) (slw : List SV) (it : It1) (h : AH) (k : AH → R Unit) : R Unit := match bd.go it slw with
  | none => .st
  | some sl1 => (nrz (tt sl1 h)).bind fun b h1 => if b = true then (nrz (fe sl1 h1)).bind fun s h2 => lcPut L slw s h2 k else k (norm [] (L + 1) slw h1).2
def lcC (L : Nat) (bd : Bd) (tt : FT) (fe : FE) (slw : List SV) : List It1 → AH → R Unit
  | [], h => .ok () h
  | it :: its, h => lcOne L bd tt fe slw it h (lcC L bd tt fe slw its)
def lcR (L : Nat) (bd : Bd) (tt : FT) (fe : FE) (slw : List SV) (n : Nat) : Nat → Nat → AH → R Unit
  | 0, i, h => match h[n]? with
    | some (some (.lst xs)) => if xs.length ≤ i then .ok () h else .st
    | _ => .st
  | k + 1, i, h => match h[n]? with
    | some (some (.lst xs)) => match xs[i]? with
      | none => .ok () h
      | some s => lcOne L bd tt fe slw (.one s) h (lcR L bd tt fe slw n k (i + 1))
    | _ => .st
def fLc (fi : List SV → AH → R Src) (bd : Bd) (tt : FT) (fe : FE) (vs : List Nat) : FE := fun sl h => (fi sl h).bind fun s h1 => match s with
  | .cn l => (lcC h1.length bd tt fe (wipeS sl vs) l (h1 ++ [some (.lst [])])).bind fun _ h2 => .ok (.r h1.length) h2
  | .ow n => match h1[n]? with
    | some (some (.lst xs)) => (lcR h1.length bd tt fe (wipeS sl vs) n xs.length 0 (h1 ++ [some (.lst [])])).bind fun _ h2 => .ok (.r h1.length) h2
    | _ => .st
theorem wipe_get (σ : St) : ∀ (vs : List Nat) (j : Nat), (wipe σ vs)[j]? = if j ∈ vs then (if j < σ.length then some none else none) else σ[j]?
  | [], j => by unfold wipe; rw [if_neg (by simp)]
  | v :: vs, j => by
    unfold wipe
    by_cases h : v = j
    · subst h
      rw [if_pos List.mem_cons_self]
      by_cases hl : v < σ.length
      · rw [if_pos hl, List.getElem?_set_self (by rw [wipe_length]; exact hl)]
      · rw [if_neg hl, List.getElem?_eq_none (by rw [List.length_set, wipe_length]; omega)]
    · rw [List.getElem?_set_ne h, wipe_get σ vs j]
      have : (j ∈ v :: vs) ↔ j ∈ vs := ⟨fun z => (List.mem_cons.mp z).elim (fun e => absurd e.symm h) id, List.mem_cons_of_mem _⟩
      by_cases hm : j ∈ vs
      · rw [if_pos hm, if_pos (this.mpr hm)]
      · rw [if_neg hm, if_neg (fun z => hm (this.mp z))]
theorem wipe_chg {vs is : List Nat} {σ σ' : St} (hs : ∀ i ∈ is, i ∈ vs) (c : Chg is (wipe σ vs) σ') : wipe σ' vs = wipe σ vs := by
  apply List.ext_getElem?
  intro j
  have hl : σ'.length = σ.length := c.1.trans (wipe_length σ vs)
  rw [wipe_get, wipe_get, hl]
  by_cases hj : j ∈ vs
  · rw [if_pos hj, if_pos hj]
  · rw [if_neg hj, if_neg hj, c.2 j (fun z => hj (hs j z)), wipe_get, if_neg hj]
theorem Slt.wipe {en : En} {w : Wd} {σ : St} : ∀ {sl : List SV} (vs : List Nat), Slt en w σ sl → Slt en w (L2.wipe σ vs) (wipeS sl vs)
  | sl, [], q => q
  | sl, v :: vs, q => by
    have ih := Slt.wipe vs q
    unfold L2.wipe wipeS
    refine ⟨by rw [List.length_set, List.length_set]; exact ih.1, fun j s e => ?_⟩
    by_cases h : v = j
    · subst h
      by_cases hv : v < (wipeS sl vs).length
      · rw [List.getElem?_set_self hv] at e
        cases e; exact .inl rfl
      · rw [List.getElem?_eq_none (by rw [List.length_set]; omega)] at e; cases e
    · rw [List.getElem?_set_ne h] at e
      rw [List.getElem?_set_ne h]
      exact ih.2 j s e
abbrev W0 : WX := fun _ _ _ _ => False
abbrev STs (X : Cx) (W : WX) (es : List Expr) (f : FT) : Prop := PTs X es (tT X W f)
def fYes : FT := fun _ h => .ok true h
theorem PTs.imp {X : Cx} {e : List Expr} {t t' : TT} (h : PTs X e t) (k : ∀ σ H Q, t' σ H Q → t σ H Q) : PTs X e t' := ⟨fun pins s σ H Q I q => h.run pins s σ H Q I (k σ H Q q)⟩
theorem sts_nil {X : Cx} {W : WX} : STs X W [] fYes := PTs.imp pts_nil (by
  rintro σ H Q ⟨en, w, sl, h, eK, S, P⟩
  exact P true w H (Wd.le.refl _) S rfl)
section
variable {X : Cx} {W : WX} {en : En} {w1 w : Wd} {σ : St} {H : Hp} {sl : List SV} {h : AH} {D : Addr} {Q : VK}
def Lt (X : Cx) (W : WX) (en : En) (w1 : Wd) (D : Addr) (σ : St) (sl : List SV) (vs : List Nat) (L : Nat) (Q : VK) (k : AH → R Unit) (H : Hp) : Prop :=
  ∃ w h, (w1.ow D).le w ∧ Sim en w (wipe σ vs) H (wipeS sl vs) h ∧ Po RS X W en w1 σ sl ((k h).bind fun _ h2 => .ok (.r L) h2) Q
theorem norm_nil {L : Nat} {slw : List SV} {h : AH} : (norm [] L slw h).1 = slw := by
  unfold norm
  split <;> (show reset [] slw = slw; unfold reset; rfl)
theorem lcOne_ok {J : It} {bd : Bd} {g : TG} {tt : FT} {fe : FE} {vs : List Nat} {L : Nat} {it : It1} {k : AH → R Unit} {x : V} (eK : en.ok X) (hL : L = w1.rho.length) (gs : GS X bd g) (hv : ∀ i ∈ bd.is, i ∈ vs) (sl0 : Slt en w1 σ sl)
    (le : (w1.ow D).le w) (S : Sim en w (wipe σ vs) H (wipeS sl vs) h) (r : RepI en w H x it) (P : Po RS X W en w1 σ sl ((lcOne L bd tt fe (wipeS sl vs) it h k).bind fun _ h2 => .ok (.r L) h2) Q) :
    g x (wipe σ vs) H fun σ2 H2 => wipe σ2 vs = wipe σ vs ∧ tT X W0 tt σ2 H2 fun b H3 =>
      if b = true then tE X W0 fe σ2 H3 fun y H4 => ∃ acc, H4 D = some (.lst acc) ∧ acc.length < sizeLine ∧ Lt X W en w1 D σ sl vs L Q k (upd H4 D (.lst (acc ++ [y]))) else Lt X W en w1 D σ sl vs L Q k H3 := by
  have lw : w1.le w := le_ow.trans le
  have again : ∀ w3 H3 σ3 sl3 h3, (w1.ow D).le w3 → Sim en w3 σ3 H3 sl3 h3 → Po RS X W en w1 σ sl ((k (norm [] (L + 1) (wipeS sl vs) h3).2).bind fun _ h2 => .ok (.r L) h2) Q → Lt X W en w1 D σ sl vs L Q k H3 := fun w3 H3 σ3 sl3 h3 l3 S3 P3 => by
    have S4 : Sim en w3 (wipe σ vs) H3 (wipeS sl vs) h3 := ⟨S3.toSimH, Slt.wipe vs (sl0.mono (le_ow.trans l3))⟩
    obtain ⟨w2, l2, S2⟩ := S4.norm (sl0 := []) l3
    have e1 : (w1.ow D).rho.length = L + 1 := by
      show (w1.rho ++ [D]).length = L + 1
      rw [List.length_append, hL]; rfl
    rw [e1] at S2
    rw [norm_nil] at S2
    exact ⟨w2, _, l2, S2, P3⟩
  unfold lcOne at P
  cases e : bd.go it (wipeS sl vs) with
  | none => rw [e] at P; exact False.elim P
  | some sl1 =>
    rw [e] at P
    refine gs en w (wipe σ vs) H _ sl1 h x it _ eK S r e fun σ2 S2 c => ⟨wipe_chg hv c, en, w, sl1, h, eK, S2, ?_⟩
    have P : Po RS X W en w1 σ sl (((nrz (tt sl1 h)).bind fun b h1 => if b = true then (nrz (fe sl1 h1)).bind fun s h2 => lcPut L (wipeS sl vs) s h2 k else k (norm [] (L + 1) (wipeS sl vs) h1).2).bind fun _ h2 => .ok (.r L) h2) Q := P
    generalize et : tt sl1 h = rt at P ⊢
    cases rt with
    | st => exact False.elim P
    | rz cc hh => exact False.elim P
    | ok b h1 =>
      intro b' w2 H2 l2 S3 r2
      have r2 : b' = b := r2
      subst r2
      have P : Po RS X W en w1 σ sl ((if b' = true then (nrz (fe sl1 h1)).bind fun s h2 => lcPut L (wipeS sl vs) s h2 k else k (norm [] (L + 1) (wipeS sl vs) h1).2).bind fun _ h2 => .ok (.r L) h2) Q := P
      cases b' with
      | false =>
        rw [if_neg (by decide)] at P ⊢
        exact again w2 H2 σ2 sl1 h1 (le.trans l2) S3 P
      | true =>
        rw [if_pos rfl] at P ⊢
        refine ⟨en, w2, sl1, h1, eK, S3, ?_⟩
        generalize ee : fe sl1 h1 = re at P ⊢
        cases re with
        | st => exact False.elim P
        | rz cc hh => exact False.elim P
        | ok s h2 =>
          intro y w4 H4 l4 S5 r5
          have P : Po RS X W en w1 σ sl ((lcPut L (wipeS sl vs) s h2 k).bind fun _ h2 => .ok (.r L) h2) Q := P
          unfold lcPut at P
          split at P
          · rename_i acc hacc
            split at P
            · rename_i hlt
              obtain ⟨a, ea, ⟨us, hu, rl⟩, _, _⟩ := S5.live L _ hacc
              have l5 := (le.trans l2).trans l4
              have eD : w4.rho[L]? = some D := by
                refine prefix_get l5.1 ?_
                show (w1.rho ++ [D])[L]? = some D
                rw [hL, List.getElem?_append_right (Nat.le_refl _), Nat.sub_self]
                rfl
              have : a = D := Option.some.inj (ea.symm.trans eD)
              subst this
              refine ⟨us, hu, ?_, ?_⟩
              · rw [RSL.length rl, sizeLine_eq]; omega
              · exact again w4 _ σ2 sl1 _ l5 (S5.write hacc ea (RSL.app (ts := [s]) rl ⟨y, [], rfl, r5, rfl⟩)) P
            · exact False.elim P
          · exact False.elim P
theorem lc_t {fi : List SV → AH → R Src} {bd : Bd} {g : TG} {tt : FT} {fe : FE} {vs : List Nat} (gs : GS X bd g) (hv : ∀ i ∈ bd.is, i ∈ vs) {σ : St} {H : Hp} {Q : VK} (q : tE X W (fLc fi bd tt fe vs) σ H Q) :
    tLc (tI X W fi) g (tT X W0 tt) (tE X W0 fe) vs σ H Q := by
  obtain ⟨en, w, sl, h, eK, S, P⟩ := q
  refine ⟨en, w, sl, h, eK, S, Po.bind P fun s h1 J w1 H1 l1 S1 r1 P1 => ?_⟩
  intro D nD
  have S2 : Sim en (w1.ow D) (wipe σ vs) (upd H1 D (.lst [])) (wipeS sl vs) (h1 ++ [some (.lst [])]) := by
    have z := S1.newO (vs := []) (xs := []) nD rfl
    exact ⟨z.toSimH, Slt.wipe vs z.slots⟩
  have hL : h1.length = w1.rho.length := S1.len.symm
  have fin : ∀ (k : AH → R Unit) w2 h2 H2, (w1.ow D).le w2 → Sim en w2 (wipe σ vs) H2 (wipeS sl vs) h2 → k h2 = .ok () h2 → Po RS X W en w1 σ sl ((k h2).bind fun _ h2 => .ok (.r h1.length) h2) Q → Q (.ref D) H2 := fun k w2 h2 H2 l2 S3 e P3 => by
    rw [e] at P3
    refine P3 (.ref D) w2 H2 (le_ow.trans l2) ⟨S3.toSimH, S1.slots.mono (le_ow.trans l2)⟩ ⟨D, prefix_get l2.1 ?_, rfl⟩
    show (w1.rho ++ [D])[h1.length]? = some D
    rw [hL, List.getElem?_append_right (Nat.le_refl _), Nat.sub_self]
    rfl
  cases s with
  | cn l =>
    have ok : ItOk en w1 J l := r1
    refine ⟨fun i m H => m = l.length - i ∧ i ≤ l.length ∧ Lt X W en w1 D σ sl vs h1.length Q (lcC h1.length bd tt fe (wipeS sl vs) (l.drop i)) H, ⟨l.length, by simp, Nat.zero_le _, _, _, Wd.le.refl _, S2, by simpa using P1⟩, ?_⟩
    rintro i m H ⟨rfl, hi, w2, h2, le, S3, P2⟩
    by_cases hlt : i < l.length
    · right
      have ed : l.drop i = l[i] :: l.drop (i + 1) := List.drop_eq_getElem_cons hlt
      rw [ed] at P2
      refine ⟨ok.goes i _ w2 H _ h2 (le_ow.trans le) S3 hlt, Lt X W en w1 D σ sl vs h1.length Q (lcC h1.length bd tt fe (wipeS sl vs) (l.drop (i + 1))), fun H' p' => ⟨l.length - (i + 1), by omega, rfl, hlt, p'⟩, fun x H' y => ?_⟩
      obtain ⟨w3, l3, S4, r4⟩ := ok.yld i _ w2 H _ h2 x H' l[i] (le_ow.trans le) S3 (List.getElem?_eq_getElem hlt) y
      unfold lcC at P2
      exact lcOne_ok (J := J) eK hL gs hv S1.slots (le.trans l3) S4 r4 P2
    · have e : i = l.length := by omega
      subst e
      rw [List.drop_length] at P2
      exact .inl ⟨ok.stop _ w2 H _ h2 (le_ow.trans le) S3, fin _ w2 h2 H le S3 (by unfold lcC; rfl) P2⟩
  | ow n =>
    obtain ⟨a, ha, rfl⟩ := r1
    have P1 : Po RS X W en w1 σ sl (match h1[n]? with | some (some (.lst xs)) => (lcR h1.length bd tt fe (wipeS sl vs) n xs.length 0 (h1 ++ [some (.lst [])])).bind fun _ h2 => .ok (.r h1.length) h2 | _ => .st) Q := P1
    split at P1
    · rename_i xs0 hx0
      refine ⟨fun i m H => Lt X W en w1 D σ sl vs h1.length Q (lcR h1.length bd tt fe (wipeS sl vs) n m i) H, ⟨xs0.length, _, _, Wd.le.refl _, S2, P1⟩, ?_⟩
      rintro i m H ⟨w2, h2, le, S3, P2⟩
      have live : ∀ xs, h2[n]? = some (some (.lst xs)) → ∃ vs, H a = some (.lst vs) ∧ RSL en w2 vs xs := fun xs hx => by
        obtain ⟨a', e2, ⟨us, hv, rv⟩, _, _⟩ := S3.live n _ hx
        have ea : a' = a := Option.some.inj (e2.symm.trans (prefix_get (le_ow.trans le).1 ha))
        subst ea
        exact ⟨us, hv, rv⟩
      cases m with
      | zero =>
        generalize ek : lcR h1.length bd tt fe (wipeS sl vs) n 0 i = k at P2
        have ek2 := congrFun ek h2
        unfold lcR at ek2
        split at ek2
        · rename_i xs hx
          obtain ⟨us, hu, rv⟩ := live xs hx
          split at ek2
          · rename_i hl
            exact .inl ⟨⟨us, .of hu, by rw [RSL.length rv]; exact hl⟩, fin k w2 h2 H le S3 ek2.symm P2⟩
          · rw [← ek2] at P2; exact False.elim P2
        · rw [← ek2] at P2; exact False.elim P2
      | succ m =>
        generalize ek : lcR h1.length bd tt fe (wipeS sl vs) n (m + 1) i = k at P2
        have ek2 := congrFun ek h2
        unfold lcR at ek2
        split at ek2
        · rename_i xs hx
          obtain ⟨us, hu, rv⟩ := live xs hx
          split at ek2
          · rename_i hxi
            exact .inl ⟨⟨us, .of hu, by rw [RSL.length rv]; exact List.getElem?_eq_none_iff.mp hxi⟩, fin k w2 h2 H le S3 ek2.symm P2⟩
          · rename_i s hs
            obtain ⟨v, ev, rs⟩ := RSL.get rv hs
            rw [← ek2] at P2
            refine .inr ⟨⟨us, v, .of hu, ev⟩, Lt X W en w1 D σ sl vs h1.length Q (lcR h1.length bd tt fe (wipeS sl vs) n m (i + 1)), fun H' p' => ⟨m, Nat.lt_succ_self m, p'⟩, fun x H' y => ?_⟩
            obtain ⟨rfl, y⟩ := y
            have z : v = x := Option.some.inj (ev.symm.trans (y us (by exact .of hu)))
            subst z
            exact lcOne_ok (J := Itl en.K a) eK hL gs hv S1.slots le S3 (it := .one s) rs P2
        · rw [← ek2] at P2; exact False.elim P2
    · exact False.elim P1
end
end Zx
namespace Zx
open PySem PySem.Spec L2
section
variable {X : Cx} {W : WX}
theorem se_lc {elt tg iter : Expr} {ifs : List Expr} {scope : Scope} {own : List (Str × Nat)} {pos : Pos} {fi : List SV → AH → R Src} {bd : Bd} {g : TG} {tt : FT} {fe : FE} (hc : X.calm = true) (hN : X.N.Nodup) (hi : SI X W tg iter fi) (ok : BlkOk X.N X.env.scope scope own)
    (hg : ∀ (s : Shared) (H : Hp) (C : Addr) (cl : List (Str × Addr)) (fp : List Addr), PG (X.blk s H scope (compEnvC scope cl C X.env) fp) tg g) (ht : ∀ (s : Shared) (H : Hp) (C : Addr) (cl : List (Str × Addr)) (fp : List Addr), STs (X.blk s H scope (compEnvC scope cl C X.env) fp) W0 ifs tt)
    (he : ∀ (s : Shared) (H : Hp) (C : Addr) (cl : List (Str × Addr)) (fp : List Addr), SE (X.blk s H scope (compEnvC scope cl C X.env) fp) W0 elt fe) (gs : GS X bd g) (hv : ∀ i ∈ bd.is, i ∈ own.map (·.2)) (hs : ∀ x, foldedSetIterable iter X.env x = pure x := by intro _; rfl) :
    SE X W (.ListComp elt [⟨tg, iter, ifs, 0⟩] scope pos) (fLc fi bd tt fe (own.map (·.2))) :=
  PE.imp (pe_lc hc hN hi ok hg ht he hs) fun _ _ _ q => lc_t gs hv q
theorem ss_setLc {i : Nat} {y : Str} {py : Pos} {elt tg iter : Expr} {ifs : List Expr} {scope : Scope} {own : List (Str × Nat)} {pos spos : Pos} {fi : List SV → AH → R Src} {bd : Bd} {g : TG} {tt : FT} {fe f : FE} (k : ∀ σ H Q, tE X W f σ H Q → tE X W (fLc fi bd tt fe (own.map (·.2))) σ H Q) (hc : X.calm = true) (hN : X.N.Nodup) (hy : X.N[i]? = some y) (hyl : X.env.scope.names.lookup y = some .local)
    (hsw : swapsWith (.ListComp elt [⟨tg, iter, ifs, 0⟩] scope pos) (some (.Name y py)) spos.line X.env = pure true) (hi : SI X W tg iter fi) (ok : BlkOk X.N X.env.scope scope own)
    (hg : ∀ (s : Shared) (H : Hp) (C : Addr) (cl : List (Str × Addr)) (fp : List Addr), PG (X.blk s H scope (compEnvC scope cl C X.env) fp) tg g) (ht : ∀ (s : Shared) (H : Hp) (C : Addr) (cl : List (Str × Addr)) (fp : List Addr), STs (X.blk s H scope (compEnvC scope cl C X.env) fp) W0 ifs tt)
    (he : ∀ (s : Shared) (H : Hp) (C : Addr) (cl : List (Str × Addr)) (fp : List Addr), SE (X.blk s H scope (compEnvC scope cl C X.env) fp) W0 elt fe) (gs : GS X bd g) (hv : ∀ i ∈ bd.is, i ∈ own.map (·.2)) (hs : ∀ x, foldedSetIterable iter X.env x = pure x := by intro _; rfl) :
    SS X W (.Assign [.Name y py] (.ListComp elt [⟨tg, iter, ifs, 0⟩] scope pos) spos) (sSet i f) :=
  PS.imp (ps_setLc hc hN hy hyl hsw hi ok hg ht he hs) (by
    rintro D σ H ⟨en, w, sl, h, eK, S, P⟩
    exact lc_t gs hv (k σ H _ ⟨en, w, sl, h, eK, S, Po.thn P fun s h1 v w1 H1 l1 S1 r1 P1 => P1 w1 _ H1 (Wd.le.refl _) (S1.set r1 i)⟩))
theorem RSL.one {en : En} {w : Wd} {vs : List V} {s : SV} (r : RSL en w vs [s]) : ∃ v, vs = [v] ∧ RS en w v s := by
  obtain ⟨v, vr, e, a, b⟩ := r
  have b : vr = [] := b
  subst b
  exact ⟨v, e, a⟩
theorem RSL.two {en : En} {w : Wd} {vs : List V} {s t : SV} (r : RSL en w vs [s, t]) : ∃ v u, vs = [v, u] ∧ RS en w v s ∧ RS en w u t := by
  obtain ⟨v, vr, e, a, b⟩ := r
  obtain ⟨u, rfl, c⟩ := RSL.one b
  exact ⟨v, u, e, a, c⟩
theorem RS.int {en : En} {w : Wd} {v : V} {i : Int} (r : RS en w v (.d (.int i))) : v = .int i := by
  have r : Rp en.K w.F v (.int i) := r
  unfold Rp at r; exact r
theorem RS.bool {en : En} {w : Wd} {v : V} {i : Bool} (r : RS en w v (.d (.bool i))) : v = .bl i := by
  have r : Rp en.K w.F v (.bool i) := r
  unfold Rp at r; exact r
theorem RS.str {en : En} {w : Wd} {v : V} {i : Str} (r : RS en w v (.d (.str i))) : v = .str i := by
  have r : Rp en.K w.F v (.str i) := r
  unfold Rp at r; exact r
theorem RS.non {en : En} {w : Wd} {v : V} (r : RS en w v (.d .none)) : v = .non := by
  have r : Rp en.K w.F v .none := r
  unfold Rp at r; exact r
def gLen : List SV → AH → R SV := fun ss h => match ss with
  | [s] => match s with
    | .d (.str z) => if z.length ≤ sizeLine then .ok (.d (.int z.length)) h else .st
    | s => match itemsOf h s with
      | some xs => .ok (.d (.int xs.length)) h
      | none => .st
  | _ => .st
abbrev rLen (X : Cx) : List V → Hp → VK → Prop := fun xs H Q => ∃ x n, xs = [x] ∧ LenV X.K x H n ∧ Q (.int n) H
theorem cs_len : CallS X (rLen X) gLen := by
  intro W en w σ H sl h xs ss Q eK S r P
  unfold gLen at P
  split at P
  · obtain ⟨v, rfl, rv⟩ := r.one
    split at P
    · split at P
      · rename_i z hz
        cases RS.str rv
        exact ⟨_, _, rfl, ⟨hz, rfl⟩, P.int S⟩
      · exact False.elim P
    · split at P
      · rename_i xs hx
        obtain ⟨a, vs, rfl, q, rl⟩ := items_ok S.toSimH rv hx
        refine ⟨.ref a, xs.length, rfl, ?_, P.int S⟩
        rw [eK.1] at q
        rcases q with q | q
        · exact .inl ⟨vs, q, (RSL.length rl).symm⟩
        · exact .inr ⟨vs, q, (RSL.length rl).symm⟩
      · exact False.elim P
  · exact False.elim P
def gI2 (k : Int → Int → Int) : List SV → AH → R SV := fun ss h => match ss with
  | [.d (.int i), .d (.int j)] => .ok (.d (.int (k i j))) h
  | _ => .st
def gI1 (k : Int → Int) : List SV → AH → R SV := fun ss h => match ss with
  | [.d (.int i)] => .ok (.d (.int (k i))) h
  | _ => .st
def gInt : List SV → AH → R SV := fun ss h => match ss with
  | [.d (.int i)] => .ok (.d (.int i)) h
  | [.d (.bool k)] => .ok (.d (.int (if k = true then 1 else 0))) h
  | _ => .st
def intsOf : List SV → Option (List Int)
  | [] => some []
  | .d (.int i) :: r => (intsOf r).map (i :: ·)
  | _ => none
def bolsOf : List SV → Option (List Bool)
  | [] => some []
  | .d (.bool i) :: r => (bolsOf r).map (i :: ·)
  | _ => none
theorem bols_ok {en : En} {w : Wd} : ∀ {ss : List SV} {vs : List V} {ns : List Bool}, RSL en w vs ss → bolsOf ss = some ns → vs = ns.map V.bl
  | [], vs, ns, r, e => by unfold bolsOf at e; cases e; exact r
  | s :: ss, vs, ns, ⟨x, q, e1, a, b⟩, e => by
    unfold bolsOf at e
    split at e
    · rename_i heq; cases heq
    · rename_i i r heq
      cases heq
      cases k : bolsOf ss with
      | none => rw [k] at e; cases e
      | some n2 =>
        rw [k] at e
        cases e
        cases RS.bool a
        rw [e1, List.map_cons, ← bols_ok b k]
    · cases e
def lstInts (h : AH) (s : SV) : Option (List Int) := match lstOf h s with
  | some xs => intsOf xs
  | none => none
def gSum : List SV → AH → R SV := fun ss h => match ss with
  | [s] => match lstInts h s with
    | some ns => .ok (.d (.int ns.sum)) h
    | none => .st
  | _ => .st
def lmax : List Int → Int
  | [] => 0
  | [x] => x
  | x :: y :: r => max x (lmax (y :: r))
def gBools (k : List Bool → Bool) : List SV → AH → R SV := fun ss h => match ss with
  | [s] => match lstOf h s with
    | some xs => match bolsOf xs with
      | some bs => .ok (.d (.bool (k bs))) h
      | none => .st
    | none => .st
  | _ => .st
theorem cs_bools {k : List Bool → Bool} : CallS X (fun vs H Q => ∃ (a : Addr) (bs : List Bool), vs = [V.ref a] ∧ SqL X.K H a (bs.map V.bl) ∧ Q (.bl (k bs)) H) (gBools k) := by
  intro W en w σ H sl h xs ss Q eK S r P
  unfold gBools at P
  split at P
  · obtain ⟨v, rfl, r1⟩ := r.one
    split at P
    · rename_i xs hx
      split at P
      · rename_i bs hb
        obtain ⟨a, vs, rfl, q, rl⟩ := lst_ok S.toSimH r1 hx
        rw [bols_ok rl hb] at q
        exact ⟨a, bs, rfl, .of q, P.bool S⟩
      · exact False.elim P
    · exact False.elim P
  · exact False.elim P
def gList : List SV → AH → R SV := fun ss h => match ss with
  | [s] => match itemsOf h s with
    | some xs => .ok (.r h.length) (h ++ [some (.lst xs)])
    | none => .st
  | _ => .st
theorem cs_list : CallS X (fun xs H Q => ∃ p ys, xs = [.ref p] ∧ (SqL X.K H p ys ∨ SqT X.K H p ys) ∧ ∀ l, H l = none → Q (.ref l) (upd H l (.lst ys))) gList := by
  intro W en w σ H sl h xs ss Q eK S r P
  unfold gList at P
  split at P
  · obtain ⟨v, rfl, r1⟩ := r.one
    split at P
    · rename_i xs hx
      obtain ⟨a, vs, rfl, q, rl⟩ := items_ok S.toSimH r1 hx
      rw [eK.1] at q
      exact ⟨a, vs, rfl, q, fun l nl => P _ (w.ow l) _ le_ow (S.newO nl rl) S.toSimH.rs_new⟩
    · exact False.elim P
  · exact False.elim P
def gTuple : List SV → AH → R SV := fun ss h => match ss with
  | [s] => match lstOf h s with
    | some xs => match allD xs with
      | some ds => .ok (.d (.tuple ds)) h
      | none => .st
    | none => match s with
      | .d (.tuple ds) => .ok (.d (.tuple ds)) h
      | _ => .st
  | _ => .st
theorem cs_tuple : CallS X (fun xs H Q => ∃ p ys, xs = [.ref p] ∧ ((SqL X.K H p ys ∧ ∀ l, H l = none → Q (.ref l) (upd H l (.tup ys))) ∨ (SqT X.K H p ys ∧ Q (.ref p) H))) gTuple := by
  intro W en w σ H sl h xs ss Q eK S r P
  unfold gTuple at P
  split at P
  · obtain ⟨v, rfl, r1⟩ := r.one
    split at P
    · rename_i xs hx
      split at P
      · rename_i ds hd
        obtain ⟨a, vs, rfl, q, rl⟩ := lst_ok S.toSimH r1 hx
        have rd := allD_ok rl hd
        refine ⟨a, vs, rfl, .inl ⟨.of q, fun p np => ?_⟩⟩
        refine P (.ref p) (w.fz p (.tup vs)) _ (le_fz (S.F_none np)) (S.newF np (fun _ _ z => by cases z)) ?_
        show Rp en.K (upd w.F p (.tup vs)) (.ref p) (.tuple ds)
        unfold Rp
        exact ⟨p, vs, rfl, .of upd_same, RpL.mono (le_fz (S.F_none np)).2 ds vs rd⟩
      · exact False.elim P
    · split at P
      · rename_i ds _
        have r2 : Rp en.K w.F v (.tuple ds) := r1
        unfold Rp at r2
        obtain ⟨a, vs, rfl, q, l⟩ := r2
        refine ⟨a, vs, rfl, .inr ⟨?_, P.here S r1⟩⟩
        rw [← eK.1]
        exact sqT_mono (S.fh a) q
      · exact False.elim P
  · exact False.elim P
def rgS (a b : Int) : List SV := (List.range (b - a).toNat).map fun i => SV.d (.int (a + (i : Nat)))
theorem rgS_ok {en : En} {w : Wd} {a b : Int} : RSL en w (rgV a b) (rgS a b) := by
  unfold rgV rgS
  generalize List.range (b - a).toNat = l
  induction l with
  | nil => exact rfl
  | cons x l ih => exact ⟨.int (a + (x : Nat)), _, rfl, (show Rp en.K w.F _ _ from Rp.int), ih⟩
def tR (X : Cx) (W : WX) (f : List SV → AH → R (Int × Int)) : St → Hp → (Int → Int → Hp → Prop) → Prop := fun σ H Q => ∃ en w sl h, en.ok X ∧ Sim en w σ H sl h ∧ Po (fun _ _ (b a : Int × Int) => b = a) X W en w σ sl (f sl h) (fun p H' => Q p.1 p.2 H')
abbrev SR (X : Cx) (W : WX) (e : Expr) (f : List SV → AH → R (Int × Int)) : Prop := PRg X e (tR X W f)
def fRg1 (fa : FE) : List SV → AH → R (Int × Int) := fun sl h => (fa sl h).bind fun s h1 => match s with
  | .d (.int n) => .ok (0, n) h1
  | _ => .st
def fLstRg (f : List SV → AH → R (Int × Int)) : FE := fun sl h => (f sl h).bind fun p h1 => if (inB p.1 && inB p.2 && decide ((p.2 - p.1).toNat ≤ 1000000)) = true then .ok (.r h1.length) (h1 ++ [some (.lst (rgS p.1 p.2))]) else .st
variable {a b e : Expr} {fa fb : FE} {p pos : Pos}
theorem sr_1 (hg : Gl X "range") (hm : X.mg "range" = none) (ha : SE X W a fa) (na : starEach [a] X.env = (false, eval a X.env) :: starEach [] X.env := by rfl) : SR X W (.Call (.Name "range" p) [a] [] pos) (fRg1 fa) := by
  intro pins s σ H Q I q
  refine prg_1 hg hm ha na pins s σ H Q I ?_
  obtain ⟨en, w, sl, h, eK, S, P⟩ := q
  refine ⟨en, w, sl, h, eK, S, Po.bind P fun t h1 v w1 H1 l1 S1 r1 P1 => ?_⟩
  split at P1
  · rename_i n
    exact ⟨n, RS.int r1, P1 (0, n) w1 H1 (Wd.le.refl _) S1 rfl⟩
  · exact False.elim P1
theorem se_listRg {f : List SV → AH → R (Int × Int)} (hc : X.calm = true) (hg : Gl X "list") (hm : X.mg "list" = none) (he : SR X W e f) (na : starEach [e] X.env = (false, eval e X.env) :: starEach [] X.env := by rfl) : SE X W (.Call (.Name "list" p) [e] [] pos) (fLstRg f) :=
  PE.imp (pe_listRg hc hg hm he na) (by
    rintro σ H Q ⟨en, w, sl, h, eK, S, P⟩
    refine ⟨en, w, sl, h, eK, S, ?_⟩
    refine Po.bind P fun pr h1 pr' w1 H1 l1 S1 r1 P1 => ?_
    have r1 : pr' = pr := r1
    subst r1
    split at P1
    · rename_i hb
      rw [Bool.and_eq_true, Bool.and_eq_true] at hb
      obtain ⟨⟨b1, b2⟩, b3⟩ := hb
      have b3 := of_decide_eq_true b3
      obtain ⟨c1, c2⟩ := inB_ok b1
      obtain ⟨c3, c4⟩ := inB_ok b2
      refine ⟨⟨c1, c2, c3, c4, by omega⟩, fun q nq => ?_⟩
      exact P1 _ (w1.ow q) _ le_ow (S1.newO nq rgS_ok) S1.toSimH.rs_new
    · exact False.elim P1)
end
end Zx
namespace Zx
open PySem PySem.Spec L2
def MtS (X : Cx) (T : String) (r : V → List V → Hp → VK → Prop) (kd : AH → SV → Bool) (g : SV → List SV → AH → R SV) : Prop :=
  (∀ (en : En) (w : Wd) (H : Hp) (h : AH) (x : V) (s : SV), en.ok X → SimH en w H h → RS en w x s → kd h s = true → tyV X.K T x H) ∧
  ∀ (W : WX) (en : En) (w : Wd) (σ : St) (H : Hp) (sl : List SV) (h : AH) (x : V) (xs : List V) (s : SV) (ss : List SV) (Q : VK), en.ok X → Sim en w σ H sl h → RS en w x s → RSL en w xs ss → Po RS X W en w σ sl (g s ss h) Q → r x xs H Q
def fBM (kd : AH → SV → Bool) (g : SV → List SV → AH → R SV) (fo : FE) (fa : FA) : FE := fun sl h => (fo sl h).bind fun s h1 => if kd h1 s = true then (fa sl h1).bind fun ss h2 => g s ss h2 else .st
section
variable {X : Cx} {W : WX} {o e : Expr} {es : List Expr} {fo : FE} {fa : FA} {T id : String} {name : Str} {r : V → List V → Hp → VK → Prop} {kd : AH → SV → Bool} {g : SV → List SV → AH → R SV} {apos cpos : Pos}
theorem se_bm (ms : MtS X T r kd g) (pa : PlainAttrs T) (slot : Slot T name id) (hty : typeOf (.builtin id) = pure (.type "method_descriptor")) (hm : MtR X id r) (ho : SE X W o fo) (ha : SA X W (e :: es) fa)
    (hbase : attributeBase o name X.env (eval o X.env) = eval o X.env := by rfl)
    (hfew : ((backTo cpos (starEach (e :: es) X.env)).all (fun x => !x.1) && (backToKw cpos (keywordEach [] X.env)).all (fun x => x.1.isSome)
      && decide ((e :: es).length + ([] : List Keyword).length + (if ([] : List Keyword).isEmpty then 0 else 1) < 30)) = true := by rfl)
    (hline : (apos.endLine == cpos.line) = true := by rfl) (hs : starEach (e :: es) X.env = (false, eval e X.env) :: starEach es X.env := by rfl) (hplain : (backTo cpos (starEach es X.env)).any (·.1) = false := by rfl) :
    SE X W (.Call (.Attribute o name apos) (e :: es) [] cpos) (fBM kd g fo fa) := PE.imp (pe_bm pa slot hty hm ho ha hbase hfew hline hs hplain) (by
  rintro σ H Q ⟨en, w, sl, h, eK, S, P⟩
  refine ⟨en, w, sl, h, eK, S, Po.bind P fun s h1 v w1 H1 l1 S1 r1 P1 => ?_⟩
  split at P1
  · rename_i hk
    refine ⟨ms.1 en w1 H1 h1 v s eK S1.toSimH r1 hk, en, w1, sl, h1, eK, S1, Po.bind P1 fun ss h2 vs w2 H2 l2 S2 r2 P2 => ?_⟩
    exact ms.2 W en w2 σ H2 sl h2 v vs s ss Q eK S2 (RS.mono l2 r1) r2 P2
  · exact False.elim P1)
theorem se_bm0 (ms : MtS X T r kd g) (pa : PlainAttrs T) (slot : Slot T name id) (hty : typeOf (.builtin id) = pure (.type "method_descriptor")) (hm : MtR X id r) (ho : SE X W o fo)
    (hbase : attributeBase o name X.env (eval o X.env) = eval o X.env := by rfl) (hline : (apos.endLine == cpos.line) = true := by rfl) : SE X W (.Call (.Attribute o name apos) [] [] cpos) (fBM kd g fo fNil) := PE.imp (pe_bm0 pa slot hty hm ho hbase hline) (by
  rintro σ H Q ⟨en, w, sl, h, eK, S, P⟩
  refine ⟨en, w, sl, h, eK, S, Po.bind P fun s h1 v w1 H1 l1 S1 r1 P1 => ?_⟩
  split at P1
  · rename_i hk
    exact ⟨ms.1 en w1 H1 h1 v s eK S1.toSimH r1 hk, ms.2 W en w1 σ H1 sl h1 v [] s [] Q eK S1 r1 rfl P1⟩
  · exact False.elim P1)
def kdL : AH → SV → Bool := fun h s => (lstOf h s).isSome
theorem kdL_ok {en : En} {w : Wd} {H : Hp} {h : AH} {x : V} {s : SV} (S : SimH en w H h) (r : RS en w x s) (k : kdL h s = true) : tyV X.K "list" x H := by
  unfold kdL at k
  cases e : lstOf h s with
  | none => rw [e] at k; cases k
  | some xs =>
    obtain ⟨a, vs, rfl, q, rl⟩ := lst_ok S r e
    exact .inl ⟨rfl, vs, .of q⟩
def gOwn (k : List SV → List SV → AH → Option (List SV × SV)) : SV → List SV → AH → R SV := fun s ss h => match s with
  | .r n => match h[n]? with
    | some (some (.lst xs)) => match k xs ss h with
      | some (ys, v) => .ok v (h.set n (some (.lst ys)))
      | none => .st
    | _ => .st
  | _ => .st
theorem gOwn_inv {k : List SV → List SV → AH → Option (List SV × SV)} {en : En} {w : Wd} {σ : St} {H : Hp} {sl : List SV} {h : AH} {x : V} {s : SV} {ss : List SV} {Q : VK} (S : Sim en w σ H sl h) (r : RS en w x s) (P : Po RS X W en w σ sl (gOwn k s ss h) Q) :
    ∃ a vs xs ys v, x = .ref a ∧ H a = some (.lst vs) ∧ RSL en w vs xs ∧ k xs ss h = some (ys, v) ∧ ∀ us u, RSL en w us ys → RS en w u v → Q u (upd H a (.lst us)) := by
  unfold gOwn at P
  split at P
  · rename_i n
    split at P
    · rename_i xs hx
      split at P
      · rename_i ys v hk
        obtain ⟨a, e1, rfl⟩ := r
        obtain ⟨a', e2, ⟨vs, hv, rv⟩, _, _⟩ := S.live n _ hx
        have ea : a' = a := Option.some.inj (e2.symm.trans e1)
        subst ea
        exact ⟨a', vs, xs, ys, v, rfl, hv, rv, hk, fun us u r1 r2 => P u w _ (Wd.le.refl _) (S.write hx e1 r1) r2⟩
      · exact False.elim P
    · exact False.elim P
  · exact False.elim P
theorem RS.dnone {en : En} {w : Wd} : RS en w .non (.d .none) := (show Rp en.K w.F .non .none from Rp.non)
def lim : Nat := 1000000
theorem lim_line {n : Nat} (h : n < lim) : n < sizeLine := by rw [sizeLine_eq]; unfold lim at h; omega
def kAppend : List SV → List SV → AH → Option (List SV × SV) := fun xs ss _ => match ss with
  | [v] => if xs.length < lim then some (xs ++ [v], .d .none) else none
  | _ => none
theorem ms_append : MtS X "list" rAppend kdL (gOwn kAppend) := by
  refine ⟨fun en w H h x s eK S r k => kdL_ok S r k, fun W en w σ H sl h x xs s ss Q eK S r rl P => ?_⟩
  obtain ⟨a, vs, zs, ys, v, rfl, hv, rv, hk, q⟩ := gOwn_inv S r P
  unfold kAppend at hk
  split at hk
  · rename_i t
    split at hk
    · rename_i hl
      cases hk
      obtain ⟨u, rfl, ru⟩ := rl.one
      exact ⟨a, vs, u, rfl, rfl, hv, by rw [RSL.length rv]; exact lim_line hl, q _ _ (RSL.app (ts := [t]) rv ⟨u, [], rfl, ru, rfl⟩) RS.dnone⟩
    · cases hk
  · cases hk
def kReverse : List SV → List SV → AH → Option (List SV × SV) := fun xs ss _ => match ss with
  | [] => some (xs.reverse, .d .none)
  | _ => none
theorem RSL.rev {en : En} {w : Wd} : ∀ {ss : List SV} {vs : List V}, RSL en w vs ss → RSL en w vs.reverse ss.reverse
  | [], vs, r => by have r : vs = [] := r; subst r; exact rfl
  | s :: ss, vs, ⟨x, q, e, a, b⟩ => by
    subst e
    rw [List.reverse_cons, List.reverse_cons]
    exact RSL.app (ts := [s]) (RSL.rev b) ⟨x, [], rfl, a, rfl⟩
theorem ms_reverse : MtS X "list" rReverse kdL (gOwn kReverse) := by
  refine ⟨fun en w H h x s eK S r k => kdL_ok S r k, fun W en w σ H sl h x xs s ss Q eK S r rl P => ?_⟩
  obtain ⟨a, vs, zs, ys, v, rfl, hv, rv, hk, q⟩ := gOwn_inv S r P
  unfold kReverse at hk
  split at hk
  · cases hk
    exact ⟨a, vs, rfl, rl, hv, q _ _ (RSL.rev rv) RS.dnone⟩
  · cases hk
def kClear : List SV → List SV → AH → Option (List SV × SV) := fun xs ss _ => match ss with
  | [] => some ([], .d .none)
  | _ => none
def kPopAt : List SV → List SV → AH → Option (List SV × SV) := fun xs ss _ => match ss with
  | [.d (.int i)] => if inB i = true then match seqIndex? i xs.length with
      | some k => match xs[k]? with
        | some y => some (xs.eraseIdx k, y)
        | none => none
      | none => none
    else none
  | _ => none
theorem RSL.erase {en : En} {w : Wd} : ∀ {ss : List SV} {vs : List V} (i : Nat), RSL en w vs ss → RSL en w (vs.eraseIdx i) (ss.eraseIdx i)
  | [], vs, i, r => by have r : vs = [] := r; subst r; exact rfl
  | s :: ss, vs, 0, ⟨x, q, e, a, b⟩ => by subst e; exact b
  | s :: ss, vs, i + 1, ⟨x, q, e, a, b⟩ => by subst e; exact ⟨x, q.eraseIdx i, rfl, a, RSL.erase i b⟩
theorem ms_popAt : MtS X "list" rPopAt kdL (gOwn kPopAt) := by
  refine ⟨fun en w H h x s eK S r k => kdL_ok S r k, fun W en w σ H sl h x xs s ss Q eK S r rl P => ?_⟩
  obtain ⟨a, vs, zs, ys, v, rfl, hv, rv, hk, q⟩ := gOwn_inv S r P
  unfold kPopAt at hk
  split at hk
  · rename_i i
    split at hk
    · rename_i hb
      split at hk
      · rename_i k hi
        split at hk
        · rename_i y hy
          cases hk
          obtain ⟨u, rfl, ru⟩ := rl.one
          cases RS.int ru
          obtain ⟨b1, b2⟩ := inB_ok hb
          obtain ⟨z, ez, rz⟩ := RSL.get rv hy
          exact ⟨a, vs, i, k, z, rfl, rfl, hv, by omega, by omega, by rw [RSL.length rv]; exact hi, ez, q _ _ (RSL.erase k rv) rz⟩
        · cases hk
      · cases hk
    · cases hk
  · cases hk
end
def putIx (s t v : SV) (h : AH) : Option AH := match s with
  | .r n => match t with
    | .d (.int i) => match h[n]? with
      | some (some (.lst xs)) => match ixN xs.length i with
        | some j => some (h.set n (some (.lst (xs.set j v))))
        | none => none
      | _ => none
    | _ => none
  | _ => none
def sStore (fo fi fe : FE) : FS := fun sl h => (fe sl h).thn sl fun v h1 => (fo sl h1).thn sl fun s h2 => (fi sl h2).thn sl fun t h3 => match putIx s t v h3 with
  | some h4 => .nx sl h4
  | none => .st
section
variable {X : Cx} {W : WX} {o i e : Expr} {fo fi fe : FE} {pos tpos : Pos}
theorem put_ok {en : En} {w : Wd} {σ : St} {H : Hp} {sl : List SV} {h h' : AH} {x y z : V} {s t v : SV} {D : St → Hp → Prop} (S : Sim en w σ H sl h) (r1 : RS en w x s) (r2 : RS en w y t) (r3 : RS en w z v) (e : putIx s t v h = some h') (q : ∀ H', Sim en w σ H' sl h' → D σ H') :
    rSetL x y z H fun H' => D σ H' := by
  unfold putIx at e
  split at e
  · rename_i n
    split at e
    · rename_i i
      split at e
      · rename_i xs hx
        split at e
        · rename_i j hj
          cases e
          obtain ⟨a, e1, rfl⟩ := r1
          obtain ⟨a', e2, ⟨vs, hv, rv⟩, _, _⟩ := S.live n _ hx
          have ea : a' = a := Option.some.inj (e2.symm.trans e1)
          subst ea
          cases RS.int r2
          exact ⟨a', vs, i, j, rfl, rfl, hv, by rw [RSL.length rv]; exact hj, q _ (S.write hx e1 (RSL.set r3 j rv))⟩
        · cases e
      · cases e
    · cases e
  · cases e
def sAugS (k : Int → Int → Int) (fo fi fe : FE) : FS := fun sl h => (fo sl h).thn sl fun s h1 => (fi sl h1).thn sl fun t h2 => match t with
  | .d (.int i) => match lstOf h2 s with
    | some xs => match atI xs i with
      | some (.d (.int a)) => (fe sl h2).thn sl fun v h3 => match v with
        | .d (.int b) => match putIx s t (.d (.int (k a b))) h3 with
          | some h4 => .nx sl h4
          | none => .st
        | _ => .st
      | _ => .st
    | none => .st
  | _ => .st
def sAug (j : Nat) (g : SV → SV → AH → R SV) (fe : FE) : FS := fun sl h => (fVar j sl h).thn sl fun s h1 => (fe sl h1).thn sl fun t h2 => (g s t h2).thn sl fun v h3 => .nx (sl.set j v) h3
theorem ss_aug {j : Nat} {x : Str} {op : Operator} {k : Int → Int → Int} {pos' : Pos} (hN : X.N.Nodup) (hi : X.N[j]? = some x) (hx : Loc X.env.scope x) (he : SE X W e fe) (hp : PIp X op (ipI k)) (hf : X.fn x = true ∨ X.env.scope.names.lookup x = some .local := by first | exact .inl rfl | exact .inr rfl | assumption) :
    SS X W (.AugAssign (.Name x pos') op e pos) (sAug j (gI (fun _ _ => true) fun a b => .int (k a b)) fe) := PS.imp (ps_aug hN hi hx he hp hf) (by
  rintro D σ H ⟨en, w, sl, h, eK, S, P⟩
  have P : PoS X W en w ((fVar j sl h).thn sl fun s h1 => (fe sl h1).thn sl fun t h2 => (gI (fun _ _ => true) (fun a b => PyData.int (k a b)) s t h2).thn sl fun v h3 => .nx (sl.set j v) h3) D := P
  have hv : ∃ s v, σ[j]? = some (some v) ∧ RS en w v s ∧ fVar j sl h = .ok s h := by
    unfold fVar at P ⊢
    split at P
    · exact False.elim P
    · exact False.elim P
    · rename_i s hs hu
      rcases S.slots.2 j s hu with z | ⟨v, ev, r⟩
      · exact absurd z hs
      · refine ⟨s, v, ev, r, ?_⟩
        rfl
  obtain ⟨s, v, ev, r, e1⟩ := hv
  rw [e1] at P
  refine ⟨v, ev, en, w, sl, h, eK, S, Po.thn P fun t h2 u w2 H2 l2 S2 r2 P2 => ?_⟩
  generalize eg : gI (fun _ _ => true) (fun a b => PyData.int (k a b)) s t h2 = rg at P2
  unfold gI at eg
  split at eg
  · rename_i a b
    rw [if_pos rfl] at eg
    subst eg
    refine ⟨a, b, RS.int r, RS.int r2, ?_⟩
    exact P2 w2 _ H2 (Wd.le.refl _) (S2.set (show RS en w2 (.int (k a b)) (.d (.int (k a b))) from (show Rp en.K w2.F _ _ from Rp.int)) j)
  · subst eg; exact False.elim P2)
end
def gCat : SV → SV → AH → R SV := fun s t h => match lstOf h s, lstOf h t with
  | some xs, some ys => if xs.length + ys.length < lim then .ok (.r h.length) (h ++ [some (.lst (xs ++ ys))]) else .st
  | _, _ => .st
theorem os_cat {X : Cx} : OpS X rCat gCat := by
  intro W en w σ H sl h x y s t Q eK S r1 r2 P
  unfold gCat at P
  split at P
  · rename_i xs ys hx hy
    split at P
    · rename_i hl
      obtain ⟨a, vs, rfl, qa, ra⟩ := lst_ok S.toSimH r1 hx
      obtain ⟨b, us, rfl, qb, rb'⟩ := lst_ok S.toSimH r2 hy
      exact ⟨a, b, vs, us, rfl, rfl, qa, qb, Nat.le_of_lt (by rw [RSL.length ra, RSL.length rb']; exact lim_line hl), fun p np => P _ (w.ow p) _ le_ow (S.newO np (RSL.app ra rb')) S.toSimH.rs_new⟩
    · exact False.elim P
  · exact False.elim P
def gCatS : SV → SV → AH → R SV := fun s t h => match s, t with
  | .d (.str a), .d (.str b) => if a.length + b.length < lim then .ok (.d (.str (a ++ b))) h else .st
  | _, _ => .st
theorem os_catS {X : Cx} : OpS X (fun x y H Q => ∃ i j, x = .str i ∧ y = .str j ∧ i.length + j.length ≤ sizeLine ∧ Q (.str (i ++ j)) H) gCatS := by
  intro W en w σ H sl h x y s t Q eK S r1 r2 P
  unfold gCatS at P
  split at P
  · split at P
    · rename_i hl
      exact ⟨_, _, RS.str r1, RS.str r2, Nat.le_of_lt (lim_line hl), P.str S⟩
    · exact False.elim P
  · exact False.elim P
abbrev rPlus : R2 := fun x y H Q => rI0 (fun i j => .int (i + j)) x y H Q ∨ rCat x y H Q ∨ (∃ i j, x = .str i ∧ y = .str j ∧ i.length + j.length ≤ sizeLine ∧ Q (.str (i ++ j)) H)
def gAdd : SV → SV → AH → R SV := gOr (gI (fun _ _ => true) fun i j => .int (i + j)) (gOr gCat gCatS)
theorem op_plus {X : Cx} : OpR X (binaryOp .Add) rPlus := op_add.or (op_cat.or op_add_str)
theorem os_plus {X : Cx} : OpS X rPlus gAdd := os_or os_I0 (os_or os_cat os_catS)
end Zx
namespace Zx
open PySem PySem.Spec L2
open PyProof.Rows (envOfC)
def intsD : List PyData → Option (List Int)
  | [] => some []
  | .int i :: r => (intsD r).map (i :: ·)
  | _ => none
theorem intsD_ok : ∀ ns : List Int, intsD (ns.map PyData.int) = some ns
  | [] => rfl
  | n :: ns => by
    show (intsD (ns.map PyData.int)).map (n :: ·) = some (n :: ns)
    rw [intsD_ok ns]; rfl
def argS : Md → PyData → SV
  | .fz, d => .d d
  | .vw, d => mkv d
  | .sc, .list ds => match intsD ds with
    | some ns => .sc ns
    | none => .un
  | .sc, _ => .un
def startS : List Md → List PyData → Nat → List SV
  | m :: ms, d :: ds, n + 1 => argS m d :: startS ms ds n
  | _, _, n => List.replicate n .un
def cl (s : SV) (h : AH) : AH := if below 0 s = true then [] else h
theorem cl_ok {en : En} {w : Wd} {F0 : Hp} {H : Hp} {h : AH} {s : SV} {v : V} (S : SimH en w H h) (le : (Wd.mk [] F0).le w) (r : RS en w v s) : ∃ w2, SimH en w2 H (cl s h) ∧ RS en w2 v s := by
  unfold cl
  by_cases c : below 0 s = true
  · rw [if_pos c]
    have := SimH.trim (w0 := ⟨[], F0⟩) S le rfl
    exact ⟨_, this.2, RS.cut r c⟩
  · rw [if_neg c]
    exact ⟨w, S, r⟩
def phi (ms : List Md) (n : Nat) (g : FS) : List PyData → R SV := fun ds => match g (startS ms ds n) [] with
  | .rt s h => .ok s (cl s h)
  | .nx _ h => .ok (.d .none) (cl (.d .none) h)
  | .rz c _ h => .rz c h
  | _ => .st
theorem argS_ok {en : En} {w : Wd} {H : Hp} {h : AH} (S : SimH en w H h) (eG : en.G = H) {v : V} {m : Md} {d : PyData} (a : ArgV en.K w.F H v m d) : RS en w v (argS m d) := by
  cases m with
  | fz => exact a
  | vw =>
    show RS en w v (mkv d)
    unfold mkv
    split
    · rename_i c
      exact Rp.immF (G := H) (Same.refl H) S.ti d v c a
    · exact (show Rp en.K en.G v d by rw [eG]; exact a)
  | sc =>
    obtain ⟨ns, rfl, q⟩ := a
    show RS en w v (match intsD (ns.map PyData.int) with | some ns => SV.sc ns | none => SV.un)
    rw [intsD_ok]
    exact (show RpS en.K en.G v ns by rw [eG]; exact q)
theorem start_ok {en : En} {w : Wd} {H : Hp} {h : AH} (S : SimH en w H h) (eG : en.G = H) : ∀ {ms : List Md} {vs : List V} {ds : List PyData} {n : Nat}, ms.length ≤ n → ArgOk en.K w.F H ms vs ds → Slt en w (vs.map some ++ List.replicate (n - vs.length) none) (startS ms ds n)
  | [], vs, ds, n, hn, ⟨h1, h2⟩ => by
    subst h1; subst h2
    unfold startS
    refine ⟨by simp, fun i s e => ?_⟩
    rw [List.getElem?_replicate] at e
    split at e
    · cases e; exact .inl rfl
    · cases e
  | m :: ms, vs, ds, 0, hn, _ => by simp at hn
  | m :: ms, vs, ds, n + 1, hn, ⟨v, vs', d, ds', h1, h2, a, q⟩ => by
    subst h1; subst h2
    have ih := start_ok S eG (n := n) (by simpa using hn) q
    unfold startS
    have e1 : (List.map some (v :: vs') ++ List.replicate (n + 1 - (v :: vs').length) none) = some v :: (List.map some vs' ++ List.replicate (n - vs'.length) none) := by
      rw [List.map_cons, List.cons_append, List.length_cons, Nat.add_sub_add_right]
    rw [e1]
    refine ⟨by rw [List.length_cons, List.length_cons, ih.1], fun i s e => ?_⟩
    cases i with
    | zero =>
      cases e
      exact .inr ⟨v, rfl, argS_ok S eG a⟩
    | succ i => exact ih.2 i s e
def DefOk (P : Program) (w : World) (K : PySem.W.Frag) (mg : Str → Option Value) (base : Heap) (N : List Str) (qual : Str) (st : Stmt) (k : Nat) (g : FS) : Prop :=
  ∀ (f : Addr) (cdv : Value) (A : Around) (outer : List Env) (s : Shared) (H : Hp) (E : XK) (W : WX), Room k (A.deeper (envOfC qual (defScope st) s.heap.objs.size f cdv)) → L2N.Takes (cxOf (L2N.CX P w) P w K mg base N qual (defScope st) f cdv A outer s H E) W →
    PassesOwn (model P w) (A.deeper (envOfC qual (defScope st) s.heap.objs.size f cdv)) (envOfC qual (defScope st) s.heap.objs.size f cdv) (cxOf (L2N.CX P w) P w K mg base N qual (defScope st) f cdv A outer s H E).xe →
    SSs (cxOf (L2N.CX P w) P w K mg base N qual (defScope st) f cdv A outer s H E) W (defBody st) g
section
variable {P : Program} {w : World} {K : PySem.W.Frag} {mg : Str → Option Value} {base : Heap}
theorem okN {x q0 : Str} {st : Stmt} {f : Addr} {fd : FuncData} {N ps : List Str} {k : Nat} {sp : Sp} (F : Fun K x q0 st f fd) (S : FnScope N ps (defScope st)) (hl : ∀ vs H Q E, sp vs H Q E → vs.length = ps.length)
    (hb : ∀ (cdv : Value) (A : Around) (outer : List Env) (s : Shared) (H : Hp) (vs : List V) (Q : VK) (E : XK), Room k (A.deeper (envOfC q0 (defScope st) s.heap.objs.size f cdv)) → sp vs H Q E →
      ∃ t, PSs (cxOf (L2N.CX P w) P w K mg base N q0 (defScope st) f cdv A outer s H E) (defBody st) t ∧ t { nx := fun _ H2 => Q .non H2, rt := Q } (L2.start N vs) H) : FnOk P w K mg base (L2N.CX P w) (k + 1) f fd ps sp := by
  obtain ⟨_, _, _, _, _, _, cdv, _, _, e, lk, hcd⟩ := F.ex
  subst e
  exact fn_of lk hcd S hl fun A outer s H vs Q E => hb cdv A outer s H vs Q E
theorem fn_data {x qual : Str} {st : Stmt} {f : Addr} {fd : FuncData} {N ps : List Str} {k : Nat} {ms : List Md} {g : FS} (F : Fun K x qual st f fd) (S : FnScope N ps (defScope st)) (hms : ms.length = ps.length) (hb : DefOk P w K mg base N qual st k g) :
    FnOk P w K mg base (L2N.CX P w) (k + 1) f fd ps (spD w K mg ms (phi ms N.length g)) := by
  have hpl : ps.length ≤ N.length := by have := congrArg List.length S.pre; rw [List.length_take] at this; omega
  refine okN F S (fun vs H Q E h => ?_) (fun cdv A outer s H vs Q E hr h => ?_)
  · obtain ⟨F0, ds, _, _, a, _⟩ := h
    exact a.len.1.trans hms
  · obtain ⟨F0, ds, sm, ti, a, q⟩ := h
    refine ⟨tS (cxOf (L2N.CX P w) P w K mg base N qual (defScope st) f cdv A outer s H E) (fun cls d _ H => E cls d H) g, hb f cdv A outer s H E _ hr (L2N.takes_of rfl rfl rfl rfl) (passes_of rfl), ?_⟩
    have S0 : SimH ⟨K, H, F0, none, w⟩ ⟨[], F0⟩ H [] := ⟨Same.refl H, sm, Same.refl F0, fun a o e => .inl e, ti, rfl, fun n o e => by simp at e, fun n m a o1 o2 e => by simp at e⟩
    refine ⟨⟨K, H, F0, none, w⟩, ⟨[], F0⟩, startS ms ds N.length, [], ⟨rfl, hr.hd.symm, rfl⟩, ⟨S0, ?_⟩, ?_⟩
    · show Slt _ _ (L2.start N vs) _
      unfold L2.start
      exact start_ok S0 rfl (by rw [hms]; exact hpl) a
    · unfold phi at q
      generalize g (startS ms ds N.length) [] = o at q ⊢
      cases o with
      | nx sl h =>
        intro w' σ' H' l S'
        obtain ⟨w2, S2, r2⟩ := cl_ok (s := .d .none) (v := .non) S'.toSimH l RS.dnone
        exact q .non w2 H' S2 r2
      | rt s h =>
        intro w' H' v l S' r
        obtain ⟨w2, S2, r2⟩ := cl_ok S' l r
        exact q v w2 H' S2 r2
      | rz c sl h => exact fun w' σ' H' l S' u hu => q w' H' h S'.toSimH u hu
      | bk sl h => exact False.elim q
      | ct sl h => exact False.elim q
      | st => exact False.elim q
end
def tyOf (h : AH) : SV → Option String
  | .d .none => some "NoneType"
  | .d (.bool _) => some "bool"
  | .d (.int _) => some "int"
  | .d (.str _) => some "str"
  | .d (.list _) => some "list"
  | .d (.tuple _) => some "tuple"
  | .vw (.list _) => some "list"
  | .vw (.tuple _) => some "tuple"
  | .r n => match h[n]? with
    | some (some (.lst _)) => some "list"
    | some (some (.tup _)) => some "tuple"
    | _ => none
  | _ => none
theorem tyT {K : PySem.W.Frag} {H : Hp} {a : Addr} {xs : List V} (q : SqT K H a xs) : TyX K H (.ref a) (.type "tuple") := by
  rcases q with (q | ⟨o, q⟩) | ⟨o, its, n, q, c, _⟩
  · exact .base (.tup q)
  · exact .fTuple q
  · exact .kTuple q c
theorem tyOf_ok {en : En} {w : Wd} {H : Hp} {h : AH} (S : SimH en w H h) {x : V} {s : SV} {t : String} (r : RS en w x s) (e : tyOf h s = some t) : TyX en.K H x (.type t) := by
  unfold tyOf at e
  split at e
  · cases e; cases RS.non r; exact .base .non
  · cases e; cases RS.bool r; exact .base (.bl _)
  · cases e; cases RS.int r; exact .base (.int _)
  · cases e; cases RS.str r; exact .base (.str _)
  · cases e
    have r : Rp en.K w.F x (.list _) := r
    unfold Rp at r
    obtain ⟨a, vs, rfl, q, l⟩ := r
    exact .base (.lst (S.fh _ _ q))
  · cases e
    have r : Rp en.K w.F x (.tuple _) := r
    unfold Rp at r
    obtain ⟨a, vs, rfl, q, l⟩ := r
    exact tyT (sqT_mono (S.fh a) q)
  · cases e
    have r : Rp en.K en.G x (.list _) := r
    unfold Rp at r
    obtain ⟨a, vs, rfl, q, l⟩ := r
    exact .base (.lst (S.gh _ _ q))
  · cases e
    have r : Rp en.K en.G x (.tuple _) := r
    unfold Rp at r
    obtain ⟨a, vs, rfl, q, l⟩ := r
    exact tyT (sqT_mono (S.gh a) q)
  · split at e
    · cases e
      rename_i n _ xs hx
      obtain ⟨a, e1, rfl⟩ := r
      obtain ⟨a', e2, ⟨vs, hv, rv⟩, _, _⟩ := S.live n _ hx
      have ea : a' = a := Option.some.inj (e2.symm.trans e1)
      subst ea
      exact .base (.lst hv)
    · cases e
      rename_i n _ xs hx
      obtain ⟨a, e1, rfl⟩ := r
      obtain ⟨a', e2, ⟨vs, hv, rv⟩, _, _⟩ := S.live n _ hx
      have ea : a' = a := Option.some.inj (e2.symm.trans e1)
      subst ea
      exact tyT (.inl (.inl hv))
    · cases e
  · cases e
def isTy (a b : String) : Option Bool :=
  if a = b then some true
  else if ["int", "bool", "list", "tuple", "str", "dict"].contains b && ["int", "bool", "list", "tuple", "str", "NoneType"].contains a then some (a == "bool" && b == "int")
  else none
theorem isTy_ok {a b : String} {r : Bool} (h : isTy a b = some r) : kitB a b = some r := by
  unfold isTy at h
  split at h
  · rename_i e
    cases h
    subst e
    unfold kitB
    rw [if_pos (by simp)]
  · split at h
    · rename_i ne c
      rw [Bool.and_eq_true] at c
      obtain ⟨c1, c2⟩ := c
      have c1 : b ∈ ["int", "bool", "list", "tuple", "str", "dict"] := List.contains_iff_mem.mp c1
      have c2 : a ∈ ["int", "bool", "list", "tuple", "str", "NoneType"] := List.contains_iff_mem.mp c2
      have all : ∀ x ∈ ["int", "bool", "list", "tuple", "str", "NoneType"], ∀ y ∈ ["int", "bool", "list", "tuple", "str", "dict"], x ≠ y → kitB x y = some (x == "bool" && y == "int") := by decide +kernel
      rw [← h]
      exact all a c2 b c1 ne
    · cases h
def fIsi (T : String) (fa : FE) : FE := fun sl h => (fa sl h).bind fun s h1 => match tyOf h1 s with
  | some t => match isTy t T with
    | some b => .ok (.d (.bool b)) h1
    | none => .st
  | none => .st
section
variable {X : Cx} {W : WX} {a : Expr} {fa : FE} {p p2 pos : Pos} {T : String} {x : Str}
theorem se_isi (hg : Gl X "isinstance") (hm : X.mg "isinstance" = none) (hv : bootBuiltins "isinstance" = some (.builtin "isinstance")) (hT : PE X (.Name x p2) (tC (.ty T))) (ha : SE X W a fa)
    (he : starEach [a, .Name x p2] X.env = (false, eval a X.env) :: starEach [.Name x p2] X.env := by rfl) (hs2 : starEach [.Name x p2] X.env = (false, eval (.Name x p2) X.env) :: starEach [] X.env := by rfl)
    (hpl : (backTo pos (starEach [.Name x p2] X.env)).any (·.1) = false := by rfl) : SE X W (.Call (.Name "isinstance" p) [a, .Name x p2] [] pos) (fIsi T fa) :=
  PE.imp (pe_callB call_isi hg hm hv (pa_cons ha (pa_cons hT pa_nil hs2) he) (by decide) (by decide) he hpl) (by
    rintro σ H Q ⟨en, w, sl, h, eK, S, P⟩
    refine ⟨en, w, sl, h, eK, S, Po.bind P fun s h1 v w1 H1 l1 S1 r1 P1 => ?_⟩
    split at P1
    · rename_i t ht
      split at P1
      · rename_i b hb
        refine ⟨v, .ty T, .type t, .type T, b, rfl, .ty T, ?_, kit_ty (isTy_ok hb), P1.bool S1⟩
        rw [← eK.1]
        exact tyOf_ok S1.toSimH r1 ht
      · exact False.elim P1
    · exact False.elim P1)
end
end Zx
namespace Zx
open PySem PySem.Spec L2
def gSub : SV → SV → AH → R SV := gI (fun _ _ => true) fun i j => .int (i - j)
def CMulX (i j : Int) : Prop := i.natAbs.log2 + j.natAbs.log2 < 50000000
theorem CMulX.ok {i j : Int} (h : CMulX i j) : PySem.IntMulOk i j := by
  have b : ∀ x : Int, Builtin.Int.intBits x ≤ x.natAbs.log2 + 1 := fun x => by
    unfold Builtin.Int.intBits
    split <;> omega
  have h1 := b i
  have h2 := b j
  have h3 : i.natAbs.log2 + j.natAbs.log2 < 50000000 := h
  have e : PySem.bitsLine = 134217728 := by decide
  intro z
  rw [Bool.and_eq_true] at z
  have z2 := z.2
  unfold Builtin.Int.intTooBig at z2
  have z3 := of_decide_eq_true z2
  rw [e] at z3
  omega
theorem op_mulX {X : Cx} : OpR X (binaryOp .Mult) (rI CMulX fun i j => .int (i * j)) := opI fun _ _ _ _ _ _ _ hc q => PyProof.Rows.mul_int q hc.ok
def mulB (i j : Int) : Bool := decide (i.natAbs.log2 + j.natAbs.log2 < 50000000)
def divB (_ j : Int) : Bool := decide (0 < j ∧ j.natAbs.log2 < 9000)
def modB (_ j : Int) : Bool := decide (0 < j)
def powB (i j : Int) : Bool := decide (0 ≤ j ∧ j ≤ 1000000 ∧ i.natAbs < 2 ^ 64)
def gMul : SV → SV → AH → R SV := gI mulB fun i j => .int (i * j)
def gDiv : SV → SV → AH → R SV := gI divB fun i j => .int (i / j)
def gMod : SV → SV → AH → R SV := gI modB fun i j => .int (i % j)
def gPow : SV → SV → AH → R SV := gI powB fun i j => .int (i ^ j.toNat)
def gLt : SV → SV → AH → R SV := gI (fun _ _ => true) fun i j => .bool (decide (i < j))
def gLe : SV → SV → AH → R SV := gI (fun _ _ => true) fun i j => .bool (decide (i ≤ j))
def gGt : SV → SV → AH → R SV := gI (fun _ _ => true) fun i j => .bool (decide (j < i))
def gGe : SV → SV → AH → R SV := gI (fun _ _ => true) fun i j => .bool (decide (j ≤ i))
def iAdd (a b : Int) : Int := a + b
def iSub (a b : Int) : Int := a - b
def gAbs : List SV → AH → R SV := gI1 fun i => if i < 0 then -i else i
def gMin2 : List SV → AH → R SV := gI2 fun i j => if j < i then j else i
def gMax2 : List SV → AH → R SV := gI2 fun i j => if j > i then j else i
section
variable {X : Cx} {W : WX}
theorem os_mul : OpS X (rI CMulX fun i j => .int (i * j)) gMul := os_I fun i j h => by unfold mulB at h; exact (of_decide_eq_true h : i.natAbs.log2 + j.natAbs.log2 < 50000000)
theorem os_div : OpS X (rI CDivW fun i j => .int (i / j)) gDiv := os_I fun i j h => by unfold divB at h; exact (of_decide_eq_true h : 0 < j ∧ j.natAbs.log2 < 9000)
theorem os_mod : OpS X (rI (fun _ j => 0 < j) fun i j => .int (i % j)) gMod := os_I fun i j h => by unfold modB at h; exact (of_decide_eq_true h : 0 < j)
theorem os_pow : OpS X (rI CPow fun i j => .int (i ^ j.toNat)) gPow := os_I fun i j h => by unfold powB at h; exact (of_decide_eq_true h : 0 ≤ j ∧ j ≤ 1000000 ∧ i.natAbs < 2 ^ 64)
def gNeg : SV → AH → R SV := fun s h => match s with
  | .d (.int i) => .ok (.d (.int (-i))) h
  | _ => .st
def isNon : SV → Option Bool
  | .d .none => some true
  | .d _ => some false
  | .vw .none => some true
  | .vw _ => some false
  | .r _ => some false
  | .sc _ => some false
  | .ex _ => some false
  | .un => none
def gIsN : SV → SV → AH → R SV := fun s t h => match t with
  | .d .none => match isNon s with
    | some b => .ok (.d (.bool b)) h
    | none => .st
  | _ => .st
def gNotN : SV → SV → AH → R SV := fun s t h => match t with
  | .d .none => match isNon s with
    | some b => .ok (.d (.bool (!b))) h
    | none => .st
  | _ => .st
def flatD : SV → Option V
  | .d .none => some .non
  | .d (.bool b) => some (.bl b)
  | .d (.int i) => some (.int i)
  | .d (.str x) => some (.str x)
  | _ => none
def flatL : List SV → Option (List V)
  | [] => some []
  | s :: ss => match flatD s with
    | some v => match flatL ss with
      | some vs => some (v :: vs)
      | none => none
    | none => none
theorem flatD_ok {en : En} {w : Wd} {v u : V} {s : SV} (r : RS en w v s) (e : flatD s = some u) : v = u ∧ flatV u = true := by
  unfold flatD at e
  split at e
  · cases e; exact ⟨RS.non r, rfl⟩
  · cases e; exact ⟨RS.bool r, rfl⟩
  · cases e; exact ⟨RS.int r, rfl⟩
  · cases e; exact ⟨RS.str r, rfl⟩
  · cases e
theorem flatL_ok {en : En} {w : Wd} : ∀ {ss : List SV} {vs us : List V}, RSL en w vs ss → flatL ss = some us → vs = us ∧ us.all flatV = true
  | [], vs, us, r, e => by unfold flatL at e; cases e; exact ⟨r, rfl⟩
  | s :: ss, vs, us, ⟨x, q, e1, a, b⟩, e => by
    unfold flatL at e
    cases k : flatD s with
    | none => rw [k] at e; cases e
    | some v =>
      rw [k] at e
      cases k2 : flatL ss with
      | none => rw [k2] at e; cases e
      | some u2 =>
        rw [k2] at e
        cases e
        obtain ⟨h1, h2⟩ := flatD_ok a k
        obtain ⟨h3, h4⟩ := flatL_ok b k2
        exact ⟨by rw [e1, h1, h3], by rw [List.all_cons, h2, h4]; rfl⟩
def gIn (neg : Bool) : SV → SV → AH → R SV := fun s t h => match flatD s with
  | some v => match itemsOf h t with
    | some xs => match flatL xs with
      | some vs => .ok (.d (.bool (if neg then !inV v vs else inV v vs))) h
      | none => .st
    | none => .st
  | none => .st
theorem os_inN (neg : Bool) : OpS X (rIn X.K neg) (gIn neg) := by
  intro W en w σ H sl h x y s t Q eK S r1 r2 P
  unfold gIn at P
  split at P
  · rename_i v hv
    split at P
    · rename_i xs hx
      split at P
      · rename_i vs hvs
        obtain ⟨rfl, f1⟩ := flatD_ok r1 hv
        obtain ⟨a, us, rfl, q, rl⟩ := items_ok S.toSimH r2 hx
        obtain ⟨rfl, f2⟩ := flatL_ok rl hvs
        rw [eK.1] at q
        exact ⟨a, us, rfl, q, f1, f2, P.bool S⟩
      · exact False.elim P
    · exact False.elim P
  · exact False.elim P
theorem os_in : OpS X (rIn X.K false) (gIn false) := os_inN false
theorem PO.imp {X : Cx} {e : Option Expr} {t t' : TO} (h : PO X e t) (k : ∀ σ H Q, t' σ H Q → t σ H Q) : PO X e t' := by
  obtain ⟨r⟩ := h
  constructor
  intros
  apply r
  · assumption
  · apply k
    assumption
def oNo : List SV → AH → R (Option Int) := fun _ h => .ok none h
def oSome (f : FE) : List SV → AH → R (Option Int) := fun sl h => (f sl h).bind fun s h1 => match s with
  | .d (.int i) => .ok (some i) h1
  | _ => .st
variable {e a b : Expr} {fe fa fb : FE} {pos p p2 : Pos}
def cutX {α : Type} (xs : List α) (lo hi : Option Int) : List α := (xs.drop (HT.sIx xs.length 0 lo)).take (HT.sIx xs.length xs.length hi - HT.sIx xs.length 0 lo)
theorem RSL.take {en : En} {w : Wd} : ∀ {ss : List SV} {vs : List V} (n : Nat), RSL en w vs ss → RSL en w (vs.take n) (ss.take n)
  | [], vs, n, r => by have r : vs = [] := r; subst r; simp; exact rfl
  | s :: ss, vs, 0, r => by simp; exact rfl
  | s :: ss, vs, n + 1, ⟨x, q, e, a, b⟩ => by subst e; exact ⟨x, q.take n, rfl, a, RSL.take n b⟩
theorem RSL.drop {en : En} {w : Wd} : ∀ {ss : List SV} {vs : List V} (n : Nat), RSL en w vs ss → RSL en w (vs.drop n) (ss.drop n)
  | [], vs, n, r => by have r : vs = [] := r; subst r; simp; exact rfl
  | s :: ss, vs, 0, r => r
  | s :: ss, vs, n + 1, ⟨x, q, e, a, b⟩ => by subst e; exact RSL.drop n b
theorem RSL.cutX {en : En} {w : Wd} {ss : List SV} {vs : List V} (lo hi : Option Int) (r : RSL en w vs ss) : RSL en w (cutV vs lo hi) (Zx.cutX ss lo hi) := by
  unfold cutV Zx.cutX
  rw [RSL.length r]
  exact RSL.take _ (RSL.drop _ r)
def fSlice (fe : FE) (fl fh : List SV → AH → R (Option Int)) : FE := fun sl h => (fe sl h).bind fun s h1 => (fl sl h1).bind fun lo h2 => (fh sl h2).bind fun hi h3 => match lstOf h3 s with
  | some xs => .ok (.r h3.length) (h3 ++ [some (.lst (cutX xs lo hi))])
  | none => .st
def sPar (i j : Nat) (fa : FA) : FS := fun sl h => (fa sl h).thn sl fun ss h1 => match ss with
  | [s, t] => .nx ((sl.set i s).set j t) h1
  | _ => .st
end
structure Cal (P : Program) (w : World) (K : PySem.W.Frag) (mg : Str → Option Value) (base : Heap) (x : Str) (k : Nat) (ms : List Md) (φ : List PyData → R SV) : Prop where
  ex : ∃ f fd ps, FnOk P w K mg base (L2N.CX P w) k f fd ps (spD w K mg ms φ) ∧ mg x = some (.ref f) ∧ PySem.W.keepIn K (.ref f) = true ∧ Binds K fd ps []
theorem se_callC {X : Cx} {W : WX} {a : Expr} {es : List Expr} {fa : FA} {pos p : Pos} {x : Str} {k : Nat} {ms : List Md} {φ : List PyData → R SV} (c : Cal X.prog X.w X.K X.mg X.base x k ms φ) (hr : Room k X.A) (hg : Gl X x) (tk : L2N.Takes X W)
    (ha : SA X W (a :: es) fa) (hdb : (x == ("__debug__" : Str)) = false := by decide) (he : starEach (a :: es) X.env = (false, eval a X.env) :: starEach es X.env := by rfl) (hpl : (backTo pos (starEach es X.env)).any (·.1) = false := by rfl) :
    SE X W (.Call (.Name x p) (a :: es) [] pos) (fCall ms φ fa) := by
  obtain ⟨f, fd, ps, F, hm, hk, hb⟩ := c.ex
  exact se_call F hr hg hm hk hb tk ha hdb he hpl
def spLaw (K : PySem.W.Frag) : Sp := fun vs H Q _ => ∃ (a : Addr) (ns : List Int), vs = [.ref a] ∧ SqL K H a (ns.map V.int) ∧ ns.length ≤ 63 ∧ ∀ H', Q (.bl true) H'
theorem law_fn {P : Program} {w : World} {K : PySem.W.Frag} {mg : Str → Option Value} {base : Heap} {k : Nat} {f : Addr} {fd : FuncData} {ps : List Str} {φ : List PyData → R SV}
    (h : FnOk P w K mg base (L2N.CX P w) k f fd ps (spD w K mg [.sc] φ)) (ok : ∀ ns : List Int, ns.length ≤ 63 → ∃ h, φ [.list (ns.map PyData.int)] = .ok (.d (.bool true)) h) : FnOk P w K mg base (L2N.CX P w) k f fd ps (spLaw K) :=
  h.imp fun vs H Q E q => by
    obtain ⟨a, ns, rfl, hS, hl, q⟩ := q
    obtain ⟨hh, e⟩ := ok ns hl
    refine ⟨H, [.list (ns.map PyData.int)], Same.refl H, ⟨fun _ _ z => z, fun _ _ _ z => z⟩, ⟨.ref a, [], _, [], rfl, rfl, ⟨ns, rfl, a, rfl, hS⟩, rfl, rfl⟩, ?_⟩
    rw [e]
    intro v w H' S r
    cases RS.bool r
    exact q H'
theorem spLaw_start {KK : World → PySem.W.Frag} : ∀ (w : World) (H : Hp) (a : Addr) (ns : List Int), ns.length ≤ 63 → Only H → SqL (KK w) H a (ns.map V.int) → spLaw (KK w) [.ref a] H (fun v _ => v = .bl true) fun _ _ _ => False :=
  fun _ _ a ns hl _ hS => ⟨a, ns, rfl, hS, hl, fun _ => rfl⟩
theorem cx_none {P : Program} {w : World} {H : Hp} {s : Shared} {e : Value} {s' : Shared} (h : L2N.CX P w [] H s (fun _ _ _ => False) e s') : False := by
  obtain ⟨_, _, _, _, _, _, _, _, _, _, _, _, z⟩ := h
  exact z
end Zx
namespace Zx
open PySem PySem.Spec L2
def O.seq (o : O) (b : FS) : O := match o with
  | .nx sl h => b sl h
  | o => o
def pick (o : Option SV) (h : AH) : R SV := match o with
  | none => .st
  | some .un => .st
  | some s => .ok s h
def O.fin (o : O) : R SV := match o with
  | .rt s h => .ok s (cl s h)
  | .nx _ h => .ok (.d .none) (cl (.d .none) h)
  | .rz c _ h => .rz c h
  | _ => .st
def opt {α β : Type} (o : Option α) (k : α → β) (d : β) : β := match o with
  | some a => k a
  | none => d
section
variable {α β : Type} {a b : FS} {fa fb fc : FE} {ta tb : FT} {fl fr : FA} {sl sl' : List SV} {h h' h1 : AH} {s t v : SV} {x : PyData} {i j : Int} {n : Nat} {c : Str} {k : α → AH → R β} {ko : α → AH → O} {g g' : SV → SV → AH → R SV} {gu : SV → AH → R SV} {gs : List SV → AH → R SV} {bd : Bd} {fi : List SV → AH → R Src}
theorem q_nx : (O.nx sl h).seq b = b sl h := (rfl)
theorem q_rt : (O.rt s h).seq b = .rt s h := (rfl)
theorem q_bk : (O.bk sl h).seq b = .bk sl h := (rfl)
theorem q_ct : (O.ct sl h).seq b = .ct sl h := (rfl)
theorem q_rz : (O.rz c sl h).seq b = .rz c sl h := (rfl)
theorem q_st : O.st.seq b = .st := (rfl)
theorem f_nx : (O.nx sl h).fin = .ok (.d .none) (cl (.d .none) h) := (rfl)
theorem f_rt : (O.rt s h).fin = .ok s (cl s h) := (rfl)
theorem f_rz : (O.rz c sl h).fin = .rz c h := (rfl)
theorem f_st : O.st.fin = .st := (rfl)
theorem b_ok {a : α} : (R.ok a h).bind k = k a h := (rfl)
theorem b_rz : (R.rz c h : R α).bind k = .rz c h := (rfl)
theorem b_st : (R.st : R α).bind k = .st := (rfl)
theorem t_ok {a : α} : (R.ok a h).thn sl ko = ko a h := (rfl)
theorem t_rz : (R.rz c h : R α).thn sl ko = .rz c sl h := (rfl)
theorem t_st : (R.st : R α).thn sl ko = .st := (rfl)
theorem o_some {a : α} {k : α → β} {d : β} : opt (some a) k d = k a := (rfl)
theorem o_none {k : α → β} {d : β} : opt none k d = d := (rfl)
theorem a_seq : sSeq a b sl h = (a sl h).seq b := (rfl)
theorem a_set : sSet n fa sl h = (fa sl h).thn sl fun s h1 => .nx (sl.set n s) h1 := (rfl)
theorem a_if : sIf ta a b sl h = (ta sl h).thn sl fun k h1 => if k = true then a sl h1 else b sl h1 := (rfl)
theorem a_expr : sExpr fa sl h = (fa sl h).thn sl fun _ h1 => .nx sl h1 := (rfl)
theorem a_ret : sRet fa sl h = (fa sl h).thn sl fun s h1 => .rt s h1 := (rfl)
theorem a_retN : sRetN sl h = .rt (.d .none) h := (rfl)
theorem a_next : sNext sl h = .nx sl h := (rfl)
theorem a_break : sBreak sl h = .bk sl h := (rfl)
theorem a_cont : sCont sl h = .ct sl h := (rfl)
theorem a_raise : sRaise c sl h = .rz c sl h := (rfl)
theorem a_var : fVar n sl h = pick sl[n]? h := (by unfold fVar pick; rfl)
theorem p_d : pick (some (.d x)) h = .ok (.d x) h := (rfl)
theorem p_vw : pick (some (.vw x)) h = .ok (.vw x) h := (rfl)
theorem p_r : pick (some (.r n)) h = .ok (.r n) h := (rfl)
theorem p_sc {ns : List Int} : pick (some (.sc ns)) h = .ok (.sc ns) h := (rfl)
theorem p_ex : pick (some (.ex c)) h = .ok (.ex c) h := (rfl)
theorem p_mkv : pick (some (mkv x)) h = .ok (mkv x) h := by unfold mkv; split <;> rfl
theorem a_c : fC x sl h = .ok (.d x) h := (rfl)
theorem a_bin : fBin g fa fb sl h = (fa sl h).bind fun x h1 => (fb sl h1).bind fun y h2 => g x y h2 := (rfl)
theorem a_un : fUn gu fa sl h = (fa sl h).bind fun x h1 => gu x h1 := (rfl)
def tst (s : SV) (h : AH) : R Bool := match s with
  | .d (.bool b) => .ok b h
  | _ => .st
theorem a_tst : fTst fa sl h = (fa sl h).bind tst := (rfl)
theorem tst_b {b : Bool} : tst (.d (.bool b)) h = .ok b h := (rfl)
theorem a_andT : fAndT ta tb sl h = (ta sl h).bind fun k h1 => if k = true then tb sl h1 else .ok false h1 := (rfl)
theorem a_orT : fOrT ta tb sl h = (ta sl h).bind fun k h1 => if k = true then .ok true h1 else tb sl h1 := (rfl)
theorem a_notT : fNotT ta sl h = (ta sl h).bind fun k h1 => .ok (!k) h1 := (rfl)
theorem a_andV : fAndV fa fb sl h = (fa sl h).bind fun s h1 => (tst s h1).bind fun k h2 => if k = true then fb sl h2 else .ok (.d (.bool false)) h2 := by
  unfold fAndV
  congr 1
  funext s h1
  cases s with
  | d x => cases x with
    | bool b => cases b <;> rfl
    | none => rfl
    | int i => rfl
    | str i => rfl
    | list i => rfl
    | tuple i => rfl
    | dict i => rfl
  | un => rfl
  | vw x => rfl
  | r x => rfl
  | sc x => rfl
  | ex x => rfl
theorem a_orV : fOrV fa fb sl h = (fa sl h).bind fun s h1 => (tst s h1).bind fun k h2 => if k = true then .ok (.d (.bool true)) h2 else fb sl h2 := by
  unfold fOrV
  congr 1
  funext s h1
  cases s with
  | d x => cases x with
    | bool b => cases b <;> rfl
    | none => rfl
    | int i => rfl
    | str i => rfl
    | list i => rfl
    | tuple i => rfl
    | dict i => rfl
  | un => rfl
  | vw x => rfl
  | r x => rfl
  | sc x => rfl
  | ex x => rfl
theorem a_notV : fNotV fa sl h = (fa sl h).bind fun s h1 => (tst s h1).bind fun k h2 => .ok (.d (.bool (!k))) h2 := by
  unfold fNotV
  congr 1
  funext s h1
  cases s with
  | d x => cases x <;> rfl
  | un => rfl
  | vw x => rfl
  | r x => rfl
  | sc x => rfl
  | ex x => rfl
theorem a_chain : fChain g g' fa fb fc sl h = (fa sl h).bind fun x h1 => (fb sl h1).bind fun y h2 => (g x y h2).bind fun z h3 => (tst z h3).bind fun k h4 => if k = true then (fc sl h4).bind fun u h5 => g' y u h5 else .ok (.d (.bool false)) h4 := by
  unfold fChain
  congr 1
  funext x h1
  congr 1
  funext y h2
  congr 1
  funext s h3
  cases s with
  | d x => cases x with
    | bool b => cases b <;> rfl
    | none => rfl
    | int i => rfl
    | str i => rfl
    | list i => rfl
    | tuple i => rfl
    | dict i => rfl
  | un => rfl
  | vw x => rfl
  | r x => rfl
  | sc x => rfl
  | ex x => rfl
theorem a_if' : fIf ta fa fb sl h = (ta sl h).bind fun k h1 => if k = true then fa sl h1 else fb sl h1 := (rfl)
theorem a_nil : fNil sl h = .ok [] h := (rfl)
theorem a_cons : fCons fa fr sl h = (fa sl h).bind fun s h1 => (fr sl h1).bind fun ss h2 => .ok (s :: ss) h2 := (rfl)
theorem a_lst : fLst fr sl h = (fr sl h).bind fun ss h1 => if ss.length ≤ 1000 then .ok (.r h1.length) (h1 ++ [some (.lst ss)]) else .st := (rfl)
theorem a_tup : fTup fr sl h = (fr sl h).bind fun ss h1 => opt (allD ss) (fun ds => if ds.length ≤ 1000 then .ok (.d (.tuple ds)) h1 else .st) .st := by
  unfold fTup opt
  congr 1
  funext ss h1
  cases allD ss <;> rfl
theorem a_fz : fFz fa sl h = (fa sl h).bind fun s h1 => opt (fzv 9 h1 s) (fun p => .ok (.d p.1) (trimE h.length sl p.2)) .st := by
  unfold fFz opt
  congr 1
  funext s h1
  cases fzv 9 h1 s <;> rfl
theorem a_cb : fCB gs fr sl h = (fr sl h).bind fun ss h1 => gs ss h1 := (rfl)
def back (L : Nat) (h : AH) (r : R SV) : R SV := match r with
  | .ok s hn => .ok (shv L s) (h ++ shh L hn)
  | .rz c _ => .rz c h
  | .st => .st
theorem back_d {L : Nat} : back L h (.ok (.d x) []) = .ok (.d x) h := by unfold back shh; simp [shv]
theorem back_rz {L : Nat} {hn : AH} : back L h (.rz c hn) = .rz c h := (rfl)
theorem back_st {L : Nat} : back L h .st = .st := (rfl)
theorem a_call {ms : List Md} {φ : List PyData → R SV} : fCall ms φ fr sl h = (fr sl h).bind fun ss h1 => opt (argsD h1 ms ss) (fun ds => back h1.length h1 (φ ds)) .st := by
  unfold fCall opt back
  congr 1
  funext ss h1
  cases argsD h1 ms ss with
  | none => rfl
  | some ds =>
    first
      | rfl
      | (dsimp only
         generalize φ ds = r
         cases r <;> rfl)
theorem g_nil : argsD h [] [] = some [] := (rfl)
theorem g_cons {m : Md} {ms : List Md} {ss : List SV} : argsD h (m :: ms) (s :: ss) = opt (argD h m s) (fun d => opt (argsD h ms ss) (fun ds => some (d :: ds)) none) none := by
  unfold opt
  conv => lhs; unfold argsD
  cases argD h m s with
  | none => rfl
  | some d => cases argsD h ms ss <;> rfl
theorem g_fz : argD h .fz (.d x) = some x := (rfl)
theorem g_sc {ns : List Int} : argD h .sc (.sc ns) = some (.list (ns.map PyData.int)) := (rfl)
theorem g_vw : argD h .vw s = rb h 9 s := by unfold argD; cases s <;> rfl
theorem a_isi {T : String} : fIsi T fa sl h = (fa sl h).bind fun s h1 => opt (tyOf h1 s) (fun t => opt (isTy t T) (fun b => .ok (.d (.bool b)) h1) .st) .st := by
  unfold fIsi opt
  congr 1
  funext ss h1
  cases tyOf h1 ss with
  | none => rfl
  | some t =>
    dsimp only
    generalize isTy t T = r
    cases r <;> rfl
theorem a_bm {kd : AH → SV → Bool} {gm : SV → List SV → AH → R SV} : fBM kd gm fa fr sl h = (fa sl h).bind fun s h1 => if kd h1 s = true then (fr sl h1).bind fun ss h2 => gm s ss h2 else .st := (rfl)
def seqI (s : SV) (h : AH) : R Src := match s with
  | .d (.list ds) => .ok (.cn (ds.map fun x => .one (.d x))) h
  | .vw (.list ds) => .ok (.cn (ds.map fun x => .one (mkv x))) h
  | .r n => match h[n]? with
    | some (some (.lst _)) => .ok (.ow n) h
    | _ => .st
  | _ => .st
theorem a_iseq : iSeq fa sl h = (fa sl h).bind seqI := (rfl)
theorem s_d {ds : List PyData} : seqI (.d (.list ds)) h = .ok (.cn (ds.map fun x => .one (.d x))) h := (rfl)
theorem s_vw {ds : List PyData} : seqI (.vw (.list ds)) h = .ok (.cn (ds.map fun x => .one (mkv x))) h := (rfl)
def tupI (s : SV) (h : AH) : R Src := match s with
  | .d (.tuple ds) => .ok (.cn (ds.map fun x => .one (.d x))) h
  | .vw (.tuple ds) => .ok (.cn (ds.map fun x => .one (mkv x))) h
  | _ => .st
theorem a_itup : iTupl fa sl h = (fa sl h).bind tupI := (rfl)
theorem u_d {ds : List PyData} : tupI (.d (.tuple ds)) h = .ok (.cn (ds.map fun x => .one (.d x))) h := (rfl)
theorem u_vw {ds : List PyData} : tupI (.vw (.tuple ds)) h = .ok (.cn (ds.map fun x => .one (mkv x))) h := (rfl)
def rng1 (ss : List SV) (h : AH) : R Src := match ss with
  | [.d (.int j)] => if inB j then .ok (.cn (rngI 0 j.toNat)) h else .st
  | _ => .st
def rng2 (ss : List SV) (h : AH) : R Src := match ss with
  | [.d (.int i), .d (.int j)] => if (inB i && inB j) = true then .ok (.cn (rngI i (j - i).toNat)) h else .st
  | _ => .st
theorem inB_lt {i : Int} (h0 : -1000000000 ≤ i) (h1 : i ≤ 1000000000) : inB i = true := by
  unfold inB
  exact decide_eq_true ⟨h0, h1⟩
theorem a_irng : iRng fr sl h = (fr sl h).bind rng1 := (rfl)
theorem r1_ok (h0 : -1000000000 ≤ j) (h1 : j ≤ 1000000000) : rng1 [.d (.int j)] h = .ok (.cn (rngI 0 j.toNat)) h := by
  unfold rng1
  simp only [inB_lt h0 h1, if_true]
theorem a_irng2 : Zx.iRng2 fr sl h = (fr sl h).bind rng2 := (rfl)
theorem r2_ok (h0 : -1000000000 ≤ i) (h1 : i ≤ 1000000000) (h2 : -1000000000 ≤ j) (h3 : j ≤ 1000000000) : rng2 [.d (.int i), .d (.int j)] h = .ok (.cn (rngI i (j - i).toNat)) h := by
  unfold rng2
  simp only [inB_lt h0 h1, inB_lt h2 h3, Bool.and_self, if_true]
def enuI (ss : List SV) (h : AH) : R Src := match ss with
  | [s] => opt (stillL s) (fun xs => .ok (.cn (enumI 0 xs)) h) .st
  | _ => .st
theorem a_ienu : iEnu fr sl h = (fr sl h).bind enuI := by
  unfold iEnu enuI opt
  congr 1
  funext ss h1
  split
  · rename_i s
    dsimp only
    generalize stillL s = r
    cases r <;> rfl
  · rename_i hne
    first
      | rfl
      | (split
         · rename_i s
           exact absurd rfl (hne s)
         · rfl)
theorem e_1 : enuI [s] h = opt (stillL s) (fun xs => .ok (.cn (enumI 0 xs)) h) .st := (rfl)
def zipJ (ss : List SV) (h : AH) : R Src := match ss with
  | [s, t] => opt (stillL s) (fun xs => opt (stillL t) (fun ys => .ok (.cn (zipI xs ys)) h) .st) .st
  | _ => .st
theorem a_izip : Zx.iZip fr sl h = (fr sl h).bind zipJ := by
  unfold Zx.iZip zipJ opt
  congr 1
  funext ss h1
  split
  · rename_i s t
    dsimp only
    generalize stillL s = r
    generalize stillL t = r2
    cases r <;> cases r2 <;> rfl
  · rename_i hne
    first
      | rfl
      | (split
         · rename_i s t
           exact absurd rfl (hne s t)
         · rfl)
theorem z_2 : zipJ [s, t] h = opt (stillL s) (fun xs => opt (stillL t) (fun ys => .ok (.cn (zipI xs ys)) h) .st) .st := (rfl)
theorem l_d {ds : List PyData} : stillL (.d (.list ds)) = some (ds.map SV.d) := (rfl)
theorem l_vw {ds : List PyData} : stillL (.vw (.list ds)) = some (ds.map mkv) := (rfl)
def runS (sl : List SV) (bd : Bd) (b : FS) (s : Src) (h : AH) : O := match s with
  | .cn l => forC sl h.length bd b l sl h
  | .ow n => match h[n]? with
    | some (some (.lst xs)) => forR sl h.length bd b n xs.length 0 sl h
    | _ => .st
theorem a_for : sFor fi bd b sl h = (fi sl h).thn sl fun s h1 => runS sl bd b s h1 := (rfl)
theorem w_cn {l : List It1} : runS sl bd b (.cn l) h = forC sl h.length bd b l sl h := (rfl)
theorem c_nil {sl0 : List SV} {L : Nat} {body : FS} : forC sl0 L bd body [] sl h = .nx sl h := by unfold forC; rfl
theorem c_cons {sl0 : List SV} {L : Nat} {body : FS} {x : It1} {xs : List It1} : forC sl0 L bd body (x :: xs) sl h = opt (bd.go x sl) (fun sl1 => aft sl0 L (body sl1 h) (forC sl0 L bd body xs)) .st := by
  conv => lhs; unfold forC
  unfold opt
  cases bd.go x sl <;> rfl
theorem n_nx {sl0 : List SV} {L : Nat} {k : List SV → AH → O} : aft sl0 L (.nx sl h) k = k (norm sl0 L sl h).1 (norm sl0 L sl h).2 := (rfl)
theorem n_ct {sl0 : List SV} {L : Nat} {k : List SV → AH → O} : aft sl0 L (.ct sl h) k = k (norm sl0 L sl h).1 (norm sl0 L sl h).2 := (rfl)
theorem n_bk {sl0 : List SV} {L : Nat} {k : List SV → AH → O} : aft sl0 L (.bk sl h) k = .nx (norm sl0 L sl h).1 (norm sl0 L sl h).2 := (rfl)
theorem n_rt {sl0 : List SV} {L : Nat} {k : List SV → AH → O} : aft sl0 L (.rt s h) k = .rt s h := (rfl)
theorem n_rz {sl0 : List SV} {L : Nat} {k : List SV → AH → O} : aft sl0 L (.rz c sl h) k = .rz c sl h := (rfl)
theorem n_st {sl0 : List SV} {L : Nat} {k : List SV → AH → O} : aft sl0 L .st k = .st := (rfl)
theorem a_setT {is : List Nat} : sSetT is fa sl h = (fa sl h).thn sl fun s h1 => opt ((Bd.tp is).go (.one s) sl) (fun sl' => .nx sl' h1) .st := by
  unfold sSetT opt
  congr 1
  funext s h1
  cases (Bd.tp is).go (.one s) sl <;> rfl
theorem a_store : sStore fa fb fc sl h = (fc sl h).thn sl fun v h1 => (fa sl h1).thn sl fun s h2 => (fb sl h2).thn sl fun t h3 => opt (putIx s t v h3) (fun h4 => .nx sl h4) .st := by
  unfold sStore opt
  congr 1
  funext v h1
  congr 1
  funext s h2
  congr 1
  funext t h3
  cases putIx s t v h3 <;> rfl
theorem rb_d {k : Nat} : rb h k (.d x) = some x := by cases k <;> (unfold rb; rfl)
theorem i_add : gAdd (.d (.int i)) (.d (.int j)) h = .ok (.d (.int (i + j))) h := (rfl)
theorem i_sub : Zx.gSub (.d (.int i)) (.d (.int j)) h = .ok (.d (.int (i - j))) h := (rfl)
theorem i_mul (hm : mulB i j = true) : gMul (.d (.int i)) (.d (.int j)) h = .ok (.d (.int (i * j))) h := by
  show (if mulB i j = true then _ else _) = _
  rw [if_pos hm]
theorem divB_ok (h0 : 0 < j) (h1 : j < 340282366920938463463374607431768211456) : divB i j = true := by
  unfold divB
  refine decide_eq_true ⟨h0, ?_⟩
  have h2 : j.natAbs < 2 ^ 128 := by omega
  have := PySem.Flt.log2_lt_of (by decide) h2
  omega
theorem i_div (h0 : 0 < j) (h1 : j < 340282366920938463463374607431768211456) : gDiv (.d (.int i)) (.d (.int j)) h = .ok (.d (.int (i / j))) h := by
  show (if divB i j = true then _ else _) = _
  rw [if_pos (divB_ok h0 h1)]
theorem i_mod (h0 : 0 < j) : gMod (.d (.int i)) (.d (.int j)) h = .ok (.d (.int (i % j))) h := by
  show (if modB i j = true then _ else _) = _
  rw [if_pos (by unfold modB; exact decide_eq_true h0)]
theorem i_pow (hp : powB i j = true) : gPow (.d (.int i)) (.d (.int j)) h = .ok (.d (.int (i ^ j.toNat))) h := by
  show (if powB i j = true then _ else _) = _
  rw [if_pos hp]
theorem i_lt : gLt (.d (.int i)) (.d (.int j)) h = .ok (.d (.bool (decide (i < j)))) h := (rfl)
theorem i_le : gLe (.d (.int i)) (.d (.int j)) h = .ok (.d (.bool (decide (i ≤ j)))) h := (rfl)
theorem i_gt : gGt (.d (.int i)) (.d (.int j)) h = .ok (.d (.bool (decide (j < i)))) h := (rfl)
theorem i_ge : gGe (.d (.int i)) (.d (.int j)) h = .ok (.d (.bool (decide (j ≤ i)))) h := (rfl)
theorem shaped_int : SeqAt.shaped (.int i) = true := by
  unfold SeqAt.shaped
  simp [PyData.canLay0, PyData.depth]
theorem i_eq : gEq false (.d (.int i)) (.d (.int j)) h = .ok (.d (.bool (decide (i = j)))) h := by
  unfold gEq
  rw [rb_d, rb_d]
  simp [nod, shaped_int, PyData.eqv]
  by_cases e : i = j <;> simp [e]
theorem i_ne : gEq true (.d (.int i)) (.d (.int j)) h = .ok (.d (.bool (!decide (i = j)))) h := by
  unfold gEq
  rw [rb_d, rb_d]
  simp [nod, shaped_int, PyData.eqv]
  by_cases e : i = j <;> simp [e]
theorem i_neg : gNeg (.d (.int i)) h = .ok (.d (.int (-i))) h := (rfl)
theorem i_int : gInt [.d (.int i)] h = .ok (.d (.int i)) h := (rfl)
theorem i_intb {b : Bool} : gInt [.d (.bool b)] h = .ok (.d (.int (if b = true then 1 else 0))) h := (rfl)
theorem i_abs : gAbs [.d (.int i)] h = .ok (.d (.int (if i < 0 then -i else i))) h := (rfl)
theorem i_min : gMin2 [.d (.int i), .d (.int j)] h = .ok (.d (.int (if j < i then j else i))) h := (rfl)
theorem i_max : gMax2 [.d (.int i), .d (.int j)] h = .ok (.d (.int (if j > i then j else i))) h := (rfl)
theorem atI_map {α γ : Type} {f : α → γ} {xs : List α} {i : Int} : atI (xs.map f) i = (atI xs i).map f := by
  unfold atI
  rw [List.length_map]
  cases ixN xs.length i with
  | none => rfl
  | some j =>
    show (xs.map f)[j]? = Option.map f xs[j]?
    rw [List.getElem?_map]
theorem ix_d {ds : List PyData} : gIx (.d (.list ds)) (.d (.int i)) h = opt (atI ds i) (fun u => .ok (.d u) h) .st := by
  simp only [gIx, itemsOf, atI_map]
  cases atI ds i <;> rfl
theorem ix_dt {ds : List PyData} : gIx (.d (.tuple ds)) (.d (.int i)) h = opt (atI ds i) (fun u => .ok (.d u) h) .st := by
  simp only [gIx, itemsOf, atI_map]
  cases atI ds i <;> rfl
theorem ix_vw {ds : List PyData} : gIx (.vw (.list ds)) (.d (.int i)) h = opt (atI ds i) (fun u => .ok (mkv u) h) .st := by
  simp only [gIx, itemsOf, atI_map]
  cases atI ds i <;> rfl
theorem ix_sc {ns : List Int} : gIx (.sc ns) (.d (.int i)) h = opt (atI ns i) (fun u => .ok (.d (.int u)) h) .st := by
  simp only [gIx, itemsOf, atI_map]
  cases atI ns i <;> rfl
theorem ix_r {xs : List SV} (e : h[n]? = some (some (.lst xs))) : gIx (.r n) (.d (.int i)) h = opt (atI xs i) (fun u => .ok u h) .st := by
  simp only [gIx, itemsOf, e]
  cases atI xs i <;> rfl
theorem n_d {ds : List PyData} : gLen [.d (.list ds)] h = .ok (.d (.int ds.length)) h := by simp only [gLen, itemsOf, List.length_map]
theorem n_dt {ds : List PyData} : gLen [.d (.tuple ds)] h = .ok (.d (.int ds.length)) h := by simp only [gLen, itemsOf, List.length_map]
theorem n_vw {ds : List PyData} : gLen [.vw (.list ds)] h = .ok (.d (.int ds.length)) h := by simp only [gLen, itemsOf, List.length_map]
theorem n_sc {ns : List Int} : gLen [.sc ns] h = .ok (.d (.int ns.length)) h := by simp only [gLen, itemsOf, List.length_map]
theorem fzv_d {k : Nat} : fzv k h (.d x) = some (x, h) := by cases k <;> (unfold fzv; rfl)
theorem fzL_d : ∀ (ds : List PyData) (k : Nat) (h : AH), fzL k h (ds.map SV.d) = some (ds, h)
  | [], k, h => by unfold fzL; rfl
  | d :: ds, k, h => by
    show fzL k h (SV.d d :: ds.map SV.d) = _
    unfold fzL
    rw [fzv_d]
    show (match fzL k h (ds.map SV.d) with | some (ds_1, h2) => some (d :: ds_1, h2) | none => none) = _
    rw [fzL_d ds k h]
theorem fzv_r {ds : List PyData} (e : h[n]? = some (some (.lst (ds.map SV.d)))) : fzv 9 h (.r n) = some (.list ds, h.set n none) := by
  unfold fzv
  simp only [e, fzL_d, and_self, if_true]
theorem rb_vw {k : Nat} : rb h k (.vw x) = some x := by cases k <;> (unfold rb; rfl)
theorem rb_mkv {k : Nat} : rb h k (mkv x) = some x := by
  unfold mkv
  split
  · exact rb_d
  · exact rb_vw
theorem rbL_d : ∀ (ds : List PyData) (k : Nat), rbL h k (ds.map SV.d) = some ds
  | [], k => by unfold rbL; rfl
  | d :: ds, k => by
    show rbL h k (SV.d d :: ds.map SV.d) = _
    unfold rbL
    rw [rb_d]
    show (match rbL h k (ds.map SV.d) with | some ds_1 => some (d :: ds_1) | none => none) = _
    rw [rbL_d ds k]
theorem rb_r {k : Nat} {ds : List PyData} (e : h[n]? = some (some (.lst (ds.map SV.d)))) : rb h (k + 1) (.r n) = some (.list ds) := by
  unfold rb
  simp only [e, rbL_d]
  rfl
theorem allD_map : ∀ (ds : List PyData), allD (ds.map SV.d) = some ds
  | [] => by unfold allD; rfl
  | d :: ds => by
    show (allD (ds.map SV.d)).map (d :: ·) = some (d :: ds)
    rw [allD_map ds]; rfl
theorem d_nil : allD [] = some [] := (rfl)
theorem d_cons {ss : List SV} : allD (.d x :: ss) = opt (allD ss) (fun ds => some (x :: ds)) none := by
  unfold opt
  conv => lhs; unfold allD
  cases allD ss <;> rfl
theorem phi_eq {ms : List Md} {m : Nat} {ds : List PyData} : phi ms m a ds = (a (startS ms ds m) []).fin := by
  unfold phi O.fin
  rfl
theorem below_d : ∀ (ds : List PyData) (L : Nat), (ds.map SV.d).all (below L) = true
  | [], _ => rfl
  | d :: ds, L => by
    rw [List.map_cons, List.all_cons, below_d ds L]
    rfl
theorem atI_0 {α : Type} {xs : List α} {i : Int} (h0 : 0 ≤ i) : atI xs i = xs[i.toNat]? := by
  unfold atI ixN
  rw [if_pos h0]
  by_cases h1 : i < xs.length
  · rw [if_pos h1]; rfl
  · rw [if_neg h1]
    rw [List.getElem?_eq_none (by omega)]
    rfl
end
abbrev eI (ns : List Int) : PyData := .list (ns.map PyData.int)
abbrev eG (g : List (List Int)) : PyData := .list (g.map eI)
end Zx
namespace Zx
open PySem PySem.Spec L2
structure Fn (k : Nat) (d : PyData) : Prop where
  n : nod d = true
  c : d.canLay0 = true
  d : d.depth ≤ k
structure FnL (k : Nat) (ds : List PyData) : Prop where
  n : nodL ds = true
  c : PyData.canLayAll0 ds = true
  d : PyData.depthAll ds ≤ k
theorem Fn.mono {k l : Nat} {d : PyData} (f : Fn k d) (h : k ≤ l) : Fn l d := ⟨f.n, f.c, Nat.le_trans f.d h⟩
theorem Fn_int {k : Nat} {i : Int} : Fn k (.int i) := ⟨by unfold nod; rfl, by unfold PyData.canLay0; rfl, by unfold PyData.depth; exact Nat.zero_le _⟩
theorem Fn_bool {k : Nat} {b : Bool} : Fn k (.bool b) := ⟨by unfold nod; rfl, by unfold PyData.canLay0; rfl, by unfold PyData.depth; exact Nat.zero_le _⟩
theorem Fn_none {k : Nat} : Fn k .none := ⟨by unfold nod; rfl, by unfold PyData.canLay0; rfl, by unfold PyData.depth; exact Nat.zero_le _⟩
theorem FnL_nil {k : Nat} : FnL k [] := ⟨by unfold nodL; rfl, by unfold PyData.canLayAll0; rfl, by unfold PyData.depthAll; exact Nat.zero_le _⟩
theorem FnL_cons {k : Nat} {d : PyData} {ds : List PyData} (a : Fn k d) (b : FnL k ds) : FnL k (d :: ds) :=
  ⟨by unfold nodL; rw [a.n, b.n]; rfl, by unfold PyData.canLayAll0; rw [a.c, b.c]; rfl, by unfold PyData.depthAll; exact Nat.max_le.mpr ⟨a.d, b.d⟩⟩
theorem FnL_of {k : Nat} : ∀ {ds : List PyData}, (∀ d ∈ ds, Fn k d) → FnL k ds
  | [], _ => FnL_nil
  | d :: ds, h => FnL_cons (h d List.mem_cons_self) (FnL_of fun x m => h x (List.mem_cons_of_mem _ m))
theorem FnL_map {α : Type} {k : Nat} {xs : List α} {f : α → PyData} (h : ∀ x ∈ xs, Fn k (f x)) : FnL k (xs.map f) := FnL_of fun d m => by
  obtain ⟨x, hx, e⟩ := List.mem_map.mp m
  exact e ▸ h x hx
theorem Fn_lst {k : Nat} {ds : List PyData} (a : FnL k ds) : Fn (k + 1) (.list ds) :=
  ⟨by unfold nod; exact a.n, by unfold PyData.canLay0; exact a.c, by unfold PyData.depth; exact Nat.succ_le_succ a.d⟩
theorem Fn_tup {k : Nat} {ds : List PyData} (a : FnL k ds) : Fn (k + 1) (.tuple ds) :=
  ⟨by unfold nod; exact a.n, by unfold PyData.canLay0; exact a.c, by unfold PyData.depth; exact Nat.succ_le_succ a.d⟩
theorem Fn_eI {k : Nat} (ns : List Int) : Fn (k + 1) (eI ns) := Fn_lst (FnL_map fun _ _ => Fn_int)
theorem Fn_eG {k : Nat} (g : List (List Int)) : Fn (k + 2) (eG g) := Fn_lst (FnL_map fun r _ => Fn_eI r)
theorem Fn.shaped {d : PyData} (f : Fn 64 d) : SeqAt.shaped d = true := by
  unfold SeqAt.shaped
  rw [f.c, decide_eq_true f.d]; rfl
mutual
theorem eqv_refl : ∀ d : PyData, nod d = true → PyData.eqv d d = true
  | .none, _ => by unfold PyData.eqv; rfl
  | .bool b, _ => by unfold PyData.eqv; simp
  | .int i, _ => by unfold PyData.eqv; simp
  | .str s, _ => by unfold PyData.eqv; simp
  | .list ds, h => by unfold nod at h; unfold PyData.eqv; exact eqvAll_refl ds h
  | .tuple ds, h => by unfold nod at h; unfold PyData.eqv; exact eqvAll_refl ds h
  | .dict _, h => by unfold nod at h; cases h
theorem eqvAll_refl : ∀ ds : List PyData, nodL ds = true → PyData.eqvAll ds ds = true
  | [], _ => by unfold PyData.eqvAll; rfl
  | d :: ds, h => by
    unfold nodL at h
    have h := Bool.and_eq_true_iff.mp h
    unfold PyData.eqvAll
    rw [eqv_refl d h.1, eqvAll_refl ds h.2]; rfl
end
section
variable {h : AH} {s t : SV} {x y : PyData} {neg : Bool}
end
theorem eqvAll_ints : ∀ as bs : List Int, PyData.eqvAll (as.map PyData.int) (bs.map PyData.int) = decide (as = bs)
  | [], [] => by unfold PyData.eqvAll; rfl
  | [], b :: bs => by
    show PyData.eqvAll [] (_ :: _) = _
    unfold PyData.eqvAll; rfl
  | a :: as, [] => by
    show PyData.eqvAll (_ :: _) [] = _
    unfold PyData.eqvAll; rfl
  | a :: as, b :: bs => by
    show PyData.eqvAll (.int a :: as.map PyData.int) (.int b :: bs.map PyData.int) = _
    unfold PyData.eqvAll
    rw [eqvAll_ints as bs]
    unfold PyData.eqv
    by_cases e : a = b <;> by_cases e2 : as = bs <;> simp [e, e2]
theorem eqv_eI (as bs : List Int) : PyData.eqv (eI as) (eI bs) = decide (as = bs) := by
  unfold eI PyData.eqv
  exact eqvAll_ints as bs
theorem eqv_nil (ds : List PyData) : PyData.eqv (.list ds) (.list []) = ds.isEmpty := by
  unfold PyData.eqv
  cases ds <;> (unfold PyData.eqvAll; rfl)
theorem cl_nil {s : SV} : cl s [] = [] := by unfold cl; split <;> rfl
theorem cl_r {n : Nat} {h : AH} : cl (.r n) h = h := by
  unfold cl below
  simp
theorem cl_d {x : PyData} {h : AH} : cl (.d x) h = [] := (rfl)
theorem cl_vw {x : PyData} {h : AH} : cl (.vw x) h = [] := (rfl)
theorem trim_len {L : Nat} {sl : List SV} {h : AH} (e : h.length ≤ L) : trimE L sl h = h := by
  unfold trimE
  rw [List.take_of_length_le e]
  split <;> rfl
theorem trim_ok {sl : List SV} {h : AH} (a : h.all (belowO h.length) = true) (b : sl.all (below h.length) = true) {g : AH} : trimE h.length sl (h ++ g) = h := by
  unfold trimE trimOk
  rw [List.take_left, a, b]
  rfl
theorem trim_0 {sl : List SV} {h : AH} (b : sl.all (below 0) = true) : trimE 0 sl h = [] := trim_ok (h := []) rfl b (g := h)
theorem norm_len {L : Nat} {sl0 sl : List SV} {h : AH} (e : h.length ≤ L) : norm sl0 L sl h = (reset sl0 sl, h) := by
  unfold norm
  rw [List.take_of_length_le e]
  split <;> rfl
theorem mkv_int {i : Int} : mkv (.int i) = .d (.int i) := (rfl)
theorem mkv_bool {b : Bool} : mkv (.bool b) = .d (.bool b) := (rfl)
theorem mkv_none : mkv .none = .d .none := (rfl)
theorem mkv_str {s : Str} : mkv (.str s) = .d (.str s) := (rfl)
theorem mkv_lst {ds : List PyData} : mkv (.list ds) = .vw (.list ds) := (rfl)
theorem back_r {L n : Nat} {h hn : AH} : back L h (.ok (.r n) hn) = .ok (.r (n + L)) (h ++ shh L hn) := (rfl)
theorem wide_mul {i j : Int} (a b : Nat) (ha : 0 < a) (hb : 0 < b) (hi : i.natAbs < 2 ^ a) (hj : j.natAbs < 2 ^ b) (hab : a + b < 1000000) : mulB i j = true := by
  unfold mulB
  refine decide_eq_true ?_
  have := PySem.Flt.log2_lt_of ha hi
  have := PySem.Flt.log2_lt_of hb hj
  omega
theorem reset_un {as bs : List SV} {b : SV} : reset (.un :: as) (b :: bs) = .un :: reset as bs := by
  conv => lhs; unfold reset
theorem reset_d {as bs : List SV} {b : SV} {x : PyData} : reset (.d x :: as) (b :: bs) = b :: reset as bs := by
  conv => lhs; unfold reset
theorem reset_r {as bs : List SV} {b : SV} {n : Nat} : reset (.r n :: as) (b :: bs) = b :: reset as bs := by
  conv => lhs; unfold reset
theorem reset_vw {as bs : List SV} {b : SV} {x : PyData} : reset (.vw x :: as) (b :: bs) = b :: reset as bs := by
  conv => lhs; unfold reset
theorem reset_sc {as bs : List SV} {b : SV} {x : List Int} : reset (.sc x :: as) (b :: bs) = b :: reset as bs := by
  conv => lhs; unfold reset
theorem reset_nil {bs : List SV} : reset [] bs = bs := by unfold reset; rfl
def ownL (h : AH) (n : Nat) : Option (List SV) := match h[n]? with
  | some (some (.lst xs)) => some xs
  | _ => none
section
variable {h : AH} {n : Nat} {i : Int} {s t v : SV} {xs : List SV} {ss sl : List SV} {fo fi fe : FE}
theorem own_0 : ownL (some (.lst xs) :: h) 0 = some xs := (rfl)
theorem own_s {o : Option AO} : ownL (o :: h) (n + 1) = ownL h n := (rfl)
theorem own_get (e : ownL h n = some xs) : h[n]? = some (some (.lst xs)) := by
  unfold ownL at e
  split at e
  · rename_i z; cases e; exact z
  · cases e
theorem own_cs (h : AH) (n : Nat) : (h[n]? = none ∧ ownL h n = none) ∨ (h[n]? = some none ∧ ownL h n = none) ∨ (∃ xs, h[n]? = some (some (.lst xs)) ∧ ownL h n = some xs) ∨ (∃ kvs, h[n]? = some (some (.dct kvs)) ∧ ownL h n = none) ∨ (∃ ts, h[n]? = some (some (.tup ts)) ∧ ownL h n = none) ∨ ∃ kvs, h[n]? = some (some (.dkt kvs)) ∧ ownL h n = none := by
  unfold ownL
  cases e : h[n]? with
  | none => exact .inl ⟨rfl, rfl⟩
  | some o => cases o with
    | none => exact .inr (.inl ⟨rfl, rfl⟩)
    | some o => cases o with
      | lst xs => exact .inr (.inr (.inl ⟨xs, rfl, rfl⟩))
      | dct kvs => exact .inr (.inr (.inr (.inl ⟨kvs, rfl, rfl⟩)))
      | tup ts => exact .inr (.inr (.inr (.inr (.inl ⟨ts, rfl, rfl⟩))))
      | dkt kvs => exact .inr (.inr (.inr (.inr (.inr ⟨kvs, rfl, rfl⟩))))
theorem a_own {k : List SV → List SV → AH → Option (List SV × SV)} : gOwn k (.r n) ss h = opt (ownL h n) (fun xs => opt (k xs ss h) (fun p => .ok p.2 (h.set n (some (.lst p.1)))) .st) .st := by
  rcases own_cs h n with ⟨e, e2⟩ | ⟨e, e2⟩ | ⟨xs, e, e2⟩ | ⟨kvs, e, e2⟩ | ⟨ts, e, e2⟩ | ⟨kvs, e, e2⟩ <;> simp only [gOwn, e, e2, opt]
  generalize k xs ss h = r
  cases r <;> rfl
theorem o_seq : seqI (.r n) h = opt (ownL h n) (fun _ => .ok (.ow n) h) .st := by
  rcases own_cs h n with ⟨e, e2⟩ | ⟨e, e2⟩ | ⟨xs, e, e2⟩ | ⟨kvs, e, e2⟩ | ⟨ts, e, e2⟩ | ⟨kvs, e, e2⟩ <;> simp only [seqI, e, e2, opt]
theorem o_run {bd : Bd} {b : FS} : runS sl bd b (.ow n) h = opt (ownL h n) (fun xs => forR sl h.length bd b n xs.length 0 sl h) .st := by
  rcases own_cs h n with ⟨e, e2⟩ | ⟨e, e2⟩ | ⟨xs, e, e2⟩ | ⟨kvs, e, e2⟩ | ⟨ts, e, e2⟩ | ⟨kvs, e, e2⟩ <;> simp only [runS, e, e2, opt]
def itT (h : AH) (n : Nat) (k : List SV → R SV) : R SV := match h[n]? with
  | some (some (.tup ts)) => k ts
  | _ => .st
theorem o_ix : gIx (.r n) (.d (.int i)) h = opt (ownL h n) (fun xs => opt (atI xs i) (fun u => .ok u h) .st) (itT h n fun xs => opt (atI xs i) (fun u => .ok u h) .st) := by
  rcases own_cs h n with ⟨e, e2⟩ | ⟨e, e2⟩ | ⟨xs, e, e2⟩ | ⟨kvs, e, e2⟩ | ⟨ts, e, e2⟩ | ⟨kvs, e, e2⟩ <;> simp only [gIx, itemsOf, e, e2, opt, itT]
  · cases atI xs i <;> rfl
  · cases atI ts i <;> rfl
theorem o_len : gLen [.r n] h = opt (ownL h n) (fun xs => .ok (.d (.int xs.length)) h) (itT h n fun xs => .ok (.d (.int xs.length)) h) := by
  rcases own_cs h n with ⟨e, e2⟩ | ⟨e, e2⟩ | ⟨xs, e, e2⟩ | ⟨kvs, e, e2⟩ | ⟨ts, e, e2⟩ | ⟨kvs, e, e2⟩ <;> simp only [gLen, itemsOf, e, e2, opt, itT]
theorem o_lstOf : lstOf h (.r n) = ownL h n := by
  rcases own_cs h n with ⟨e, e2⟩ | ⟨e, e2⟩ | ⟨xs, e, e2⟩ | ⟨kvs, e, e2⟩ | ⟨ts, e, e2⟩ | ⟨kvs, e, e2⟩ <;> simp only [lstOf, e, e2, opt]
theorem o_put : putIx (.r n) (.d (.int i)) v h = opt (ownL h n) (fun xs => opt (ixN xs.length i) (fun j => some (h.set n (some (.lst (xs.set j v))))) none) none := by
  rcases own_cs h n with ⟨e, e2⟩ | ⟨e, e2⟩ | ⟨xs, e, e2⟩ | ⟨kvs, e, e2⟩ | ⟨ts, e, e2⟩ | ⟨kvs, e, e2⟩ <;> simp only [putIx, e, e2, opt]
  cases ixN xs.length i <;> rfl
theorem o_kd : kdL h (.r n) = (ownL h n).isSome := by unfold kdL; rw [o_lstOf]
theorem o_ty : tyOf h (.r n) = opt (ownL h n) (fun _ => some "list") (match h[n]? with | some (some (.tup _)) => some "tuple" | _ => none) := by
  rcases own_cs h n with ⟨e, e2⟩ | ⟨e, e2⟩ | ⟨xs, e, e2⟩ | ⟨kvs, e, e2⟩ | ⟨ts, e, e2⟩ | ⟨kvs, e, e2⟩ <;> simp only [tyOf, e, e2, opt]
theorem o_list : gList [.r n] h = opt (ownL h n) (fun xs => .ok (.r h.length) (h ++ [some (.lst xs)])) (itT h n fun xs => .ok (.r h.length) (h ++ [some (.lst xs)])) := by
  rcases own_cs h n with ⟨e, e2⟩ | ⟨e, e2⟩ | ⟨xs, e, e2⟩ | ⟨kvs, e, e2⟩ | ⟨ts, e, e2⟩ | ⟨kvs, e, e2⟩ <;> simp only [gList, itemsOf, e, e2, opt, itT]
theorem l_list {ds : List PyData} : gList [.d (.list ds)] h = .ok (.r h.length) (h ++ [some (.lst (ds.map SV.d))]) := by
  simp only [gList, itemsOf]
theorem l_listv {ds : List PyData} : gList [.vw (.list ds)] h = .ok (.r h.length) (h ++ [some (.lst (ds.map mkv))]) := by
  simp only [gList, itemsOf]
theorem ixN_in {m : Nat} (h0 : 0 ≤ i) (h1 : i < m) : ixN m i = some i.toNat := by
  unfold ixN
  rw [if_pos h0, if_pos h1]
theorem atI_in {α : Type} {xs : List α} (h0 : 0 ≤ i) (h1 : i < xs.length) : atI xs i = some (xs[i.toNat]'(by omega)) := by
  rw [atI_0 h0, List.getElem?_eq_getElem]
theorem k_app (e : xs.length < lim) : kAppend xs [v] h = some (xs ++ [v], .d .none) := by
  unfold kAppend
  dsimp only
  rw [if_pos e]
theorem k_rev : kReverse xs [] h = some (xs.reverse, .d .none) := (rfl)
theorem k_clr : kClear xs [] h = some ([], .d .none) := (rfl)
end
theorem a_while {fuel : Nat} {t : FT} {b : FS} {sl : List SV} {h : AH} : sWhile fuel t b sl h = whL sl h.length t b fuel sl h := (rfl)
theorem rngI_get {lo : Int} {n k : Nat} {x : It1} (e : (rngI lo n)[k]? = some x) : k < n ∧ x = .one (.d (.int (lo + k))) := by
  unfold rngI at e
  rw [List.getElem?_map] at e
  by_cases hk : k < n
  · rw [List.getElem?_range hk] at e
    exact ⟨hk, (Option.some.inj e).symm⟩
  · rw [List.getElem?_eq_none (by rw [List.length_range]; omega)] at e
    cases e
def O.turn (sl0 : List SV) (L : Nat) : O → Option (List SV × AH)
  | .nx sl h => some (norm sl0 L sl h)
  | .ct sl h => some (norm sl0 L sl h)
  | _ => none
theorem aft_turn {sl0 : List SV} {L : Nat} {o : O} {k : List SV → AH → O} {sl : List SV} {h : AH} (e : o.turn sl0 L = some (sl, h)) : aft sl0 L o k = k sl h := by
  cases o with
  | nx a b => have e := Option.some.inj e; unfold aft; dsimp only; rw [e]
  | ct a b => have e := Option.some.inj e; unfold aft; dsimp only; rw [e]
  | bk _ _ => cases e
  | rt _ _ => cases e
  | rz _ _ _ => cases e
  | st => cases e
theorem turn_nx {sl0 sl : List SV} {L : Nat} {h : AH} : (O.nx sl h).turn sl0 L = some (norm sl0 L sl h) := (rfl)
theorem turn_ct {sl0 sl : List SV} {L : Nat} {h : AH} : (O.ct sl h).turn sl0 L = some (norm sl0 L sl h) := (rfl)
theorem i_mulL {i j : Int} {h : AH} (a : -1000000000000000000000000000000000000000000000000000000000000000000000000000000000000000000000000000000000000000000000000000000000000000000000000000000000000000000000000000000000000000000000000000000000000000000000000000000000000000000000000000000000000000000000000000000000000000000000000000000000000 < i) (b : i < 1000000000000000000000000000000000000000000000000000000000000000000000000000000000000000000000000000000000000000000000000000000000000000000000000000000000000000000000000000000000000000000000000000000000000000000000000000000000000000000000000000000000000000000000000000000000000000000000000000000000000) (c : -1000000000000000000000000000000000000000000000000000000000000000000000000000000000000000000000000000000000000000000000000000000000000000000000000000000000000000000000000000000000000000000000000000000000000000000000000000000000000000000000000000000000000000000000000000000000000000000000000000000000000 < j) (d : j < 1000000000000000000000000000000000000000000000000000000000000000000000000000000000000000000000000000000000000000000000000000000000000000000000000000000000000000000000000000000000000000000000000000000000000000000000000000000000000000000000000000000000000000000000000000000000000000000000000000000000000) : gMul (.d (.int i)) (.d (.int j)) h = .ok (.d (.int (i * j))) h := by
  have e : (1000000000000000000000000000000000000000000000000000000000000000000000000000000000000000000000000000000000000000000000000000000000000000000000000000000000000000000000000000000000000000000000000000000000000000000000000000000000000000000000000000000000000000000000000000000000000000000000000000000000000 : Nat) < 2 ^ 1000 := by decide
  exact i_mul (wide_mul 1000 1000 (by decide) (by decide) (Nat.lt_trans (by omega) e) (Nat.lt_trans (by omega) e) (by decide))
theorem for_inv {sl0 : List SV} {L : Nat} {bd : Bd} {body : FS} {P : Nat → List SV → AH → Prop} : ∀ (l : List It1) (m : Nat) (sl : List SV) (h : AH), (∀ k x sl h, l[k]? = some x → P (m + k) sl h → ∃ sl1, bd.go x sl = some sl1 ∧ ∃ sl2 h2, (body sl1 h).turn sl0 L = some (sl2, h2) ∧ P (m + k + 1) sl2 h2) → P m sl h →
    ∃ sl' h', forC sl0 L bd body l sl h = .nx sl' h' ∧ P (m + l.length) sl' h'
  | [], m, sl, h, _, p => ⟨sl, h, c_nil, p⟩
  | x :: l, m, sl, h, st, p => by
    obtain ⟨sl1, e1, sl2, h2, e2, p2⟩ := st 0 x sl h rfl p
    rw [c_cons, e1]
    obtain ⟨sl', h', e3, p3⟩ := for_inv (P := P) l (m + 1) sl2 h2 (fun k y sl h e q => by
      have := st (k + 1) y sl h e
      rw [show m + (k + 1) = m + 1 + k from by omega] at this
      exact this q) p2
    refine ⟨sl', h', ?_, ?_⟩
    · show aft sl0 L (body sl1 h) _ = _
      rw [aft_turn e2, e3]
    · rw [List.length_cons, show m + (l.length + 1) = m + 1 + l.length from by omega]
      exact p3
theorem norm_ok {sl0 sl : List SV} {L : Nat} {h : AH} (a : (h.take L).all (belowO L) = true) (b : (reset sl0 sl).all (below L) = true) : norm sl0 L sl h = (reset sl0 sl, h.take L) := by
  unfold norm trimOk
  rw [a, b]
  rfl
theorem for_inv' {sl0 : List SV} {L : Nat} {bd : Bd} {body : FS} {l : List It1} {sl : List SV} {h : AH} {o : O} (ef : forC sl0 L bd body l sl h = o) {P : Nat → List SV → AH → Prop} (p : P 0 sl h)
    (st : ∀ k x sl h, l[k]? = some x → P k sl h → ∃ sl1, bd.go x sl = some sl1 ∧ ∃ sl2 h2, (body sl1 h).turn sl0 L = some (sl2, h2) ∧ P (k + 1) sl2 h2) : ∃ sl' h', o = .nx sl' h' ∧ P l.length sl' h' := by
  obtain ⟨sl', h', e, q⟩ := for_inv (P := P) l 0 sl h (fun k x sl h e q => by
    rw [Nat.zero_add] at q ⊢
    exact st k x sl h e q) p
  rw [Nat.zero_add] at q
  exact ⟨sl', h', ef.symm.trans e, q⟩
def lrg1 (s : SV) (h : AH) : R SV := match s with
  | .d (.int j) => if (inB j && decide (j.toNat ≤ 1000000)) = true then .ok (.r h.length) (h ++ [some (.lst (rgS 0 j))]) else .st
  | _ => .st
theorem a_lrg1 {fa : FE} {sl : List SV} {h : AH} : fLstRg (fRg1 fa) sl h = (fa sl h).bind lrg1 := by
  unfold fLstRg fRg1
  generalize fa sl h = r
  cases r with
  | st => rfl
  | rz c h => rfl
  | ok s h1 =>
    show ((match s with | .d (.int n) => (.ok ((0 : Int), n) h1 : R (Int × Int)) | _ => .st).bind _) = lrg1 s h1
    unfold lrg1
    cases s with
    | d x =>
      cases x with
      | int j =>
        show (if (inB 0 && inB j && decide ((j - 0).toNat ≤ 1000000)) = true then _ else _) = _
        rw [Int.sub_zero]
        rfl
      | none => rfl
      | bool i => rfl
      | str i => rfl
      | list i => rfl
      | tuple i => rfl
      | dict i => rfl
    | un => rfl
    | vw x => rfl
    | r x => rfl
    | sc x => rfl
    | ex x => rfl
abbrev oI (xs : List Int) : Option AO := some (.lst ((xs.map PyData.int).map SV.d))
theorem fzv_nil {h : AH} {n : Nat} (e : ownL h n = some []) : fzv 9 h (.r n) = some (.list [], h.set n none) := fzv_r (ds := []) (own_get e)
theorem rb_own {h : AH} {n k : Nat} {ds : List PyData} (e : ownL h n = some (ds.map SV.d)) : rb h (k + 1) (.r n) = some (.list ds) := rb_r (own_get e)
theorem trim_g {L : Nat} {sl : List SV} {h : AH} (a : (h.take L).all (belowO L) = true) (b : sl.all (below L) = true) : trimE L sl h = h.take L := by
  unfold trimE trimOk
  rw [a, b]
  rfl
theorem bel_o {L : Nat} {xs : List SV} : belowO L (some (.lst xs)) = xs.all (below L) := (rfl)
theorem bel_n {L : Nat} : belowO L none = true := (rfl)
theorem bel_r {L n : Nat} : below L (.r n) = decide (n < L) := (rfl)
theorem bel_d {L : Nat} {x : PyData} : below L (.d x) = true := (rfl)
theorem bel_vw {L : Nat} {x : PyData} : below L (.vw x) = true := (rfl)
theorem bel_sc {L : Nat} {x : List Int} : below L (.sc x) = true := (rfl)
theorem bel_un {L : Nat} : below L .un = true := (rfl)
theorem mkv_ints (ns : List Int) : (ns.map PyData.int).map mkv = (ns.map PyData.int).map SV.d := by
  rw [List.map_map, List.map_map]
  exact List.map_congr_left fun i _ => mkv_int
def refs (L n : Nat) : List SV := (List.range n).map fun i => SV.r (L + 1 + i)
def OG (L : Nat) (g : List (List SV)) : AH := some (.lst (refs L g.length)) :: g.map fun r => some (.lst r)
abbrev dI (g : List (List Int)) : List (List SV) := g.map fun r => (r.map PyData.int).map SV.d
theorem refs_len {L n : Nat} : (refs L n).length = n := by unfold refs; rw [List.length_map, List.length_range]
theorem refs_get {L n i : Nat} (h : i < n) : (refs L n)[i]? = some (.r (L + 1 + i)) := by
  unfold refs
  rw [List.getElem?_map, List.getElem?_range h]
  rfl
theorem shh_OG {L : Nat} {g : List (List Int)} : shh L (OG 0 (dI g)) = OG L (dI g) := by
  unfold shh OG
  rw [List.map_cons, List.map_map]
  congr 1
  · show some (AO.lst ((refs 0 (dI g).length).map (shv L))) = _
    congr 2
    unfold refs
    rw [List.map_map]
    apply List.map_congr_left
    intro i _
    show SV.r (0 + 1 + i + L) = SV.r (L + 1 + i)
    congr 1
    omega
  · apply List.map_congr_left
    intro r hr
    obtain ⟨ns, _, rfl⟩ := List.mem_map.mp hr
    show some (AO.lst ((((ns.map PyData.int).map SV.d)).map (shv L))) = _
    congr 2
    rw [List.map_map]
    rfl
theorem own_og {h : AH} {L : Nat} (hL : h.length = L) {g : List (List SV)} {t : AH} : ownL (h ++ OG L g ++ t) L = some (refs L g.length) := by
  subst hL
  unfold ownL OG
  simp
theorem rbL_rows {k : Nat} : ∀ (g : List (List Int)) (pre t : AH), rbL (pre ++ (dI g).map (fun r => some (.lst r)) ++ t) (k + 1) ((List.range g.length).map fun i => SV.r (pre.length + i)) = some (g.map eI)
  | [], pre, t => by show rbL _ _ [] = _; unfold rbL; rfl
  | r :: g, pre, t => by
    have e : (List.range (r :: g).length).map (fun i => SV.r (pre.length + i)) = SV.r pre.length :: (List.range g.length).map fun i => SV.r ((pre ++ [oI r]).length + i) := by
      rw [List.length_cons, List.range_succ_eq_map, List.map_cons, List.map_map]
      congr 1
      apply List.map_congr_left
      intro i _
      show SV.r (pre.length + (i + 1)) = SV.r ((pre ++ [oI r]).length + i)
      rw [List.length_append, List.length_singleton]
      congr 1
      omega
    have e2 : pre ++ (dI (r :: g)).map (fun r => some (AO.lst r)) ++ t = (pre ++ [oI r]) ++ (dI g).map (fun r => some (AO.lst r)) ++ t := by
      show pre ++ (oI r :: (dI g).map (fun r => some (AO.lst r))) ++ t = _
      simp
    rw [e]
    unfold rbL
    have h1 : rb (pre ++ (dI (r :: g)).map (fun r => some (AO.lst r)) ++ t) (k + 1) (.r pre.length) = some (eI r) := by
      refine rb_own ?_
      rw [e2]
      unfold ownL
      rw [List.append_assoc, List.append_assoc, List.getElem?_append_right (Nat.le_refl _), Nat.sub_self]
      rfl
    rw [h1, e2, rbL_rows g (pre ++ [oI r]) t]
    rfl
theorem rb_og {h : AH} {L : Nat} (hL : h.length = L) {g : List (List Int)} {t : AH} {k : Nat} : rb (h ++ OG L (dI g) ++ t) (k + 2) (.r L) = some (eG g) := by
  subst hL
  unfold rb
  have e := own_get (own_og (h := h) rfl (g := dI g) (t := t))
  rw [e]
  dsimp only
  have := rbL_rows (k := k) g (h ++ [some (.lst (refs h.length (dI g).length))]) t
  have e2 : h ++ [some (AO.lst (refs h.length (dI g).length))] ++ (dI g).map (fun r => some (AO.lst r)) ++ t = h ++ OG h.length (dI g) ++ t := by unfold OG; simp
  rw [e2] at this
  have e3 : ((List.range g.length).map fun i => SV.r ((h ++ [some (AO.lst (refs h.length (dI g).length))]).length + i)) = refs h.length (dI g).length := by
    unfold refs
    rw [List.length_map]
    apply List.map_congr_left
    intro i _
    rw [List.length_append, List.length_singleton]
  rw [e3] at this
  rw [this]
  rfl
theorem for_still {sl0 : List SV} {L : Nat} {bd : Bd} {body : FS} {sl : List SV} {h : AH} : ∀ (l : List It1), (∀ x ∈ l, ∃ sl1, bd.go x sl = some sl1 ∧ (body sl1 h).turn sl0 L = some (sl, h)) → forC sl0 L bd body l sl h = .nx sl h
  | [], _ => c_nil
  | x :: l, st => by
    obtain ⟨sl1, e1, e2⟩ := st x List.mem_cons_self
    rw [c_cons, e1]
    show aft sl0 L (body sl1 h) _ = _
    rw [aft_turn e2]
    exact for_still l fun y m => st y (List.mem_cons_of_mem _ m)
theorem reset_same {s : SV} {as bs : List SV} : reset (s :: as) (s :: bs) = s :: reset as bs := by
  conv => lhs; unfold reset
  cases s <;> rfl
structure Sq (n : Nat) (g : List (List Int)) : Prop where
  len : g.length = n
  row : ∀ r ∈ g, r.length = n
  nn : ∀ r ∈ g, ∀ e ∈ r, 0 ≤ e
def gsum (g : List (List Int)) : Int := (g.map List.sum).sum
theorem getD_in {α : Type} {r : List α} {d : α} {j : Nat} (h : j < r.length) : r[j]?.getD d = r[j] := by
  rw [List.getElem?_eq_getElem h]; rfl
theorem Sq.get {n : Nat} {g : List (List Int)} (s : Sq n g) {i : Nat} (h : i < n) : ∃ r, g[i]? = some r ∧ r ∈ g ∧ r.length = n := by
  have hi : i < g.length := by rw [s.len]; exact h
  exact ⟨g[i], List.getElem?_eq_getElem hi, List.getElem_mem hi, s.row _ (List.getElem_mem hi)⟩
theorem own_g0 {g : List (List SV)} {t : AH} : ownL (OG 0 g ++ t) 0 = some (refs 0 g.length) := (rfl)
theorem own_g1 {g : List (List SV)} : ownL (OG 0 g) 0 = some (refs 0 g.length) := (rfl)
theorem og_at {n : Nat} {i : Int} (h0 : 0 ≤ i) (h1 : i < n) : atI (refs 0 n) i = some (.r (1 + i.toNat)) := by
  rw [atI_0 h0, refs_get (by omega), Nat.zero_add]
theorem lst_d {h : AH} {ds : List PyData} : lstOf h (.d (.list ds)) = some (ds.map SV.d) := (rfl)
theorem shh_ds {L : Nat} {ds : List PyData} : shh L [some (.lst (ds.map SV.d))] = [some (.lst (ds.map SV.d))] := by
  unfold shh
  show [some (AO.lst ((ds.map SV.d).map (shv L)))] = _
  rw [List.map_map]
  rfl
theorem rb_g0 {g : List (List Int)} {t : AH} : rb (OG 0 (dI g) ++ t) 9 (.r 0) = some (eG g) := by
  have := rb_og (h := []) (L := 0) rfl (g := g) (t := t) (k := 7)
  exact this
theorem rb_g1 {g : List (List Int)} : rb (OG 0 (dI g)) 9 (.r 0) = some (eG g) := by
  have := rb_g0 (g := g) (t := [])
  rw [List.append_nil] at this
  exact this
theorem ty_int {h : AH} {i : Int} : tyOf h (.d (.int i)) = some "int" := (rfl)
theorem ty_bool {h : AH} {i : Bool} : tyOf h (.d (.bool i)) = some "bool" := (rfl)
theorem ty_tup {h : AH} {i : List PyData} : tyOf h (.d (.tuple i)) = some "tuple" := (rfl)
theorem ty_list {h : AH} {i : List PyData} : tyOf h (.d (.list i)) = some "list" := (rfl)
theorem ty_none {h : AH} : tyOf h (.d .none) = some "NoneType" := (rfl)
theorem ty_vtup {h : AH} {i : List PyData} : tyOf h (.vw (.tuple i)) = some "tuple" := (rfl)
theorem ty_vlist {h : AH} {i : List PyData} : tyOf h (.vw (.list i)) = some "list" := (rfl)
theorem is_ii : isTy "int" "int" = some true := by decide
theorem is_ib : isTy "int" "bool" = some false := by decide
theorem is_bb : isTy "bool" "bool" = some true := by decide
theorem is_bi : isTy "bool" "int" = some true := by decide
theorem is_ll : isTy "list" "list" = some true := by decide
theorem is_tt : isTy "tuple" "tuple" = some true := by decide
theorem is_lt : isTy "list" "tuple" = some false := by decide
theorem is_tl : isTy "tuple" "list" = some false := by decide
end Zx
namespace Zx
open PySem PySem.Spec L2
/-- a class over ValueError without an __init__ of its own -/
structure ExO (K : PySem.W.Frag) (mg : Str → Option Value) (n : Str) (C : Addr) : Prop where
  g : mg n = some (.ref C)
  x : PySem.W.excIn K C [.type "ValueError", .type "Exception", .type "BaseException", .type "object"] "ValueError.__new__" = true
  k : PySem.W.keepIn K (.ref C) = true
  b : PySem.W.subIn K (.ref C) (.type "BaseException") = some true
  t : PySem.W.typeIn K (.ref C) = some (.type "type")
end Zx
namespace Zx
open PySem PySem.Spec L2
def noEx : SV → Bool
  | .ex _ => false
  | _ => true
def noExO : Option AO → Bool
  | some (.lst xs) => xs.all noEx
  | some (.dct kvs) => (kvs.map Prod.snd).all noEx
  | some (.dkt kvs) => (kvs.map Prod.snd).all noEx
  | some (.tup xs) => xs.all noEx
  | none => true
def ended (i : Nat) (o : O) : O := match o with
  | .nx sl h => if ((sl.set i .un).all noEx && h.all noExO) = true then .nx (sl.set i .un) h else .st
  | .bk sl h => if ((sl.set i .un).all noEx && h.all noExO) = true then .bk (sl.set i .un) h else .st
  | .ct sl h => if ((sl.set i .un).all noEx && h.all noExO) = true then .ct (sl.set i .un) h else .st
  | .rt s h => if (noEx s && h.all noExO) = true then .rt s h else .st
  | _ => .st
def sTryAs (i : Nat) (k : Str → Option Bool) (fb : FS) (fh : Str → FS) : FS := fun sl h => match fb sl h with
  | .rz c sl1 h1 => match k c with
    | some true => ended i (fh c (sl1.set i (.ex c)) h1)
    | some false => .rz c sl1 h1
    | none => .st
  | o => o
section
variable {X : Cx} {x n : Str} {cv : Value} {i : Nat} {body suite : List Stmt} {b₀ : Stmt} {np pos pos' : Pos} {fb : FS} {fh : Str → FS} {Wout : WX} {k : Str → Option Bool}
def endedO (o : O) : O := match o with
  | .nx sl h => if (sl.all noEx && h.all noExO) = true then .nx sl h else .st
  | .bk sl h => if (sl.all noEx && h.all noExO) = true then .bk sl h else .st
  | .ct sl h => if (sl.all noEx && h.all noExO) = true then .ct sl h else .st
  | .rt s h => if (noEx s && h.all noExO) = true then .rt s h else .st
  | _ => .st
def sTryO (k : Str → Option Bool) (fb : FS) (fh : Str → FS) : FS := fun sl h => match fb sl h with
  | .rz c sl1 h1 => match k c with
    | some true => endedO (fh c sl1 h1)
    | some false => .rz c sl1 h1
    | none => .st
  | o => o
end
def lk (c : Str) : List (Str × Bool) → Option Bool
  | [] => none
  | (n, b) :: r => if c = n then some b else lk c r
theorem kit_ref {K : PySem.W.Frag} {D C : Addr} {b : Bool} (hd : PySem.W.hasDictIn K C = true) (ht : PySem.W.typeIn K (.ref C) = some (.type "type")) (h : PySem.W.subIn K (.ref D) (.ref C) = some b) (hs : PySem.W.subIn K (.ref C) (.ref C) = some true) : PySem.W.kitOne K (.ref D) (.ref C) = some b := by
  unfold PySem.W.kitOne
  split
  · rename_i z
    have e : D = C := Value.ref.inj (beq_iff_eq.mp z)
    subst e
    rw [hs] at h
    exact h
  · unfold PySem.W.kitCls
    dsimp only
    obtain ⟨cd, hc, _⟩ := PySem.W.any_some hd
    rw [hc, ht]
    exact h
/-- a class of the program beside another: what an error of the one answers at the other -/
structure ExQ (K : PySem.W.Frag) (mg : Str → Option Value) (n y : Str) (b : Bool) : Prop where
  ex : ∃ D C, mg n = some (.ref D) ∧ mg y = some (.ref C) ∧ PySem.W.subIn K (.ref D) (.ref C) = some b ∧ PySem.W.hasDictIn K C = true ∧ PySem.W.typeIn K (.ref C) = some (.type "type") ∧ PySem.W.subIn K (.ref C) (.type "BaseException") = some true ∧ PySem.W.subIn K (.ref C) (.ref C) = some true
theorem ExQ.lk {K : PySem.W.Frag} {mg : Str → Option Value} {n y : Str} {b : Bool} (q : ExQ K mg n y b) {cv : Value} (hy : mg y = some cv) : ∀ u, mg n = some u → PySem.W.exmOne K u cv = some b ∧ PySem.W.kitOne K u cv = some b := by
  intro u hu
  obtain ⟨D, C, h1, h2, h3, h4, h5, h6, h7⟩ := q.ex
  cases h1.symm.trans hu
  cases h2.symm.trans hy
  exact ⟨PySem.W.exm_ref h6 h4 h5 h3, kit_ref h4 h5 h3 h7⟩
def fExI (ob : Option Bool) (fa : FE) : FE := fun sl h => (fa sl h).bind fun s h1 => match s with
  | .ex _ => match ob with
    | some b => .ok (.d (.bool b)) h1
    | none => .st
  | _ => .st
section
variable {X : Cx} {W : WX} {e : Expr} {fe : FE} {a D : Addr} {oe : Obj} {pn : List (Addr × Obj)} {y : Str} {p p2 pos : Pos} {ob : Option Bool} {cv : V} {cvv : Value}
end
def lkAny : List (Option Bool) → Option Bool
  | [] => some false
  | some true :: _ => some true
  | some false :: r => lkAny r
  | none :: _ => none
section
variable {X : Cx} {W : WX} {e : Expr} {es : List Expr} {fe : FE} {a D : Addr} {oe : Obj} {pn : List (Addr × Obj)} {p p2 pos : Pos} {obs : List (Option Bool)} {cs : List V} {us : List Value} {x1 : Nat}
end
end Zx
namespace Zx
open PySem PySem.Spec L2
def keyOf : SV → Option Key
  | .d (.int i) => some (.inl i)
  | .d (.str x) => some (.inr x)
  | _ => none
theorem keyOf_ok {en : En} {w : Wd} {s : SV} {v : V} {k : Key} (r : RS en w v s) (e : keyOf s = some k) : v = kV k := by
  unfold keyOf at e
  split at e
  · cases e; cases RS.int r; rfl
  · cases e; cases RS.str r; rfl
  · cases e
def valS : List (Key × SV) → Key → Option SV
  | [], _ => none
  | p :: r, k => if p.1 = k then some p.2 else valS r k
def setS : List (Key × SV) → Key → SV → List (Key × SV)
  | [], _, _ => []
  | p :: r, k, s => (if p.1 = k then (p.1, s) else p) :: setS r k s
def putS (kvs : List (Key × SV)) (k : Key) (s : SV) : List (Key × SV) := match valS kvs k with
  | some _ => setS kvs k s
  | none => kvs ++ [(k, s)]
def DR (en : En) (w : Wd) (kws : List (Key × V)) (kvs : List (Key × SV)) : Prop := kws.map Prod.fst = kvs.map Prod.fst ∧ RSL en w (kws.map Prod.snd) (kvs.map Prod.snd)
theorem DR.cons {en : En} {w : Wd} {p : Key × SV} {r : List (Key × SV)} {kws : List (Key × V)} (d : DR en w kws (p :: r)) : ∃ v q, kws = (p.1, v) :: q ∧ RS en w v p.2 ∧ DR en w q r := by
  obtain ⟨e, rl⟩ := d
  cases kws with
  | nil => cases e
  | cons z q =>
    rw [List.map_cons, List.map_cons] at e
    have e1 := (List.cons.inj e).1
    have e2 := (List.cons.inj e).2
    rw [List.map_cons, List.map_cons] at rl
    obtain ⟨v, vs, hv, a, b⟩ := rl
    have h1 := (List.cons.inj hv).1
    have h2 := (List.cons.inj hv).2
    obtain ⟨z1, z2⟩ := z
    dsimp only at e1 h1
    subst e1 h1
    rw [← h2] at b
    exact ⟨z2, q, rfl, a, e2, b⟩
theorem DR.mk {en : En} {w : Wd} {k : Key} {v : V} {s : SV} {q : List (Key × V)} {r : List (Key × SV)} (a : RS en w v s) (d : DR en w q r) : DR en w ((k, v) :: q) ((k, s) :: r) :=
  ⟨by rw [List.map_cons, List.map_cons, d.1], v, q.map Prod.snd, rfl, a, d.2⟩
theorem DR.nil {en : En} {w : Wd} {kws : List (Key × V)} (d : DR en w kws []) : kws = [] := by
  have := d.1
  cases kws with
  | nil => rfl
  | cons z q => cases this
theorem DR.len {en : En} {w : Wd} {kws : List (Key × V)} {kvs : List (Key × SV)} (d : DR en w kws kvs) : kws.length = kvs.length := by
  have := congrArg List.length d.1
  rw [List.length_map, List.length_map] at this
  exact this
theorem DR.val {en : En} {w : Wd} : ∀ {kvs : List (Key × SV)} {kws : List (Key × V)} (k : Key), DR en w kws kvs → (valV kws k = none ∧ valS kvs k = none) ∨ ∃ v s, valV kws k = some v ∧ valS kvs k = some s ∧ RS en w v s
  | [], kws, k, d => by rw [d.nil]; exact .inl ⟨rfl, rfl⟩
  | p :: r, kws, k, d => by
    obtain ⟨v, q, rfl, a, d2⟩ := d.cons
    unfold valS
    by_cases h : p.1 = k
    · rw [valV_pos h, if_pos h]
      exact .inr ⟨v, p.2, rfl, rfl, a⟩
    · rw [valV_neg h, if_neg h]
      exact DR.val k d2
theorem DR.set {en : En} {w : Wd} {v : V} {s : SV} (a : RS en w v s) : ∀ {kvs : List (Key × SV)} {kws : List (Key × V)} (k : Key), DR en w kws kvs → DR en w (kws.map (fun kv => if kv.1 = k then (kv.1, v) else kv)) (setS kvs k s)
  | [], kws, k, d => by rw [d.nil]; exact ⟨rfl, rfl⟩
  | p :: r, kws, k, d => by
    obtain ⟨u, q, rfl, b, d2⟩ := d.cons
    unfold setS
    rw [List.map_cons]
    by_cases h : p.1 = k
    · rw [if_pos h, if_pos h]
      exact DR.mk a (DR.set a k d2)
    · rw [if_neg h, if_neg h]
      exact DR.mk b (DR.set a k d2)
theorem DR.put {en : En} {w : Wd} {v : V} {s : SV} (a : RS en w v s) {kvs : List (Key × SV)} {kws : List (Key × V)} (k : Key) (d : DR en w kws kvs) : DR en w (putK kws k v) (putS kvs k s) := by
  unfold putK putS
  rw [valV_any]
  rcases DR.val k d with ⟨e1, e2⟩ | ⟨x, y, e1, e2, _⟩
  · rw [e1, e2]
    refine ⟨?_, ?_⟩
    · show (kws ++ [(k, v)]).map Prod.fst = _
      rw [List.map_append, List.map_append, d.1]; rfl
    · show RSL en w ((kws ++ [(k, v)]).map Prod.snd) _
      rw [List.map_append, List.map_append]
      exact RSL.app d.2 ⟨v, [], rfl, a, rfl⟩
  · rw [e1, e2]
    exact DR.set a k d
def dctOf (h : AH) : SV → Option (List (Key × SV))
  | .r n => match h[n]? with
    | some (some (.dct kvs)) => some kvs
    | _ => none
  | _ => none
theorem dct_ok {en : En} {w : Wd} {H : Hp} {h : AH} (S : SimH en w H h) {s : SV} {v : V} {kvs : List (Key × SV)} (r : RS en w v s) (e : dctOf h s = some kvs) : ∃ n a kws, s = .r n ∧ h[n]? = some (some (.dct kvs)) ∧ w.rho[n]? = some a ∧ v = .ref a ∧ H a = some (.dK kws) ∧ DR en w kws kvs := by
  unfold dctOf at e
  split at e
  · rename_i n
    split at e
    · rename_i kvs' hx
      cases e
      obtain ⟨a, e1, rfl⟩ := r
      obtain ⟨a', e2, ⟨kws, hv, ek, rl⟩, _, _⟩ := S.live n _ hx
      have ea : a' = a := Option.some.inj (e2.symm.trans e1)
      subst ea
      exact ⟨n, a', kws, rfl, hx, e1, rfl, hv, ek, rl⟩
    · cases e
  · cases e
theorem RS_mkv {en : En} {w : Wd} {H : Hp} {h : AH} (S : SimH en w H h) {v : V} {d : PyData} (r : Rp en.K en.G v d) : RS en w v (mkv d) := by
  have := RSL.ofVw S (ds := [d]) (vs := [v]) (by unfold RpL; exact ⟨v, [], rfl, r, by unfold RpL; rfl⟩)
  obtain ⟨x, r', e, a, _⟩ := this
  cases e
  exact a
def toKS (f : PyData → SV) : List (PyData × PyData) → Option (List (Key × SV))
  | [] => some []
  | (k, d) :: r => match k, toKS f r with
    | .none, q => q
    | .int i, some q => some ((.inl i, f d) :: q)
    | .str x, some q => some ((.inr x, f d) :: q)
    | _, _ => none
theorem toKS_ok {en : En} {w : Wd} {F : Hp} {f : PyData → SV} (hf : ∀ v d, Rp en.K F v d → RS en w v (f d)) : ∀ {kvs : List (PyData × PyData)} {kws : List (Key × V)} {ps : List (Key × SV)}, RpK en.K F kws kvs → toKS f kvs = some ps → DR en w kws ps
  | [], kws, ps, r, e => by
    unfold RpK at r
    unfold toKS at e
    cases e
    subst r
    exact ⟨rfl, rfl⟩
  | (k, d) :: q, kws, ps, r, e => by
    unfold RpK at r
    unfold toKS at e
    split at e
    · exact toKS_ok hf r e
    · rename_i i q' hq
      obtain ⟨⟨pk, pv⟩, b, rfl, r1, r2, r3⟩ := r
      cases e
      unfold Rp at r1
      cases pk with
      | inl j => cases r1; exact DR.mk (hf _ _ r2) (toKS_ok hf r3 hq)
      | inr j => cases r1
    · rename_i x q' hq
      obtain ⟨⟨pk, pv⟩, b, rfl, r1, r2, r3⟩ := r
      cases e
      unfold Rp at r1
      cases pk with
      | inl j => cases r1
      | inr j => cases r1; exact DR.mk (hf _ _ r2) (toKS_ok hf r3 hq)
    · cases e
def dctR (h : AH) : SV → Option (List (Key × SV))
  | .d (.dict kvs) => toKS SV.d kvs
  | .vw (.dict kvs) => toKS mkv kvs
  | s => dctOf h s
theorem dctR_ok {en : En} {w : Wd} {H : Hp} {h : AH} (S : SimH en w H h) {s : SV} {v : V} {kvs : List (Key × SV)} (r : RS en w v s) (e : dctR h s = some kvs) : ∃ a kws, v = .ref a ∧ Rd H a (.dK kws) ∧ DR en w kws kvs := by
  unfold dctR at e
  split at e
  · rename_i ps
    have r : Rp en.K w.F v (.dict ps) := r
    unfold Rp at r
    obtain ⟨a, kws, rfl, hv, rk⟩ := r
    exact ⟨a, kws, rfl, (hv.mono S.fh).rd, toKS_ok (F := w.F) (f := SV.d) (fun _ _ z => (show RS en w _ (.d _) from z)) rk e⟩
  · rename_i ps
    have r : Rp en.K en.G v (.dict ps) := r
    unfold Rp at r
    obtain ⟨a, kws, rfl, hv, rk⟩ := r
    exact ⟨a, kws, rfl, (hv.mono S.gh).rd, toKS_ok (F := en.G) (f := mkv) (fun _ _ z => RS_mkv S z) rk e⟩
  · obtain ⟨n, a, kws, rfl, hx, ha, rfl, hH, d⟩ := dct_ok S r e
    exact ⟨a, kws, rfl, .inl hH, d⟩
def fDct : FE := fun _ h => .ok (.r h.length) (h ++ [some (.dct [])])
section
variable {X : Cx} {W : WX} {a b i o e : Expr} {fa fb fi fo fe : FE} {pos tpos : Pos}
theorem se_dct : SE X W (.Dict [] [] pos) fDct := PE.imp pe_dnewK (by
  rintro σ H Q ⟨en, w, sl, h, eK, S, P⟩
  intro p np
  exact P _ (w.ow p) _ le_ow ⟨S.toSimH.newAO np (fun _ z => by cases z) (fun _ _ z => by cases z) (fun _ e => ⟨[], e, rfl, rfl⟩), S.slots.mono le_ow⟩ S.toSimH.rs_new)
def dOne (n : Nat) (k v : SV) (h : AH) : R SV := match keyOf k, h[n]? with
  | some kk, some (some (.dct [])) => .ok (.r n) (h.set n (some (.dct [(kk, v)])))
  | _, _ => .st
def fDctO (fa fb : FE) : FE := fun sl h => (fa sl (h ++ [some (.dct [])])).bind fun k h1 => (fb sl h1).bind fun v h2 => dOne h.length k v h2
def dIn (neg : Bool) (y x : SV) (h : AH) : R SV := match keyOf y, dctR h x with
  | some k, some kvs => .ok (.d (.bool (neg ^^ (valS kvs k).isSome))) h
  | _, _ => .st
def fDIn (neg : Bool) (fa fb : FE) : FE := fun sl h => (fa sl h).bind fun y h1 => (fb sl h1).bind fun x h2 => dIn neg y x h2
theorem fTst_po {en : En} {w : Wd} {σ : St} {sl : List SV} {h : AH} {f : FE} {Q : Bool → Hp → Prop} (P : Po repB X W en w σ sl (fTst f sl h) Q) : Po RS X W en w σ sl (f sl h) (fun x H1 => ∃ c, x = .bl c ∧ Q c H1) := by
  refine Po.bind P fun s h1 v w1 H1 l1 S1 r1 P1 => ?_
  split at P1
  · rename_i k
    have r1 : Rp en.K w1.F v (.bool k) := r1
    unfold Rp at r1
    exact ⟨k, r1, P1 k w1 H1 (Wd.le.refl _) S1 rfl⟩
  · exact False.elim P1
def dGet (x y : SV) (h : AH) : R SV := match keyOf y, dctR h x with
  | some k, some kvs => match valS kvs k with
    | some s => .ok s h
    | none => .st
  | _, _ => .st
def fDGet (fo fi : FE) : FE := fun sl h => (fo sl h).bind fun x h1 => (fi sl h1).bind fun y h2 => dGet x y h2
def putD (x y v : SV) (h : AH) : Option AH := match keyOf y, dctOf h x, x with
  | some k, some kvs, .r n => if kvs.length < 1000 then some (h.set n (some (.dct (putS kvs k v)))) else none
  | _, _, _ => none
def sDStore (fo fi fe : FE) : FS := fun sl h => (fe sl h).thn sl fun v h1 => (fo sl h1).thn sl fun s h2 => (fi sl h2).thn sl fun t h3 => match putD s t v h3 with
  | some h4 => .nx sl h4
  | none => .st
theorem ss_dstore (hv : SE X W e fe) (ho : SE X W o fo) (hi : SE X W i fi) (hg : PG X (.Subscript o i tpos) (L2.gSub (tE X W fo) (tE X W fi) rSetD)) (hs : swapsWithSole [.Subscript o i tpos] e pos.line X.env = pure false := by rfl) (hw : swappedStores [.Subscript o i tpos] e X.env = pure none := by rfl)
    (h1 : List.map (fun x => x.snd) (assignEach [.Subscript o i tpos] X.env) = [assign (.Subscript o i tpos) X.env] := by rfl) : SS X W (.Assign [.Subscript o i tpos] e pos) (sDStore fo fi fe) := PS.imp (ps_asg hv hg hs hw h1) (by
  rintro D σ H ⟨en, w, sl, h, eK, S, P⟩
  refine ⟨en, w, sl, h, eK, S, Po.thn P fun v h1 z w1 H1 l1 S1 r1 P1 => ?_⟩
  refine ⟨en, w1, sl, h1, eK, S1, Po.thn P1 fun s h2 x w2 H2 l2 S2 r2 P2 => ?_⟩
  refine ⟨en, w2, sl, h2, eK, S2, Po.thn P2 fun t h3 y w3 H3 l3 S3 r3 P3 => ?_⟩
  split at P3
  · rename_i h4 he
    unfold putD at he
    split at he
    · rename_i k kvs n hk hd
      split at he
      · rename_i hl
        cases he
        obtain ⟨n', c, kws, hn, hx, ha, rfl, hH, d⟩ := dct_ok S3.toSimH (RS.mono l3 r2) hd
        cases hn
        cases keyOf_ok r3 hk
        refine ⟨c, _, rfl, DPut.k hH (Nat.lt_of_lt_of_le (by rw [d.len]; exact hl) line1000), ?_⟩
        have dp := DR.put (RS.mono (l2.trans l3) r1) k d
        exact P3 w3 σ _ (Wd.le.refl _) ⟨S3.toSimH.writeAO hx ha (fun _ z => by cases z) (fun _ _ z => by cases z) (fun _ e => ⟨_, e, dp.1, dp.2⟩), S3.slots⟩
      · cases he
    · cases he
  · exact False.elim P3)
end
def gLenD : List SV → AH → R SV := fun ss h => match ss with
  | [s] => match dctR h s with
    | some kvs => .ok (.d (.int kvs.length)) h
    | none => .st
  | _ => .st
end Zx
namespace Zx
open PySem PySem.Spec L2
end Zx
namespace Zx
open PySem PySem.Spec L2
def clnS : SV → SV
  | .ex _ => .un
  | s => s
theorem clnS_ok {s : SV} (c : noEx s = true) : clnS s = s := by cases s <;> first | rfl | cases c
def c1 (q : Bool) (s : SV) : SV := if q = true then clnS s else s
section
variable {X : Cx} {x n : Str} {cv : Value} {i : Nat} {body suite : List Stmt} {b₀ : Stmt} {np pos pos' : Pos} {fb : FS} {fh : Str → FS} {Wout : WX} {k : Str → Option Bool}
end
end Zx
namespace RT
open PySem PySem.Spec PyProof.Rows
section
variable {prog : Program} {w : World} {A : Around} {E : Value → Shared → Prop} {s : Shared}
end
section
open L2
variable {X : Cx}
end
end RT
namespace Zx
open PySem PySem.Spec L2 RT
def gLRev : SV → AH → R SV := fun s h => match lstOf h s with
  | some xs => .ok (.r h.length) (h ++ [some (.lst xs.reverse)])
  | none => .st
theorem RSL.append {en : En} {w : Wd} : ∀ {ss : List SV} {vs : List V} {tt : List SV} {us : List V}, RSL en w vs ss → RSL en w us tt → RSL en w (vs ++ us) (ss ++ tt)
  | [], vs, tt, us, r, q => by
    rw [show vs = [] from r]; exact q
  | s :: ss, vs, tt, us, ⟨x, r, e, a, b⟩, q => by
    subst e
    exact ⟨x, r ++ us, rfl, a, RSL.append b q⟩
theorem RSL.reverse {en : En} {w : Wd} : ∀ {ss : List SV} {vs : List V}, RSL en w vs ss → RSL en w vs.reverse ss.reverse
  | [], vs, r => by rw [show vs = [] from r]; exact rfl
  | s :: ss, vs, ⟨x, r, e, a, b⟩ => by
    subst e
    rw [List.reverse_cons, List.reverse_cons]
    exact RSL.append (RSL.reverse b) ⟨x, [], rfl, a, rfl⟩
section
variable {X : Cx} {W : WX} {e : Expr} {fa : FE}
end
end Zx
namespace Zx
open PySem PySem.Spec L2
section
variable {X : Cx} {W : WX} {es : List Expr} {fa : FA} {pos : Pos}
def allI (ss : List SV) : Option (List PyData) := match allD ss with
  | some ds => if immL ds = true then some ds else none
  | none => none
def fTupO (fa : FA) : FE := fun sl h => (fa sl h).bind fun ss h1 => if ss.length ≤ 1000 then match allI ss with
    | some ds => .ok (.d (.tuple ds)) h1
    | none => .ok (.r h1.length) (h1 ++ [some (.tup ss)])
  else .st
theorem se_tupO {x1} (ha : SA X W es fa) : SE X W (.Tuple es x1 pos) (fTupO fa) := PE.imp (pe_tup ha) (by
  rintro σ H Q ⟨en, w, sl, h, eK, S, P⟩
  refine ⟨en, w, sl, h, eK, S, Po.bind P fun ss h1 vs w1 H1 l1 S1 r1 P1 => ?_⟩
  split at P1
  · rename_i hl
    refine ⟨by rw [RSL.length r1]; exact Nat.le_trans hl line1000, fun p np => ?_⟩
    split at P1
    · rename_i ds hd
      have hd2 : allD ss = some ds := by
        unfold allI at hd
        split at hd
        · rename_i d2 hd2
          split at hd
          · cases hd; exact hd2
          · cases hd
        · cases hd
      have rl := allD_ok r1 hd2
      have l2 : w1.le (w1.fz p (.tup vs)) := le_fz (S1.F_none np)
      refine P1 (.ref p) (w1.fz p (.tup vs)) _ l2 (S1.newF np (fun _ _ z => by cases z)) ?_
      show Rp en.K (upd w1.F p (.tup vs)) (.ref p) (.tuple ds)
      unfold Rp
      exact ⟨p, vs, rfl, .inl (.inl upd_same), RpL.mono l2.2 ds vs rl⟩
    refine P1 (.ref p) ((w1.fz p (.tup vs)).ow p) _ ((le_fz (S1.F_none np)).trans le_ow) (S1.newT np r1) ⟨p, ?_, rfl⟩
    show (w1.rho ++ [p])[h1.length]? = some p
    rw [← S1.len, List.getElem?_append_right (Nat.le_refl _)]
    simp
  · exact False.elim P1)
end
end Zx
namespace Zx
open PySem PySem.Spec L2
open PyProof.Rows (envOfC)
def fCallR (np N : Nat) (g : FS) (fa : FA) : FE := fun sl h => (fa sl h).bind fun ss h1 => if ss.length = np then (match g (ss ++ List.replicate (N - ss.length) .un) h1 with
  | .rt s h2 => .ok s h2
  | .nx _ h2 => .ok (.d .none) h2
  | .rz c _ h2 => .rz c h2
  | _ => .st) else .st
def spR (wd : World) (K : PySem.W.Frag) (mg : Str → Option Value) (np N : Nat) (g : FS) : Sp := fun vs H Q E => ∃ en w h ss, en.K = K ∧ en.ex = none ∧ en.wd = wd ∧ SimH en w H h ∧ RSL en w vs ss ∧ ss.length = np ∧ match g (ss ++ List.replicate (N - ss.length) .un) h with
  | .rt s h' => ∀ v w' H', w.le w' → SimH en w' H' h' → RS en w' v s → Q v H'
  | .nx _ h' => ∀ w' H', w.le w' → SimH en w' H' h' → Q .non H'
  | .rz c _ h' => ∀ w' H', w.le w' → SimH en w' H' h' → ∀ u, mg c = some u → E u none H'
  | _ => False
theorem slt_start {en : En} {w : Wd} {n : Nat} : ∀ {vs : List V} {ss : List SV}, RSL en w vs ss → Slt en w (vs.map some ++ List.replicate n none) (ss ++ List.replicate n .un)
  | vs, [], r => by
    cases r
    refine ⟨by simp, fun i s e => ?_⟩
    rw [List.nil_append, List.getElem?_replicate] at e
    split at e
    · cases e; exact .inl rfl
    · cases e
  | vs, s :: ss, ⟨x, r, e, a, b⟩ => by
    subst e
    have ih := slt_start (n := n) b
    refine ⟨by rw [List.map_cons, List.cons_append, List.cons_append, List.length_cons, List.length_cons, ih.1], fun i t z => ?_⟩
    cases i with
    | zero =>
      cases z
      exact .inr ⟨x, rfl, a⟩
    | succ i => exact ih.2 i t z
section
variable {P : Program} {w : World} {K : PySem.W.Frag} {mg : Str → Option Value} {base : Heap}
theorem fn_ref {x qual : Str} {st : Stmt} {f : Addr} {fd : FuncData} {N ps : List Str} {k : Nat} {g : FS} (F : Fun K x qual st f fd) (S : FnScope N ps (defScope st)) (hb : DefOk P w K mg base N qual st k g) :
    FnOk P w K mg base (L2N.CX P w) (k + 1) f fd ps (spR w K mg ps.length N.length g) := by
  refine okN F S (fun vs H Q E h => ?_) (fun cdv A outer s H vs Q E hr h => ?_)
  · obtain ⟨en, w, h, ss, _, _, _, _, r, hl, _⟩ := h
    exact (RSL.length r).trans hl
  · obtain ⟨en, w0, h, ss, eK, ex, ewd, S0, r, hl, q⟩ := h
    refine ⟨tS (cxOf (L2N.CX P w) P w K mg base N qual (defScope st) f cdv A outer s H E) (fun cls d _ H => E cls d H) g, hb f cdv A outer s H E _ hr (L2N.takes_of rfl rfl rfl rfl) (passes_of rfl), ?_⟩
    refine ⟨en, w0, ss ++ List.replicate (N.length - ss.length) .un, h, ⟨eK, ex.trans hr.hd.symm, ewd⟩, ⟨S0, ?_⟩, ?_⟩
    · show Slt _ _ (L2.start N vs) _
      unfold L2.start
      rw [RSL.length r]
      exact slt_start r
    · generalize g (ss ++ List.replicate (N.length - ss.length) .un) h = o at q ⊢
      cases o with
      | nx sl h => exact fun w' σ' H' l S' => q w' H' l S'.toSimH
      | rt s h => exact fun w' H' v l S' r => q v w' H' l S' r
      | rz c sl h => exact fun w' σ' H' l S' u hu => q w' H' l S'.toSimH u hu
      | bk sl h => exact False.elim q
      | ct sl h => exact False.elim q
      | st => exact False.elim q
end
structure CalR (P : Program) (w : World) (K : PySem.W.Frag) (mg : Str → Option Value) (base : Heap) (x : Str) (k : Nat) (np N : Nat) (g : FS) : Prop where
  ex : ∃ f fd ps, FnOk P w K mg base (L2N.CX P w) k f fd ps (spR w K mg np N g) ∧ mg x = some (.ref f) ∧ PySem.W.keepIn K (.ref f) = true ∧ Binds K fd ps []
section
variable {X : Cx} {W : WX} {a : Expr} {es : List Expr} {fa : FA} {pos p : Pos} {x : Str} {k : Nat} {np N : Nat} {g : FS}
theorem callR_t (hd : X.A.handled = none) {σ : St} {H : Hp} {Q : VK} (q : tE X W (fCallR np N g fa) σ H Q) : tCallS (spR X.w X.K X.mg np N g) (WE W) (tA X W fa) σ H Q := by
  obtain ⟨en, w, sl, h, eK, S, P⟩ := q
  refine ⟨en, w, sl, h, eK, S, Po.bind P fun ss h1 vs w1 H1 l1 S1 r1 P1 => ?_⟩
  split at P1
  · rename_i hl
    refine ⟨en, w1, h1, ss, eK.1, eK.2.trans hd, eK.3, S1.toSimH, r1, hl, ?_⟩
    generalize g (ss ++ List.replicate (N - ss.length) .un) h1 = o at P1 ⊢
    cases o with
    | nx sl2 h2 => exact fun w' H' l S' => P1 .non w' H' l ⟨S', S1.slots.mono l⟩ (show Rp en.K w'.F .non .none from Rp.non)
    | rt s h2 => exact fun v w' H' l S' r => P1 v w' H' l ⟨S', S1.slots.mono l⟩ r
    | rz c sl2 h2 => exact fun w' H' l S' u hu => P1 w' H' l ⟨S', S1.slots.mono l⟩ u hu
    | bk sl2 h2 => exact False.elim P1
    | ct sl2 h2 => exact False.elim P1
    | st => exact False.elim P1
  · exact False.elim P1
theorem se_callR (c : CalR X.prog X.w X.K X.mg X.base x k np N g) (hr : Room k X.A) (hg : Gl X x) (tk : L2N.Takes X W)
    (ha : SA X W (a :: es) fa) (hdb : (x == ("__debug__" : Str)) = false := by decide) (he : starEach (a :: es) X.env = (false, eval a X.env) :: starEach es X.env := by rfl) (hpl : (backTo pos (starEach es X.env)).any (·.1) = false := by rfl) :
    SE X W (.Call (.Name x p) (a :: es) [] pos) (fCallR np N g fa) := by
  obtain ⟨f, fd, ps, F, hm, hk, hb⟩ := c.ex
  exact PE.imp (pe_callS F hr hg hm hk hb (L2N.passAt tk) ha hdb he hpl) fun _ _ _ q => callR_t hr.hd q
end
end Zx
namespace Zx
open PySem PySem.Spec L2
open PyProof.Rows (floordiv_int mod_int')
section
variable {X : Cx} {W : WX} {o i o2 j : Expr} {es : List Expr} {fo fi fo2 fj : FE} {fa : FA} {pos tpos tpos2 p1 p2 : Pos} {k1 k2}
end
def divF (_ j : Int) : Bool := decide (j ≠ 0 ∧ j.natAbs.log2 < 9000)
def modF (_ j : Int) : Bool := decide (j ≠ 0)
end Zx
namespace Zx
open PySem PySem.Spec PyProof.Rows L2
section
variable {X : Cx} {W : WX} {e : Expr} {fa : FE}
end
end Zx
namespace Zx
open PySem PySem.Spec PyProof.Rows L2
structure HRoom (A : Around) : Prop where
  units : A.units + 64 < cLine
structure FnHE (P : Program) (w : World) (K : PySem.W.Frag) (mg : Str → Option Value) (base : Heap) (k : Nat) (f : Addr) (fd : FuncData) (p0 : Str) (T : Str → Option Bool) (ψ : Str → Option PyData) : Prop where
  go : ∀ (A : Around) (outer : List Env) (s : Shared) (H : Hp) (args : Args) (us : List Value) (Q : VK) (E : XK) (p : Addr × Obj) (cls : Value) (c : Str) (F : Hp) (x : PyData), L2H.RoomH k A → L2H.Hot1 A p → L2H.PinOk outer H s p → Env0 P w K mg base A outer s H →
    BindsTo s fd args ([p0].zip us) → Vals [.ref p.1] us → L2N.Zn cls none p.2 → mg c = some cls → T c = some true → Same F H → TupIn H F → ψ c = some x →
    (∀ v w2 H2, SimH ⟨K, H, F, none, w⟩ w2 H2 [] → RS ⟨K, H, F, none, w⟩ w2 v (.d x) → Q v H2) → codeAny (model P w) A (.call (.ref f) args) (CR (L2N.CX P w) outer P w H s Q E) s
section
variable {P : Program} {w : World} {K : PySem.W.Frag} {mg : Str → Option Value} {base : Heap}
end
/-- what is known of such a def where it is called -/
structure CalH (P : Program) (w : World) (K : PySem.W.Frag) (mg : Str → Option Value) (base : Heap) (x : Str) (k : Nat) (T : Str → Option Bool) (ψ : Str → Option PyData) : Prop where
  ex : ∃ f fd p0, FnHE P w K mg base k f fd p0 T ψ ∧ mg x = some (.ref f) ∧ PySem.W.keepIn K (.ref f) = true ∧ Binds K fd [p0] []
def fHot (ob : Option PyData) (fa : FE) : FE := fun sl h => (fa sl h).bind fun s h1 => match s with
  | .ex _ => match ob with
    | some x => .ok (.d x) h1
    | none => .st
  | _ => .st
theorem RS.ofD {en en2 : En} {rho : List Addr} {w2 : Wd} {v : V} {x : PyData} (hk : en.K = en2.K) (r : RS en w2 v (.d x)) : RS en2 ⟨rho, w2.F⟩ v (.d x) := by
  have r : Rp en.K w2.F v x := r
  show Rp en2.K w2.F v x
  rw [← hk]
  exact r
section
variable {X : Cx} {W : WX} {e : Expr} {fe : FE} {a : Addr} {oe : Obj} {pn : List (Addr × Obj)} {pos p : Pos} {x c : Str} {cls : Value} {k : Nat} {T : Str → Option Bool} {ψ : Str → Option PyData}
end
end Zx
namespace Zx
open PySem PySem.Spec L2
def subS (a b : Str) : Bool := !(Builtin.Str.occurrences b a 0 b.length 1).isEmpty
def gInS (neg : Bool) : SV → SV → AH → R SV := fun s t h => match s, t with
  | .d (.str a), .d (.str b) => .ok (.d (.bool (neg ^^ subS a b))) h
  | _, _ => .st
def repS (z : Str) (n : Int) : Str := if n < 1 then Str.empty else ⟨(List.replicate n.toNat z.cps).foldl (· ++ ·) #[]⟩
def repOk (z : Str) (n : Int) : Bool := decide (-1000 ≤ n) && decide (n ≤ 1000) && decide (z.length = 1)
def fSliceT (fe : FE) (fl fh : List SV → AH → R (Option Int)) : FE := fun sl h => (fe sl h).bind fun s h1 => (fl sl h1).bind fun lo h2 => (fh sl h2).bind fun hi h3 => match s with
  | .d (.str z) => if z.length ≤ sizeLine then .ok (.d (.str (cutS z lo hi))) h3 else .st
  | _ => .st
section
variable {X : Cx} {W : WX} {e tg : Expr} {fe : FE} {p2 pos : Pos}
def strI (z : Str) : List It1 := z.cps.toList.map fun c => .one (.d (.str ⟨#[c]⟩))
def iStr (fa : FE) : List SV → AH → R Src := fun sl h => (fa sl h).bind fun s h1 => match s with
  | .d (.str z) => .ok (.cn (strI z)) h1
  | _ => .st
theorem its_ok {en : En} {w0 : Wd} {z : Str} : ItOk en w0 (Its z) (strI z) where
  goes := fun i σ w H sl h le S hi => by
    unfold strI at hi
    rw [List.length_map, Array.length_toList] at hi
    exact hi
  stop := fun σ w H sl h le S => by
    unfold strI
    rw [List.length_map, Array.length_toList]
    exact Nat.le_refl _
  yld := fun i σ w H sl h x H' it le S e y => by
    obtain ⟨rfl, c, hc, rfl⟩ := y
    unfold strI at e
    rw [List.getElem?_map, Array.getElem?_toList, hc] at e
    cases e
    exact ⟨w, Wd.le.refl _, S, by show Rp en.K w.F _ _; exact Rp.str⟩
theorem si_str (he : SE X W e fe) : SI X W tg e (iStr fe) := PI.imp (pi_str he) (by
  rintro σ H R ⟨en, w, sl, h, eK, S, P⟩
  refine ⟨en, w, sl, h, eK, S, Po.bind P fun s h1 v w1 H1 l1 S1 r1 P1 => ?_⟩
  split at P1
  · exact ⟨_, RS.str r1, P1 _ w1 H1 (Wd.le.refl _) S1 its_ok⟩
  · exact False.elim P1)
end
end Zx
namespace Zx
open PySem PySem.Spec L2
section
variable {prog : Program} {wd : World} {A : Around} {R : PySem.Result → Shared → Prop} {I : Addr} {fp wr : List Addr} {G : Array GenState → Array GenState → Prop} {n : Nat} {P : Nat → Value → Prop} {St : Nat → Shared → Prop}
end
section
variable {prog : Program} {wd : World} {A : Around} {E : Value → Shared → Prop} {s : Shared}
end
section
variable {X : Cx} {W : WX} {e ke : Expr} {fe : FE} {d : Int} {p pos kp : Pos}
end
def gIsB : SV → SV → AH → R SV := fun s t h => match s, t with
  | .d (.bool a), .d (.bool b) => .ok (.d (.bool (decide (a = b)))) h
  | _, _ => .st
end Zx
namespace Zx
open PySem PySem.Spec L2
structure Tot {α : Type} (lt : α → α → Bool) : Prop where
  irr : ∀ x, lt x x = false
  tr : ∀ x y z, lt x y = true → lt y z = true → lt x z = true
  tri : ∀ x y, lt x y = true ∨ x = y ∨ lt y x = true
theorem Tot.asym {α : Type} {lt : α → α → Bool} (T : Tot lt) {x y : α} (h : lt x y = true) : lt y x = false := by
  cases e : lt y x with
  | false => rfl
  | true =>
    have := T.tr x y x h e
    rw [T.irr] at this
    cases this
theorem Tot.swo {α β : Type} {lt : α → α → Bool} (T : Tot lt) (f : β → α) : SrtO.Swo fun x y => lt (f x) (f y) := by
  refine ⟨fun x y h => T.asym h, fun x y z h1 h2 => ?_⟩
  rcases T.tri (f z) (f x) with h | h | h
  · rcases T.tri (f x) (f y) with g | g | g
    · rw [T.tr _ _ _ h g] at h2; cases h2
    · rw [g] at h
      rw [h] at h2; cases h2
    · rw [g] at h1; cases h1
  · rw [h]; exact T.irr _
  · exact T.asym h
def lexT {α : Type} [DecidableEq α] (lt : α → α → Bool) : List α → List α → Bool
  | [], [] => false
  | [], _ :: _ => true
  | _ :: _, [] => false
  | x :: xs, y :: ys => if x = y then lexT lt xs ys else lt x y
theorem Tot.lex {α : Type} [DecidableEq α] {lt : α → α → Bool} (T : Tot lt) : Tot (lexT lt) := by
  refine ⟨fun x => ?_, fun x => ?_, fun x => ?_⟩
  · induction x with
    | nil => rfl
    | cons a x ih => unfold lexT; rw [if_pos rfl]; exact ih
  · induction x with
    | nil =>
      intro y z h1 h2
      cases z with
      | nil => cases y <;> cases h1 <;> cases h2
      | cons c z => rfl
    | cons a x ih =>
      intro y z h1 h2
      cases y with
      | nil => cases h1
      | cons b y =>
        cases z with
        | nil => cases h2
        | cons c z =>
          unfold lexT at h1 h2 ⊢
          by_cases e1 : a = b
          · subst e1
            rw [if_pos rfl] at h1
            by_cases e2 : a = c
            · subst e2
              rw [if_pos rfl] at h2 ⊢
              exact ih y z h1 h2
            · rw [if_neg e2] at h2 ⊢
              exact h2
          · rw [if_neg e1] at h1
            by_cases e2 : b = c
            · subst e2
              rw [if_neg e1]
              exact h1
            · rw [if_neg e2] at h2
              have h3 := T.tr a b c h1 h2
              rw [if_neg (fun e => by rw [e, T.irr] at h3; cases h3)]
              exact h3
  · induction x with
    | nil =>
      intro y
      cases y with
      | nil => exact .inr (.inl rfl)
      | cons b y => exact .inl rfl
    | cons a x ih =>
      intro y
      cases y with
      | nil => exact .inr (.inr rfl)
      | cons b y =>
        unfold lexT
        by_cases e : a = b
        · subst e
          rw [if_pos rfl, if_pos rfl]
          rcases ih y with h | h | h
          · exact .inl h
          · exact .inr (.inl (by rw [h]))
          · exact .inr (.inr h)
        · rw [if_neg e, if_neg fun z => e z.symm]
          rcases T.tri a b with h | h | h
          · exact .inl h
          · exact absurd h e
          · exact .inr (.inr h)
theorem tot_nat : Tot fun a b : Nat => decide (a < b) := ⟨fun x => by simp, fun x y z h1 h2 => by simp at h1 h2 ⊢; omega, fun x y => by simp; omega⟩
theorem lt_lex : ∀ a b : List Nat, decide (a < b) = lexT (fun a b : Nat => decide (a < b)) a b
  | [], [] => by decide
  | [], y :: ys => decide_eq_true (List.nil_lt_cons y ys)
  | x :: xs, [] => decide_eq_false (List.not_lt_nil _)
  | x :: xs, y :: ys => by
    unfold lexT
    by_cases e : x = y
    · subst e
      rw [if_pos rfl, ← lt_lex xs ys]
      simp [List.cons_lt_cons_iff]
    · rw [if_neg e]
      simp [List.cons_lt_cons_iff, e]
inductive Sc where
  | i (n : Int) | s (z : Str)
  deriving DecidableEq
def ltSc : Sc → Sc → Bool
  | .i a, .i b => decide (a < b)
  | .i _, .s _ => true
  | .s _, .i _ => false
  | .s a, .s b => decide (a.cps.toList < b.cps.toList)
theorem str_ext {a b : Str} (h : a.cps.toList = b.cps.toList) : a = b := by
  cases a; cases b
  exact congrArg Str.mk (Array.toList_inj.mp h)
theorem ltSc_i {a b : Int} : ltSc (.i a) (.i b) = decide (a < b) := (rfl)
theorem ltSc_s {a b : Str} : ltSc (.s a) (.s b) = lexT (fun a b : Nat => decide (a < b)) a.cps.toList b.cps.toList := lt_lex _ _
theorem tot_sc : Tot ltSc := by
  have L := tot_nat.lex
  refine ⟨fun x => ?_, fun x y z h1 h2 => ?_, fun x y => ?_⟩
  · cases x with
    | i a => exact decide_eq_false (by omega)
    | s a => rw [ltSc_s]; exact L.irr _
  · cases x with
    | i a =>
      cases y with
      | i b =>
        cases z with
        | i c =>
          rw [ltSc_i] at h1 h2 ⊢
          have := of_decide_eq_true h1
          have := of_decide_eq_true h2
          exact decide_eq_true (by omega)
        | s c => rfl
      | s b =>
        cases z with
        | i c => cases h2
        | s c => rfl
    | s a =>
      cases y with
      | i b => cases h1
      | s b =>
        cases z with
        | i c => cases h2
        | s c =>
          rw [ltSc_s] at h1 h2 ⊢
          exact L.tr _ _ _ h1 h2
  · cases x with
    | i a =>
      cases y with
      | i b =>
        rw [ltSc_i, ltSc_i]
        rcases Int.lt_trichotomy a b with h | h | h
        · exact .inl (decide_eq_true h)
        · exact .inr (.inl (by rw [h]))
        · exact .inr (.inr (decide_eq_true h))
      | s b => exact .inl rfl
    | s a =>
      cases y with
      | i b => exact .inr (.inr rfl)
      | s b =>
        rw [ltSc_s, ltSc_s]
        rcases L.tri a.cps.toList b.cps.toList with h | h | h
        · exact .inl h
        · exact .inr (.inl (by rw [str_ext h]))
        · exact .inr (.inr h)
abbrev ltK : List Sc → List Sc → Bool := lexT ltSc
theorem tot_k : Tot ltK := tot_sc.lex
def Sc.ty : Sc → Bool
  | .i _ => true
  | .s _ => false
def Sc.of : Sc → Value → Prop
  | .i n, v => ∃ t, v = .int n t
  | .s z, v => ∃ t, v = .str z t
def ScL : List Sc → List Value → Prop
  | [], [] => True
  | c :: cs, v :: vs => c.of v ∧ ScL cs vs
  | _, _ => False
section
variable {prog : Program} {w : World} {A : Around} {s : Shared} {Q : Bool → Shared → Prop}
theorem oneI (c : Bool) {x y : Int} {t u : Tok} (q : Q (ltSc (.i x) (.i y)) s) : wpAny (model prog w) A (PyProof.Rows.oneLt' c (.int x t) (.int y u)) Q (fun _ _ => False) s := by
  cases c with
  | true => exact PyProof.Rows.oneLt_int q
  | false => exact PySem.W.kat_one _ _ (PyProof.Rows.lt_int q)
theorem oneS (c : Bool) {x y : Str} {t u : Tok} (q : Q (ltSc (.s x) (.s y)) s) : wpAny (model prog w) A (PyProof.Rows.oneLt' c (.str x t) (.str y u)) Q (fun _ _ => False) s := by
  cases c with
  | true => exact PyProof.Rows.oneLt_str q
  | false => exact PySem.W.kat_one _ _ (PyProof.Rows.lt_str q)
theorem kat_sc {fin : Bool} (hf : fin = false) : ∀ (ks ls : List Sc) (us ws : List Value) (i : Nat), ScL ks us → ScL ls ws → ks.map Sc.ty = ls.map Sc.ty → Q (ltK ks ls) s → PySem.W.KatLex prog w A true fin Q (us.zip ws) i s
  | [], [], us, ws, i, h1, h2, _, q => by
    cases us with
    | nil => exact PySem.W.kat_nil (by rw [hf]; exact q)
    | cons _ _ => exact h1.elim
  | [], _ :: _, us, ws, i, h1, h2, e, q => by cases e
  | _ :: _, [], us, ws, i, h1, h2, e, q => by cases e
  | c :: ks, d :: ls, us, ws, i, h1, h2, e, q => by
    cases us with
    | nil => exact h1.elim
    | cons u us =>
      cases ws with
      | nil => exact h2.elim
      | cons v ws =>
        obtain ⟨a1, b1⟩ := h1
        obtain ⟨a2, b2⟩ := h2
        injection e with e1 e2
        unfold ltK lexT at q
        show PySem.W.KatLex prog w A true fin Q ((u, v) :: us.zip ws) i s
        cases c with
        | i x =>
          cases d with
          | s y => cases e1
          | i y =>
            obtain ⟨t, rfl⟩ := a1
            obtain ⟨t2, rfl⟩ := a2
            refine PySem.W.kat_cons (SeqAt.EqAt.int_int x t y t2 prog w _ _ ?_)
            refine PySem.W.kat_go (fun g => ?_) (fun g => ?_)
            · have ex : x = y := by simpa using g
              rw [if_pos (by rw [ex])] at q
              exact PySem.W.kat_yes (kat_sc hf ks ls us ws (i + 1) b1 b2 e2 q)
            · have ex : ¬ x = y := by simpa using g
              rw [if_neg (fun z => ex (by injection z))] at q
              exact PySem.W.kat_no (oneI _ q)
        | s x =>
          cases d with
          | i y => cases e1
          | s y =>
            obtain ⟨t, rfl⟩ := a1
            obtain ⟨t2, rfl⟩ := a2
            refine PySem.W.kat_cons (SeqAt.EqAt.str_str x t y t2 prog w _ _ ?_)
            refine PySem.W.kat_go (fun g => ?_) (fun g => ?_)
            · have ex : x = y := by simpa using g
              rw [if_pos (by rw [ex])] at q
              exact PySem.W.kat_yes (kat_sc hf ks ls us ws (i + 1) b1 b2 e2 q)
            · have ex : ¬ x = y := by simpa using g
              rw [if_neg (fun z => ex (by injection z))] at q
              exact PySem.W.kat_no (oneS _ q)
theorem scl_len : ∀ {ks : List Sc} {us : List Value}, ScL ks us → us.length = ks.length
  | [], [], _ => rfl
  | [], _ :: _, h => h.elim
  | _ :: _, [], h => h.elim
  | _ :: ks, _ :: us, h => by rw [List.length_cons, List.length_cons, scl_len h.2]
def KeyT (h : Heap) (v : Value) (k : List Sc) : Prop := ∃ a o us n, v = .ref a ∧ h.get? a = some o ∧ o.cls = .type "tuple" ∧ o.data = .seq us n ∧ ScL k us.toList
theorem KeyT.keeps {h h' : Heap} {v : Value} {k : List Sc} (p : KeyT h v k) (kp : ∀ b o, h.get? b = some o → o.cls = .type "tuple" → h'.get? b = some o) : KeyT h' v k := by
  obtain ⟨a, o, us, n, e, ho, hc, hd, q⟩ := p
  exact ⟨a, o, us, n, e, kp _ _ ho hc, hc, hd, q⟩
theorem heads_of {h : Heap} {key : Value → List Sc} {b : Bool} {P : List Bool} : ∀ {vs : List Value}, (∀ v ∈ vs, KeyT h v (key v)) → (∀ v ∈ vs, (key v).map Sc.ty = b :: P) →
    ∃ fs, PySem.W.KatTups h vs fs ∧ fs.length = vs.length ∧ ∀ f ∈ fs, ∃ c : Sc, c.ty = b ∧ c.of f
  | [], _, _ => ⟨[], PySem.W.KatTups.nil, rfl, fun f m => by cases m⟩
  | v :: vs, hp, hP => by
    obtain ⟨fs, h1, h2, h3⟩ := heads_of (vs := vs) (fun u m => hp u (List.mem_cons_of_mem _ m)) (fun u m => hP u (List.mem_cons_of_mem _ m))
    obtain ⟨a, o, us, n, rfl, ho, hc, hd, q⟩ := hp v List.mem_cons_self
    have e := hP _ List.mem_cons_self
    generalize key (Value.ref a) = k at q e
    cases k with
    | nil => cases e
    | cons c k =>
      injection e with e1 e2
      obtain ⟨u0, ur, eu⟩ : ∃ u0 ur, us.toList = u0 :: ur := by
        cases eu : us.toList with
        | nil => rw [eu] at q; exact q.elim
        | cons u0 ur => exact ⟨u0, ur, rfl⟩
      rw [eu] at q
      refine ⟨u0 :: fs, PySem.W.KatTups.cons ho hc hd ?_ h1, by rw [List.length_cons, List.length_cons, h2], fun f m => ?_⟩
      · rw [← Array.getElem?_toList, eu]; rfl
      · rcases List.mem_cons.mp m with rfl | m
        · exact ⟨c, e1, q.1⟩
        · exact h3 f m
theorem tup_cmp {vs : List Value} {key : Value → List Sc} {P : List Bool} (hp : ∀ v ∈ vs, KeyT s.heap v (key v)) (hP : ∀ v ∈ vs, (key v).map Sc.ty = P) : SrtO.Cmp prog w A s (PyProof.Rows.tuples' true) (fun p => p.1 ∈ vs) (SrtO.lt2 fun v u => ltK (key v) (key u)) := by
  intro p q hm hm'
  obtain ⟨a, o, us, n, e, ho, hc, hd, k1⟩ := hp _ hm
  obtain ⟨a', o', us', n', e', ho', hc', hd', k2⟩ := hp _ hm'
  have ep := (hP _ hm).trans (hP _ hm').symm
  show wpAny (model prog w) A (PyProof.Rows.keyLt' (PyProof.Rows.tuples' true) p.1 q.1) (fun r s' => s' = s ∧ r = ltK (key p.1) (key q.1)) (fun _ _ => False) s
  generalize key p.1 = ka at k1 ep ⊢
  generalize key q.1 = kb at k2 ep ⊢
  rw [e, e']
  have hz : decide (us.size < us'.size) = false := by
    have l1 := scl_len k1
    have l2 := scl_len k2
    have l3 := congrArg List.length ep
    rw [List.length_map, List.length_map] at l3
    rw [Array.length_toList] at l1 l2
    exact decide_eq_false (by omega)
  exact PySem.W.kat_lt ho hd ho' hd' (kat_sc hz ka kb _ _ 0 k1 k2 ep ⟨rfl, rfl⟩)
theorem tups_sortable {a : Addr} {vs : List Value} {key : Value → List Sc} {b : Bool} {P : List Bool} (h0 : 0 < vs.length) (hp : ∀ v ∈ vs, KeyT s.heap v (key v)) (hP : ∀ v ∈ vs, (key v).map Sc.ty = b :: P) (ha : ∀ o, s.heap.get? a = some o → o.cls ≠ .type "tuple") : SrtO.SortableO prog w A s a vs fun v u => ltK (key v) (key u) := by
  intro h' keep
  have hp' : ∀ v ∈ vs, KeyT h' v (key v) := fun v hm => (hp v hm).keeps fun d o e c => keep d o (fun z => by subst z; exact ha o e c) e
  obtain ⟨fs, h1, h2, h3⟩ := heads_of hp' hP
  refine ⟨PyProof.Rows.tuples' true, fun Q E hq => ?_, tup_cmp hp' hP⟩
  cases b with
  | true =>
    refine PySem.W.kat_kind (T := .type "int") h1 (by omega) (fun f hm => ?_) (by rfl) ?_
    · obtain ⟨c, hc, q⟩ := h3 f hm
      cases c with
      | i x => obtain ⟨t, rfl⟩ := q; exact PySem.W.Looks.now
      | s x => cases hc
    · have e : (Value.type "int" != Value.type "tuple") = true := by first | decide +kernel | rfl | decide
      rw [e]
      exact hq
  | false =>
    refine PySem.W.kat_kind (T := .type "str") h1 (by omega) (fun f hm => ?_) (by rfl) ?_
    · obtain ⟨c, hc, q⟩ := h3 f hm
      cases c with
      | s x => obtain ⟨t, rfl⟩ := q; exact PySem.W.Looks.now
      | i x => cases hc
    · have e : (Value.type "str" != Value.type "tuple") = true := by first | decide +kernel | rfl | decide
      rw [e]
      exact hq
end
theorem ltK_1 {c d : Sc} : ltK [c] [d] = ltSc c d := by
  unfold ltK lexT
  by_cases e : c = d
  · subst e
    rw [if_pos rfl, tot_sc.irr]
    rfl
  · rw [if_neg e]
def bV : Value → V
  | .ref a => .ref a
  | .int n _ => .int n
  | .str z _ => .str z
  | _ => .non
def Plain : V → Prop
  | .ref _ => True
  | .int _ => True
  | .str _ => True
  | _ => False
theorem bV_of {x : V} {u : Value} (p : Plain x) (r : RelV x u) : bV u = x := by
  cases x with
  | ref a =>
    have r : u = .ref a := r
    rw [r]; rfl
  | int n => obtain ⟨t, rfl⟩ := r; rfl
  | str z => obtain ⟨t, rfl⟩ := r; rfl
  | _ => exact p.elim
theorem rel_bV {x : V} {u : Value} (p : Plain x) (r : RelV x u) : RelV (bV u) u := by
  rw [bV_of p r]
  exact r
theorem vals_bV : ∀ {xs : List V} {us : List Value}, (∀ x ∈ xs, Plain x) → Vals xs us → xs = us.map bV ∧ ∀ u ∈ us, RelV (bV u) u
  | [], us, _, r => by
    cases r
    exact ⟨rfl, fun u m => by cases m⟩
  | x :: xs, us, p, r => by
    cases r with
    | cons r1 r2 =>
      rename_i u us
      obtain ⟨e, h⟩ := vals_bV (fun y m => p y (List.mem_cons_of_mem _ m)) r2
      refine ⟨by rw [List.map_cons, ← e, bV_of (p x List.mem_cons_self) r1], fun v m => ?_⟩
      rcases List.mem_cons.mp m with rfl | m
      · exact rel_bV (p x List.mem_cons_self) r1
      · exact h v m
theorem bV_vals : ∀ {us : List Value}, (∀ u ∈ us, RelV (bV u) u) → Vals (us.map bV) us
  | [], _ => .nil
  | u :: us, h => .cons (h u List.mem_cons_self) (bV_vals fun v m => h v (List.mem_cons_of_mem _ m))
def Sc.v : Sc → V
  | .i n => .int n
  | .s z => .str z
theorem scl_of : ∀ {k : List Sc} {us : List Value}, Vals (k.map Sc.v) us → ScL k us
  | [], us, r => by cases r; trivial
  | c :: k, us, r => by
    cases r with
    | cons r1 r2 =>
      refine ⟨?_, scl_of r2⟩
      cases c <;> exact r1
def KeyV (K : PySem.W.Frag) (H : Hp) (tp : Bool) (x : V) (k : List Sc) : Prop := if tp = true then ∃ t, x = .ref t ∧ SqT K H t (k.map Sc.v) else ∃ c : Sc, x = c.v ∧ k = [c]
theorem KeyV.plain {K : PySem.W.Frag} {H : Hp} {tp : Bool} {x : V} {k : List Sc} (h : KeyV K H tp x k) : Plain x := by
  unfold KeyV at h
  split at h
  · obtain ⟨t, rfl, _⟩ := h; trivial
  · obtain ⟨c, rfl, _⟩ := h
    cases c <;> trivial
theorem perm_lift {α β : Type} {f : α → β} {m l : List β} (h : m.Perm l) : ∀ (zs : List α), zs.map f = l → ∃ ys : List α, ys.Perm zs ∧ ys.map f = m := by
  induction h with
  | nil => exact fun zs e => ⟨zs, List.Perm.refl _, e⟩
  | cons x p ih =>
    intro zs e
    cases zs with
    | nil => cases e
    | cons z zs =>
      injection e with e1 e2
      obtain ⟨ys, h1, h2⟩ := ih zs e2
      exact ⟨z :: ys, h1.cons z, by rw [List.map_cons, e1, h2]⟩
  | swap x y l =>
    intro zs e
    cases zs with
    | nil => cases e
    | cons z zs =>
      cases zs with
      | nil => injection e with _ e; cases e
      | cons z2 zs =>
        injection e with e1 e
        injection e with e2 e3
        exact ⟨z2 :: z :: zs, List.Perm.swap z z2 zs, by rw [List.map_cons, List.map_cons, e1, e2, e3]⟩
  | trans p q ih1 ih2 =>
    intro zs e
    obtain ⟨ys, h1, h2⟩ := ih2 zs e
    obtain ⟨ws, h3, h4⟩ := ih1 ys h2
    exact ⟨ws, h3.trans h1, h4⟩
theorem scv_inj {c d : Sc} (h : c.v = d.v) : c = d := by
  cases c <;> cases d <;> first | (cases h; rfl) | cases h
theorem scv_map : ∀ {k l : List Sc}, k.map Sc.v = l.map Sc.v → k = l
  | [], [], _ => rfl
  | [], _ :: _, h => by cases h
  | _ :: _, [], h => by cases h
  | c :: k, d :: l, h => by
    injection h with h1 h2
    rw [scv_inj h1, scv_map h2]
section
variable {prog : Program} {w : World} {A : Around} {s : Shared} {Q : Bool → Shared → Prop}
theorem ones_sortable {a : Addr} {vs : List Value} {key : Value → List Sc} {b : Bool} (h2 : 2 ≤ vs.length) (hp : ∀ v ∈ vs, ∃ c : Sc, c.of v ∧ key v = [c] ∧ c.ty = b) : SrtO.SortableO prog w A s a vs fun v u => ltK (key v) (key u) := by
  intro h' _
  refine ⟨PyProof.Rows.oneType', fun Q E hq => ?_, fun p q hm hm' => ?_⟩
  · match vs, hp, h2 with
    | v1 :: v2 :: rest, hp, _ =>
      cases b with
      | true =>
        have hI : ∃ ns, PyProof.Rows.IntsAre (v1 :: v2 :: rest) ns := by
          have go : ∀ l : List Value, (∀ v ∈ l, ∃ c : Sc, c.of v ∧ key v = [c] ∧ c.ty = true) → ∃ ns, PyProof.Rows.IntsAre l ns := by
            intro l
            induction l with
            | nil => intro _; exact ⟨[], .nil⟩
            | cons v l ih =>
              intro h
              obtain ⟨ns, r⟩ := ih fun u m => h u (List.mem_cons_of_mem _ m)
              obtain ⟨c, q, _, ty⟩ := h v List.mem_cons_self
              cases c with
              | i x => obtain ⟨t, rfl⟩ := q; exact ⟨x :: ns, .cons x t r⟩
              | s x => cases ty
          exact go _ hp
        obtain ⟨ns, hI⟩ := hI
        rw [PyProof.Rows.keyKind_ints hI]
        exact wpAny_pure hq
      | false =>
        have hI : ∃ ns, PyProof.Rows.StrsAre (v1 :: v2 :: rest) ns := by
          have go : ∀ l : List Value, (∀ v ∈ l, ∃ c : Sc, c.of v ∧ key v = [c] ∧ c.ty = false) → ∃ ns, PyProof.Rows.StrsAre l ns := by
            intro l
            induction l with
            | nil => intro _; exact ⟨[], .nil⟩
            | cons v l ih =>
              intro h
              obtain ⟨ns, r⟩ := ih fun u m => h u (List.mem_cons_of_mem _ m)
              obtain ⟨c, q, _, ty⟩ := h v List.mem_cons_self
              cases c with
              | s x => obtain ⟨t, rfl⟩ := q; exact ⟨x :: ns, .cons x t r⟩
              | i x => cases ty
          exact go _ hp
        obtain ⟨ns, hI⟩ := hI
        rw [PyProof.Rows.keyKind_strs hI]
        exact wpAny_pure hq
    | [], _, h => exact absurd h (by decide)
    | [v], _, h => exact absurd h (by simp)
  · obtain ⟨c, q1, k1, t1⟩ := hp _ hm
    obtain ⟨d, q2, k2, t2⟩ := hp _ hm'
    show wpAny (model prog w) A (PyProof.Rows.keyLt' PyProof.Rows.oneType' p.1 q.1) (fun r s' => s' = _ ∧ r = ltK (key p.1) (key q.1)) (fun _ _ => False) _
    rw [k1, k2, ltK_1]
    generalize p.1 = u at q1
    generalize q.1 = v at q2
    cases c with
    | i x =>
      cases d with
      | i y =>
        obtain ⟨t, rfl⟩ := q1
        obtain ⟨t', rfl⟩ := q2
        rw [PyProof.Rows.keyLt'_oneType]
        exact PyProof.Rows.oneLt_int ⟨rfl, rfl⟩
      | s y => exact absurd (t1.trans t2.symm) (fun z => by cases z)
    | s x =>
      cases d with
      | s y =>
        obtain ⟨t, rfl⟩ := q1
        obtain ⟨t', rfl⟩ := q2
        rw [PyProof.Rows.keyLt'_oneType]
        exact PyProof.Rows.oneLt_str ⟨rfl, rfl⟩
      | i y => exact absurd (t1.trans t2.symm) (fun z => by cases z)
end
open Classical in
noncomputable def keyAt {β : Type} (zs : List (V × β)) (key : β → List Sc) (x : V) : List Sc := if h : ∃ z ∈ zs, z.1 = x then key h.choose.2 else []
theorem keyAt_eq {β : Type} {zs : List (V × β)} {key : β → List Sc} {z : V × β} (m : z ∈ zs) (u : ∀ y ∈ zs, y.1 = z.1 → key y.2 = key z.2) : keyAt zs key z.1 = key z.2 := by
  have h : ∃ y ∈ zs, y.1 = z.1 := ⟨z, m, rfl⟩
  unfold keyAt
  rw [dif_pos h]
  exact u _ h.choose_spec.1 h.choose_spec.2
def scD : PyData → Option Sc
  | .int i => some (.i i)
  | .str z => some (.s z)
  | _ => none
def scsD : List PyData → Option (List Sc)
  | [] => some []
  | x :: r => match scD x, scsD r with
    | some c, some k => some (c :: k)
    | _, _ => none
def keyD : PyData → Option (Bool × List Sc)
  | .tuple xs => (scsD xs).map fun k => (true, k)
  | x => (scD x).map fun c => (false, [c])
def kfD (x : PyData) : List Sc := match keyD x with
  | some (_, k) => k
  | none => []
def patD (x : PyData) : Option (Bool × List Bool) := (keyD x).map fun p => (p.1, p.2.map Sc.ty)
def patOk : List PyData → Bool
  | [] => true
  | x :: r => match patD x with
    | some (tp, b :: P) => r.all fun y => decide (patD y = some (tp, b :: P))
    | _ => false
def leD (x y : PyData) : Bool := !(ltK (kfD y) (kfD x))
def sortD (ds : List PyData) : Option (List PyData) := if patOk ds = true then some (ds.mergeSort leD) else none
theorem scD_inj : ∀ {x y : PyData} {c : Sc}, scD x = some c → scD y = some c → x = y
  | .int i, y, c, e, f => by
    cases e
    cases y <;> cases f <;> rfl
  | .str i, y, c, e, f => by
    cases e
    cases y <;> cases f <;> rfl
  | .none, _, _, e, _ => by cases e
  | .bool _, _, _, e, _ => by cases e
  | .list _, _, _, e, _ => by cases e
  | .tuple _, _, _, e, _ => by cases e
  | .dict _, _, _, e, _ => by cases e
theorem scsD_cons {x : PyData} {r : List PyData} {k : List Sc} (e : scsD (x :: r) = some k) : ∃ c l, k = c :: l ∧ scD x = some c ∧ scsD r = some l := by
  unfold scsD at e
  split at e
  · rename_i c l h1 h2
    cases e
    exact ⟨c, l, rfl, h1, h2⟩
  · cases e
theorem scsD_inj : ∀ {xs ys : List PyData} {k : List Sc}, scsD xs = some k → scsD ys = some k → xs = ys
  | [], [], _, _, _ => rfl
  | [], y :: ys, k, e, f => by
    cases e
    obtain ⟨c, l, z, _⟩ := scsD_cons f
    cases z
  | x :: xs, [], k, e, f => by
    cases f
    obtain ⟨c, l, z, _⟩ := scsD_cons e
    cases z
  | x :: xs, y :: ys, k, e, f => by
    obtain ⟨c, l, rfl, h1, h2⟩ := scsD_cons e
    obtain ⟨c', l', z, g1, g2⟩ := scsD_cons f
    cases z
    rw [scD_inj h1 g1, scsD_inj h2 g2]
theorem keyD_cases {x : PyData} {tp : Bool} {k : List Sc} (e : keyD x = some (tp, k)) : (tp = true ∧ ∃ xs, x = .tuple xs ∧ scsD xs = some k) ∨ (tp = false ∧ ∃ c, scD x = some c ∧ k = [c]) := by
  unfold keyD at e
  split at e
  · rename_i xs
    cases h : scsD xs with
    | none => rw [h] at e; cases e
    | some l => rw [h] at e; cases e; exact .inl ⟨rfl, xs, rfl, h⟩
  · cases h : scD x with
    | none => rw [h] at e; cases e
    | some c => rw [h] at e; cases e; exact .inr ⟨rfl, c, rfl, rfl⟩
theorem keyD_inj {x y : PyData} {p : Bool × List Sc} (e : keyD x = some p) (f : keyD y = some p) : x = y := by
  obtain ⟨tp, k⟩ := p
  rcases keyD_cases e with ⟨h, xs, rfl, q⟩ | ⟨h, c, q, rfl⟩
  · rcases keyD_cases f with ⟨h', ys, rfl, q'⟩ | ⟨h', _⟩
    · rw [scsD_inj q q']
    · rw [h] at h'; cases h'
  · rcases keyD_cases f with ⟨h', _⟩ | ⟨h', d, q', z⟩
    · rw [h] at h'; cases h'
    · cases z; exact scD_inj q q'
theorem kfD_of {x : PyData} {tp : Bool} {k : List Sc} (e : keyD x = some (tp, k)) : kfD x = k := by
  unfold kfD
  rw [e]
theorem patOk_all {ds : List PyData} (h : patOk ds = true) : ∃ tp b P, ∀ x ∈ ds, keyD x = some (tp, kfD x) ∧ (kfD x).map Sc.ty = b :: P := by
  cases ds with
  | nil => exact ⟨false, false, [], fun _ m => by cases m⟩
  | cons x r =>
    have h : (match patD x with | some (tp, b :: P) => r.all fun y => decide (patD y = some (tp, b :: P)) | _ => false) = true := h
    cases hp : patD x with
    | none => rw [hp] at h; cases h
    | some w =>
    obtain ⟨tp, L⟩ := w
    cases L with
    | nil => rw [hp] at h; cases h
    | cons b P =>
      rw [hp] at h
      have h : (r.all fun y => decide (patD y = some (tp, b :: P))) = true := h
      refine ⟨tp, b, P, ?_⟩
      have go : ∀ y, patD y = some (tp, b :: P) → keyD y = some (tp, kfD y) ∧ (kfD y).map Sc.ty = b :: P := fun y hy => by
        unfold patD at hy
        cases hk : keyD y with
        | none => rw [hk] at hy; cases hy
        | some q =>
          obtain ⟨tp', k⟩ := q
          rw [hk] at hy
          have e1 : (tp', k.map Sc.ty) = (tp, b :: P) := Option.some.inj hy
          have e2 : tp' = tp := congrArg Prod.fst e1
          have e3 : k.map Sc.ty = b :: P := congrArg Prod.snd e1
          rw [kfD_of hk, e2]
          exact ⟨rfl, e3⟩
      intro y m
      rcases List.mem_cons.mp m with rfl | m
      · exact go _ hp
      · exact go _ (of_decide_eq_true (List.all_eq_true.mp h y m))
theorem leD_tot (x y : PyData) : (leD x y || leD y x) = true := by
  unfold leD
  cases h : ltK (kfD y) (kfD x) with
  | false => rfl
  | true => rw [tot_k.asym h]; rfl
theorem leD_tr (x y z : PyData) (h1 : leD x y = true) (h2 : leD y z = true) : leD x z = true := by
  unfold leD at h1 h2 ⊢
  simp only [Bool.not_eq_true'] at h1 h2 ⊢
  exact (tot_k.swo kfD).2 x y z h1 h2
theorem sorted_one {α : Type} {le : α → α → Bool} : ∀ {l m : List α}, l.Perm m → (∀ x ∈ l, ∀ y ∈ l, le x y = true → le y x = true → x = y) → l.Pairwise (fun x y => le x y = true) → m.Pairwise (fun x y => le x y = true) → l = m
  | [], m, p, _, _, _ => (List.nil_perm.mp p).symm
  | x :: l, [], p, _, _, _ => absurd (List.perm_nil.mp p) (by simp)
  | x :: l, y :: m, p, an, s1, s2 => by
    have e : x = y := by
      have h1 : x ∈ y :: m := p.mem_iff.mp List.mem_cons_self
      have h2 : y ∈ x :: l := p.mem_iff.mpr List.mem_cons_self
      rcases List.mem_cons.mp h1 with h1 | h1
      · exact h1
      · rcases List.mem_cons.mp h2 with h2' | h2'
        · exact h2'.symm
        · exact an x List.mem_cons_self y h2 ((List.pairwise_cons.mp s1).1 y h2') ((List.pairwise_cons.mp s2).1 x h1)
    subst e
    rw [sorted_one ((List.perm_cons x).mp p) (fun a ha b hb => an a (List.mem_cons_of_mem _ ha) b (List.mem_cons_of_mem _ hb)) (List.pairwise_cons.mp s1).2 (List.pairwise_cons.mp s2).2]
theorem leD_anti {ds : List PyData} (h : patOk ds = true) : ∀ x ∈ ds, ∀ y ∈ ds, leD x y = true → leD y x = true → x = y := fun x mx y my h1 h2 => by
  obtain ⟨tp, b, P, q⟩ := patOk_all h
  unfold leD at h1 h2
  simp only [Bool.not_eq_true'] at h1 h2
  have e : kfD x = kfD y := by
    rcases tot_k.tri (kfD x) (kfD y) with z | z | z
    · rw [z] at h2; cases h2
    · exact z
    · rw [z] at h1; cases h1
  have k1 := (q x mx).1
  rw [e] at k1
  exact keyD_inj k1 (q y my).1
theorem sortD_eq {ds es : List PyData} (h : patOk ds = true) (p : es.Perm ds) (s : es.Pairwise fun x y => leD x y = true) : sortD ds = some es := by
  unfold sortD
  rw [if_pos h, sorted_one (p.trans (List.mergeSort_perm ds leD).symm) (fun x mx y my => leD_anti h x (p.mem_iff.mp mx) y (p.mem_iff.mp my)) s (List.pairwise_mergeSort leD_tr leD_tot ds)]
theorem sortD_some {ds es : List PyData} (e : sortD ds = some es) : patOk ds = true ∧ es.Perm ds ∧ es.Pairwise fun x y => leD x y = true := by
  unfold sortD at e
  split at e
  · rename_i h
    cases e
    exact ⟨h, List.mergeSort_perm ds leD, List.pairwise_mergeSort leD_tr leD_tot ds⟩
  · cases e
def wrapS (b : Bool) (x : PyData) : SV := if b = true then .vw x else .d x
theorem rp_sc {K : PySem.W.Frag} {F : Hp} {v : V} {x : PyData} {c : Sc} (r : Rp K F v x) (e : scD x = some c) : v = c.v := by
  unfold scD at e
  split at e
  · cases e; unfold Rp at r; exact r
  · cases e; unfold Rp at r; exact r
  · cases e
theorem rp_scs {K : PySem.W.Frag} {F : Hp} : ∀ {xs : List PyData} {vs : List V} {k : List Sc}, RpL K F vs xs → scsD xs = some k → vs = k.map Sc.v
  | [], vs, k, r, e => by
    unfold RpL at r
    cases e
    exact r
  | x :: xs, vs, k, r, e => by
    unfold RpL at r
    obtain ⟨v, q, rfl, r1, r2⟩ := r
    obtain ⟨c, l, rfl, h1, h2⟩ := scsD_cons e
    rw [rp_sc r1 h1, rp_scs r2 h2]; rfl
theorem keyV_of {en : En} {w : Wd} {H : Hp} {h : AH} (S : SimH en w H h) {v : V} {b tp : Bool} {x : PyData} {k : List Sc} (r : RS en w v (wrapS b x)) (e : keyD x = some (tp, k)) : KeyV en.K H tp v k := by
  have go : ∀ F, (∀ a o, F a = some o → H a = some o) → Rp en.K F v x → KeyV en.K H tp v k := fun F sm r => by
    unfold KeyV
    rcases keyD_cases e with ⟨rfl, xs, rfl, q⟩ | ⟨rfl, c, q, rfl⟩
    · rw [if_pos rfl]
      unfold Rp at r
      obtain ⟨a, ys, rfl, hq, rl⟩ := r
      rw [rp_scs rl q] at hq
      exact ⟨a, rfl, sqT_mono (sm a) hq⟩
    · rw [if_neg (by decide)]
      exact ⟨c, rp_sc r q, rfl⟩
  cases b with
  | false => exact go w.F S.fh r
  | true => exact go en.G S.gh r
end Zx
namespace Zx
open PySem PySem.Spec PyProof.Rows L2
section
variable {prog : Program} {w : World} {A : Around} {E : Value → Shared → Prop} {s : Shared}
end
end Zx
namespace Zx
open PySem PySem.Spec PyProof.Rows L2
end Zx
namespace Zx
open PySem PySem.Spec L2
end Zx
namespace Zx
open PySem PySem.Spec L2
theorem room65 {k : Nat} {A : Around} (r : Room k A) : A.units + 65 < cLine := by
  have := r.un
  omega
def gInD (neg : Bool) : SV → SV → AH → R SV := fun s t h => match rb h 9 s, rb h 9 t with
  | some d, some (.list ds) => if (nod d && nod (.list ds) && SeqAt.shaped d && SeqAt.shaped (.list ds)) = true then .ok (.d (.bool (neg ^^ ds.any fun z => PyData.eqv z d))) h else .st
  | _, _ => .st
theorem os_notInD {X : Cx} : OpS X (rNotInD X.K) (gInD true) := by
  intro W en w σ H sl h x y s t Q eK S r1 r2 P
  unfold gInD at P
  split at P
  · rename_i d ds q1 q2
    split at P
    · rename_i c
      simp only [Bool.and_eq_true] at c
      obtain ⟨⟨⟨c1, c2⟩, c3⟩, c4⟩ := c
      refine ⟨d, ds, ?_, ?_, c3, c4, ?_⟩
      · rw [← eK.1]; exact Rp.dp d x c1 (rb_ok S.toSimH 9 s x d r1 q1)
      · rw [← eK.1]; exact Rp.dp _ y c2 (rb_ok S.toSimH 9 t y _ r2 q2)
      · have := P.bool S
        simpa using this
    · exact False.elim P
  · exact False.elim P
end Zx
namespace Zx
open PySem PySem.Spec L2
def unl (ns : List Int) : List Int := ns.foldl (fun σ k => if σ.any (· == k) then σ else σ ++ [k]) []
section
variable {X : Cx}
def fLenSet (fa : FE) : FE := fun sl h => (fa sl h).bind fun s h1 => match lstInts h1 s with
  | some ns => if ns.length < 64 then .ok (.d (.int ((unl ns).length : Nat))) h1 else .st
  | none => .st
end
end Zx
namespace Zx
open PySem PySem.Spec L2
def TupC (K : PySem.W.Frag) (mg : Str → Option Value) (x : Str) (zs : List Str) : Prop := ∃ (a : Addr) (o : Obj) (its : Array Value) (n : Nat), mg x = some (.ref a) ∧ K.lookup a = some o ∧ o.cls = .type "tuple" ∧ o.data = .seq its n ∧ its.size ≤ sizeLine ∧ Vals (zs.map V.str) its.toList
theorem rpL_strs {K : PySem.W.Frag} {F : Hp} : ∀ zs : List Str, RpL K F (zs.map V.str) (zs.map PyData.str)
  | [] => by unfold RpL; rfl
  | z :: zs => by
    rw [List.map_cons, List.map_cons]
    unfold RpL
    exact ⟨_, _, rfl, by unfold Rp; rfl, rpL_strs zs⟩
theorem se_gtup {X : Cx} {W : WX} {x : Str} {zs : List Str} {p : Pos} (hg : Gl X x) (hm : TupC X.K X.mg x zs) (hd : (x == ("__debug__" : Str)) = false := by decide) : SE X W (.Name x p) (fC (.tuple (zs.map PyData.str))) := by
  obtain ⟨a, o, its, n, h1, h2, h3, h4, h5, h6⟩ := hm
  exact se_c (v := V.ref a) (pe_glob hg h1 rfl hd) fun F => by
    unfold Rp
    exact ⟨a, zs.map V.str, rfl, .inr ⟨o, its, n, h2, h3, h4, h5, h6⟩, rpL_strs zs⟩
end Zx
namespace Zx
open PySem PySem.Spec L2
def lstItems : SV → Option (List SV)
  | .d (.list ds) => some (ds.map SV.d)
  | .vw (.list ds) => some (ds.map mkv)
  | _ => none
def sSetL (is : List Nat) (f : FE) : FS := fun sl h => (f sl h).thn sl fun s h1 => match lstItems s with
  | some xs => match setAll is xs sl with
    | some sl' => .nx sl' h1
    | none => .st
  | none => .st
section
variable {X : Cx} {W : WX} {e tg : Expr} {fe : FE} {pos : Pos}
end
end Zx
namespace Zx
open PySem PySem.Spec L2
def fTxM (g : Str → SV → AH → R SV) (fo fe : FE) : FE := fun sl h => (fo sl h).bind fun s h1 => match s with
  | .d (.str a) => (fe sl h1).bind fun t h2 => g a t h2
  | _ => .st
section
variable {X : Cx} {W : WX} {o e e2 : Expr} {fo fe : FE} {pos : Pos}
def strsD : List PyData → Option (List Str)
  | [] => some []
  | .str z :: ds => (strsD ds).map fun zs => z :: zs
  | _ :: _ => none
def joinOk (a : Str) (ys : List Str) : Bool := decide ((ys.map (·.length)).sum + ys.length * a.length ≤ 16777216)
variable {apos : Pos}
end
end Zx
namespace Zx
open PySem PySem.Spec L2
def itemsT (h : AH) (s : SV) : Option (List SV) := match s with
  | .r n => match h[n]? with
    | some (some (.tup xs)) => some xs
    | _ => none
  | s => tupItems s
section
variable {X : Cx} {W : WX} {e tg : Expr} {fe : FE} {pos : Pos}
end
end Zx
namespace Zx
open PySem PySem.Spec L2
def fCnt (fa fe : FE) : FE := fun sl h => (fa sl h).bind fun s h1 => match lstInts h1 s with
  | some _ => (fe sl h1).bind fun t h2 => match lstInts h2 s, t with
    | some ns, .d (.int k) => .ok (.d (.int (ns.count k : Nat))) h2
    | _, _ => .st
  | none => .st
end Zx
namespace Zx
open PySem PySem.Spec L2
section
variable {en : En} {w : Wd} {σ : St} {H : Hp} {sl : List SV} {h : AH}
end
def keysD (ps : List (PyData × PyData)) : Option (List PyData) := if lkq ps = true then some ((ps.filter fun p => !isMk p.1).map Prod.fst) else none
def iDk (f : FE) : List SV → AH → R Src := fun sl h => (f sl h).bind fun s h1 => match s with
  | .d (.dict ps) => match keysD ps with
    | some ks => .ok (.cn (ks.map fun x => .one (.d x))) h1
    | none => .st
  | .vw (.dict ps) => match keysD ps with
    | some ks => .ok (.cn (ks.map fun x => .one (.d x))) h1
    | none => .st
  | _ => .st
theorem rpk_keys {K : PySem.W.Frag} {F : Hp} : ∀ {ps : List (PyData × PyData)} {kws : List (Key × V)}, RpK K F kws ps → (∀ p ∈ ps, isMk p.1 = false) → kws.map (fun p => kD p.1) = ps.map Prod.fst
  | [], kws, r, _ => by unfold RpK at r; rw [r]; rfl
  | (k, d) :: ps, kws, r, m => by
    unfold RpK at r
    rw [m _ List.mem_cons_self] at r
    obtain ⟨p, q, rfl, r1, _, r3⟩ := r
    rw [List.map_cons, List.map_cons, rpk_keys r3 fun p h => m p (List.mem_cons_of_mem _ h)]
    congr 1
    obtain ⟨pk, pv⟩ := p
    cases pk with
    | inl i =>
      have r1 : Rp K F (.int i) k := r1
      cases k <;> unfold Rp at r1
      case int j => cases r1; rfl
      case list => obtain ⟨_, _, z, _⟩ := r1; cases z
      case tuple => obtain ⟨_, _, z, _⟩ := r1; cases z
      case dict => obtain ⟨_, _, z, _⟩ := r1; cases z
      all_goals cases r1
    | inr i =>
      have r1 : Rp K F (.str i) k := r1
      cases k <;> unfold Rp at r1
      case str j => cases r1; rfl
      case list => obtain ⟨_, _, z, _⟩ := r1; cases z
      case tuple => obtain ⟨_, _, z, _⟩ := r1; cases z
      case dict => obtain ⟨_, _, z, _⟩ := r1; cases z
      all_goals cases r1
theorem rpk_skip {K : PySem.W.Frag} {F : Hp} {kws : List (Key × V)} : ∀ {ps : List (PyData × PyData)}, RpK K F kws ps → RpK K F kws (ps.filter fun p => !isMk p.1)
  | [], r => r
  | (k, d) :: ps, r => by
    unfold RpK at r
    cases c : isMk k with
    | true =>
      rw [c] at r
      rw [List.filter_cons]
      show RpK K F kws (if (!isMk k) = true then (k, d) :: ps.filter _ else ps.filter _)
      rw [c]
      exact rpk_skip r
    | false =>
      rw [c] at r
      obtain ⟨p, q, rfl, r1, r2, r3⟩ := r
      rw [List.filter_cons]
      show RpK K F (p :: q) (if (!isMk k) = true then (k, d) :: ps.filter _ else ps.filter _)
      rw [c]
      show RpK K F (p :: q) ((k, d) :: ps.filter _)
      unfold RpK
      rw [c]
      exact ⟨p, q, rfl, r1, r2, rpk_skip r3⟩
theorem keys_at {K : PySem.W.Frag} {F : Hp} {v : V} {ps : List (PyData × PyData)} {ks : List PyData} (r : Rp K F v (.dict ps)) (e : keysD ps = some ks) : ∃ a od kws, v = .ref a ∧ F a = some (.frz od (.dK kws)) ∧ kws.map (fun p => kD p.1) = ks := by
  unfold keysD at e
  split at e
  · rename_i c
    cases e
    unfold Rp at r
    obtain ⟨a, kws, rfl, q, rk⟩ := r
    rw [c] at q
    obtain ⟨od, q⟩ := q
    refine ⟨a, od, kws, rfl, q, rpk_keys (rpk_skip rk) fun p m => ?_⟩
    have := (List.mem_filter.mp m).2
    simpa using this
  · cases e
end Zx
namespace Zx
open PySem PySem.Spec L2
def kSc : Key → Sc
  | .inl i => .i i
  | .inr x => .s x
def vSc (v : Value) : List Sc := match bV v with
  | .int i => [.i i]
  | .str z => [.s z]
  | _ => []
theorem vSc_of {k : Key} {v : Value} (r : RelV (kV k) v) : vSc v = [kSc k] ∧ (kSc k).of v := by
  cases k with
  | inl i => obtain ⟨t, rfl⟩ := r; exact ⟨rfl, t, rfl⟩
  | inr i => obtain ⟨t, rfl⟩ := r; exact ⟨rfl, t, rfl⟩
theorem kV_plain (k : Key) : Plain (kV k) := by cases k <;> trivial
def rSortedD : List V → Hp → VK → Prop := fun xs H Q => ∃ (a : Addr) (kvs : List (Key × V)) (b : Bool), xs = [.ref a] ∧ Rd H a (.dK kvs) ∧ (∀ p ∈ kvs, (kSc p.1).ty = b) ∧
    ∀ (ys : List Key) (p : Addr), ys.Perm (kvs.map Prod.fst) → ys.Pairwise (fun x y => ltK [kSc y] [kSc x] = false) → H p = none → Q (.ref p) (upd H p (.lst (ys.map kV)))
theorem cr_sortedD {X : Cx} (hcalm : X.calm = true) : CallR X (.builtin "sorted") rSortedD := by
  intro pins s σ H xs us Q I r q
  obtain ⟨a, kvs, b, rfl, hd, hty, q⟩ := q
  obtain ⟨u, rfl, rx⟩ := vals1 r
  cases rx
  obtain ⟨z, lo, vs, rel, dd⟩ := dk_rd I.hok hd
  obtain ⟨ep, hat⟩ := dd.dictAt
  have hkeys : kvs.map (·.1) = vs.map (·.1) := rel.keys
  have hl : kvs.length = vs.length := rel.length
  have h16 : vs.length ≤ sizeLine := by rw [← hl]; exact z
  refine Calls.call_function_entry PyProof.Rows.kind_sorted PyProof.Rows.plain_sorted PyProof.Rows.entry_sorted (PyProof.Rows.args_sorted1 _) ?_
  unfold Builtin.«sorted»
  refine wpAny_bind (m := checkCount "sorted" 1 1 _) (wpAny_pure ?_)
  refine wpAny_bind (PySem.W.kdu_collect (A := X.A.in1) (PySem.W.kdl_dict (knd := mixKind X.prog X.w) (kvs := vs) (ep := ep) lo) (I.ok.hd hcalm) hat h16 fun h' tk acc hk hacc => ?_)
  have hv : Vals (vs.map fun p => kV p.1) acc.toList := L2.keys_at (by rw [Array.length_toList]; exact hacc.1) fun j v e => hacc.2 j v (by rw [← Array.getElem?_toList]; exact e)
  have hal : acc.toList.length = vs.length := by rw [Array.length_toList]; exact hacc.1
  have ek : (vs.map fun p => kV p.1) = (kvs.map Prod.fst).map kV := by
    have e := congrArg (List.map kV) hkeys
    rw [List.map_map, List.map_map] at e
    rw [List.map_map]
    exact e.symm
  rw [ek] at hv
  obtain ⟨ex, rb⟩ := vals_bV (fun x m => by
    obtain ⟨k, _, rfl⟩ := List.mem_map.mp m
    exact kV_plain k) hv
  have mem : ∀ u ∈ acc.toList, ∃ k ∈ kvs.map Prod.fst, RelV (kV k) u := fun u m => by
    have : bV u ∈ (kvs.map Prod.fst).map kV := by rw [ex]; exact List.mem_map.mpr ⟨u, m, rfl⟩
    obtain ⟨k, mk, e⟩ := List.mem_map.mp this
    exact ⟨k, mk, by rw [e]; exact rb u m⟩
  have I1 : Inv X pins σ H { s with heap := h', toks := tk } := I.kept hk
  refine wpAny_bind (wpAny_newList ?_ (by rw [hal]; exact h16))
  have hoL : (h'.push (PyProof.Rows.seqObj "list" acc.toList.toArray 0)).get? h'.objs.size = some (PyProof.Rows.seqObj "list" acc.toList.toArray 0) := Heap.get?_push_size _ rfl
  show wpAny _ _ _ _ _ { s with heap := h'.push (PyProof.Rows.seqObj "list" acc.toList.toArray 0), toks := tk }
  refine wpAny_bind (wpAny_holding (wpAny_call_entry PyProof.Rows.slot_list_sort ⟨_, hoL, rfl⟩ PyProof.Rows.entry_list_sort
    (SrtO.list_sort_ord (s := { s with heap := h'.push (PyProof.Rows.seqObj "list" acc.toList.toArray 0), toks := tk }) (tot_k.swo vSc) hoL (by rw [hal]; exact h16) (fun h2 => ?_) fun out hs1 hb => ⟨_, rfl, ?_⟩)
    (PyProof.Rows.args_list_sort _)))
  · refine ones_sortable (b := b) h2 fun v m => ?_
    obtain ⟨k, mk, rv⟩ := mem v m
    obtain ⟨p, mp, rfl⟩ := List.mem_map.mp mk
    obtain ⟨e1, e2⟩ := vSc_of rv
    exact ⟨kSc p.1, e2, e1, hty p mp⟩
  · have pm : out.Perm acc.toList := hb.perm
    have ro : ∀ u ∈ out, RelV (bV u) u := fun u m => rb u (pm.mem_iff.mp m)
    obtain ⟨e', he'⟩ := PyProof.Rows.sortedHeap_at (vs := acc.toList) (out := out.toArray) hoL
    have hp2 : (out.map bV).Perm ((kvs.map Prod.fst).map kV) := by rw [ex]; exact pm.map bV
    obtain ⟨ys, py, ey⟩ := perm_lift hp2 (kvs.map Prod.fst) rfl
    have ps : ys.Pairwise fun x y => ltK [kSc y] [kSc x] = false := by
      have h1 : (out.map bV).Pairwise fun x y => ∀ k l, x = kV k → y = kV l → ltK [kSc l] [kSc k] = false := by
        refine List.pairwise_map.mpr (List.Pairwise.imp_of_mem (fun {x y} mx my h => ?_) hs1)
        intro k l e1 e2
        have r1 : RelV (kV k) x := by rw [← e1]; exact ro x mx
        have r2 : RelV (kV l) y := by rw [← e2]; exact ro y my
        have h : ltK (vSc y) (vSc x) = false := h
        rw [(vSc_of r1).1, (vSc_of r2).1] at h
        exact h
      rw [← ey] at h1
      exact (List.pairwise_map.mp h1).imp fun h => h _ _ rfl rfl
    have := q ys h'.objs.size py ps (I1.hok.fresh (Nat.le_refl _))
    refine wpAny_pure ⟨_, rfl, .ref h'.objs.size, upd H h'.objs.size (.lst (ys.map kV)), I1.laid (t' := tk) (fun b u e => ?_) (Nat.le_refl _)
      (show ObjOk X.prog X.w _ _ _ (.lst (ys.map kV)) from ⟨?_, out, e', ?_, he'⟩), rfl, this⟩
    · have hb : b < h'.objs.size := Heap.lt_size e
      rw [PyProof.Rows.sortedHeap_old (Nat.ne_of_lt hb) (by rw [PyProof.Rows.size_push']; exact Nat.lt_succ_of_lt hb)]
      exact Heap.get?_push_of_some _ e
    · rw [List.length_map, py.length_eq, List.length_map]; exact z
    · rw [ey]; exact bV_vals ro
def keyTy (ks : List Key) : Bool := match ks with
  | [] => true
  | k :: r => r.all fun j => decide ((kSc j).ty = (kSc k).ty)
def gSortedD : List SV → AH → R SV := fun ss h => match ss with
  | [s] => match dctR h s with
    | some kvs => if keyTy (kvs.map Prod.fst) = true then match sortD (kvs.map fun p => kD p.1) with
      | some es => .ok (.r h.length) (h ++ [some (.lst (es.map SV.d))])
      | none => .st
      else .st
    | none => .st
  | _ => .st
theorem keyD_k (k : Key) : keyD (kD k) = some (false, [kSc k]) := by cases k <;> rfl
theorem kfD_k (k : Key) : kfD (kD k) = [kSc k] := kfD_of (keyD_k k)
theorem cs_sortedD {X : Cx} : CallS X rSortedD gSortedD := by
  intro W en w σ H sl h xs ss Q eK S r P
  unfold gSortedD at P
  split at P
  · obtain ⟨v, rfl, r1⟩ := r.one
    split at P
    · rename_i kvs hd
      split at P
      · rename_i hty
        split at P
        · rename_i es hs
          obtain ⟨a, kws, rfl, hH, d⟩ := dctR_ok S.toSimH r1 hd
          obtain ⟨hp, pm, pw⟩ := sortD_some hs
          have ek : kws.map Prod.fst = kvs.map Prod.fst := d.1
          have tyb : ∃ b, ∀ p ∈ kws, (kSc p.1).ty = b := by
            rw [← ek] at hty
            cases kws with
            | nil => exact ⟨true, fun p m => by cases m⟩
            | cons p0 kws =>
              refine ⟨(kSc p0.1).ty, fun p m => ?_⟩
              rcases List.mem_cons.mp m with rfl | m
              · rfl
              · have hty : (kws.map Prod.fst).all (fun j => decide ((kSc j).ty = (kSc p0.1).ty)) = true := hty
                exact of_decide_eq_true (List.all_eq_true.mp hty p.1 (List.mem_map.mpr ⟨p, m, rfl⟩))
          obtain ⟨b, hb⟩ := tyb
          refine ⟨a, kws, b, rfl, hH, hb, fun ys p py ps nl => ?_⟩
          have e : ys.map kD = es := by
            have e0 : (kvs.map fun p => kD p.1) = (kvs.map Prod.fst).map kD := by rw [List.map_map]; rfl
            rw [e0] at hp pm
            rw [ek] at py
            refine sorted_one ((py.map kD).trans pm.symm) (fun x mx y my => leD_anti hp x ((py.map kD).mem_iff.mp mx) y ((py.map kD).mem_iff.mp my)) (List.pairwise_map.mpr (ps.imp fun {x y} c => ?_)) pw
            unfold leD
            rw [kfD_k, kfD_k, c]; rfl
          have rl2 : RSL en w (ys.map kV) (es.map SV.d) := by
            rw [← e]
            clear e ps py
            induction ys with
            | nil => exact rfl
            | cons y ys ih => exact ⟨kV y, ys.map kV, rfl, kD_ok y, ih⟩
          exact P _ (w.ow p) _ le_ow (S.newO nl rl2) S.toSimH.rs_new
        · exact False.elim P
      · exact False.elim P
    · exact False.elim P
  · exact False.elim P
end Zx
namespace Zx
open PySem PySem.Spec L2
def idxD (x y : PyData) : Option Nat := match x with
  | .list ds => if (nod (.list ds) && nod y && SeqAt.shaped (.list ds) && SeqAt.shaped y) = true then ds.findIdx? fun z => PyData.eqv z y else none
  | _ => none
def fIdx (fa fe : FE) : FE := fun sl h => (fa sl h).bind fun s h1 => match rb h1 9 s with
  | some (.list _) => (fe sl h1).bind fun t h2 => match rb h2 9 s, rb h2 9 t with
    | some x, some y => match idxD x y with
      | some j => .ok (.d (.int (j : Nat))) h2
      | none => .st
    | _, _ => .st
  | _ => .st
theorem se_idx {X : Cx} {W : WX} {o e : Expr} {fo fe : FE} {apos pos : Pos} (hu : X.A.units + 65 < cLine) (ho : SE X W o fo) (he : SE X W e fe) (hbase : attributeBase o "index" X.env (eval o X.env) = eval o X.env := by rfl)
    (hfew : ((backTo pos (starEach [e] X.env)).all (fun x => !x.1) && (backToKw pos (keywordEach [] X.env)).all (fun x => x.1.isSome)
      && decide (([e]).length + ([] : List Keyword).length + (if ([] : List Keyword).isEmpty then 0 else 1) < 30)) = true := by rfl)
    (hline : (apos.endLine == pos.line) = true := by rfl) (hs : starEach [e] X.env = (false, eval e X.env) :: starEach [] X.env := by rfl) (hplain : (backTo pos (starEach [] X.env)).any (·.1) = false := by rfl) :
    SE X W (.Call (.Attribute o "index" apos) [e] [] pos) (fIdx fo fe) :=
  PE.imp (pe_bm PySem.F.plainAttrs_list PySem.F.slot_list_index PySem.F.type_list_index (mt_indexD hu) ho (pa_cons he pa_nil hs) hbase hfew hline hs hplain) (by
    rintro σ H Q ⟨en, w, sl, h, eK, S, P⟩
    refine ⟨en, w, sl, h, eK, S, Po.bind P fun s h1 v w1 H1 l1 S1 r1 P1 => ?_⟩
    split at P1
    · rename_i ds0 hb
      have q0 := rb_ok S1.toSimH 9 s v _ r1 hb
      unfold Rp at q0
      obtain ⟨a, vs, rfl, q, rl⟩ := q0
      refine ⟨.inl ⟨rfl, _, .of q⟩, ?_⟩
      refine ⟨en, w1, sl, h1, eK, S1, Po.bind P1 fun t h2 y w2 H2 l2 S2 r2 P2 => ?_⟩
      split at P2
      · rename_i x' d h1' h2'
        unfold idxD at P2
        split at P2
        · rename_i j hj
          split at hj
          · rename_i ds
            split at hj
            · rename_i c
              simp only [Bool.and_eq_true] at c
              obtain ⟨⟨⟨c1, c2⟩, c3⟩, c4⟩ := c
              obtain ⟨hlt, hz, hno⟩ := List.findIdx?_eq_some_iff_getElem.mp hj
              refine ⟨a, y, d, ds, j, ds[j], rfl, rfl, ?_, ?_, c3, c4, List.getElem?_eq_getElem hlt, hz, fun m z' hm e => ?_, P2.int S2⟩
              · rw [← eK.1]; exact Rp.dp _ _ c1 (rb_ok S2.toSimH 9 s _ _ (RS.mono l2 r1) h1')
              · rw [← eK.1]; exact Rp.dp _ _ c2 (rb_ok S2.toSimH 9 t y _ r2 h2')
              · obtain ⟨hm2, rfl⟩ := List.getElem?_eq_some_iff.mp e
                have := hno m hm
                simpa using this
            · cases hj
          · cases hj
        · exact False.elim P2
      · exact False.elim P2
    · exact False.elim P1)
def forRE (sl0 : List SV) (L : Nat) (bd : Bd) (body : FS) (n : Nat) : Nat → Nat → List SV → AH → O
  | 0, i, sl, h => match h[n]? with
    | some (some (.lst xs)) => if xs.length ≤ i then .nx sl h else .st
    | _ => .st
  | k + 1, i, sl, h => match h[n]? with
    | some (some (.lst xs)) => match xs[i]? with
      | none => .nx sl h
      | some s => match bd.go (.two (.d (.int (i : Nat))) s) sl with
        | none => .st
        | some sl1 => aft sl0 L (body sl1 h) (forRE sl0 L bd body n k (i + 1))
    | _ => .st
def sForE (fa : FE) (bd : Bd) (body : FS) : FS := fun sl h => (fa sl h).thn sl fun s h1 => match s with
  | .r n => match h1[n]? with
    | some (some (.lst xs)) => forRE sl h1.length bd body n xs.length 0 sl h1
    | _ => .st
  | _ => .st
section
variable {X : Cx} {W : WX} {en : En} {w w0 : Wd} {D : Ends} {σ : St} {H : Hp} {sl sl0 : List SV} {h : AH}
end
end Zx
namespace L2N
open PySem PySem.Spec PyProof.Rows L2
inductive HdsAs (X : Cx) (n : Str) : List ExceptHandler → List (Value × (Addr → Value → Option Addr → TS)) → Prop
  | nil : HdsAs X n [] []
  | cons {x : Str} {c : Value} {ts : Addr → Value → Option Addr → TS} {b₀ : Stmt} {suite : List Stmt} {np pos' : Pos} {hds : List ExceptHandler} {l : List (Value × (Addr → Value → Option Addr → TS))} (hc : Names X x c)
      (hsu : ∀ (a : Addr) (oe : Obj) (cls : Value) (d : Option Addr) (pn : List (Addr × Obj)), Zn cls d oe → (∃ vs, oe.data = .fields vs) → PSs (X.suite a ((a, oe) :: pn)) (b₀ :: suite) (ts a cls d)) (r : HdsAs X n hds l) :
      HdsAs X n (.ExceptHandler (some (.Name x np)) (some n) (b₀ :: suite) pos' :: hds) ((c, ts) :: l)
section
variable {X : Cx} {n : Str} {i : Nat} {body : List Stmt} {h₀ : ExceptHandler} {hds : List ExceptHandler} {l : List (Value × (Addr → Value → Option Addr → TS))} {pos : Pos} {tb : WX → TS} {Wout : WX}
end
end L2N
namespace Zx
open PySem PySem.Spec L2
def orK : Option Bool → Option Bool → Option Bool
  | some true, _ => some true
  | some false, b => b
  | none, _ => none
def pickF (o : Option Bool) (f g : FS) : FS := match o with
  | some true => f
  | _ => g
section
variable {X : Cx} {x1 x2 n : Str} {cv1 cv2 : Value} {i : Nat} {body s1 s2 : List Stmt} {b1 b2 : Stmt} {np1 np2 pp1 pp2 pos : Pos} {fb : FS} {fh1 fh2 : Str → FS} {Wout : WX} {k1 k2 : Str → Option Bool}
end
end Zx
namespace Zx
open PySem PySem.Spec L2
end Zx
namespace Zx
open PySem PySem.Spec L2
open PyProof.Rows (envOfC)
structure FnG (P : Program) (w : World) (K : PySem.W.Frag) (mg : Str → Option Value) (base : Heap) (k : Nat) (f : Addr) (fd : FuncData) (ps : List Str) (sp : Sp) : Prop where
  len : ∀ vs H Q E, sp vs H Q E → vs.length = ps.length
  go : ∀ (A : Around) (outer : List Env) (s : Shared) (H : Hp) (args : Args) (us : List Value) (vs : List V) (Q : VK) (E : XK), Room k A → A.guards = some [] → Env0 P w K mg base A outer s H → BindsTo s fd args (ps.zip us) → Vals vs us → sp vs H Q E →
    codeAny (model P w) A (.call (.ref f) args) (CR (L2N.CX P w) outer P w H s Q E) s
section
variable {P : Program} {w : World} {K : PySem.W.Frag} {mg : Str → Option Value} {base : Heap}
end
/-- a def of that kind, by its name -/
structure CalG (P : Program) (w : World) (K : PySem.W.Frag) (mg : Str → Option Value) (base : Heap) (x : Str) (k : Nat) (ms : List Md) (φ : List PyData → R SV) : Prop where
  ex : ∃ f fd ps, FnG P w K mg base k f fd ps (spD w K mg ms φ) ∧ mg x = some (.ref f) ∧ PySem.W.keepIn K (.ref f) = true ∧ Binds K fd ps []
section
variable {X : Cx} {W : WX} {a : Expr} {es : List Expr} {fa : FA} {pos p : Pos} {x : Str} {k : Nat} {ms : List Md} {φ : List PyData → R SV}
end
end Zx
namespace Zx
open PySem PySem.Spec L2
open PyProof.Rows
section
variable {P : Program} {w : World} {K : PySem.W.Frag} {mg mb : Str → Option Value} {k : Nat} {fa a : Addr} {fd : FuncData} {x : Str} {sp : Sp} {s₁ : Shared} {vs : List Value} {ns : List Int}
end
end Zx
namespace Zx
open PySem PySem.Spec L2
def okR (d : PyData) : Bool := nod d && d.showable && !d.hasDict && decide (d.depth ≤ 60) && decide (d.shown.length ≤ 16777216) && PyData.strOk d.shown
section
variable {X : Cx} {W : WX}
def dG2 (x y z : SV) (h : AH) : R SV := match keyOf y, dctR h x with
  | some k, some kvs => match valS kvs k with
    | some s => .ok s h
    | none => .ok z h
  | _, _ => .st
def fDG2 (fo fi fx : FE) : FE := fun sl h => (fo sl h).bind fun x h1 => if (dctR h1 x).isSome = true then (fi sl h1).bind fun y h2 => (fx sl h2).bind fun z h3 => dG2 x y z h3 else .st
theorem se_dg2 {o e f : Expr} {fo fi fx : FE} {apos cpos : Pos} (hu : X.A.units + 1 < cLine) (ho : SE X W o fo) (he : SE X W e fi) (hf : SE X W f fx) (m : M2 X o "get" apos e f cpos) : SE X W (.Call (.Attribute o "get" apos) [e, f] [] cpos) (fDG2 fo fi fx) := PE.imp (pe_dget2 hu ho he hf m) (by
  rintro σ H Q ⟨en, w, sl, h, eK, S, P⟩
  refine ⟨en, w, sl, h, eK, S, Po.bind P fun x h1 xv w1 H1 l1 S1 r1 P1 => ?_⟩
  split at P1
  · rename_i hs
    obtain ⟨kvs0, hd0⟩ := Option.isSome_iff_exists.mp hs
    obtain ⟨c, kws, rfl, hH, d⟩ := dctR_ok S1.toSimH r1 hd0
    refine ⟨c, rfl, .inl ⟨kws, hH⟩, ?_⟩
    refine ⟨en, w1, sl, h1, eK, S1, Po.bind P1 fun y h2 yv w2 H2 l2 S2 r2 P2 => ?_⟩
    refine ⟨en, w2, sl, h2, eK, S2, Po.bind P2 fun z h3 zv w3 H3 l3 S3 r3 P3 => ?_⟩
    unfold dG2 at P3
    split at P3
    · rename_i k kvs hk hd
      obtain ⟨c', kws', e', hH', d'⟩ := dctR_ok S3.toSimH (RS.mono (l2.trans l3) r1) hd
      cases e'
      cases keyOf_ok (RS.mono l3 r2) hk
      rcases DR.val k d' with ⟨e1, e2⟩ | ⟨v, s', e1, e2, r⟩
      · rw [e2] at P3
        exact ⟨none, .inl ⟨kws', k, hH', rfl, e1.symm⟩, P3 zv w3 H3 (Wd.le.refl _) S3 r3⟩
      · rw [e2] at P3
        exact ⟨some v, .inl ⟨kws', k, hH', rfl, e1.symm⟩, P3 v w3 H3 (Wd.le.refl _) S3 r⟩
    · exact False.elim P3
  · exact False.elim P1)
end
end Zx
namespace Zx
open PySem PySem.Spec L2
def dTwo (n : Nat) (k v k2 v2 : SV) (h : AH) : R SV := match keyOf k, keyOf k2, v, v2, h[n]? with
  | some a, some b, .d i, .d j, some (some (.dct [])) => if a = b then .st else .ok (.r n) (h.set n (some (.dct [(a, .d i), (b, .d j)])))
  | _, _, _, _, _ => .st
section
variable {X : Cx} {W : WX} {a b c d : Expr} {fa fb fc fd : FE} {pos : Pos}
end
end Zx
namespace Zx
open PySem PySem.Spec L2
def fmt1 (s : SV) (h : AH) : R SV := match s with
  | .d (.str x) => if x.length ≤ sizeLine then .ok (.d (.str x)) h else .st
  | .d (.int i) => if i.natAbs.log2 < 1920 then .ok (.d (.str (toString i))) h else .st
  | _ => .st
def fFmt (fa : FE) : FE := fun sl h => (fa sl h).bind fmt1
def js1 (acc : Str) (s : SV) (k : Str → R SV) : R SV := match s with
  | .d (.str y) => if (acc ++ y).length ≤ sizeLine then k (acc ++ y) else .st
  | _ => .st
def jsR : List FE → Str → List SV → AH → R SV
  | [], acc, _, h => .ok (.d (.str acc)) h
  | f :: fs, acc, sl, h => (f sl h).bind fun s h1 => js1 acc s fun a => jsR fs a sl h1
def fJs (fs : List FE) : FE := fun sl h => jsR fs Str.empty sl h
section
variable {X : Cx} {W : WX} {a : Expr} {fa : FE} {pos : Pos}
inductive SJ (X : Cx) (W : WX) : List Expr → List FE → Prop where
  | nil : SJ X W [] []
  | cons {e : Expr} {f : FE} {es : List Expr} {fs : List FE} (h : SE X W e f) (r : SJ X W es fs) : SJ X W (e :: es) (f :: fs)
end
end Zx
namespace Zx
open PySem PySem.Spec L2
def lookS : List (Str × Str) → Str → Option Str
  | [], _ => none
  | (k, v) :: t, z => if (k == z) = true then some v else lookS t z
def fKIn (neg : Bool) (tbl : List (Str × Str)) (fa : FE) : FE := fun sl h => (fa sl h).bind fun s h1 => match s with
  | .d (.str z) => .ok (.d (.bool (neg ^^ (lookS tbl z).isSome))) h1
  | _ => .st
def fKIx (tbl : List (Str × Str)) (fa : FE) : FE := fun sl h => (fa sl h).bind fun s h1 => match s with
  | .d (.str z) => match lookS tbl z with
    | some v => .ok (.d (.str v)) h1
    | none => .st
  | _ => .st
def fKGet (tbl : List (Str × Str)) (fa fb : FE) : FE := fun sl h => (fa sl h).bind fun s h1 => (fb sl h1).bind fun s2 h2 => match s with
  | .d (.str z) => match lookS tbl z with
    | some v => .ok (.d (.str v)) h2
    | none => .ok s2 h2
  | _ => .st
section
variable {X : Cx} {W : WX} {a b : Expr} {fa fb : FE} {pos p apos cpos : Pos} {x : Str} {tbl : List (Str × Str)}
end
end Zx
namespace Zx
open PySem PySem.Spec L2
def tupOf (h : AH) : SV → Option (List SV)
  | .d (.tuple ds) => some (ds.map SV.d)
  | .vw (.tuple ds) => some (ds.map mkv)
  | .r n => match h[n]? with
    | some (some (.tup xs)) => some xs
    | _ => none
  | _ => none
def mkTp (ss : List SV) (h : AH) : R SV := match allD ss with
  | some ds => .ok (.d (.tuple ds)) h
  | none => .ok (.r h.length) (h ++ [some (.tup ss)])
def fSlU (fe : FE) (fl fh : List SV → AH → R (Option Int)) : FE := fun sl h => (fe sl h).bind fun s h1 => (fl sl h1).bind fun lo h2 => (fh sl h2).bind fun hi h3 => match tupOf h3 s with
  | some xs => if (HT.sIx xs.length 0 lo = 0 ∧ HT.sIx xs.length xs.length hi = xs.length) then .st else mkTp (cutX xs lo hi) h3
  | none => .st
def iTupU (f : FE) : List SV → AH → R Src := fun sl h => (f sl h).bind fun s h1 => match tupOf h1 s with
  | some xs => .ok (.cn (xs.map It1.one)) h1
  | none => .st
section
variable {X : Cx} {W : WX} {e tg : Expr} {fe : FE} {p2 pos : Pos}
end
def iAnyS (f : FE) : List SV → AH → R Src := fun sl h => (f sl h).bind fun s h1 => match tupOf h1 s with
  | some xs => .ok (.cn (xs.map It1.one)) h1
  | none => iSeq (fun _ _ => .ok s h1) sl h1
end Zx
namespace Zx
open PySem PySem.Spec L2
inductive CP (X : Cx) (W : WX) : List (Option Expr) → List Expr → List (L2.Key × PyData) → Prop
  | nil : CP X W [] [] []
  | cons {k v : Expr} {key : L2.Key} {x : PyData} {ks : List (Option Expr)} {vs : List Expr} {l : List (L2.Key × PyData)} (hk : SE X W k (fC (kD key))) (hv : SE X W v (fC x)) (r : CP X W ks vs l) : CP X W (some k :: ks) (v :: vs) ((key, x) :: l)
theorem CP.len {X : Cx} {W : WX} : ∀ {ks : List (Option Expr)} {vs : List Expr} {l : List (L2.Key × PyData)}, CP X W ks vs l → ks.length = l.length ∧ vs.length = l.length ∧ ks.all (·.isSome) = true
  | _, _, _, .nil => ⟨rfl, rfl, rfl⟩
  | _, _, _, .cons _ _ r => by
    obtain ⟨a, b, c⟩ := r.len
    exact ⟨by rw [List.length_cons, List.length_cons, a], by rw [List.length_cons, List.length_cons, b], by rw [List.all_cons, c]; rfl⟩
def RlC (en : En) (w : Wd) : List (L2.Key × V) → List (L2.Key × PyData) → Prop
  | [], [] => True
  | q :: qs, p :: ps => q.1 = p.1 ∧ RS en w q.2 (.d p.2) ∧ RlC en w qs ps
  | _, _ => False
theorem RlC.mono {en : En} {w w' : Wd} (k : w.le w') : ∀ {qs : List (L2.Key × V)} {ps : List (L2.Key × PyData)}, RlC en w qs ps → RlC en w' qs ps
  | [], [], _ => trivial
  | q :: qs, p :: ps, ⟨a, b, c⟩ => ⟨a, RS.mono k b, RlC.mono k c⟩
  | [], _ :: _, h => h.elim
  | _ :: _, [], h => h.elim
theorem RlC.fst {en : En} {w : Wd} : ∀ {qs : List (L2.Key × V)} {ps : List (L2.Key × PyData)}, RlC en w qs ps → qs.map Prod.fst = ps.map Prod.fst
  | [], [], _ => rfl
  | q :: qs, p :: ps, ⟨a, b, c⟩ => by rw [List.map_cons, List.map_cons, a, c.fst]
  | [], _ :: _, h => h.elim
  | _ :: _, [], h => h.elim
theorem RlC.snd {en : En} {w : Wd} : ∀ {qs : List (L2.Key × V)} {ps : List (L2.Key × PyData)}, RlC en w qs ps → RSL en w (qs.map Prod.snd) (ps.map fun p => SV.d p.2)
  | [], [], _ => rfl
  | q :: qs, p :: ps, ⟨a, b, c⟩ => ⟨q.2, qs.map Prod.snd, rfl, b, c.snd⟩
  | [], _ :: _, h => h.elim
  | _ :: _, [], h => h.elim
end Zx
namespace Zx
open PySem PySem.Spec L2
abbrev bk (X : Cx) (s : Shared) (H : Hp) (scope : Scope) (cenv : Env) (fp : List Addr) (x : Value → Shared → Prop) : Cx := { X.blk s H scope cenv fp with xe := x }
section
variable {X : Cx}
end
end Zx
namespace Zx
open PySem PySem.Spec L2
section
variable {X : Cx}
variable {W : WX} {elt tg iter : Expr} {ifs : List Expr} {scope : Scope} {own : List (Str × Nat)} {pos spos : Pos} {wi : TI} {g : TG} {tt : TT} {te : WX → TE}
end
def lcOneZ (L : Nat) (bd : Bd) (tt : FT) (fe : FE) (slw : List SV) (it : It1) (h : AH) (k : AH → R Unit) : R Unit := match bd.go it slw with
  | none => .st
  | some sl1 => (nrz (tt sl1 h)).bind fun b h1 => if b = true then (fe sl1 h1).bind fun s h2 => lcPut L slw s h2 k else k (norm [] (L + 1) slw h1).2
def lcCZ (L : Nat) (bd : Bd) (tt : FT) (fe : FE) (slw : List SV) : List It1 → AH → R Unit
  | [], h => .ok () h
  | it :: its, h => lcOneZ L bd tt fe slw it h (lcCZ L bd tt fe slw its)
section
variable {X : Cx} {W : WX} {en : En} {w1 w : Wd} {σ : L2.St} {H : Hp} {sl : List SV} {h : AH} {D : Addr} {Q : VK}
end
section
variable {X : Cx} {W : WX} {elt tg iter : Expr} {ifs : List Expr} {scope : Scope} {own : List (Str × Nat)} {pos spos : Pos} {fi : List SV → AH → R Src} {bd : Bd} {g : TG} {tt : FT} {fe f : FE}
end
end Zx
namespace Zx
open PySem PySem.Spec L2
mutual
/-- the key that a datum is -/
def kN : PyData → Option NestedKey
  | .none => some .none
  | .int i => some (.num i)
  | .str x => some (.text x)
  | .tuple ds => (kNs ds).map NestedKey.tup
  | .bool _ => none
  | .list _ => none
  | .dict _ => none
def kNs : List PyData → Option (List NestedKey)
  | [] => some []
  | d :: ds => match kN d with
    | some k => match kNs ds with
      | some ks => some (k :: ks)
      | none => none
    | none => none
end
mutual
theorem kN_data : ∀ (x : PyData) (k : NestedKey), kN x = some k → k.data = x
  | .none, k, e => by unfold kN at e; cases e; rfl
  | .int i, k, e => by unfold kN at e; cases e; rfl
  | .str i, k, e => by unfold kN at e; cases e; rfl
  | .tuple ds, k, e => by
    unfold kN at e
    cases q : kNs ds with
    | none => rw [q] at e; cases e
    | some ks =>
      rw [q] at e
      cases e
      unfold NestedKey.data
      rw [kNs_data ds ks q]
  | .bool _, k, e => by unfold kN at e; cases e
  | .list _, k, e => by unfold kN at e; cases e
  | .dict _, k, e => by unfold kN at e; cases e
theorem kNs_data : ∀ (xs : List PyData) (ks : List NestedKey), kNs xs = some ks → NestedKey.datas ks = xs
  | [], ks, e => by unfold kNs at e; cases e; rfl
  | d :: ds, ks, e => by
    unfold kNs at e
    cases q : kN d with
    | none => rw [q] at e; cases e
    | some k =>
      rw [q] at e
      dsimp only at e
      cases q2 : kNs ds with
      | none => rw [q2] at e; cases e
      | some ks2 =>
        rw [q2] at e
        cases e
        unfold NestedKey.datas
        rw [kN_data d k q, kNs_data ds ks2 q2]
end
mutual
theorem data_kN : ∀ k : NestedKey, kN k.data = some k
  | .none => by unfold NestedKey.data kN; rfl
  | .num i => by unfold NestedKey.data kN; rfl
  | .text x => by unfold NestedKey.data kN; rfl
  | .tup ks => by unfold NestedKey.data kN; rw [datas_kN ks]; rfl
theorem datas_kN : ∀ ks : List NestedKey, kNs (NestedKey.datas ks) = some ks
  | [] => by unfold NestedKey.datas kNs; rfl
  | k :: ks => by unfold NestedKey.datas kNs; rw [data_kN k, datas_kN ks]
end
section
variable {X : Cx} {pins : List (Addr × Obj)} {σ : St} {H : Hp} {s : Shared}
mutual
theorem rp_is (I : Inv X pins σ H s) : ∀ (k : NestedKey) (v : V) (u : Value), Rp X.K H v k.data → RelV v u → NestedIs s.heap k u
  | .none, v, u, r, q => by
    unfold NestedKey.data Rp at r; subst r
    cases (show u = Value.none from q); exact .none
  | .num i, v, u, r, q => by
    unfold NestedKey.data Rp at r; subst r
    obtain ⟨t, rfl⟩ := (show ∃ t, u = Value.int i t from q); exact .int i t
  | .text x, v, u, r, q => by
    unfold NestedKey.data Rp at r; subst r
    obtain ⟨t, rfl⟩ := (show ∃ t, u = Value.str x t from q); exact .text x t
  | .tup ks, v, u, r, q => by
    unfold NestedKey.data Rp at r
    obtain ⟨a, xs, rfl, hq, rl⟩ := r
    cases (show u = Value.ref a from q)
    obtain ⟨its, rv, ⟨o, ho, hc, n, hd⟩, _⟩ := I.tuple hq
    exact .tup ho hc hd (by simpa using rps_is I ks xs its rl rv)
theorem rps_is (I : Inv X pins σ H s) : ∀ (ks : List NestedKey) (vs : List V) (us : List Value), RpL X.K H vs (NestedKey.datas ks) → Vals vs us → NestedAll s.heap ks us
  | [], vs, us, r, q => by
    unfold NestedKey.datas RpL at r; subst r
    cases q; exact .nil
  | k :: ks, vs, us, r, q => by
    unfold NestedKey.datas RpL at r
    obtain ⟨x, ys, rfl, r1, r2⟩ := r
    cases q with
    | cons q1 q2 => exact .cons (rp_is I k x _ r1 q1) (rps_is I ks ys _ r2 q2)
end
abbrev Row := NestedKey × Addr × V
def RowsK (K : PySem.W.Frag) (H : Hp) (rows : List Row) : Prop := ∀ r ∈ rows, r.1.depth ≤ 8 ∧ Rp K H (.ref r.2.1) r.1.data
def KeyAt (K : PySem.W.Frag) (H : Hp) (y : V) (k : NestedKey) (b : Addr) : Prop := y = .ref b ∧ k.depth ≤ 8 ∧ Rp K H y k.data
abbrev PrN : List Row → List (NestedKey × Addr × Value) → Prop := Paired (fun (p : Row) (q : NestedKey × Addr × Value) => p.1 = q.1 ∧ p.2.1 = q.2.1 ∧ RelV p.2.2 q.2.2)
def valN (rows : List Row) (k : NestedKey) : Option V := (rows.find? fun r => decide (r.1 = k)).map fun r => r.2.2
def putAtN (k : NestedKey) (v : V) (r : Row) : Row := if r.1 = k then (r.1, r.2.1, v) else r
def storN (rows : List Row) (k : NestedKey) (b : Addr) (v : V) : List Row := if (valN rows k).isSome = true then rows.map (putAtN k v) else rows ++ [(k, b, v)]
theorem prN_val : ∀ {rows : List Row} {xs : List (NestedKey × Addr × Value)} (k : NestedKey), PrN rows xs → RelO (valN rows k) ((atKey xs k).map (·.2))
  | _, _, k, .nil => True.intro
  | _, _, k, @Paired.cons _ _ _ p q ps qs h t => by
    unfold valN atKey
    rw [List.find?_cons, List.find?_cons]
    by_cases e : p.1 = k
    · rw [decide_eq_true e, decide_eq_true (h.1.symm.trans e)]
      exact h.2.2
    · rw [decide_eq_false e, decide_eq_false (fun z => e (h.1.trans z))]
      exact prN_val k t
theorem prN_len : ∀ {rows : List Row} {xs : List (NestedKey × Addr × Value)}, PrN rows xs → rows.length = xs.length := fun h => Paired.length h
theorem prN_map {k : NestedKey} {v : V} {r : Value} (rv : RelV v r) : ∀ {rows : List Row} {xs : List (NestedKey × Addr × Value)}, PrN rows xs → PrN (rows.map (putAtN k v)) (xs.map (putAt k r))
  | _, _, .nil => .nil
  | _, _, @Paired.cons _ _ _ p q ps qs h t => by
    rw [List.map_cons, List.map_cons]
    refine .cons ?_ (prN_map rv t)
    unfold putAtN putAt
    by_cases e : p.1 = k
    · rw [if_pos e, if_pos (h.1.symm.trans e)]
      exact ⟨h.1, h.2.1, rv⟩
    · rw [if_neg e, if_neg (fun z => e (h.1.trans z))]
      exact h
theorem prN_app : ∀ {a b : List Row} {c d : List (NestedKey × Addr × Value)}, PrN a c → PrN b d → PrN (a ++ b) (c ++ d)
  | _, _, _, _, .nil, q => q
  | _, _, _, _, .cons h t, q => .cons h (prN_app t q)
theorem prN_put {k : NestedKey} {b : Addr} {v : V} {r : Value} (rv : RelV v r) {rows : List Row} {xs : List (NestedKey × Addr × Value)} (h : PrN rows xs) : PrN (storN rows k b v) (storedH xs k b r) := by
  have e := (prN_val k h).isSome_eq
  rw [Option.isSome_map] at e
  unfold storN storedH
  rw [e]
  split
  · exact prN_map rv h
  · exact prN_app h (.cons ⟨rfl, rfl, rv⟩ .nil)
theorem storN_len {rows : List Row} {k : NestedKey} {b : Addr} {v : V} : (storN rows k b v).length ≤ rows.length + 1 := by
  unfold storN
  split
  · rw [List.length_map]; omega
  · rw [List.length_append]; exact Nat.le_refl _
theorem prN_is (I : Inv X pins σ H s) : ∀ {rows : List Row} {xs : List (NestedKey × Addr × Value)}, PrN rows xs → RowsK X.K H rows → ∀ x ∈ xs, (nestedKind X.prog X.w).is s.heap x.1 x.2.1
  | _, _, .nil, _, x, hx => nomatch hx
  | _, _, @Paired.cons _ _ _ p q ps qs h t, rk, x, hx => by
    rcases List.mem_cons.mp hx with rfl | hx
    · obtain ⟨d, r⟩ := rk p List.mem_cons_self
      rw [h.1, h.2.1] at *
      exact ⟨rp_is I _ _ _ r rfl, d⟩
    · exact prN_is I t (fun r hr => rk r (List.mem_cons_of_mem _ hr)) x hx
theorem nd_rd (I : Inv X pins σ H s) {a : Addr} {rows : List Row} (e : H a = some (.ext (NDx X.w a rows))) (rk : RowsK X.K H rows) : rows.length ≤ sizeLine ∧ (a == sysModules) = false ∧
    ∃ xs, PrN rows xs ∧ s.heap.DictOfH (nestedKind X.prog X.w) a xs := by
  obtain ⟨⟨z, hd, xs, pr, o, es, ep, h1, h2, h3, h4, h5⟩, _, _⟩ := (show ObjOk X.prog X.w H s.heap a (.ext (NDx X.w a rows)) from I.hok a _ e)
  exact ⟨z, hd, xs, pr, o, es, ep, h1, h2, h3, h4, prN_is I pr rk, h5⟩
theorem nd_ok {P : Program} {w : World} {H' : Hp} {h' : Heap} {a : Addr} {rows : List Row} {xs : List (NestedKey × Addr × Value)} (z : rows.length ≤ sizeLine) (hd : (a == sysModules) = false) (pr : PrN rows xs) (dd : h'.DictOfH (nestedKind P w) a xs) :
    ObjOk P w H' h' a (.ext (NDx w a rows)) := by
  obtain ⟨o, es, ep, h1, h2, h3, h4, _, h5⟩ := dd
  refine ⟨⟨z, hd, xs, pr, o, es, ep, h1, h2, h3, h4, h5⟩, ⟨o, h1⟩, fun g1 g2 ⟨z, hd, xs, pr, o, es, ep, h1, h2, h3, h4, h5⟩ k => ⟨z, hd, xs, pr, o, es, ep, k o h1, h2, h3, h4, h5⟩⟩
def NGet (X : Cx) (H : Hp) (a : Addr) (y : V) (r : Option V) : Prop := ∃ rows k b, H a = some (.ext (NDx X.w a rows)) ∧ RowsK X.K H rows ∧ KeyAt X.K H y k b ∧ r = valN rows k
def NPut (X : Cx) (H : Hp) (a : Addr) (y v : V) (H' : Hp) : Prop := ∃ rows k b, H a = some (.ext (NDx X.w a rows)) ∧ RowsK X.K H rows ∧ KeyAt X.K H y k b ∧ rows.length < sizeLine ∧ H' = upd H a (.ext (NDx X.w a (storN rows k b v)))
variable {a : Addr} {y v : V} {u r : Value} {o : Option V} {A : Around} {E : Value → Shared → Prop}
theorem n_room (hu : A.units + 9 < cLine) : (nestedKind X.prog X.w).room A.in1 := by
  show A.in1.units + 8 < cLine
  rw [Around.in1_units]; omega
theorem n_getItem {Q : Value → Shared → Prop} (hu : A.units + 9 < cLine) (I : Inv X pins σ H s) (g : NGet X H a y (some v)) (ry : RelV y u) (h : ∀ w' s', Inv X pins σ H s' → RelV v w' → Q w' s') :
    wpAny (model X.prog X.w) A (getItem (.ref a) u) Q E s := by
  obtain ⟨rows, k, b, e, rk, ⟨ey, d, rp⟩, l⟩ := g
  have ki := rp_is I k y u rp ry
  subst ey
  cases (show u = Value.ref b from ry)
  obtain ⟨z, hd, xs, pr, dd⟩ := nd_rd I e rk
  obtain ⟨w', hw, rw'⟩ := RelO.some_of (v := v) (o := (atKey xs k).map (·.2)) (by rw [l]; exact prN_val k pr)
  obtain ⟨p, hp, hp2⟩ := Option.map_eq_some_iff.mp hw
  refine wpAny_getItem_heap (n_room hu) ⟨ki, d⟩ dd hp ?_
  rw [hp2]
  exact h w' _ (I.tok _) rw'
theorem n_notIn {Q : Value → Shared → Prop} (hu : A.units + 9 < cLine) (I : Inv X pins σ H s) (g : NGet X H a y o) (ry : RelV y u) (h : ∀ s', Inv X pins σ H s' → Q (.bool (!o.isSome)) s') :
    wpAny (model X.prog X.w) A (compareOp .NotIn u (.ref a)) Q E s := by
  obtain ⟨rows, k, b, e, rk, ⟨ey, d, rp⟩, l⟩ := g
  have ki := rp_is I k y u rp ry
  subst ey
  cases (show u = Value.ref b from ry)
  obtain ⟨z, hd, xs, pr, dd⟩ := nd_rd I e rk
  show wpAny _ _ (do return .bool (!(← contains (.ref a) (.ref b)))) Q E s
  refine wpAny_bind (wpAny_contains_heap (n_room hu) ⟨ki, d⟩ hd dd (wpAny_pure ?_))
  have q := (prN_val k pr).isSome_eq
  rw [Option.isSome_map] at q
  rw [← q, ← l]
  exact h _ (I.tok _)
theorem n_setItem {H' : Hp} {Q : Unit → Shared → Prop} (hu : A.units + 9 < cLine) (I : Inv X pins σ H s) (g : NPut X H a y v H') (ry : RelV y u) (rv : RelV v r) (h : ∀ s', Inv X pins σ H' s' → Q () s') :
    wpAny (model X.prog X.w) A (setItem (.ref a) u r) Q E s := by
  obtain ⟨rows, k, b, e, rk, ⟨ey, d, rp⟩, l, eH⟩ := g
  have ki := rp_is I k y u rp ry
  subst ey eH
  cases (show u = Value.ref b from ry)
  obtain ⟨z, hd, xs, pr, dd⟩ := nd_rd I e rk
  have hz : xs.length ≤ sizeLine := by rw [← prN_len pr]; exact z
  refine wpAny_setItem_heap (hsz := hz) (n_room hu) ⟨ki, d⟩ dd fun h' dd' hs => h _ ?_
  have he : ∃ q, h'.get? a = some q := let ⟨q, _, _, hq, _⟩ := dd'; ⟨q, hq⟩
  exact d_write I (by rw [e]; exact True.intro) hs he (nd_ok (by have := storN_len (rows := rows) (k := k) (b := b) (v := v); omega) hd (prN_put rv pr) dd')
end
def tNGet (X : Cx) (td ty : TE) : TE := fun σ H Q => td σ H fun x H1 => ty σ H1 fun y H2 => ∃ a v, x = .ref a ∧ NGet X H2 a y (some v) ∧ Q v H2
def tNIn (X : Cx) (neg : Bool) (ty td : TE) : TE := fun σ H Q => ty σ H fun y H1 => td σ H1 fun x H2 => ∃ a o, x = .ref a ∧ NGet X H2 a y o ∧ Q (.bl (neg ^^ o.isSome)) H2
def sNPut (X : Cx) (td ty tv : TE) : TS := fun D σ H => tv σ H fun v H1 => td σ H1 fun x H2 => ty σ H2 fun y H3 => ∃ a H4, x = .ref a ∧ NPut X H3 a y v H4 ∧ D.nx σ H4
def tNew (X : Cx) : TE := fun _ H Q => ∀ p, H p = none → Q (.ref p) (upd H p (.ext (NDx X.w p [])))
section
variable {X : Cx} {o i e value : Expr} {pos pos' tpos : Pos} {td ty tv : TE}
theorem pe_nget (hu : X.A.units + 9 < cLine) (ho : PE X o td) (hi : PE X i ty) (hs : NoSl i) : PE X (.Subscript o i pos) (tNGet X td ty) := by
  refine ⟨fun pins s σ H Q I h => ?_⟩
  refine subD_of PySem.F.slot_dict_getitem.lookup hs (thn (ho.run pins s σ H _ I h) fun u s1 ⟨x, H1, I1, rx, q1⟩ => thn (hi.run pins s1 σ H1 _ I1 q1) fun iv s2 ⟨y, H2, I2, ry, a, v, ex, g, q2⟩ => ?_)
  subst ex
  obtain rfl : u = Value.ref a := rx
  have ti : s2.TypeIs (.ref a) "dict" := by
    obtain ⟨rows, k, b, e, rk, _⟩ := g
    obtain ⟨_, _, xs, _, dd⟩ := nd_rd I2 e rk
    exact dd.typeIs
  exact ⟨ti, n_getItem hu I2 g ry fun w' s3 I3 rw' => ⟨v, H2, I3, rw', q2⟩⟩
theorem pc_nnotin (hu : X.A.units + 9 < cLine) (hi : PE X i ty) (ho : PE X o td) : PC X .NotIn i o (tNIn X true ty td) := by
  refine ⟨fun pins s σ H Q I h => ?_⟩
  refine thn (hi.run pins s σ H _ I h) fun iv s1 ⟨y, H1, I1, ry, q1⟩ => thn (ho.run pins s1 σ H1 _ I1 q1) fun u s2 ⟨x, H2, I2, rx, a, ov, ex, g, q2⟩ => ?_
  subst ex
  obtain rfl : u = Value.ref a := rx
  exact n_notIn hu I2 g ry fun s3 I3 => ⟨.bl (!ov.isSome), H2, I3, rfl, by simpa using q2⟩
theorem ps_nput (hu : X.A.units + 9 < cLine) (ho : PE X o td) (hi : PE X i ty) (hv : PE X value tv) (hs : swapsWith value (some (.Subscript o i pos')) pos.line X.env = pure false) :
    PS X (.Assign [.Subscript o i pos'] value pos) (sNPut X td ty tv) := by
  refine ⟨fun pins s σ H D I h => ?_⟩
  refine wpAny_Assign_Subscript (thn (hv.run pins s σ H _ I h) fun r s1 ⟨v, H1, I1, rv, q1⟩ => thn (ho.run pins s1 σ H1 _ I1 q1) fun u s2 ⟨x, H2, I2, rx, q2⟩ => thn (hi.run pins s2 σ H2 _ I2 q2) fun iv s3 ⟨y, H3, I3, ry, a, H4, ex, g, q3⟩ => ?_) hs
  subst ex
  obtain rfl : u = Value.ref a := rx
  exact n_setItem hu I3 g ry rv fun s4 I4 => ⟨σ, H4, I4, q3⟩
theorem nd_empty {P : Program} {w : World} {H : Hp} (h : Heap) (hb : sysModules < h.objs.size) : ObjOk P w H (h.push { cls := .type "dict", data := .dict #[] }) h.objs.size (.ext (NDx w h.objs.size [])) :=
  nd_ok (P := P) (xs := []) (Nat.zero_le _) (beq_eq_false_iff_ne.mpr (Ne.symm (Nat.ne_of_lt hb))) .nil (Heap.DictOfH.new h)
theorem pe_nnew : PE X (.Dict [] [] pos) (tNew X) := ⟨fun pins s σ H Q I h =>
  wpAny_Dict_empty ⟨.ref s.heap.objs.size, _, I.laid (a := s.heap.objs.size) (o := .ext (NDx X.w s.heap.objs.size [])) (t' := s.toks) (fun _ _ q => Heap.get?_push_of_some _ q) (Nat.le_refl _) (nd_empty s.heap I.big), rfl, h _ (I.hok.fresh (Nat.le_refl _))⟩⟩
end
def tkOf : SV → Option NestedKey
  | .d (.tuple ds) => match kN (.tuple ds) with
    | some k => if k.depth ≤ 8 then some k else none
    | none => none
  | _ => none
theorem tkOf_ok {en : En} {w : Wd} {s : SV} {v : V} {k : NestedKey} (r : RS en w v s) (e : tkOf s = some k) : ∃ b, KeyAt en.K w.F v k b := by
  unfold tkOf at e
  split at e
  · rename_i ds
    split at e
    · rename_i k' hk
      split at e
      · rename_i hd
        cases e
        have r : Rp en.K w.F v (.tuple ds) := r
        have e2 := kN_data _ _ hk
        obtain ⟨a, ea⟩ : ∃ a, v = .ref a := by
          have r2 := r
          unfold Rp at r2
          obtain ⟨a, xs, e, _⟩ := r2
          exact ⟨a, e⟩
        exact ⟨a, ea, hd, by rw [e2]; exact r⟩
      · cases e
    · cases e
  · cases e
def valT {β : Type} (kvs : List (NestedKey × β)) (k : NestedKey) : Option β := (kvs.find? fun p => decide (p.1 = k)).map Prod.snd
def setT {β : Type} (k : NestedKey) (s : β) (p : NestedKey × β) : NestedKey × β := if p.1 = k then (p.1, s) else p
def putT {β : Type} (kvs : List (NestedKey × β)) (k : NestedKey) (s : β) : List (NestedKey × β) := if (valT kvs k).isSome = true then kvs.map (setT k s) else kvs ++ [(k, s)]
def NR (en : En) (w : Wd) (rows : List Row) (kvs : List (NestedKey × SV)) : Prop := rows.map Prod.fst = kvs.map Prod.fst ∧ RSL en w (rows.map fun r => r.2.2) (kvs.map Prod.snd)
section
variable {en : En} {w : Wd} {H : Hp} {h : AH}
theorem NR.cons {p : NestedKey × SV} {r : List (NestedKey × SV)} {rows : List Row} (d : NR en w rows (p :: r)) : ∃ b v q, rows = (p.1, b, v) :: q ∧ RS en w v p.2 ∧ NR en w q r := by
  obtain ⟨e, rl⟩ := d
  cases rows with
  | nil => cases e
  | cons z q =>
    rw [List.map_cons, List.map_cons] at e
    have e1 := (List.cons.inj e).1
    have e2 := (List.cons.inj e).2
    rw [List.map_cons, List.map_cons] at rl
    obtain ⟨v, vs, hv, a, b⟩ := rl
    have h1 := (List.cons.inj hv).1
    have h2 := (List.cons.inj hv).2
    obtain ⟨z1, z2, z3⟩ := z
    dsimp only at e1 h1
    subst e1 h1
    rw [← h2] at b
    exact ⟨z2, z3, q, rfl, a, e2, b⟩
theorem NR.mk {k : NestedKey} {b : Addr} {v : V} {s : SV} {q : List Row} {r : List (NestedKey × SV)} (a : RS en w v s) (d : NR en w q r) : NR en w ((k, b, v) :: q) ((k, s) :: r) :=
  ⟨by rw [List.map_cons, List.map_cons, d.1], v, q.map (fun r => r.2.2), rfl, a, d.2⟩
theorem NR.nil {rows : List Row} (d : NR en w rows []) : rows = [] := by
  have := d.1
  cases rows with
  | nil => rfl
  | cons z q => cases this
theorem NR.len {rows : List Row} {kvs : List (NestedKey × SV)} (d : NR en w rows kvs) : rows.length = kvs.length := by
  have := congrArg List.length d.1
  rwa [List.length_map, List.length_map] at this
theorem NR.val (k : NestedKey) : ∀ {kvs : List (NestedKey × SV)} {rows : List Row}, NR en w rows kvs → (valN rows k = none ∧ valT kvs k = none) ∨ ∃ v s, valN rows k = some v ∧ valT kvs k = some s ∧ RS en w v s
  | [], rows, d => by rw [d.nil]; exact .inl ⟨rfl, rfl⟩
  | p :: r, rows, d => by
    obtain ⟨b, v, q, rfl, a, d2⟩ := d.cons
    unfold valN valT
    rw [List.find?_cons, List.find?_cons]
    by_cases h : p.1 = k
    · rw [decide_eq_true h]
      exact .inr ⟨v, p.2, rfl, rfl, a⟩
    · rw [decide_eq_false h]
      exact NR.val k d2
theorem NR.map {k : NestedKey} {v : V} {s : SV} (a : RS en w v s) : ∀ {kvs : List (NestedKey × SV)} {rows : List Row}, NR en w rows kvs → NR en w (rows.map (putAtN k v)) (kvs.map (setT k s))
  | [], rows, d => by rw [d.nil]; exact ⟨rfl, rfl⟩
  | p :: r, rows, d => by
    obtain ⟨b, u, q, rfl, c, d2⟩ := d.cons
    rw [List.map_cons, List.map_cons]
    unfold putAtN setT
    by_cases h : p.1 = k
    · rw [if_pos h, if_pos h]
      exact NR.mk a (NR.map a d2)
    · rw [if_neg h, if_neg h]
      exact NR.mk c (NR.map a d2)
theorem NR.put {k : NestedKey} {b : Addr} {v : V} {s : SV} (a : RS en w v s) {kvs : List (NestedKey × SV)} {rows : List Row} (d : NR en w rows kvs) : NR en w (storN rows k b v) (putT kvs k s) := by
  unfold storN putT
  rcases d.val k with ⟨e1, e2⟩ | ⟨x, y, e1, e2, _⟩
  · rw [e1, e2]
    refine ⟨?_, ?_⟩
    · show (rows ++ [(k, b, v)]).map Prod.fst = _
      rw [List.map_append]
      show _ = (kvs ++ [(k, s)]).map Prod.fst
      rw [List.map_append, d.1]; rfl
    · show RSL en w ((rows ++ [(k, b, v)]).map fun r => r.2.2) ((kvs ++ [(k, s)]).map Prod.snd)
      rw [List.map_append, List.map_append]
      exact RSL.app d.2 ⟨v, [], rfl, a, rfl⟩
  · rw [e1, e2]
    exact NR.map a d
theorem rowsK_put {K : PySem.W.Frag} {F : Hp} {rows : List Row} {k : NestedKey} {b : Addr} {v : V} (rk : RowsK K F rows) (hk : KeyAt K F (.ref b) k b) : RowsK K F (storN rows k b v) := by
  unfold storN
  split
  · intro r hr
    obtain ⟨r0, m, rfl⟩ := List.mem_map.mp hr
    unfold putAtN
    split
    · exact rk r0 m
    · exact rk r0 m
  · intro r hr
    rcases List.mem_append.mp hr with m | m
    · exact rk r m
    · rw [List.mem_singleton.mp m]
      exact ⟨hk.2.1, hk.2.2⟩
theorem RowsK.mono {K : PySem.W.Frag} {F F' : Hp} {rows : List Row} (s : Same F F') (rk : RowsK K F rows) : RowsK K F' rows := fun r hr => ⟨(rk r hr).1, Rp.mono s _ _ (rk r hr).2⟩
theorem KeyAt.mono {K : PySem.W.Frag} {F F' : Hp} {y : V} {k : NestedKey} {b : Addr} (s : Same F F') (h : KeyAt K F y k b) : KeyAt K F' y k b := ⟨h.1, h.2.1, Rp.mono s _ _ h.2.2⟩
def dktOf (h : AH) : SV → Option (List (NestedKey × SV))
  | .r n => match h[n]? with
    | some (some (.dkt kvs)) => some kvs
    | _ => none
  | _ => none
theorem dkt_ok (S : SimH en w H h) {s : SV} {v : V} {kvs : List (NestedKey × SV)} (r : RS en w v s) (e : dktOf h s = some kvs) : ∃ n a rows, s = .r n ∧ h[n]? = some (some (.dkt kvs)) ∧ w.rho[n]? = some a ∧ v = .ref a ∧ H a = some (.ext (NDx en.wd a rows)) ∧ RowsK en.K w.F rows ∧ NR en w rows kvs := by
  unfold dktOf at e
  split at e
  · rename_i n
    split at e
    · rename_i kvs' hx
      cases e
      obtain ⟨a, e1, rfl⟩ := r
      obtain ⟨a', e2, ⟨rows, hv, ek, rk, rl⟩, _, _⟩ := S.live n _ hx
      have ea : a' = a := Option.some.inj (e2.symm.trans e1)
      subst ea
      exact ⟨n, a', rows, rfl, hx, e1, rfl, hv, rk, ek, rl⟩
    · cases e
  · cases e
end
def fDkt : FE := fun _ h => .ok (.r h.length) (h ++ [some (.dkt [])])
section
variable {X : Cx} {W : WX} {a b i o e : Expr} {fa fb fi fo fe : FE} {pos tpos : Pos}
theorem se_dkt : SE X W (.Dict [] [] pos) fDkt := PE.imp pe_nnew (by
  rintro σ H Q ⟨en, w, sl, h, eK, S, P⟩
  intro p np
  rw [← eK.3]
  exact P _ (w.ow p) _ le_ow ⟨S.toSimH.newAO np (fun _ z => by cases z) (fun _ _ z => by cases z) (fun _ e => ⟨[], e, rfl, (fun _ z => nomatch z), rfl⟩), S.slots.mono le_ow⟩ S.toSimH.rs_new)
def tIn (neg : Bool) (y x : SV) (h : AH) : R SV := match tkOf y, dktOf h x with
  | some k, some kvs => .ok (.d (.bool (neg ^^ (valT kvs k).isSome))) h
  | _, _ => .st
def fTIn (neg : Bool) (fa fb : FE) : FE := fun sl h => (fa sl h).bind fun y h1 => (fb sl h1).bind fun x h2 => tIn neg y x h2
theorem tIn_ok {en : En} {w : Wd} {σ : St} {H : Hp} {sl : List SV} {h : AH} {yv xv : V} {y x : SV} {neg : Bool} {Q : VK} (eK : en.ok X) (S : Sim en w σ H sl h) (ry : RS en w yv y) (rx : RS en w xv x) (P : Po RS X W en w σ sl (tIn neg y x h) Q) : ∃ a o, xv = .ref a ∧ NGet X H a yv o ∧ Q (.bl (neg ^^ o.isSome)) H := by
  unfold tIn at P
  split at P
  · rename_i k kvs hk hd
    obtain ⟨n, a, rows, rfl, hx, ha, rfl, hH, rk, d⟩ := dkt_ok S.toSimH rx hd
    obtain ⟨b, kb⟩ := tkOf_ok ry hk
    refine ⟨a, valN rows k, rfl, ⟨rows, k, b, by rw [← eK.3]; exact hH, by rw [← eK.1]; exact rk.mono S.fh, by rw [← eK.1]; exact kb.mono S.fh, rfl⟩, ?_⟩
    have e : (valN rows k).isSome = (valT kvs k).isSome := by
      rcases NR.val k d with ⟨e1, e2⟩ | ⟨v, s, e1, e2, _⟩ <;> rw [e1, e2] <;> rfl
    rw [e]
    exact P.bool S
  · exact False.elim P
theorem st_tnotin (hu : X.A.units + 9 < cLine) (ha : SE X W a fa) (hb : SE X W b fb) (hm : behindInMarks .NotIn b = false) : STt X W (.Compare a [.NotIn] [b] pos) (fTst (fTIn true fa fb)) := PT.imp (pt_cmp (pc_nnotin hu ha hb) hm) (by
  rintro σ H Q ⟨en, w, sl, h, eK, S, P⟩
  have P := fTst_po P
  refine ⟨en, w, sl, h, eK, S, Po.bind P fun y h1 yv w1 H1 l1 S1 r1 P1 => ?_⟩
  refine ⟨en, w1, sl, h1, eK, S1, Po.bind P1 fun x h2 xv w2 H2 l2 S2 r2 P2 => ?_⟩
  exact tIn_ok eK S2 (RS.mono l2 r1) r2 P2)
def tGet (x y : SV) (h : AH) : R SV := match tkOf y, dktOf h x with
  | some k, some kvs => match valT kvs k with
    | some s => .ok s h
    | none => .st
  | _, _ => .st
def fTGet (fo fi : FE) : FE := fun sl h => (fo sl h).bind fun x h1 => (fi sl h1).bind fun y h2 => tGet x y h2
theorem se_tget (hu : X.A.units + 9 < cLine) (ho : SE X W o fo) (hi : SE X W i fi) (hs : NoSl i) : SE X W (.Subscript o i pos) (fTGet fo fi) := PE.imp (pe_nget hu ho hi hs) (by
  rintro σ H Q ⟨en, w, sl, h, eK, S, P⟩
  refine ⟨en, w, sl, h, eK, S, Po.bind P fun x h1 xv w1 H1 l1 S1 r1 P1 => ?_⟩
  refine ⟨en, w1, sl, h1, eK, S1, Po.bind P1 fun y h2 yv w2 H2 l2 S2 r2 P2 => ?_⟩
  unfold tGet at P2
  split at P2
  · rename_i k kvs hk hd
    split at P2
    · rename_i s hs
      obtain ⟨n, c, rows, rfl, hx, ha, rfl, hH, rk, d⟩ := dkt_ok S2.toSimH (RS.mono l2 r1) hd
      obtain ⟨b, kb⟩ := tkOf_ok r2 hk
      rcases NR.val k d with ⟨e1, e2⟩ | ⟨v, s', e1, e2, r⟩
      · rw [e2] at hs; cases hs
      · rw [e2] at hs
        cases hs
        exact ⟨c, v, rfl, ⟨rows, k, b, by rw [← eK.3]; exact hH, by rw [← eK.1]; exact rk.mono S2.fh, by rw [← eK.1]; exact kb.mono S2.fh, e1.symm⟩, P2 v w2 H2 (Wd.le.refl _) S2 r⟩
    · exact False.elim P2
  · exact False.elim P2)
def putN (x y v : SV) (h : AH) : Option AH := match tkOf y, dktOf h x, x with
  | some k, some kvs, .r n => if kvs.length < 1000000 then some (h.set n (some (.dkt (putT kvs k v)))) else none
  | _, _, _ => none
def sTStore (fo fi fe : FE) : FS := fun sl h => (fe sl h).thn sl fun v h1 => (fo sl h1).thn sl fun s h2 => (fi sl h2).thn sl fun t h3 => match putN s t v h3 with
  | some h4 => .nx sl h4
  | none => .st
theorem ss_tstore (hu : X.A.units + 9 < cLine) (hv : SE X W e fe) (ho : SE X W o fo) (hi : SE X W i fi) (hs : swapsWith e (some (.Subscript o i tpos)) pos.line X.env = pure false := by rfl) : SS X W (.Assign [.Subscript o i tpos] e pos) (sTStore fo fi fe) := PS.imp (ps_nput hu ho hi hv hs) (by
  rintro D σ H ⟨en, w, sl, h, eK, S, P⟩
  refine ⟨en, w, sl, h, eK, S, Po.thn P fun v h1 z w1 H1 l1 S1 r1 P1 => ?_⟩
  refine ⟨en, w1, sl, h1, eK, S1, Po.thn P1 fun s h2 x w2 H2 l2 S2 r2 P2 => ?_⟩
  refine ⟨en, w2, sl, h2, eK, S2, Po.thn P2 fun t h3 y w3 H3 l3 S3 r3 P3 => ?_⟩
  split at P3
  · rename_i h4 he
    unfold putN at he
    split at he
    · rename_i k kvs n hk hd
      split at he
      · rename_i hl
        cases he
        obtain ⟨n', c, rows, hn, hx, ha, rfl, hH, rk, d⟩ := dkt_ok S3.toSimH (RS.mono l3 r2) hd
        cases hn
        obtain ⟨b, kb⟩ := tkOf_ok r3 hk
        have ey := kb.1
        subst ey
        refine ⟨c, _, rfl, ⟨rows, k, b, by rw [← eK.3]; exact hH, by rw [← eK.1]; exact rk.mono S3.fh, by rw [← eK.1]; exact kb.mono S3.fh, Nat.lt_of_lt_of_le (by rw [d.len]; exact hl) (by rw [sizeLine_eq]; decide), rfl⟩, ?_⟩
        have dp := NR.put (k := k) (b := b) (RS.mono (l2.trans l3) r1) d
        rw [← eK.3]
        exact P3 w3 σ _ (Wd.le.refl _) ⟨S3.toSimH.writeAO hx ha (fun _ z => by cases z) (fun _ _ z => by cases z) (fun _ e => ⟨_, e, dp.1, rowsK_put rk kb, dp.2⟩), S3.slots⟩
      · cases he
    · cases he
  · exact False.elim P3)
end
end Zx
namespace Zx
open PySem PySem.Spec L2
section
variable {X : Cx}
def rLenN (X : Cx) : List V → Hp → VK → Prop := fun xs H Q => ∃ (a : Addr) (rows : List Row), xs = [V.ref a] ∧ H a = some (.ext (NDx X.w a rows)) ∧ RowsK X.K H rows ∧ Q (.int rows.length) H
theorem cr_lenN : CallR X (.builtin "len") (rLenN X) := by
  intro pins s σ H xs us Q I r h
  obtain ⟨a, rows, rfl, e, rk, q⟩ := h
  obtain ⟨u, rfl, rx⟩ := vals1 r
  cases rx
  obtain ⟨z, hd, xs, pr, dd⟩ := nd_rd I e rk
  have hl := prN_len pr
  refine call_len_dictH hd dd (by rw [← hl]; rw [sizeLine_eq] at z; omega) ?_
  rw [← hl]
  exact ⟨.int rows.length, H, I.tok _, ⟨_, rfl⟩, q⟩
theorem keys_raw {prog : Program} {w : World} {es : Array DictEntry} {ks : List (NestedKey × Addr × Value)} {n : Nat} {acc : Array Value} (he : es.toList = ks.map (entryOfKey (nestedKind prog w))) (hn : n = ks.length) (it : ItemsOf (fun i v => ∃ en : DictEntry, es[i]? = some en ∧ v = en.key) acc n) : acc.toList = (ks.map fun x => x.2.1).map Value.ref := by
  have hl : acc.toList.length = ks.length := by rw [Array.length_toList, it.1]; exact hn
  rw [List.map_map]
  apply List.ext_getElem?
  intro j
  rw [List.getElem?_map]
  cases hj : acc.toList[j]? with
  | none =>
    have h1 := List.getElem?_eq_none_iff.mp hj
    rw [List.getElem?_eq_none (by omega)]
    all_goals rfl
  | some v =>
    obtain ⟨en, hen, hv⟩ := it.2 j v (by rw [← Array.getElem?_toList]; exact hj)
    have qe := entry_at he j
    rw [hen] at qe
    cases hb : ks[j]? with
    | none =>
      rw [hb] at qe
      exact nomatch (show some en = none from qe)
    | some b =>
      rw [hb] at qe
      have e2 : en = entryOfKey (nestedKind prog w) b := Option.some.inj qe
      rw [hv, e2]
      all_goals rfl
theorem prN_addr : ∀ {rows : List Row} {xs : List (NestedKey × Addr × Value)}, PrN rows xs → xs.map (fun x => x.2.1) = rows.map fun r => r.2.1
  | _, _, .nil => rfl
  | _, _, .cons h t => by rw [List.map_cons, List.map_cons, prN_addr t, h.2.1]
def refR (rows : List Row) : List V := rows.map fun r => V.ref r.2.1
def rListN (X : Cx) : List V → Hp → VK → Prop := fun xs H Q => ∃ (a : Addr) (rows : List Row), xs = [V.ref a] ∧ H a = some (.ext (NDx X.w a rows)) ∧ RowsK X.K H rows ∧ ∀ p, H p = none → Q (.ref p) (upd H p (.lst (refR rows)))
theorem cr_listN (hc : X.calm = true) : CallR X (.type "list") (rListN X) := by
  intro pins s σ H xs us Q I r h
  obtain ⟨a, rows, rfl, e, rk, q⟩ := h
  obtain ⟨u, rfl, rx⟩ := vals1 r
  cases rx
  obtain ⟨z, hs, ks, pr, o, es, ep, ho, hx, hdt, he, _, hn⟩ := nd_rd I e rk
  have l1 : es.size = ks.length := size_of_entries he
  have l2 : rows.length = ks.length := prN_len pr
  refine PySem.W.kdl_call (kdl_raw hs hx hdt) (I.ok.hd hc) ho (by omega) fun h' tk acc' c' kp e it => ?_
  have eb := keys_raw he l1 it
  have er : refR rows = (ks.map fun x => x.2.1).map V.ref := by rw [prN_addr pr]; unfold refR; rw [List.map_map]; rfl
  have rv : Vals (refR rows) acc'.toList := by rw [eb, er]; exact vals_refs _
  have hz : (refR rows).length ≤ sizeLine := by unfold refR; rw [List.length_map]; exact z
  refine ⟨.ref s.heap.objs.size, _, I.laid (t' := tk) (o := .lst (refR rows)) kp (Nat.le_refl _) ?_, rfl, q _ (I.hok.fresh (Nat.le_refl _))⟩
  exact ⟨hz, acc'.toList, c', rv, by rw [Array.toArray_toList]; exact e⟩
def rSortedN (X : Cx) : List V → Hp → VK → Prop := fun xs H Q => ∃ (a : Addr) (rows : List Row) (b : Bool) (P : List Bool), xs = [V.ref a] ∧ H a = some (.ext (NDx X.w a rows)) ∧ RowsK X.K H rows ∧
  (∀ r ∈ rows, KeyV X.K H true (.ref r.2.1) (kfD r.1.data) ∧ (kfD r.1.data).map Sc.ty = b :: P) ∧
  ∀ (ys : List Row) (p : Addr), ys.Perm rows → ys.Pairwise (fun x y => ltK (kfD y.1.data) (kfD x.1.data) = false) → H p = none → Q (.ref p) (upd H p (.lst (refR ys)))
theorem cr_sortedN (hcalm : X.calm = true) : CallR X (.builtin "sorted") (rSortedN X) := by
  intro pins s σ H xs us Q I r h
  obtain ⟨a, rows, b, P, rfl, e, rk, hx, q⟩ := h
  obtain ⟨u, rfl, rx⟩ := vals1 r
  cases rx
  obtain ⟨z, hs, ks, pr, o, es, ep, ho, hxd, hdt, he, _, hn⟩ := nd_rd I e rk
  have l1 : es.size = ks.length := size_of_entries he
  have l2 : rows.length = ks.length := prN_len pr
  refine Calls.call_function_entry PyProof.Rows.kind_sorted PyProof.Rows.plain_sorted PyProof.Rows.entry_sorted (PyProof.Rows.args_sorted1 _) ?_
  unfold Builtin.«sorted»
  refine wpAny_bind (m := checkCount "sorted" 1 1 _) (wpAny_pure ?_)
  refine wpAny_bind (PySem.W.kdu_collect (A := X.A.in1) (kdl_raw hs hxd hdt) (I.ok.hd hcalm) ho (by omega) fun h' tk acc hk it => ?_)
  have eb := keys_raw he l1 it
  have er : refR rows = (ks.map fun x => x.2.1).map V.ref := by rw [prN_addr pr]; unfold refR; rw [List.map_map]; rfl
  have hv : Vals (refR rows) acc.toList := by rw [eb, er]; exact vals_refs _
  have hal : acc.toList.length = rows.length := by rw [eb, List.length_map, List.length_map, l2]
  let zs : List (V × PyData) := rows.map fun r => (V.ref r.2.1, r.1.data)
  have ez : zs.map Prod.fst = refR rows := by show (rows.map _).map _ = _; rw [List.map_map]; rfl
  have hz : ∀ z ∈ zs, KeyV X.K H true z.1 (kfD z.2) ∧ (kfD z.2).map Sc.ty = b :: P := fun z m => by
    obtain ⟨r, mr, rfl⟩ := List.mem_map.mp m
    exact hx r mr
  obtain ⟨ex, rb⟩ := vals_bV (fun x m => by
    rw [← ez] at m
    obtain ⟨z, mz, rfl⟩ := List.mem_map.mp m
    exact (hz z mz).1.plain) hv
  have uq : ∀ z ∈ zs, ∀ y ∈ zs, y.1 = z.1 → kfD y.2 = kfD z.2 := fun z mz y my e => by
    have h1 := (hz z mz).1
    have h2 := (hz y my).1
    unfold KeyV at h1 h2
    rw [if_pos rfl] at h1 h2
    obtain ⟨t, et, ht⟩ := h1
    obtain ⟨t2, et2, ht2⟩ := h2
    rw [e, et] at et2
    cases et2
    exact scv_map (I.tuple_inj ht2 ht)
  have kq : ∀ z ∈ zs, keyAt zs kfD z.1 = kfD z.2 := fun z m => keyAt_eq m (uq z m)
  have mem : ∀ u ∈ acc.toList, ∃ z ∈ zs, z.1 = bV u := fun u m => by
    have : bV u ∈ zs.map Prod.fst := by rw [ez, ex]; exact List.mem_map.mpr ⟨u, m, rfl⟩
    exact List.mem_map.mp this
  have I1 : Inv X pins σ H { s with heap := h', toks := tk } := I.kept hk
  refine wpAny_bind (wpAny_newList ?_ (by rw [hal]; exact z))
  have hoL : (h'.push (PyProof.Rows.seqObj "list" acc.toList.toArray 0)).get? h'.objs.size = some (PyProof.Rows.seqObj "list" acc.toList.toArray 0) := Heap.get?_push_size _ rfl
  show wpAny _ _ _ _ _ { s with heap := h'.push (PyProof.Rows.seqObj "list" acc.toList.toArray 0), toks := tk }
  refine wpAny_bind (wpAny_holding (wpAny_call_entry PyProof.Rows.slot_list_sort ⟨_, hoL, rfl⟩ PyProof.Rows.entry_list_sort
    (SrtO.list_sort_ord (s := { s with heap := h'.push (PyProof.Rows.seqObj "list" acc.toList.toArray 0), toks := tk }) (tot_k.swo fun u => keyAt zs kfD (bV u)) hoL (by rw [hal]; exact z) (fun h2 => ?_) fun out hs1 hb => ⟨_, rfl, ?_⟩)
    (PyProof.Rows.args_list_sort _)))
  · refine tups_sortable (b := b) (P := P) (by omega) (fun v m => ?_) (fun v m => ?_) fun o e => ?_
    · obtain ⟨z, mz, ezv⟩ := mem v m
      obtain ⟨t, et, hT⟩ : ∃ t, z.1 = .ref t ∧ SqT X.K H t ((kfD z.2).map Sc.v) := by
        have := (hz z mz).1
        unfold KeyV at this
        rwa [if_pos rfl] at this
      obtain ⟨us, r2, ⟨o, ho, hc, n, hd2⟩, _⟩ := I1.tuple hT
      have ev : v = .ref t := by
        have := rb v m
        rw [← ezv, et] at this
        exact this
      rw [← ezv, kq z mz]
      exact ⟨t, o, us.toArray, n, ev, Heap.get?_push_of_some _ ho, hc, hd2, scl_of r2⟩
    · obtain ⟨z, mz, ezv⟩ := mem v m
      rw [← ezv, kq z mz]
      exact (hz z mz).2
    · have e' : some o = some (PyProof.Rows.seqObj "list" acc.toList.toArray 0) := e.symm.trans hoL
      cases e'
      intro c
      exact absurd (Value.type.inj c) (by decide)
  · have pm : out.Perm acc.toList := hb.perm
    have ro : ∀ u ∈ out, RelV (bV u) u := fun u m => rb u (pm.mem_iff.mp m)
    obtain ⟨e', he'⟩ := PyProof.Rows.sortedHeap_at (vs := acc.toList) (out := out.toArray) hoL
    have hp2 : (out.map bV).Perm (refR rows) := by rw [ex]; exact pm.map bV
    obtain ⟨ys, py, ey⟩ := perm_lift hp2 rows rfl
    have ps : ys.Pairwise fun x y => ltK (kfD y.1.data) (kfD x.1.data) = false := by
      have h1 : (out.map bV).Pairwise fun x y => ltK (keyAt zs kfD y) (keyAt zs kfD x) = false := List.pairwise_map.mpr (hs1.imp fun h => h)
      rw [← ey] at h1
      have h2 := List.pairwise_map.mp h1
      refine List.Pairwise.imp_of_mem (fun {x y} mx my h => ?_) h2
      have k1 := kq (V.ref x.2.1, x.1.data) (List.mem_map.mpr ⟨x, py.mem_iff.mp mx, rfl⟩)
      have k2 := kq (V.ref y.2.1, y.1.data) (List.mem_map.mpr ⟨y, py.mem_iff.mp my, rfl⟩)
      have h : ltK (keyAt zs kfD (V.ref y.2.1)) (keyAt zs kfD (V.ref x.2.1)) = false := h
      rwa [k1, k2] at h
    have ey2 : refR ys = out.map bV := ey
    have := q ys h'.objs.size py ps (I1.hok.fresh (Nat.le_refl _))
    refine wpAny_pure ⟨_, rfl, .ref h'.objs.size, upd H h'.objs.size (.lst (refR ys)), I1.laid (t' := tk) (fun b u e => ?_) (Nat.le_refl _)
      (show ObjOk X.prog X.w _ _ _ (.lst (refR ys)) from ⟨?_, out, e', ?_, he'⟩), rfl, this⟩
    · have hb : b < h'.objs.size := Heap.lt_size e
      rw [PyProof.Rows.sortedHeap_old (Nat.ne_of_lt hb) (by rw [PyProof.Rows.size_push']; exact Nat.lt_succ_of_lt hb)]
      exact Heap.get?_push_of_some _ e
    · unfold refR; rw [List.length_map, py.length_eq]; exact z
    · rw [ey2]; exact bV_vals ro
end
theorem rsl_rows {en : En} {w : Wd} : ∀ {rows : List Row}, RowsK en.K w.F rows → RSL en w (refR rows) (rows.map fun r => SV.d r.1.data)
  | [], _ => rfl
  | r :: rows, rk => ⟨V.ref r.2.1, refR rows, rfl, (rk r List.mem_cons_self).2, rsl_rows fun x m => rk x (List.mem_cons_of_mem _ m)⟩
theorem nr_data {en : En} {w : Wd} {rows : List Row} {kvs : List (NestedKey × SV)} (d : NR en w rows kvs) : (kvs.map fun p => p.1.data) = rows.map fun r => r.1.data := by
  have e := congrArg (List.map NestedKey.data) d.1
  rw [List.map_map, List.map_map] at e
  exact e.symm
def gLenT : List SV → AH → R SV := fun ss h => match ss with
  | [s] => match dktOf h s with
    | some kvs => .ok (.d (.int kvs.length)) h
    | none => .st
  | _ => .st
def gListT : List SV → AH → R SV := fun ss h => match ss with
  | [s] => match dktOf h s with
    | some kvs => .ok (.r h.length) (h ++ [some (.lst (kvs.map fun p => SV.d p.1.data))])
    | none => .st
  | _ => .st
def gSortedT : List SV → AH → R SV := fun ss h => match ss with
  | [s] => match dktOf h s with
    | some kvs => match sortD (kvs.map fun p => p.1.data) with
      | some es => .ok (.r h.length) (h ++ [some (.lst (es.map SV.d))])
      | none => .st
    | none => .st
  | _ => .st
section
variable {X : Cx} {W : WX}
theorem cs_lenT : CallS X (rLenN X) gLenT := by
  intro W en w σ H sl h xs ss Q eK S r P
  unfold gLenT at P
  split at P
  · obtain ⟨v, rfl, rv⟩ := r.one
    split at P
    · rename_i kvs hd
      obtain ⟨n, a, rows, rfl, hx, ha, rfl, hH, rk, d⟩ := dkt_ok S.toSimH rv hd
      exact ⟨a, rows, rfl, by rw [← eK.3]; exact hH, by rw [← eK.1]; exact rk.mono S.fh, by rw [d.len]; exact P.int S⟩
    · exact False.elim P
  · exact False.elim P
theorem cs_listT : CallS X (rListN X) gListT := by
  intro W en w σ H sl h xs ss Q eK S r P
  unfold gListT at P
  split at P
  · obtain ⟨v, rfl, rv⟩ := r.one
    split at P
    · rename_i kvs hd
      obtain ⟨n, a, rows, rfl, hx, ha, rfl, hH, rk, d⟩ := dkt_ok S.toSimH rv hd
      refine ⟨a, rows, rfl, by rw [← eK.3]; exact hH, by rw [← eK.1]; exact rk.mono S.fh, fun p nl => ?_⟩
      have rl := rsl_rows rk
      have e : (kvs.map fun p => SV.d p.1.data) = rows.map fun r => SV.d r.1.data := by
        have := congrArg (List.map SV.d) (nr_data d)
        rw [List.map_map, List.map_map] at this
        exact this
      rw [e] at P
      exact P _ (w.ow p) _ le_ow (S.newO nl rl) S.toSimH.rs_new
    · exact False.elim P
  · exact False.elim P
theorem cs_sortedT : CallS X (rSortedN X) gSortedT := by
  intro W en w σ H sl h xs ss Q eK S r P
  unfold gSortedT at P
  split at P
  · obtain ⟨v, rfl, rv⟩ := r.one
    split at P
    · rename_i kvs hd
      split at P
      · rename_i es hs
        obtain ⟨n, a, rows, rfl, hx, ha, rfl, hH, rk, d⟩ := dkt_ok S.toSimH rv hd
        obtain ⟨hp, pm, pw⟩ := sortD_some hs
        rw [nr_data d] at hp pm
        obtain ⟨tp, b2, P2, hk⟩ := patOk_all hp
        refine ⟨a, rows, b2, P2, rfl, by rw [← eK.3]; exact hH, by rw [← eK.1]; exact rk.mono S.fh, fun r m => ⟨?_, (hk _ (List.mem_map.mpr ⟨r, m, rfl⟩)).2⟩, fun ys p py ps nl => ?_⟩
        · have r1 := (rk r m).2
          have k1 := keyV_of (b := false) S.toSimH (show RS en w (.ref r.2.1) (wrapS false r.1.data) from r1) (hk _ (List.mem_map.mpr ⟨r, m, rfl⟩)).1
          rw [← eK.1]
          cases tp with
          | true => exact k1
          | false =>
            unfold KeyV at k1
            rw [if_neg (by decide)] at k1
            obtain ⟨c, e, _⟩ := k1
            cases c <;> cases e
        · have e : (ys.map fun r => r.1.data) = es := by
            refine sorted_one ((py.map fun r => r.1.data).trans pm.symm) (fun x mx y my => leD_anti hp x ((py.map fun r => r.1.data).mem_iff.mp mx) y ((py.map fun r => r.1.data).mem_iff.mp my)) (List.pairwise_map.mpr (ps.imp fun {x y} c => ?_)) pw
            unfold leD
            rw [c]; rfl
          have rl := rsl_rows (en := en) (w := w) (rows := ys) fun x m => rk x (py.mem_iff.mp m)
          have e2 : (ys.map fun r => SV.d r.1.data) = es.map SV.d := by rw [← e, List.map_map]; rfl
          rw [e2] at rl
          exact P _ (w.ow p) _ le_ow (S.newO nl rl) S.toSimH.rs_new
      · exact False.elim P
    · exact False.elim P
  · exact False.elim P
end
theorem dict_pairsN {prog : Program} {w : World} {K : Type} [DecidableEq K] {knd : HeapKind prog w K} {A : Around} {E : Value → Shared → Prop} {s : Shared} {env : Env} {keys : List (Option Expr)} {values : List Expr} {pos : Pos} {pairs : List (Sem Value × Sem Value)} {Q : Value → Shared → Prop} (hu : knd.room A)
    (hshape : (evalEachOpt keys env).zip ((evalEach values env).map fun v => do let x ← v; standAt pos; pure x) = pairs.map fun p => (some p.1, p.2)) (h0 : pairs ≠ []) (hlen : pairs.length ≤ 15)
    (h : wpAny (model prog w) A (evalPairs pairs) (fun vs s₁ => ∃ ps, CarriesH knd s₁.heap vs ps ∧ s₁.heap.DictOfH knd s.heap.objs.size [] ∧
      ∀ h' tk, h'.DictOfH knd s.heap.objs.size (storedAllH [] ps) → Heap.SameBut s.heap.objs.size s₁.heap h' → Q (.ref s.heap.objs.size) { s₁ with heap := h', toks := tk }) E
      { s with heap := s.heap.push { cls := .type "dict", data := .dict #[] } }) :
    wpAny (model prog w) A (eval (.Dict keys values pos) env) Q E s := by
  rw [arm_eval_Dict, hshape, dictDisplay_pairs pairs h0 (by omega)]
  exact wpAny_bind (wpAny_standAt (wpAny_bind (wpAny_subDictH (knd := knd) (Q := fun d s' => wpAny (model prog w) A (pure (Value.ref d)) Q E s') hu hlen
    (wpAny_mono h (fun vs s₁ h₁ => by obtain ⟨ps, hc, hm, hq⟩ := h₁; exact ⟨ps, hc, hm, fun h' tk a b => wpAny_pure (hq h' tk a b)⟩) fun _ _ e => e))))
theorem carriesH_of {X : Cx} {pins : List (Addr × Obj)} {σ : St} {H : Hp} {s : Shared} (I : Inv X pins σ H s) {k : NestedKey} {b : Addr} {y v : V} {ws : List (Value × Value)} (hk : KeyAt X.K H y k b) (r : VV [(y, v)] ws) : ∃ r', CarriesH (nestedKind X.prog X.w) s.heap ws [(k, b, r')] ∧ RelV v r' := by
  cases r with
  | @cons a w as bs h t =>
    cases t
    obtain ⟨w1, w2⟩ := w
    obtain ⟨e, d, rp⟩ := hk
    subst e
    have e1 : w1 = Value.ref b := h.1
    subst e1
    exact ⟨w2, ⟨rfl, rfl, ⟨rp_is I k _ _ rp rfl, d⟩, True.intro⟩, h.2⟩
def tDispN (X : Cx) (tk tv : TE) : TE := fun σ H Q => ∀ p, H p = none → tPairs [(tk, tv)] σ (upd H p (.ext (NDx X.w p []))) fun ps H2 => H2 p = some (.ext (NDx X.w p [])) ∧ ∃ k b y v, ps = [(y, v)] ∧ KeyAt X.K H2 y k b ∧ Q (.ref p) (upd H2 p (.ext (NDx X.w p [(k, b, v)])))
theorem pe_dispN {X : Cx} {pos : Pos} {ke ve : Expr} {tk tv : TE} (hu : X.A.units + 9 < cLine) (hk : PE X ke tk) (hv : PE X ve tv) : PE X (.Dict [some ke] [ve] pos) (tDispN X tk tv) := by
  refine ⟨fun pins s σ H Q I q => ?_⟩
  have hn := I.hok.fresh (Nat.le_refl s.heap.objs.size)
  have I1 := I.laid (a := s.heap.objs.size) (o := .ext (NDx X.w s.heap.objs.size [])) (h' := s.heap.push { cls := .type "dict", data := .dict #[] }) (t' := s.toks) (fun _ _ q => Heap.get?_push_of_some _ q) (Nat.le_refl _) (nd_empty s.heap I.big)
  refine dict_pairsN (knd := nestedKind X.prog X.w) (pairs := pairTrees [some ke] [ve] X.env pos) (show X.A.units + 8 < cLine by omega) (zip_pairTrees _ _ X.env pos rfl rfl) (by intro z; cases z) (by show 1 ≤ 15; decide) ?_
  refine thn ((pps_cons hk hv pps_nil).run pins _ σ _ _ I1 (q _ hn)) fun ws s2 ⟨ps, H2, I2, rel, e, k, b, y, v, ep, ka, q2⟩ => ?_
  subst ep
  obtain ⟨r', c, rv⟩ := carriesH_of I2 ka rel
  obtain ⟨z, hd, xs, pr, dd⟩ := nd_rd I2 e (fun _ z => nomatch z)
  cases pr
  refine ⟨_, c, dd, fun h' tk dd' hs => ⟨.ref s.heap.objs.size, _, ?_, rfl, q2⟩⟩
  have he : ∃ q, h'.get? s.heap.objs.size = some q := let ⟨q, _, _, hq, _⟩ := dd'; ⟨q, hq⟩
  have e1 : storedAllH ([] : List (NestedKey × Addr × Value)) [(k, b, r')] = [(k, b, r')] := rfl
  rw [e1] at dd'
  exact d_write I2 (by rw [e]; exact True.intro) hs he (nd_ok (rows := [(k, b, v)]) (by rw [sizeLine_eq]; show 1 ≤ 16777216; decide) hd (.cons ⟨rfl, rfl, rv⟩ .nil) dd')
def tOne (n : Nat) (k v : SV) (h : AH) : R SV := match tkOf k, h[n]? with
  | some kk, some (some (.dkt [])) => .ok (.r n) (h.set n (some (.dkt [(kk, v)])))
  | _, _ => .st
def fDktO (fa fb : FE) : FE := fun sl h => (fa sl (h ++ [some (.dkt [])])).bind fun k h1 => (fb sl h1).bind fun v h2 => tOne h.length k v h2
theorem se_dkt1 {X : Cx} {W : WX} {a b : Expr} {fa fb : FE} {pos : Pos} (hu : X.A.units + 9 < cLine) (ha : SE X W a fa) (hb : SE X W b fb) : SE X W (.Dict [some a] [b] pos) (fDktO fa fb) := PE.imp (pe_dispN hu ha hb) (by
  rintro σ H Q ⟨en, w, sl, h, eK, S, P⟩
  intro p np
  have S0 : Sim en (w.ow p) σ (upd H p (.ext (NDx X.w p []))) sl (h ++ [some (.dkt [])]) := by
    rw [← eK.3]
    exact ⟨S.toSimH.newAO np (fun _ z => by cases z) (fun _ _ z => by cases z) (fun _ e => ⟨[], e, rfl, (fun _ z => nomatch z), rfl⟩), S.slots.mono le_ow⟩
  have hp0 : (w.ow p).rho[h.length]? = some p := by
    show (w.rho ++ [p])[h.length]? = some p
    rw [← S.len, List.getElem?_append_right (Nat.le_refl _)]
    simp
  unfold tPairs
  have P0 : Po RS X W en (w.ow p) σ sl (fDktO fa fb sl h) Q := Po.mono le_ow P
  refine ⟨en, w.ow p, sl, _, eK, S0, Po.bind P0 fun k h1 xv w1 H1 l1 S1 r1 P1 => ?_⟩
  refine ⟨en, w1, sl, h1, eK, S1, Po.bind P1 fun v h2 yv w2 H2 l2 S2 r2 P2 => ?_⟩
  unfold tPairs
  unfold tOne at P2
  split at P2
  · rename_i kk hk hd
    obtain ⟨b, kb⟩ := tkOf_ok (RS.mono l2 r1) hk
    have ey := kb.1
    subst ey
    obtain ⟨a', e2, ⟨rows, hv, ek, rk, rl⟩, _, _⟩ := S2.live _ _ hd
    have e3 : w2.rho[h.length]? = some p := prefix_get (l1.trans l2).1 hp0
    have ea : a' = p := Option.some.inj (e2.symm.trans e3)
    subst ea
    have kn : rows = [] := by
      cases rows with
      | nil => rfl
      | cons z q => cases ek
    subst kn
    refine ⟨by rw [← eK.3]; exact hv, kk, b, _, yv, rfl, by rw [← eK.1]; exact kb.mono S2.fh, ?_⟩
    rw [← eK.3]
    refine P2 _ w2 _ (Wd.le.refl _) ⟨S2.toSimH.writeAO hd e3 (fun _ z => by cases z) (fun _ _ z => by cases z) (fun _ e => ⟨_, e, rfl, (fun r hr => by rw [List.mem_singleton.mp hr]; exact ⟨kb.2.1, kb.2.2⟩), yv, [], rfl, r2, rfl⟩), S2.slots⟩ ⟨a', e3, rfl⟩
  · exact False.elim P2)
end Zx
namespace Zx
open PySem PySem.Spec L2
def setD (x y z : SV) (h : AH) : R SV := match keyOf y, dctOf h x, x with
  | some k, some kvs, .r n => if kvs.length < 1000 then match valS kvs k with
    | some s => .ok s h
    | none => .ok z (h.set n (some (.dct (putS kvs k z))))
    else .st
  | _, _, _ => .st
def fSetd (fo fi fx : FE) : FE := fun sl h => (fo sl h).bind fun x h1 => if (dctOf h1 x).isSome = true then (fi sl h1).bind fun y h2 => (fx sl h2).bind fun z h3 => setD x y z h3 else .st
section
variable {X : Cx} {W : WX}
theorem se_setd {o e f : Expr} {fo fi fx : FE} {apos cpos : Pos} (ho : SE X W o fo) (he : SE X W e fi) (hf : SE X W f fx) (m : M2 X o "setdefault" apos e f cpos) : SE X W (.Call (.Attribute o "setdefault" apos) [e, f] [] cpos) (fSetd fo fi fx) := PE.imp (pe_dsetd ho he hf m) (by
  rintro σ H Q ⟨en, w, sl, h, eK, S, P⟩
  refine ⟨en, w, sl, h, eK, S, Po.bind P fun x h1 xv w1 H1 l1 S1 r1 P1 => ?_⟩
  split at P1
  · rename_i hs
    obtain ⟨kvs0, hd0⟩ := Option.isSome_iff_exists.mp hs
    obtain ⟨n0, c, kws0, rfl, hx0, ha0, rfl, hH0, d0⟩ := dct_ok S1.toSimH r1 hd0
    refine ⟨c, rfl, .inl ⟨kws0, .inl hH0⟩, ?_⟩
    refine ⟨en, w1, sl, h1, eK, S1, Po.bind P1 fun y h2 yv w2 H2 l2 S2 r2 P2 => ?_⟩
    refine ⟨en, w2, sl, h2, eK, S2, Po.bind P2 fun z h3 zv w3 H3 l3 S3 r3 P3 => ?_⟩
    unfold setD at P3
    split at P3
    · rename_i k kvs n hk hd hn
      cases hn
      split at P3
      · rename_i hl
        obtain ⟨n', c', kws, e', hx, ha, ec, hH, d⟩ := dct_ok S3.toSimH (RS.mono (l2.trans l3) r1) hd
        cases e'
        cases ec
        cases keyOf_ok (RS.mono l3 r2) hk
        refine ⟨kws, k, hH, rfl, Nat.lt_of_lt_of_le (by rw [d.len]; exact hl) line1000, fun v hv => ?_, fun hv => ?_⟩
        · rcases DR.val k d with ⟨e1, e2⟩ | ⟨v', s', e1, e2, r⟩
          · rw [e1] at hv; cases hv
          · rw [e1] at hv
            cases hv
            rw [e2] at P3
            exact P3 v w3 H3 (Wd.le.refl _) S3 r
        · rcases DR.val k d with ⟨e1, e2⟩ | ⟨v', s', e1, e2, r⟩
          · rw [e2] at P3
            have dp := DR.put r3 k d
            exact P3 zv w3 _ (Wd.le.refl _) ⟨S3.toSimH.writeAO hx ha (fun _ z => by cases z) (fun _ _ z => by cases z) (fun _ e => ⟨_, e, dp.1, dp.2⟩), S3.slots⟩ r3
          · rw [e1] at hv; cases hv
      · exact False.elim P3
    · exact False.elim P3
  · exact False.elim P1)
end
end Zx
namespace Zx
open PySem PySem.Spec L2 PyProof.Rows
/-- what a set asks of its keys beside the hash and the likeness -/
structure Askd {P : Program} {w : World} {κ : Type} [DecidableEq κ] (knd : HeapKind P w κ) : Prop where
  stay : knd.Stays
  cls : ∀ {A : Around} {E : Value → Shared → Prop} {s : Shared} {k : κ} {b : Addr} {Q : Bool → Shared → Prop}, knd.is s.heap k b → Q false s → wpAny (model P w) A (ofAClassStatement 8 (.ref b)) Q E s
  val : ∀ {A : Around} {E : Value → Shared → Prop} {s : Shared} {k : κ} {b : Addr} {Q : Bool → Shared → Prop}, knd.is s.heap k b → (∀ c, Q c s) → wpAny (model P w) A (hashByValue 8 (.ref b)) Q E s
section
variable {P : Program} {w : World}
def ClsAt (P : Program) (w : World) (n : Nat) (s : Shared) (v : Value) : Prop := ∀ (A : Around) (E : Value → Shared → Prop) (Q : Bool → Shared → Prop), Q false s → wpAny (model P w) A (ofAClassStatement n v) Q E s
def ValAt (P : Program) (w : World) (n : Nat) (s : Shared) (v : Value) : Prop := ∀ (A : Around) (E : Value → Shared → Prop) (Q : Bool → Shared → Prop), (∀ c, Q c s) → wpAny (model P w) A (hashByValue n v) Q E s
theorem ClsAt.plain {n : Nat} {s : Shared} {v : Value} (h : ofAClassStatement n v = pure false) : ClsAt P w n s v := fun A E Q q => by rw [h]; exact wpAny_pure q
theorem ValAt.plain {n : Nat} {s : Shared} {v : Value} {c : Bool} (h : hashByValue n v = pure c) : ValAt P w n s v := fun A E Q q => by rw [h]; exact wpAny_pure (q c)
theorem ClsAt.tup {n m : Nat} {s : Shared} {a : Addr} {o : Obj} {vs : Array Value} (ho : s.heap.get? a = some o) (hc : o.cls = .type "tuple") (hd : o.data = .seq vs m) (all : ∀ v ∈ vs.toList, ClsAt P w n s v) : ClsAt P w (n + 1) s (.ref a) := fun A E Q q => by
  unfold ofAClassStatement
  refine wpAny_bind (wpAny_typeOf (T := "tuple") ⟨o, ho, hc⟩ ?_)
  dsimp only
  have e : (("tuple" : String) == "tuple") = true := rfl
  rw [if_pos e]
  refine wpAny_bind (wpAny_pure ?_)
  refine wp_if_neg (by decide) ?_
  refine wpAny_bind (wpAny_seqItems ho hd ?_)
  dsimp only
  refine wpAny_bind ?_
  rw [← Array.forIn_toList]
  refine wpAny_forIn_list _ (fun us r s1 => s1 = s ∧ r.1 = none ∧ ∀ u ∈ us, ClsAt P w n s u) _ ?_ ?_ _ _ ⟨rfl, rfl, all⟩
  · rintro u us r s1 ⟨rfl, e1, ok⟩
    refine wpAny_bind (ok u List.mem_cons_self _ _ _ ?_)
    refine wp_if_neg (by decide) ?_
    exact wpAny_pure ⟨rfl, rfl, fun v hv => ok v (List.mem_cons_of_mem _ hv)⟩
  · rintro ⟨r1, r2⟩ s1 ⟨rfl, e1, _⟩
    have e1 : r1 = none := e1
    subst e1
    exact wpAny_pure q
theorem ValAt.tup {n m : Nat} {s : Shared} {a : Addr} {o : Obj} {vs : Array Value} (ho : s.heap.get? a = some o) (hc : o.cls = .type "tuple") (hd : o.data = .seq vs m) (all : ∀ v ∈ vs.toList, ValAt P w n s v) : ValAt P w (n + 1) s (.ref a) := fun A E Q q => by
  unfold hashByValue
  refine wpAny_bind (wpAny_specialOf (T := "tuple") ⟨o, ho, hc⟩ F.slot_tuple_hash.lookup ?_)
  dsimp only
  refine wpAny_bind (wpAny_seqItems ho hd ?_)
  refine wpAny_bind ?_
  show wpAny _ _ (forIn vs _ _) _ _ s
  rw [← Array.forIn_toList]
  refine wpAny_forIn_list _ (fun us r s1 => s1 = s ∧ r.1 = none ∧ ∀ u ∈ us, ValAt P w n s u) _ ?_ ?_ _ _ ⟨rfl, rfl, all⟩
  · rintro u us r s1 ⟨rfl, e1, ok⟩
    refine wpAny_bind (ok u List.mem_cons_self _ _ _ fun c => ?_)
    cases c with
    | true =>
      refine wp_if_neg (by decide) ?_
      exact wpAny_pure ⟨rfl, rfl, fun v hv => ok v (List.mem_cons_of_mem _ hv)⟩
    | false =>
      refine wp_if_pos (by decide) ?_
      exact wpAny_pure (wpAny_pure (q false))
  · rintro ⟨r1, r2⟩ s1 ⟨rfl, e1, _⟩
    have e1 : r1 = none := e1
    subst e1
    exact wpAny_pure (q true)
mutual
theorem cls_key : ∀ (k : NestedKey) (v : Value) (n : Nat) (s : Shared), NestedIs s.heap k v → k.depth ≤ n → ClsAt P w n s v
  | .none, _, n, s, x, _ => by cases x; exact .plain (by cases n <;> rfl)
  | .num i, _, n, s, x, _ => by cases x <;> exact .plain (by cases n <;> rfl)
  | .text y, _, n, s, x, _ => by cases x; exact .plain (by cases n <;> rfl)
  | .tup ks, _, n, s, x, hn => by
    cases x with
    | tup hg hc hd hk =>
      rw [NestedKey.depth] at hn
      obtain ⟨n, rfl⟩ : ∃ m, n = m + 1 := ⟨n - 1, by omega⟩
      exact .tup hg hc hd (cls_keys ks _ n s hk (by omega))
theorem cls_keys : ∀ (ks : List NestedKey) (vs : List Value) (n : Nat) (s : Shared), NestedAll s.heap ks vs → NestedKey.depthAll ks ≤ n → ∀ v ∈ vs, ClsAt P w n s v
  | [], _, n, s, x, _, v, hv => by cases x; cases hv
  | k :: ks, _, n, s, x, hn, v, hv => by
    cases x with
    | cons x1 x2 =>
      rw [NestedKey.depthAll] at hn
      cases hv with
      | head => exact cls_key k _ n s x1 (by omega)
      | tail _ hv => exact cls_keys ks _ n s x2 (by omega) v hv
end
mutual
theorem val_key : ∀ (k : NestedKey) (v : Value) (n : Nat) (s : Shared), NestedIs s.heap k v → k.depth ≤ n → ValAt P w n s v
  | .none, _, n, s, x, _ => by cases x; exact .plain (c := true) (by cases n <;> rfl)
  | .num i, _, n, s, x, _ => by cases x <;> exact .plain (c := true) (by cases n <;> rfl)
  | .text y, _, n, s, x, _ => by cases x; exact .plain (c := false) (by cases n <;> rfl)
  | .tup ks, _, n, s, x, hn => by
    cases x with
    | tup hg hc hd hk =>
      rw [NestedKey.depth] at hn
      obtain ⟨n, rfl⟩ : ∃ m, n = m + 1 := ⟨n - 1, by omega⟩
      exact .tup hg hc hd (val_keys ks _ n s hk (by omega))
theorem val_keys : ∀ (ks : List NestedKey) (vs : List Value) (n : Nat) (s : Shared), NestedAll s.heap ks vs → NestedKey.depthAll ks ≤ n → ∀ v ∈ vs, ValAt P w n s v
  | [], _, n, s, x, _, v, hv => by cases x; cases hv
  | k :: ks, _, n, s, x, hn, v, hv => by
    cases x with
    | cons x1 x2 =>
      rw [NestedKey.depthAll] at hn
      cases hv with
      | head => exact val_key k _ n s x1 (by omega)
      | tail _ hv => exact val_keys ks _ n s x2 (by omega) v hv
end
end
end Zx
namespace Zx
open PySem PySem.Spec L2 PyProof.Rows
section
variable {P : Program} {w : World} {κ : Type} [DecidableEq κ] {knd : HeapKind P w κ} {A : Around} {E : Value → Shared → Prop} {s : Shared}
abbrev rowK (knd : HeapKind P w κ) (p : Addr × κ) : Int × Value := (knd.hash p.2, .ref p.1)
/-- the set at a: the things in the order of their places -/
structure SetK (knd : HeapKind P w κ) (h : Heap) (a : Addr) (L : List (Addr × κ)) (es : Array (Int × Value)) (ep : Nat) (t : SetTable) : Prop where
  here : ∃ o, h.get? a = some o ∧ o.ExactSet ∧ o.data = .set es ep t
  els : es.toList = L.map (rowK knd)
  lay : TabOk t (L.map fun p => knd.hash p.2)
  unlike : (L.map Prod.snd).Nodup
  keys : ∀ p ∈ L, knd.is h p.2 p.1
  ordd : w.params.followText "set-order" = true ∨ t.led = true
  wide : L.length * 5 < t.mask * 3
  few : L.length < 64
variable {a : Addr} {L : List (Addr × κ)} {es : Array (Int × Value)} {ep : Nat} {t : SetTable}
theorem SetK.at (S : SetK knd s.heap a L es ep t) {i : Nat} {p : Addr × κ} (h : L[i]? = some p) : es[i]? = some (rowK knd p) := by
  rw [← Array.getElem?_toList, S.els, List.getElem?_map, h]
  rfl
end
end Zx
namespace Zx
open PySem PySem.Spec L2 PyProof.Rows
section
variable {P : Program} {w : World} {κ : Type} [DecidableEq κ] {knd : HeapKind P w κ} {A : Around} {E : Value → Shared → Prop} {s : Shared}
variable {a : Addr} {L : List (Addr × κ)} {es : Array (Int × Value)} {ep : Nat} {t : SetTable}
end
end Zx
namespace Zx
open PySem PySem.Spec L2 PyProof.Rows
section
variable {P : Program} {w : World} {κ : Type} [DecidableEq κ] {knd : HeapKind P w κ} {A : Around} {E : Value → Shared → Prop} {s : Shared}
/-- what has come from the first i things -/
structure FromL (ks : List (Addr × κ)) (i : Nat) (L : List (Addr × κ)) : Prop where
  of : ∀ p ∈ L, p ∈ ks.take i
  to : ∀ p ∈ ks.take i, p.2 ∈ L.map Prod.snd
  le : L.length ≤ i
theorem FromL.nil {ks : List (Addr × κ)} : FromL ks 0 [] := ⟨fun p h => (by cases h), fun p h => (by rw [List.take_zero] at h; cases h), Nat.le_refl _⟩
abbrev newSet (w : World) : Obj := { cls := .type "set", dict := none, data := .set #[] 0 (.fresh 0 0 (!w.params.followText "set-order")) }
theorem SetK.new {h : Heap} {a : Addr} (ho : h.get? a = some (newSet w)) : SetK knd h a [] #[] 0 (.fresh 0 0 (!w.params.followText "set-order")) where
  here := ⟨_, ho, ⟨rfl, rfl, rfl⟩, rfl⟩
  els := rfl
  lay := ⟨List.Pairwise.nil, rfl, rfl, .inl rfl, fun x hx => (by cases hx), fun i h j hi => (by rw [List.map_nil, List.getElem?_nil] at hi; cases hi)⟩
  unlike := List.nodup_nil
  keys := fun p hp => (by cases hp)
  ordd := by
    cases hw : w.params.followText "set-order" with
    | true => exact .inl rfl
    | false => exact .inr rfl
  wide := (by decide : 0 * 5 < 7 * 3)
  few := (by decide : 0 < 64)
end
end Zx
namespace Zx
open PySem PySem.Spec L2 PyProof.Rows
section
variable {P : Program} {w : World} {κ : Type} [DecidableEq κ] {knd : HeapKind P w κ} {A : Around} {E : Value → Shared → Prop} {s : Shared}
end
end Zx
namespace Zx
open PySem PySem.Spec L2 PyProof.Rows
def unK : List NestedKey → List NestedKey
  | [] => []
  | k :: r => if k ∈ unK r then unK r else k :: unK r
theorem unK_mem {k : NestedKey} : ∀ {l : List NestedKey}, k ∈ unK l ↔ k ∈ l
  | [] => Iff.rfl
  | j :: r => by
    unfold unK
    have ih := unK_mem (k := k) (l := r)
    by_cases h : j ∈ unK r
    · rw [if_pos h, ih, List.mem_cons]
      exact ⟨.inr, fun z => z.elim (fun e => by rw [e]; exact unK_mem.mp h) id⟩
    · rw [if_neg h, List.mem_cons, List.mem_cons, ih]
theorem unK_nd : ∀ {l : List NestedKey}, (unK l).Nodup
  | [] => List.nodup_nil
  | j :: r => by
    unfold unK
    by_cases h : j ∈ unK r
    · rw [if_pos h]; exact unK_nd
    · rw [if_neg h]; exact List.nodup_cons.mpr ⟨h, unK_nd⟩
theorem FromL.perm {κ : Type} {ks L : List (Addr × κ)} (F : FromL ks ks.length L) : ∀ k, k ∈ L.map Prod.snd ↔ k ∈ ks.map Prod.snd := fun k => by
  have F1 := F.of
  have F2 := F.to
  rw [List.take_length] at F1 F2
  constructor
  · intro h
    obtain ⟨p, hp, rfl⟩ := List.mem_map.mp h
    exact List.mem_map_of_mem (F1 p hp)
  · intro h
    obtain ⟨p, hp, rfl⟩ := List.mem_map.mp h
    exact F2 p hp
theorem FromL.un {ks L : List (Addr × NestedKey)} (F : FromL ks ks.length L) (nd : (L.map Prod.snd).Nodup) : (L.map Prod.snd).Perm (unK (ks.map Prod.snd)) :=
  (List.perm_ext_iff_of_nodup nd unK_nd).mpr fun k => (F.perm k).trans unK_mem.symm
theorem vals_refs {κ : Type} : ∀ {ks : List (Addr × κ)} {us : List Value}, Vals (ks.map fun p => V.ref p.1) us → us = ks.map fun p => Value.ref p.1
  | [], us, r => by cases r; rfl
  | p :: ks, us, r => by
    cases r with
    | cons q r =>
      have q : _ = Value.ref p.1 := q
      rw [q, vals_refs r]
      rfl
section
variable {X : Cx} {pins : List (Addr × Obj)} {σ : L2.St} {H : Hp} {s : Shared}
def keysOf : List PyData → Option (List NestedKey)
  | [] => some []
  | x :: r => match tkOf (.d x) with
    | some k => (keysOf r).map (k :: ·)
    | none => none
end
end Zx
namespace Zx
open PySem PySem.Spec L2 PyProof.Rows
section
variable {X : Cx} {pins : List (Addr × Obj)} {σ : L2.St} {H : Hp} {s : Shared}
end
end Zx
namespace Zx
open PySem PySem.Spec L2
open SeqAt (RcLt firstLt EqAt)
section
variable {A : Around} {s : Shared}
end
end Zx
namespace Gn
open PySem PySem.Spec L2 Zx
def e_net_of_1 : FE :=
  (fLc (iRng (fCons (fBin gIx (fVar 0) (fC (.int 0))) fNil)) (.nm 5) fYes fDct [5])
def l_net_of_1 : FS :=
  (sFor (iSeq (fBin gIx (fVar 0) (fC (.int 1)))) (.tp [2, 3, 4]) (sExpr (fBM kdL (gOwn kAppend) (fSetd (fBin gIx (fVar 1) (fVar 2)) (fVar 3) (fLst fNil)) (fCons (fFz (fVar 4)) fNil))))
def m_net_of : FS :=
  (sSeq (sSet 1 e_net_of_1)
    (sSeq l_net_of_1
    (sRet (fFz (fVar 1)))))
def v_net_of : List PyData → Zx.R SV := phi [.vw] 6 m_net_of
def l_places_by_1 : FS :=
  (sFor (iSeq (fDG2 (fBin gIx (fVar 0) (fVar 4)) (fVar 2) (fFz (fLst fNil)))) (.nm 5) (sDStore (fVar 3) (fVar 5) (fC (.bool true))))
def l_places_by_2 : FS :=
  (sFor (iSeq (fVar 1)) (.nm 4) l_places_by_1)
def m_places_by : FS :=
  (sSeq (sSet 3 fDct)
    (sSeq l_places_by_2
    (sRet (fCB gSortedD (fCons (fVar 3) fNil)))))
def v_places_by : List PyData → Zx.R SV := phi [.fz, .vw, .vw] 6 m_places_by
def m_law_cell_at : FS :=
  (sSeq (sIf (fTst (fBin gLt (fVar 1) (fCB gLen (fCons (fVar 0) fNil)))) (sRet (fBin gIx (fVar 0) (fVar 1))) sNext)
    (sRet (fC (.int 0))))
def v_law_cell_at : List PyData → Zx.R SV := phi [.sc, .vw] 2 m_law_cell_at
def l_law_order_1 : FS :=
  (sWhile 1000 (fTst (fBin (gEq true) (fVar 2) (fFz (fLst fNil)))) (sSeq (sExpr (fBM kdL (gOwn kAppend) (fVar 3) (fCons (fFz (fBM kdL (gOwn kPopAt) (fVar 2) (fCons (fBin gMod (fVar 1) (fCB gLen (fCons (fVar 2) fNil))) fNil))) fNil)))
    (sSet 1 (fBin gDiv (fVar 1) (fBin gAdd (fCB gLen (fCons (fVar 2) fNil)) (fC (.int 1)))))))
def m_law_order : FS :=
  (sSeq (sSet 2 (fLstRg (fRg1 (fVar 0))))
    (sSeq (sSet 3 (fLst fNil))
    (sSeq l_law_order_1
    (sRet (fFz (fVar 3))))))
def v_law_order : List PyData → Zx.R SV := phi [.vw, .vw] 4 m_law_order
def l_law_more_1 : FS :=
  (sFor (iRng (fCons (fVar 0) fNil)) (.nm 7) (sSeq (sIf (fAndT (fTst (fBin (gEq false) (fBin gMod (fVar 2) (fVar 3)) (fC (.int 0)))) (fTst (fBin gLt (fCB gLenT (fCons (fVar 1) fNil)) (fVar 4)))) (sTStore (fVar 1) (fTup (fCons (fVar 5) (fCons (fVar 6) (fCons (fVar 7) fNil)))) (fC (.bool true))) sNext)
    (sSet 2 (fBin gDiv (fVar 2) (fVar 3)))))
def l_law_more_2 : FS :=
  (sFor (iStr (fC (.str (PySem.Str.ofString "abcd")))) (.nm 6) l_law_more_1)
def l_law_more_3 : FS :=
  (sFor (iRng (fCons (fVar 0) fNil)) (.nm 5) l_law_more_2)
def m_law_more : FS :=
  (sSeq l_law_more_3
    (sRet (fVar 1)))
def v_law_more : List PyData → Zx.R SV := phi [.vw, .vw, .vw, .vw, .vw] 8 m_law_more
def l_law_behind_1 : FS :=
  (sFor (iSeq (fBin gIx (fVar 0) (fC (.int 1)))) (.tp [4, 5, 6]) (sIf (fAndT (fTst (fBin (gEq false) (fVar 5) (fVar 2))) (fTst (fBin (gIn false) (fVar 4) (fVar 1)))) (sDStore (fVar 3) (fVar 6) (fC (.bool true))) sNext))
def m_law_behind : FS :=
  (sSeq (sSet 3 fDct)
    (sSeq l_law_behind_1
    (sRet (fFz (fCB gSortedD (fCons (fVar 3) fNil))))))
def v_law_behind : List PyData → Zx.R SV := phi [.vw, .vw, .vw] 7 m_law_behind
def e_law_is_kind_1 : FE :=
  (fFz (fLc (iSeq (fVar 1)) (.nm 3) fYes (fIsi "bool" (fVar 3)) [3]))
def e_law_is_kind_2 : FE :=
  (fFz (fLc (iSeq (fBin gIx (fBin gIx (fVar 0) (fC (.int 1))) (fC (.int 1)))) (.nm 2) fYes (fAndV (fIsi "tuple" (fVar 2)) (fNotV (fIsi "bool" (fBin gIx (fVar 2) (fC (.int 0)))))) [2]))
def l_law_is_kind_1 : FS :=
  (sFor (iSeq (fBin gIx (fVar 0) (fC (.int 0)))) (.nm 1) (sIf (fOrT (fNotT (fTst (fIsi "list" (fVar 1)))) (fTst (fCB (gBools fun bs => bs.any id) (fCons e_law_is_kind_1 fNil)))) (sRet (fC (.bool false))) sNext))
def m_law_is_kind : FS :=
  (sSeq (sIf (fOrT (fNotT (fTst (fIsi "tuple" (fVar 0)))) (fOrT (fNotT (fTst (fIsi "list" (fBin gIx (fVar 0) (fC (.int 0)))))) (fNotT (fTst (fIsi "tuple" (fBin gIx (fVar 0) (fC (.int 1)))))))) (sRet (fC (.bool false))) sNext)
    (sSeq (sIf (fOrT (fNotT (fTst (fIsi "int" (fBin gIx (fBin gIx (fVar 0) (fC (.int 1))) (fC (.int 0)))))) (fOrT (fTst (fIsi "bool" (fBin gIx (fBin gIx (fVar 0) (fC (.int 1))) (fC (.int 0))))) (fNotT (fTst (fIsi "list" (fBin gIx (fBin gIx (fVar 0) (fC (.int 1))) (fC (.int 1)))))))) (sRet (fC (.bool false))) sNext)
    (sSeq l_law_is_kind_1
    (sRet (fCB (gBools fun bs => bs.all id) (fCons e_law_is_kind_2 fNil))))))
def v_law_is_kind : List PyData → Zx.R SV := phi [.vw] 4 m_law_is_kind
def l_sets_of_1 : FS :=
  (sFor (iTupl (fC (.tuple [.str (PySem.Str.ofString "a"), .str (PySem.Str.ofString "b"), .str (PySem.Str.ofString "c"), .str (PySem.Str.ofString "d")]))) (.nm 6) (sSeq (sSet 7 (fCall [.fz, .vw, .vw] v_places_by (fCons (fVar 1) (fCons (fBin gIx (fVar 2) (fVar 5)) (fCons (fVar 6) fNil)))))
    (sSeq (sIf (fAndT (fTst (fBin (gEq true) (fVar 7) (fFz (fLst fNil)))) (fTst (fTIn true (fCB gTuple (fCons (fVar 7) fNil)) (fVar 3)))) (sSeq (sTStore (fVar 3) (fCB gTuple (fCons (fVar 7) fNil)) (fCB gLen (fCons (fVar 2) fNil)))
    (sExpr (fBM kdL (gOwn kAppend) (fVar 2) (fCons (fVar 7) fNil)))) sNext)
    (sIf (fTst (fBin (gEq true) (fVar 7) (fFz (fLst fNil)))) (sExpr (fBM kdL (gOwn kAppend) (fVar 4) (fCons (fTup (fCons (fVar 5) (fCons (fVar 6) (fCons (fTGet (fVar 3) (fCB gTuple (fCons (fVar 7) fNil))) fNil)))) fNil))) sNext))))
def l_sets_of_2 : FS :=
  (sWhile 10000 (fTst (fBin gLt (fVar 5) (fCB gLen (fCons (fVar 2) fNil)))) (sSeq l_sets_of_1
    (sAug 5 (gI (fun _ _ => true) fun a b => .int (iAdd a b)) (fC (.int 1)))))
def m_sets_of : FS :=
  (sSeq (sSet 1 (fCall [.vw] v_net_of (fCons (fVar 0) fNil)))
    (sSeq (sSet 2 (fLst (fCons (fLstRg (fRg1 (fBin gIx (fVar 0) (fC (.int 0))))) fNil)))
    (sSeq (sSet 3 (fDktO (fCB gTuple (fCons (fBin gIx (fVar 2) (fC (.int 0))) fNil)) (fC (.int 0))))
    (sSeq (sSet 4 (fLst fNil))
    (sSeq (sSet 5 (fC (.int 0)))
    (sSeq l_sets_of_2
    (sRet (fTupO (fCons (fVar 2) (fCons (fTupO (fCons (fCB gLen (fCons (fVar 2) fNil)) (fCons (fVar 4) fNil))) fNil))))))))))
def v_sets_of : List PyData → Zx.R SV := phi [.vw] 8 m_sets_of
def l_law_big_1 : FS :=
  (sFor (iRng (fCons (fC (.int 64)) fNil)) (.nm 5) (sSeq (sSet 6 (fBin gAdd (fBin gAdd (fBin gMod (fCall [.sc, .vw] v_law_cell_at (fCons (fVar 0) (fCons (fBin gAdd (fVar 1) (fBin gMod (fVar 5) (fC (.int 9)))) fNil))) (fBin gPow (fC (.int 10)) (fC (.int 18)))) (fBin gMul (fC (.int 7)) (fVar 5))) (fC (.int 1))))
    (sSet 4 (fBin gAdd (fBin gMul (fVar 4) (fC (.int 8191))) (fBin gMod (fBin gMul (fBin gMod (fBin gAdd (fBin gMul (fVar 6) (fVar 6)) (fBin gMul (fC (.int 31)) (fVar 5))) (fBin gIx (fVar 3) (fBin gMod (fVar 5) (fC (.int 9))))) (fBin gAdd (fVar 5) (fC (.int 3)))) (fC (.int 8191)))))))
def m_law_big : FS :=
  (sSeq (sSet 2 (fCall [.sc, .vw] v_law_cell_at (fCons (fVar 0) (fCons (fVar 1) fNil))))
    (sSeq (sIf (fTst (fBin gGe (fVar 2) (fBin gPow (fC (.int 10)) (fC (.int 18))))) (sRet (fVar 2)) sNext)
    (sSeq (sSet 3 (fTup (fCons (fC (.int 99989)) (fCons (fC (.int 99971)) (fCons (fC (.int 99961)) (fCons (fC (.int 99929)) (fCons (fC (.int 99923)) (fCons (fC (.int 99907)) (fCons (fC (.int 99901)) (fCons (fC (.int 99881)) (fCons (fC (.int 99877)) fNil)))))))))))
    (sSeq (sSet 4 (fC (.int 0)))
    (sSeq l_law_big_1
    (sRet (fVar 4)))))))
def v_law_big : List PyData → Zx.R SV := phi [.sc, .vw] 7 m_law_big
def l_law_ring_1 : FS :=
  (sFor (iRng (fCons (fVar 0) fNil)) (.nm 4) (sSeq (sTStore (fVar 3) (fTup (fCons (fBin gIx (fVar 2) (fBin gSub (fVar 4) (fC (.int 1)))) (fCons (fBin gIx (fC (.str (PySem.Str.ofString "abcd"))) (fBin gMod (fVar 1) (fC (.int 4)))) (fCons (fBin gIx (fVar 2) (fVar 4)) fNil)))) (fC (.bool true)))
    (sSet 1 (fBin gDiv (fVar 1) (fC (.int 4))))))
def m_law_ring : FS :=
  (sSeq (sSet 2 (fCall [.vw, .vw] v_law_order (fCons (fVar 0) (fCons (fVar 1) fNil))))
    (sSeq (sSet 1 (fBin gDiv (fVar 1) (fC (.int 720))))
    (sSeq (sSet 3 fDkt)
    (sSeq l_law_ring_1
    (sRet (fVar 3))))))
def v_law_ring : List PyData → Zx.R SV := phi [.vw, .vw] 5 m_law_ring
def l_law_due_1 : FS :=
  (sFor (iStr (fC (.str (PySem.Str.ofString "abcd")))) (.nm 4) (sSeq (sSet 5 (fCall [.vw, .vw, .vw] v_law_behind (fCons (fVar 0) (fCons (fBin gIx (fVar 1) (fVar 3)) (fCons (fVar 4) fNil)))))
    (sIf (fTst (fBin (gEq true) (fVar 5) (fFz (fLst fNil)))) (sSeq (sIf (fTst (fBin (gInD true) (fVar 5) (fVar 1))) (sExpr (fBM kdL (gOwn kAppend) (fVar 1) (fCons (fFz (fVar 5)) fNil))) sNext)
    (sExpr (fBM kdL (gOwn kAppend) (fVar 2) (fCons (fTup (fCons (fVar 3) (fCons (fVar 4) (fCons (fIdx (fVar 1) (fVar 5)) fNil)))) fNil)))) sNext)))
def l_law_due_2 : FS :=
  (sWhile 10000 (fTst (fBin gLt (fVar 3) (fCB gLen (fCons (fVar 1) fNil)))) (sSeq l_law_due_1
    (sSet 3 (fBin gAdd (fVar 3) (fC (.int 1))))))
def m_law_due : FS :=
  (sSeq (sSet 1 (fLst (fCons (fFz (fLstRg (fRg1 (fBin gIx (fVar 0) (fC (.int 0)))))) fNil)))
    (sSeq (sSet 2 (fLst fNil))
    (sSeq (sSet 3 (fC (.int 0)))
    (sSeq l_law_due_2
    (sRet (fFz (fTupO (fCons (fVar 1) (fCons (fTupO (fCons (fCB gLen (fCons (fVar 1) fNil)) (fCons (fVar 2) fNil))) fNil)))))))))
def v_law_due : List PyData → Zx.R SV := phi [.vw] 6 m_law_due
def l_law_one_way_1 : FS :=
  (sFor (iSeq (fFz (fCB gListT (fCons (fVar 2) fNil)))) (.nm 4) (sTStore (fVar 3) (fTup (fCons (fBin gIx (fVar 4) (fC (.int 0))) (fCons (fBin gIx (fVar 4) (fC (.int 1))) fNil))) (fC (.bool true))))
def l_law_one_way_2 : FS :=
  (sFor (iStr (fC (.str (PySem.Str.ofString "abcd")))) (.nm 6) (sSeq (sSet 7 (fBin gMod (fVar 1) (fBin gMul (fC (.int 3)) (fVar 0))))
    (sSeq (sSet 1 (fBin gDiv (fVar 1) (fBin gMul (fC (.int 3)) (fVar 0))))
    (sIf (fAndT (fTst (fBin gLt (fVar 7) (fVar 0))) (fTst (fTIn true (fTup (fCons (fVar 5) (fCons (fVar 6) fNil))) (fVar 3)))) (sTStore (fVar 2) (fTup (fCons (fVar 5) (fCons (fVar 6) (fCons (fVar 7) fNil)))) (fC (.bool true))) sNext))))
def l_law_one_way_3 : FS :=
  (sFor (iRng (fCons (fVar 0) fNil)) (.nm 5) l_law_one_way_2)
def m_law_one_way : FS :=
  (sSeq (sSet 2 (fCall [.vw, .vw] v_law_ring (fCons (fVar 0) (fCons (fVar 1) fNil))))
    (sSeq (sSet 1 (fBin gDiv (fVar 1) (fBin gPow (fC (.int 10)) (fC (.int 7)))))
    (sSeq (sSet 3 fDkt)
    (sSeq l_law_one_way_1
    (sSeq l_law_one_way_3
    (sRet (fVar 2)))))))
def v_law_one_way : List PyData → Zx.R SV := phi [.vw, .vw] 8 m_law_one_way
def l_law_good_1 : FS :=
  (sFor (iRng (fCons (fC (.int 2)) fNil)) (.nm 3) (sSeq (sSet 4 (fCall [.vw] v_sets_of (fCons (fVar 1) fNil)))
    (sSeq (sIf (fOrT (fTst (fBin (gEq true) (fVar 4) (fVar 2))) (fOrT (fNotT (fTst (fCall [.vw] v_law_is_kind (fCons (fVar 4) fNil)))) (fTst (fBin (gEq true) (fVar 1) (fVar 0))))) (sRet (fC (.bool false))) sNext)
    (sSeq (sExpr (fBM kdL (gOwn kAppend) (fBin gIx (fBin gIx (fVar 4) (fC (.int 0))) (fC (.int 0))) (fCons (fC (.int 0)) fNil)))
    (sSeq (sExpr (fBM kdL (gOwn kReverse) (fBin gIx (fVar 4) (fC (.int 0))) fNil))
    (sExpr (fBM kdL (gOwn kAppend) (fBin gIx (fBin gIx (fVar 4) (fC (.int 1))) (fC (.int 1))) (fCons (fTup (fCons (fC (.int 0)) (fCons (fC (.str (PySem.Str.ofString "a"))) (fCons (fC (.int 0)) fNil)))) fNil))))))))
def m_law_good : FS :=
  (sSeq (sSet 1 (fTup (fCons (fBin gIx (fVar 0) (fC (.int 0))) (fCons (fFz (fCB gList (fCons (fBin gIx (fVar 0) (fC (.int 1))) fNil))) fNil))))
    (sSeq (sSet 2 (fCall [.vw] v_law_due (fCons (fVar 0) fNil)))
    (sSeq l_law_good_1
    (sRet (fC (.bool true))))))
def v_law_good : List PyData → Zx.R SV := phi [.vw] 5 m_law_good
def m_law_reader : FS :=
  (sSeq (sSet 2 (fBin gAdd (fC (.int 1)) (fBin gMod (fVar 0) (fVar 1))))
    (sSeq (sSet 3 (fBin gMod (fBin gDiv (fVar 0) (fVar 1)) (fC (.int 4))))
    (sSeq (sSet 0 (fBin gDiv (fVar 0) (fBin gMul (fC (.int 4)) (fVar 1))))
    (sSeq (sIf (fTst (fBin (gEq false) (fVar 3) (fC (.int 0)))) (sSet 4 (fCallR 5 8 m_law_more (fCons (fVar 2) (fCons fDkt (fCons (fVar 0) (fCons (fC (.int 2)) (fCons (fC (.int 30)) fNil))))))) (sIf (fTst (fBin (gEq false) (fVar 3) (fC (.int 1)))) (sSet 4 (fCallR 5 8 m_law_more (fCons (fVar 2) (fCons fDkt (fCons (fVar 0) (fCons (fC (.int 9)) (fCons (fC (.int 30)) fNil))))))) (sIf (fTst (fBin (gEq false) (fVar 3) (fC (.int 2)))) (sSet 4 (fCall [.vw, .vw] v_law_one_way (fCons (fVar 2) (fCons (fVar 0) fNil)))) (sSet 4 (fCallR 5 8 m_law_more (fCons (fVar 2) (fCons (fCall [.vw, .vw] v_law_ring (fCons (fVar 2) (fCons (fVar 0) fNil))) (fCons (fBin gDiv (fVar 0) (fBin gPow (fC (.int 10)) (fC (.int 7)))) (fCons (fC (.int 11)) (fCons (fC (.int 30)) fNil))))))))))
    (sRet (fTup (fCons (fVar 2) (fCons (fFz (fCB gSortedT (fCons (fVar 4) fNil))) fNil))))))))
def v_law_reader : List PyData → Zx.R SV := phi [.vw, .vw] 5 m_law_reader
def m_law : FS :=
  (sSeq (sSet 1 (fCall [.vw, .vw] v_law_reader (fCons (fCall [.sc, .vw] v_law_big (fCons (fVar 0) (fCons (fC (.int 0)) fNil))) (fCons (fC (.int 6)) fNil))))
    (sSeq (sSet 2 (fCall [.vw, .vw] v_law_reader (fCons (fCall [.sc, .vw] v_law_big (fCons (fVar 0) (fCons (fC (.int 1)) fNil))) (fCons (fC (.int 6)) fNil))))
    (sRet (fAndV (fCall [.vw] v_law_good (fCons (fVar 1) fNil)) (fAndV (fCall [.vw] v_law_good (fCons (fVar 2) fNil)) (fCall [.vw] v_law_good (fCons (fVar 1) fNil)))))))
def v_law : List PyData → Zx.R SV := phi [.sc] 3 m_law
end Gn
namespace Gn
open PySem PySem.Spec L2 Zx
local macro_rules | `(tactic| walk_at "zd") => `(tactic| first | omega | with_unfolding_all (simp only [List.all_cons, List.all_nil, List.all_append, bel_o, bel_n, bel_r, bel_d, bel_vw, bel_sc, bel_un, below_d, List.take_succ_cons, List.take_zero, Bool.and_self, Bool.and_true, decide_eq_true_eq, List.length_cons, List.length_nil, List.length_map, Nat.reduceAdd, Nat.reduceLeDiff, Nat.le_refl, Nat.zero_le, own_0, own_s, reset_un, reset_d, reset_r, reset_vw, reset_sc, reset_nil, Nat.reduceLT, decide_true, decide_false]; done))
local macro_rules | `(tactic| walk_at "z") => `(tactic| simp (disch := walk_at "zd") only [phi_eq, q_nx, q_rt, q_bk, q_ct, q_rz, q_st, f_nx, f_rt, f_rz, f_st, b_ok, b_rz, b_st, t_ok, t_rz, t_st, o_some, o_none, a_seq, a_set, a_if, a_expr, a_ret, a_retN, a_next, a_break, a_cont, a_raise, a_var, p_d, p_vw, p_r, p_sc, p_ex, p_mkv, a_c, a_bin, a_un, a_tst, tst_b, a_andT, a_orT, a_notT, a_andV, a_orV, a_notV, a_chain, a_if', a_nil, a_cons, a_lst, a_tup, a_fz, a_cb, back_d, back_r, back_rz, back_st, a_call, g_nil, g_cons, g_fz, g_sc, g_vw, a_isi, a_bm, a_iseq, s_d, s_vw, a_itup, u_d, u_vw, a_irng, r1_ok, a_irng2, r2_ok, a_ienu, e_1, a_izip, z_2, l_d, l_vw, a_for, w_cn, c_nil, n_nx, n_ct, n_bk, n_rt, n_rz, n_st, a_setT, a_store, i_add, i_sub, i_div, i_mod, i_lt, i_le, i_gt, i_ge, i_eq, i_ne, i_neg, i_int, i_intb, i_abs, i_min, i_max, ix_d, ix_dt, ix_vw, ix_sc, n_d, n_dt, n_vw, n_sc, fzv_d, rb_d, rb_vw, rb_mkv, allD_map, d_nil, d_cons, Bd.go, setAll, tupItems, startS, argS, intsD_ok, List.replicate, List.getElem?_cons_zero, List.getElem?_cons_succ, List.set_cons_zero, List.set_cons_succ, List.length_cons, List.length_nil, List.length_map, List.map_nil, List.map_cons, if_true, if_false, reduceIte, Bool.false_eq_true, Bool.true_eq_false, decide_eq_true_eq, Bool.not_true, Bool.not_false, List.cons_append, List.nil_append, mkv_int, mkv_bool, mkv_none, mkv_str, mkv_lst, Int.reduceLT, Int.reduceLE, Int.reduceNeg, Nat.reduceAdd, Nat.reduceLeDiff, Int.reduceToNat, cl_nil, cl_d, cl_vw, cl_r, trim_len, trim_0, norm_nil, reset_un, reset_d, reset_r, reset_vw, reset_sc, reset_nil, Nat.le_refl, Nat.zero_le, Int.ofNat_eq_natCast, a_while, fzv_nil, trim_g, norm_ok, bel_o, bel_n, bel_r, bel_d, bel_vw, bel_sc, bel_un, below_d, List.take_succ_cons, List.take_zero, mkv_ints, a_lrg1, norm_len, own_0, own_s, a_own, o_seq, o_run, o_ix, o_len, o_lstOf, o_put, o_kd, o_ty, o_list, l_list, l_listv, k_rev, k_clr, Option.isSome_some, List.all_cons, List.all_nil, Bool.and_self, Bool.and_true, Bool.true_and, Nat.reduceLT, decide_true, decide_false, id_eq, ixN_in, shh_ds, shh_OG, List.append_nil, rb_g0, rb_g1, ty_int, ty_bool, ty_tup, ty_list, ty_none, ty_vtup, ty_vlist, is_ii, is_ib, is_bb, is_bi, is_ll, is_tt, is_lt, is_tl, k_app, Bool.or_false, Bool.or_true, Bool.and_false, Bool.false_or, Bool.true_or, Int.toNat_natCast, Option.map_some, Option.map_none, reset_same, own_g0, own_g1, og_at, refs_len, wipeS, turn_nx, turn_ct, i_mulL])
def cellAt (ns : List Int) (k : Int) : Int := (ns[k.toNat]?).getD 0
theorem cell_at_eq {ns : List Int} {k : Int} (h0 : 0 ≤ k) : v_law_cell_at [eI ns, .int k] = .ok (.d (.int (cellAt ns k))) [] := by
  unfold v_law_cell_at m_law_cell_at
  walk_at "z"
  by_cases c : k < (ns.length : Int)
  · rw [if_pos c, atI_0 h0]
    have hk : k.toNat < ns.length := by omega
    unfold cellAt
    rw [List.getElem?_eq_getElem hk]
    walk_at "z"
    rfl
  · rw [if_neg c]
    unfold cellAt
    rw [List.getElem?_eq_none (by omega)]
    walk_at "z"
    rfl
def p18 : Int := 10 ^ (18 : Int).toNat
theorem p18_pos : 0 < p18 := by decide
theorem pw18 {h : AH} : gPow (.d (.int 10)) (.d (.int 18)) h = .ok (.d (.int p18)) h := i_pow (by decide)
def primes : List Int := [99989, 99971, 99961, 99929, 99923, 99907, 99901, 99881, 99877]
theorem prime_at {j : Int} (h0 : 0 ≤ j) (h1 : j < 9) : ∃ p, atI (primes.map PyData.int) j = some (.int p) ∧ 0 < p ∧ p < 100000 := by
  have : j = 0 ∨ j = 1 ∨ j = 2 ∨ j = 3 ∨ j = 4 ∨ j = 5 ∨ j = 6 ∨ j = 7 ∨ j = 8 := by omega
  rcases this with e | e | e | e | e | e | e | e | e <;> subst e <;> exact ⟨_, rfl, by decide, by decide⟩
theorem pow_le {n : Nat} (hn : n ≤ 64) : (8191 : Int) ^ n ≤ 28638903918474961204418783933674838490721739172170652529441449702311064005352904159345284265824628375429359509218999720074396860757073376700445026041564579620512874307979212102266801261478978776245040008231745247475930553606737583615358787106474295296 := by
  have h1 : (8191 : Nat) ^ n ≤ (2 ^ 13) ^ 64 := Nat.le_trans (Nat.pow_le_pow_left (by decide) n) (Nat.pow_le_pow_right (by decide) hn)
  have h2 : ((8191 ^ n : Nat) : Int) ≤ ((28638903918474961204418783933674838490721739172170652529441449702311064005352904159345284265824628375429359509218999720074396860757073376700445026041564579620512874307979212102266801261478978776245040008231745247475930553606737583615358787106474295296 : Nat) : Int) := Int.ofNat_le.mpr h1
  rw [Int.natCast_pow] at h2
  exact h2
theorem big_eq {ns : List Int} {k : Int} (h0 : 0 ≤ k) : ∃ b, 0 ≤ b ∧ v_law_big [eI ns, .int k] = .ok (.d (.int b)) [] := by
  unfold v_law_big m_law_big
  walk_at "z"
  rw [cell_at_eq h0]
  walk_at "z"
  rw [pw18]
  walk_at "z"
  by_cases c : p18 ≤ cellAt ns k
  · refine ⟨cellAt ns k, Int.le_trans (Int.le_of_lt p18_pos) c, ?_⟩
    rw [if_pos c]
    walk_at "z"
  · rw [if_neg c]
    walk_at "z"
    unfold l_law_big_1
    walk_at "z"
    generalize ef : forC _ _ _ _ _ _ _ = o
    obtain ⟨sl', h', rfl, p⟩ := for_inv' ef (P := fun m sl h => h = [] ∧ ∃ acc : Int, 0 ≤ acc ∧ acc < 8191 ^ m ∧ sl = [.sc ns, .d (.int k), .d (.int (cellAt ns k)), .d (.tuple (primes.map PyData.int)), .d (.int acc), .un, .un]) ⟨rfl, 0, by decide, by decide, rfl⟩ (by
      rintro m x sl h e ⟨rfl, acc, a0, a1, rfl⟩
      obtain ⟨hm, rfl⟩ := rngI_get e
      refine ⟨_, rfl, ?_⟩
      have hm : m < 64 := hm
      have p9 : 0 ≤ (0 + (m : Int)) % 9 ∧ (0 + (m : Int)) % 9 < 9 := by omega
      walk_at "z"
      rw [cell_at_eq (by omega)]
      walk_at "z"
      rw [pw18]
      walk_at "z"
      have c0 := Int.emod_nonneg (cellAt ns (k + (0 + (m : Int)) % 9)) (Int.ne_of_gt p18_pos)
      have c1 := Int.emod_lt_of_pos (cellAt ns (k + (0 + (m : Int)) % 9)) p18_pos
      have e18 : p18 = 1000000000000000000 := by decide
      rw [i_mod p18_pos]
      generalize cellAt ns (k + (0 + (m : Int)) % 9) % p18 = z at c0 c1 ⊢
      have ha := pow_le (Nat.le_of_lt hm)
      walk_at "z"
      obtain ⟨q, eq, q0, q1⟩ := prime_at p9.1 p9.2
      rw [eq]
      walk_at "z"
      generalize ey : ((z + 7 * (0 + (m : Int)) + 1) * (z + 7 * (0 + (m : Int)) + 1) + 31 * (0 + (m : Int))) % q = y
      have y0 : 0 ≤ y := ey ▸ Int.emod_nonneg _ (Int.ne_of_gt q0)
      have y1 : y < q := ey ▸ Int.emod_lt_of_pos _ q0
      walk_at "z"
      refine ⟨_, _, rfl, rfl, _, ?_, ?_, rfl⟩
      · have := Int.emod_nonneg (y * (0 + (m : Int) + 3)) (show (8191 : Int) ≠ 0 by decide)
        omega
      · have := Int.emod_lt_of_pos (y * (0 + (m : Int) + 3)) (show (0 : Int) < 8191 by decide)
        rw [Int.pow_succ]
        omega)
    obtain ⟨rfl, acc, a0, a1, rfl⟩ := p
    refine ⟨acc, a0, ?_⟩
    walk_at "z"
def getI (v : List Int) (k : Nat) : Int := v[k]?.getD 0
def getR (g : List (List Int)) (k : Nat) : List Int := g[k]?.getD []
theorem at_I {v : List Int} {k : Nat} (h : k < v.length) : atI (v.map PyData.int) (0 + (k : Int)) = some (.int (getI v k)) := by
  rw [atI_0 (by omega), List.getElem?_map, show (0 + (k : Int)).toNat = k from by omega, List.getElem?_eq_getElem h]
  unfold getI
  rw [List.getElem?_eq_getElem h]; rfl
theorem at_R {g : List (List Int)} {k : Nat} (h : k < g.length) : atI (g.map eI) (0 + (k : Int)) = some (eI (getR g k)) := by
  rw [atI_0 (by omega), List.getElem?_map, show (0 + (k : Int)).toNat = k from by omega, List.getElem?_eq_getElem h]
  unfold getR
  rw [List.getElem?_eq_getElem h]; rfl
theorem at_I0 {v : List Int} (h : 0 < v.length) : atI (v.map PyData.int) 0 = some (.int (getI v 0)) := by
  have := at_I (k := 0) h
  exact this
theorem at_R0 {g : List (List Int)} (h : 0 < g.length) : atI (g.map eI) 0 = some (eI (getR g 0)) := by
  have := at_R (k := 0) h
  exact this
theorem sum_ok {h : AH} {ns : List Int} : gSum [.d (eI ns)] h = .ok (.d (.int ns.sum)) h := by
  have : ∀ ns : List Int, intsOf ((ns.map PyData.int).map SV.d) = some ns := fun ns => by
    induction ns with
    | nil => rfl
    | cons n ns ih =>
      show (intsOf ((ns.map PyData.int).map SV.d)).map (n :: ·) = _
      rw [ih]; rfl
  unfold gSum lstInts
  dsimp only
  rw [lst_d]
  dsimp only
  rw [this]
local macro_rules | `(tactic| walk_at "y") => `(tactic| simp (disch := walk_at "zd") only [phi_eq, q_nx, q_rt, q_bk, q_ct, q_rz, q_st, f_nx, f_rt, f_rz, f_st, b_ok, b_rz, b_st, t_ok, t_rz, t_st, o_some, o_none, a_seq, a_set, a_if, a_expr, a_ret, a_retN, a_next, a_break, a_cont, a_raise, a_var, p_d, p_vw, p_r, p_sc, p_ex, p_mkv, a_c, a_bin, a_un, a_tst, tst_b, a_andT, a_orT, a_notT, a_andV, a_orV, a_notV, a_chain, a_if', a_nil, a_cons, a_lst, a_tup, a_fz, a_cb, back_d, back_r, back_rz, back_st, a_call, g_nil, g_cons, g_fz, g_sc, g_vw, a_isi, a_bm, a_iseq, s_d, s_vw, a_itup, u_d, u_vw, a_irng, r1_ok, a_irng2, r2_ok, a_ienu, e_1, a_izip, z_2, l_d, l_vw, a_for, w_cn, c_nil, n_nx, n_ct, n_bk, n_rt, n_rz, n_st, a_setT, a_store, i_add, i_sub, i_div, i_mod, i_lt, i_le, i_gt, i_ge, i_eq, i_ne, i_neg, i_int, i_intb, i_abs, i_min, i_max, ix_d, ix_dt, ix_vw, ix_sc, n_d, n_dt, n_vw, n_sc, fzv_d, rb_d, rb_vw, rb_mkv, allD_map, d_nil, d_cons, Bd.go, setAll, tupItems, startS, argS, intsD_ok, List.replicate, List.getElem?_cons_zero, List.getElem?_cons_succ, List.set_cons_zero, List.set_cons_succ, List.length_cons, List.length_nil, List.length_map, List.map_nil, List.map_cons, if_true, if_false, reduceIte, Bool.false_eq_true, Bool.true_eq_false, decide_eq_true_eq, Bool.not_true, Bool.not_false, List.cons_append, List.nil_append, mkv_int, mkv_bool, mkv_none, mkv_str, mkv_lst, Int.reduceLT, Int.reduceLE, Int.reduceNeg, Nat.reduceAdd, Nat.reduceLeDiff, Int.reduceToNat, cl_nil, cl_d, cl_vw, cl_r, trim_len, trim_0, norm_nil, reset_un, reset_d, reset_r, reset_vw, reset_sc, reset_nil, Nat.le_refl, Nat.zero_le, Int.ofNat_eq_natCast, a_while, fzv_nil, trim_g, norm_ok, bel_o, bel_n, bel_r, bel_d, bel_vw, bel_sc, bel_un, below_d, List.take_succ_cons, List.take_zero, mkv_ints, a_lrg1, norm_len, own_0, own_s, a_own, o_seq, o_run, o_ix, o_len, o_lstOf, o_put, o_kd, o_ty, o_list, l_list, l_listv, k_rev, k_clr, Option.isSome_some, List.all_cons, List.all_nil, Bool.and_self, Bool.and_true, Bool.true_and, Nat.reduceLT, decide_true, decide_false, id_eq, ixN_in, shh_ds, shh_OG, List.append_nil, rb_g0, rb_g1, ty_int, ty_bool, ty_tup, ty_list, ty_none, ty_vtup, ty_vlist, is_ii, is_ib, is_bb, is_bi, is_ll, is_tt, is_lt, is_tl, k_app, Bool.or_false, Bool.or_true, Bool.and_false, Bool.false_or, Bool.true_or, Int.toNat_natCast, Option.map_some, Option.map_none, reset_same, own_g0, own_g1, og_at, refs_len, wipeS, at_I, at_R, at_I0, at_R0, sum_ok, turn_nx, turn_ct, i_mulL])
end Gn
namespace Zx.V
open PySem PySem.Spec L2
def Fa3 {α β γ : Type} (P : α → β → γ → Prop) : List α → List β → List γ → Prop
  | [], [], [] => True
  | a :: as, b :: bs, c :: cs => P a b c ∧ Fa3 P as bs cs
  | _, _, _ => False
section
variable {α β γ : Type} {P Q : α → β → γ → Prop}
theorem Fa3.len : ∀ {as : List α} {bs : List β} {cs : List γ}, Fa3 P as bs cs → as.length = bs.length ∧ cs.length = bs.length
  | [], [], [], _ => ⟨rfl, rfl⟩
  | a :: as, b :: bs, c :: cs, ⟨_, r⟩ => by
    have := Fa3.len r
    rw [List.length_cons, List.length_cons, List.length_cons]
    omega
  | [], [], c :: cs, h => h.elim
  | [], b :: bs, [], h => h.elim
  | [], b :: bs, c :: cs, h => h.elim
  | a :: as, [], [], h => h.elim
  | a :: as, [], c :: cs, h => h.elim
  | a :: as, b :: bs, [], h => h.elim
theorem Fa3.imp {cs0 : List γ} (k : ∀ a b c, c ∈ cs0 → P a b c → Q a b c) : ∀ {as : List α} {bs : List β} {cs : List γ}, (∀ c ∈ cs, c ∈ cs0) → Fa3 P as bs cs → Fa3 Q as bs cs
  | [], [], [], _, _ => trivial
  | a :: as, b :: bs, c :: cs, m, ⟨h, r⟩ => ⟨k a b c (m c List.mem_cons_self) h, Fa3.imp k (fun c' hc => m c' (List.mem_cons_of_mem _ hc)) r⟩
  | [], [], c :: cs, _, h => h.elim
  | [], b :: bs, [], _, h => h.elim
  | [], b :: bs, c :: cs, _, h => h.elim
  | a :: as, [], [], _, h => h.elim
  | a :: as, [], c :: cs, _, h => h.elim
  | a :: as, b :: bs, [], _, h => h.elim
theorem Fa3.get : ∀ {as : List α} {bs : List β} {cs : List γ} {i : Nat} {b : β}, Fa3 P as bs cs → bs[i]? = some b → ∃ a c, as[i]? = some a ∧ cs[i]? = some c ∧ P a b c
  | a :: as, b :: bs, c :: cs, 0, b', ⟨h, r⟩, e => by
    cases e
    exact ⟨a, c, rfl, rfl, h⟩
  | a :: as, b :: bs, c :: cs, i + 1, b', ⟨h, r⟩, e => by
    have e : bs[i]? = some b' := e
    obtain ⟨x, y, e1, e2, p⟩ := Fa3.get r e
    exact ⟨x, y, e1, e2, p⟩
  | [], [], [], i, b', _, e => by simp at e
  | [], [], c :: cs, _, _, h, _ => h.elim
  | [], b :: bs, [], _, _, h, _ => h.elim
  | [], b :: bs, c :: cs, _, _, h, _ => h.elim
  | a :: as, [], [], _, _, h, _ => h.elim
  | a :: as, [], c :: cs, _, _, h, _ => h.elim
  | a :: as, b :: bs, [], _, _, h, _ => h.elim
theorem Fa3.set {a' : α} {b' : β} {c' : γ} (p : P a' b' c') : ∀ {as : List α} {bs : List β} {cs : List γ} (i : Nat), Fa3 P as bs cs → Fa3 P (as.set i a') (bs.set i b') (cs.set i c')
  | a :: as, b :: bs, c :: cs, 0, ⟨h, r⟩ => ⟨p, r⟩
  | a :: as, b :: bs, c :: cs, i + 1, ⟨h, r⟩ => ⟨h, Fa3.set p i r⟩
  | [], [], [], i, h => h
  | [], [], c :: cs, _, h => h.elim
  | [], b :: bs, [], _, h => h.elim
  | [], b :: bs, c :: cs, _, h => h.elim
  | a :: as, [], [], _, h => h.elim
  | a :: as, [], c :: cs, _, h => h.elim
  | a :: as, b :: bs, [], _, h => h.elim
theorem Fa3.erase : ∀ {as : List α} {bs : List β} {cs : List γ} (i : Nat), Fa3 P as bs cs → Fa3 P (as.eraseIdx i) (bs.eraseIdx i) (cs.eraseIdx i)
  | a :: as, b :: bs, c :: cs, 0, ⟨h, r⟩ => r
  | a :: as, b :: bs, c :: cs, i + 1, ⟨h, r⟩ => ⟨h, Fa3.erase i r⟩
  | [], [], [], i, h => h
  | [], [], c :: cs, _, h => h.elim
  | [], b :: bs, [], _, h => h.elim
  | [], b :: bs, c :: cs, _, h => h.elim
  | a :: as, [], [], _, h => h.elim
  | a :: as, [], c :: cs, _, h => h.elim
  | a :: as, b :: bs, [], _, h => h.elim
theorem Fa3.app {as' : List α} {bs' : List β} {cs' : List γ} (r' : Fa3 P as' bs' cs') : ∀ {as : List α} {bs : List β} {cs : List γ}, Fa3 P as bs cs → Fa3 P (as ++ as') (bs ++ bs') (cs ++ cs')
  | a :: as, b :: bs, c :: cs, ⟨h, r⟩ => ⟨h, Fa3.app r' r⟩
  | [], [], [], h => r'
  | [], [], c :: cs, h => h.elim
  | [], b :: bs, [], h => h.elim
  | [], b :: bs, c :: cs, h => h.elim
  | a :: as, [], [], h => h.elim
  | a :: as, [], c :: cs, h => h.elim
  | a :: as, b :: bs, [], h => h.elim
theorem Fa3.mem : ∀ {as : List α} {bs : List β} {cs : List γ} {c : γ}, Fa3 P as bs cs → c ∈ cs → ∃ a b, a ∈ as ∧ b ∈ bs ∧ P a b c
  | a :: as, b :: bs, c :: cs, c', ⟨h, r⟩, m => by
    rcases List.mem_cons.mp m with rfl | m
    · exact ⟨a, b, List.mem_cons_self, List.mem_cons_self, h⟩
    · obtain ⟨x, y, h1, h2, p⟩ := Fa3.mem r m
      exact ⟨x, y, List.mem_cons_of_mem _ h1, List.mem_cons_of_mem _ h2, p⟩
  | [], [], [], _, h, m => by cases m
  | [], [], c :: cs, _, h, _ => h.elim
  | [], b :: bs, [], _, h, _ => h.elim
  | [], b :: bs, c :: cs, _, h, _ => h.elim
  | a :: as, [], [], _, h, _ => h.elim
  | a :: as, [], c :: cs, _, h, _ => h.elim
  | a :: as, b :: bs, [], _, h, _ => h.elim
end
theorem nd_set : ∀ {fs : List (List Nat)} {i : Nat} {f : List Nat}, fs.flatten.Nodup → f.Nodup → (∀ n ∈ f, n ∉ (fs.set i []).flatten) → (fs.set i f).flatten.Nodup
  | [], i, f, h, _, _ => by simpa using h
  | g :: fs, 0, f, h, hf, d => by
    rw [List.flatten_cons, List.nodup_append] at h
    show (f :: fs).flatten.Nodup
    rw [List.flatten_cons, List.nodup_append]
    refine ⟨hf, h.2.1, fun a ha b hb e => d a ha ?_⟩
    show a ∈ ([] :: fs).flatten
    rw [List.flatten_cons, List.nil_append, e]
    exact hb
  | g :: fs, i + 1, f, h, hf, d => by
    rw [List.flatten_cons, List.nodup_append] at h
    show (g :: fs.set i f).flatten.Nodup
    have d' : ∀ n ∈ f, n ∉ g ∧ n ∉ (fs.set i []).flatten := fun n hn => by
      have := d n hn
      rw [show (g :: fs).set (i + 1) [] = g :: fs.set i [] from rfl, List.flatten_cons, List.mem_append, not_or] at this
      exact this
    rw [List.flatten_cons, List.nodup_append]
    refine ⟨h.1, nd_set h.2.1 hf fun n hn => (d' n hn).2, fun a ha b hb e => ?_⟩
    subst e
    have : ∀ (fs : List (List Nat)) (i : Nat) (f : List Nat) (a : Nat), a ∈ (fs.set i f).flatten → a ∈ f ∨ a ∈ fs.flatten := by
      intro fs i f a m
      obtain ⟨l, hl, hm⟩ := List.mem_flatten.mp m
      rcases List.mem_or_eq_of_mem_set hl with h | h
      · exact .inr (List.mem_flatten.mpr ⟨l, h, hm⟩)
      · exact .inl (h ▸ hm)
    rcases this _ _ _ _ hb with z | z
    · exact (d' a z).1 ha
    · exact h.2.2 a ha a z rfl
theorem mem_set {fs : List (List Nat)} {i : Nat} {f : List Nat} {a : Nat} (m : a ∈ (fs.set i f).flatten) : a ∈ f ∨ a ∈ (fs.set i []).flatten := by
  obtain ⟨l, hl, hm⟩ := List.mem_flatten.mp m
  obtain ⟨j, hj⟩ := List.getElem?_of_mem hl
  by_cases e : i = j
  · subst e
    have hlt : i < fs.length := by
      have := (List.getElem?_eq_some_iff.mp hj).1
      rw [List.length_set] at this
      exact this
    rw [List.getElem?_set_self hlt] at hj
    cases hj
    exact .inl hm
  · rw [List.getElem?_set_ne e] at hj
    refine .inr (List.mem_flatten.mpr ⟨l, ?_, hm⟩)
    refine List.mem_of_getElem? (i := j) ?_
    rw [List.getElem?_set_ne e]; exact hj
theorem mem_rest {fs : List (List Nat)} {i : Nat} {a : Nat} (m : a ∈ (fs.set i []).flatten) : a ∈ fs.flatten := by
  obtain ⟨l, hl, hm⟩ := List.mem_flatten.mp m
  rcases List.mem_or_eq_of_mem_set hl with h | h
  · exact List.mem_flatten.mpr ⟨l, h, hm⟩
  · rw [h] at hm; cases hm
theorem mem_at {fs : List (List Nat)} {i : Nat} {f : List Nat} {a : Nat} (e : fs[i]? = some f) (m : a ∈ f) : a ∈ fs.flatten := List.mem_flatten.mpr ⟨f, List.mem_of_getElem? e, m⟩
theorem nd_at : ∀ {fs : List (List Nat)} {i : Nat} {f : List Nat}, fs.flatten.Nodup → fs[i]? = some f → f.Nodup ∧ ∀ a ∈ f, a ∉ (fs.set i []).flatten
  | g :: fs, 0, f, h, e => by
    cases e
    rw [List.flatten_cons, List.nodup_append] at h
    refine ⟨h.1, fun a ha m => ?_⟩
    have m : a ∈ ([] :: fs).flatten := m
    rw [List.flatten_cons, List.nil_append] at m
    exact h.2.2 a ha a m rfl
  | g :: fs, i + 1, f, h, e => by
    have e : fs[i]? = some f := e
    rw [List.flatten_cons, List.nodup_append] at h
    obtain ⟨h1, h2⟩ := nd_at h.2.1 e
    refine ⟨h1, fun a ha m => ?_⟩
    have m : a ∈ (g :: fs.set i []).flatten := m
    rw [List.flatten_cons, List.mem_append] at m
    rcases m with m | m
    · exact h.2.2 a m a (mem_at e ha) rfl
    · exact h2 a ha m
  | [], i, f, h, e => by simp at e
theorem nd_rest {fs : List (List Nat)} {i : Nat} (h : fs.flatten.Nodup) : (fs.set i []).flatten.Nodup := nd_set h List.nodup_nil (by simp)
def isLD : PyData → Bool
  | .list _ => true
  | .dict _ => true
  | .tuple ds => !immL ds
  | _ => false
def leaf (b : Bool) (s : SV) (x : PyData) : Prop := s = .d x ∨ (b = true ∧ s = mkv x)
def RV (h : AH) (b : Bool) : Nat → SV → PyData → List Nat → Prop
  | 0, s, x, f => f = [] ∧ leaf b s x
  | k + 1, s, x, f => (f = [] ∧ leaf b s x ∧ isLD x = false) ∨ (∃ n xs ds fs, s = .r n ∧ h[n]? = some (some (.lst xs)) ∧ x = .list ds ∧ f = n :: fs.flatten ∧ Fa3 (RV h b k) xs ds fs)
    ∨ (∃ n kvs ds fs, s = .r n ∧ h[n]? = some (some (.dct kvs)) ∧ x = .dict (zipD (kvs.map Prod.fst) ds) ∧ f = n :: fs.flatten ∧ Fa3 (RV h b k) (kvs.map Prod.snd) ds fs)
    ∨ (∃ n xs ds fs, s = .r n ∧ (h[n]? = some (some (.tup xs)) ∧ immL ds = false) ∧ x = .tuple ds ∧ f = n :: fs.flatten ∧ Fa3 (RV h b k) xs ds fs)
    ∨ (∃ n kvs ds fs, s = .r n ∧ (h[n]? = some (some (.dkt kvs)) ∧ 60 ≤ k) ∧ x = Zx.tkD (kvs.map Prod.fst) ds ∧ f = n :: fs.flatten ∧ Fa3 (RV h b k) (kvs.map Prod.snd) ds fs)
theorem RV.frame {h h' : AH} {b : Bool} : ∀ {k : Nat} {s : SV} {x : PyData} {f : List Nat}, (∀ n ∈ f, h'[n]? = h[n]?) → RV h b k s x f → RV h' b k s x f
  | 0, s, x, f, _, r => r
  | k + 1, s, x, f, e, r => by
    unfold RV at r ⊢
    rcases r with r | ⟨n, xs, ds, fs, rfl, hn, rfl, rfl, r⟩ | ⟨n, xs, ds, fs, rfl, hn, rfl, rfl, r⟩ | ⟨n, xs, ds, fs, rfl, hn, rfl, rfl, r⟩ | ⟨n, xs, ds, fs, rfl, hn, rfl, rfl, r⟩
    · exact .inl r
    · refine .inr (.inl ⟨n, xs, ds, fs, rfl, (e n List.mem_cons_self).trans hn, rfl, rfl, ?_⟩)
      exact Fa3.imp (cs0 := fs) (fun a b' c hc p => RV.frame (fun m hm => e m (List.mem_cons_of_mem _ (List.mem_flatten.mpr ⟨c, hc, hm⟩))) p) (fun c hc => hc) r
    · refine .inr (.inr (.inl ⟨n, xs, ds, fs, rfl, (e n List.mem_cons_self).trans hn, rfl, rfl, ?_⟩))
      exact Fa3.imp (cs0 := fs) (fun a b' c hc p => RV.frame (fun m hm => e m (List.mem_cons_of_mem _ (List.mem_flatten.mpr ⟨c, hc, hm⟩))) p) (fun c hc => hc) r
    · refine .inr (.inr (.inr (.inl ⟨n, xs, ds, fs, rfl, ⟨(e n List.mem_cons_self).trans hn.1, hn.2⟩, rfl, rfl, ?_⟩)))
      exact Fa3.imp (cs0 := fs) (fun a b' c hc p => RV.frame (fun m hm => e m (List.mem_cons_of_mem _ (List.mem_flatten.mpr ⟨c, hc, hm⟩))) p) (fun c hc => hc) r
    · refine .inr (.inr (.inr (.inr ⟨n, xs, ds, fs, rfl, ⟨(e n List.mem_cons_self).trans hn.1, hn.2⟩, rfl, rfl, ?_⟩)))
      exact Fa3.imp (cs0 := fs) (fun a b' c hc p => RV.frame (fun m hm => e m (List.mem_cons_of_mem _ (List.mem_flatten.mpr ⟨c, hc, hm⟩))) p) (fun c hc => hc) r
theorem RV.lt {h : AH} {b : Bool} : ∀ {k : Nat} {s : SV} {x : PyData} {f : List Nat}, RV h b k s x f → ∀ n ∈ f, n < h.length
  | 0, s, x, f, r, n, m => by rw [r.1] at m; cases m
  | k + 1, s, x, f, r, n, m => by
    unfold RV at r
    rcases r with r | ⟨n', xs, ds, fs, rfl, hn, rfl, rfl, r⟩ | ⟨n', xs, ds, fs, rfl, hn, rfl, rfl, r⟩ | ⟨n', xs, ds, fs, rfl, hn, rfl, rfl, r⟩ | ⟨n', xs, ds, fs, rfl, hn, rfl, rfl, r⟩
    · rw [r.1] at m; cases m
    · rcases List.mem_cons.mp m with rfl | m
      · exact (List.getElem?_eq_some_iff.mp hn).1
      · obtain ⟨l, hl, hm⟩ := List.mem_flatten.mp m
        obtain ⟨a, d, _, _, p⟩ := Fa3.mem r hl
        exact RV.lt p n hm
    · rcases List.mem_cons.mp m with rfl | m
      · exact (List.getElem?_eq_some_iff.mp hn).1
      · obtain ⟨l, hl, hm⟩ := List.mem_flatten.mp m
        obtain ⟨a, d, _, _, p⟩ := Fa3.mem r hl
        exact RV.lt p n hm
    · rcases List.mem_cons.mp m with rfl | m
      · exact (List.getElem?_eq_some_iff.mp hn.1).1
      · obtain ⟨l, hl, hm⟩ := List.mem_flatten.mp m
        obtain ⟨a, d, _, _, p⟩ := Fa3.mem r hl
        exact RV.lt p n hm
    · rcases List.mem_cons.mp m with rfl | m
      · exact (List.getElem?_eq_some_iff.mp hn.1).1
      · obtain ⟨l, hl, hm⟩ := List.mem_flatten.mp m
        obtain ⟨a, d, _, _, p⟩ := Fa3.mem r hl
        exact RV.lt p n hm
theorem RV.app {h t : AH} {b : Bool} {k : Nat} {s : SV} {x : PyData} {f : List Nat} (r : RV h b k s x f) : RV (h ++ t) b k s x f := r.frame fun n m => by
  rw [List.getElem?_append_left (r.lt n m)]
theorem leaf_rb {h : AH} {b : Bool} {s : SV} {x : PyData} {j : Nat} (l : leaf b s x) : rb h j s = some x := by
  rcases l with rfl | ⟨_, rfl⟩
  · exact rb_d
  · exact rb_mkv
theorem RV.rb {h : AH} {b : Bool} : ∀ {k : Nat} {s : SV} {x : PyData} {f : List Nat} {j : Nat}, RV h b k s x f → k ≤ j → rb h j s = some x
  | 0, s, x, f, j, r, _ => leaf_rb r.2
  | k + 1, s, x, f, 0, r, hj => by omega
  | k + 1, s, x, f, j + 1, r, hj => by
    unfold RV at r
    have lst : ∀ (xs : List SV) (ds : List PyData) (fs : List (List Nat)), Fa3 (RV h b k) xs ds fs → rbL h j xs = some ds := by
      intro xs
      induction xs with
      | nil =>
        intro ds fs r
        cases ds with
        | nil => unfold rbL; rfl
        | cons d ds => cases fs <;> exact r.elim
      | cons a xs ih =>
        intro ds fs r
        cases ds with
        | nil => cases fs <;> exact r.elim
        | cons d ds =>
          cases fs with
          | nil => exact r.elim
          | cons f fs =>
            unfold rbL
            rw [RV.rb r.1 (by omega : k ≤ j)]
            dsimp only
            rw [ih ds fs r.2]
    rcases r with r | ⟨n', xs, ds, fs, rfl, hn, rfl, rfl, r⟩ | ⟨n', xs, ds, fs, rfl, hn, rfl, rfl, r⟩ | ⟨n', xs, ds, fs, rfl, hn, rfl, rfl, r⟩ | ⟨n', xs, ds, fs, rfl, hn, rfl, rfl, r⟩
    · exact leaf_rb r.2.1
    · unfold Zx.rb
      rw [hn]
      dsimp only
      rw [lst xs ds fs r]; rfl
    · unfold Zx.rb
      rw [hn]
      dsimp only
      rw [lst _ ds fs r]; rfl
    · unfold Zx.rb
      rw [hn.1]
      dsimp only
      rw [lst _ ds fs r]; rfl
    · unfold Zx.rb
      rw [hn.1]
      dsimp only
      rw [if_pos (by omega), lst _ ds fs r]; rfl
theorem RV.below {h : AH} {b : Bool} {L : Nat} (hL : (h.take L).all (belowO L) = true) : ∀ {k : Nat} {s : SV} {x : PyData} {f : List Nat}, RV h b k s x f → below L s = true → ∀ n ∈ f, n < L
  | 0, s, x, f, r, _, n, m => by rw [r.1] at m; cases m
  | k + 1, s, x, f, r, hs, n, m => by
    unfold RV at r
    have lst : ∀ (xs : List SV) (ds : List PyData) (fs : List (List Nat)), Fa3 (RV h b k) xs ds fs → xs.all (Zx.below L) = true → ∀ n ∈ fs.flatten, n < L := by
      intro xs
      induction xs with
      | nil =>
        intro ds fs r
        cases ds with
        | nil => cases fs with
          | nil => intro _ n m; cases m
          | cons f fs => exact r.elim
        | cons d ds => cases fs <;> exact r.elim
      | cons a xs ih =>
        intro ds fs r
        cases ds with
        | nil => cases fs <;> exact r.elim
        | cons d ds =>
          cases fs with
          | nil => exact r.elim
          | cons f fs =>
            intro hx n m
            rw [List.all_cons, Bool.and_eq_true] at hx
            rw [List.flatten_cons, List.mem_append] at m
            rcases m with m | m
            · exact RV.below hL r.1 hx.1 n m
            · exact ih ds fs r.2 hx.2 n m
    have cell : ∀ n' o, Zx.below L (.r n') = true → h[n']? = some o → n' < L ∧ belowO L o = true := fun n' o hb hn => by
      have hlt : n' < L := of_decide_eq_true hb
      refine ⟨hlt, ?_⟩
      rw [List.all_eq_true] at hL
      refine hL o (List.mem_of_getElem? (i := n') ?_)
      rw [List.getElem?_take_of_lt hlt]; exact hn
    rcases r with r | ⟨n', xs, ds, fs, rfl, hn, rfl, rfl, r⟩ | ⟨n', xs, ds, fs, rfl, hn, rfl, rfl, r⟩ | ⟨n', xs, ds, fs, rfl, hn, rfl, rfl, r⟩ | ⟨n', xs, ds, fs, rfl, hn, rfl, rfl, r⟩
    · rw [r.1] at m; cases m
    · obtain ⟨h1, h2⟩ := cell n' _ hs hn
      rcases List.mem_cons.mp m with rfl | m
      · exact h1
      · exact lst xs ds fs r h2 n m
    · obtain ⟨h1, h2⟩ := cell n' _ hs hn
      rcases List.mem_cons.mp m with rfl | m
      · exact h1
      · exact lst _ ds fs r h2 n m
    · obtain ⟨h1, h2⟩ := cell n' _ hs hn.1
      rcases List.mem_cons.mp m with rfl | m
      · exact h1
      · exact lst _ ds fs r h2 n m
    · obtain ⟨h1, h2⟩ := cell n' _ hs hn.1
      rcases List.mem_cons.mp m with rfl | m
      · exact h1
      · exact lst _ ds fs r h2 n m
theorem RV.cut {h : AH} {b : Bool} {L : Nat} {k : Nat} {s : SV} {x : PyData} {f : List Nat} (r : RV h b k s x f) (d : ∀ n ∈ f, n < L) : RV (h.take L) b k s x f := r.frame fun n m => List.getElem?_take_of_lt (d n m)
theorem RV.fz {b : Bool} (hb : b = false) : ∀ {k : Nat} {h : AH} {s : SV} {x : PyData} {f : List Nat} {j : Nat}, RV h b k s x f → f.Nodup → k ≤ j → j ≤ 60 → ∃ h', fzv j h s = some (x, h') ∧ h'.length = h.length ∧ ∀ m, m ∉ f → h'[m]? = h[m]?
  | 0, h, s, x, f, j, r, _, _, _ => by
    rcases r.2 with rfl | ⟨e, _⟩
    · refine ⟨h, ?_, rfl, fun _ _ => rfl⟩
      cases j <;> (unfold fzv; rfl)
    · rw [hb] at e; cases e
  | k + 1, h, s, x, f, 0, r, _, hj, _ => by omega
  | k + 1, h, s, x, f, j + 1, r, nd, hj, h60 => by
    unfold RV at r
    have lst : ∀ (xs : List SV) (h : AH) (ds : List PyData) (fs : List (List Nat)), Fa3 (RV h b k) xs ds fs → fs.flatten.Nodup → ∃ h', fzL j h xs = some (ds, h') ∧ h'.length = h.length ∧ ∀ m, m ∉ fs.flatten → h'[m]? = h[m]? := by
      intro xs
      induction xs with
      | nil =>
        intro h ds fs r _
        cases ds with
        | nil => exact ⟨h, by unfold fzL; rfl, rfl, fun _ _ => rfl⟩
        | cons d ds => cases fs <;> exact r.elim
      | cons a xs ih =>
        intro h ds fs r nd
        cases ds with
        | nil => cases fs <;> exact r.elim
        | cons d ds =>
          cases fs with
          | nil => exact r.elim
          | cons f fs =>
            rw [List.flatten_cons, List.nodup_append] at nd
            obtain ⟨h1, e1, l1, k1⟩ := RV.fz hb r.1 nd.1 (by omega : k ≤ j) (by omega)
            have r2 : Fa3 (RV h1 b k) xs ds fs := Fa3.imp (cs0 := fs) (fun a b' c hc p => RV.frame (fun m hm => k1 m fun z => nd.2.2 m z m (List.mem_flatten.mpr ⟨c, hc, hm⟩) rfl) p) (fun c hc => hc) r.2
            obtain ⟨h2, e2, l2, k2⟩ := ih h1 ds fs r2 nd.2.1
            refine ⟨h2, ?_, l2.trans l1, fun m hm => ?_⟩
            · unfold fzL
              rw [e1]
              dsimp only
              rw [e2]
            · rw [List.flatten_cons, List.mem_append, not_or] at hm
              rw [k2 m hm.2, k1 m hm.1]
    rcases r with r | ⟨n', xs, ds, fs, rfl, hn, rfl, rfl, r⟩ | ⟨n', xs, ds, fs, rfl, hn, rfl, rfl, r⟩ | ⟨n', xs, ds, fs, rfl, hn, rfl, rfl, r⟩ | ⟨n', xs, ds, fs, rfl, hn, rfl, rfl, r⟩
    · rcases r.2.1 with rfl | ⟨e, _⟩
      · refine ⟨h, ?_, rfl, fun _ _ => rfl⟩
        unfold fzv; rfl
      · rw [hb] at e; cases e
    · rw [List.nodup_cons] at nd
      obtain ⟨h1, e1, l1, k1⟩ := lst xs h ds fs r nd.2
      refine ⟨h1.set n' none, ?_, by rw [List.length_set]; exact l1, fun m hm => ?_⟩
      · unfold fzv
        rw [hn]
        dsimp only
        rw [e1]
        dsimp only
        rw [k1 n' nd.1, hn]
        dsimp only
        rw [if_pos ⟨rfl, l1⟩]
      · rw [List.mem_cons, not_or] at hm
        rw [List.getElem?_set_ne (Ne.symm hm.1), k1 m hm.2]
    · rw [List.nodup_cons] at nd
      obtain ⟨h1, e1, l1, k1⟩ := lst _ h ds fs r nd.2
      refine ⟨h1.set n' none, ?_, by rw [List.length_set]; exact l1, fun m hm => ?_⟩
      · unfold fzv
        rw [hn]
        dsimp only
        rw [e1]
        dsimp only
        rw [k1 n' nd.1, hn]
        dsimp only
        rw [if_pos ⟨rfl, l1⟩]
      · rw [List.mem_cons, not_or] at hm
        rw [List.getElem?_set_ne (Ne.symm hm.1), k1 m hm.2]
    · rw [List.nodup_cons] at nd
      obtain ⟨h1, e1, l1, k1⟩ := lst _ h ds fs r nd.2
      refine ⟨h1.set n' none, ?_, by rw [List.length_set]; exact l1, fun m hm => ?_⟩
      · unfold fzv
        rw [hn.1]
        dsimp only
        rw [e1]
        dsimp only
        rw [k1 n' nd.1, hn.1]
        dsimp only
        rw [if_pos ⟨rfl, l1⟩]
      · rw [List.mem_cons, not_or] at hm
        rw [List.getElem?_set_ne (Ne.symm hm.1), k1 m hm.2]
    · have := hn.2; omega
theorem RV.shift {h hn : AH} : ∀ {k : Nat} {s : SV} {x : PyData} {f : List Nat}, RV hn false k s x f → RV (h ++ shh h.length hn) false k (shv h.length s) x (f.map (· + h.length))
  | 0, s, x, f, r => by
    rcases r with ⟨rfl, rfl | ⟨e, _⟩⟩
    · exact ⟨rfl, .inl rfl⟩
    · cases e
  | k + 1, s, x, f, r => by
    unfold RV at r ⊢
    have lst : ∀ (xs : List SV) (ds : List PyData) (fs : List (List Nat)), Fa3 (RV hn false k) xs ds fs → Fa3 (RV (h ++ shh h.length hn) false k) (xs.map (shv h.length)) ds (fs.map (List.map (· + h.length))) := by
      intro xs
      induction xs with
      | nil =>
        intro ds fs r
        cases ds with
        | nil => cases fs with
          | nil => exact trivial
          | cons f fs => exact r.elim
        | cons d ds => cases fs <;> exact r.elim
      | cons a xs ih =>
        intro ds fs r
        cases ds with
        | nil => cases fs <;> exact r.elim
        | cons d ds =>
          cases fs with
          | nil => exact r.elim
          | cons f fs => exact ⟨RV.shift r.1, ih ds fs r.2⟩
    have cell : ∀ n o, hn[n]? = some (some o) → (h ++ shh h.length hn)[n + h.length]? = some (some (sho h.length o)) := fun n o e => by
      rw [List.getElem?_append_right (by omega), Nat.add_sub_cancel]
      unfold shh
      rw [List.getElem?_map, e]; rfl
    rcases r with ⟨rfl, l, hl⟩ | ⟨n', xs, ds, fs, rfl, hn, rfl, rfl, r⟩ | ⟨n', xs, ds, fs, rfl, hn, rfl, rfl, r⟩ | ⟨n', xs, ds, fs, rfl, hn, rfl, rfl, r⟩ | ⟨n', xs, ds, fs, rfl, hn, rfl, rfl, r⟩
    · rcases l with rfl | ⟨e, _⟩
      · exact .inl ⟨rfl, .inl rfl, hl⟩
      · cases e
    · refine .inr (.inl ⟨n' + h.length, xs.map (shv h.length), ds, fs.map (List.map (· + h.length)), rfl, cell _ _ hn, rfl, ?_, lst xs ds fs r⟩)
      rw [List.map_cons, List.map_flatten]
    · refine .inr (.inr (.inl ⟨n' + h.length, xs.map fun p => (p.1, shv h.length p.2), ds, fs.map (List.map (· + h.length)), rfl, cell _ _ hn, ?_, ?_, ?_⟩))
      · rw [List.map_map]; rfl
      · rw [List.map_cons, List.map_flatten]
      · have := lst _ ds fs r
        rw [List.map_map] at this ⊢
        exact this
    · refine .inr (.inr (.inr (.inl ⟨n' + h.length, xs.map (shv h.length), ds, fs.map (List.map (· + h.length)), rfl, ⟨cell _ _ hn.1, hn.2⟩, rfl, ?_, lst xs ds fs r⟩)))
      rw [List.map_cons, List.map_flatten]
    · refine .inr (.inr (.inr (.inr ⟨n' + h.length, xs.map fun p => (p.1, shv h.length p.2), ds, fs.map (List.map (· + h.length)), rfl, ⟨cell _ _ hn.1, hn.2⟩, ?_, ?_, ?_⟩)))
      · rw [List.map_map]; rfl
      · rw [List.map_cons, List.map_flatten]
      · have := lst _ ds fs r
        rw [List.map_map] at this ⊢
        exact this
end Zx.V
namespace Zx.V
open PySem PySem.Spec L2
inductive VS where | un | v (x : PyData) | sc (ns : List Int) | ex (c : Str)
abbrev KD := Bool × Nat
def RS1 (h : AH) (k : KD) (s : SV) : VS → List Nat → Prop
  | .un, f => f = []
  | .v x, f => RV h k.1 k.2 s x f
  | .sc ns, f => s = .sc ns ∧ f = []
  | .ex c, f => s = .ex c ∧ f = []
def RSt (h : AH) : List KD → List SV → List VS → List (List Nat) → Prop
  | [], sl, vs, fs => sl = [] ∧ vs = [] ∧ fs = []
  | k :: D, sl, vs, fs => ∃ s sl' v vs' f fs', sl = s :: sl' ∧ vs = v :: vs' ∧ fs = f :: fs' ∧ RS1 h k s v f ∧ RSt h D sl' vs' fs'
theorem RS1.frame {h h' : AH} {k : KD} {s : SV} {v : VS} {f : List Nat} (e : ∀ n ∈ f, h'[n]? = h[n]?) (r : RS1 h k s v f) : RS1 h' k s v f := by
  cases v with
  | un => exact r
  | v x => exact RV.frame e r
  | sc x => exact r
  | ex x => exact r
theorem RS1.lt {h : AH} {k : KD} {s : SV} {v : VS} {f : List Nat} (r : RS1 h k s v f) : ∀ n ∈ f, n < h.length := by
  cases v with
  | un => intro n m; rw [show f = [] from r] at m; cases m
  | v x => exact RV.lt r
  | sc x => intro n m; rw [r.2] at m; cases m
  | ex x => intro n m; rw [r.2] at m; cases m
theorem RSt.frame {h h' : AH} : ∀ {D : List KD} {sl : List SV} {vs : List VS} {fs : List (List Nat)}, (∀ n ∈ fs.flatten, h'[n]? = h[n]?) → RSt h D sl vs fs → RSt h' D sl vs fs
  | [], sl, vs, fs, _, r => r
  | k :: D, sl, vs, fs, e, ⟨s, sl', v, vs', f, fs', h1, h2, h3, r1, r2⟩ => by
    subst h3
    exact ⟨s, sl', v, vs', f, fs', h1, h2, rfl, r1.frame fun n m => e n (List.mem_append.mpr (.inl m)), RSt.frame (fun n m => e n (List.mem_append.mpr (.inr m))) r2⟩
theorem RSt.lt {h : AH} : ∀ {D : List KD} {sl : List SV} {vs : List VS} {fs : List (List Nat)}, RSt h D sl vs fs → ∀ n ∈ fs.flatten, n < h.length
  | [], sl, vs, fs, r, n, m => by rw [r.2.2] at m; cases m
  | k :: D, sl, vs, fs, ⟨s, sl', v, vs', f, fs', h1, h2, h3, r1, r2⟩, n, m => by
    subst h3
    rcases List.mem_append.mp m with m | m
    · exact r1.lt n m
    · exact RSt.lt r2 n m
theorem RSt.app {h t : AH} {D : List KD} {sl : List SV} {vs : List VS} {fs : List (List Nat)} (r : RSt h D sl vs fs) : RSt (h ++ t) D sl vs fs := r.frame fun n m => by
  rw [List.getElem?_append_left (r.lt n m)]
theorem RSt.len {h : AH} : ∀ {D : List KD} {sl : List SV} {vs : List VS} {fs : List (List Nat)}, RSt h D sl vs fs → sl.length = D.length ∧ vs.length = D.length ∧ fs.length = D.length
  | [], sl, vs, fs, r => by rw [r.1, r.2.1, r.2.2]; exact ⟨rfl, rfl, rfl⟩
  | k :: D, sl, vs, fs, ⟨s, sl', v, vs', f, fs', h1, h2, h3, r1, r2⟩ => by
    have := RSt.len r2
    rw [h1, h2, h3, List.length_cons, List.length_cons, List.length_cons, List.length_cons]
    omega
theorem RSt.get {h : AH} : ∀ {D : List KD} {sl : List SV} {vs : List VS} {fs : List (List Nat)} {i : Nat} {k : KD}, RSt h D sl vs fs → D[i]? = some k → ∃ s v f, sl[i]? = some s ∧ vs[i]? = some v ∧ fs[i]? = some f ∧ RS1 h k s v f
  | [], sl, vs, fs, i, k, r, e => by simp at e
  | k :: D, sl, vs, fs, 0, k', ⟨s, sl', v, vs', f, fs', h1, h2, h3, r1, r2⟩, e => by
    cases e
    exact ⟨s, v, f, by rw [h1]; rfl, by rw [h2]; rfl, by rw [h3]; rfl, r1⟩
  | k :: D, sl, vs, fs, i + 1, k', ⟨s, sl', v, vs', f, fs', h1, h2, h3, r1, r2⟩, e => by
    have e : D[i]? = some k' := e
    obtain ⟨s', v', f', e1, e2, e3, r⟩ := RSt.get r2 e
    exact ⟨s', v', f', by rw [h1]; exact e1, by rw [h2]; exact e2, by rw [h3]; exact e3, r⟩
theorem RSt.set {h : AH} {s' : SV} {v' : VS} {f' : List Nat} : ∀ {D : List KD} {sl : List SV} {vs : List VS} {fs : List (List Nat)} {i : Nat} {k : KD}, RSt h D sl vs fs → D[i]? = some k → RS1 h k s' v' f' → RSt h D (sl.set i s') (vs.set i v') (fs.set i f')
  | [], sl, vs, fs, i, k, r, e, _ => by simp at e
  | k :: D, sl, vs, fs, 0, k', ⟨s, sl', v, vs', f, fs', h1, h2, h3, r1, r2⟩, e, r => by
    cases e
    exact ⟨s', sl', v', vs', f', fs', by rw [h1]; rfl, by rw [h2]; rfl, by rw [h3]; rfl, r, r2⟩
  | k :: D, sl, vs, fs, i + 1, k', ⟨s, sl', v, vs', f, fs', h1, h2, h3, r1, r2⟩, e, r => by
    have e : D[i]? = some k' := e
    exact ⟨s, sl'.set i s', v, vs'.set i v', f, fs'.set i f', by rw [h1]; rfl, by rw [h2]; rfl, by rw [h3]; rfl, r1, RSt.set r2 e r⟩
theorem RSt.drop {h : AH} : ∀ {D : List KD} {sl : List SV} {vs : List VS} {fs : List (List Nat)} (i : Nat), RSt h D sl vs fs → RSt h D sl (vs.set i .un) (fs.set i [])
  | [], sl, vs, fs, i, r => by rw [r.1, r.2.1, r.2.2]; cases i <;> exact ⟨rfl, rfl, rfl⟩
  | k :: D, sl, vs, fs, 0, ⟨s, sl', v, vs', f, fs', h1, h2, h3, r1, r2⟩ => ⟨s, sl', .un, vs', [], fs', h1, by rw [h2]; rfl, by rw [h3]; rfl, rfl, r2⟩
  | k :: D, sl, vs, fs, i + 1, ⟨s, sl', v, vs', f, fs', h1, h2, h3, r1, r2⟩ => ⟨s, sl', v, vs'.set i .un, f, fs'.set i [], h1, by rw [h2]; rfl, by rw [h3]; rfl, r1, RSt.drop i r2⟩
theorem leaf_imm {b : Bool} {s : SV} {x : PyData} (l : leaf b s x) (c : imm x = true) : s = .d x := by
  rcases l with rfl | ⟨_, rfl⟩
  · rfl
  · unfold mkv; rw [if_pos c]
theorem RV.imm {h : AH} {b : Bool} {k : Nat} {s : SV} {x : PyData} {f : List Nat} (r : RV h b k s x f) (c : Zx.imm x = true) : s = .d x ∧ f = [] := by
  cases k with
  | zero => exact ⟨leaf_imm r.2 c, r.1⟩
  | succ k =>
    unfold RV at r
    rcases r with r | ⟨n', xs, ds, fs, rfl, hn, rfl, rfl, r⟩ | ⟨n', xs, ds, fs, rfl, hn, rfl, rfl, r⟩ | ⟨n', xs, ds, fs, rfl, hn, rfl, rfl, r⟩ | ⟨n', xs, ds, fs, rfl, hn, rfl, rfl, r⟩
    · exact ⟨leaf_imm r.2.1 c, r.1⟩
    · cases c
    · cases c
    · unfold Zx.imm at c
      rw [hn.2] at c; cases c
    · cases c
theorem RV.d {h : AH} {b : Bool} {x : PyData} : RV h b 0 (.d x) x [] := ⟨rfl, .inl rfl⟩
theorem RV.dk {h : AH} {b : Bool} {x : PyData} (c : isLD x = false) : ∀ {k : Nat}, RV h b k (.d x) x []
  | 0 => RV.d
  | k + 1 => .inl ⟨rfl, .inl rfl, c⟩
theorem RV.bm {h : AH} {b b' : Bool} (hb : (!b || b') = true) : ∀ {k : Nat} {s : SV} {x : PyData} {f : List Nat}, RV h b k s x f → RV h b' k s x f
  | 0, s, x, f, r => ⟨r.1, r.2.imp_right fun z => ⟨by rw [z.1] at hb; simpa using hb, z.2⟩⟩
  | k + 1, s, x, f, r => by
    unfold RV at r ⊢
    rcases r with r | ⟨n', xs, ds, fs, rfl, hn, rfl, rfl, r⟩ | ⟨n', xs, ds, fs, rfl, hn, rfl, rfl, r⟩ | ⟨n', xs, ds, fs, rfl, hn, rfl, rfl, r⟩ | ⟨n', xs, ds, fs, rfl, hn, rfl, rfl, r⟩
    · exact .inl ⟨r.1, r.2.1.imp_right fun z => ⟨by rw [z.1] at hb; simpa using hb, z.2⟩, r.2.2⟩
    · exact .inr (.inl ⟨n', xs, ds, fs, rfl, hn, rfl, rfl, Fa3.imp (cs0 := fs) (fun _ _ _ _ p => RV.bm hb p) (fun _ m => m) r⟩)
    · exact .inr (.inr (.inl ⟨n', xs, ds, fs, rfl, hn, rfl, rfl, Fa3.imp (cs0 := fs) (fun _ _ _ _ p => RV.bm hb p) (fun _ m => m) r⟩))
    · exact .inr (.inr (.inr (.inl ⟨n', xs, ds, fs, rfl, hn, rfl, rfl, Fa3.imp (cs0 := fs) (fun _ _ _ _ p => RV.bm hb p) (fun _ m => m) r⟩)))
    · exact .inr (.inr (.inr (.inr ⟨n', xs, ds, fs, rfl, hn, rfl, rfl, Fa3.imp (cs0 := fs) (fun _ _ _ _ p => RV.bm hb p) (fun _ m => m) r⟩)))
inductive VR (α : Type) where
  | ok (a : α) (vs : List VS) | rz (c : Str) | st
def VR.bind {α β : Type} (r : VR α) (k : α → List VS → VR β) : VR β := match r with
  | .ok a vs => k a vs
  | .rz c => .rz c
  | .st => .st
abbrev VE := List VS → VR PyData
abbrev VA := List VS → VR (List PyData)
abbrev VT := List VS → VR Bool
def OutE (b : Bool) (k : Nat) (fr : Bool) (L : Nat) (h : AH) (vs : List VS) (r : VR PyData) (q : R SV) : Prop := match r with
  | .ok x vs' => vs' = vs ∧ ∃ s t fp, q = .ok s (h ++ t) ∧ RV (h ++ t) b k s x fp ∧ fp.Nodup ∧ (fr = true → ∀ n ∈ fp, L ≤ n)
  | .rz c => ∃ t, q = .rz c (h ++ t)
  | .st => True
def OutP {α β : Type} (rep : AH → β → α → Prop) (h : AH) (vs : List VS) (r : VR β) (q : R α) : Prop := match r with
  | .ok x vs' => vs' = vs ∧ ∃ a t, q = .ok a (h ++ t) ∧ rep (h ++ t) x a
  | .rz c => ∃ t, q = .rz c (h ++ t)
  | .st => True
theorem OutE.pre {b : Bool} {k : Nat} {fr : Bool} {L : Nat} {h t : AH} {vs : List VS} {r : VR PyData} {q : R SV} (o : OutE b k fr L (h ++ t) vs r q) : OutE b k fr L h vs r q := by
  cases r with
  | ok x vs' =>
    obtain ⟨e, s, t', fp, h1, h2, h3, h4⟩ := o
    rw [List.append_assoc] at h1 h2
    exact ⟨e, s, t ++ t', fp, h1, h2, h3, h4⟩
  | rz c =>
    obtain ⟨t', e⟩ := o
    rw [List.append_assoc] at e
    exact ⟨t ++ t', e⟩
  | st => trivial
theorem OutP.pre {α β : Type} {rep : AH → β → α → Prop} {h t : AH} {vs : List VS} {r : VR β} {q : R α} (o : OutP rep (h ++ t) vs r q) : OutP rep h vs r q := by
  cases r with
  | ok x vs' =>
    obtain ⟨e, a, t', h1, h2⟩ := o
    rw [List.append_assoc] at h1 h2
    exact ⟨e, a, t ++ t', h1, h2⟩
  | rz c =>
    obtain ⟨t', e⟩ := o
    rw [List.append_assoc] at e
    exact ⟨t ++ t', e⟩
  | st => trivial
theorem OutE.up {b : Bool} {k : Nat} {fr : Bool} {L M : Nat} (hl : L ≤ M) {h : AH} {vs : List VS} {r : VR PyData} {q : R SV} (o : OutE b k fr M h vs r q) : OutE b k fr L h vs r q := by
  cases r with
  | ok x vs' =>
    obtain ⟨e, s, t', fp, h1, h2, h3, h4⟩ := o
    exact ⟨e, s, t', fp, h1, h2, h3, fun z n m => Nat.le_trans hl (h4 z n m)⟩
  | rz c => exact o
  | st => trivial
theorem OutE.ee {b : Bool} {k : Nat} {fr : Bool} {L : Nat} {h : AH} {vs : List VS} {r : VR PyData} {q : R SV} (o : OutE b k fr L h vs r q) {b2 : Bool} {k2 : Nat} {fr2 : Bool} {L2 : Nat} {K : PyData → List VS → VR PyData} {K' : SV → AH → R SV}
    (c : ∀ x s t fp, RV (h ++ t) b k s x fp → fp.Nodup → (fr = true → ∀ n ∈ fp, L ≤ n) → OutE b2 k2 fr2 L2 (h ++ t) vs (K x vs) (K' s (h ++ t))) : OutE b2 k2 fr2 L2 h vs (r.bind K) (q.bind K') := by
  cases r with
  | ok x vs' =>
    obtain ⟨rfl, s, t, fp, rfl, h2, h3, h4⟩ := o
    exact (c x s t fp h2 h3 h4).pre
  | rz cc =>
    obtain ⟨t, rfl⟩ := o
    exact ⟨t, rfl⟩
  | st => trivial
theorem OutE.ep {b : Bool} {k : Nat} {fr : Bool} {L : Nat} {h : AH} {vs : List VS} {r : VR PyData} {q : R SV} (o : OutE b k fr L h vs r q) {α β : Type} {rep : AH → β → α → Prop} {K : PyData → List VS → VR β} {K' : SV → AH → R α}
    (c : ∀ x s t fp, RV (h ++ t) b k s x fp → fp.Nodup → (fr = true → ∀ n ∈ fp, L ≤ n) → OutP rep (h ++ t) vs (K x vs) (K' s (h ++ t))) : OutP rep h vs (r.bind K) (q.bind K') := by
  cases r with
  | ok x vs' =>
    obtain ⟨rfl, s, t, fp, rfl, h2, h3, h4⟩ := o
    exact (c x s t fp h2 h3 h4).pre
  | rz cc =>
    obtain ⟨t, rfl⟩ := o
    exact ⟨t, rfl⟩
  | st => trivial
theorem OutP.pe {α β : Type} {rep : AH → β → α → Prop} {h : AH} {vs : List VS} {r : VR β} {q : R α} (o : OutP rep h vs r q) {b2 : Bool} {k2 : Nat} {fr2 : Bool} {L2 : Nat} {K : β → List VS → VR PyData} {K' : α → AH → R SV}
    (c : ∀ x a t, rep (h ++ t) x a → OutE b2 k2 fr2 L2 (h ++ t) vs (K x vs) (K' a (h ++ t))) : OutE b2 k2 fr2 L2 h vs (r.bind K) (q.bind K') := by
  cases r with
  | ok x vs' =>
    obtain ⟨rfl, a, t, rfl, h2⟩ := o
    exact (c x a t h2).pre
  | rz cc =>
    obtain ⟨t, rfl⟩ := o
    exact ⟨t, rfl⟩
  | st => trivial
theorem OutP.pp {α β : Type} {rep : AH → β → α → Prop} {h : AH} {vs : List VS} {r : VR β} {q : R α} (o : OutP rep h vs r q) {α' β' : Type} {rep' : AH → β' → α' → Prop} {K : β → List VS → VR β'} {K' : α → AH → R α'}
    (c : ∀ x a t, rep (h ++ t) x a → OutP rep' (h ++ t) vs (K x vs) (K' a (h ++ t))) : OutP rep' h vs (r.bind K) (q.bind K') := by
  cases r with
  | ok x vs' =>
    obtain ⟨rfl, a, t, rfl, h2⟩ := o
    exact (c x a t h2).pre
  | rz cc =>
    obtain ⟨t, rfl⟩ := o
    exact ⟨t, rfl⟩
  | st => trivial
theorem OutE.dd {b : Bool} {k L : Nat} {fr : Bool} {h : AH} {vs : List VS} {x : PyData} (c : isLD x = false) : OutE b k fr L h vs (.ok x vs) (.ok (.d x) h) :=
  ⟨rfl, .d x, [], [], by rw [List.append_nil], RV.dk c, List.nodup_nil, fun _ _ m => by cases m⟩
theorem OutE.d0 {b : Bool} {L : Nat} {fr : Bool} {h : AH} {vs : List VS} {x : PyData} : OutE b 0 fr L h vs (.ok x vs) (.ok (.d x) h) :=
  ⟨rfl, .d x, [], [], by rw [List.append_nil], RV.d, List.nodup_nil, fun _ _ m => by cases m⟩
def EV (D : List KD) (b : Bool) (k : Nat) (fr : Bool) (f : FE) (g : VE) : Prop := ∀ (h : AH) (sl : List SV) (vs : List VS) (fs : List (List Nat)), RSt h D sl vs fs → fs.flatten.Nodup → OutE b k fr h.length h vs (g vs) (f sl h)
def TV (D : List KD) (f : FT) (g : VT) : Prop := ∀ (h : AH) (sl : List SV) (vs : List VS) (fs : List (List Nat)), RSt h D sl vs fs → fs.flatten.Nodup → OutP (fun _ x a => a = x) h vs (g vs) (f sl h)
def RA (h : AH) : List KD → List SV → List PyData → Prop
  | [], ss, ds => ss = [] ∧ ds = []
  | k :: KL, ss, ds => ∃ s ss' d ds' f, ss = s :: ss' ∧ ds = d :: ds' ∧ RV h k.1 k.2 s d f ∧ RA h KL ss' ds'
def AV (D : List KD) (KL : List KD) (f : FA) (g : VA) : Prop := ∀ (h : AH) (sl : List SV) (vs : List VS) (fs : List (List Nat)), RSt h D sl vs fs → fs.flatten.Nodup → OutP (fun h ds ss => RA h KL ss ds) h vs (g vs) (f sl h)
def AF (D : List KD) (b : Bool) (k : Nat) (f : FA) (g : VA) : Prop := ∀ (h : AH) (sl : List SV) (vs : List VS) (fs : List (List Nat)), RSt h D sl vs fs → fs.flatten.Nodup → OutP (fun h' ds ss => ∃ fps, Fa3 (RV h' b k) ss ds fps ∧ fps.flatten.Nodup ∧ ∀ n ∈ fps.flatten, h.length ≤ n) h vs (g vs) (f sl h)
theorem RA.app {h t : AH} : ∀ {KL : List KD} {ss : List SV} {ds : List PyData}, RA h KL ss ds → RA (h ++ t) KL ss ds
  | [], ss, ds, r => r
  | k :: KL, ss, ds, ⟨s, ss', d, ds', f, h1, h2, r1, r2⟩ => ⟨s, ss', d, ds', f, h1, h2, r1.app, RA.app r2⟩
def fVar (i : Nat) : VE := fun vs => match vs[i]? with
  | some (.v x) => .ok x vs
  | _ => .st
def fC (x : PyData) : VE := fun vs => .ok x vs
def fBin (g : PyData → PyData → List VS → VR PyData) (ga gb : VE) : VE := fun vs => (ga vs).bind fun x vs => (gb vs).bind fun y vs => g x y vs
def fUn (g : PyData → List VS → VR PyData) (ga : VE) : VE := fun vs => (ga vs).bind fun x vs => g x vs
def tst (x : PyData) (vs : List VS) : VR Bool := match x with
  | .bool b => .ok b vs
  | _ => .st
def fTst (g : VE) : VT := fun vs => (g vs).bind tst
def fAndT (ga gb : VT) : VT := fun vs => (ga vs).bind fun k vs => if k = true then gb vs else .ok false vs
def fOrT (ga gb : VT) : VT := fun vs => (ga vs).bind fun k vs => if k = true then .ok true vs else gb vs
def fNotT (ga : VT) : VT := fun vs => (ga vs).bind fun k vs => .ok (!k) vs
def fAndV (ga gb : VE) : VE := fun vs => (ga vs).bind fun x vs => (tst x vs).bind fun k vs => if k = true then gb vs else .ok (.bool false) vs
def fOrV (ga gb : VE) : VE := fun vs => (ga vs).bind fun x vs => (tst x vs).bind fun k vs => if k = true then .ok (.bool true) vs else gb vs
def fNotV (ga : VE) : VE := fun vs => (ga vs).bind fun x vs => (tst x vs).bind fun k vs => .ok (.bool (!k)) vs
def fIf (gt : VT) (ga gb : VE) : VE := fun vs => (gt vs).bind fun k vs => if k = true then ga vs else gb vs
def fChain (g g' : PyData → PyData → List VS → VR PyData) (ga gb gc : VE) : VE := fun vs => (ga vs).bind fun x vs => (gb vs).bind fun y vs => (g x y vs).bind fun z vs => (tst z vs).bind fun k vs => if k = true then (gc vs).bind fun u vs => g' y u vs else .ok (.bool false) vs
def fNil : VA := fun vs => .ok [] vs
def fCons (ga : VE) (gr : VA) : VA := fun vs => (ga vs).bind fun x vs => (gr vs).bind fun xs vs => .ok (x :: xs) vs
def fLst (b : Bool) (k : Nat) (ga : VA) : VE := fun vs => (ga vs).bind fun xs vs => if xs.length ≤ 1000 then .ok (.list xs) vs else .st
def fTup (ga : VA) : VE := fun vs => (ga vs).bind fun xs vs => if xs.length ≤ 1000 then .ok (.tuple xs) vs else .st
def fImm (ga : VE) : VE := fun vs => (ga vs).bind fun x vs => if imm x = true then .ok x vs else .st
def fFz (ga : VE) : VE := ga
def fCB (g : List PyData → List VS → VR PyData) (ga : VA) : VE := fun vs => (ga vs).bind fun xs vs => g xs vs
section
variable {D : List KD} {b b1 b2 b3 fr fr1 fr2 fr3 : Bool} {k k1 k2 k3 i : Nat} {fa fb fc : FE} {ga gb gc : VE} {ta tb : FT} {ua ub : VT} {ra : FA} {qa : VA} {KL : List KD}
theorem ev_var (e : D[i]? = some (b, k)) : EV D b k false (Zx.fVar i) (fVar i) := by
  intro h sl vs fs R nd
  obtain ⟨s, v, f, e1, e2, e3, r⟩ := R.get e
  unfold fVar
  rw [e2]
  cases v with
  | un => trivial
  | sc x => trivial
  | ex x => trivial
  | v x =>
    refine ⟨rfl, s, [], f, ?_, by rw [List.append_nil]; exact r, (nd_at nd e3).1, fun z => by cases z⟩
    have r : RV h b k s x f := r
    have hs : s ≠ .un := fun z => by
      subst z
      have := RV.rb (j := k) r (Nat.le_refl _)
      cases k <;> (unfold Zx.rb at this; cases this)
    rw [List.append_nil]
    unfold Zx.fVar
    rw [e1]
    cases s <;> first | rfl | exact absurd rfl hs
theorem EV.z (e : EV D b 0 fr1 fa ga) : EV D b 0 fr fa ga := by
  intro h sl vs fs R nd
  have o := e h sl vs fs R nd
  generalize ga vs = r at o ⊢
  generalize fa sl h = q at o ⊢
  cases r with
  | ok x vs' =>
    obtain ⟨h1, s, t, fp, h2, h3, h4, _⟩ := o
    refine ⟨h1, s, t, fp, h2, h3, h4, fun _ n m => ?_⟩
    rw [h3.1] at m; cases m
  | rz c => exact o
  | st => trivial
theorem ev_var0 (e : D[i]? = some (b, 0)) : EV D b 0 fr (Zx.fVar i) (fVar i) := (ev_var e).z
theorem ev_c {x : PyData} (c : isLD x = false := by rfl) : EV D b k fr (Zx.fC x) (fC x) := fun h sl vs fs R nd => OutE.dd c
theorem ev_imm (e : EV D b1 k fr1 fa ga) : EV D b 0 fr fa (fImm ga) := by
  intro h sl vs fs R nd
  have o := e h sl vs fs R nd
  unfold fImm
  generalize ga vs = r at o ⊢
  generalize fa sl h = q at o ⊢
  cases r with
  | ok x vs' =>
    obtain ⟨rfl, s, t, fp, rfl, h3, h4, _⟩ := o
    show OutE _ _ _ _ _ _ (if imm x = true then .ok x vs' else .st) _
    split
    · rename_i c
      obtain ⟨rfl, rfl⟩ := h3.imm c
      exact ⟨rfl, .d x, t, [], rfl, RV.d, List.nodup_nil, fun _ _ m => by cases m⟩
    · trivial
  | rz c => exact o
  | st => trivial
def OpV (b1 : Bool) (k1 : Nat) (b2 : Bool) (k2 : Nat) (b : Bool) (k : Nat) (fr : Bool) (f : SV → SV → AH → R SV) (g : PyData → PyData → List VS → VR PyData) : Prop := ∀ (h : AH) (vs : List VS) (s t : SV) (x y : PyData) (f1 f2 : List Nat), RV h b1 k1 s x f1 → f1.Nodup → RV h b2 k2 t y f2 → OutE b k fr h.length h vs (g x y vs) (f s t h)
theorem ev_bin {f : SV → SV → AH → R SV} {g : PyData → PyData → List VS → VR PyData} (ho : OpV b1 k1 b2 k2 b k fr f g) (ha : EV D b1 k1 fr1 fa ga) (hb : EV D b2 k2 fr2 fb gb) : EV D b k fr (Zx.fBin f fa fb) (fBin g ga gb) := by
  intro h sl vs fs R nd
  refine (ha h sl vs fs R nd).ee fun x s t f1 r1 n1 _ => ?_
  refine ((hb (h ++ t) sl vs fs R.app nd).ee fun y s2 t2 f2 r2 n2 _ => ?_)
  exact (ho (h ++ t ++ t2) vs s s2 x y f1 f2 r1.app n1 r2).up (by rw [List.length_append, List.length_append]; omega)
theorem tst_ok {h : AH} {vs : List VS} {s : SV} {x : PyData} {f : List Nat} (r : RV h b k s x f) : OutP (fun _ x a => a = x) h vs (tst x vs) (Zx.tst s h) := by
  unfold tst
  split
  · obtain ⟨rfl, _⟩ := r.imm rfl
    exact ⟨rfl, _, [], by rw [List.append_nil]; rfl, rfl⟩
  · trivial
theorem tv_tst (ha : EV D b k fr fa ga) : TV D (Zx.fTst fa) (fTst ga) := by
  intro h sl vs fs R nd
  rw [a_tst]
  exact (ha h sl vs fs R nd).ep fun x s t f1 r1 n1 _ => tst_ok r1
theorem tv_and (ha : TV D ta ua) (hb : TV D tb ub) : TV D (Zx.fAndT ta tb) (fAndT ua ub) := by
  intro h sl vs fs R nd
  refine (ha h sl vs fs R nd).pp fun x a t e => ?_
  subst e
  cases a with
  | true => exact hb (h ++ t) sl vs fs R.app nd
  | false => exact ⟨rfl, false, [], by rw [List.append_nil]; rfl, rfl⟩
theorem tv_or (ha : TV D ta ua) (hb : TV D tb ub) : TV D (Zx.fOrT ta tb) (fOrT ua ub) := by
  intro h sl vs fs R nd
  refine (ha h sl vs fs R nd).pp fun x a t e => ?_
  subst e
  cases a with
  | false => exact hb (h ++ t) sl vs fs R.app nd
  | true => exact ⟨rfl, true, [], by rw [List.append_nil]; rfl, rfl⟩
theorem tv_not (ha : TV D ta ua) : TV D (Zx.fNotT ta) (fNotT ua) := by
  intro h sl vs fs R nd
  refine (ha h sl vs fs R nd).pp fun x a t e => ?_
  subst e
  exact ⟨rfl, !a, [], by rw [List.append_nil], rfl⟩
theorem tv_yes : TV D Zx.fYes (fun vs => .ok true vs) := fun h sl vs fs R nd => ⟨rfl, true, [], by rw [List.append_nil]; rfl, rfl⟩
theorem ev_and (ha : EV D b1 k1 fr1 fa ga) (hb : EV D b2 0 fr2 fb gb) : EV D b2 0 fr (Zx.fAndV fa fb) (fAndV ga gb) := by
  refine EV.z (fr1 := false) ?_
  intro h sl vs fs R nd
  rw [a_andV]
  refine (ha h sl vs fs R nd).ee fun x s t f1 r1 n1 _ => ?_
  refine (tst_ok r1).pe fun c a t2 e => ?_
  subst e
  cases a with
  | true =>
    have := (EV.z (fr := false) hb) (h ++ t ++ t2) sl vs fs (RSt.app (RSt.app R)) nd
    exact this.up (by rw [List.length_append, List.length_append]; omega)
  | false => exact OutE.dd rfl
theorem ev_not (ha : EV D b1 k1 fr1 fa ga) : EV D b k fr (Zx.fNotV fa) (fNotV ga) := by
  intro h sl vs fs R nd
  rw [a_notV]
  refine (ha h sl vs fs R nd).ee fun x s t f1 r1 n1 _ => ?_
  refine (tst_ok r1).pe fun c a t2 e => ?_
  subst e
  exact OutE.dd rfl
theorem av_nil : AV D [] Zx.fNil fNil := fun h sl vs fs R nd => ⟨rfl, [], [], by rw [List.append_nil]; rfl, rfl, rfl⟩
theorem av_cons (ha : EV D b k fr fa ga) (hr : AV D KL ra qa) : AV D ((b, k) :: KL) (Zx.fCons fa ra) (fCons ga qa) := by
  intro h sl vs fs R nd
  refine (ha h sl vs fs R nd).ep fun x s t f1 r1 n1 _ => ?_
  refine (hr (h ++ t) sl vs fs R.app nd).pp fun xs ss t2 r2 => ?_
  exact ⟨rfl, s :: ss, [], by rw [List.append_nil], s, ss, x, xs, f1, rfl, rfl, r1.app.app, r2.app⟩
theorem af_nil : AF D b k Zx.fNil fNil := fun h sl vs fs R nd => ⟨rfl, [], [], by rw [List.append_nil]; rfl, [], trivial, List.nodup_nil, fun _ m => by cases m⟩
theorem af_cons (ha : EV D b1 k true fa ga) (hr : AF D b k ra qa) (hb : (!b1 || b) = true := by decide) : AF D b k (Zx.fCons fa ra) (fCons ga qa) := by
  intro h sl vs fs R nd
  have := (ha h sl vs fs R nd).ep (rep := fun h' ds ss => ∃ fps, Fa3 (RV h' b k) ss ds fps ∧ fps.flatten.Nodup ∧ ∀ n ∈ fps.flatten, h.length ≤ n) (K := fun x vs => (qa vs).bind fun xs vs => .ok (x :: xs) vs) (K' := fun s h1 => (ra sl h1).bind fun ss h2 => .ok (s :: ss) h2) fun x s t f1 r1 n1 z1 => ?_
  · exact this
  refine (hr (h ++ t) sl vs fs R.app nd).pp fun xs ss t2 r2 => ?_
  obtain ⟨fps, r2, n2, z2⟩ := r2
  refine ⟨rfl, s :: ss, [], by rw [List.append_nil], f1 :: fps, ⟨(r1.app.app).bm hb, ?_⟩, ?_, ?_⟩
  · exact Fa3.imp (cs0 := fps) (fun _ _ _ _ p => RV.app p) (fun _ m => m) r2
  · rw [List.flatten_cons, List.nodup_append]
    refine ⟨n1, n2, fun a ha b hb e => ?_⟩
    have h1 := r1.lt a ha
    have h2 := z2 b hb
    omega
  · intro n m
    rw [List.flatten_cons, List.mem_append] at m
    rcases m with m | m
    · exact z1 rfl n m
    · have := z2 n m
      rw [List.length_append] at this
      omega
theorem ev_lst (ha : AF D b k ra qa) : EV D b (k + 1) fr (Zx.fLst ra) (fLst b (k + 1) qa) := by
  intro h sl vs fs R nd
  refine (ha h sl vs fs R nd).pe fun xs ss t r => ?_
  obtain ⟨fps, r, n, z⟩ := r
  show OutE _ _ _ _ _ _ (if xs.length ≤ 1000 then .ok (.list xs) vs else .st) (if ss.length ≤ 1000 then .ok (.r (h ++ t).length) (h ++ t ++ [some (.lst ss)]) else .st)
  have hl := r.len.1
  rw [hl]
  split
  · refine ⟨rfl, _, [some (.lst ss)], (h ++ t).length :: fps.flatten, rfl, ?_, ?_, fun _ n m => ?_⟩
    · unfold RV
      refine .inr (.inl ⟨_, ss, xs, fps, rfl, ?_, rfl, rfl, Fa3.imp (cs0 := fps) (fun _ _ _ _ p => RV.app p) (fun _ m => m) r⟩)
      rw [List.getElem?_append_right (Nat.le_refl _), Nat.sub_self]; rfl
    · rw [List.nodup_cons]
      refine ⟨fun m => ?_, n⟩
      obtain ⟨l, hl, hm⟩ := List.mem_flatten.mp m
      obtain ⟨a, d, _, _, p⟩ := Fa3.mem r hl
      exact Nat.lt_irrefl _ (p.lt _ hm)
    · rcases List.mem_cons.mp m with rfl | m
      · rw [List.length_append]; omega
      · exact z n m
  · trivial
theorem ra_allD {h : AH} : ∀ {n : Nat} {ss : List SV} {ds : List PyData}, RA h (List.replicate n (false, 0)) ss ds → allD ss = some ds
  | 0, ss, ds, r => by rw [r.1, r.2]; rfl
  | n + 1, ss, ds, r => by
    rw [List.replicate_succ] at r
    obtain ⟨s, ss', d, ds', f, rfl, rfl, r1, r2⟩ := r
    rcases r1.2 with rfl | ⟨e, _⟩
    · unfold allD
      rw [ra_allD r2]; rfl
    · cases e
theorem ev_tup {n : Nat} (ha : AV D KL ra qa) (hk : KL = List.replicate n (false, 0) := by rfl) : EV D false 0 fr (Zx.fTup ra) (fTup qa) := by
  subst hk
  intro h sl vs fs R nd
  refine (ha h sl vs fs R nd).pe fun xs ss t r => ?_
  show OutE _ _ _ _ _ _ (if xs.length ≤ 1000 then .ok (.tuple xs) vs else .st) (match allD ss with | some ds => if ds.length ≤ 1000 then .ok (.d (.tuple ds)) (h ++ t) else .st | none => .st)
  rw [ra_allD r]
  dsimp only
  split
  · exact OutE.d0
  · trivial
theorem ev_fz (ha : EV D false k true fa ga) (hk : k ≤ 9 := by decide) : EV D false 0 fr (Zx.fFz fa) (fFz ga) := by
  intro h sl vs fs R nd
  have o := ha h sl vs fs R nd
  rw [a_fz]
  unfold fFz
  generalize ga vs = r at o ⊢
  generalize fa sl h = q at o ⊢
  cases r with
  | ok x vs' =>
    obtain ⟨rfl, s, t, fp, rfl, h2, h3, h4⟩ := o
    obtain ⟨h', e1, l1, k1⟩ := RV.fz rfl h2 h3 hk (by decide)
    show OutE _ _ _ _ _ _ _ (opt (fzv 9 (h ++ t) s) (fun p => .ok (.d p.1) (trimE h.length sl p.2)) .st)
    rw [e1]
    have hp : h'.take h.length = h := by
      apply List.ext_getElem?
      intro m
      by_cases hm : m < h.length
      · rw [List.getElem?_take_of_lt hm, k1 m fun z => absurd (h4 rfl m z) (by omega), List.getElem?_append_left hm]
      · rw [List.getElem?_eq_none (by rw [List.length_take]; omega), List.getElem?_eq_none (by omega)]
    show OutE _ _ _ _ _ _ _ (.ok (.d x) (trimE h.length sl h'))
    unfold trimE
    split
    · rw [hp]; exact OutE.d0
    · have : h' = h ++ h'.drop h.length := by
        conv => lhs; rw [← List.take_append_drop h.length h', hp]
      rw [this]
      exact OutE.pre OutE.d0
  | rz c =>
    obtain ⟨t, rfl⟩ := o
    exact ⟨t, rfl⟩
  | st => trivial
def CbV (KL : List KD) (b : Bool) (k : Nat) (fr : Bool) (f : List SV → AH → R SV) (g : List PyData → List VS → VR PyData) : Prop := ∀ (h : AH) (vs : List VS) (ss : List SV) (ds : List PyData), RA h KL ss ds → OutE b k fr h.length h vs (g ds vs) (f ss h)
theorem ev_cb {f : List SV → AH → R SV} {g : List PyData → List VS → VR PyData} (hc : CbV KL b k fr f g) (ha : AV D KL ra qa) : EV D b k fr (Zx.fCB f ra) (fCB g qa) := by
  intro h sl vs fs R nd
  refine (ha h sl vs fs R nd).pe fun xs ss t r => ?_
  exact (hc (h ++ t) vs ss xs r).up (by rw [List.length_append]; omega)
end
end Zx.V
namespace Zx.V
open PySem PySem.Spec L2
def gI (C : Int → Int → Bool) (kk : Int → Int → PyData) : PyData → PyData → List VS → VR PyData := fun x y vs => match x, y with
  | .int i, .int j => if C i j = true then .ok (kk i j) vs else .st
  | _, _ => .st
def gSub := gI (fun _ _ => true) fun i j => .int (i - j)
def gMul := gI mulB fun i j => .int (i * j)
def gDiv := gI divB fun i j => .int (i / j)
def gMod := gI modB fun i j => .int (i % j)
def gPow := gI powB fun i j => .int (i ^ j.toNat)
def gLt := gI (fun _ _ => true) fun i j => .bool (decide (i < j))
def gLe := gI (fun _ _ => true) fun i j => .bool (decide (i ≤ j))
def gGt := gI (fun _ _ => true) fun i j => .bool (decide (j < i))
def gGe := gI (fun _ _ => true) fun i j => .bool (decide (j ≤ i))
def gAdd : PyData → PyData → List VS → VR PyData := fun x y vs => match x, y with
  | .int i, .int j => .ok (.int (i + j)) vs
  | .str a, .str b => if a.length + b.length < lim then .ok (.str (a ++ b)) vs else .st
  | _, _ => .st
def gCat (b : Bool) : PyData → PyData → List VS → VR PyData := fun x y vs => match x, y with
  | .list xs, .list ys => if xs.length + ys.length < lim then .ok (.list (xs ++ ys)) vs else .st
  | _, _ => .st
def gEq (neg : Bool) : PyData → PyData → List VS → VR PyData := fun d e vs => if (nod d && nod e && SeqAt.shaped d && SeqAt.shaped e) = true then .ok (.bool (neg ^^ PyData.eqv d e)) vs else .st
def itemsP : PyData → Option (List PyData)
  | .list ds => some ds
  | .tuple ds => some ds
  | _ => none
def gIx : PyData → PyData → List VS → VR PyData := fun x y vs => match y with
  | .int i => match x with
    | .str z => if z.length ≤ sizeLine then match atI z.cps.toList i with
        | some c => .ok (.str ⟨#[c]⟩) vs
        | none => .st
      else .st
    | x => match itemsP x with
      | some ds => match atI ds i with
        | some u => .ok u vs
        | none => .st
      | none => .st
  | _ => .st
def gIxO : PyData → PyData → List VS → VR PyData := fun x y vs => match x, y with
  | .list ds, .int i => match atI ds i with
    | some u => .ok u vs
    | none => .st
  | .tuple ds, .int i => match atI ds i with
    | some u => .ok u vs
    | none => .st
  | _, _ => .st
def gIn (neg : Bool) : PyData → PyData → List VS → VR PyData := fun x y vs => match flatD (.d x) with
  | some v => match itemsP y with
    | some ds => match flatL (ds.map SV.d) with
      | some us => .ok (.bool (if neg then !inV v us else inV v us)) vs
      | none => .st
    | none => .st
  | none => .st
def isNo : PyData → Bool
  | .none => true
  | _ => false
def gIsN : PyData → PyData → List VS → VR PyData := fun x y vs => match y with
  | .none => .ok (.bool (isNo x)) vs
  | _ => .st
def gNotN : PyData → PyData → List VS → VR PyData := fun x y vs => match y with
  | .none => .ok (.bool (!isNo x)) vs
  | _ => .st
def gNeg : PyData → List VS → VR PyData := fun x vs => match x with
  | .int i => .ok (.int (-i)) vs
  | _ => .st
section
variable {D : List KD} {b b1 b2 b3 fr fr1 fr2 fr3 : Bool} {k k1 k2 k3 i : Nat} {fa fb fc : FE} {ga gb gc : VE} {ta tb : FT} {ua ub : VT} {ra : FA} {qa : VA} {KL : List KD}
theorem ov_I {C : Int → Int → Bool} {kk : Int → Int → PyData} (hk : ∀ i j, isLD (kk i j) = false) : OpV b1 k1 b2 k2 b k fr (Zx.gI C kk) (gI C kk) := by
  intro h vs s t x y f1 f2 r1 n1 r2
  unfold gI
  split
  · obtain ⟨rfl, -⟩ := r1.imm rfl
    obtain ⟨rfl, -⟩ := r2.imm rfl
    rename_i i j
    show OutE _ _ _ _ _ _ _ (if C i j then .ok (.d (kk i j)) h else .st)
    split
    · exact OutE.dd (hk _ _)
    · trivial
  · trivial
theorem ov_sub : OpV b1 k1 b2 k2 b k fr Zx.gSub gSub := ov_I fun _ _ => rfl
theorem ov_mul : OpV b1 k1 b2 k2 b k fr Zx.gMul gMul := ov_I fun _ _ => rfl
theorem ov_div : OpV b1 k1 b2 k2 b k fr Zx.gDiv gDiv := ov_I fun _ _ => rfl
theorem ov_mod : OpV b1 k1 b2 k2 b k fr Zx.gMod gMod := ov_I fun _ _ => rfl
theorem ov_pow : OpV b1 k1 b2 k2 b k fr Zx.gPow gPow := ov_I fun _ _ => rfl
theorem ov_lt : OpV b1 k1 b2 k2 b k fr Zx.gLt gLt := ov_I fun _ _ => rfl
theorem ov_add : OpV b1 k1 b2 k2 b k fr Zx.gAdd gAdd := by
  intro h vs s t x y f1 f2 r1 n1 r2
  unfold gAdd
  split
  · obtain ⟨rfl, -⟩ := r1.imm rfl
    obtain ⟨rfl, -⟩ := r2.imm rfl
    exact OutE.dd rfl
  · obtain ⟨rfl, -⟩ := r1.imm rfl
    obtain ⟨rfl, -⟩ := r2.imm rfl
    rename_i a c
    show OutE _ _ _ _ _ _ _ (if a.length + c.length < lim then .ok (.d (.str (a ++ c))) h else .st)
    split
    · exact OutE.dd rfl
    · trivial
  · trivial
theorem fa_leaf {h : AH} : ∀ (ds : List PyData), Fa3 (RV h b 0) (ds.map SV.d) ds (ds.map fun _ => [])
  | [] => trivial
  | d :: ds => ⟨⟨rfl, .inl rfl⟩, fa_leaf ds⟩
theorem fa_view {h : AH} : ∀ (ds : List PyData), Fa3 (RV h true 0) (ds.map mkv) ds (ds.map fun _ => [])
  | [] => trivial
  | d :: ds => ⟨⟨rfl, .inr ⟨rfl, rfl⟩⟩, fa_view ds⟩
theorem fa_flat0 {h : AH} : ∀ {ss : List SV} {ds : List PyData} {fs : List (List Nat)}, Fa3 (RV h b 0) ss ds fs → fs.flatten = []
  | [], [], [], _ => rfl
  | s :: ss, d :: ds, f :: fs, ⟨r, q⟩ => by rw [List.flatten_cons, fa_flat0 q, r.1]; rfl
  | [], [], c :: cs, h => h.elim
  | [], b :: bs, [], h => h.elim
  | [], b :: bs, c :: cs, h => h.elim
  | a :: as, [], [], h => h.elim
  | a :: as, [], c :: cs, h => h.elim
  | a :: as, b :: bs, [], h => h.elim
theorem lst_of {h : AH} {s : SV} {ds : List PyData} {f : List Nat} (r : RV h b k s (.list ds) f) (hk : k ≤ 1) : ∃ ss fs, lstOf h s = some ss ∧ Fa3 (RV h b 0) ss ds fs := by
  match k, hk, r with
  | 0, _, r =>
    rcases r.2 with rfl | ⟨rfl, rfl⟩
    · exact ⟨_, _, rfl, fa_leaf ds⟩
    · exact ⟨_, _, rfl, fa_view ds⟩
  | 1, _, r =>
    unfold RV at r
    rcases r with r | ⟨n', xs, ds', fs, rfl, hn, e, rfl, r⟩ | ⟨n', xs, ds', fs, rfl, hn, e, rfl, r⟩ | ⟨n', xs, ds', fs, rfl, hn, e, rfl, r⟩ | ⟨n', xs, ds', fs, rfl, hn, e, rfl, r⟩
    · cases r.2.2
    · cases e
      exact ⟨xs, fs, by unfold lstOf; dsimp only; rw [hn], r⟩
    · cases e
    · cases e
    · cases e
theorem items_of {h : AH} {s : SV} {x : PyData} {ds : List PyData} {f : List Nat} (r : RV h b k s x f) (hk : k ≤ 1) (e : itemsP x = some ds) : ∃ ss fs, itemsOf h s = some ss ∧ Fa3 (RV h b 0) ss ds fs := by
  unfold itemsP at e
  split at e
  · cases e
    match k, hk, r with
    | 0, _, r =>
      rcases r.2 with rfl | ⟨rfl, rfl⟩
      · exact ⟨_, _, rfl, fa_leaf ds⟩
      · exact ⟨_, _, rfl, fa_view ds⟩
    | 1, _, r =>
      unfold RV at r
      rcases r with r | ⟨n', xs, ds', fs, rfl, hn, e, rfl, r⟩ | ⟨n', xs, ds', fs, rfl, hn, e, rfl, r⟩ | ⟨n', xs, ds', fs, rfl, hn, e, rfl, r⟩ | ⟨n', xs, ds', fs, rfl, hn, e, rfl, r⟩
      · cases r.2.2
      · cases e
        exact ⟨xs, fs, by unfold itemsOf; dsimp only; rw [hn], r⟩
      · cases e
      · cases e
      · cases e
  · cases e
    have l : leaf b s (.tuple ds) ∨ ∃ ss fs, itemsOf h s = some ss ∧ Fa3 (RV h b 0) ss ds fs := by
      match k, hk, r with
      | 0, _, r => exact .inl r.2
      | 1, _, r =>
        unfold RV at r
        rcases r with r | ⟨n', xs, ds', fs, rfl, hn, e, rfl, r⟩ | ⟨n', xs, ds', fs, rfl, hn, e, rfl, r⟩ | ⟨n', xs, ds', fs, rfl, hn, e, rfl, r⟩ | ⟨n', xs, ds', fs, rfl, hn, e, rfl, r⟩
        · exact .inl r.2.1
        · cases e
        · cases e
        · cases e
          exact .inr ⟨xs, fs, by unfold itemsOf; dsimp only; rw [hn.1], r⟩
        · cases e
    rcases l with (rfl | ⟨rfl, rfl⟩) | l
    · exact ⟨_, _, rfl, fa_leaf ds⟩
    · refine ⟨ds.map mkv, _, ?_, fa_view ds⟩
      unfold mkv
      split
      · rename_i c
        unfold itemsOf
        dsimp only
        congr 1
        apply List.map_congr_left
        intro d hd
        have : ∀ ds : List PyData, immL ds = true → ∀ d ∈ ds, imm d = true := by
          intro ds
          induction ds with
          | nil => intro _ d m; cases m
          | cons a ds ih =>
            intro c d m
            unfold immL at c
            rw [Bool.and_eq_true] at c
            rcases List.mem_cons.mp m with rfl | m
            · exact c.1
            · exact ih c.2 d m
        rw [if_pos (this ds (by unfold imm at c; exact c) d hd)]
      · rfl
    · exact l
  · cases e
theorem fa_at {h : AH} {ss : List SV} {ds : List PyData} {fs : List (List Nat)} {i : Int} {u : PyData} (r : Fa3 (RV h b k) ss ds fs) (e : atI ds i = some u) : ∃ (s : SV) (f : List Nat) (j : Nat), atI ss i = some s ∧ fs[j]? = some f ∧ RV h b k s u f := by
  unfold atI at e ⊢
  rw [r.len.1]
  cases c : ixN ds.length i with
  | none => rw [c] at e; cases e
  | some j =>
    rw [c] at e
    have e : ds[j]? = some u := e
    obtain ⟨s, f, h1, h2, h3⟩ := r.get e
    exact ⟨s, f, j, h1, h2, h3⟩
theorem ov_ix (hk : k1 ≤ 1 := by decide) : OpV b1 k1 b2 k2 b1 0 fr Zx.gIx gIx := by
  intro h vs s t x y f1 f2 r1 n1 r2
  unfold gIx
  split
  · obtain ⟨rfl, -⟩ := r2.imm rfl
    rename_i i
    split
    · obtain ⟨rfl, -⟩ := r1.imm rfl
      rename_i z
      show OutE _ _ _ _ _ _ _ (if z.length ≤ sizeLine then match atI z.cps.toList i with | some c => .ok (.d (.str ⟨#[c]⟩)) h | none => .st else .st)
      split
      · split
        · exact OutE.d0
        · trivial
      · trivial
    · rename_i x hx
      split
      · rename_i ds hd
        split
        · rename_i u hu
          obtain ⟨ss, fs, e1, r⟩ := items_of r1 hk hd
          obtain ⟨s', f, j, e2, _, r3⟩ := fa_at r hu
          have hs : ∀ z, s ≠ .d (.str z) := fun z e => by
            subst e
            cases e1
          have : Zx.gIx s (.d (.int i)) h = .ok s' h := by
            unfold Zx.gIx
            dsimp only
            split
            · rename_i z; exact absurd rfl (hs z)
            · rw [e1]
              dsimp only
              rw [e2]
          rw [this]
          exact ⟨rfl, s', [], [], by rw [List.append_nil], by rw [List.append_nil]; exact ⟨rfl, r3.2⟩, List.nodup_nil, fun _ _ m => by cases m⟩
        · trivial
      · trivial
  · trivial
theorem ov_ixO : OpV b1 (k + 1) b2 k2 b1 k false Zx.gIx gIxO := by
  intro h vs s t x y f1 f2 r1 n1 r2
  unfold gIxO
  split
  · obtain ⟨rfl, -⟩ := r2.imm rfl
    rename_i ds i
    split
    · rename_i u hu
      unfold RV at r1
      rcases r1 with r | ⟨n', xs, ds', fs, rfl, hn, e, rfl, r⟩ | ⟨n', xs, ds', fs, rfl, hn, e, rfl, r⟩ | ⟨n', xs, ds', fs, rfl, hn, e, rfl, r⟩ | ⟨n', xs, ds', fs, rfl, hn, e, rfl, r⟩
      · cases r.2.2
      · cases e
        obtain ⟨s', f, j, e2, e3, r3⟩ := fa_at r hu
        rw [show Zx.gIx (.r n') (.d (.int i)) h = .ok s' h from by rw [ix_r hn, e2]; rfl]
        rw [List.nodup_cons] at n1
        exact ⟨rfl, s', [], f, by rw [List.append_nil], by rw [List.append_nil]; exact r3, (nd_at n1.2 e3).1, fun z => by cases z⟩
      · cases e
      · cases e
      · cases e
    · trivial
  · obtain ⟨rfl, -⟩ := r2.imm rfl
    rename_i ds i
    split
    · rename_i u hu
      unfold RV at r1
      rcases r1 with r | ⟨n', xs, ds', fs, rfl, hn, e, rfl, r⟩ | ⟨n', xs, ds', fs, rfl, hn, e, rfl, r⟩ | ⟨n', xs, ds', fs, rfl, hn, e, rfl, r⟩ | ⟨n', xs, ds', fs, rfl, hn, e, rfl, r⟩
      · obtain ⟨rfl, l, c⟩ := r
        have c : immL ds = true := by
          have c : (!immL ds) = false := c
          simpa using c
        have hs : s = .d (.tuple ds) := by
          rcases l with l | ⟨_, l⟩
          · exact l
          · rw [l]; unfold mkv; rw [if_pos (by unfold imm; exact c)]
        subst hs
        rw [show Zx.gIx (.d (.tuple ds)) (.d (.int i)) h = .ok (.d u) h from by
          unfold Zx.gIx itemsOf
          dsimp only
          rw [atI_map, hu]; rfl]
        have cu : imm u = true := by
          have : ∀ ds : List PyData, immL ds = true → ∀ d ∈ ds, imm d = true := by
            intro ds
            induction ds with
            | nil => intro _ d m; cases m
            | cons a ds ih =>
              intro c d m
              unfold immL at c
              rw [Bool.and_eq_true] at c
              rcases List.mem_cons.mp m with rfl | m
              · exact c.1
              · exact ih c.2 d m
          refine this ds c u ?_
          unfold atI at hu
          cases c2 : ixN ds.length i with
          | none => rw [c2] at hu; cases hu
          | some j =>
            rw [c2] at hu
            exact List.mem_of_getElem? hu
        refine ⟨rfl, _, [], [], by rw [List.append_nil], RV.dk ?_, List.nodup_nil, fun z => by cases z⟩
        cases u with
        | list _ => unfold imm at cu; cases cu
        | dict _ => unfold imm at cu; cases cu
        | tuple us =>
          unfold imm at cu
          show (!immL us) = false
          rw [cu]; rfl
        | _ => rfl
      · cases e
      · cases e
      · cases e
        obtain ⟨s', f, j, e2, e3, r3⟩ := fa_at r hu
        rw [show Zx.gIx (.r n') (.d (.int i)) h = .ok s' h from by
          unfold Zx.gIx itemsOf
          dsimp only
          rw [hn.1]
          dsimp only
          rw [e2]]
        rw [List.nodup_cons] at n1
        exact ⟨rfl, s', [], f, by rw [List.append_nil], by rw [List.append_nil]; exact r3, (nd_at n1.2 e3).1, fun z => by cases z⟩
      · cases e
    · trivial
  · trivial
theorem ov_eq {neg : Bool} (h1 : k1 ≤ 9 := by decide) (h2 : k2 ≤ 9 := by decide) : OpV b1 k1 b2 k2 b k fr (Zx.gEq neg) (gEq neg) := by
  intro h vs s t x y f1 f2 r1 n1 r2
  unfold gEq Zx.gEq
  rw [r1.rb h1, r2.rb h2]
  dsimp only
  split
  · exact OutE.dd rfl
  · trivial
theorem flat_rv {h : AH} {s : SV} {x : PyData} {f : List Nat} (r : RV h b k s x f) : flatD s = flatD (.d x) := by
  have l : leaf b s x ∨ (∃ n, s = .r n ∧ isLD x = true) := by
    cases k with
    | zero => exact .inl r.2
    | succ k =>
      unfold RV at r
      rcases r with r | ⟨n', xs, ds', fs, rfl, hn, rfl, rfl, r⟩ | ⟨n', xs, ds', fs, rfl, hn, rfl, rfl, r⟩ | ⟨n', xs, ds', fs, rfl, hn, rfl, rfl, r⟩ | ⟨n', xs, ds', fs, rfl, hn, rfl, rfl, r⟩
      · exact .inl r.2.1
      · exact .inr ⟨n', rfl, rfl⟩
      · exact .inr ⟨n', rfl, rfl⟩
      · exact .inr ⟨n', rfl, by show (!immL ds') = true; rw [hn.2]; rfl⟩
      · exact .inr ⟨n', rfl, rfl⟩
  rcases l with (rfl | ⟨_, rfl⟩) | ⟨n, rfl, e⟩
  · rfl
  · unfold mkv
    split
    · rfl
    · rename_i c
      cases x <;> first | rfl | exact absurd rfl c
  · cases x <;> first | rfl | cases e
theorem flat_fa {h : AH} : ∀ {ss : List SV} {ds : List PyData} {fs : List (List Nat)}, Fa3 (RV h b k) ss ds fs → flatL ss = flatL (ds.map SV.d)
  | [], [], [], _ => rfl
  | s :: ss, d :: ds, f :: fs, ⟨r, q⟩ => by
    rw [List.map_cons]
    unfold flatL
    rw [flat_rv r, flat_fa q]
  | [], [], c :: cs, h => h.elim
  | [], b :: bs, [], h => h.elim
  | [], b :: bs, c :: cs, h => h.elim
  | a :: as, [], [], h => h.elim
  | a :: as, [], c :: cs, h => h.elim
  | a :: as, b :: bs, [], h => h.elim
theorem ov_in {neg : Bool} (h2 : k2 ≤ 1 := by decide) : OpV b1 k1 b2 k2 b k fr (Zx.gIn neg) (gIn neg) := by
  intro h vs s t x y f1 f2 r1 n1 r2
  unfold gIn Zx.gIn
  rw [flat_rv r1]
  split
  · rename_i v hv
    try rw [hv]
    try dsimp only
    split
    · rename_i ds hd
      obtain ⟨ss, fs, e1, q⟩ := items_of r2 h2 hd
      split
      · rename_i us hu
        rw [e1]
        dsimp only
        rw [flat_fa q, hu]
        exact OutE.dd (x := .bool _) rfl
      · trivial
    · trivial
  · trivial
end
def gLen : List PyData → List VS → VR PyData := fun ds vs => match ds with
  | [.str z] => if z.length ≤ sizeLine then .ok (.int z.length) vs else .st
  | [.list xs] => .ok (.int xs.length) vs
  | [.tuple xs] => .ok (.int xs.length) vs
  | _ => .st
def gI2 (kk : Int → Int → Int) : List PyData → List VS → VR PyData := fun ds vs => match ds with
  | [.int i, .int j] => .ok (.int (kk i j)) vs
  | _ => .st
def gI1 (kk : Int → Int) : List PyData → List VS → VR PyData := fun ds vs => match ds with
  | [.int i] => .ok (.int (kk i)) vs
  | _ => .st
def gAbs := gI1 fun i => if i < 0 then -i else i
def gMin2 := gI2 fun i j => if j < i then j else i
def gMax2 := gI2 fun i j => if j > i then j else i
def gInt : List PyData → List VS → VR PyData := fun ds vs => match ds with
  | [.int i] => .ok (.int i) vs
  | [.bool c] => .ok (.int (if c = true then 1 else 0)) vs
  | _ => .st
def gSum : List PyData → List VS → VR PyData := fun ds vs => match ds with
  | [.list xs] => match intsD xs with
    | some ns => .ok (.int ns.sum) vs
    | none => .st
  | _ => .st
def boolsD : List PyData → Option (List Bool)
  | [] => some []
  | .bool i :: r => (boolsD r).map (i :: ·)
  | _ => none
def gBools (kk : List Bool → Bool) : List PyData → List VS → VR PyData := fun ds vs => match ds with
  | [.list xs] => match boolsD xs with
    | some bs => .ok (.bool (kk bs)) vs
    | none => .st
  | _ => .st
def gList : List PyData → List VS → VR PyData := fun ds vs => match ds with
  | [x] => match itemsP x with
    | some xs => .ok (.list xs) vs
    | none => .st
  | _ => .st
def gTuple : List PyData → List VS → VR PyData := fun ds vs => match ds with
  | [.list xs] => .ok (.tuple xs) vs
  | _ => .st
def tyP : PyData → Option String
  | .none => some "NoneType"
  | .bool _ => some "bool"
  | .int _ => some "int"
  | .str _ => some "str"
  | .list _ => some "list"
  | .tuple _ => some "tuple"
  | .dict _ => none
def fIsi (T : String) (ga : VE) : VE := fun vs => (ga vs).bind fun x vs => match tyP x with
  | some t => match isTy t T with
    | some c => .ok (.bool c) vs
    | none => .st
  | none => .st
section
variable {D : List KD} {b b1 b2 b3 fr fr1 fr2 fr3 : Bool} {k k1 k2 k3 i : Nat} {fa fb fc : FE} {ga gb gc : VE} {ta tb : FT} {ua ub : VT} {ra : FA} {qa : VA} {KL : List KD}
theorem ra_one {h : AH} {p : KD} {ss : List SV} {ds : List PyData} (r : RA h [p] ss ds) : ∃ s x f, ss = [s] ∧ ds = [x] ∧ RV h p.1 p.2 s x f := by
  obtain ⟨s, ss', d, ds', f, rfl, rfl, r1, rfl, rfl⟩ := r
  exact ⟨s, d, f, rfl, rfl, r1⟩
theorem cv_len : CbV [(b1, k1)] b k fr Zx.gLen gLen := by
  intro h vs ss ds r
  obtain ⟨s, x, f, rfl, rfl, r1⟩ := ra_one r
  clear r
  have r : RV h b1 k1 s x f := r1
  clear r1
  have it : ∀ xs, itemsP x = some xs → ∃ ss, itemsOf h s = some ss ∧ ss.length = xs.length ∧ ∀ z, s ≠ .d (.str z) := fun xs e => by
    by_cases hk : k1 ≤ 1
    · obtain ⟨ss, fs, e1, q⟩ := items_of r hk e
      exact ⟨ss, e1, q.len.1, fun z e => by subst e; cases e1⟩
    · obtain ⟨j, rfl⟩ : ∃ j, k1 = j + 1 := ⟨k1 - 1, by omega⟩
      have r : RV h b1 (j + 1) s x f := r
      unfold RV at r
      rcases r with q | ⟨n', xs', ds', fs, rfl, hn, rfl, rfl, q⟩ | ⟨n', xs', ds', fs, rfl, hn, rfl, rfl, q⟩ | ⟨n', xs', ds', fs, rfl, hn, rfl, rfl, q⟩ | ⟨n', xs', ds', fs, rfl, hn, rfl, rfl, q⟩
      · have := items_of (k := 0) (b := b1) (h := h) (s := s) (x := x) (f := []) ⟨rfl, q.2.1⟩ (by decide) e
        obtain ⟨ss, fs, e1, q⟩ := this
        exact ⟨ss, e1, q.len.1, fun z e => by subst e; cases e1⟩
      · cases e
        exact ⟨xs', by unfold itemsOf; dsimp only; rw [hn], q.len.1, fun z e => by cases e⟩
      · cases e
      · cases e
        exact ⟨xs', by unfold itemsOf; dsimp only; rw [hn.1], q.len.1, fun z e => by cases e⟩
      · cases e
  unfold gLen
  split
  · rename_i z e
    cases e
    obtain ⟨rfl, -⟩ := RV.imm r rfl
    show OutE _ _ _ _ _ _ _ (if z.length ≤ sizeLine then .ok (.d (.int z.length)) h else .st)
    split
    · exact OutE.dd rfl
    · trivial
  · rename_i xs e
    cases e
    obtain ⟨ss, e1, e2, e3⟩ := it xs rfl
    have : Zx.gLen [s] h = .ok (.d (.int xs.length)) h := by
      unfold Zx.gLen
      dsimp only
      split
      · exact absurd rfl (e3 _)
      · rw [e1]; dsimp only; rw [e2]
    rw [this]
    exact OutE.dd rfl
  · rename_i xs e
    cases e
    obtain ⟨ss, e1, e2, e3⟩ := it xs rfl
    have : Zx.gLen [s] h = .ok (.d (.int xs.length)) h := by
      unfold Zx.gLen
      dsimp only
      split
      · exact absurd rfl (e3 _)
      · rw [e1]; dsimp only; rw [e2]
    rw [this]
    exact OutE.dd rfl
  · trivial
theorem bools_fa {h : AH} : ∀ {ss : List SV} {ds : List PyData} {fs : List (List Nat)}, Fa3 (RV h b k) ss ds fs → ∀ ns, boolsD ds = some ns → bolsOf ss = some ns
  | [], [], [], _, ns, e => e
  | s :: ss, .bool i :: ds, f :: fs, ⟨r, q⟩, ns, e => by
    obtain ⟨rfl, -⟩ := r.imm rfl
    have e : (boolsD ds).map (i :: ·) = some ns := e
    cases c : boolsD ds with
    | none => rw [c] at e; cases e
    | some m =>
      rw [c] at e
      cases e
      show (bolsOf ss).map (i :: ·) = _
      rw [bools_fa q m c]; rfl
  | s :: ss, .none :: ds, f :: fs, _, ns, e => by cases e
  | s :: ss, .int _ :: ds, f :: fs, _, ns, e => by cases e
  | s :: ss, .str _ :: ds, f :: fs, _, ns, e => by cases e
  | s :: ss, .list _ :: ds, f :: fs, _, ns, e => by cases e
  | s :: ss, .tuple _ :: ds, f :: fs, _, ns, e => by cases e
  | s :: ss, .dict _ :: ds, f :: fs, _, ns, e => by cases e
  | [], [], c :: cs, h, _, _ => h.elim
  | [], b :: bs, [], h, _, _ => h.elim
  | [], b :: bs, c :: cs, h, _, _ => h.elim
  | a :: as, [], [], h, _, _ => h.elim
  | a :: as, [], c :: cs, h, _, _ => h.elim
  | a :: as, b :: bs, [], h, _, _ => h.elim
theorem cv_bools {kk : List Bool → Bool} {p : KD} (hk : p.2 ≤ 1 := by decide) : CbV [p] b k fr (Zx.gBools kk) (gBools kk) := by
  intro h vs ss ds r
  obtain ⟨s, x, f, rfl, rfl, r1⟩ := ra_one r
  unfold gBools
  split
  · rename_i xs e
    cases e
    split
    · rename_i bs hb
      obtain ⟨ss, fs, e1, q⟩ := lst_of r1 hk
      unfold Zx.gBools
      dsimp only
      rw [e1]
      dsimp only
      rw [bools_fa q bs hb]
      exact OutE.dd rfl
    · trivial
  · trivial
theorem fresh_lst {h : AH} {vs : List VS} {ss : List SV} {ds : List PyData} {fs : List (List Nat)} (q : Fa3 (RV h b 0) ss ds fs) : OutE b 1 fr h.length h vs (.ok (.list ds) vs) (.ok (.r h.length) (h ++ [some (.lst ss)])) := by
  refine ⟨rfl, _, _, [h.length], rfl, ?_, by simp, fun _ n m => by rw [List.mem_singleton.mp m]; exact Nat.le_refl _⟩
  unfold RV
  refine .inr (.inl ⟨_, ss, ds, fs, rfl, ?_, rfl, ?_, ?_⟩)
  · rw [List.getElem?_append_right (Nat.le_refl _), Nat.sub_self]; rfl
  · rw [fa_flat0 q]
  · exact Fa3.imp (cs0 := fs) (fun _ _ _ _ p => RV.app p) (fun _ m => m) q
theorem cv_list {p : KD} (hk : p.2 ≤ 1 := by decide) : CbV [p] p.1 1 fr Zx.gList gList := by
  intro h vs ss ds r
  obtain ⟨s, x, f, rfl, rfl, r1⟩ := ra_one r
  unfold gList
  dsimp only
  split
  · rename_i xs e
    obtain ⟨ss, fs, e1, q⟩ := items_of r1 hk e
    unfold Zx.gList
    dsimp only
    rw [e1]
    exact fresh_lst q
  · trivial
theorem fa_allD {h : AH} : ∀ {ss : List SV} {ds : List PyData} {fs : List (List Nat)}, Fa3 (RV h false 0) ss ds fs → allD ss = some ds
  | [], [], [], _ => rfl
  | s :: ss, d :: ds, f :: fs, ⟨r, q⟩ => by
    rcases r.2 with rfl | ⟨e, _⟩
    · unfold allD
      rw [fa_allD q]; rfl
    · cases e
  | [], [], c :: cs, h => h.elim
  | [], b :: bs, [], h => h.elim
  | [], b :: bs, c :: cs, h => h.elim
  | a :: as, [], [], h => h.elim
  | a :: as, [], c :: cs, h => h.elim
  | a :: as, b :: bs, [], h => h.elim
theorem cv_tuple (hk : k1 ≤ 1 := by decide) : CbV [(false, k1)] b 0 fr Zx.gTuple gTuple := by
  intro h vs ss ds r
  obtain ⟨s, x, f, rfl, rfl, r1⟩ := ra_one r
  unfold gTuple
  split
  · rename_i xs e
    cases e
    obtain ⟨ss, fs, e1, q⟩ := lst_of r1 hk
    unfold Zx.gTuple
    dsimp only
    rw [e1]
    dsimp only
    rw [fa_allD q]
    exact OutE.d0
  · trivial
theorem ty_rv {h : AH} {s : SV} {x : PyData} {f : List Nat} {t : String} (r : RV h b k s x f) (e : tyP x = some t) : tyOf h s = some t := by
  have l : leaf b s x ∨ (∃ n xs ds, s = .r n ∧ h[n]? = some (some (.lst xs)) ∧ x = .list ds) ∨ (∃ ds, x = .dict ds) ∨ (∃ n xs ds, s = .r n ∧ h[n]? = some (some (.tup xs)) ∧ x = .tuple ds) := by
    cases k with
    | zero => exact .inl r.2
    | succ k =>
      unfold RV at r
      rcases r with r | ⟨n', xs, ds', fs, rfl, hn, rfl, rfl, r⟩ | ⟨n', xs, ds', fs, rfl, hn, rfl, rfl, r⟩ | ⟨n', xs, ds', fs, rfl, hn, rfl, rfl, r⟩ | ⟨n', xs, ds', fs, rfl, hn, rfl, rfl, r⟩
      · exact .inl r.2.1
      · exact .inr (.inl ⟨n', _, _, rfl, hn, rfl⟩)
      · exact .inr (.inr (.inl ⟨_, rfl⟩))
      · exact .inr (.inr (.inr ⟨n', _, _, rfl, hn.1, rfl⟩))
      · exact .inr (.inr (.inl ⟨_, rfl⟩))
  rcases l with (rfl | ⟨_, rfl⟩) | ⟨n, xs, ds, rfl, hn, rfl⟩ | ⟨ds, rfl⟩ | ⟨n, xs, ds, rfl, hn, rfl⟩
  · cases x <;> first | exact e | cases e
  · unfold mkv
    cases x with
    | none => exact e
    | bool _ => exact e
    | int _ => exact e
    | str _ => exact e
    | list _ => exact e
    | tuple _ => split <;> exact e
    | dict _ => cases e
  · unfold tyOf
    dsimp only
    rw [hn]
    exact e
  · cases e
  · unfold tyOf
    dsimp only
    rw [hn]
    exact e
theorem ev_isi {T : String} (ha : EV D b1 k1 fr1 fa ga) : EV D b k fr (Zx.fIsi T fa) (fIsi T ga) := by
  intro h sl vs fs R nd
  refine (ha h sl vs fs R nd).ee fun x s t f1 r1 n1 _ => ?_
  split
  · rename_i t' ht
    rw [ty_rv r1 ht]
    dsimp only
    split
    · rename_i c hc
      try rw [hc]
      exact OutE.dd (x := .bool _) rfl
    · trivial
  · trivial
end
abbrev VOo := List VS → VR (Option Int)
def oNo : VOo := fun vs => .ok none vs
def oSome (ga : VE) : VOo := fun vs => (ga vs).bind fun x vs => match x with
  | .int i => .ok (some i) vs
  | _ => .st
def fSlice (ga : VE) (gl gh : VOo) : VE := fun vs => (ga vs).bind fun x vs => (gl vs).bind fun lo vs => (gh vs).bind fun hi vs => match x with
  | .list ds => .ok (.list (cutX ds lo hi)) vs
  | _ => .st
section
variable {D : List KD} {b b1 b2 b3 fr fr1 fr2 fr3 : Bool} {k k1 k2 k3 i : Nat} {fa fb fc : FE} {ga gb gc : VE} {fl fh : List SV → AH → R (Option Int)} {gl gh : VOo}
end
end Zx.V
namespace Zx.V
open PySem PySem.Spec L2
def keyP : PyData → Option Key
  | .int i => some (.inl i)
  | .str x => some (.inr x)
  | _ => none
def toL : List (PyData × PyData) → Option (List (Key × PyData))
  | [] => some []
  | p :: r => match keyP p.1 with
    | some k => match toL r with
      | some q => some ((k, p.2) :: q)
      | none => none
    | none => none
def dK (l : List (Key × PyData)) : List (PyData × PyData) := l.map fun p => (kD p.1, p.2)
def valL : List (Key × PyData) → Key → Option PyData
  | [], _ => none
  | p :: r, k => if p.1 = k then some p.2 else valL r k
def setL : List (Key × PyData) → Key → PyData → List (Key × PyData)
  | [], _, _ => []
  | p :: r, k, s => (if p.1 = k then (p.1, s) else p) :: setL r k s
def putL (l : List (Key × PyData)) (k : Key) (x : PyData) : List (Key × PyData) := match valL l k with
  | some _ => setL l k x
  | none => l ++ [(k, x)]
theorem keyP_kD {k : Key} : keyP (kD k) = some k := by cases k <;> rfl
theorem toL_dK : ∀ (l : List (Key × PyData)), toL (dK l) = some l
  | [] => rfl
  | p :: r => by
    unfold dK
    rw [List.map_cons]
    unfold toL
    rw [keyP_kD]
    dsimp only
    rw [show toL (r.map fun p => (kD p.1, p.2)) = some r from toL_dK r]
theorem dK_toL : ∀ {ps : List (PyData × PyData)} {l : List (Key × PyData)}, toL ps = some l → ps = dK l
  | [], l, e => by cases e; rfl
  | p :: r, l, e => by
    unfold toL at e
    split at e
    · rename_i k hk
      split at e
      · rename_i q hq
        cases e
        have : p.1 = kD k := by
          unfold keyP at hk
          split at hk
          · rename_i z; cases hk; exact z
          · rename_i z; cases hk; exact z
          · cases hk
        show p :: r = (kD k, p.2) :: dK q
        rw [← dK_toL hq, ← this]
      · cases e
    · cases e
def toM (ps : List (PyData × PyData)) : Option (List (Key × PyData)) := if lkq ps = true then toL ps.tail else toL ps
theorem dK_lk : ∀ (l : List (Key × PyData)), lkq (dK l) = false
  | [] => rfl
  | p :: r => kD_mk p.1
theorem toM_dK (l : List (Key × PyData)) : toM (dK l) = some l := by
  unfold toM
  rw [dK_lk]
  exact toL_dK l
theorem toM_lk (l : List (Key × PyData)) : toM ((.none, .none) :: dK l) = some l := toL_dK l
theorem toM_eq {ps : List (PyData × PyData)} {l : List (Key × PyData)} (e : toM ps = some l) : ps = dK l ∨ ∃ p, isMk p.1 = true ∧ ps = p :: dK l := by
  unfold toM at e
  split at e
  · rename_i c
    cases ps with
    | nil => cases c
    | cons p r => exact .inr ⟨p, c, by rw [dK_toL (show toL r = some l from e)]⟩
  · exact .inl (dK_toL e)
theorem dK_tk {l : List (Key × PyData)} {ks : List NestedKey} {ds : List PyData} (e : PyData.dict (dK l) = Zx.tkD ks ds) : False := by
  have e := PyData.dict.inj e
  cases l with
  | nil => cases e
  | cons p r =>
    have e2 := congrArg Prod.fst (List.cons.inj e).1
    have e2 : kD p.1 = .bool true := e2
    obtain ⟨k, d⟩ := p
    cases k <;> cases e2
theorem keyOf_d {x : PyData} : keyOf (.d x) = keyP x := by cases x <;> rfl
def DV (h : AH) (b : Bool) (k : Nat) (kvs : List (Key × SV)) (l : List (Key × PyData)) (fs : List (List Nat)) : Prop := kvs.map Prod.fst = l.map Prod.fst ∧ Fa3 (RV h b k) (kvs.map Prod.snd) (l.map Prod.snd) fs
theorem zip_dK : ∀ {ks : List Key} {ds : List PyData}, ks.length = ds.length → zipD ks ds = dK (ks.zip ds)
  | [], [], _ => rfl
  | k :: ks, d :: ds, h => by
    show (kD k, d) :: zipD ks ds = (kD k, d) :: dK (ks.zip ds)
    rw [zip_dK (Nat.succ.inj h)]
  | [], d :: ds, h => by cases h
  | k :: ks, [], h => by cases h
theorem toKS_dK {f : PyData → SV} : ∀ (l : List (Key × PyData)), toKS f (dK l) = some (l.map fun p => (p.1, f p.2))
  | [] => rfl
  | (.inl i, d) :: r => by
    show toKS f ((.int i, d) :: dK r) = _
    unfold toKS
    rw [toKS_dK r]
    rfl
  | (.inr i, d) :: r => by
    show toKS f ((.str i, d) :: dK r) = _
    unfold toKS
    rw [toKS_dK r]
    rfl
section
variable {D : List KD} {b b1 b2 b3 fr fr1 fr2 fr3 : Bool} {k k1 k2 k3 i : Nat} {fa fb fc : FE} {ga gb gc : VE} {ta tb : FT} {ua ub : VT} {ra : FA} {qa : VA} {KL : List KD}
theorem dct_of {h : AH} {s : SV} {l : List (Key × PyData)} {f : List Nat} (r : RV h b k s (.dict (dK l)) f) : ∃ kvs fs k', dctR h s = some kvs ∧ DV h b k' kvs l fs ∧ k' = k - 1 := by
  have hd : (l.map fun p => (p.1, SV.d p.2)).map Prod.fst = l.map Prod.fst := by rw [List.map_map]; rfl
  have hv : (l.map fun p => (p.1, mkv p.2)).map Prod.fst = l.map Prod.fst := by rw [List.map_map]; rfl
  match k, r with
  | 0, r =>
    rcases r.2 with rfl | ⟨rfl, rfl⟩
    · refine ⟨_, (l.map Prod.snd).map fun _ => [], 0, toKS_dK l, ⟨hd, ?_⟩, rfl⟩
      have := fa_leaf (b := b) (h := h) (l.map Prod.snd)
      rw [List.map_map] at this ⊢
      exact this
    · refine ⟨_, (l.map Prod.snd).map fun _ => [], 0, toKS_dK l, ⟨hv, ?_⟩, rfl⟩
      have := fa_view (h := h) (l.map Prod.snd)
      rw [List.map_map] at this ⊢
      exact this
  | k + 1, r =>
    unfold RV at r
    rcases r with q | ⟨n', xs, ds', fs, rfl, hn, e, rfl, q⟩ | ⟨n', kvs, ds', fs, rfl, hn, e, rfl, q⟩ | ⟨n', xs, ds', fs, rfl, hn, e, rfl, q⟩ | ⟨n', xs, ds', fs, rfl, hn, e, rfl, q⟩
    · cases q.2.2
    · cases e
    rotate_left
    · cases e
    · exact (dK_tk e).elim
    · have e := PyData.dict.inj e
      have hl := q.len.1
      rw [zip_dK (by rw [List.length_map] at hl ⊢; exact hl)] at e
      have e2 : l = (kvs.map Prod.fst).zip ds' := by
        have := congrArg toL e
        rw [toL_dK, toL_dK] at this
        exact Option.some.inj this
      refine ⟨kvs, fs, k, by show dctOf h (.r n') = _; unfold dctOf; dsimp only; rw [hn], ⟨?_, ?_⟩, rfl⟩
      · rw [e2, List.map_fst_zip (by rw [List.length_map] at hl ⊢; omega)]
      · rw [e2, List.map_snd_zip (by rw [List.length_map] at hl ⊢; omega)]
        exact q
theorem dct_ofM {h : AH} {s : SV} {ps : List (PyData × PyData)} {l : List (Key × PyData)} {f : List Nat} (r : RV h b k s (.dict ps) f) (e : toM ps = some l) : ∃ kvs fs k', dctR h s = some kvs ∧ DV h b k' kvs l fs ∧ k' = k - 1 := by
  rcases toM_eq e with rfl | ⟨p, c, rfl⟩
  · exact dct_of r
  · have skip : ∀ (f : PyData → SV), toKS f (p :: dK l) = toKS f (dK l) := fun f => by
      obtain ⟨pk, pd⟩ := p
      cases pk <;> first | rfl | cases c
    match k, r with
    | 0, r =>
      have r0 : RV h b 0 s (.dict (p :: dK l)) f := r
      rcases r.2 with rfl | ⟨rfl, rfl⟩
      · obtain ⟨kvs, fs, k', h1, h2, h3⟩ := dct_of (h := h) (b := b) (k := 0) (s := .d (.dict (dK l))) (f := []) ⟨rfl, .inl rfl⟩
        exact ⟨kvs, fs, k', by show toKS SV.d (p :: dK l) = _; rw [skip]; exact h1, h2, h3⟩
      · obtain ⟨kvs, fs, k', h1, h2, h3⟩ := dct_of (h := h) (b := true) (k := 0) (s := mkv (.dict (dK l))) (f := []) ⟨rfl, .inr ⟨rfl, rfl⟩⟩
        exact ⟨kvs, fs, k', by show toKS mkv (p :: dK l) = _; rw [skip]; exact h1, h2, h3⟩
    | k + 1, r =>
      unfold RV at r
      rcases r with q | ⟨n', xs, ds', fs, rfl, hn, e, rfl, q⟩ | ⟨n', kvs, ds', fs, rfl, hn, e, rfl, q⟩ | ⟨n', xs, ds', fs, rfl, hn, e, rfl, q⟩ | ⟨n', xs, ds', fs, rfl, hn, e, rfl, q⟩
      · cases q.2.2
      · cases e
      · have e := PyData.dict.inj e
        have z : lkq (p :: dK l) = false := by rw [e]; exact zipD_mk
        have z2 : lkq (p :: dK l) = true := c
        rw [z] at z2; cases z2
      · cases e
      · have e := congrArg Prod.fst (List.cons.inj (PyData.dict.inj e)).1
        have c2 : isMk (.bool true) = true := by rw [← show p.1 = .bool true from e]; exact c
        cases c2
theorem DV.val {h : AH} : ∀ {kvs : List (Key × SV)} {l : List (Key × PyData)} {fs : List (List Nat)} (key : Key), DV h b k kvs l fs → (valS kvs key = none ∧ valL l key = none) ∨ ∃ (s : SV) (x : PyData) (f : List Nat) (j : Nat), valS kvs key = some s ∧ valL l key = some x ∧ fs[j]? = some f ∧ RV h b k s x f
  | [], [], fs, key, d => .inl ⟨rfl, rfl⟩
  | p :: kvs, [], fs, key, d => by cases d.1
  | [], p :: l, fs, key, d => by cases d.1
  | p :: kvs, q :: l, [], key, d => d.2.elim
  | p :: kvs, q :: l, f :: fs, key, ⟨d1, d2, d3⟩ => by
    have e1 : p.1 = q.1 := (List.cons.inj d1).1
    have e2 : kvs.map Prod.fst = l.map Prod.fst := (List.cons.inj d1).2
    unfold valS valL
    rw [e1]
    by_cases h : q.1 = key
    · rw [if_pos h, if_pos h]
      exact .inr ⟨p.2, q.2, f, 0, rfl, rfl, rfl, d2⟩
    · rw [if_neg h, if_neg h]
      rcases DV.val key ⟨e2, d3⟩ with z | ⟨s, x, f', j, h1, h2, h3, h4⟩
      · exact .inl z
      · exact .inr ⟨s, x, f', j + 1, h1, h2, h3, h4⟩
def fDct (b : Bool) (k : Nat) : VE := fun vs => .ok (.dict []) vs
def dIn (neg : Bool) : PyData → PyData → List VS → VR PyData := fun y x vs => match keyP y, x with
  | some key, .dict ps => match toM ps with
    | some l => .ok (.bool (neg ^^ (valL l key).isSome)) vs
    | none => .st
  | _, _ => .st
def dGet : PyData → PyData → List VS → VR PyData := fun x y vs => match keyP y, x with
  | some key, .dict ps => match toM ps with
    | some l => match valL l key with
      | some u => .ok u vs
      | none => .st
    | none => .st
  | _, _ => .st
def fDIn (neg : Bool) (ga gb : VE) : VE := fBin (dIn neg) ga gb
def fDGet (ga gb : VE) : VE := fBin dGet ga gb
def gLenD : List PyData → List VS → VR PyData := fun ds vs => match ds with
  | [.dict ps] => match toM ps with
    | some l => .ok (.int l.length) vs
    | none => .st
  | _ => .st
theorem ev_dct : EV D b (k + 1) fr Zx.fDct (fDct b (k + 1)) := by
  intro h sl vs fs R nd
  refine ⟨rfl, _, _, [h.length], rfl, ?_, by simp, fun _ n m => by rw [List.mem_singleton.mp m]; exact Nat.le_refl _⟩
  unfold RV
  refine .inr (.inr (.inl ⟨_, [], [], [], rfl, ?_, rfl, rfl, trivial⟩))
  rw [List.getElem?_append_right (Nat.le_refl _), Nat.sub_self]; rfl
theorem key_rv {h : AH} {s : SV} {x : PyData} {f : List Nat} {key : Key} (r : RV h b k s x f) (e : keyP x = some key) : keyOf s = some key := by
  have c : imm x = true := by
    cases x <;> first | rfl | cases e
  obtain ⟨rfl, _⟩ := r.imm c
  rw [keyOf_d]; exact e
end
inductive VI where
  | one (x : PyData) | two (x y : PyData)
def RI (b : Bool) : It1 → VI → Prop
  | .one s, .one x => leaf b s x
  | .two s t, .two x y => leaf b s x ∧ leaf b t y
  | _, _ => False
def FI (b : Bool) : List It1 → List VI → Prop
  | [], [] => True
  | i :: is, j :: js => RI b i j ∧ FI b is js
  | _, _ => False
abbrev VSr := List VS → VR (List VI)
def IV (D : List KD) (b : Bool) (f : List SV → AH → R Src) (g : VSr) : Prop := ∀ (h : AH) (sl : List SV) (vs : List VS) (fs : List (List Nat)), RSt h D sl vs fs → fs.flatten.Nodup → OutP (fun _ l s => ∃ its, s = .cn its ∧ FI b its l) h vs (g vs) (f sl h)
def iSeq (ga : VE) : VSr := fun vs => (ga vs).bind fun x vs => match x with
  | .list ds => .ok (ds.map .one) vs
  | _ => .st
def iTupl (ga : VE) : VSr := fun vs => (ga vs).bind fun x vs => match x with
  | .tuple ds => .ok (ds.map .one) vs
  | _ => .st
def rngV (lo : Int) (n : Nat) : List VI := (List.range n).map fun i => .one (.int (lo + (i : Nat)))
def iRng (ga : VA) : VSr := fun vs => (ga vs).bind fun ds vs => match ds with
  | [.int j] => if inB j = true then .ok (rngV 0 j.toNat) vs else .st
  | _ => .st
def iRng2 (ga : VA) : VSr := fun vs => (ga vs).bind fun ds vs => match ds with
  | [.int i, .int j] => if (inB i && inB j) = true then .ok (rngV i (j - i).toNat) vs else .st
  | _ => .st
def enumV : Nat → List PyData → List VI
  | _, [] => []
  | k, x :: xs => .two (.int (k : Nat)) x :: enumV (k + 1) xs
def zipV : List PyData → List PyData → List VI
  | x :: xs, y :: ys => .two x y :: zipV xs ys
  | _, _ => []
def iEnu (ga : VA) : VSr := fun vs => (ga vs).bind fun ds vs => match ds with
  | [.list xs] => .ok (enumV 0 xs) vs
  | _ => .st
def iZip (ga : VA) : VSr := fun vs => (ga vs).bind fun ds vs => match ds with
  | [.list xs, .list ys] => .ok (zipV xs ys) vs
  | _ => .st
section
variable {D : List KD} {b b1 b2 b3 fr fr1 fr2 fr3 : Bool} {k k1 k2 k3 i : Nat} {fa fb fc : FE} {ga gb gc : VE} {ta tb : FT} {ua ub : VT} {ra : FA} {qa : VA} {KL : List KD}
theorem fi_d : ∀ (ds : List PyData), FI b (ds.map fun x => .one (.d x)) (ds.map .one)
  | [] => trivial
  | d :: ds => ⟨.inl rfl, fi_d ds⟩
theorem fi_v : ∀ (ds : List PyData), FI true (ds.map fun x => .one (mkv x)) (ds.map .one)
  | [] => trivial
  | d :: ds => ⟨.inr ⟨rfl, rfl⟩, fi_v ds⟩
theorem iv_seq (ha : EV D b 0 fr fa ga) : IV D b (Zx.iSeq fa) (iSeq ga) := by
  intro h sl vs fs R nd
  refine (ha h sl vs fs R nd).ep fun x s t f1 r1 n1 _ => ?_
  split
  · rename_i ds
    rcases r1.2 with rfl | ⟨rfl, rfl⟩
    · exact ⟨rfl, _, [], by rw [List.append_nil], _, rfl, fi_d ds⟩
    · exact ⟨rfl, _, [], by rw [List.append_nil]; rfl, _, rfl, fi_v ds⟩
  · trivial
theorem iv_tup (ha : EV D b k fr fa ga) (hk : k = 0 := by rfl) : IV D b (Zx.iTupl fa) (iTupl ga) := by
  intro h sl vs fs R nd
  refine (ha h sl vs fs R nd).ep fun x s t f1 r1 n1 _ => ?_
  split
  · rename_i ds
    have l : leaf b s (.tuple ds) := by
      cases k with
      | zero => exact r1.2
      | succ k => cases hk
    rcases l with rfl | ⟨rfl, rfl⟩
    · exact ⟨rfl, _, [], by rw [List.append_nil], _, rfl, fi_d ds⟩
    · by_cases c : imm (.tuple ds) = true
      · rw [show mkv (.tuple ds) = .d (.tuple ds) from by unfold mkv; rw [if_pos c]]
        exact ⟨rfl, _, [], by rw [List.append_nil], _, rfl, fi_d ds⟩
      · rw [show mkv (.tuple ds) = .vw (.tuple ds) from by unfold mkv; rw [if_neg c]]
        exact ⟨rfl, _, [], by rw [List.append_nil], _, rfl, fi_v ds⟩
  · trivial
theorem fi_rng {lo : Int} : ∀ l : List Nat, FI b (l.map fun i => .one (.d (.int (lo + (i : Nat))))) (l.map fun i => .one (.int (lo + (i : Nat))))
  | [] => trivial
  | d :: ds => ⟨.inl rfl, fi_rng ds⟩
theorem iv_rng {p : KD} (ha : AV D [p] ra qa) : IV D b (Zx.iRng ra) (iRng qa) := by
  intro h sl vs fs R nd
  refine (ha h sl vs fs R nd).pp fun xs ss t r => ?_
  obtain ⟨s, x, f, rfl, rfl, r1⟩ := ra_one r
  split
  · rename_i j e
    cases e
    obtain ⟨rfl, -⟩ := r1.imm rfl
    dsimp only
    split
    · exact ⟨rfl, _, [], by rw [List.append_nil]; rfl, _, rfl, fi_rng _⟩
    · trivial
  · trivial
theorem leaf_bm {s : SV} {x : PyData} (hb : (!b1 || b) = true) (l : leaf b1 s x) : leaf b s x := l.imp_right fun z => ⟨by rw [z.1] at hb; simpa using hb, z.2⟩
end
def setAllV : List Nat → List PyData → List VS → Option (List VS)
  | [], [], vs => some vs
  | i :: is, x :: xs, vs => setAllV is xs (vs.set i (.v x))
  | _, _, _ => none
def goV : Bd → VI → List VS → Option (List VS)
  | .nm i, .one x, vs => some (vs.set i (.v x))
  | .tp is, .one (.tuple ds), vs => setAllV is ds vs
  | .tp is, .two x y, vs => setAllV is [x, y] vs
  | _, _, _ => none
def kdOk (D : List KD) (b : Bool) (i : Nat) : Bool := match D[i]? with
  | some (b', 0) => !b || b'
  | _ => false
def bdOk (D : List KD) (b : Bool) (bd : Bd) : Bool := bd.is.all (kdOk D b)
section
variable {D : List KD} {b : Bool}
theorem kd_set {h : AH} {sl : List SV} {vs : List VS} {fs : List (List Nat)} {i : Nat} {s : SV} {x : PyData} (c : kdOk D b i = true) (R : RSt h D sl vs fs) (nd : fs.flatten.Nodup) (l : leaf b s x) :
    ∃ fs', RSt h D (sl.set i s) (vs.set i (.v x)) fs' ∧ fs'.flatten.Nodup ∧ ∀ n ∈ fs'.flatten, n ∈ fs.flatten := by
  unfold kdOk at c
  split at c
  · rename_i b' e
    exact ⟨fs.set i [], R.set e ⟨rfl, leaf_bm c l⟩, nd_rest nd, fun n m => mem_rest m⟩
  · cases c
theorem setAll_ok {h : AH} : ∀ {is : List Nat} {xs : List SV} {ds : List PyData} {sl : List SV} {vs vs' : List VS} {fs : List (List Nat)}, is.all (kdOk D b) = true → RSt h D sl vs fs → fs.flatten.Nodup → (xs.length = ds.length ∧ ∀ (j : Nat) (s : SV) (x : PyData), xs[j]? = some s → ds[j]? = some x → leaf b s x) → setAllV is ds vs = some vs' →
    ∃ sl' fs', setAll is xs sl = some sl' ∧ RSt h D sl' vs' fs' ∧ fs'.flatten.Nodup ∧ ∀ n ∈ fs'.flatten, n ∈ fs.flatten
  | [], xs, [], sl, vs, vs', fs, c, R, nd, l, e => by
    cases e
    cases xs with
    | nil => exact ⟨sl, fs, rfl, R, nd, fun n m => m⟩
    | cons a xs => cases l.1
  | [], xs, d :: ds, sl, vs, vs', fs, c, R, nd, l, e => by cases e
  | i :: is, xs, [], sl, vs, vs', fs, c, R, nd, l, e => by cases e
  | i :: is, [], d :: ds, sl, vs, vs', fs, c, R, nd, l, e => by cases l.1
  | i :: is, a :: xs, d :: ds, sl, vs, vs', fs, c, R, nd, l, e => by
    rw [List.all_cons, Bool.and_eq_true] at c
    obtain ⟨fs1, R1, n1, m1⟩ := kd_set c.1 R nd (l.2 0 a d rfl rfl)
    obtain ⟨sl2, fs2, e2, R2, n2, m2⟩ := setAll_ok c.2 R1 n1 ⟨Nat.succ.inj l.1, fun j s x h1 h2 => l.2 (j + 1) s x h1 h2⟩ e
    exact ⟨sl2, fs2, e2, R2, n2, fun n m => m1 n (m2 n m)⟩
theorem go_ok {h : AH} {bd : Bd} {it : It1} {vi : VI} {sl : List SV} {vs vs' : List VS} {fs : List (List Nat)} (c : bdOk D b bd = true) (R : RSt h D sl vs fs) (nd : fs.flatten.Nodup) (r : RI b it vi) (e : goV bd vi vs = some vs') :
    ∃ sl' fs', bd.go it sl = some sl' ∧ RSt h D sl' vs' fs' ∧ fs'.flatten.Nodup ∧ ∀ n ∈ fs'.flatten, n ∈ fs.flatten := by
  unfold goV at e
  split at e
  · rename_i i x
    cases e
    cases it with
    | two s t => exact r.elim
    | one s =>
      unfold bdOk at c
      have c : [i].all (kdOk D b) = true := c
      rw [List.all_cons, List.all_nil, Bool.and_true] at c
      obtain ⟨fs', R', n', m'⟩ := kd_set c R nd r
      exact ⟨_, fs', rfl, R', n', m'⟩
  · rename_i is ds
    cases it with
    | two s t => exact r.elim
    | one s =>
      have r : leaf b s (.tuple ds) := r
      have gt : ∀ {α : Type} (l : List α) (f : α → SV) (j : Nat) (s : SV) (d : α), (l.map f)[j]? = some s → l[j]? = some d → s = f d := fun l f j s d h1 h2 => by
        rw [List.getElem?_map, h2] at h1; exact (Option.some.inj h1).symm
      have : ∃ xs, tupItems s = some xs ∧ xs.length = ds.length ∧ ∀ (j : Nat) (s : SV) (x : PyData), xs[j]? = some s → ds[j]? = some x → leaf b s x := by
        rcases r with rfl | ⟨rfl, rfl⟩
        · exact ⟨_, rfl, List.length_map .., fun j s x h1 h2 => .inl (gt _ _ _ _ _ h1 h2)⟩
        · unfold mkv
          split
          · exact ⟨_, rfl, List.length_map .., fun j s x h1 h2 => .inl (gt _ _ _ _ _ h1 h2)⟩
          · exact ⟨_, rfl, List.length_map .., fun j s x h1 h2 => .inr ⟨rfl, gt _ _ _ _ _ h1 h2⟩⟩
      obtain ⟨xs, e1, l⟩ := this
      obtain ⟨sl', fs', e2, rest⟩ := setAll_ok (D := D) c R nd l e
      exact ⟨sl', fs', by show (match tupItems s with | some xs => setAll is xs sl | none => none) = _; rw [e1]; exact e2, rest⟩
  · rename_i is x y
    cases it with
    | one s => exact r.elim
    | two s t =>
      have r : leaf b s x ∧ leaf b t y := r
      obtain ⟨sl', fs', e2, rest⟩ := setAll_ok (D := D) (xs := [s, t]) c R nd ⟨rfl, fun j s' x' h1 h2 => by
        match j with
        | 0 => cases h1; cases h2; exact r.1
        | 1 => cases h1; cases h2; exact r.2
        | j + 2 => cases h1⟩ e
      exact ⟨sl', fs', e2, rest⟩
  · cases e
end
end Zx.V
namespace Zx.V
open PySem PySem.Spec L2
def wipeV (vs : List VS) : List Nat → List VS
  | [] => vs
  | v :: r => (wipeV vs r).set v .un
def lcV (bd : Bd) (gt : VT) (ge : VE) (vw : List VS) : List VI → Option (List PyData)
  | [] => some []
  | it :: its => match goV bd it vw with
    | none => none
    | some vs1 => match gt vs1 with
      | .ok true _ => match ge vs1 with
        | .ok x _ => match lcV bd gt ge vw its with
          | some r => some (x :: r)
          | none => none
        | _ => none
      | .ok false _ => lcV bd gt ge vw its
      | _ => none
def lcEnd (vs : List VS) (o : Option (List PyData)) : VR PyData := match o with
  | some out => if out.length ≤ 1000000 then .ok (.list out) vs else .st
  | none => .st
def fLc (b : Bool) (k : Nat) (gi : VSr) (bd : Bd) (gt : VT) (ge : VE) (vx : List Nat) : VE := fun vs => (gi vs).bind fun its vs => lcEnd vs (lcV bd gt ge (wipeV vs vx) its)
def fYes : VT := fun vs => .ok true vs
section
variable {D : List KD} {b b1 b2 b3 fr fr1 fr2 fr3 : Bool} {k k1 k2 k3 i : Nat} {fa fb fc : FE} {ga gb gc : VE} {ta tb : FT} {ua ub : VT} {ra : FA} {qa : VA} {KL : List KD}
theorem RSt.wipe {h : AH} {sl : List SV} {vs : List VS} {fs : List (List Nat)} (R : RSt h D sl vs fs) (nd : fs.flatten.Nodup) : ∀ (vx : List Nat), ∃ fs', RSt h D (wipeS sl vx) (wipeV vs vx) fs' ∧ fs'.flatten.Nodup ∧ ∀ n ∈ fs'.flatten, n ∈ fs.flatten
  | [] => ⟨fs, R, nd, fun _ m => m⟩
  | v :: r => by
    obtain ⟨fs', R', n', m'⟩ := RSt.wipe R nd r
    unfold wipeS wipeV
    refine ⟨fs'.set v [], ?_, nd_rest n', fun n m => m' n (mem_rest m)⟩
    cases e : D[v]? with
    | none =>
      have hl := R'.len
      have hv : D.length ≤ v := List.getElem?_eq_none_iff.mp e
      rw [List.set_eq_of_length_le (by omega), List.set_eq_of_length_le (by omega), List.set_eq_of_length_le (by omega)]
      exact R'
    | some kd => exact R'.set e (show RS1 h kd .un .un [] from rfl)
theorem norm_cs {M : Nat} {slw : List SV} {h : AH} : (norm [] M slw h).2 = h ∨ ((norm [] M slw h).2 = h.take M ∧ (h.take M).all (belowO M) = true) := by
  unfold Zx.norm
  split
  · rename_i c
    unfold trimOk at c
    rw [Bool.and_eq_true] at c
    exact .inr ⟨rfl, c.1⟩
  · exact .inl rfl
theorem fa_cut {h : AH} {M : Nat} (hL : (h.take M).all (belowO M) = true) : ∀ {ss : List SV} {ds : List PyData} {fs : List (List Nat)}, ss.all (Zx.below M) = true → Fa3 (RV h b k) ss ds fs → Fa3 (RV (h.take M) b k) ss ds fs
  | [], [], [], _, _ => trivial
  | s :: ss, d :: ds, f :: fs, c, ⟨r, q⟩ => by
    rw [List.all_cons, Bool.and_eq_true] at c
    exact ⟨r.cut (RV.below hL r c.1), fa_cut hL c.2 q⟩
  | [], [], c :: cs, _, h => h.elim
  | [], b :: bs, [], _, h => h.elim
  | [], b :: bs, c :: cs, _, h => h.elim
  | a :: as, [], [], _, h => h.elim
  | a :: as, [], c :: cs, _, h => h.elim
  | a :: as, b :: bs, [], _, h => h.elim
theorem lc_turn {h0 : AH} {slw : List SV} {acc : List SV} {accv : List PyData} {fps : List (List Nat)} {t : AH} (q : Fa3 (RV (h0 ++ [some (.lst acc)] ++ t) b k) acc accv fps) :
    ∃ t', (norm [] (h0.length + 1) slw (h0 ++ [some (.lst acc)] ++ t)).2 = h0 ++ [some (.lst acc)] ++ t' ∧ Fa3 (RV (h0 ++ [some (.lst acc)] ++ t') b k) acc accv fps := by
  rcases norm_cs (M := h0.length + 1) (slw := slw) (h := h0 ++ [some (.lst acc)] ++ t) with e | ⟨e, c⟩
  · exact ⟨t, e, q⟩
  · have ht : (h0 ++ [some (AO.lst acc)] ++ t).take (h0.length + 1) = h0 ++ [some (.lst acc)] ++ [] := by
      rw [List.append_nil, List.take_left' (by rw [List.length_append]; rfl)]
    refine ⟨[], by rw [e, ht], ?_⟩
    rw [← ht]
    refine fa_cut c ?_ q
    rw [ht, List.append_nil, List.all_append, Bool.and_eq_true] at c
    have c2 := c.2
    rw [List.all_cons, Bool.and_eq_true] at c2
    exact c2.1
theorem lcC_ok {bd : Bd} {slw : List SV} {vw : List VS} {fsw : List (List Nat)} {h0 : AH} (hbd : bdOk D b1 bd = true) (ht : TV D ta ua) (he : EV D b2 k true fa ga) (hb : (!b2 || b) = true) (R : RSt h0 D slw vw fsw) (nd : fsw.flatten.Nodup) :
    ∀ {its : List It1} {vis : List VI} {acc : List SV} {accv out : List PyData} {fps : List (List Nat)} {t : AH}, FI b1 its vis → Fa3 (RV (h0 ++ [some (.lst acc)] ++ t) b k) acc accv fps → fps.flatten.Nodup → (∀ n ∈ fps.flatten, h0.length + 1 ≤ n) → lcV bd ua ga vw vis = some out → accv.length + out.length ≤ 1000000 →
      ∃ acc' fps' t', lcC h0.length bd ta fa slw its (h0 ++ [some (.lst acc)] ++ t) = .ok () (h0 ++ [some (.lst acc')] ++ t') ∧ Fa3 (RV (h0 ++ [some (.lst acc')] ++ t') b k) acc' (accv ++ out) fps' ∧ fps'.flatten.Nodup ∧ ∀ n ∈ fps'.flatten, h0.length + 1 ≤ n
  | [], [], acc, accv, out, fps, t, fi, q, n, z, e, hl => by
    cases e
    exact ⟨acc, fps, t, rfl, by rw [List.append_nil]; exact q, n, z⟩
  | [], j :: js, acc, accv, out, fps, t, fi, q, n, z, e, hl => fi.elim
  | i :: is, [], acc, accv, out, fps, t, fi, q, n, z, e, hl => fi.elim
  | i :: is, j :: js, acc, accv, out, fps, t, ⟨f1, f2⟩, q, n, z, e, hl => by
    unfold lcV at e
    split at e
    · cases e
    · rename_i vs1 hg
      obtain ⟨sl1, fs1, e1, R1, nd1, m1⟩ := go_ok hbd R nd f1 hg
      have o1 := ht (h0 ++ [some (.lst acc)] ++ t) sl1 vs1 fs1 (RSt.app (RSt.app R1)) nd1
      unfold lcC
      unfold lcOne
      rw [e1]
      dsimp only
      split at e
      · rename_i vs2 ht1
        rw [ht1] at o1
        obtain ⟨rfl, a, t1, ea, e3⟩ := o1
        subst e3
        rw [ea]
        split at e
        · rename_i x vs3 hx
          have o2 := he (h0 ++ [some (.lst acc)] ++ t ++ t1) sl1 vs2 fs1 (RSt.app (RSt.app (RSt.app R1))) nd1
          rw [hx] at o2
          obtain ⟨rfl, s, t2, fp, es, r2, n2, z2⟩ := o2
          split at e
          · rename_i r hr
            cases e
            show ∃ acc' fps' t', ((nrz (fa sl1 (h0 ++ [some (.lst acc)] ++ t ++ t1))).bind fun s h2 => lcPut h0.length slw s h2 (lcC h0.length bd ta fa slw is)) = _ ∧ _
            rw [es]
            have hL : (h0 ++ [some (AO.lst acc)] ++ t ++ t1 ++ t2)[h0.length]? = some (some (.lst acc)) := by
              rw [List.append_assoc, List.append_assoc, List.append_assoc, List.getElem?_append_right (Nat.le_refl _), Nat.sub_self]; rfl
            have la := q.len.1
            rw [List.length_cons] at hl
            show ∃ acc' fps' t', lcPut h0.length slw s (h0 ++ [some (.lst acc)] ++ t ++ t1 ++ t2) (lcC h0.length bd ta fa slw is) = _ ∧ _
            unfold lcPut
            rw [hL]
            dsimp only
            rw [if_pos (by omega)]
            have hs : (h0 ++ [some (AO.lst acc)] ++ t ++ t1 ++ t2).set h0.length (some (.lst (acc ++ [s]))) = h0 ++ [some (.lst (acc ++ [s]))] ++ (t ++ t1 ++ t2) := by
              rw [List.append_assoc, List.append_assoc, List.append_assoc, List.set_append_right _ _ (Nat.le_refl _), Nat.sub_self]
              simp
            rw [hs]
            have fz1 : ∀ m, h0.length + 1 ≤ m → (h0 ++ [some (AO.lst (acc ++ [s]))] ++ (t ++ t1 ++ t2))[m]? = (h0 ++ [some (AO.lst acc)] ++ t ++ t1 ++ t2)[m]? := fun m hm => by
              rw [← hs, List.getElem?_set_ne (by omega)]
            have q2 : Fa3 (RV (h0 ++ [some (.lst (acc ++ [s]))] ++ (t ++ t1 ++ t2)) b k) (acc ++ [s]) (accv ++ [x]) (fps ++ [fp]) := by
              have qa : Fa3 (RV (h0 ++ [some (.lst (acc ++ [s]))] ++ (t ++ t1 ++ t2)) b k) acc accv fps := Fa3.imp (cs0 := fps) (fun a0 b0 c hc p => by
                have p2 : RV (h0 ++ [some (AO.lst acc)] ++ t ++ t1 ++ t2) b k a0 b0 c := RV.app (RV.app p)
                exact p2.frame fun m hm => fz1 m (z m (List.mem_flatten.mpr ⟨c, hc, hm⟩))) (fun _ m => m) q
              have qb : Fa3 (RV (h0 ++ [some (.lst (acc ++ [s]))] ++ (t ++ t1 ++ t2)) b k) [s] [x] [fp] := by
                refine ⟨RV.bm hb (r2.frame fun m hm => fz1 m ?_), trivial⟩
                have := z2 rfl m hm
                simp only [List.length_append, List.length_cons, List.length_nil] at this
                omega
              exact Fa3.app qb qa
            have n3 : (fps ++ [fp]).flatten.Nodup := by
              rw [List.flatten_append, List.nodup_append]
              refine ⟨n, by simpa using n2, fun a ha b' hb' e => ?_⟩
              have hb'' : b' ∈ fp := by simpa using hb'
              obtain ⟨c, hc, hm⟩ := List.mem_flatten.mp ha
              obtain ⟨_, _, _, _, p⟩ := Fa3.mem q hc
              have h1 := p.lt a hm
              have h2 := z2 rfl b' hb''
              rw [List.length_append] at h2
              omega
            have z3 : ∀ m ∈ (fps ++ [fp]).flatten, h0.length + 1 ≤ m := fun m hm => by
              rw [List.flatten_append, List.mem_append] at hm
              rcases hm with hm | hm
              · exact z m hm
              · have := z2 rfl m (by simpa using hm)
                simp only [List.length_append, List.length_cons, List.length_nil] at this
                omega
            obtain ⟨t', et, q3⟩ := lc_turn (slw := slw) q2
            rw [et]
            obtain ⟨acc', fps', t'', h1, h2, h3, h4⟩ := lcC_ok hbd ht he hb R nd f2 q3 n3 z3 hr (by rw [List.length_append, List.length_singleton]; omega)
            refine ⟨acc', fps', t'', h1, ?_, h3, h4⟩
            rw [List.append_assoc accv] at h2
            exact h2
          · cases e
        · cases e
      · rename_i vs2 ht1
        rw [ht1] at o1
        obtain ⟨rfl, a, t1, ea, e3⟩ := o1
        subst e3
        rw [ea]
        have q2 : Fa3 (RV (h0 ++ [some (.lst acc)] ++ (t ++ t1)) b k) acc accv fps := by
          rw [← List.append_assoc]
          exact Fa3.imp (cs0 := fps) (fun _ _ _ _ p => RV.app p) (fun _ m => m) q
        obtain ⟨t', et, q3⟩ := lc_turn (slw := slw) q2
        show ∃ acc' fps' t', lcC h0.length bd ta fa slw is (norm [] (h0.length + 1) slw (h0 ++ [some (.lst acc)] ++ t ++ t1)).2 = _ ∧ _
        rw [List.append_assoc (h0 ++ [some (AO.lst acc)]), et]
        exact lcC_ok hbd ht he hb R nd f2 q3 n z e hl
      · cases e
theorem ev_lc {fi : List SV → AH → R Src} {gi : VSr} {bd : Bd} {vx : List Nat} (hi : IV D b1 fi gi) (ht : TV D ta ua) (he : EV D b2 k true fa ga) (hbd : bdOk D b1 bd = true := by decide) (hb : (!b2 || b) = true := by decide) : EV D b (k + 1) fr (Zx.fLc fi bd ta fa vx) (fLc b (k + 1) gi bd ua ga vx) := by
  intro h sl vs fs R nd
  refine (hi h sl vs fs R nd).pe fun vis s t r => ?_
  obtain ⟨its, rfl, fi⟩ := r
  obtain ⟨fsw, Rw, nw, _⟩ := RSt.wipe (R.app (t := t)) nd vx
  cases e : lcV bd ua ga (wipeV vs vx) vis with
  | none => trivial
  | some out =>
    show OutE _ _ _ _ _ _ (if out.length ≤ 1000000 then .ok (.list out) vs else .st) _
    split
    · rename_i hl
      obtain ⟨acc', fps', t', h1, h2, h3, h4⟩ := lcC_ok (h0 := h ++ t) (acc := []) (accv := []) (fps := []) (t := []) hbd ht he hb Rw nw fi trivial List.nodup_nil (fun _ m => by cases m) e (by simpa using hl)
      rw [List.append_nil] at h1
      show OutE _ _ _ _ _ _ _ ((lcC (h ++ t).length bd ta fa (wipeS sl vx) its (h ++ t ++ [some (.lst [])])).bind fun _ h2 => .ok (.r (h ++ t).length) h2)
      rw [h1]
      refine ⟨rfl, .r (h ++ t).length, [some (.lst acc')] ++ t', (h ++ t).length :: fps'.flatten, by rw [← List.append_assoc]; rfl, ?_, ?_, fun _ n m => ?_⟩
      · rw [← List.append_assoc]
        unfold RV
        refine .inr (.inl ⟨_, acc', out, fps', rfl, ?_, rfl, rfl, h2⟩)
        rw [List.append_assoc (h ++ t), List.getElem?_append_right (Nat.le_refl _), Nat.sub_self]; rfl
      · rw [List.nodup_cons]
        exact ⟨fun m => absurd (h4 _ m) (by omega), h3⟩
      · rcases List.mem_cons.mp m with rfl | m
        · rw [List.length_append]; omega
        · have := h4 n m
          rw [List.length_append] at this
          omega
    · trivial
end
inductive VC where
  | ok (x : PyData) | rz (c : Str) | st
def CalV (φ : List PyData → R SV) (k : Nat) (u : List PyData → VC) : Prop := ∀ ds, match u ds with
  | .ok x => ∃ s hn fp, φ ds = .ok s hn ∧ RV hn false k s x fp ∧ fp.Nodup
  | .rz c => ∃ hn, φ ds = .rz c hn
  | .st => True
def VC.back (r : VC) (vs : List VS) : VR PyData := match r with
  | .ok x => .ok x vs
  | .rz c => .rz c
  | .st => .st
def fCall (u : List PyData → VC) (qa : VA) : VE := fun vs => (qa vs).bind fun ds vs => (u ds).back vs
def fSc (i : Nat) : VE := fun vs => match vs[i]? with
  | some (.sc ns) => .ok (.list (ns.map PyData.int)) vs
  | _ => .st
def AM (D : List KD) (ms : List Md) (f : FA) (g : VA) : Prop := ∀ (h : AH) (sl : List SV) (vs : List VS) (fs : List (List Nat)), RSt h D sl vs fs → fs.flatten.Nodup → OutP (fun h' ds ss => ∀ t, argsD (h' ++ t) ms ss = some ds) h vs (g vs) (f sl h)
section
variable {D : List KD} {b b1 b2 b3 fr fr1 fr2 fr3 : Bool} {k k1 k2 k3 i : Nat} {fa fb fc : FE} {ga gb gc : VE} {ta tb : FT} {ua ub : VT} {ra : FA} {qa : VA} {KL : List KD} {ms : List Md}
theorem am_nil : AM D [] Zx.fNil fNil := fun h sl vs fs R nd => ⟨rfl, [], [], by rw [List.append_nil]; rfl, fun _ => rfl⟩
theorem am_vw (ha : EV D b k fr fa ga) (hr : AM D ms ra qa) (hk : k ≤ 9 := by decide) : AM D (.vw :: ms) (Zx.fCons fa ra) (fCons ga qa) := by
  intro h sl vs fs R nd
  refine (ha h sl vs fs R nd).ep fun x s t f1 r1 n1 _ => ?_
  refine (hr (h ++ t) sl vs fs R.app nd).pp fun xs ss t2 r2 => ?_
  refine ⟨rfl, s :: ss, [], by rw [List.append_nil], fun t3 => ?_⟩
  rw [g_cons, g_vw, List.append_nil, RV.rb (RV.app (t := t3) (RV.app (t := t2) r1)) hk, o_some, r2 t3]
  rfl
theorem am_sc (hr : AM D ms ra qa) (hi : i < D.length := by decide) : AM D (.sc :: ms) (Zx.fCons (Zx.fVar i) ra) (fCons (fSc i) qa) := by
  intro h sl vs fs R nd
  obtain ⟨s, v, f, e1, e2, e3, r⟩ := R.get (List.getElem?_eq_getElem hi)
  unfold fCons fSc
  show OutP _ _ _ ((match vs[i]? with | some (.sc ns) => VR.ok (PyData.list (ns.map PyData.int)) vs | _ => .st).bind _) _
  rw [e2]
  cases v with
  | un => trivial
  | v x => trivial
  | ex x => trivial
  | sc ns =>
    obtain ⟨rfl, rfl⟩ := r
    have : Zx.fVar i sl h = .ok (.sc ns) h := by unfold Zx.fVar; rw [e1]
    show OutP _ _ _ ((qa vs).bind _) ((Zx.fVar i sl h).bind _)
    rw [this]
    refine (hr h sl vs fs R nd).pp fun xs ss t2 r2 => ?_
    refine ⟨rfl, .sc ns :: ss, [], by rw [List.append_nil], fun t3 => ?_⟩
    rw [g_cons, g_sc, o_some, List.append_nil, r2 t3]; rfl
theorem ev_call {φ : List PyData → R SV} {u : List PyData → VC} (hc : CalV φ k u) (ha : AM D ms ra qa) : EV D false k fr (Zx.fCall ms φ ra) (fCall u qa) := by
  intro h sl vs fs R nd
  rw [a_call]
  refine (ha h sl vs fs R nd).pe fun ds ss t r => ?_
  have r := r []
  rw [List.append_nil] at r
  rw [r, o_some]
  have c := hc ds
  cases e : u ds with
  | st => trivial
  | rz cc =>
    rw [e] at c
    obtain ⟨hn, c⟩ := c
    rw [c]
    exact ⟨[], by rw [List.append_nil]; rfl⟩
  | ok x =>
    rw [e] at c
    obtain ⟨s, hn, fp, c, r1, n1⟩ := c
    rw [c]
    refine ⟨rfl, shv (h ++ t).length s, shh (h ++ t).length hn, fp.map (· + (h ++ t).length), rfl, r1.shift, ?_, fun _ n m => ?_⟩
    · exact List.Pairwise.map _ (fun a b e z => e (by omega)) n1
    · obtain ⟨m', _, rfl⟩ := List.mem_map.mp m
      rw [List.length_append]; omega
def Knows (φ : List PyData → R SV) (k : Nat) (ds : List PyData) (x : PyData) : Prop := ∃ s hn fp, φ ds = .ok s hn ∧ RV hn false k s x fp ∧ fp.Nodup
open Classical in
noncomputable def lift (φ : List PyData → R SV) (k : Nat) : List PyData → VC := fun ds => if h : ∃ x, Knows φ k ds x then .ok h.choose else match φ ds with
  | .rz c _ => .rz c
  | _ => .st
theorem cal_lift {φ : List PyData → R SV} : CalV φ k (lift φ k) := by
  intro ds
  unfold lift
  by_cases h : ∃ x, Knows φ k ds x
  · rw [dif_pos h]
    exact h.choose_spec
  · rw [dif_neg h]
    cases e : φ ds with
    | ok a hn => trivial
    | rz c hn => exact ⟨hn, rfl⟩
    | st => trivial
theorem lift_ok {φ : List PyData → R SV} {ds : List PyData} {x : PyData} (h : Knows φ k ds x) : lift φ k ds = .ok x := by
  unfold lift
  have hx : ∃ x, Knows φ k ds x := ⟨x, h⟩
  rw [dif_pos hx]
  obtain ⟨s, hn, fp, e1, r1, _⟩ := h
  obtain ⟨s', hn', fp', e2, r2, _⟩ := hx.choose_spec
  rw [e1] at e2
  cases e2
  have := (r2.rb (Nat.le_refl _)).symm.trans (r1.rb (Nat.le_refl _))
  rw [Option.some.inj this]
theorem knows_d {φ : List PyData → R SV} {ds : List PyData} {x : PyData} {hn : AH} (e : φ ds = .ok (.d x) hn) : Knows φ 0 ds x := ⟨_, hn, [], e, RV.d, List.nodup_nil⟩
theorem lift_d {φ : List PyData → R SV} {ds : List PyData} {x : PyData} {hn : AH} (e : φ ds = .ok (.d x) hn) : lift φ 0 ds = .ok x := lift_ok (knows_d e)
end
end Zx.V
namespace Zx.V
open PySem PySem.Spec L2
inductive VO where
  | nx (vs : List VS) | rt (x : PyData) | bk (vs : List VS) | ct (vs : List VS) | rz (c : Str) (vs : List VS) | st
abbrev VF := List VS → VO
structure Good (D : List KD) (h0 : AH) (fs0 : List (List Nat)) (h : AH) (sl : List SV) (vs : List VS) (fs : List (List Nat)) : Prop where
  R : RSt h D sl vs fs
  nd : fs.flatten.Nodup
  old : ∀ n ∈ fs.flatten, n ∈ fs0.flatten ∨ h0.length ≤ n
  fr : ∀ n, n < h0.length → n ∉ fs0.flatten → h[n]? = h0[n]?
  le : h0.length ≤ h.length
abbrev Keep (A : List Nat) (sl sl' : List SV) : Prop := ∀ i, i ∉ A → sl'[i]? = sl[i]?
section
variable {D : List KD} {h0 h1 h2 h t : AH} {fs0 fs1 fs2 fs : List (List Nat)} {sl sl0 sl1 sl2 : List SV} {vs vs0 vs1 vs2 : List VS} {A A1 A2 : List Nat}
theorem Good.trans (a : Good D h0 fs0 h1 sl1 vs1 fs1) (b : Good D h1 fs1 h2 sl2 vs2 fs2) : Good D h0 fs0 h2 sl2 vs2 fs2 where
  R := b.R
  nd := b.nd
  old n m := (b.old n m).elim (fun z => a.old n z) fun z => .inr (Nat.le_trans a.le z)
  fr n hn hm := (b.fr n (Nat.lt_of_lt_of_le hn a.le) fun z => (a.old n z).elim hm fun z => absurd hn (by omega)).trans (a.fr n hn hm)
  le := Nat.le_trans a.le b.le
theorem Good.refl (R : RSt h D sl vs fs) (nd : fs.flatten.Nodup) : Good D h fs h sl vs fs := ⟨R, nd, fun _ m => .inl m, fun _ _ _ => rfl, Nat.le_refl _⟩
theorem Good.ext (R : RSt h D sl vs fs) (nd : fs.flatten.Nodup) : Good D h fs (h ++ t) sl vs fs := ⟨R.app, nd, fun _ m => .inl m, fun n hn _ => by rw [List.getElem?_append_left hn], by rw [List.length_append]; omega⟩
theorem Good.app (a : Good D h0 fs0 h sl vs fs) : Good D h0 fs0 (h ++ t) sl vs fs := a.trans (Good.ext a.R a.nd)
theorem Good.sub (a : Good D h0 fs0 h sl vs fs) (R : RSt h D sl1 vs1 fs1) (nd : fs1.flatten.Nodup) (m : ∀ n ∈ fs1.flatten, n ∈ fs.flatten) : Good D h0 fs0 h sl1 vs1 fs1 := ⟨R, nd, fun n z => a.old n (m n z), a.fr, a.le⟩
theorem Keep.same : Keep A sl sl := fun _ _ => Eq.refl _
theorem Keep.trans (a : Keep A sl sl1) (b : Keep A sl1 sl2) : Keep A sl sl2 := fun i hi => (b i hi).trans (a i hi)
theorem Keep.l (a : Keep A1 sl sl1) : Keep (A1 ++ A2) sl sl1 := fun i hi => a i fun z => hi (List.mem_append_left _ z)
theorem Keep.r (a : Keep A2 sl sl1) : Keep (A1 ++ A2) sl sl1 := fun i hi => a i fun z => hi (List.mem_append_right _ z)
theorem Keep.set {i : Nat} {s : SV} : Keep [i] sl (sl.set i s) := fun j hj => by rw [List.getElem?_set_ne fun e => hj (by rw [e]; exact List.mem_singleton.mpr rfl)]
end
/-- what an answer leaves: what it holds was handed in or is new; all else stands -/
structure RtG (h : AH) (fs : List (List Nat)) (h' : AH) (fp : List Nat) : Prop where
  old : ∀ n ∈ fp, n ∈ fs.flatten ∨ h.length ≤ n
  fr : ∀ n, n < h.length → n ∉ fs.flatten → h'[n]? = h[n]?
  le : h.length ≤ h'.length
theorem RtG.pre {D : List KD} {h h1 h' : AH} {sl1 : List SV} {vs1 : List VS} {fs fs1 : List (List Nat)} {fp : List Nat} (G : Good D h fs h1 sl1 vs1 fs1) (r : RtG h1 fs1 h' fp) : RtG h fs h' fp where
  old n m := (r.old n m).elim (fun z => G.old n z) fun z => .inr (Nat.le_trans G.le z)
  fr n hn hm := (r.fr n (Nat.lt_of_lt_of_le hn G.le) fun z => (G.old n z).elim hm fun z => absurd hn (by omega)).trans (G.fr n hn hm)
  le := Nat.le_trans G.le r.le
def OutS (D : List KD) (A : List Nat) (rb : Bool) (rk : Nat) (h : AH) (sl : List SV) (fs : List (List Nat)) (r : VO) (q : O) : Prop := match r with
  | .nx vs' => ∃ sl' h' fs', q = .nx sl' h' ∧ Good D h fs h' sl' vs' fs' ∧ Keep A sl sl'
  | .bk vs' => ∃ sl' h' fs', q = .bk sl' h' ∧ Good D h fs h' sl' vs' fs' ∧ Keep A sl sl'
  | .ct vs' => ∃ sl' h' fs', q = .ct sl' h' ∧ Good D h fs h' sl' vs' fs' ∧ Keep A sl sl'
  | .rz c vs' => ∃ sl' h' fs', q = .rz c sl' h' ∧ Good D h fs h' sl' vs' fs' ∧ Keep A sl sl'
  | .rt x => ∃ s h' fp, q = .rt s h' ∧ RV h' rb rk s x fp ∧ fp.Nodup ∧ RtG h fs h' fp
  | .st => True
def SVp (D : List KD) (A : List Nat) (rb : Bool) (rk : Nat) (f : FS) (g : VF) : Prop := ∀ (h : AH) (sl : List SV) (vs : List VS) (fs : List (List Nat)), RSt h D sl vs fs → fs.flatten.Nodup → OutS D A rb rk h sl fs (g vs) (f sl h)
def OutX (D : List KD) (b : Bool) (k : Nat) (h : AH) (sl : List SV) (fs : List (List Nat)) (r : VR PyData) (q : R SV) : Prop := match r with
  | .ok x vs' => ∃ s h' fs' fp, q = .ok s h' ∧ Good D h fs h' sl vs' fs' ∧ RV h' b k s x fp ∧ fp.Nodup ∧ (∀ n ∈ fp, n ∉ fs'.flatten) ∧ ∀ n ∈ fp, n ∈ fs.flatten ∨ h.length ≤ n
  | .rz c => ∃ t, q = .rz c (h ++ t)
  | .st => True
def XV (D : List KD) (b : Bool) (k : Nat) (f : FE) (g : VE) : Prop := ∀ (h : AH) (sl : List SV) (vs : List VS) (fs : List (List Nat)), RSt h D sl vs fs → fs.flatten.Nodup → OutX D b k h sl fs (g vs) (f sl h)
theorem OutS.pre {D : List KD} {A A' : List Nat} {rb : Bool} {rk : Nat} {h h1 : AH} {sl sl1 : List SV} {vs1 : List VS} {fs fs1 : List (List Nat)} {r : VO} {q : O} (G : Good D h fs h1 sl1 vs1 fs1) (K : Keep A sl sl1) (hA : ∀ i, i ∉ A → i ∉ A') (o : OutS D A' rb rk h1 sl1 fs1 r q) : OutS D A rb rk h sl fs r q := by
  have kt : ∀ {sl2}, Keep A' sl1 sl2 → Keep A sl sl2 := fun k => K.trans fun i hi => k i (hA i hi)
  cases r with
  | nx vs' => obtain ⟨a, b, c, e, g, k⟩ := o; exact ⟨a, b, c, e, G.trans g, kt k⟩
  | bk vs' => obtain ⟨a, b, c, e, g, k⟩ := o; exact ⟨a, b, c, e, G.trans g, kt k⟩
  | ct vs' => obtain ⟨a, b, c, e, g, k⟩ := o; exact ⟨a, b, c, e, G.trans g, kt k⟩
  | rz cc vs' => obtain ⟨a, b, c, e, g, k⟩ := o; exact ⟨a, b, c, e, G.trans g, kt k⟩
  | rt x =>
    obtain ⟨a, b, c, e, r, n, z⟩ := o
    exact ⟨a, b, c, e, r, n, RtG.pre G z⟩
  | st => trivial
def VR.thn {α : Type} (r : VR α) (vs : List VS) (k : α → List VS → VO) : VO := match r with
  | .ok a vs' => k a vs'
  | .rz c => .rz c vs
  | .st => .st
section
variable {D : List KD} {A A1 A2 : List Nat} {rb : Bool} {rk : Nat} {b b1 b2 fr fr1 : Bool} {k k1 k2 i j : Nat} {fa fb : FE} {ga gb : VE} {f f1 f2 : FS} {g g1 g2 : VF} {ft : FT} {gt : VT}
theorem xv_ev (ha : EV D b k true fa ga) : XV D b k fa ga := by
  intro h sl vs fs R nd
  have o := ha h sl vs fs R nd
  generalize ga vs = r at o ⊢
  generalize fa sl h = q at o ⊢
  cases r with
  | ok x vs' =>
    obtain ⟨rfl, s, t, fp, rfl, h2, h3, h4⟩ := o
    exact ⟨s, h ++ t, fs, fp, rfl, Good.ext R nd, h2, h3, fun n m z => absurd (R.lt n z) (by have := h4 rfl n m; omega), fun n m => .inr (h4 rfl n m)⟩
  | rz c => exact o
  | st => trivial
def fMv (i : Nat) : VE := fun vs => match vs[i]? with
  | some (.v x) => .ok x (vs.set i .un)
  | _ => .st
theorem xv_mv (e : D[i]? = some (b, k)) : XV D b k (Zx.fVar i) (fMv i) := by
  intro h sl vs fs R nd
  have o := ev_var e h sl vs fs R nd
  obtain ⟨s, v, f, e1, e2, e3, r⟩ := R.get e
  unfold fMv
  unfold fVar at o
  rw [e2] at o ⊢
  cases v with
  | un => trivial
  | sc x => trivial
  | ex x => trivial
  | v x =>
    have r : RV h b k s x f := r
    have hq : Zx.fVar i sl h = .ok s h := by
      obtain ⟨_, s', t, fp, h2, _⟩ := o
      unfold Zx.fVar at h2 ⊢
      rw [e1] at h2 ⊢
      revert h2
      split <;> intro h2
      · cases h2
      · cases h2
      · rename_i s1 hs hu
        cases hu; rfl
    obtain ⟨n1, n2⟩ := nd_at nd e3
    exact ⟨s, h, fs.set i [], f, hq, (Good.refl R nd).sub (R.drop i) (nd_rest nd) (fun n m => mem_rest m), r, n1, n2, fun n m => .inl (mem_at e3 m)⟩
theorem XV.bm (hx : XV D b1 k fa ga) (hb : (!b1 || b) = true := by decide) : XV D b k fa ga := by
  intro h sl vs fs R nd
  have o := hx h sl vs fs R nd
  generalize ga vs = r at o ⊢
  cases r with
  | ok x vs' =>
    obtain ⟨s, h', fs', fp, h1, h2, h3, h4, h5, h6⟩ := o
    exact ⟨s, h', fs', fp, h1, h2, h3.bm hb, h4, h5, h6⟩
  | rz c => exact o
  | st => trivial
theorem OutX.thn {h : AH} {sl : List SV} {vs : List VS} {fs : List (List Nat)} {r : VR PyData} {q : R SV} {K : PyData → List VS → VO} {K' : SV → AH → O} (R : RSt h D sl vs fs) (nd : fs.flatten.Nodup) (o : OutX D b k h sl fs r q)
    (c : ∀ x vs' s h' fs' fp, Good D h fs h' sl vs' fs' → RV h' b k s x fp → fp.Nodup → (∀ n ∈ fp, n ∉ fs'.flatten) → (∀ n ∈ fp, n ∈ fs.flatten ∨ h.length ≤ n) → OutS D A rb rk h sl fs (K x vs') (K' s h')) : OutS D A rb rk h sl fs (r.thn vs K) (q.thn sl K') := by
  cases r with
  | ok x vs' =>
    obtain ⟨s, h', fs', fp, rfl, h2, h3, h4, h5, h6⟩ := o
    exact c x vs' s h' fs' fp h2 h3 h4 h5 h6
  | rz cc =>
    obtain ⟨t, rfl⟩ := o
    exact ⟨sl, h ++ t, fs, rfl, Good.ext R nd, Keep.same⟩
  | st => trivial
theorem OutE.thn {L : Nat} {h : AH} {sl : List SV} {vs : List VS} {fs : List (List Nat)} {r : VR PyData} {q : R SV} {K : PyData → List VS → VO} {K' : SV → AH → O} (R : RSt h D sl vs fs) (nd : fs.flatten.Nodup) (o : OutE b k fr L h vs r q)
    (c : ∀ x s t fp, RV (h ++ t) b k s x fp → fp.Nodup → OutS D A rb rk h sl fs (K x vs) (K' s (h ++ t))) : OutS D A rb rk h sl fs (r.thn vs K) (q.thn sl K') := by
  cases r with
  | ok x vs' =>
    obtain ⟨rfl, s, t, fp, rfl, h2, h3, h4⟩ := o
    exact c x s t fp h2 h3
  | rz cc =>
    obtain ⟨t, rfl⟩ := o
    exact ⟨sl, h ++ t, fs, rfl, Good.ext R nd, Keep.same⟩
  | st => trivial
theorem OutP.thn {α β : Type} {rep : AH → β → α → Prop} {h : AH} {sl : List SV} {vs : List VS} {fs : List (List Nat)} {r : VR β} {q : R α} {K : β → List VS → VO} {K' : α → AH → O} (R : RSt h D sl vs fs) (nd : fs.flatten.Nodup) (o : OutP rep h vs r q)
    (c : ∀ x a t, rep (h ++ t) x a → OutS D A rb rk h sl fs (K x vs) (K' a (h ++ t))) : OutS D A rb rk h sl fs (r.thn vs K) (q.thn sl K') := by
  cases r with
  | ok x vs' =>
    obtain ⟨rfl, a, t, rfl, h2⟩ := o
    exact c x a t h2
  | rz cc =>
    obtain ⟨t, rfl⟩ := o
    exact ⟨sl, h ++ t, fs, rfl, Good.ext R nd, Keep.same⟩
  | st => trivial
def sNext : VF := fun vs => .nx vs
def sSeq (a b : VF) : VF := fun vs => match a vs with
  | .nx vs' => b vs'
  | o => o
def sExpr (ga : VE) : VF := fun vs => (ga vs).thn vs fun _ vs => .nx vs
def sRet (ga : VE) : VF := fun vs => (ga vs).thn vs fun x _ => .rt x
def sRetN : VF := fun _ => .rt .none
def sSet (i : Nat) (ga : VE) : VF := fun vs => (ga vs).thn vs fun x vs => .nx (vs.set i (.v x))
def sIf (gt : VT) (a b : VF) : VF := fun vs => (gt vs).thn vs fun k vs => if k = true then a vs else b vs
def sBreak : VF := fun vs => .bk vs
def sCont : VF := fun vs => .ct vs
def sRaise (c : Str) : VF := fun vs => .rz c vs
theorem sv_next : SVp D [] rb rk Zx.sNext sNext := fun h sl vs fs R nd => ⟨sl, h, fs, rfl, Good.refl R nd, Keep.same⟩
theorem sv_seq (h1 : SVp D A1 rb rk f1 g1) (h2 : SVp D A2 rb rk f2 g2) : SVp D (A1 ++ A2) rb rk (Zx.sSeq f1 f2) (sSeq g1 g2) := by
  intro h sl vs fs R nd
  have o := h1 h sl vs fs R nd
  unfold Zx.sSeq sSeq
  generalize g1 vs = r at o ⊢
  generalize f1 sl h = q at o ⊢
  cases r with
  | nx vs' =>
    obtain ⟨sl', h', fs', rfl, G, K⟩ := o
    exact OutS.pre G K.l (fun i hi z => hi (List.mem_append_right _ z)) (h2 h' sl' vs' fs' G.R G.nd)
  | bk vs' => obtain ⟨a, b, c, rfl, g, k⟩ := o; exact ⟨a, b, c, rfl, g, k.l⟩
  | ct vs' => obtain ⟨a, b, c, rfl, g, k⟩ := o; exact ⟨a, b, c, rfl, g, k.l⟩
  | rz cc vs' => obtain ⟨a, b, c, rfl, g, k⟩ := o; exact ⟨a, b, c, rfl, g, k.l⟩
  | rt x => obtain ⟨a, b, c, rfl, g, k⟩ := o; exact ⟨a, b, c, rfl, g, k⟩
  | st => trivial
theorem sv_if (ht : TV D ft gt) (h1 : SVp D A1 rb rk f1 g1) (h2 : SVp D A2 rb rk f2 g2) : SVp D (A1 ++ A2) rb rk (Zx.sIf ft f1 f2) (sIf gt g1 g2) := by
  intro h sl vs fs R nd
  refine (ht h sl vs fs R nd).thn R nd fun x a t e => ?_
  subst e
  cases a with
  | true => exact OutS.pre (Good.ext R nd) Keep.same (fun i hi z => hi (List.mem_append_left _ z)) (h1 (h ++ t) sl vs fs R.app nd)
  | false => exact OutS.pre (Good.ext R nd) Keep.same (fun i hi z => hi (List.mem_append_right _ z)) (h2 (h ++ t) sl vs fs R.app nd)
theorem sv_expr (ha : XV D b k fa ga) : SVp D [] rb rk (Zx.sExpr fa) (sExpr ga) := by
  intro h sl vs fs R nd
  exact (ha h sl vs fs R nd).thn R nd fun x vs' s h' fs' fp G _ _ _ _ => ⟨sl, h', fs', rfl, G, Keep.same⟩
theorem sv_retX (ha : XV D b rk fa ga) (hb : (!b || rb) = true := by decide) : SVp D [] rb rk (Zx.sRet fa) (sRet ga) := by
  intro h sl vs fs R nd
  exact (ha h sl vs fs R nd).thn R nd fun x vs' s h' fs' fp G r n _ o => ⟨s, h', fp, rfl, r.bm hb, n, ⟨o, G.fr, G.le⟩⟩
theorem sv_ret (ha : EV D b rk true fa ga) (hb : (!b || rb) = true := by decide) : SVp D [] rb rk (Zx.sRet fa) (sRet ga) := sv_retX (xv_ev ha) hb
theorem Good.put {h0 h : AH} {fs0 fs : List (List Nat)} {sl : List SV} {vs : List VS} (G : Good D h0 fs0 h sl vs fs) (e : D[i]? = some (b, k)) {s : SV} {x : PyData} {fp : List Nat} (r : RV h b k s x fp) (n : fp.Nodup) (d : ∀ n ∈ fp, n ∉ fs.flatten) (o : ∀ n ∈ fp, n ∈ fs0.flatten ∨ h0.length ≤ n) : Good D h0 fs0 h (sl.set i s) (vs.set i (.v x)) (fs.set i fp) := by
  refine ⟨G.R.set e r, nd_set G.nd n fun a m z => d a m (mem_rest z), fun a m => ?_, G.fr, G.le⟩
  rcases mem_set m with z | z
  · exact o a z
  · exact G.old a (mem_rest z)
theorem sv_set (ha : XV D b1 k fa ga) (e : D[i]? = some (b, k) := by rfl) (hb : (!b1 || b) = true := by decide) : SVp D [i] rb rk (Zx.sSet i fa) (sSet i ga) := by
  intro h sl vs fs R nd
  exact (ha h sl vs fs R nd).thn R nd fun x vs' s h' fs' fp G r n d o => ⟨_, h', _, rfl, G.put e (r.bm hb) n d o, Keep.set⟩
theorem keep_all : ∀ {is : List Nat} {xs : List SV} {sl sl' : List SV}, setAll is xs sl = some sl' → Keep is sl sl'
  | [], [], sl, sl', e => by cases e; exact Keep.same
  | [], x :: xs, sl, sl', e => by cases e
  | i :: is, [], sl, sl', e => by cases e
  | i :: is, x :: xs, sl, sl', e => by
    have := keep_all (is := is) (xs := xs) (sl := sl.set i x) e
    intro j hj
    rw [List.mem_cons, not_or] at hj
    rw [this j hj.2, List.getElem?_set_ne (Ne.symm hj.1)]
theorem keep_go {bd : Bd} {it : It1} {sl sl' : List SV} (e : bd.go it sl = some sl') : Keep bd.is sl sl' := by
  cases bd with
  | nm i =>
    cases it with
    | one s => cases e; exact Keep.set
    | two s t => cases e
  | tp is =>
    cases it with
    | one s =>
      unfold Bd.go at e
      dsimp only at e
      split at e
      · exact keep_all e
      · cases e
    | two s t =>
      unfold Bd.go at e
      exact keep_all e
def sSetT (is : List Nat) (ga : VE) : VF := fun vs => (ga vs).thn vs fun x vs => match goV (.tp is) (.one x) vs with
  | some vs' => .nx vs'
  | none => .st
def sPar (i j : Nat) (qa : VA) : VF := fun vs => (qa vs).thn vs fun xs vs => match xs with
  | [x, y] => .nx ((vs.set i (.v x)).set j (.v y))
  | _ => .st
def sAug (j : Nat) (gv : PyData → PyData → List VS → VR PyData) (ga : VE) : VF := fun vs => match vs[j]? with
  | some (.v x) => (ga vs).thn vs fun y vs => match gv x y vs with
    | .ok z vs => .nx (vs.set j (.v z))
    | _ => .st
  | _ => .st
theorem sv_aug {gs : SV → SV → AH → R SV} {gv : PyData → PyData → List VS → VR PyData} (ho : OpV b 0 b2 k2 b 0 true gs gv) (ha : EV D b2 k2 fr fa ga) (e : D[j]? = some (b, 0) := by rfl) : SVp D [j] rb rk (Zx.sAug j gs fa) (sAug j gv ga) := by
  intro h sl vs fs R nd
  have o := xv_mv e h sl vs fs R nd
  obtain ⟨s, v, f, e1, e2, e3, r⟩ := R.get e
  unfold sAug
  unfold fMv at o
  rw [e2] at o ⊢
  cases v with
  | un => trivial
  | sc x => trivial
  | ex x => trivial
  | v x =>
    have r : RV h b 0 s x f := r
    obtain ⟨s', h', fs', fp, hq, G', r', _⟩ := o
    have hq2 : Zx.fVar j sl h = .ok s h := by
      unfold Zx.fVar at hq ⊢
      rw [e1] at hq ⊢
      revert hq
      split <;> intro hq
      · cases hq
      · cases hq
      · rename_i s1 hs hu
        cases hu; rfl
    unfold Zx.sAug
    rw [hq2]
    show OutS _ _ _ _ _ _ _ _ ((fa sl h).thn sl fun t h2 => (gs s t h2).thn sl fun v h3 => .nx (sl.set j v) h3)
    refine (ha h sl vs fs R nd).thn R nd fun y s2 t fp2 r2 n2 => ?_
    have o2 := ho (h ++ t) vs s s2 x y f fp2 r.app (by rw [r.1]; exact List.nodup_nil) r2
    generalize gv x y vs = rr at o2 ⊢
    generalize gs s s2 (h ++ t) = qq at o2 ⊢
    cases rr with
    | ok z vs' =>
      obtain ⟨rfl, s3, t3, fp3, rfl, r3, n3, d3⟩ := o2
      refine ⟨_, _, _, rfl, ((Good.ext (t := t) R nd).app (t := t3)).put e r3 n3 (fun n m => ?_) (fun n m => ?_), Keep.set⟩
      · rw [r3.1] at m; cases m
      · rw [r3.1] at m; cases m
    | rz c => trivial
    | st => trivial
end
def argV : Md → PyData → VS
  | .sc, .list ds => match intsD ds with
    | some ns => .sc ns
    | none => .un
  | .sc, _ => .un
  | _, d => .v d
def startV : List Md → List PyData → Nat → List VS
  | m :: ms, d :: ds, n + 1 => argV m d :: startV ms ds n
  | _, _, n => List.replicate n .un
def phiV (ms : List Md) (n : Nat) (g : VF) : List PyData → VC := fun ds => match g (startV ms ds n) with
  | .rt x => .ok x
  | .nx _ => .ok .none
  | .rz c _ => .rz c
  | _ => .st
def stOk : List Md → List KD → Bool
  | [], _ => true
  | .sc :: ms, _ :: D => stOk ms D
  | .fz :: ms, k :: D => k.2 == 0 && stOk ms D
  | .vw :: ms, k :: D => k.1 && k.2 == 0 && stOk ms D
  | _, [] => false
theorem rst_un : ∀ {D : List KD}, RSt [] D (List.replicate D.length .un) (List.replicate D.length .un) (List.replicate D.length [])
  | [] => ⟨rfl, rfl, rfl⟩
  | k :: D => ⟨_, _, _, _, _, _, rfl, rfl, rfl, rfl, rst_un⟩
theorem rst_start : ∀ {ms : List Md} {ds : List PyData} {D : List KD}, stOk ms D = true → RSt [] D (startS ms ds D.length) (startV ms ds D.length) (List.replicate D.length [])
  | [], ds, D, _ => by unfold startS startV; exact rst_un
  | m :: ms, [], D, _ => by unfold startS startV; exact rst_un
  | m :: ms, d :: ds, [], c => by cases m <;> cases c
  | m :: ms, d :: ds, k :: D, c => by
    show RSt [] (k :: D) (argS m d :: startS ms ds D.length) (argV m d :: startV ms ds D.length) ([] :: List.replicate D.length [])
    cases m with
    | sc =>
      refine ⟨_, _, _, _, _, _, rfl, rfl, rfl, ?_, rst_start (ms := ms) c⟩
      unfold argS argV
      cases d <;> try exact rfl
      rename_i xs
      show RS1 [] k (match intsD xs with | some ns => SV.sc ns | none => .un) (match intsD xs with | some ns => VS.sc ns | none => .un) []
      cases e : intsD xs with
      | none => exact (show ([] : List Nat) = [] from rfl)
      | some ns => exact ⟨rfl, rfl⟩
    | fz =>
      unfold stOk at c
      rw [Bool.and_eq_true] at c
      refine ⟨_, _, _, _, _, _, rfl, rfl, rfl, ?_, rst_start (ms := ms) c.2⟩
      show RV [] k.1 k.2 (.d d) d []
      rw [eq_of_beq c.1]
      exact RV.d
    | vw =>
      unfold stOk at c
      rw [Bool.and_eq_true, Bool.and_eq_true] at c
      refine ⟨_, _, _, _, _, _, rfl, rfl, rfl, ?_, rst_start (ms := ms) c.2⟩
      show RV [] k.1 k.2 (mkv d) d []
      rw [eq_of_beq c.1.2]
      exact ⟨rfl, .inr ⟨c.1.1, rfl⟩⟩
theorem fl_rep : ∀ n : Nat, (List.replicate n ([] : List Nat)).flatten = []
  | 0 => rfl
  | n + 1 => by rw [List.replicate_succ, List.flatten_cons, fl_rep n]; rfl
theorem cal_phi {ms : List Md} {D : List KD} {A : List Nat} {n k : Nat} {f : FS} {g : VF} (hs : SVp D A false k f g) (hn : n = D.length := by rfl) (hm : stOk ms D = true := by decide) : CalV (phi ms n f) k (phiV ms n g) := by
  subst hn
  intro ds
  have o := hs [] _ _ _ (rst_start (ms := ms) (ds := ds) hm) (by rw [fl_rep]; exact List.nodup_nil)
  unfold phiV phi
  generalize g (startV ms ds D.length) = r at o ⊢
  generalize f (startS ms ds D.length) [] = q at o ⊢
  cases r with
  | nx vs' =>
    obtain ⟨sl', h', fs', rfl, G, K⟩ := o
    exact ⟨.d .none, [], [], rfl, RV.dk rfl, List.nodup_nil⟩
  | bk vs' => trivial
  | ct vs' => trivial
  | rz cc vs' =>
    obtain ⟨sl', h', fs', rfl, G, K⟩ := o
    exact ⟨h', rfl⟩
  | rt x =>
    obtain ⟨s, h', fp, rfl, r, n⟩ := o
    refine ⟨s, _, fp, rfl, ?_, n.1⟩
    unfold cl
    split
    · rename_i c
      refine r.frame fun m hm => ?_
      have := RV.below (L := 0) (h := h') (by simp) r c m hm
      omega
    · exact r
  | st => trivial
end Zx.V
namespace Zx.V
open PySem PySem.Spec L2
def getAt : List Int → PyData → Option PyData
  | [], x => some x
  | j :: js, x => match x with
    | .list ds => match atI ds j with
      | some d => getAt js d
      | none => none
    | .tuple ds => if immL ds = false then match atI ds j with
        | some d => getAt js d
        | none => none
      else none
    | _ => none
def putAt : List Int → PyData → PyData → PyData
  | [], y, _ => y
  | j :: js, y, x => match x with
    | .list ds => match ixN ds.length j with
      | some p => match ds[p]? with
        | some d => .list (ds.set p (putAt js y d))
        | none => x
      | none => x
    | .tuple ds => match ixN ds.length j with
      | some p => match ds[p]? with
        | some d => .tuple (ds.set p (putAt js y d))
        | none => x
      | none => x
    | _ => x
def walkR (h : AH) : List Int → SV → Option SV
  | [], s => some s
  | j :: js, .r n => match h[n]? with
    | some (some (.lst xs)) => match atI xs j with
      | some s => walkR h js s
      | none => none
    | some (some (.tup xs)) => match atI xs j with
      | some s => walkR h js s
      | none => none
    | _ => none
  | _ :: _, _ => none
theorem putAt_t {j : Int} {js : List Int} {y d : PyData} {ds : List PyData} {p : Nat} (e1 : ixN ds.length j = some p) (e2 : ds[p]? = some d) : putAt (j :: js) y (.tuple ds) = .tuple (ds.set p (putAt js y d)) := by
  have : putAt (j :: js) y (.tuple ds) = (match ixN ds.length j with
      | some p => match ds[p]? with
        | some d => .tuple (ds.set p (putAt js y d))
        | none => .tuple ds
      | none => .tuple ds) := rfl
  rw [this, e1]
  dsimp only
  rw [e2]
theorem immL_set {z : PyData} (hz : imm z = false) : ∀ {ds : List PyData} {p : Nat} {d : PyData}, ds[p]? = some d → immL (ds.set p z) = false
  | a :: ds, 0, d, _ => by
    show immL (z :: ds) = false
    unfold immL
    rw [hz]; rfl
  | a :: ds, p + 1, d, e => by
    show immL (a :: ds.set p z) = false
    unfold immL
    rw [immL_set hz (d := d) (by simpa using e), Bool.and_false]
  | [], p, d, e => by simp at e
theorem putAt_imm {y : PyData} (hy : imm y = false) : ∀ {js : List Int} {x x' : PyData}, getAt js x = some x' → imm (putAt js y x) = false
  | [], x, x', _ => hy
  | j :: js, x, x', e => by
    unfold getAt at e
    split at e
    · rename_i ds
      unfold putAt
      dsimp only
      split
      · split
        · unfold imm; rfl
        · unfold imm; rfl
      · unfold imm; rfl
    · rename_i ds
      split at e
      · rename_i hi
        split at e
        · rename_i d hd
          unfold atI at hd
          cases q : ixN ds.length j with
          | none => rw [q] at hd; cases hd
          | some p =>
            rw [q] at hd
            have hd : ds[p]? = some d := hd
            rw [putAt_t q hd]
            unfold imm
            exact immL_set (putAt_imm hy e) hd
        · cases e
      · cases e
    · cases e
theorem putAt_c {j : Int} {js : List Int} {y d : PyData} {ds : List PyData} {p : Nat} (e1 : ixN ds.length j = some p) (e2 : ds[p]? = some d) : putAt (j :: js) y (.list ds) = .list (ds.set p (putAt js y d)) := by
  have : putAt (j :: js) y (.list ds) = (match ixN ds.length j with
      | some p => match ds[p]? with
        | some d => .list (ds.set p (putAt js y d))
        | none => .list ds
      | none => .list ds) := rfl
  rw [this, e1]
  dsimp only
  rw [e2]
def okP : List Int → PyData → PyData → Prop
  | [], _, _ => True
  | j :: js, y, x => match x with
    | .list ds => ∀ d, atI ds j = some d → okP js y d
    | .tuple _ => imm y = false
    | _ => True
theorem okP_imm {y : PyData} (h : imm y = false) : ∀ {js : List Int} {x : PyData}, okP js y x
  | [], _ => trivial
  | j :: js, x => by
    unfold okP
    split
    · exact fun d _ => okP_imm h
    · exact h
    · trivial
theorem walkR_app {h t : AH} : ∀ {js : List Int} {s s' : SV}, walkR h js s = some s' → walkR (h ++ t) js s = some s'
  | [], s, s', e => e
  | j :: js, s, s', e => by
    cases s with
    | r n =>
      unfold walkR at e ⊢
      split at e
      · rename_i xs hx
        rw [List.getElem?_append_left (List.getElem?_eq_some_iff.mp hx).1, hx]
        dsimp only
        split at e
        · rename_i s1 h1
          exact walkR_app e
        · cases e
      · rename_i xs hx
        rw [List.getElem?_append_left (List.getElem?_eq_some_iff.mp hx).1, hx]
        dsimp only
        split at e
        · rename_i s1 h1
          exact walkR_app e
        · cases e
      · cases e
    | un => cases e
    | d x => cases e
    | vw x => cases e
    | sc x => cases e
    | ex x => cases e
theorem fa_ix {α β γ : Type} {P : α → β → γ → Prop} {as : List α} {bs : List β} {cs : List γ} {i : Int} {u : β} (r : Fa3 P as bs cs) (e : atI bs i = some u) : ∃ (p : Nat) (a : α) (c : γ), ixN bs.length i = some p ∧ bs[p]? = some u ∧ as[p]? = some a ∧ cs[p]? = some c ∧ atI as i = some a ∧ P a u c := by
  unfold atI at e ⊢
  rw [r.len.1]
  cases q : ixN bs.length i with
  | none => rw [q] at e; cases e
  | some p =>
    rw [q] at e
    have e : bs[p]? = some u := e
    obtain ⟨a, c, h1, h2, h3⟩ := r.get e
    exact ⟨p, a, c, rfl, e, h1, h2, h1, h3⟩
theorem fa_put {α β : Type} {P Q : α → β → List Nat → Prop} {f1 f2 F : List Nat} {a1 : α} {b2 : β} (k : ∀ a b c, P a b c → (∀ n ∈ c, n ∉ f1 ∧ n ∈ F) → Q a b c) (q : Q a1 b2 f2) :
    ∀ {as : List α} {bs : List β} {cs : List (List Nat)} {p : Nat}, Fa3 P as bs cs → cs.flatten.Nodup → (∀ n ∈ cs.flatten, n ∈ F) → cs[p]? = some f1 → as[p]? = some a1 → Fa3 Q as (bs.set p b2) (cs.set p f2)
  | a :: as, b :: bs, c :: cs, 0, ⟨r1, r2⟩, nd, hF, e, ea => by
    cases e
    cases ea
    rw [List.flatten_cons, List.nodup_append] at nd
    exact ⟨q, Fa3.imp (cs0 := cs) (fun a b c' hc z => k a b c' z fun n m => ⟨fun w => nd.2.2 n w n (List.mem_flatten.mpr ⟨c', hc, m⟩) rfl, hF n (by rw [List.flatten_cons, List.mem_append]; exact .inr (List.mem_flatten.mpr ⟨c', hc, m⟩))⟩) (fun _ m => m) r2⟩
  | a :: as, b :: bs, c :: cs, p + 1, ⟨r1, r2⟩, nd, hF, e, ea => by
    rw [List.flatten_cons, List.nodup_append] at nd
    have e : cs[p]? = some f1 := e
    have ea : as[p]? = some a1 := ea
    exact ⟨k a b c r1 fun n m => ⟨fun w => nd.2.2 n m n (mem_at e w) rfl, hF n (by rw [List.flatten_cons, List.mem_append]; exact .inl m)⟩, fa_put k q r2 nd.2.1 (fun n m => hF n (by rw [List.flatten_cons, List.mem_append]; exact .inr m)) e ea⟩
  | [], [], [], p, _, _, _, e, _ => by simp at e
  | [], [], c :: cs, _, h, _, _, _, _ => h.elim
  | [], b :: bs, [], _, h, _, _, _, _ => h.elim
  | [], b :: bs, c :: cs, _, h, _, _, _, _ => h.elim
  | a :: as, [], [], _, h, _, _, _, _ => h.elim
  | a :: as, [], c :: cs, _, h, _, _, _, _ => h.elim
  | a :: as, b :: bs, [], _, h, _, _, _, _ => h.elim
theorem RV.isL {h : AH} {b : Bool} {k : Nat} {s : SV} {ds : List PyData} {f : List Nat} (r : RV h b (k + 1) s (.list ds) f) : ∃ n xs fl, s = .r n ∧ h[n]? = some (some (.lst xs)) ∧ f = n :: fl.flatten ∧ Fa3 (RV h b k) xs ds fl := by
  unfold RV at r
  rcases r with r | ⟨n', xs, ds', fs, rfl, hn, e, rfl, r⟩ | ⟨n', xs, ds', fs, rfl, hn, e, rfl, r⟩ | ⟨n', xs, ds', fs, rfl, hn, e, rfl, r⟩ | ⟨n', xs, ds', fs, rfl, hn, e, rfl, r⟩
  · cases r.2.2
  · cases e
    exact ⟨n', xs, fs, rfl, hn, rfl, r⟩
  · cases e
  · cases e
  · cases e
theorem RV.isT {h : AH} {b : Bool} {k : Nat} {s : SV} {ds : List PyData} {f : List Nat} (r : RV h b (k + 1) s (.tuple ds) f) (c : immL ds = false) : ∃ n xs fl, s = .r n ∧ h[n]? = some (some (.tup xs)) ∧ f = n :: fl.flatten ∧ Fa3 (RV h b k) xs ds fl := by
  unfold RV at r
  rcases r with r | ⟨n', xs, ds', fs, rfl, hn, e, rfl, r⟩ | ⟨n', xs, ds', fs, rfl, hn, e, rfl, r⟩ | ⟨n', xs, ds', fs, rfl, hn, e, rfl, r⟩ | ⟨n', xs, ds', fs, rfl, hn, e, rfl, r⟩
  · have := r.2.2
    have : (!immL ds) = false := this
    rw [c] at this; cases this
  · cases e
  · cases e
  · cases e
    exact ⟨n', xs, fs, rfl, hn.1, rfl, r⟩
  · cases e
theorem RV.ofT {h : AH} {b : Bool} {k : Nat} {n : Nat} {xs : List SV} {ds : List PyData} {fl : List (List Nat)} (hn : h[n]? = some (some (.tup xs))) (c : immL ds = false) (r : Fa3 (RV h b k) xs ds fl) : RV h b (k + 1) (.r n) (.tuple ds) (n :: fl.flatten) := by
  unfold RV
  exact .inr (.inr (.inr (.inl ⟨n, xs, ds, fl, rfl, ⟨hn, c⟩, rfl, rfl, r⟩)))
theorem RV.ofL {h : AH} {b : Bool} {k : Nat} {n : Nat} {xs : List SV} {ds : List PyData} {fl : List (List Nat)} (hn : h[n]? = some (some (.lst xs))) (r : Fa3 (RV h b k) xs ds fl) : RV h b (k + 1) (.r n) (.list ds) (n :: fl.flatten) := by
  unfold RV
  exact .inr (.inl ⟨n, xs, ds, fl, rfl, hn, rfl, rfl, r⟩)
theorem foc {h : AH} {b : Bool} {k : Nat} : ∀ {js : List Int} {K : Nat} {s : SV} {x x' : PyData} {f : List Nat}, RV h b K s x f → K = js.length + k → f.Nodup → getAt js x = some x' →
    ∃ s' f', walkR h js s = some s' ∧ RV h b k s' x' f' ∧ f'.Nodup ∧ (∀ n ∈ f', n ∈ f) ∧
      ∀ (h2 : AH) (x2 : PyData) (f2 : List Nat), (∀ n ∈ f, n ∉ f' → h2[n]? = h[n]?) → okP js x2 x → RV h2 b k s' x2 f2 → f2.Nodup → (∀ n ∈ f2, n ∈ f' ∨ n ∉ f) →
        ∃ f3, RV h2 b K s (putAt js x2 x) f3 ∧ f3.Nodup ∧ ∀ n ∈ f3, n ∈ f2 ∨ (n ∈ f ∧ n ∉ f')
  | [], K, s, x, x', f, r, hK, nd, e => by
    cases e
    have hK : K = k := by rw [hK]; exact Nat.zero_add k
    subst hK
    exact ⟨s, f, rfl, r, nd, fun _ m => m, fun h2 x2 f2 _ _ r2 n2 _ => ⟨f2, r2, n2, fun n m => .inl m⟩⟩
  | j :: js, K, s, x, x', f, r, hK, nd, e => by
    obtain ⟨K', rfl⟩ : ∃ K', K = K' + 1 := ⟨js.length + k, by rw [hK, List.length_cons]; omega⟩
    have hK' : K' = js.length + k := by rw [List.length_cons] at hK; omega
    unfold getAt at e
    split at e
    · rename_i ds
      split at e
      · rename_i d hd
        obtain ⟨n, xs, fl, rfl, hn, rfl, q⟩ := r.isL
        obtain ⟨p, s1, f1, e1, e2, e3, e4, e5, r1⟩ := fa_ix q hd
        rw [List.nodup_cons] at nd
        obtain ⟨nf, dj⟩ := nd_at nd.2 e4
        obtain ⟨s', f', w, r', n', m', put⟩ := foc r1 hK' nf e
        have inf : ∀ a ∈ f', a ∈ fl.flatten := fun a m => mem_at e4 (m' a m)
        refine ⟨s', f', ?_, r', n', fun a m => List.mem_cons_of_mem _ (inf a m), fun h2 x2 f2 ag i2 r2 n2 m2 => ?_⟩
        · unfold walkR
          rw [hn]
          dsimp only
          rw [e5]
          exact w
        · obtain ⟨f3, r3, n3, m3⟩ := put h2 x2 f2 (fun a m z => ag a (List.mem_cons_of_mem _ (mem_at e4 m)) z) (i2 d hd) r2 n2 fun a m => (m2 a m).imp_right fun z w => z (List.mem_cons_of_mem _ (mem_at e4 w))
          refine ⟨n :: (fl.set p f3).flatten, ?_, ?_, fun a m => ?_⟩
          · rw [putAt_c e1 e2]
            refine RV.ofL ((ag n List.mem_cons_self fun z => nd.1 (inf n z)).trans hn) ?_
            exact fa_put (P := RV h b K') (f1 := f1) (F := fl.flatten) (fun a' b' c' z dz => z.frame fun m hm => ag m (List.mem_cons_of_mem _ (dz m hm).2) fun w => (dz m hm).1 (m' m w)) r3 q nd.2 (fun _ m => m) e4 e3
          · rw [List.nodup_cons]
            refine ⟨fun m => ?_, nd_set nd.2 n3 fun a m z => ?_⟩
            · rcases mem_set m with z | z
              · rcases m3 n z with z | z
                · rcases m2 n z with z | z
                  · exact nd.1 (inf n z)
                  · exact z List.mem_cons_self
                · exact nd.1 (mem_at e4 z.1)
              · exact nd.1 (mem_rest z)
            · rcases m3 a m with w | w
              · rcases m2 a w with w | w
                · exact dj a (m' a w) z
                · exact w (List.mem_cons_of_mem _ (mem_rest z))
              · exact dj a w.1 z
          · rcases List.mem_cons.mp m with rfl | m
            · exact .inr ⟨List.mem_cons_self, fun z => nd.1 (inf _ z)⟩
            · rcases mem_set m with z | z
              · exact (m3 a z).imp_right fun w => ⟨List.mem_cons_of_mem _ (mem_at e4 w.1), w.2⟩
              · exact .inr ⟨List.mem_cons_of_mem _ (mem_rest z), fun w => dj a (m' a w) z⟩
      · cases e
    · rename_i ds
      split at e
      rotate_left
      · cases e
      rename_i cimm
      split at e
      · rename_i d hd
        obtain ⟨n, xs, fl, rfl, hn, rfl, q⟩ := r.isT cimm
        obtain ⟨p, s1, f1, e1, e2, e3, e4, e5, r1⟩ := fa_ix q hd
        rw [List.nodup_cons] at nd
        obtain ⟨nf, dj⟩ := nd_at nd.2 e4
        obtain ⟨s', f', w, r', n', m', put⟩ := foc r1 hK' nf e
        have inf : ∀ a ∈ f', a ∈ fl.flatten := fun a m => mem_at e4 (m' a m)
        refine ⟨s', f', ?_, r', n', fun a m => List.mem_cons_of_mem _ (inf a m), fun h2 x2 f2 ag i2 r2 n2 m2 => ?_⟩
        · unfold walkR
          rw [hn]
          dsimp only
          rw [e5]
          exact w
        · obtain ⟨f3, r3, n3, m3⟩ := put h2 x2 f2 (fun a m z => ag a (List.mem_cons_of_mem _ (mem_at e4 m)) z) (okP_imm i2) r2 n2 fun a m => (m2 a m).imp_right fun z w => z (List.mem_cons_of_mem _ (mem_at e4 w))
          refine ⟨n :: (fl.set p f3).flatten, ?_, ?_, fun a m => ?_⟩
          · rw [putAt_t e1 e2]
            refine RV.ofT ((ag n List.mem_cons_self fun z => nd.1 (inf n z)).trans hn) (immL_set (putAt_imm i2 e) e2) ?_
            exact fa_put (P := RV h b K') (f1 := f1) (F := fl.flatten) (fun a' b' c' z dz => z.frame fun m hm => ag m (List.mem_cons_of_mem _ (dz m hm).2) fun w => (dz m hm).1 (m' m w)) r3 q nd.2 (fun _ m => m) e4 e3
          · rw [List.nodup_cons]
            refine ⟨fun m => ?_, nd_set nd.2 n3 fun a m z => ?_⟩
            · rcases mem_set m with z | z
              · rcases m3 n z with z | z
                · rcases m2 n z with z | z
                  · exact nd.1 (inf n z)
                  · exact z List.mem_cons_self
                · exact nd.1 (mem_at e4 z.1)
              · exact nd.1 (mem_rest z)
            · rcases m3 a m with w | w
              · rcases m2 a w with w | w
                · exact dj a (m' a w) z
                · exact w (List.mem_cons_of_mem _ (mem_rest z))
              · exact dj a w.1 z
          · rcases List.mem_cons.mp m with rfl | m
            · exact .inr ⟨List.mem_cons_self, fun z => nd.1 (inf _ z)⟩
            · rcases mem_set m with z | z
              · exact (m3 a z).imp_right fun w => ⟨List.mem_cons_of_mem _ (mem_at e4 w.1), w.2⟩
              · exact .inr ⟨List.mem_cons_of_mem _ (mem_rest z), fun w => dj a (m' a w) z⟩
      · cases e
    · cases e
section
variable {D : List KD} {A A1 A2 : List Nat} {rb : Bool} {rk : Nat} {b b1 b2 bi fr fr1 fr2 : Bool} {k k1 k2 ki i j n m : Nat} {fa fb fo fi fe : FE} {ga gb gi ge : VE} {ra : FA} {qa : VA} {h0 h : AH} {fs0 fs : List (List Nat)} {sl : List SV} {vs : List VS}
theorem Good.mut (G : Good D h0 fs0 h sl vs fs) {js : List Int} {x : PyData} {ds : List PyData} (e : D[i]? = some (b, js.length + (m + 1))) (ev : vs[i]? = some (.v x)) (eg : getAt js x = some (.list ds)) :
    ∃ s0 n xs fl, sl[i]? = some s0 ∧ walkR h js s0 = some (.r n) ∧ h[n]? = some (some (.lst xs)) ∧ Fa3 (RV h b m) xs ds fl ∧ fl.flatten.Nodup ∧ (∀ a ∈ fl.flatten, a ∈ fs.flatten) ∧ n ∉ fl.flatten ∧ n ∈ fs.flatten ∧
      ∀ xs2 ds2 fl2, Fa3 (RV h b m) xs2 ds2 fl2 → fl2.flatten.Nodup → (∀ a ∈ fl2.flatten, a ∈ fl.flatten ∨ (a ∉ fs.flatten ∧ (a ∈ fs0.flatten ∨ h0.length ≤ a))) →
        ∃ fs', Good D h0 fs0 (h.set n (some (.lst xs2))) sl (vs.set i (.v (putAt js (.list ds2) x))) fs' ∧ ∀ a ∈ fs'.flatten, a ∈ fl2.flatten ∨ (a ∈ fs.flatten ∧ a ∉ fl.flatten) := by
  obtain ⟨s0, v, f, e1, e2, e3, r⟩ := G.R.get e
  rw [ev] at e2
  cases e2
  have r : RV h b (js.length + (m + 1)) s0 x f := r
  obtain ⟨nf, dj⟩ := nd_at G.nd e3
  obtain ⟨s', f', w, r', n', m', put⟩ := foc r rfl nf eg
  obtain ⟨n, xs, fl, rfl, hn, rfl, q⟩ := r'.isL
  rw [List.nodup_cons] at n'
  have inf : ∀ a ∈ fl.flatten, a ∈ f := fun a z => m' a (List.mem_cons_of_mem _ z)
  have nfs : n ∈ fs.flatten := mem_at e3 (m' n List.mem_cons_self)
  refine ⟨s0, n, xs, fl, e1, w, hn, q, n'.2, fun a z => mem_at e3 (inf a z), n'.1, nfs, fun xs2 ds2 fl2 q2 n2 m2 => ?_⟩
  have hlt := (List.getElem?_eq_some_iff.mp hn).1
  have ne : ∀ a ∈ fl2.flatten, a ≠ n := fun a z w => by
    subst w
    rcases m2 a z with w | w
    · exact n'.1 w
    · exact w.1 nfs
  have rl : RV (h.set n (some (.lst xs2))) b (m + 1) (.r n) (.list ds2) (n :: fl2.flatten) := by
    refine RV.ofL (by rw [List.getElem?_set_self hlt]) ?_
    exact Fa3.imp (cs0 := fl2) (fun _ _ c hc z => z.frame fun a ha => List.getElem?_set_ne (Ne.symm (ne a (List.mem_flatten.mpr ⟨c, hc, ha⟩)))) (fun _ z => z) q2
  obtain ⟨f3, r3, n3, m3⟩ := put (h.set n (some (.lst xs2))) (.list ds2) (n :: fl2.flatten) (fun a ha z => List.getElem?_set_ne fun (e : n = a) => z (e ▸ List.mem_cons_self)) (okP_imm (by unfold imm; rfl)) rl (by rw [List.nodup_cons]; exact ⟨fun z => ne n z rfl, n2⟩) fun a ha => by
    rcases List.mem_cons.mp ha with rfl | ha
    · exact .inl List.mem_cons_self
    · rcases m2 a ha with z | z
      · exact .inl (List.mem_cons_of_mem _ z)
      · exact .inr fun w => z.1 (mem_at e3 w)
  have m4 : ∀ a ∈ f3, a ∈ fl2.flatten ∨ (a ∈ f ∧ a ∉ fl.flatten) := fun a ha => by
    rcases m3 a ha with z | z
    · rcases List.mem_cons.mp z with rfl | z
      · exact .inr ⟨m' a List.mem_cons_self, n'.1⟩
      · exact .inl z
    · exact .inr ⟨z.1, fun w => z.2 (List.mem_cons_of_mem _ w)⟩
  have ndr : ∀ a ∈ f3, a ∉ (fs.set i []).flatten := fun a ha z => by
    rcases m4 a ha with w | w
    · rcases m2 a w with u | u
      · exact dj a (inf a u) z
      · exact u.1 (mem_rest z)
    · exact dj a w.1 z
  have R1 : RSt (h.set n (some (.lst xs2))) D sl (vs.set i .un) (fs.set i []) := (G.R.drop i).frame fun a ha => List.getElem?_set_ne fun (e : n = a) => dj n (m' n List.mem_cons_self) (e ▸ ha)
  have R2 := R1.set (s' := s0) (v' := .v (putAt js (.list ds2) x)) (f' := f3) e r3
  have es : sl.set i s0 = sl := by
    obtain ⟨hi, e1⟩ := List.getElem?_eq_some_iff.mp e1
    rw [← e1]; exact List.set_getElem_self hi
  rw [es, List.set_set, List.set_set] at R2
  refine ⟨fs.set i f3, ⟨R2, nd_set G.nd n3 ndr, fun a ha => ?_, fun a ha hz => ?_, by rw [List.length_set]; exact G.le⟩, fun a ha => ?_⟩
  · rcases mem_set ha with z | z
    · rcases m4 a z with w | w
      · rcases m2 a w with u | u
        · exact G.old a (mem_at e3 (inf a u))
        · exact u.2
      · exact G.old a (mem_at e3 w.1)
    · exact G.old a (mem_rest z)
  · rw [List.getElem?_set_ne fun e => ?_, G.fr a ha hz]
    subst e
    rcases G.old n nfs with z | z
    · exact hz z
    · omega
  · rcases mem_set ha with z | z
    · exact (m4 a z).imp_right fun w => ⟨mem_at e3 w.1, w.2⟩
    · exact .inr ⟨mem_rest z, fun w => dj a (inf a w) z⟩
abbrev VP := List VS → Option (List Int)
def PV (D : List KD) (i n : Nat) (fo : FE) (gp : VP) : Prop := ∀ (h : AH) (sl : List SV) (vs : List VS) (fs : List (List Nat)), RSt h D sl vs fs → fs.flatten.Nodup → ∀ js, gp vs = some js → js.length = n ∧ ∀ x y, vs[i]? = some (.v x) → getAt js x = some y →
  ∃ s0 s t, sl[i]? = some s0 ∧ fo sl h = .ok s (h ++ t) ∧ walkR (h ++ t) js s0 = some s
def pVar : VP := fun _ => some []
def pIx (gp : VP) (ge : VE) : VP := fun vs => match gp vs with
  | some js => match ge vs with
    | .ok (.int j) _ => some (js ++ [j])
    | _ => none
  | none => none
theorem pv_var (e : D[i]? = some (b, k)) : PV D i 0 (Zx.fVar i) pVar := by
  intro h sl vs fs R nd js ej
  cases ej
  refine ⟨rfl, fun x y ev eg => ?_⟩
  obtain ⟨s, v, f, e1, e2, e3, r⟩ := R.get e
  rw [ev] at e2
  cases e2
  have r : RV h b k s x f := r
  refine ⟨s, s, [], e1, ?_, rfl⟩
  have hs : s ≠ .un := fun z => by
    subst z
    have := RV.rb (j := k) r (Nat.le_refl _)
    cases k <;> (unfold Zx.rb at this; cases this)
  rw [List.append_nil]
  unfold Zx.fVar
  rw [e1]
  cases s <;> first | rfl | exact absurd rfl hs
theorem getAt_snoc : ∀ {js : List Int} {j : Int} {x y : PyData}, getAt (js ++ [j]) x = some y → ∃ ds, (getAt js x = some (.list ds) ∨ (getAt js x = some (.tuple ds) ∧ immL ds = false)) ∧ atI ds j = some y
  | [], j, x, y, e => by
    have e : getAt [j] x = some y := e
    cases x with
    | list ds =>
      unfold getAt at e
      dsimp only at e
      split at e
      · rename_i d hd
        cases e
        exact ⟨ds, .inl rfl, hd⟩
      · cases e
    | tuple ds =>
      unfold getAt at e
      dsimp only at e
      split at e
      · rename_i c
        split at e
        · rename_i d hd
          cases e
          exact ⟨ds, .inr ⟨rfl, c⟩, hd⟩
        · cases e
      · cases e
    | none => cases e
    | bool _ => cases e
    | int _ => cases e
    | str _ => cases e
    | dict _ => cases e
  | a :: js, j, x, y, e => by
    have e : getAt (a :: (js ++ [j])) x = some y := e
    unfold getAt at e
    split at e
    · rename_i ds
      split at e
      · rename_i d hd
        obtain ⟨ds', h1, h2⟩ := getAt_snoc e
        refine ⟨ds', ?_, h2⟩
        unfold getAt
        dsimp only
        rw [hd]
        exact h1
      · cases e
    · rename_i ds
      split at e
      · rename_i c
        split at e
        · rename_i d hd
          obtain ⟨ds', h1, h2⟩ := getAt_snoc e
          refine ⟨ds', ?_, h2⟩
          unfold getAt
          dsimp only
          rw [if_pos c, hd]
          exact h1
        · cases e
      · cases e
    · cases e
theorem walkR_snoc {h : AH} : ∀ {js : List Int} {j : Int} {s s1 : SV} {n : Nat} {xs : List SV}, walkR h js s = some (.r n) → (h[n]? = some (some (.lst xs)) ∨ h[n]? = some (some (.tup xs))) → atI xs j = some s1 → walkR h (js ++ [j]) s = some s1
  | [], j, s, s1, n, xs, w, hn, e => by
    cases w
    show walkR h [j] (.r n) = some s1
    unfold walkR
    rcases hn with hn | hn <;> (rw [hn]; dsimp only; rw [e]; rfl)
  | a :: js, j, s, s1, n, xs, w, hn, e => by
    show walkR h (a :: (js ++ [j])) s = some s1
    unfold walkR at w ⊢
    cases s with
    | r m =>
      dsimp only at w ⊢
      split at w
      · rename_i ys hy
        split at w
        · rename_i s2 h2
          exact walkR_snoc w hn e
        · cases w
      · rename_i ys hy
        split at w
        · rename_i s2 h2
          exact walkR_snoc w hn e
        · cases w
      · cases w
    | un => cases w
    | d x => cases w
    | vw x => cases w
    | sc x => cases w
    | ex x => cases w
theorem pv_ix (hp : PV D i n fo gp) (he : EV D b1 k1 fr1 fe ge) (e : D[i]? = some (b, n + (m + 1))) : PV D i (n + 1) (Zx.fBin Zx.gIx fo fe) (pIx gp ge) := by
  intro h sl vs fs R nd js ej
  unfold pIx at ej
  split at ej
  · rename_i js' hj
    split at ej
    · rename_i j vs' hje
      cases ej
      obtain ⟨hl, c⟩ := hp h sl vs fs R nd js' hj
      refine ⟨by rw [List.length_append, hl]; rfl, fun x y ev eg => ?_⟩
      obtain ⟨ds, g1, g2⟩ := getAt_snoc eg
      obtain ⟨y', gy⟩ : ∃ y', getAt js' x = some y' := by
        rcases g1 with g | ⟨g, _⟩ <;> exact ⟨_, g⟩
      obtain ⟨s0, s, t, e1, e2, e3⟩ := c x y' ev gy
      have o := he (h ++ t) sl vs fs R.app nd
      rw [hje] at o
      obtain ⟨rfl, sj, t2, fp, e4, r4, _, _⟩ := o
      obtain ⟨rfl, _⟩ := r4.imm rfl
      have G : Good D h fs (h ++ t ++ t2) sl vs' fs := (Good.ext (t := t) R nd).app
      obtain ⟨s0', v, f, f1, fv, f3, rr⟩ := G.R.get e
      rw [ev] at fv
      cases fv
      have rr : RV (h ++ t ++ t2) b (n + (m + 1)) s0' x f := rr
      rw [e1] at f1
      cases f1
      obtain ⟨nf, _⟩ := nd_at G.nd f3
      obtain ⟨s', f', w, r', _⟩ := foc rr (by rw [hl]) nf gy
      have e5 := walkR_app (t := t2) e3
      rw [w] at e5
      cases e5
      have cell : ∃ n' xs fl, s = .r n' ∧ ((h ++ t ++ t2)[n']? = some (some (.lst xs)) ∨ (h ++ t ++ t2)[n']? = some (some (.tup xs))) ∧ Fa3 (RV (h ++ t ++ t2) b m) xs ds fl := by
        rcases g1 with g | ⟨g, ci⟩
        · cases gy.symm.trans g
          obtain ⟨n', xs, fl, rfl, hn, _, q⟩ := r'.isL
          exact ⟨n', xs, fl, rfl, .inl hn, q⟩
        · cases gy.symm.trans g
          obtain ⟨n', xs, fl, rfl, hn, _, q⟩ := r'.isT ci
          exact ⟨n', xs, fl, rfl, .inr hn, q⟩
      obtain ⟨n', xs, fl, rfl, hn, f4⟩ := cell
      obtain ⟨p, s1, c1, _, _, _, _, i5, _⟩ := fa_ix f4 g2
      refine ⟨s0, s1, t ++ t2, e1, ?_, ?_⟩
      · unfold Zx.fBin
        rw [e2]
        show ((fe sl (h ++ t)).bind fun y h2 => Zx.gIx (.r n') y h2) = _
        rw [e4]
        show Zx.gIx (.r n') (.d (.int j)) (h ++ t ++ t2) = _
        rw [List.append_assoc] at hn ⊢
        unfold Zx.gIx itemsOf
        dsimp only
        rcases hn with hn | hn <;> (rw [hn]; dsimp only; rw [i5])
      · rw [← List.append_assoc]
        exact walkR_snoc w hn i5
    · cases ej
  · cases ej
def KV (b : Bool) (m : Nat) (ba : Bool) (ka : Nat) (bo : Bool) (ko : Nat) (k : List SV → List SV → AH → Option (List SV × SV)) (kV : List PyData → List PyData → Option (List PyData × PyData)) : Prop :=
  ∀ (h : AH) (xs : List SV) (ds : List PyData) (fl : List (List Nat)) (ss : List SV) (as : List PyData) (fa : List (List Nat)) (ds2 : List PyData) (y : PyData), Fa3 (RV h b m) xs ds fl → Fa3 (RV h ba ka) ss as fa → (fl.flatten ++ fa.flatten).Nodup → kV ds as = some (ds2, y) →
    ∃ xs2 sy fl2 fy, k xs ss h = some (xs2, sy) ∧ Fa3 (RV h b m) xs2 ds2 fl2 ∧ RV h bo ko sy y fy ∧ (fl2.flatten ++ fy).Nodup ∧ ∀ a ∈ fl2.flatten ++ fy, a ∈ fl.flatten ++ fa.flatten
def fMt (i : Nat) (gp : VP) (kV : List PyData → List PyData → Option (List PyData × PyData)) (qa : VA) : VE := fun vs => match vs[i]?, gp vs with
  | some (.v x), some js => match getAt js x with
    | some (.list ds) => (qa vs).bind fun as vs => match kV ds as with
      | some p => .ok p.2 (vs.set i (.v (putAt js (.list p.1) x)))
      | none => .st
    | _ => .st
  | _, _ => .st
theorem xv_mt {ba bo : Bool} {ka ko : Nat} {kk : List SV → List SV → AH → Option (List SV × SV)} {kV : List PyData → List PyData → Option (List PyData × PyData)} {gp : VP} (hk : KV b m ba ka bo ko kk kV) (hp : PV D i n fo gp) (ha : AF D ba ka ra qa) (e : D[i]? = some (b, n + (m + 1))) :
    XV D bo ko (Zx.fBM Zx.kdL (Zx.gOwn kk) fo ra) (fMt i gp kV qa) := by
  intro h sl vs fs R nd
  unfold fMt
  split
  · rename_i x js ev ej
    split
    · rename_i ds eg
      obtain ⟨hl, c⟩ := hp h sl vs fs R nd js ej
      obtain ⟨s0, s, t, e1, e2, e3⟩ := c x _ ev eg
      obtain ⟨s0', n', xs, fl, f1, f2, f3, f4, f5, f6, f7, f8, _⟩ := (Good.ext (t := t) R nd).mut (js := js) (m := m) (by rw [hl]; exact e) ev eg
      rw [e1] at f1
      cases f1
      rw [e3] at f2
      cases f2
      have hkd : Zx.kdL (h ++ t) (.r n') = true := by
        unfold Zx.kdL lstOf
        dsimp only
        rw [f3]; rfl
      unfold Zx.fBM
      rw [e2]
      show OutX _ _ _ _ _ _ _ (if Zx.kdL (h ++ t) (.r n') = true then (ra sl (h ++ t)).bind fun ss h2 => Zx.gOwn kk (.r n') ss h2 else .st)
      rw [if_pos hkd]
      have o := ha (h ++ t) sl vs fs R.app nd
      generalize qa vs = rr at o ⊢
      generalize ra sl (h ++ t) = qq at o ⊢
      cases rr with
      | st => trivial
      | rz cc =>
        obtain ⟨t2, rfl⟩ := o
        exact ⟨t ++ t2, by rw [← List.append_assoc]; rfl⟩
      | ok as vs' =>
        obtain ⟨rfl, ss, t2, rfl, fa, q2, n2, z2⟩ := o
        show OutX _ _ _ _ _ _ (match kV ds as with | some p => .ok p.2 (vs'.set i (.v (putAt js (.list p.1) x))) | none => .st) (Zx.gOwn kk (.r n') ss (h ++ t ++ t2))
        cases ek : kV ds as with
        | none => trivial
        | some p =>
          obtain ⟨s0', n'', xs', fl', g1, g2, g3, g4, g5, g6, g7, g8, put⟩ := ((Good.ext (t := t) R nd).app (t := t2)).mut (js := js) (m := m) (by rw [hl]; exact e) ev eg
          rw [e1] at g1
          cases g1
          rw [walkR_app e3] at g2
          cases g2
          have fresh : ∀ a ∈ fa.flatten, h.length ≤ a ∧ a ∉ fs.flatten := fun a hm => by
            have h1 := z2 a hm
            rw [List.length_append] at h1
            exact ⟨by omega, fun z => absurd (R.lt a z) (by omega)⟩
          have dj : (fl'.flatten ++ fa.flatten).Nodup := by
            rw [List.nodup_append]
            exact ⟨g5, n2, fun a h1 b' h2 e => by subst e; exact (fresh a h2).2 (g6 a h1)⟩
          obtain ⟨xs2, sy, fl2, fy, k1, k2, k3, k4, k5⟩ := hk _ xs' ds fl' ss as fa p.1 p.2 g4 q2 dj ek
          rw [List.nodup_append] at k4
          have mm : ∀ a ∈ fl2.flatten ++ fy, a ∈ fl'.flatten ∨ (a ∉ fs.flatten ∧ h.length ≤ a) := fun a hm => by
            rcases List.mem_append.mp (k5 a hm) with z | z
            · exact .inl z
            · exact .inr ⟨(fresh a z).2, (fresh a z).1⟩
          obtain ⟨fs', G', m'⟩ := put xs2 p.1 fl2 k2 k4.1 fun a hm => (mm a (List.mem_append_left _ hm)).imp_right fun z => ⟨z.1, .inr z.2⟩
          have hgo : Zx.gOwn kk (.r n') ss (h ++ t ++ t2) = .ok sy ((h ++ t ++ t2).set n' (some (.lst xs2))) := by
            unfold Zx.gOwn
            dsimp only
            rw [g3]
            dsimp only
            rw [k1]
          rw [hgo]
          refine ⟨sy, _, fs', fy, rfl, G', k3.frame fun a hm => List.getElem?_set_ne fun (e : n' = a) => ?_, k4.2.1, fun a hm z => ?_, fun a hm => ?_⟩
          · subst e
            rcases mm n' (List.mem_append_right _ hm) with z | z
            · exact g7 z
            · exact z.1 g8
          · rcases m' a z with z | z
            · exact k4.2.2 a z a hm rfl
            · rcases mm a (List.mem_append_right _ hm) with w | w
              · exact z.2 w
              · exact w.1 z.1
          · rcases mm a (List.mem_append_right _ hm) with w | w
            · exact .inl (g6 a w)
            · exact .inr w.2
    · trivial
  · trivial
def kApp : List PyData → List PyData → Option (List PyData × PyData) := fun ds as => match as with
  | [x] => if ds.length < lim then some (ds ++ [x], .none) else none
  | _ => none
def kRev : List PyData → List PyData → Option (List PyData × PyData) := fun ds as => match as with
  | [] => some (ds.reverse, .none)
  | _ => none
def kPpA : List PyData → List PyData → Option (List PyData × PyData) := fun ds as => match as with
  | [.int i] => if inB i = true then match seqIndex? i ds.length with
      | some p => match ds[p]? with
        | some y => some (ds.eraseIdx p, y)
        | none => none
      | none => none
    else none
  | _ => none
def kPp : List PyData → List PyData → Option (List PyData × PyData) := fun ds as => match as with
  | [] => match ds[ds.length - 1]? with
    | some y => some (ds.dropLast, y)
    | none => none
  | _ => none
theorem fa_rev {α β γ : Type} {P : α → β → γ → Prop} : ∀ {as : List α} {bs : List β} {cs : List γ}, Fa3 P as bs cs → Fa3 P as.reverse bs.reverse cs.reverse
  | [], [], [], r => r
  | a :: as, b :: bs, c :: cs, ⟨h, r⟩ => by
    rw [List.reverse_cons, List.reverse_cons, List.reverse_cons]
    exact Fa3.app (show Fa3 P [a] [b] [c] from ⟨h, trivial⟩) (fa_rev r)
  | [], [], c :: cs, h => h.elim
  | [], b :: bs, [], h => h.elim
  | [], b :: bs, c :: cs, h => h.elim
  | a :: as, [], [], h => h.elim
  | a :: as, [], c :: cs, h => h.elim
  | a :: as, b :: bs, [], h => h.elim
theorem kv_rev : KV b m b1 k1 b2 k2 Zx.kReverse kRev := by
  intro h xs ds fl ss as fa ds2 y r q nd e
  unfold kRev at e
  split at e
  · cases e
    cases ss with
    | cons s ss => cases fa <;> exact q.elim
    | nil =>
      refine ⟨_, _, fl.reverse, [], rfl, fa_rev r, RV.dk rfl, ?_, fun a m => ?_⟩
      · rw [List.append_nil]
        rw [List.nodup_append] at nd
        have hp : fl.reverse.flatten.Perm fl.flatten := by
          exact (List.reverse_perm fl).flatten
        exact hp.nodup_iff.mpr nd.1
      · rw [List.append_nil] at m
        obtain ⟨l, h1, h2⟩ := List.mem_flatten.mp m
        exact List.mem_append_left _ (List.mem_flatten.mpr ⟨l, List.mem_reverse.mp h1, h2⟩)
  · cases e
theorem kv_app (hb : (!b1 || b) = true := by decide) : KV b m b1 m b2 k2 Zx.kAppend kApp := by
  intro h xs ds fl ss as fa ds2 y r q nd e
  unfold kApp at e
  split at e
  · rename_i x
    split at e
    · rename_i hlt
      cases e
      match ss, fa, q with
      | [s], [f], ⟨q1, _⟩ =>
        have hl := r.len.1
        refine ⟨xs ++ [s], .d .none, fl ++ [f], [], ?_, Fa3.app (show Fa3 (RV h b m) [s] [x] [f] from ⟨q1.bm hb, trivial⟩) r, RV.dk rfl, ?_, fun a m => ?_⟩
        · unfold Zx.kAppend
          dsimp only
          rw [if_pos (by omega)]
        · rw [List.append_nil, List.flatten_append]; exact nd
        · rw [List.append_nil, List.flatten_append] at m; exact m
      | [], [], q => exact q.elim
      | [], f :: fa, q => exact q.elim
      | s :: s2 :: ss, f :: f2 :: fa, q => exact q.2.elim
      | [s], f :: f2 :: fa, q => exact q.2.elim
      | s :: s2 :: ss, [f], q => exact q.2.elim
      | s :: ss, [], q => exact q.elim
    · cases e
  · cases e
theorem fl_erase : ∀ {fs : List (List Nat)} {p : Nat} {f : List Nat}, fs.flatten.Nodup → fs[p]? = some f → ((fs.eraseIdx p).flatten ++ f).Nodup ∧ ∀ a ∈ (fs.eraseIdx p).flatten ++ f, a ∈ fs.flatten
  | [], p, f, _, e => by simp at e
  | g :: fs, 0, f, nd, e => by
    cases e
    rw [List.flatten_cons] at nd
    show (fs.flatten ++ g).Nodup ∧ ∀ a ∈ fs.flatten ++ g, a ∈ g ++ fs.flatten
    exact ⟨(List.perm_append_comm).nodup_iff.mp nd, fun a m => (List.mem_append.mp m).elim (fun z => List.mem_append_right _ z) fun z => List.mem_append_left _ z⟩
  | g :: fs, p + 1, f, nd, e => by
    have e : fs[p]? = some f := e
    rw [List.flatten_cons, List.nodup_append] at nd
    obtain ⟨h1, h2⟩ := fl_erase nd.2.1 e
    show ((g ++ (fs.eraseIdx p).flatten) ++ f).Nodup ∧ ∀ a ∈ (g ++ (fs.eraseIdx p).flatten) ++ f, a ∈ g ++ fs.flatten
    rw [List.append_assoc]
    refine ⟨?_, fun a m => ?_⟩
    · rw [List.nodup_append]
      exact ⟨nd.1, h1, fun a ha c hc e => nd.2.2 a ha c (h2 c hc) e⟩
    · rcases List.mem_append.mp m with z | z
      · exact List.mem_append_left _ z
      · exact List.mem_append_right _ (h2 a z)
theorem kv_ppA : KV b m b1 k1 b m Zx.kPopAt kPpA := by
  intro h xs ds fl ss as fa ds2 y r q nd e
  unfold kPpA at e
  split at e
  · rename_i i
    split at e
    · rename_i hb
      split at e
      · rename_i p hp
        split at e
        · rename_i y' hy
          cases e
          rw [List.nodup_append] at nd
          obtain ⟨s, f, h1, h2, h3⟩ := r.get hy
          obtain ⟨n1, m1⟩ := fl_erase nd.1 h2
          match ss, fa, q with
          | [si], [fi], ⟨q1, _⟩ =>
            obtain ⟨rfl, _⟩ := q1.imm rfl
            refine ⟨xs.eraseIdx p, s, fl.eraseIdx p, f, ?_, Fa3.erase p r, h3, n1, fun a m => List.mem_append_left _ (m1 a m)⟩
            unfold Zx.kPopAt
            dsimp only
            rw [if_pos hb, r.len.1, hp]
            dsimp only
            rw [h1]
          | [], [], q => exact q.elim
          | [], f :: fa, q => exact q.elim
          | s :: s2 :: ss, f :: f2 :: fa, q => exact q.2.elim
          | [s], f :: f2 :: fa, q => exact q.2.elim
          | s :: s2 :: ss, [f], q => exact q.2.elim
          | s :: ss, [], q => exact q.elim
        · cases e
      · cases e
    · cases e
  · cases e
def fApp (i : Nat) (ga : VE) : VE := fun vs => match vs[i]? with
  | some (.v (.list _)) => (ga vs).bind fun x vs1 => match vs1[i]? with
    | some (.v (.list ds)) => if ds.length < lim then .ok .none (vs1.set i (.v (.list (ds ++ [x])))) else .st
    | _ => .st
  | _ => .st
theorem xv_app (ha : XV D b1 m fa ga) (e : D[i]? = some (b, m + 1) := by rfl) (hb : (!b1 || b) = true := by decide) : XV D bi ki (Zx.fBM Zx.kdL (Zx.gOwn Zx.kAppend) (Zx.fVar i) (Zx.fCons fa Zx.fNil)) (fApp i ga) := by
  intro h sl vs fs R nd
  unfold fApp
  split
  · rename_i ds0 ev
    obtain ⟨_, c⟩ := pv_var e h sl vs fs R nd [] rfl
    obtain ⟨s0, s, t, e1, e2, e3⟩ := c _ _ ev rfl
    cases e3
    obtain ⟨s0', n', xs, fl, f1, f2, f3, _⟩ := (Good.ext (t := t) R nd).mut (js := []) (m := m) (b := b) (by rw [e]; show some (b, m + 1) = some (b, 0 + (m + 1)); rw [Nat.zero_add]) ev rfl
    rw [e1] at f1
    cases f1
    cases f2
    have hkd : Zx.kdL (h ++ t) (.r n') = true := by
      unfold Zx.kdL lstOf
      dsimp only
      rw [f3]; rfl
    unfold Zx.fBM
    rw [e2]
    show OutX _ _ _ _ _ _ _ (if Zx.kdL (h ++ t) (.r n') = true then (Zx.fCons fa Zx.fNil sl (h ++ t)).bind fun ss h2 => Zx.gOwn Zx.kAppend (.r n') ss h2 else .st)
    rw [if_pos hkd]
    show OutX _ _ _ _ _ _ _ (((fa sl (h ++ t)).bind fun s h1 => .ok [s] h1).bind fun ss h2 => Zx.gOwn Zx.kAppend (.r n') ss h2)
    have o := ha (h ++ t) sl vs fs R.app nd
    generalize ga vs = rr at o ⊢
    generalize fa sl (h ++ t) = qq at o ⊢
    cases rr with
    | st => trivial
    | rz cc =>
      obtain ⟨t2, rfl⟩ := o
      exact ⟨t ++ t2, by rw [← List.append_assoc]; rfl⟩
    | ok x vs1 =>
      obtain ⟨sx, h1, fs1, fp, rfl, G1, r1, n1, d1, o1⟩ := o
      show OutX _ _ _ _ _ _ (match vs1[i]? with | some (.v (.list ds)) => if ds.length < lim then .ok .none (vs1.set i (.v (.list (ds ++ [x])))) else .st | _ => .st) (Zx.gOwn Zx.kAppend (.r n') [sx] h1)
      split
      · rename_i ds ev1
        split
        · rename_i hlt
          have G2 := (Good.ext (t := t) R nd).trans G1
          obtain ⟨s0', n'', xs', fl', g1, g2, g3, g4, g5, g6, g7, g8, put⟩ := G2.mut (js := []) (m := m) (b := b) (by rw [e]; show some (b, m + 1) = some (b, 0 + (m + 1)); rw [Nat.zero_add]) ev1 rfl
          rw [e1] at g1
          cases g1
          cases g2
          obtain ⟨fs', G', m'⟩ := put (xs' ++ [sx]) (ds ++ [x]) (fl' ++ [fp]) (Fa3.app (show Fa3 (RV h1 b m) [sx] [x] [fp] from ⟨r1.bm hb, trivial⟩) g4) (by
              rw [List.flatten_append, List.nodup_append]
              refine ⟨g5, by simpa using n1, fun a ha c hc e => ?_⟩
              subst e
              exact d1 a (by simpa using hc) (g6 a ha)) (fun a hm => by
              rw [List.flatten_append, List.mem_append] at hm
              refine hm.imp_right fun z => ?_
              have z : a ∈ fp := by simpa using z
              refine ⟨d1 a z, (o1 a z).imp_right fun w => ?_⟩
              rw [List.length_append] at w; omega)
          have hgo : Zx.gOwn Zx.kAppend (.r n') [sx] h1 = .ok (.d .none) (h1.set n' (some (.lst (xs' ++ [sx])))) := by
            have hl := g4.len.1
            unfold Zx.gOwn
            dsimp only
            rw [g3]
            show (match (if xs'.length < lim then some (xs' ++ [sx], SV.d .none) else none) with | some (ys, v) => Zx.R.ok v (h1.set n' (some (.lst ys))) | none => Zx.R.st) = _
            rw [if_pos (by omega)]
          rw [hgo]
          exact ⟨_, _, fs', [], rfl, G', RV.dk rfl, List.nodup_nil, (fun a m => by cases m), (fun a m => by cases m)⟩
        · trivial
      · trivial
  · trivial
def sStore (i : Nat) (gp : VP) (gi ge : VE) : VF := fun vs => (ge vs).thn vs fun x vs => match gp vs with
  | some js => match gi vs with
    | .ok (.int j) _ => match vs[i]? with
      | some (.v y) => match getAt js y with
        | some (.list ds) => match ixN ds.length j with
          | some p => .nx (vs.set i (.v (putAt js (.list (ds.set p x)) y)))
          | none => .st
        | _ => .st
      | _ => .st
    | _ => .st
  | none => .st
def sAugS (kk : Int → Int → Int) (i : Nat) (gp : VP) (gi ge : VE) : VF := fun vs => match gp vs with
  | some js => match gi vs with
    | .ok (.int j) _ => match vs[i]? with
      | some (.v y) => match getAt js y with
        | some (.list ds) => match ixN ds.length j with
          | some p => match ds[p]? with
            | some (.int a) => match ge vs with
              | .ok (.int c) _ => .nx (vs.set i (.v (putAt js (.list (ds.set p (.int (kk a c)))) y)))
              | _ => .st
            | _ => .st
          | none => .st
        | _ => .st
      | _ => .st
    | _ => .st
  | none => .st
end
end Zx.V
namespace Zx.V
open PySem PySem.Spec L2
def resetV : List VS → List VS → List VS
  | a :: as, b :: bs => (match a with | .un => .un | _ => b) :: resetV as bs
  | _, bs => bs
theorem rv_un {h : AH} {b : Bool} {k : Nat} {x : PyData} {f : List Nat} (r : RV h b k .un x f) : False := by
  have := RV.rb (j := k) r (Nat.le_refl _)
  cases k <;> (unfold Zx.rb at this; cases this)
theorem reset_rst {h0 h : AH} : ∀ {D : List KD} {sl0 sl : List SV} {vs0 vs : List VS} {fs0 fs : List (List Nat)}, RSt h0 D sl0 vs0 fs0 → RSt h D sl vs fs → ∃ fs', RSt h D (reset sl0 sl) (resetV vs0 vs) fs' ∧ fs'.flatten.Sublist fs.flatten
  | [], sl0, sl, vs0, vs, fs0, fs, r0, r => by
    rw [r0.1, r0.2.1, r.1, r.2.1, r.2.2]
    exact ⟨[], ⟨rfl, rfl, rfl⟩, List.Sublist.refl _⟩
  | k :: D, sl0, sl, vs0, vs, fs0, fs, ⟨s0, sl0', v0, vs0', f0, fs0', a1, a2, a3, q1, q2⟩, ⟨s, sl', v, vs', f, fs', b1, b2, b3, r1, r2⟩ => by
    subst a1 a2 a3 b1 b2 b3
    obtain ⟨fs2, R2, m2⟩ := reset_rst q2 r2
    cases v0 with
    | un => exact ⟨[] :: fs2, ⟨_, _, .un, _, _, _, rfl, rfl, rfl, rfl, R2⟩, by rw [List.flatten_cons, List.flatten_cons]; exact List.Sublist.append (List.nil_sublist _) m2⟩
    | v x =>
      have hs : s0 ≠ .un := fun z => by subst z; exact rv_un q1
      refine ⟨f :: fs2, ⟨s, _, v, _, f, _, ?_, rfl, rfl, r1, R2⟩, by rw [List.flatten_cons, List.flatten_cons]; exact List.Sublist.append (List.Sublist.refl _) m2⟩
      cases s0 <;> first | rfl | exact absurd rfl hs
    | sc x =>
      obtain ⟨rfl, rfl⟩ := q1
      exact ⟨f :: fs2, ⟨s, _, v, _, f, _, rfl, rfl, rfl, r1, R2⟩, by rw [List.flatten_cons, List.flatten_cons]; exact List.Sublist.append (List.Sublist.refl _) m2⟩
    | ex x =>
      obtain ⟨rfl, rfl⟩ := q1
      exact ⟨f :: fs2, ⟨s, _, v, _, f, _, rfl, rfl, rfl, r1, R2⟩, by rw [List.flatten_cons, List.flatten_cons]; exact List.Sublist.append (List.Sublist.refl _) m2⟩
theorem RSt.below {h : AH} {L : Nat} (hL : (h.take L).all (belowO L) = true) : ∀ {D : List KD} {sl : List SV} {vs : List VS} {fs : List (List Nat)}, sl.all (Zx.below L) = true → RSt h D sl vs fs → ∀ n ∈ fs.flatten, n < L
  | [], sl, vs, fs, _, r, n, m => by rw [r.2.2] at m; cases m
  | k :: D, sl, vs, fs, c, ⟨s, sl', v, vs', f, fs', h1, h2, h3, r1, r2⟩, n, m => by
    subst h1 h2 h3
    rw [List.all_cons, Bool.and_eq_true] at c
    rcases List.mem_append.mp m with m | m
    · cases v with
      | un => rw [show f = [] from r1] at m; cases m
      | v x => exact RV.below hL r1 c.1 n m
      | sc x => rw [r1.2] at m; cases m
      | ex x => rw [r1.2] at m; cases m
    · exact RSt.below hL c.2 r2 n m
theorem norm_1 {sl0 : List SV} {L : Nat} {sl : List SV} {h : AH} : (norm sl0 L sl h).1 = reset sl0 sl := by
  unfold Zx.norm
  split <;> rfl
theorem norm_2 {sl0 : List SV} {L : Nat} {sl : List SV} {h : AH} : (norm sl0 L sl h).2 = h ∨ ((norm sl0 L sl h).2 = h.take L ∧ (h.take L).all (belowO L) = true ∧ (reset sl0 sl).all (Zx.below L) = true) := by
  unfold Zx.norm
  split
  · rename_i c
    unfold trimOk at c
    rw [Bool.and_eq_true] at c
    exact .inr ⟨rfl, c.1, c.2⟩
  · exact .inl rfl
theorem reset_keep {sl0 sl : List SV} {i : Nat} (e : sl[i]? = sl0[i]?) : (reset sl0 sl)[i]? = sl0[i]? := by
  induction sl0 generalizing sl i with
  | nil => unfold reset; exact e
  | cons a as ih =>
    cases sl with
    | nil => unfold reset; exact e
    | cons b bs =>
      unfold reset
      cases i with
      | zero =>
        have e' : b = a := Option.some.inj e
        subst e'
        cases b <;> rfl
      | succ i => exact ih (sl := bs) (i := i) e
section
variable {D : List KD} {A A1 A2 : List Nat} {rb : Bool} {rk : Nat} {b b1 b2 bi fr fr1 fr2 : Bool} {k k1 k2 ki i j n m : Nat} {fa fb fo fe : FE} {ga gb ge : VE} {ra : FA} {qa : VA} {h0 h : AH} {fs0 fs : List (List Nat)} {sl sl0 : List SV} {vs vs0 : List VS} {f f1 f2 : FS} {g g1 g2 : VF} {ft : FT} {gt : VT} {bd : Bd}
theorem Good.norm' {fs00 : List (List Nat)} (R0 : RSt h0 D sl0 vs0 fs00) (G : Good D h0 fs0 h sl vs fs) : ∃ fs', Good D h0 fs0 (norm sl0 h0.length sl h).2 (norm sl0 h0.length sl h).1 (resetV vs0 vs) fs' ∧ (∀ a ∈ fs'.flatten, a ∈ fs.flatten) ∧ ∀ (b : Bool) (k : Nat) (s : SV) (x : PyData) (F : List Nat), RV h b k s x F → Zx.below h0.length s = true → RV (norm sl0 h0.length sl h).2 b k s x F := by
  obtain ⟨fs', R, sb⟩ := reset_rst R0 G.R
  have G1 : Good D h0 fs0 h (reset sl0 sl) (resetV vs0 vs) fs' := G.sub R (sb.nodup G.nd) fun n m => sb.subset m
  rw [norm_1]
  rcases norm_2 (sl0 := sl0) (L := h0.length) (sl := sl) (h := h) with e | ⟨e, c1, c2⟩
  · rw [e]; exact ⟨fs', G1, fun n m => sb.subset m, fun b k s x F r _ => r⟩
  · rw [e]
    have hb := RSt.below c1 c2 R
    refine ⟨fs', ⟨R.frame fun n m => List.getElem?_take_of_lt (hb n m), G1.nd, G1.old, fun n hn hm => ?_, ?_⟩, fun n m => sb.subset m, fun b k s x F r c => r.cut (RV.below c1 r c)⟩
    · rw [List.getElem?_take_of_lt hn]; exact G1.fr n hn hm
    · rw [List.length_take]; have := G1.le; omega
theorem Good.norm {fs00 : List (List Nat)} (R0 : RSt h0 D sl0 vs0 fs00) (G : Good D h0 fs0 h sl vs fs) : ∃ fs', Good D h0 fs0 (norm sl0 h0.length sl h).2 (norm sl0 h0.length sl h).1 (resetV vs0 vs) fs' := (Good.norm' R0 G).imp fun _ z => z.1
def aftV (vs0 : List VS) (o : VO) (k : List VS → VO) : VO := match o with
  | .nx vs => k (resetV vs0 vs)
  | .ct vs => k (resetV vs0 vs)
  | .bk vs => .nx (resetV vs0 vs)
  | .rt x => .rt x
  | .rz c vs => .rz c vs
  | .st => .st
theorem aft_out {q : O} {r : VO} {K : List VS → VO} {K' : List SV → AH → O} (R0 : RSt h0 D sl0 vs0 fs0) (o : OutS D A rb rk h0 sl0 fs0 r q)
    (c : ∀ sl vs h fs, Good D h0 fs0 h sl vs fs → Keep A sl0 sl → OutS D A rb rk h0 sl0 fs0 (K vs) (K' sl h)) : OutS D A rb rk h0 sl0 fs0 (aftV vs0 r K) (aft sl0 h0.length q K') := by
  have kk : ∀ {sl' : List SV} {h' : AH}, Keep A sl0 sl' → Keep A sl0 (norm sl0 h0.length sl' h').1 := fun k => by
    rw [norm_1]
    exact fun i hi => reset_keep (k i hi)
  cases r with
  | nx vs' =>
    obtain ⟨sl', h', fs', rfl, G, K⟩ := o
    obtain ⟨fs'', G'⟩ := Good.norm R0 G
    exact c _ _ _ _ G' (kk K)
  | ct vs' =>
    obtain ⟨sl', h', fs', rfl, G, K⟩ := o
    obtain ⟨fs'', G'⟩ := Good.norm R0 G
    exact c _ _ _ _ G' (kk K)
  | bk vs' =>
    obtain ⟨sl', h', fs', rfl, G, K⟩ := o
    obtain ⟨fs'', G'⟩ := Good.norm R0 G
    exact ⟨_, _, _, rfl, G', kk K⟩
  | rz cc vs' =>
    obtain ⟨sl', h', fs', rfl, G, K⟩ := o
    exact ⟨_, _, _, rfl, G, K⟩
  | rt x =>
    obtain ⟨s, h', fp, rfl, r, n⟩ := o
    exact ⟨s, h', fp, rfl, r, n⟩
  | st => trivial
def forV (vs0 : List VS) (bd : Bd) (body : VF) : List VI → List VS → VO
  | [], vs => .nx vs
  | x :: xs, vs => match goV bd x vs with
    | none => .st
    | some vs1 => aftV vs0 (body vs1) (forV vs0 bd body xs)
def sFor (gi : VSr) (bd : Bd) (body : VF) : VF := fun vs => (gi vs).thn vs fun l vs => forV vs bd body l vs
theorem forC_out (R0 : RSt h0 D sl0 vs0 fs0) (hb : SVp D A rb rk f g) (hbd : bdOk D b bd = true) : ∀ {its : List It1} {vis : List VI} {sl : List SV} {vs : List VS} {h : AH} {fs : List (List Nat)}, FI b its vis → Good D h0 fs0 h sl vs fs → Keep (bd.is ++ A) sl0 sl →
    OutS D (bd.is ++ A) rb rk h0 sl0 fs0 (forV vs0 bd g vis vs) (forC sl0 h0.length bd f its sl h)
  | [], [], sl, vs, h, fs, _, G, K => ⟨sl, h, fs, rfl, G, K⟩
  | [], y :: ys, sl, vs, h, fs, r, G, K => r.elim
  | x :: xs, [], sl, vs, h, fs, r, G, K => r.elim
  | x :: xs, y :: ys, sl, vs, h, fs, ⟨r1, r2⟩, G, K => by
    unfold forV
    split
    · trivial
    · rename_i vs1 e
      obtain ⟨sl1, fs1, e1, R1, n1, m1⟩ := go_ok hbd G.R G.nd r1 e
      unfold forC
      rw [e1]
      dsimp only
      have G1 := G.sub R1 n1 m1
      exact aft_out R0 (OutS.pre G1 (K.trans (keep_go e1).l) (fun i hi z => hi (List.mem_append_right _ z)) (hb h sl1 vs1 fs1 R1 n1)) fun sl2 vs2 h2 fs2 G2 K2 => forC_out R0 hb hbd r2 G2 K2
theorem sv_for {fi : List SV → AH → Zx.R Src} {gi : VSr} (hi : IV D b fi gi) (hb : SVp D A rb rk f g) (hbd : bdOk D b bd = true := by decide) : SVp D (bd.is ++ A) rb rk (Zx.sFor fi bd f) (sFor gi bd g) := by
  intro h sl vs fs R nd
  refine (hi h sl vs fs R nd).thn R nd fun l s t r => ?_
  obtain ⟨its, rfl, fi⟩ := r
  have G := Good.ext (t := t) R nd
  exact OutS.pre G Keep.same (fun _ hi => hi) (forC_out R.app hb hbd fi (Good.refl R.app nd) Keep.same)
def forVarV (vs0 : List VS) (l : Nat) (bd : Bd) (body : VF) : Nat → Nat → List VS → VO
  | 0, j, vs => match vs[l]? with
    | some (.v (.list ds)) => if ds.length ≤ j then .nx vs else .st
    | _ => .st
  | c + 1, j, vs => match vs[l]? with
    | some (.v (.list ds)) => match ds[j]? with
      | none => .nx vs
      | some x => match goV bd (.one x) vs with
        | none => .st
        | some vs1 => aftV vs0 (body vs1) (forVarV vs0 l bd body c (j + 1))
    | _ => .st
def sForVar (l : Nat) (bd : Bd) (body : VF) : VF := fun vs => match vs[l]? with
  | some (.v (.list ds)) => forVarV vs l bd body ds.length 0 vs
  | _ => .st
def forOwnV (vs0 : List VS) (l i : Nat) (body : VF) : Nat → Nat → PyData → List VS → VO
  | 0, j, y, vs => match y with
    | .list ds => if ds.length ≤ j then .nx (vs.set l (.v y)) else .st
    | _ => .st
  | c + 1, j, y, vs => match getAt [(j : Int)] y with
    | none => .st
    | some x => match body (vs.set i (.v x)) with
      | .nx vs' => match vs'[i]? with
        | some (.v x') => forOwnV vs0 l i body c (j + 1) (putAt [(j : Int)] x' y) (resetV vs0 (vs'.set i .un))
        | _ => .st
      | .ct vs' => match vs'[i]? with
        | some (.v x') => forOwnV vs0 l i body c (j + 1) (putAt [(j : Int)] x' y) (resetV vs0 (vs'.set i .un))
        | _ => .st
      | .bk vs' => match vs'[i]? with
        | some (.v x') => .nx ((resetV vs0 (vs'.set i .un)).set l (.v (putAt [(j : Int)] x' y)))
        | _ => .st
      | .rt x => .rt x
      | _ => .st
def sForOwn (l i : Nat) (body : VF) : VF := fun vs => match vs[l]? with
  | some (.v (.list ds)) => forOwnV (vs.set l .un) l i body ds.length 0 (.list ds) (vs.set l .un)
  | _ => .st
def sForF (ge : VE) (bd : Bd) (body : VF) : VF := fun vs => (ge vs).thn vs fun x vs => match x with
  | .list ds => forV vs bd body (ds.map .one) vs
  | _ => .st
def whV (vs0 : List VS) (gt : VT) (body : VF) : Nat → List VS → VO
  | 0, _ => .st
  | k + 1, vs => (gt vs).thn vs fun c vs => if c = true then aftV vs0 (body vs) (whV vs0 gt body k) else .nx vs
def sWhile (fuel : Nat) (gt : VT) (body : VF) : VF := fun vs => whV vs gt body fuel vs
theorem wh_out (R0 : RSt h0 D sl0 vs0 fs0) (ht : TV D ft gt) (hb : SVp D A rb rk f g) : ∀ {c : Nat} {sl : List SV} {vs : List VS} {h : AH} {fs : List (List Nat)}, Good D h0 fs0 h sl vs fs → Keep A sl0 sl → OutS D A rb rk h0 sl0 fs0 (whV vs0 gt g c vs) (whL sl0 h0.length ft f c sl h)
  | 0, sl, vs, h, fs, G, K => trivial
  | c + 1, sl, vs, h, fs, G, K => by
    unfold whV whL
    have o := ht h sl vs fs G.R G.nd
    generalize gt vs = rr at o ⊢
    generalize ft sl h = qq at o ⊢
    cases rr with
    | st => trivial
    | rz cc =>
      obtain ⟨t, rfl⟩ := o
      exact ⟨sl, _, fs, rfl, G.app, K⟩
    | ok x vs' =>
      obtain ⟨rfl, a, t, rfl, e⟩ := o
      subst e
      cases a with
      | false => exact ⟨sl, h ++ t, fs, rfl, G.app, K⟩
      | true => exact aft_out R0 (OutS.pre G.app K (fun _ hi => hi) (hb (h ++ t) sl vs' fs G.R.app G.nd)) fun sl2 vs2 h2 fs2 G2 K2 => wh_out R0 ht hb G2 K2
theorem sv_while {fuel : Nat} (ht : TV D ft gt) (hb : SVp D A rb rk f g) : SVp D A rb rk (Zx.sWhile fuel ft f) (sWhile fuel gt g) := fun h sl vs fs R nd => wh_out R ht hb (Good.refl R nd) Keep.same
def sDStore (i : Nat) (gi ge : VE) : VF := fun vs => (ge vs).thn vs fun x vs => match gi vs with
  | .ok y _ => match keyP y with
    | some key => match vs[i]? with
      | some (.v (.dict ps)) => match toL ps with
        | some l => if l.length < 1000 then .nx (vs.set i (.v (.dict (dK (putL l key x))))) else .st
        | none => .st
      | _ => .st
    | none => .st
  | _ => .st
theorem DV.len {kvs : List (Key × SV)} {l : List (Key × PyData)} {fs : List (List Nat)} (d : DV h b k kvs l fs) : kvs.length = l.length := by
  have := congrArg List.length d.1
  rwa [List.length_map, List.length_map] at this
theorem DV.put0 {s : SV} {x : PyData} (lf : leaf b s x) : ∀ {kvs : List (Key × SV)} {l : List (Key × PyData)} {fs : List (List Nat)} (key : Key), DV h b 0 kvs l fs → DV h b 0 (setS kvs key s) (setL l key x) fs
  | [], [], fs, key, d => d
  | p :: kvs, [], fs, key, d => by cases d.1
  | [], p :: l, fs, key, d => by cases d.1
  | p :: kvs, q :: l, [], key, d => d.2.elim
  | p :: kvs, q :: l, f :: fs, key, ⟨d1, d2, d3⟩ => by
    have e1 : p.1 = q.1 := (List.cons.inj d1).1
    have e2 : kvs.map Prod.fst = l.map Prod.fst := (List.cons.inj d1).2
    obtain ⟨z1, z2⟩ := DV.put0 lf key ⟨e2, d3⟩
    unfold setS setL
    rw [e1]
    by_cases h : q.1 = key
    · rw [if_pos h, if_pos h]
      refine ⟨?_, ⟨d2.1, lf⟩, z2⟩
      rw [List.map_cons, List.map_cons, z1]
    · rw [if_neg h, if_neg h]
      refine ⟨?_, d2, z2⟩
      rw [List.map_cons, List.map_cons, z1, e1]
theorem DV.put {s : SV} {x : PyData} (lf : leaf b s x) {kvs : List (Key × SV)} {l : List (Key × PyData)} {fs : List (List Nat)} (key : Key) (d : DV h b 0 kvs l fs) : ∃ fs', DV h b 0 (putS kvs key s) (putL l key x) fs' := by
  unfold putS putL
  rcases DV.val key d with ⟨z1, z2⟩ | ⟨s', x', f, j, z1, z2, _, _⟩
  · rw [z1, z2]
    refine ⟨fs ++ [[]], ?_, ?_⟩
    · rw [List.map_append, List.map_append, d.1]; rfl
    · rw [List.map_append, List.map_append]
      exact Fa3.app (show Fa3 (RV h b 0) [s] [x] [[]] from ⟨⟨rfl, lf⟩, trivial⟩) d.2
  · rw [z1, z2]
    exact ⟨fs, DV.put0 lf key d⟩
theorem slotD (e : D[i]? = some (b, m + 1)) (R : RSt h D sl vs fs) {l : List (Key × PyData)} (ev : vs[i]? = some (.v (.dict (dK l)))) : ∃ n kvs fl, sl[i]? = some (.r n) ∧ fs[i]? = some (n :: fl.flatten) ∧ h[n]? = some (some (.dct kvs)) ∧ DV h b m kvs l fl := by
  obtain ⟨s, v, f, e1, e2, e3, r⟩ := R.get e
  rw [ev] at e2
  cases e2
  have r : RV h b (m + 1) s (.dict (dK l)) f := r
  unfold RV at r
  rcases r with q | ⟨n', xs, ds', fs, rfl, hn, e, rfl, q⟩ | ⟨n', kvs, ds', fs, rfl, hn, e, rfl, q⟩ | ⟨n', xs, ds', fs, rfl, hn, e, rfl, q⟩ | ⟨n', xs, ds', fs, rfl, hn, e, rfl, q⟩
  · cases q.2.2
  · cases e
  rotate_left
  · cases e
  · exact (dK_tk e).elim
  · have e := PyData.dict.inj e
    have hl := q.len.1
    rw [zip_dK (by rw [List.length_map] at hl ⊢; exact hl)] at e
    have e2 : l = (kvs.map Prod.fst).zip ds' := by
      have := congrArg toL e
      rw [toL_dK, toL_dK] at this
      exact Option.some.inj this
    refine ⟨n', kvs, fs, e1, e3, hn, ?_, ?_⟩
    · rw [e2, List.map_fst_zip (by rw [List.length_map] at hl ⊢; omega)]
    · rw [e2, List.map_snd_zip (by rw [List.length_map] at hl ⊢; omega)]
      exact q
theorem RV.ofD {kvs : List (Key × SV)} {l : List (Key × PyData)} {fl : List (List Nat)} {n : Nat} (hn : h[n]? = some (some (.dct kvs))) (d : DV h b k kvs l fl) : RV h b (k + 1) (.r n) (.dict (dK l)) (n :: fl.flatten) := by
  unfold RV
  refine .inr (.inr (.inl ⟨n, kvs, l.map Prod.snd, fl, rfl, hn, ?_, rfl, d.2⟩))
  rw [d.1, zip_dK (by rw [List.length_map, List.length_map])]
  congr 1
  have : (l.map Prod.fst).zip (l.map Prod.snd) = l := by
    clear hn d
    induction l with
    | nil => rfl
    | cons p l ih => rw [List.map_cons, List.map_cons, List.zip_cons_cons, ih]
  rw [this]
theorem sv_dstore {fi : FE} {gi : VE} (hi : EV D b2 k2 fr2 fi gi) (he : XV D b1 0 fe ge) (e : D[i]? = some (b, 1) := by rfl) (hb : (!b1 || b) = true := by decide) : SVp D [] rb rk (Zx.sDStore (Zx.fVar i) fi fe) (sDStore i gi ge) := by
  intro h sl vs fs R nd
  refine (he h sl vs fs R nd).thn R nd fun x vs1 s h1 fs1 fp G r n1 d o => ?_
  split
  · rename_i y vs2 hy
    split
    · rename_i key hk
      split
      · rename_i ps ev
        split
        · rename_i l hl
          split
          · rename_i hlen
            rw [dK_toL hl] at ev
            obtain ⟨n, kvs, fl, e1, e2, e3, dv⟩ := slotD e G.R ev
            have hv : Zx.fVar i sl h1 = .ok (.r n) h1 := by
              unfold Zx.fVar
              rw [e1]
            show OutS _ _ _ _ _ _ _ _ ((Zx.fVar i sl h1).thn sl fun s' h2 => (fi sl h2).thn sl fun t h3 => match putD s' t s h3 with | some h4 => .nx sl h4 | none => .st)
            rw [hv]
            show OutS _ _ _ _ _ _ _ _ ((fi sl h1).thn sl fun t h3 => match putD (.r n) t s h3 with | some h4 => .nx sl h4 | none => .st)
            have oi := hi h1 sl vs1 fs1 G.R G.nd
            rw [hy] at oi
            obtain ⟨rfl, sy, t2, fy, e4, r4, _, _⟩ := oi
            rw [e4]
            show OutS _ _ _ _ _ _ _ _ (match putD (.r n) sy s (h1 ++ t2) with | some h4 => .nx sl h4 | none => .st)
            have e5 : (h1 ++ t2)[n]? = some (some (.dct kvs)) := by rw [List.getElem?_append_left (List.getElem?_eq_some_iff.mp e3).1, e3]
            have hp : putD (.r n) sy s (h1 ++ t2) = some ((h1 ++ t2).set n (some (.dct (putS kvs key s)))) := by
              unfold putD
              rw [key_rv r4 hk]
              have : dctOf (h1 ++ t2) (.r n) = some kvs := by unfold dctOf; dsimp only; rw [e5]
              rw [this]
              dsimp only
              rw [if_pos (by rw [dv.len]; exact hlen)]
            rw [hp]
            have G2 := G.app (t := t2)
            have dv2 : DV (h1 ++ t2) b 0 kvs l fl := ⟨dv.1, Fa3.imp (cs0 := fl) (fun _ _ _ _ p => RV.app p) (fun _ m => m) dv.2⟩
            obtain ⟨fl', dv3⟩ := DV.put (leaf_bm hb r.2) key dv2
            obtain ⟨nn, dd⟩ := nd_at G.nd e2
            have hlt := (List.getElem?_eq_some_iff.mp e5).1
            have R1 : RSt ((h1 ++ t2).set n (some (.dct (putS kvs key s)))) D sl (vs2.set i .un) (fs1.set i []) := (G2.R.drop i).frame fun a ha => List.getElem?_set_ne fun (e : n = a) => dd n List.mem_cons_self (e ▸ ha)
            have dv4 : DV ((h1 ++ t2).set n (some (.dct (putS kvs key s)))) b 0 (putS kvs key s) (putL l key x) fl' := ⟨dv3.1, Fa3.imp (cs0 := fl') (fun _ _ _ _ p => ⟨p.1, p.2⟩) (fun _ m => m) dv3.2⟩
            have R2 := R1.set (s' := .r n) (v' := .v (.dict (dK (putL l key x)))) (f' := n :: fl'.flatten) e (RV.ofD (by rw [List.getElem?_set_self hlt]) dv4)
            have z0 : fl'.flatten = [] := fa_flat0 dv3.2
            have es : sl.set i (.r n) = sl := by
              obtain ⟨hi, e1⟩ := List.getElem?_eq_some_iff.mp e1
              rw [← e1]; exact List.set_getElem_self hi
            rw [es, List.set_set, List.set_set, z0] at R2
            refine ⟨sl, _, fs1.set i [n], rfl, ⟨R2, nd_set G.nd (by simp) fun a ha z => ?_, fun a ha => ?_, fun a ha hz => ?_, by rw [List.length_set]; exact G2.le⟩, Keep.same⟩
            · rw [List.mem_singleton.mp ha] at z
              exact dd n List.mem_cons_self z
            · rcases mem_set ha with z | z
              · rw [List.mem_singleton.mp z]; exact G.old n (mem_at e2 List.mem_cons_self)
              · exact G.old a (mem_rest z)
            · rw [List.getElem?_set_ne fun e => ?_, G2.fr a ha hz]
              subst e
              rcases G.old n (mem_at e2 List.mem_cons_self) with z | z
              · exact hz z
              · omega
          · trivial
        · trivial
      · trivial
    · trivial
  · trivial
end
end Zx.V
namespace Zx.V
open PySem PySem.Spec L2
section
variable {D : List KD} {A : List Nat} {b b1 b2 b3 fr fr1 : Bool} {k k1 m i l a : Nat} {fa fb : FE} {ga gb : VE} {ta : FT} {ua : VT} {bd : Bd} {slw sl1 sl : List SV} {vw vs1 vs2 vs3 vs : List VS} {fs1 fs : List (List Nat)} {h0 : AH} {vx : List Nat}
theorem lcOne_ok {it : It1} {bb : Bool} {x : PyData} (ego : bd.go it slw = some sl1) (R1 : RSt h0 D sl1 vs1 fs1) (nd1 : fs1.flatten.Nodup) (ht : TV D ta ua) (he : EV D b2 k true fa ga) (hb : (!b2 || b) = true) {acc : List SV} {accv : List PyData} {fps : List (List Nat)} {t : AH}
    (q : Fa3 (RV (h0 ++ [some (.lst acc)] ++ t) b k) acc accv fps) (n : fps.flatten.Nodup) (z : ∀ n ∈ fps.flatten, h0.length + 1 ≤ n) (hl : bb = true → accv.length < 1000000) (e1 : ua vs1 = .ok bb vs2) (e2 : bb = true → ga vs1 = .ok x vs3) :
    ∃ acc' fps' t', (∀ kk, lcOne h0.length bd ta fa slw it (h0 ++ [some (.lst acc)] ++ t) kk = kk (h0 ++ [some (.lst acc')] ++ t')) ∧ Fa3 (RV (h0 ++ [some (.lst acc')] ++ t') b k) acc' (if bb = true then accv ++ [x] else accv) fps' ∧ fps'.flatten.Nodup ∧ ∀ n ∈ fps'.flatten, h0.length + 1 ≤ n := by
  have o1 := ht (h0 ++ [some (.lst acc)] ++ t) sl1 vs1 fs1 (RSt.app (RSt.app R1)) nd1
  rw [e1] at o1
  obtain ⟨rfl, a, t1, ea, e3⟩ := o1
  subst e3
  cases a with
  | false =>
    have q2 : Fa3 (RV (h0 ++ [some (.lst acc)] ++ (t ++ t1)) b k) acc accv fps := by
      rw [← List.append_assoc]
      exact Fa3.imp (cs0 := fps) (fun _ _ _ _ p => RV.app p) (fun _ m => m) q
    obtain ⟨t', et, q3⟩ := lc_turn (slw := slw) q2
    refine ⟨acc, fps, t', fun kk => ?_, by rw [if_neg (by decide)]; exact q3, n, z⟩
    unfold lcOne
    rw [ego]
    dsimp only
    rw [ea]
    show kk (norm [] (h0.length + 1) slw (h0 ++ [some (.lst acc)] ++ t ++ t1)).2 = _
    rw [List.append_assoc (h0 ++ [some (AO.lst acc)]), et]
  | true =>
    have o2 := he (h0 ++ [some (.lst acc)] ++ t ++ t1) sl1 vs2 fs1 (RSt.app (RSt.app (RSt.app R1))) nd1
    rw [e2 rfl] at o2
    obtain ⟨rfl, s, t2, fp, es, r2, n2, z2⟩ := o2
    have hL : (h0 ++ [some (AO.lst acc)] ++ t ++ t1 ++ t2)[h0.length]? = some (some (.lst acc)) := by
      rw [List.append_assoc, List.append_assoc, List.append_assoc, List.getElem?_append_right (Nat.le_refl _), Nat.sub_self]; rfl
    have la := q.len.1
    have hs : (h0 ++ [some (AO.lst acc)] ++ t ++ t1 ++ t2).set h0.length (some (.lst (acc ++ [s]))) = h0 ++ [some (.lst (acc ++ [s]))] ++ (t ++ t1 ++ t2) := by
      rw [List.append_assoc, List.append_assoc, List.append_assoc, List.set_append_right _ _ (Nat.le_refl _), Nat.sub_self]
      simp
    have fz1 : ∀ m, h0.length + 1 ≤ m → (h0 ++ [some (AO.lst (acc ++ [s]))] ++ (t ++ t1 ++ t2))[m]? = (h0 ++ [some (AO.lst acc)] ++ t ++ t1 ++ t2)[m]? := fun m hm => by
      rw [← hs, List.getElem?_set_ne (by omega)]
    have q2 : Fa3 (RV (h0 ++ [some (.lst (acc ++ [s]))] ++ (t ++ t1 ++ t2)) b k) (acc ++ [s]) (accv ++ [x]) (fps ++ [fp]) := by
      have qa : Fa3 (RV (h0 ++ [some (.lst (acc ++ [s]))] ++ (t ++ t1 ++ t2)) b k) acc accv fps := Fa3.imp (cs0 := fps) (fun a0 b0 c hc p => by
        have p2 : RV (h0 ++ [some (AO.lst acc)] ++ t ++ t1 ++ t2) b k a0 b0 c := RV.app (RV.app p)
        exact p2.frame fun m hm => fz1 m (z m (List.mem_flatten.mpr ⟨c, hc, hm⟩))) (fun _ m => m) q
      have qb : Fa3 (RV (h0 ++ [some (.lst (acc ++ [s]))] ++ (t ++ t1 ++ t2)) b k) [s] [x] [fp] := by
        refine ⟨RV.bm hb (r2.frame fun m hm => fz1 m ?_), trivial⟩
        have := z2 rfl m hm
        simp only [List.length_append, List.length_cons, List.length_nil] at this
        omega
      exact Fa3.app qb qa
    have n3 : (fps ++ [fp]).flatten.Nodup := by
      rw [List.flatten_append, List.nodup_append]
      refine ⟨n, by simpa using n2, fun a ha b' hb' e => ?_⟩
      have hb'' : b' ∈ fp := by simpa using hb'
      obtain ⟨c, hc, hm⟩ := List.mem_flatten.mp ha
      obtain ⟨_, _, _, _, p⟩ := Fa3.mem q hc
      have h1 := p.lt a hm
      have h2 := z2 rfl b' hb''
      rw [List.length_append] at h2
      omega
    have z3 : ∀ m ∈ (fps ++ [fp]).flatten, h0.length + 1 ≤ m := fun m hm => by
      rw [List.flatten_append, List.mem_append] at hm
      rcases hm with hm | hm
      · exact z m hm
      · have := z2 rfl m (by simpa using hm)
        simp only [List.length_append, List.length_cons, List.length_nil] at this
        omega
    obtain ⟨t', et, q3⟩ := lc_turn (slw := slw) q2
    refine ⟨acc ++ [s], fps ++ [fp], t', fun kk => ?_, by rw [if_pos rfl]; exact q3, n3, z3⟩
    unfold lcOne
    rw [ego]
    dsimp only
    rw [ea]
    show ((nrz (fa sl1 (h0 ++ [some (.lst acc)] ++ t ++ t1))).bind fun s h2 => lcPut h0.length slw s h2 kk) = _
    rw [es]
    show lcPut h0.length slw s (h0 ++ [some (.lst acc)] ++ t ++ t1 ++ t2) kk = _
    unfold lcPut
    rw [hL]
    dsimp only
    have hl := hl rfl
    rw [if_pos (by omega), hs, et]
def fLcVar (b : Bool) (k : Nat) (l : Nat) (bd : Bd) (gt : VT) (ge : VE) (vx : List Nat) : VE := fun vs => match vs[l]? with
  | some (.v (.list ds)) => lcEnd vs (lcV bd gt ge (wipeV vs vx) (ds.map .one))
  | _ => .st
def fLcEV (b : Bool) (k : Nat) (l : Nat) (bd : Bd) (gt : VT) (ge : VE) (vx : List Nat) : VE := fun vs => match vs[l]? with
  | some (.v (.list ds)) => lcEnd vs (lcV bd gt ge (wipeV vs vx) (enumV 0 ds))
  | _ => .st
def fLcOwn (b : Bool) (k : Nat) (l i : Nat) (gt : VT) (ge : VE) (vx : List Nat) : VE := fun vs => match vs[l]? with
  | some (.v (.list ds)) => lcEnd vs (lcV (.nm i) gt ge (wipeV (vs.set l .un) vx) (ds.map .one))
  | _ => .st
def fLcMv (l a i : Nat) (gt : VT) (vx : List Nat) : VE := fun vs => match vs[l]? with
  | some (.v (.list ds)) => lcEnd (vs.set l .un) (lcV (.tp [a, i]) gt (fVar i) (wipeV (vs.set l .un) vx) (enumV 0 ds))
  | _ => .st
end
end Zx.V
namespace Zx.V
open PySem PySem.Spec L2
mutual
def pureK : Nat → PyData → Bool
  | 0, x => imm x
  | k + 1, .list ds => pureL k ds
  | k + 1, .dict ps => pureD k ps
  | k + 1, .tuple ds => pureL k ds
  | _ + 1, x => imm x
def pureL : Nat → List PyData → Bool
  | _, [] => true
  | k, d :: ds => pureK k d && pureL k ds
def pureD : Nat → List (PyData × PyData) → Bool
  | _, [] => true
  | k, p :: ps => pureK k p.2 && pureD k ps
end
theorem pureD_zip {k : Nat} : ∀ {ks : List Key} {ds : List PyData}, ks.length = ds.length → pureD k (zipD ks ds) = true → pureL k ds = true
  | [], [], _, _ => by unfold pureL; rfl
  | key :: ks, d :: ds, h, e => by
    have e : pureD k ((kD key, d) :: zipD ks ds) = true := e
    unfold pureD at e
    rw [Bool.and_eq_true] at e
    unfold pureL
    rw [e.1, pureD_zip (Nat.succ.inj h) e.2]; rfl
  | [], d :: ds, h, _ => by cases h
  | k :: ks, [], h, _ => by cases h
theorem pureD_zipN {k : Nat} : ∀ {ks : List NestedKey} {ds : List PyData}, ks.length = ds.length → pureD k (zipN ks ds) = true → pureL k ds = true
  | [], [], _, _ => by unfold pureL; rfl
  | key :: ks, d :: ds, h, e => by
    have e : pureD k ((key.data, d) :: zipN ks ds) = true := e
    unfold pureD at e
    rw [Bool.and_eq_true] at e
    unfold pureL
    rw [e.1, pureD_zipN (Nat.succ.inj h) e.2]; rfl
  | [], d :: ds, h, _ => by cases h
  | k :: ks, [], h, _ => by cases h
theorem RV.pure {h : AH} {b : Bool} : ∀ {k : Nat} {s : SV} {x : PyData} {f : List Nat}, RV h b k s x f → pureK k x = true → RV h false k s x f
  | 0, s, x, f, r, c => ⟨r.1, .inl (leaf_imm r.2 (by unfold pureK at c; exact c))⟩
  | k + 1, s, x, f, r, c => by
    have lst : ∀ {xs : List SV} {ds : List PyData} {fs : List (List Nat)}, Fa3 (RV h b k) xs ds fs → pureL k ds = true → Fa3 (RV h false k) xs ds fs := by
      intro xs
      induction xs with
      | nil =>
        intro ds fs q c
        cases ds with
        | nil => cases fs with
          | nil => exact trivial
          | cons f fs => exact q.elim
        | cons d ds => cases fs <;> exact q.elim
      | cons a xs ih =>
        intro ds fs q c
        cases ds with
        | nil => cases fs <;> exact q.elim
        | cons d ds =>
          cases fs with
          | nil => exact q.elim
          | cons f fs =>
            unfold pureL at c
            rw [Bool.and_eq_true] at c
            exact ⟨RV.pure q.1 c.1, ih q.2 c.2⟩
    unfold RV at r ⊢
    rcases r with r | ⟨n, xs, ds, fs, rfl, hn, rfl, rfl, r⟩ | ⟨n, xs, ds, fs, rfl, hn, rfl, rfl, r⟩ | ⟨n, xs, ds, fs, rfl, hn, rfl, rfl, r⟩ | ⟨n, xs, ds, fs, rfl, hn, rfl, rfl, r⟩
    · refine .inl ⟨r.1, .inl (leaf_imm r.2.1 ?_), r.2.2⟩
      cases x with
      | tuple ds =>
        have q : (!immL ds) = false := r.2.2
        unfold Zx.imm
        simpa using q
      | list _ => cases r.2.2
      | dict _ => cases r.2.2
      | _ => exact c
    · exact .inr (.inl ⟨n, xs, ds, fs, rfl, hn, rfl, rfl, lst r (by unfold pureK at c; exact c)⟩)
    · exact .inr (.inr (.inl ⟨n, xs, ds, fs, rfl, hn, rfl, rfl, lst r (pureD_zip (ks := xs.map Prod.fst) (by have := r.len.1; simpa using this) (by unfold pureK at c; exact c))⟩))
    · exact .inr (.inr (.inr (.inl ⟨n, xs, ds, fs, rfl, hn, rfl, rfl, lst r (by unfold pureK at c; exact c)⟩)))
    · exact .inr (.inr (.inr (.inr ⟨n, xs, ds, fs, rfl, hn, rfl, rfl, lst r (pureD_zipN (ks := xs.map Prod.fst) (by have := r.len.1; simpa using this) (by unfold Zx.tkD pureK pureD at c; exact (Bool.and_eq_true_iff.mp c).2))⟩)))
def fPure (k : Nat) (ga : VE) : VE := fun vs => (ga vs).bind fun x vs => if pureK k x = true then .ok x vs else .st
section
variable {D : List KD} {b b1 b2 fr fr1 : Bool} {k k1 k2 i : Nat} {fa fb : FE} {ga gb : VE} {ra : FA} {qa : VA} {ms : List Md}
theorem ev_pure (ha : EV D b k fr fa ga) : EV D false k fr fa (fPure k ga) := by
  intro h sl vs fs R nd
  have o := ha h sl vs fs R nd
  unfold fPure
  generalize ga vs = r at o ⊢
  generalize fa sl h = q at o ⊢
  cases r with
  | ok x vs' =>
    obtain ⟨rfl, s, t, fp, rfl, h3, h4⟩ := o
    show OutE _ _ _ _ _ _ (if pureK k x = true then .ok x vs' else .st) _
    split
    · rename_i c
      exact ⟨rfl, s, t, fp, rfl, h3.pure c, h4⟩
    · trivial
  | rz c => exact o
  | st => trivial
theorem ev_fz0 (ha : EV D false k true fa ga) (hk : k ≤ 9 := by decide) : EV D false 0 fr (Zx.fFz fa) ga := ev_fz ha hk
theorem xv_fz (ha : XV D false k fa ga) (hk : k ≤ 9 := by decide) : XV D false 0 (Zx.fFz fa) ga := by
  intro h sl vs fs R nd
  have o := ha h sl vs fs R nd
  rw [a_fz]
  generalize ga vs = r at o ⊢
  generalize fa sl h = q at o ⊢
  cases r with
  | ok x vs' =>
    obtain ⟨s, h', fs', fp, rfl, G, r3, n4, d5, o6⟩ := o
    obtain ⟨h2, e1, l1, k1⟩ := RV.fz rfl r3 n4 hk (by decide)
    show OutX _ _ _ _ _ _ _ (opt (fzv 9 h' s) (fun p => .ok (.d p.1) (trimE h.length sl p.2)) .st)
    rw [e1]
    show OutX _ _ _ _ _ _ _ (.ok (.d x) (trimE h.length sl h2))
    have G2 : Good D h fs h2 sl vs' fs' := by
      refine ⟨G.R.frame fun n m => k1 n fun z => d5 n z m, G.nd, G.old, fun n hn hm => ?_, by rw [l1]; exact G.le⟩
      rw [k1 n fun z => (o6 n z).elim hm fun w => by omega]
      exact G.fr n hn hm
    have fin : ∀ h3, Good D h fs h3 sl vs' fs' → OutX D false 0 h sl fs (.ok x vs') (.ok (.d x) h3) := fun h3 G3 => ⟨.d x, h3, fs', [], rfl, G3, RV.d, List.nodup_nil, (fun n m => by cases m), (fun n m => by cases m)⟩
    unfold trimE
    split
    · rename_i c
      unfold trimOk at c
      rw [Bool.and_eq_true] at c
      have hb := RSt.below c.1 c.2 G2.R
      refine fin _ ⟨G2.R.frame fun n m => List.getElem?_take_of_lt (hb n m), G2.nd, G2.old, fun n hn hm => ?_, ?_⟩
      · rw [List.getElem?_take_of_lt hn]; exact G2.fr n hn hm
      · rw [List.length_take]; have := G2.le; omega
    · exact fin _ G2
  | rz c =>
    obtain ⟨t, rfl⟩ := o
    exact ⟨t, rfl⟩
  | st => trivial
theorem am_fz (ha : EV D false 0 fr fa ga) (hr : AM D ms ra qa) : AM D (.fz :: ms) (Zx.fCons fa ra) (fCons ga qa) := by
  intro h sl vs fs R nd
  refine (ha h sl vs fs R nd).ep fun x s t f1 r1 n1 _ => ?_
  refine (hr (h ++ t) sl vs fs R.app nd).pp fun xs ss t2 r2 => ?_
  refine ⟨rfl, s :: ss, [], by rw [List.append_nil], fun t3 => ?_⟩
  rcases r1.2 with rfl | ⟨e, _⟩
  · rw [g_cons, g_fz, List.append_nil, o_some, r2 t3]; rfl
  · cases e
def rgV (a b : Int) : List PyData := (List.range (b - a).toNat).map fun i => PyData.int (a + (i : Nat))
def fLrg (a b : Int) (vs : List VS) : VR PyData := if (inB a && inB b && decide ((b - a).toNat ≤ 1000000)) = true then .ok (.list (rgV a b)) vs else .st
def fLrg1 (ga : VE) : VE := fun vs => (ga vs).bind fun x vs => match x with
  | .int j => fLrg 0 j vs
  | _ => .st
theorem fa_rg {h : AH} {a : Int} : ∀ (l : List Nat), Fa3 (RV h b 0) (l.map fun i => SV.d (.int (a + (i : Nat)))) (l.map fun i => PyData.int (a + (i : Nat))) (l.map fun _ => [])
  | [] => trivial
  | i :: l => ⟨⟨rfl, .inl rfl⟩, fa_rg l⟩
theorem lrg_ok {h : AH} {vs : List VS} {i j : Int} : OutE b 1 fr h.length h vs (fLrg i j vs) (if (inB i && inB j && decide ((j - i).toNat ≤ 1000000)) = true then .ok (.r h.length) (h ++ [some (.lst (rgS i j))]) else .st) := by
  unfold fLrg
  split
  · exact fresh_lst (fa_rg (List.range (j - i).toNat))
  · trivial
theorem ev_lrg1 (ha : EV D b1 k1 fr1 fa ga) : EV D b 1 fr (Zx.fLstRg (Zx.fRg1 fa)) (fLrg1 ga) := by
  intro h sl vs fs R nd
  have o := ha h sl vs fs R nd
  unfold fLrg1 Zx.fLstRg Zx.fRg1
  generalize ga vs = r at o ⊢
  generalize fa sl h = q at o ⊢
  cases r with
  | ok x vs' =>
    obtain ⟨rfl, s, t, fp, rfl, h3, h4⟩ := o
    cases x
    case int j =>
      obtain ⟨rfl, _⟩ := h3.imm rfl
      exact (lrg_ok (h := h ++ t) (i := 0) (j := j)).pre.up (by rw [List.length_append]; omega)
    all_goals trivial
  | rz c =>
    obtain ⟨t, rfl⟩ := o
    exact ⟨t, rfl⟩
  | st => trivial
def fDctO (ga gb : VE) : VE := fun vs => (ga vs).bind fun x vs => (gb vs).bind fun y vs => match keyP x with
  | some key => .ok (.dict [(kD key, y)]) vs
  | none => .st
end
theorem law_by {φ : List PyData → Zx.R SV} {u : List PyData → VC} (c : CalV φ 0 u) {ds : List PyData} (e : u ds = .ok (.bool true)) : ∃ h, φ ds = .ok (.d (.bool true)) h := by
  have := c ds
  rw [e] at this
  obtain ⟨s, hn, fp, h1, h2, _⟩ := this
  obtain ⟨rfl, _⟩ := h2.imm rfl
  exact ⟨hn, h1⟩
end Zx.V
namespace Zx.V
open PySem PySem.Spec L2
section
variable {α β : Type}
def gv (o : Option VS) (k : PyData → β) (z : β) : β := match o with
  | some (.v x) => k x
  | _ => z
def gl (x : PyData) (k : List PyData → β) (z : β) : β := match x with
  | .list ds => k ds
  | _ => z
def gn (x : PyData) (k : Int → β) (z : β) : β := match x with
  | .int i => k i
  | _ => z
def rv (r : VR PyData) (k : PyData → β) (z : β) : β := match r with
  | .ok x _ => k x
  | _ => z
theorem gv_v {x : PyData} {k : PyData → β} {z : β} : gv (some (.v x)) k z = k x := (rfl)
theorem gl_l {ds : List PyData} {k : List PyData → β} {z : β} : gl (.list ds) k z = k ds := (rfl)
theorem gn_i {i : Int} {k : Int → β} {z : β} : gn (.int i) k z = k i := (rfl)
theorem rv_k {x : PyData} {vs : List VS} {k : PyData → β} {z : β} : rv (.ok x vs) k z = k x := (rfl)
end
def capp {β : Type} (n : Nat) (x z : β) : β := if n < lim then x else z
theorem capp_ok {β : Type} {n : Nat} {x z : β} (h : n < 1000000) : capp n x z = x := if_pos h
def VO.sq (o : VO) (b : VF) : VO := match o with
  | .nx vs => b vs
  | .rt x => .rt x
  | .bk vs => .bk vs
  | .ct vs => .ct vs
  | .rz c vs => .rz c vs
  | .st => .st
def VO.fin (o : VO) : VC := match o with
  | .rt x => .ok x
  | .nx _ => .ok .none
  | .rz c _ => .rz c
  | _ => .st
section
variable {α β : Type} {a b : VF} {ga gb gc : VE} {ta tb : VT} {qa : VA} {vs vs' : List VS} {x y : PyData} {i j : Nat} {m n : Int} {c : Str} {k : α → List VS → VR β} {ko : α → List VS → VO} {xs ys : List PyData} {u : List PyData → VC} {ms : List Md} {N : Nat} {gt : VT} {bd : Bd} {kk : Nat} {bb : Bool}
theorem t_nx : (VO.nx vs).sq b = b vs := (rfl)
theorem t_rt : (VO.rt x).sq b = .rt x := (rfl)
theorem t_bk : (VO.bk vs).sq b = .bk vs := (rfl)
theorem t_ct : (VO.ct vs).sq b = .ct vs := (rfl)
theorem t_rz : (VO.rz c vs).sq b = .rz c vs := (rfl)
theorem h_rt : (VO.rt x).fin = .ok x := (rfl)
theorem h_nx : (VO.nx vs).fin = .ok .none := (rfl)
theorem h_rz : (VO.rz c vs).fin = .rz c := (rfl)
theorem d_ok {a : α} : (VR.ok a vs).bind k = k a vs := (rfl)
theorem d_rz : (VR.rz c : VR α).bind k = .rz c := (rfl)
theorem d_st : (VR.st : VR α).bind k = .st := (rfl)
theorem e_ok {a : α} : (VR.ok a vs').thn vs ko = ko a vs' := (rfl)
theorem e_rz : (VR.rz c : VR α).thn vs ko = .rz c vs := (rfl)
theorem e_st : (VR.st : VR α).thn vs ko = .st := (rfl)
theorem u_phi {g : VF} {ds : List PyData} : phiV ms N g ds = (g (startV ms ds N)).fin := (rfl)
theorem u_seq : sSeq a b vs = (a vs).sq b := by unfold sSeq VO.sq; cases a vs <;> rfl
theorem u_set : sSet i ga vs = (ga vs).thn vs fun x vs => .nx (vs.set i (.v x)) := (rfl)
theorem u_if : sIf gt a b vs = (gt vs).thn vs fun k vs => if k = true then a vs else b vs := (rfl)
theorem u_expr : sExpr ga vs = (ga vs).thn vs fun _ vs => .nx vs := (rfl)
theorem u_ret : sRet ga vs = (ga vs).thn vs fun x _ => .rt x := (rfl)
theorem u_retN : sRetN vs = .rt .none := (rfl)
theorem u_next : sNext vs = .nx vs := (rfl)
theorem u_break : sBreak vs = .bk vs := (rfl)
theorem u_cont : sCont vs = .ct vs := (rfl)
theorem u_raise : sRaise c vs = .rz c vs := (rfl)
theorem u_setT {is : List Nat} : sSetT is ga vs = (ga vs).thn vs fun x vs => opt (goV (.tp is) (.one x) vs) (fun vs' => .nx vs') .st := by
  unfold sSetT opt
  congr 1
  funext x vs
  cases goV (.tp is) (.one x) vs <;> rfl
theorem u_par : sPar i j qa vs = (qa vs).thn vs fun xs vs => match xs with | [x, y] => .nx ((vs.set i (.v x)).set j (.v y)) | _ => .st := (rfl)
theorem u_var : fVar i vs = gv vs[i]? (fun x => .ok x vs) .st := by
  unfold fVar gv
  rcases vs[i]? with _ | (_ | _ | _ | _) <;> rfl
theorem u_mv : fMv i vs = gv vs[i]? (fun x => .ok x (vs.set i .un)) .st := by
  unfold fMv gv
  rcases vs[i]? with _ | (_ | _ | _ | _) <;> rfl
theorem u_c : fC x vs = .ok x vs := (rfl)
theorem u_bin {g : PyData → PyData → List VS → VR PyData} : fBin g ga gb vs = (ga vs).bind fun x vs => (gb vs).bind fun y vs => g x y vs := (rfl)
theorem u_un {g : PyData → List VS → VR PyData} : fUn g ga vs = (ga vs).bind fun x vs => g x vs := (rfl)
theorem u_tst : fTst ga vs = (ga vs).bind tst := (rfl)
theorem tst_b : tst (.bool bb) vs = .ok bb vs := (rfl)
theorem u_andT : fAndT ta tb vs = (ta vs).bind fun k vs => if k = true then tb vs else .ok false vs := (rfl)
theorem u_orT : fOrT ta tb vs = (ta vs).bind fun k vs => if k = true then .ok true vs else tb vs := (rfl)
theorem u_notT : fNotT ta vs = (ta vs).bind fun k vs => .ok (!k) vs := (rfl)
theorem u_yes : fYes vs = .ok true vs := (rfl)
theorem u_andV : fAndV ga gb vs = (ga vs).bind fun x vs => (tst x vs).bind fun k vs => if k = true then gb vs else .ok (.bool false) vs := (rfl)
theorem u_orV : fOrV ga gb vs = (ga vs).bind fun x vs => (tst x vs).bind fun k vs => if k = true then .ok (.bool true) vs else gb vs := (rfl)
theorem u_notV : fNotV ga vs = (ga vs).bind fun x vs => (tst x vs).bind fun k vs => .ok (.bool (!k)) vs := (rfl)
theorem u_if' : fIf ta ga gb vs = (ta vs).bind fun k vs => if k = true then ga vs else gb vs := (rfl)
theorem u_chain {g g' : PyData → PyData → List VS → VR PyData} : fChain g g' ga gb gc vs = (ga vs).bind fun x vs => (gb vs).bind fun y vs => (g x y vs).bind fun z vs => (tst z vs).bind fun k vs => if k = true then (gc vs).bind fun u vs => g' y u vs else .ok (.bool false) vs := (rfl)
theorem u_nil : fNil vs = .ok [] vs := (rfl)
theorem u_cons : fCons ga qa vs = (ga vs).bind fun x vs => (qa vs).bind fun xs vs => .ok (x :: xs) vs := (rfl)
theorem u_lst : fLst bb kk qa vs = (qa vs).bind fun xs vs => if xs.length ≤ 1000 then .ok (.list xs) vs else .st := (rfl)
theorem u_tup : fTup qa vs = (qa vs).bind fun xs vs => if xs.length ≤ 1000 then .ok (.tuple xs) vs else .st := (rfl)
theorem u_imm : fImm ga vs = (ga vs).bind fun x vs => if imm x = true then .ok x vs else .st := (rfl)
theorem u_pure : fPure kk ga vs = (ga vs).bind fun x vs => if pureK kk x = true then .ok x vs else .st := (rfl)
theorem u_cb {g : List PyData → List VS → VR PyData} : fCB g qa vs = (qa vs).bind fun xs vs => g xs vs := (rfl)
theorem u_call : fCall u qa vs = (qa vs).bind fun ds vs => (u ds).back vs := (rfl)
theorem bk_ok : (VC.ok x).back vs = .ok x vs := (rfl)
theorem bk_rz : (VC.rz c).back vs = .rz c := (rfl)
theorem u_sc : fSc i vs = match vs[i]? with | some (.sc ns) => .ok (.list (ns.map PyData.int)) vs | _ => .st := (rfl)
theorem u_isi {T : String} : fIsi T ga vs = (ga vs).bind fun x vs => opt (tyP x) (fun t => opt (isTy t T) (fun c => .ok (.bool c) vs) .st) .st := by
  unfold fIsi opt
  congr 1
  funext x vs
  cases tyP x with
  | none => rfl
  | some t =>
    dsimp only
    cases isTy t T <;> rfl
theorem o_add : gAdd (.int m) (.int n) vs = .ok (.int (m + n)) vs := (rfl)
theorem o_sub : gSub (.int m) (.int n) vs = .ok (.int (m - n)) vs := (rfl)
theorem o_mul (h : mulB m n = true) : gMul (.int m) (.int n) vs = .ok (.int (m * n)) vs := by
  show (if mulB m n = true then _ else _) = _
  rw [if_pos h]
theorem o_div (h0 : 0 < n) (h1 : n < 340282366920938463463374607431768211456) : gDiv (.int m) (.int n) vs = .ok (.int (m / n)) vs := by
  show (if divB m n = true then _ else _) = _
  rw [if_pos (divB_ok h0 h1)]
theorem o_mod (h0 : 0 < n) : gMod (.int m) (.int n) vs = .ok (.int (m % n)) vs := by
  show (if modB m n = true then _ else _) = _
  rw [if_pos (by unfold modB; exact decide_eq_true h0)]
theorem o_lt : gLt (.int m) (.int n) vs = .ok (.bool (decide (m < n))) vs := (rfl)
theorem o_le : gLe (.int m) (.int n) vs = .ok (.bool (decide (m ≤ n))) vs := (rfl)
theorem o_gt : gGt (.int m) (.int n) vs = .ok (.bool (decide (n < m))) vs := (rfl)
theorem o_ge : gGe (.int m) (.int n) vs = .ok (.bool (decide (n ≤ m))) vs := (rfl)
theorem o_eq : gEq false (.int m) (.int n) vs = .ok (.bool (decide (m = n))) vs := by
  unfold gEq
  simp [nod, shaped_int, PyData.eqv]
  by_cases e : m = n <;> simp [e]
theorem o_ne : gEq true (.int m) (.int n) vs = .ok (.bool (!decide (m = n))) vs := by
  unfold gEq
  simp [nod, shaped_int, PyData.eqv]
  by_cases e : m = n <;> simp [e]
theorem eq_fn {neg : Bool} (fx : Fn 64 x) (fy : Fn 64 y) : gEq neg x y vs = .ok (.bool (neg ^^ PyData.eqv x y)) vs := by
  unfold gEq
  rw [fx.n, fy.n, fx.shaped, fy.shaped]; rfl
theorem eq_same {neg : Bool} (fx : Fn 64 x) : gEq neg x x vs = .ok (.bool (!neg)) vs := by
  rw [eq_fn fx fx, eqv_refl x fx.n]
  cases neg <;> rfl
theorem o_neg : gNeg (.int m) vs = .ok (.int (-m)) vs := (rfl)
theorem o_len : gLen [.list xs] vs = .ok (.int xs.length) vs := (rfl)
theorem o_lent : gLen [.tuple xs] vs = .ok (.int xs.length) vs := (rfl)
theorem o_ix : gIx (.list xs) (.int m) vs = opt (atI xs m) (fun u => .ok u vs) .st := by
  show (match atI xs m with | some u => VR.ok u vs | none => .st) = _
  unfold opt
  cases atI xs m <;> rfl
theorem o_ixt : gIx (.tuple xs) (.int m) vs = opt (atI xs m) (fun u => .ok u vs) .st := by
  show (match atI xs m with | some u => VR.ok u vs | none => .st) = _
  unfold opt
  cases atI xs m <;> rfl
theorem o_ixO : gIxO (.list xs) (.int m) vs = opt (atI xs m) (fun u => .ok u vs) .st := by
  show (match atI xs m with | some u => VR.ok u vs | none => .st) = _
  unfold opt
  cases atI xs m <;> rfl
theorem o_cat (h : xs.length + ys.length < lim) : gCat bb (.list xs) (.list ys) vs = .ok (.list (xs ++ ys)) vs := by
  unfold gCat
  dsimp only
  rw [if_pos h]
theorem o_isN : gIsN x .none vs = .ok (.bool (isNo x)) vs := (rfl)
theorem o_notN : gNotN x .none vs = .ok (.bool (!isNo x)) vs := (rfl)
theorem o_min : gMin2 [.int m, .int n] vs = .ok (.int (if n < m then n else m)) vs := (rfl)
theorem o_max : gMax2 [.int m, .int n] vs = .ok (.int (if n > m then n else m)) vs := (rfl)
theorem o_abs : gAbs [.int m] vs = .ok (.int (if m < 0 then -m else m)) vs := (rfl)
theorem o_int : gInt [.int m] vs = .ok (.int m) vs := (rfl)
theorem o_intb : gInt [.bool bb] vs = .ok (.int (if bb = true then 1 else 0)) vs := (rfl)
theorem o_list : gList [.list xs] vs = .ok (.list xs) vs := (rfl)
theorem o_listt : gList [.tuple xs] vs = .ok (.list xs) vs := (rfl)
theorem o_tuple : gTuple [.list xs] vs = .ok (.tuple xs) vs := (rfl)
theorem o_sum {ns : List Int} : gSum [.list (ns.map PyData.int)] vs = .ok (.int ns.sum) vs := by
  unfold gSum
  dsimp only
  rw [intsD_ok]
theorem boolsD_ok : ∀ bs : List Bool, boolsD (bs.map PyData.bool) = some bs
  | [] => rfl
  | b :: bs => by
    show (boolsD (bs.map PyData.bool)).map (b :: ·) = _
    rw [boolsD_ok bs]; rfl
theorem o_bools {kb : List Bool → Bool} {bs : List Bool} : gBools kb [.list (bs.map PyData.bool)] vs = .ok (.bool (kb bs)) vs := by
  unfold gBools
  dsimp only
  rw [boolsD_ok]
theorem u_dct : fDct bb kk vs = .ok (.dict []) vs := (rfl)
theorem u_din {neg : Bool} : fDIn neg ga gb vs = (ga vs).bind fun x vs => (gb vs).bind fun y vs => dIn neg x y vs := (rfl)
theorem u_dget : fDGet ga gb vs = (ga vs).bind fun x vs => (gb vs).bind fun y vs => dGet x y vs := (rfl)
theorem o_din {neg : Bool} {key : Key} {l : List (Key × PyData)} : dIn neg (kD key) (.dict (dK l)) vs = .ok (.bool (neg ^^ (valL l key).isSome)) vs := by
  unfold dIn
  rw [keyP_kD]
  dsimp only
  rw [toM_dK]
theorem o_lenD {l : List (Key × PyData)} : gLenD [.dict (dK l)] vs = .ok (.int l.length) vs := by
  unfold gLenD
  dsimp only
  rw [toM_dK]
theorem o_dinL {neg : Bool} {key : Key} {l : List (Key × PyData)} : dIn neg (kD key) (lkd (dK l)) vs = .ok (.bool (neg ^^ (valL l key).isSome)) vs := by
  unfold dIn lkd
  rw [keyP_kD]
  dsimp only
  rw [toM_lk]
theorem o_lenDL {l : List (Key × PyData)} : gLenD [lkd (dK l)] vs = .ok (.int l.length) vs := by
  unfold gLenD lkd
  dsimp only
  rw [toM_lk]
theorem p_var : pVar vs = some [] := (rfl)
theorem p_ix {gp : VP} : pIx gp ga vs = opt (gp vs) (fun js => rv (ga vs) (fun x => gn x (fun j => some (js ++ [j])) none) none) none := by
  unfold pIx opt rv gn
  cases gp vs with
  | none => rfl
  | some js =>
    cases ga vs with
    | ok x vs' => cases x <;> rfl
    | rz c => rfl
    | st => rfl
theorem u_store {gp : VP} {gi ge : VE} : sStore i gp gi ge vs = (ge vs).thn vs fun x vs => opt (gp vs) (fun js => rv (gi vs) (fun w => gn w (fun j => gv vs[i]? (fun y => opt (getAt js y) (fun z => gl z (fun ds => opt (ixN ds.length j) (fun p => .nx (vs.set i (.v (putAt js (.list (ds.set p x)) y)))) .st) .st) .st) .st) .st) .st) .st := by
  unfold sStore opt rv gn gv gl
  congr 1
  funext x vs
  cases gp vs with
  | none => rfl
  | some js =>
    cases gi vs with
    | rz c => rfl
    | st => rfl
    | ok w vs' =>
      cases w <;> try rfl
      rename_i j
      rcases vs[i]? with _ | (_ | y | _ | _) <;> try rfl
      dsimp only
      cases getAt js y with
      | none => rfl
      | some z =>
        cases z <;> try rfl
        rename_i ds
        dsimp only
        cases ixN ds.length j <;> rfl
theorem u_augS {f : Int → Int → Int} {gp : VP} {gi ge : VE} : sAugS f i gp gi ge vs = opt (gp vs) (fun js => rv (gi vs) (fun w => gn w (fun j => gv vs[i]? (fun y => opt (getAt js y) (fun z => gl z (fun ds => opt (ixN ds.length j) (fun p => opt ds[p]? (fun d => gn d (fun a => rv (ge vs) (fun e => gn e (fun c => .nx (vs.set i (.v (putAt js (.list (ds.set p (.int (f a c)))) y)))) .st) .st) .st) .st) .st) .st) .st) .st) .st) .st) .st := by
  unfold sAugS opt rv gn gv gl
  cases gp vs with
  | none => rfl
  | some js =>
    cases gi vs with
    | rz c => rfl
    | st => rfl
    | ok w vs' =>
      cases w <;> try rfl
      rename_i j
      rcases vs[i]? with _ | (_ | y | _ | _) <;> try rfl
      dsimp only
      cases getAt js y with
      | none => rfl
      | some z =>
        cases z <;> try rfl
        rename_i ds
        dsimp only
        cases ixN ds.length j with
        | none => rfl
        | some p =>
          dsimp only
          cases ds[p]? with
          | none => rfl
          | some d =>
            cases d <;> try rfl
            dsimp only
            cases ge vs with
            | rz c => rfl
            | st => rfl
            | ok e vs2 => cases e <;> rfl
theorem u_app : fApp i ga vs = gv vs[i]? (fun y => gl y (fun _ => (ga vs).bind fun x vs1 => gv vs1[i]? (fun y => gl y (fun ds => capp ds.length (.ok .none (vs1.set i (.v (.list (ds ++ [x]))))) .st) .st) .st) .st) .st := by
  unfold fApp gv gl capp
  rcases vs[i]? with _ | (_ | y | _ | _) <;> try rfl
  cases y <;> try rfl
  dsimp only
  congr 1
  funext x vs1
  rcases vs1[i]? with _ | (_ | z | _ | _) <;> try rfl
  cases z <;> rfl
theorem u_mt {gp : VP} {kV : List PyData → List PyData → Option (List PyData × PyData)} : fMt i gp kV qa vs = gv vs[i]? (fun x => opt (gp vs) (fun js => opt (getAt js x) (fun z => gl z (fun ds => (qa vs).bind fun as vs => opt (kV ds as) (fun p => .ok p.2 (vs.set i (.v (putAt js (.list p.1) x)))) .st) .st) .st) .st) .st := by
  unfold fMt gv gl opt
  rcases vs[i]? with _ | (_ | y | _ | _) <;> try rfl
  cases gp vs with
  | none => rfl
  | some js =>
    dsimp only
    cases getAt js y with
    | none => rfl
    | some z =>
      cases z <;> try rfl
      dsimp only
      congr 1
      funext as vs
      cases kV _ as <;> rfl
theorem ge_nil : getAt [] x = some x := (rfl)
theorem ge_c {js : List Int} : getAt (m :: js) (.list xs) = opt (atI xs m) (getAt js) none := by
  show (match atI xs m with | some d => getAt js d | none => none) = _
  unfold opt
  cases atI xs m <;> rfl
theorem pt_nil : putAt [] y x = y := (rfl)
theorem u_dstore {gi ge : VE} : sDStore i gi ge vs = (ge vs).thn vs fun x vs => rv (gi vs) (fun y => opt (keyP y) (fun key => gv vs[i]? (fun z => match z with | .dict ps => opt (toL ps) (fun l => if l.length < 1000 then .nx (vs.set i (.v (.dict (dK (putL l key x))))) else .st) .st | _ => .st) .st) .st) .st := by
  unfold sDStore opt rv gv
  congr 1
  funext x vs
  cases gi vs with
  | rz c => rfl
  | st => rfl
  | ok y vs' =>
    dsimp only
    cases keyP y with
    | none => rfl
    | some key =>
      dsimp only
      rcases vs[i]? with _ | (_ | z | _ | _) <;> try rfl
      cases z <;> try rfl
      dsimp only
      cases toL _ <;> rfl
theorem u_aug {g : PyData → PyData → List VS → VR PyData} : sAug i g ga vs = gv vs[i]? (fun x => (ga vs).thn vs fun y vs => match g x y vs with | .ok z vs => .nx (vs.set i (.v z)) | _ => .st) .st := by
  unfold sAug gv
  rcases vs[i]? with _ | (_ | y | _ | _) <;> rfl
def rngq (ds : List PyData) (vs : List VS) : VR (List VI) := match ds with
  | [.int j] => if inB j = true then .ok (rngV 0 j.toNat) vs else .st
  | _ => .st
def rngq2 (ds : List PyData) (vs : List VS) : VR (List VI) := match ds with
  | [.int i, .int j] => if (inB i && inB j) = true then .ok (rngV i (j - i).toNat) vs else .st
  | _ => .st
theorem u_irng : iRng qa vs = (qa vs).bind rngq := (rfl)
theorem u_irng2 : iRng2 qa vs = (qa vs).bind rngq2 := (rfl)
theorem g1_ok (h0 : -1000000000 ≤ m) (h1 : m ≤ 1000000000) : rngq [.int m] vs = .ok (rngV 0 m.toNat) vs := by
  unfold rngq
  simp only [inB_lt h0 h1, if_true]
theorem g2_ok (h0 : -1000000000 ≤ m) (h1 : m ≤ 1000000000) (h2 : -1000000000 ≤ n) (h3 : n ≤ 1000000000) : rngq2 [.int m, .int n] vs = .ok (rngV m (n - m).toNat) vs := by
  unfold rngq2
  simp only [inB_lt h0 h1, inB_lt h2 h3, Bool.and_self, if_true]
theorem u_iseq : iSeq ga vs = (ga vs).bind fun x vs => gl x (fun ds => .ok (ds.map .one) vs) .st := by
  unfold iSeq gl
  congr 1
theorem u_itup : iTupl ga vs = (ga vs).bind fun x vs => match x with | .tuple ds => .ok (ds.map .one) vs | _ => .st := (rfl)
theorem u_ienu : iEnu qa vs = (qa vs).bind fun ds vs => match ds with | [.list xs] => .ok (enumV 0 xs) vs | _ => .st := (rfl)
theorem u_izip : iZip qa vs = (qa vs).bind fun ds vs => match ds with | [.list xs, .list ys] => .ok (zipV xs ys) vs | _ => .st := (rfl)
theorem rng_len {lo : Int} {n : Nat} : (rngV lo n).length = n := by unfold rngV; rw [List.length_map, List.length_range]
theorem u_for {gi : VSr} : sFor gi bd a vs = (gi vs).thn vs fun l vs => forV vs bd a l vs := (rfl)
theorem u_forVar : sForVar i bd a vs = gv vs[i]? (fun y => gl y (fun ds => forVarV vs i bd a ds.length 0 vs) .st) .st := by
  unfold sForVar gv gl
  rcases vs[i]? with _ | (_ | y | _ | _) <;> try rfl
  cases y <;> rfl
theorem u_forOwn : sForOwn i j a vs = gv vs[i]? (fun y => gl y (fun ds => forOwnV (vs.set i .un) i j a ds.length 0 (.list ds) (vs.set i .un)) .st) .st := by
  unfold sForOwn gv gl
  rcases vs[i]? with _ | (_ | y | _ | _) <;> try rfl
  cases y <;> rfl
theorem u_forF : sForF ga bd a vs = (ga vs).thn vs fun x vs => gl x (fun ds => forV vs bd a (ds.map .one) vs) .st := by
  unfold sForF gl
  congr 1
theorem u_while {fuel : Nat} : sWhile fuel gt a vs = whV vs gt a fuel vs := (rfl)
theorem u_lc {gi : VSr} {vx : List Nat} : fLc bb kk gi bd gt ga vx vs = (gi vs).bind fun its vs => lcEnd vs (lcV bd gt ga (wipeV vs vx) its) := (rfl)
theorem u_lcVar {vx : List Nat} : fLcVar bb kk i bd gt ga vx vs = gv vs[i]? (fun y => gl y (fun ds => lcEnd vs (lcV bd gt ga (wipeV vs vx) (ds.map .one))) .st) .st := by
  unfold fLcVar gv gl
  rcases vs[i]? with _ | (_ | y | _ | _) <;> try rfl
  cases y <;> rfl
theorem u_lcEV {vx : List Nat} : fLcEV bb kk i bd gt ga vx vs = gv vs[i]? (fun y => gl y (fun ds => lcEnd vs (lcV bd gt ga (wipeV vs vx) (enumV 0 ds))) .st) .st := by
  unfold fLcEV gv gl
  rcases vs[i]? with _ | (_ | y | _ | _) <;> try rfl
  cases y <;> rfl
theorem u_lcOwn {vx : List Nat} : fLcOwn bb kk i j gt ga vx vs = gv vs[i]? (fun y => gl y (fun ds => lcEnd vs (lcV (.nm j) gt ga (wipeV (vs.set i .un) vx) (ds.map .one))) .st) .st := by
  unfold fLcOwn gv gl
  rcases vs[i]? with _ | (_ | y | _ | _) <;> try rfl
  cases y <;> rfl
theorem u_lcMv {l p q : Nat} {vx : List Nat} : fLcMv l p q gt vx vs = gv vs[l]? (fun y => gl y (fun ds => lcEnd (vs.set l .un) (lcV (.tp [p, q]) gt (fVar q) (wipeV (vs.set l .un) vx) (enumV 0 ds))) .st) .st := by
  unfold fLcMv gv gl
  rcases vs[l]? with _ | (_ | y | _ | _) <;> try rfl
  cases y <;> rfl
theorem lcEnd_some {out : List PyData} (h : out.length ≤ 1000000) : lcEnd vs (some out) = .ok (.list out) vs := by
  unfold lcEnd
  dsimp only
  rw [if_pos h]
theorem f_nx {vs0 : List VS} {K : List VS → VO} : aftV vs0 (.nx vs) K = K (resetV vs0 vs) := (rfl)
theorem f_ct {vs0 : List VS} {K : List VS → VO} : aftV vs0 (.ct vs) K = K (resetV vs0 vs) := (rfl)
theorem f_bk {vs0 : List VS} {K : List VS → VO} : aftV vs0 (.bk vs) K = .nx (resetV vs0 vs) := (rfl)
theorem f_rt {vs0 : List VS} {K : List VS → VO} : aftV vs0 (.rt x) K = .rt x := (rfl)
theorem f_rz {vs0 : List VS} {K : List VS → VO} : aftV vs0 (.rz c vs) K = .rz c vs := (rfl)
theorem rs_un {v : VS} : resetV (.un :: vs) (v :: vs') = .un :: resetV vs vs' := (rfl)
theorem rs_v {v : VS} : resetV (.v x :: vs) (v :: vs') = v :: resetV vs vs' := (rfl)
theorem rs_sc {v : VS} {ns : List Int} : resetV (.sc ns :: vs) (v :: vs') = v :: resetV vs vs' := (rfl)
theorem rs_nil : resetV [] vs = vs := by unfold resetV; rfl
end
section
variable {bd : Bd} {body : VF} {vs0 : List VS} {gt : VT} {ge : VE} {vw : List VS}
def turnV (vs0 : List VS) (bd : Bd) (body : VF) (it : VI) (vs : List VS) (K : List VS → VO) : VO := match goV bd it vs with
  | none => .st
  | some vs1 => aftV vs0 (body vs1) K
theorem for_c {it : VI} {its : List VI} {vs : List VS} : forV vs0 bd body (it :: its) vs = turnV vs0 bd body it vs (forV vs0 bd body its) := (rfl)
theorem for_inv {P : Nat → List VS → Prop} : ∀ {its : List VI} {i : Nat} {vs : List VS}, P i vs → (∀ (j : Nat) (it : VI) (vs : List VS), its[j]? = some it → P (i + j) vs → ∃ vs', P (i + j + 1) vs' ∧ ∀ K, turnV vs0 bd body it vs K = K vs') → ∃ vs', P (i + its.length) vs' ∧ forV vs0 bd body its vs = .nx vs'
  | [], i, vs, p, _ => ⟨vs, p, rfl⟩
  | it :: its, i, vs, p, h => by
    obtain ⟨vs1, p1, e1⟩ := h 0 it vs rfl p
    obtain ⟨vs2, p2, e2⟩ := for_inv (i := i + 1) p1 fun j it vs e q => by
      obtain ⟨vs', q', e'⟩ := h (j + 1) it vs e (by rw [show i + (j + 1) = i + 1 + j from by omega]; exact q)
      exact ⟨vs', by rw [show i + 1 + j + 1 = i + (j + 1) + 1 from by omega]; exact q', e'⟩
    refine ⟨vs2, by rw [List.length_cons, show i + (its.length + 1) = i + 1 + its.length from by omega]; exact p2, ?_⟩
    rw [for_c, e1, e2]
theorem for_ret {Q : VI → Prop} {vs : List VS} {x : PyData} : ∀ {its : List VI}, (∀ it ∈ its, (Q it ∧ ∀ K, turnV vs0 bd body it vs K = .rt x) ∨ (¬ Q it ∧ ∀ K, turnV vs0 bd body it vs K = K vs)) → ((∃ it ∈ its, Q it) ∧ forV vs0 bd body its vs = .rt x) ∨ ((∀ it ∈ its, ¬ Q it) ∧ forV vs0 bd body its vs = .nx vs)
  | [], _ => .inr ⟨(fun it m => by cases m), rfl⟩
  | it :: its, h => by
    rcases h it List.mem_cons_self with ⟨q, e⟩ | ⟨q, e⟩
    · exact .inl ⟨⟨it, List.mem_cons_self, q⟩, by rw [for_c, e]⟩
    · rcases for_ret fun it m => h it (List.mem_cons_of_mem _ m) with ⟨⟨it', m, q'⟩, e'⟩ | ⟨q', e'⟩
      · exact .inl ⟨⟨it', List.mem_cons_of_mem _ m, q'⟩, by rw [for_c, e, e']⟩
      · refine .inr ⟨fun it' m => ?_, by rw [for_c, e, e']⟩
        rcases List.mem_cons.mp m with rfl | m
        · exact q
        · exact q' it' m
theorem for_still {vs : List VS} {its : List VI} (h : ∀ it ∈ its, ∀ K, turnV vs0 bd body it vs K = K vs) : forV vs0 bd body its vs = .nx vs := by
  rcases for_ret (Q := fun _ => False) (x := .none) fun it m => .inr ⟨id, h it m⟩ with ⟨⟨_, _, z⟩, _⟩ | ⟨_, e⟩
  · exact z.elim
  · exact e
def lc1 (bd : Bd) (gt : VT) (ge : VE) (vw : List VS) (it : VI) : Option (Option PyData) := match goV bd it vw with
  | none => none
  | some vs1 => match gt vs1 with
    | .ok true _ => rv (ge vs1) (fun x => some (some x)) none
    | .ok false _ => some none
    | _ => none
theorem fm_some {α γ : Type} {f : α → γ} : ∀ l : List α, l.filterMap (fun x => some (f x)) = l.map f
  | [] => rfl
  | a :: l => by rw [List.filterMap_cons, List.map_cons, fm_some l]
theorem lc_rng {lo : Int} {n : Nat} {o : Nat → Option PyData} (h : ∀ i, i < n → lc1 bd gt ge vw (.one (.int (lo + (i : Nat)))) = some (o i)) : lcV bd gt ge vw (rngV lo n) = some ((List.range n).filterMap o) := by
  have key : ∀ l : List Nat, (∀ i ∈ l, lc1 bd gt ge vw (.one (.int (lo + (i : Nat)))) = some (o i)) → lcV bd gt ge vw (l.map fun i => .one (.int (lo + (i : Nat)))) = some (l.filterMap o) := by
    intro l hl
    have : ∀ l : List Nat, (∀ i ∈ l, lc1 bd gt ge vw (.one (.int (lo + (i : Nat)))) = some (o i)) → lcV bd gt ge vw (l.map fun i => .one (.int (lo + (i : Nat)))) = some (l.filterMap o) := by
      intro l
      induction l with
      | nil => intro _; rfl
      | cons a l ih =>
        intro h
        have e := h a List.mem_cons_self
        have r := ih fun i m => h i (List.mem_cons_of_mem _ m)
        rw [List.map_cons]
        unfold lcV
        unfold lc1 at e
        split at e
        · cases e
        · rename_i vs1 hg
          try rw [hg]
          try dsimp only
          split at e
          · rename_i v2 ht
            try rw [ht]
            try dsimp only
            unfold rv at e
            split at e
            · rename_i x v3 hx
              try rw [hx]
              try dsimp only
              rw [r]
              try dsimp only
              have e := Option.some.inj e
              rw [List.filterMap_cons, ← e]
            · cases e
          · rename_i v2 ht
            try rw [ht]
            try dsimp only
            rw [r]
            have e := Option.some.inj e
            rw [List.filterMap_cons, ← e]
          · cases e
    exact this l hl
  exact key _ fun i m => h i (List.mem_range.mp m)
theorem lc_rmap {lo : Int} {n : Nat} {o : Nat → PyData} (h : ∀ i, i < n → lc1 bd gt ge vw (.one (.int (lo + (i : Nat)))) = some (some (o i))) : lcV bd gt ge vw (rngV lo n) = some ((List.range n).map o) := by
  rw [lc_rng (o := fun i => some (o i)) h, fm_some]
def rt {β : Type} (r : VR Bool) (k : Bool → β) (z : β) : β := match r with
  | .ok b _ => k b
  | _ => z
theorem rt_k {β : Type} {b : Bool} {vs : List VS} {k : Bool → β} {z : β} : rt (.ok b vs) k z = k b := (rfl)
theorem lc1_eq {it : VI} : lc1 bd gt ge vw it = opt (goV bd it vw) (fun vs1 => rt (gt vs1) (fun b => if b = true then rv (ge vs1) (fun x => some (some x)) none else some none) none) none := by
  unfold lc1 opt rt
  cases goV bd it vw with
  | none => rfl
  | some vs1 =>
    dsimp only
    cases gt vs1 with
    | ok b v => cases b <;> rfl
    | rz c => rfl
    | st => rfl
theorem turn_eq {it : VI} {vs : List VS} {K : List VS → VO} : turnV vs0 bd body it vs K = opt (goV bd it vs) (fun vs1 => aftV vs0 (body vs1) K) .st := by
  unfold turnV opt
  cases goV bd it vs <;> rfl
theorem lc_list {α : Type} {w : α → VI} {o : α → Option PyData} : ∀ (l : List α), (∀ a ∈ l, lc1 bd gt ge vw (w a) = some (o a)) → lcV bd gt ge vw (l.map w) = some (l.filterMap o)
  | [], _ => rfl
  | a :: l, h => by
    have r := lc_list l fun a m => h a (List.mem_cons_of_mem _ m)
    have e := h a List.mem_cons_self
    rw [List.map_cons, List.filterMap_cons]
    unfold lcV
    unfold lc1 at e
    split at e
    · cases e
    · rename_i vs1 hg
      try rw [hg]
      try dsimp only
      split at e
      · rename_i v2 ht
        try rw [ht]
        try dsimp only
        unfold rv at e
        split at e
        · rename_i x v3 hx
          try rw [hx]
          try dsimp only
          rw [r]
          try dsimp only
          have e := Option.some.inj e
          rw [← e]
        · cases e
      · rename_i v2 ht
        try rw [ht]
        try dsimp only
        rw [r]
        have e := Option.some.inj e
        rw [← e]
      · cases e
theorem lc_lmap {α : Type} {w : α → VI} {o : α → PyData} {l : List α} (h : ∀ a ∈ l, lc1 bd gt ge vw (w a) = some (some (o a))) : lcV bd gt ge vw (l.map w) = some (l.map o) := by
  rw [lc_list l (o := fun a => some (o a)) h, fm_some]
theorem at_rng {α : Type} {F : Nat → α} {p n : Nat} (h : p < n) : atI ((List.range n).map F) (p : Int) = some (F p) := by
  rw [atI_0 (by omega), List.getElem?_map, Int.toNat_natCast, List.getElem?_range h]; rfl
theorem o_dini {neg : Bool} {m : Int} {l : List (Key × PyData)} {vs : List VS} : dIn neg (.int m) (.dict (dK l)) vs = .ok (.bool (neg ^^ (valL l (.inl m)).isSome)) vs := o_din (key := .inl m)
theorem flatL_ints : ∀ l : List Int, flatL ((l.map PyData.int).map SV.d) = some (l.map V.int)
  | [] => rfl
  | a :: l => by
    show (match flatL ((l.map PyData.int).map SV.d) with | some vs => some (V.int a :: vs) | none => none) = _
    rw [flatL_ints l]; rfl
theorem inV_ints {m : Int} : ∀ l : List Int, inV (.int m) (l.map V.int) = decide (m ∈ l)
  | [] => rfl
  | a :: l => by
    have ih := inV_ints (m := m) l
    unfold inV at ih ⊢
    rw [List.map_cons, List.any_cons, ih]
    show ((a == m) || decide (m ∈ l)) = _
    by_cases h : a = m
    · subst h; simp
    · have h2 : m ≠ a := fun e => h e.symm
      simp [h, h2]
theorem o_in {neg : Bool} {m : Int} {l : List Int} {vs : List VS} : gIn neg (.int m) (.list (l.map PyData.int)) vs = .ok (.bool (if neg then !decide (m ∈ l) else decide (m ∈ l))) vs := by
  show (match flatL ((l.map PyData.int).map SV.d) with | some us => VR.ok (PyData.bool (if neg then !inV (.int m) us else inV (.int m) us)) vs | none => VR.st) = _
  rw [flatL_ints]
  dsimp only
  rw [inV_ints]
theorem rng_mem {lo : Int} {n : Nat} {it : VI} (h : it ∈ rngV lo n) : ∃ i, i < n ∧ it = .one (.int (lo + (i : Nat))) := by
  obtain ⟨i, hi, rfl⟩ := List.mem_map.mp h
  exact ⟨i, List.mem_range.mp hi, rfl⟩
end
end Zx.V
namespace Zx.V
open PySem PySem.Spec L2
theorem leaf_noEx {b : Bool} {s : SV} {x : PyData} (l : leaf b s x) : noEx s = true := by
  rcases l with rfl | ⟨_, rfl⟩
  · rfl
  · unfold mkv; split <;> rfl
theorem RV.noEx {h : AH} {b : Bool} {k : Nat} {s : SV} {x : PyData} {f : List Nat} (r : RV h b k s x f) : Zx.noEx s = true := by
  cases k with
  | zero => exact leaf_noEx r.2
  | succ k =>
    unfold RV at r
    rcases r with r | ⟨n, xs, ds, fs, rfl, _⟩ | ⟨n, xs, ds, fs, rfl, _⟩ | ⟨n, xs, ds, fs, rfl, _⟩ | ⟨n, xs, ds, fs, rfl, _⟩
    · exact leaf_noEx r.2.1
    · rfl
    · rfl
    · rfl
    · rfl
theorem fa3_noEx {h : AH} {b : Bool} {k : Nat} : ∀ {xs : List SV} {ds : List PyData} {fs : List (List Nat)}, Fa3 (RV h b k) xs ds fs → xs.all Zx.noEx = true
  | [], [], [], _ => rfl
  | a :: as, d :: ds, f :: fs, ⟨r, q⟩ => by rw [List.all_cons, RV.noEx r, fa3_noEx q]; rfl
  | [], [], c :: cs, h => h.elim
  | [], b :: bs, [], h => h.elim
  | [], b :: bs, c :: cs, h => h.elim
  | a :: as, [], [], h => h.elim
  | a :: as, [], c :: cs, h => h.elim
  | a :: as, b :: bs, [], h => h.elim
theorem RV.cell {h : AH} {b : Bool} : ∀ {k : Nat} {s : SV} {x : PyData} {f : List Nat}, RV h b k s x f → ∀ n ∈ f, ∃ o, h[n]? = some o ∧ noExO o = true
  | 0, s, x, f, r, n, m => by rw [r.1] at m; cases m
  | k + 1, s, x, f, r, n, m => by
    unfold RV at r
    rcases r with r | ⟨n', xs, ds, fs, rfl, hn, rfl, rfl, r⟩ | ⟨n', xs, ds, fs, rfl, hn, rfl, rfl, r⟩ | ⟨n', xs, ds, fs, rfl, hn, rfl, rfl, r⟩ | ⟨n', xs, ds, fs, rfl, hn, rfl, rfl, r⟩
    · rw [r.1] at m; cases m
    · rcases List.mem_cons.mp m with rfl | m
      · exact ⟨_, hn, fa3_noEx r⟩
      · obtain ⟨l, hl, hm⟩ := List.mem_flatten.mp m
        obtain ⟨a, d, _, _, p⟩ := Fa3.mem r hl
        exact RV.cell p n hm
    · rcases List.mem_cons.mp m with rfl | m
      · exact ⟨_, hn, fa3_noEx r⟩
      · obtain ⟨l, hl, hm⟩ := List.mem_flatten.mp m
        obtain ⟨a, d, _, _, p⟩ := Fa3.mem r hl
        exact RV.cell p n hm
    · rcases List.mem_cons.mp m with rfl | m
      · exact ⟨_, hn.1, fa3_noEx r⟩
      · obtain ⟨l, hl, hm⟩ := List.mem_flatten.mp m
        obtain ⟨a, d, _, _, p⟩ := Fa3.mem r hl
        exact RV.cell p n hm
    · rcases List.mem_cons.mp m with rfl | m
      · exact ⟨_, hn.1, fa3_noEx r⟩
      · obtain ⟨l, hl, hm⟩ := List.mem_flatten.mp m
        obtain ⟨a, d, _, _, p⟩ := Fa3.mem r hl
        exact RV.cell p n hm
theorem RV.c1 {h : AH} {b q : Bool} {k : Nat} {s : SV} {x : PyData} {f : List Nat} (r : RV h b k s x f) : Zx.c1 q s = s := by
  unfold Zx.c1; split
  · exact clnS_ok r.noEx
  · rfl
def clnV : VS → VS
  | .ex _ => .un
  | v => v
def endedAs (i : Nat) (o : VO) : VO := match o with
  | .nx vs => .nx ((vs.set i .un).map clnV)
  | .bk vs => .bk ((vs.set i .un).map clnV)
  | .ct vs => .ct ((vs.set i .un).map clnV)
  | .rt x => .rt x
  | _ => .st
def endedO (o : VO) : VO := match o with
  | .nx vs => .nx (vs.map clnV)
  | .bk vs => .bk (vs.map clnV)
  | .ct vs => .ct (vs.map clnV)
  | .rt x => .rt x
  | _ => .st
def sTryAs (i : Nat) (k : Str → Option Bool) (gb : VF) (gh : Str → VF) : VF := fun vs => match gb vs with
  | .rz c vs1 => match k c with
    | some true => endedAs i (gh c (vs1.set i (.ex c)))
    | some false => .rz c vs1
    | none => .st
  | o => o
def sTryO (k : Str → Option Bool) (gb : VF) (gh : Str → VF) : VF := fun vs => match gb vs with
  | .rz c vs1 => match k c with
    | some true => endedO (gh c vs1)
    | some false => .rz c vs1
    | none => .st
  | o => o
section
variable {D : List KD} {A A1 A2 : List Nat} {rb : Bool} {rk : Nat} {i : Nat} {kd : KD} {fb : FS} {gb : VF} {fh : Str → FS} {gh : Str → VF} {kk : Str → Option Bool}
def fExI (ob : Option Bool) (i : Nat) : VE := fun vs => match vs[i]? with
  | some (.ex _) => match ob with
    | some b => .ok (.bool b) vs
    | none => .st
  | _ => .st
def gLRev : PyData → List VS → VR PyData := fun x vs => match x with
  | .list ds => .ok (.list ds.reverse) vs
  | _ => .st
theorem Fa3.rev {α β γ : Type} {P : α → β → γ → Prop} : ∀ {as : List α} {bs : List β} {cs : List γ}, Fa3 P as bs cs → Fa3 P as.reverse bs.reverse cs.reverse
  | [], [], [], _ => trivial
  | a :: as, b :: bs, c :: cs, ⟨h, r⟩ => by
    rw [List.reverse_cons, List.reverse_cons, List.reverse_cons]
    exact Fa3.app (show Fa3 P [a] [b] [c] from ⟨h, trivial⟩) (Fa3.rev r)
  | [], [], c :: cs, h => h.elim
  | [], b :: bs, [], h => h.elim
  | [], b :: bs, c :: cs, h => h.elim
  | a :: as, [], [], h => h.elim
  | a :: as, [], c :: cs, h => h.elim
  | a :: as, b :: bs, [], h => h.elim
end
section
variable {i : Nat} {k : Str → Option Bool} {gb : VF} {gh : Str → VF} {vs : List VS} {c : Str} {b : Bool} {x : PyData} {ds : List PyData}
def VO.tryA (i : Nat) (k : Str → Option Bool) (gh : Str → VF) (o : VO) : VO := match o with
  | .rz c vs1 => match k c with
    | some true => endedAs i (gh c (vs1.set i (.ex c)))
    | some false => .rz c vs1
    | none => .st
  | o => o
def VO.tryO (k : Str → Option Bool) (gh : Str → VF) (o : VO) : VO := match o with
  | .rz c vs1 => match k c with
    | some true => endedO (gh c vs1)
    | some false => .rz c vs1
    | none => .st
  | o => o
theorem u_tryAs : sTryAs i k gb gh vs = VO.tryA i k gh (gb vs) := by
  unfold sTryAs VO.tryA
  generalize gb vs = o
  cases o <;> rfl
theorem u_tryO : sTryO k gb gh vs = VO.tryO k gh (gb vs) := by
  unfold sTryO VO.tryO
  generalize gb vs = o
  cases o <;> rfl
theorem tA_nx : VO.tryA i k gh (.nx vs) = .nx vs := (rfl)
theorem tA_bk : VO.tryA i k gh (.bk vs) = .bk vs := (rfl)
theorem tA_ct : VO.tryA i k gh (.ct vs) = .ct vs := (rfl)
theorem tA_rt : VO.tryA i k gh (.rt x) = .rt x := (rfl)
theorem tO_nx : VO.tryO k gh (.nx vs) = .nx vs := (rfl)
theorem tO_bk : VO.tryO k gh (.bk vs) = .bk vs := (rfl)
theorem tO_ct : VO.tryO k gh (.ct vs) = .ct vs := (rfl)
theorem tO_rt : VO.tryO k gh (.rt x) = .rt x := (rfl)
theorem eA_rt : endedAs i (.rt x) = .rt x := (rfl)
theorem eO_rt : endedO (.rt x) = .rt x := (rfl)
theorem vk_1 {r : List (Str × Bool)} : lk c ((c, b) :: r) = some b := by unfold lk; rw [if_pos rfl]
def exv (b : Bool) (vs : List VS) (o : Option VS) : VR PyData := match o with
  | some (.ex _) => .ok (.bool b) vs
  | _ => .st
theorem u_exi : fExI (some b) i vs = exv b vs vs[i]? := (rfl)
theorem exv_ex : exv b vs (some (.ex c)) = .ok (.bool b) vs := (rfl)
theorem vAny_0 : lkAny [] = some false := (rfl)
theorem vAny_t {r : List (Option Bool)} : lkAny (some true :: r) = some true := (rfl)
theorem vAny_f {r : List (Option Bool)} : lkAny (some false :: r) = lkAny r := by
  conv => lhs; unfold lkAny
theorem o_lrev : gLRev (.list ds) vs = .ok (.list ds.reverse) vs := (rfl)
end
end Zx.V
namespace Zx.V
open PySem PySem.Spec L2
open Zx (SV AO AH FE FA FT FS Md Bd It1 Src O RpS En Wd inB iAdd iSub imm immL nod mulB divB modB powB lim flatD flatL isTy cutX kD opt eI eG Fn FnL Fn_int Fn_lst FnL_nil FnL_map eqv_nil)
section
variable {bd : Bd} {body : VF} {vs0 vs : List VS} {gt : VT} {o : VO}
theorem for_inv' {its : List VI} (e : forV vs0 bd body its vs = o) {P : Nat → List VS → Prop} (p : P 0 vs) (h : ∀ (j : Nat) (it : VI) (vs : List VS), its[j]? = some it → P j vs → ∃ vs', P (j + 1) vs' ∧ ∀ K, turnV vs0 bd body it vs K = K vs') : ∃ vs', o = .nx vs' ∧ P its.length vs' := by
  obtain ⟨v, r, q⟩ := for_inv (vs0 := vs0) (bd := bd) (body := body) (i := 0) (its := its) (P := P) p fun j it vs e q => by
    rw [Nat.zero_add] at q ⊢
    exact h j it vs e q
  rw [Nat.zero_add] at r
  exact ⟨v, e.symm.trans q, r⟩
end
theorem pureL_imm : ∀ {ds : List PyData}, (∀ d ∈ ds, imm d = true) → pureL 0 ds = true
  | [], _ => by unfold pureL; rfl
  | d :: ds, h => by
    unfold pureL pureK
    rw [h d List.mem_cons_self, pureL_imm fun x m => h x (List.mem_cons_of_mem _ m)]; rfl
theorem pure_lst {ds : List PyData} (h : ∀ d ∈ ds, imm d = true) : pureK 1 (.list ds) = true := by
  unfold pureK
  exact pureL_imm h
theorem keyP_i {i : Int} : keyP (.int i) = some (.inl i) := (rfl)
theorem at_c0 {α : Type} {x : α} {xs : List α} : atI (x :: xs) 0 = some x := by
  unfold atI ixN
  rw [if_pos (by decide), if_pos (by rw [List.length_cons]; omega)]; rfl
theorem at_c1 {α : Type} {x y : α} {xs : List α} : atI (x :: y :: xs) 1 = some y := by
  unfold atI ixN
  rw [if_pos (by decide), if_pos (by rw [List.length_cons, List.length_cons]; omega)]; rfl
theorem at_c2 {α : Type} {x y z : α} {xs : List α} : atI (x :: y :: z :: xs) 2 = some z := by
  unfold atI ixN
  rw [if_pos (by decide), if_pos (by rw [List.length_cons, List.length_cons, List.length_cons]; omega)]; rfl
theorem imm_int {i : Int} : imm (.int i) = true := by unfold imm; rfl
end Zx.V
namespace Zx.V
open PySem PySem.Spec L2
open Zx (SV AO AH FE FA FT FS Md Bd It1 Src O RpS En Wd inB iAdd iSub imm immL nod mulB divB modB powB lim flatD flatL isTy cutX kD opt allD allI)
theorem rv_d {h : AH} {b : Bool} {k : Nat} {y x : PyData} {f : List Nat} (r : RV h b k (.d y) x f) : x = y := by
  have l : leaf b (.d y) x := by
    cases k with
    | zero => exact r.2
    | succ k =>
      unfold RV at r
      rcases r with r | ⟨_, _, _, _, e, _⟩ | ⟨_, _, _, _, e, _⟩ | ⟨_, _, _, _, e, _⟩ | ⟨_, _, _, _, e, _⟩
      · exact r.2.1
      · cases e
      · cases e
      · cases e
      · cases e
  rcases l with e | ⟨_, e⟩
  · exact (SV.d.inj e).symm
  · unfold mkv at e
    split at e
    · exact (SV.d.inj e).symm
    · cases e
theorem fa_allD_eq {h : AH} {b : Bool} {k : Nat} : ∀ {ss : List SV} {xs : List PyData} {fs : List (List Nat)} {ds : List PyData}, Fa3 (RV h b k) ss xs fs → allD ss = some ds → ds = xs
  | [], [], [], ds, _, e => by cases e; rfl
  | s :: ss, x :: xs, f :: fs, ds, ⟨r, q⟩, e => by
    cases s with
    | d y =>
      unfold allD at e
      cases e2 : allD ss with
      | none => rw [e2] at e; cases e
      | some d2 =>
        rw [e2] at e
        cases e
        rw [rv_d r, fa_allD_eq q e2]
    | un => cases e
    | vw y => cases e
    | r n => cases e
    | sc n => cases e
    | ex n => cases e
  | [], [], c :: cs, _, h, _ => h.elim
  | [], b :: bs, [], _, h, _ => h.elim
  | [], b :: bs, c :: cs, _, h, _ => h.elim
  | a :: as, [], [], _, h, _ => h.elim
  | a :: as, [], c :: cs, _, h, _ => h.elim
  | a :: as, b :: bs, [], _, h, _ => h.elim
section
variable {D : List KD} {b b1 fr fr1 : Bool} {k k1 : Nat} {fa : FE} {ga : VE} {ra : FA} {qa : VA}
theorem u_dctO {gb : VE} {vs : List VS} : fDctO ga gb vs = (ga vs).bind fun x vs => (gb vs).bind fun y vs => opt (keyP x) (fun key => .ok (.dict [(kD key, y)]) vs) .st := by
  unfold fDctO opt
  congr 1
  funext x vs
  congr 1
  funext y vs
  cases keyP x <;> rfl
theorem o_ixOt {xs : List PyData} {m : Int} {vs : List VS} : gIxO (.tuple xs) (.int m) vs = opt (atI xs m) (fun u => .ok u vs) .st := by
  show (match atI xs m with | some u => VR.ok u vs | none => .st) = _
  unfold opt
  cases atI xs m <;> rfl
theorem ge_t {js : List Int} {xs : List PyData} {m : Int} (h : immL xs = false) : getAt (m :: js) (.tuple xs) = opt (atI xs m) (getAt js) none := by
  show (if immL xs = false then (match atI xs m with | some d => getAt js d | none => none) else none) = _
  rw [if_pos h]
  unfold opt
  cases atI xs m <;> rfl
end
theorem getAt_putAt {z : PyData} (hz : imm z = false) : ∀ {js : List Int} {x x' : PyData}, getAt js x = some x' → getAt js (putAt js z x) = some z
  | [], x, x', _ => rfl
  | j :: js, x, x', e => by
    unfold getAt at e
    split at e
    · rename_i ds
      split at e
      · rename_i d hd
        unfold atI at hd
        cases q : ixN ds.length j with
        | none => rw [q] at hd; cases hd
        | some p =>
          rw [q] at hd
          have hd : ds[p]? = some d := hd
          have hp := (List.getElem?_eq_some_iff.mp hd).1
          rw [putAt_c q hd]
          unfold getAt
          dsimp only
          have : atI (ds.set p (putAt js z d)) j = some (putAt js z d) := by
            unfold atI
            rw [List.length_set, q]
            show (ds.set p (putAt js z d))[p]? = _
            rw [List.getElem?_set_self hp]
          rw [this]
          exact getAt_putAt hz e
      · cases e
    · rename_i ds
      split at e
      · rename_i hi
        split at e
        · rename_i d hd
          unfold atI at hd
          cases q : ixN ds.length j with
          | none => rw [q] at hd; cases hd
          | some p =>
            rw [q] at hd
            have hd : ds[p]? = some d := hd
            have hp := (List.getElem?_eq_some_iff.mp hd).1
            rw [putAt_t q hd]
            unfold getAt
            dsimp only
            have : atI (ds.set p (putAt js z d)) j = some (putAt js z d) := by
              unfold atI
              rw [List.length_set, q]
              show (ds.set p (putAt js z d))[p]? = _
              rw [List.getElem?_set_self hp]
            rw [if_pos (immL_set (putAt_imm hz e) hd), this]
            exact getAt_putAt hz e
        · cases e
      · cases e
    · cases e
def forOwnPV (vs0 : List VS) (l i : Nat) (js : List Int) (body : VF) : Nat → Nat → PyData → List VS → VO
  | 0, j, y, vs => match getAt js y with
    | some (.list ds) => if ds.length ≤ j then .nx (vs.set l (.v y)) else .st
    | _ => .st
  | c + 1, j, y, vs => match getAt js y with
    | some (.list ds) => match atI ds (j : Int) with
      | none => .st
      | some x => match body (vs.set i (.v x)) with
        | .nx vs' => match vs'[i]? with
          | some (.v x') => forOwnPV vs0 l i js body c (j + 1) (putAt js (.list (ds.set j x')) y) (resetV vs0 (vs'.set i .un))
          | _ => .st
        | .ct vs' => match vs'[i]? with
          | some (.v x') => forOwnPV vs0 l i js body c (j + 1) (putAt js (.list (ds.set j x')) y) (resetV vs0 (vs'.set i .un))
          | _ => .st
        | .bk vs' => match vs'[i]? with
          | some (.v x') => .nx ((resetV vs0 (vs'.set i .un)).set l (.v (putAt js (.list (ds.set j x')) y)))
          | _ => .st
        | .rt x => .rt x
        | _ => .st
    | _ => .st
def sForOwnP (l i : Nat) (js : List Int) (body : VF) : VF := fun vs => match vs[l]? with
  | some (.v y) => match getAt js y with
    | some (.list ds) => forOwnPV (vs.set l .un) l i js body ds.length 0 y (vs.set l .un)
    | _ => .st
  | _ => .st
section
variable {D : List KD} {A : List Nat} {rb : Bool} {rk : Nat} {b : Bool} {k i j n m : Nat} {h0 h : AH} {fs0 fs : List (List Nat)} {sl sl0 : List SV} {vs vs0 : List VS} {f : FS} {g : VF} {js : List Int}
end
theorem u_forOwnP {l i : Nat} {js : List Int} {a : VF} {vs : List VS} : sForOwnP l i js a vs = gv vs[l]? (fun y => opt (getAt js y) (fun z => gl z (fun ds => forOwnPV (vs.set l .un) l i js a ds.length 0 y (vs.set l .un)) .st) .st) .st := by
  unfold sForOwnP gv gl opt
  rcases vs[l]? with _ | (_ | y | _ | _) <;> try rfl
  dsimp only
  cases getAt js y with
  | none => rfl
  | some z => cases z <;> rfl
end Zx.V
namespace Zx.V
open PySem PySem.Spec L2
open Zx (SV AO AH FE FA FT FS Md Bd It1 Src O RpS En Wd inB iAdd iSub imm immL nod mulB divB modB powB lim flatD flatL isTy cutX kD opt allD allI lstOf)
def AX (D KL : List KD) (f : FA) (g : VA) : Prop := ∀ (h : AH) (sl : List SV) (vs : List VS) (fs : List (List Nat)), RSt h D sl vs fs → fs.flatten.Nodup → match g vs with
  | .ok ds vs' => ∃ ss h' fs' fps, f sl h = .ok ss h' ∧ Good D h fs h' sl vs' fs' ∧ RSt h' KL ss (ds.map VS.v) fps ∧ fps.flatten.Nodup ∧ (∀ n ∈ fps.flatten, n ∉ fs'.flatten) ∧ ∀ n ∈ fps.flatten, n ∈ fs.flatten ∨ h.length ≤ n
  | .rz c => ∃ t, f sl h = .rz c (h ++ t)
  | .st => True
def fConsX (ga : VE) (gr : VA) : VA := fun vs => (ga vs).bind fun x vs => match gr vs with
  | .ok xs vs => .ok (x :: xs) vs
  | _ => .st
def fCallRV (N : Nat) (g : VF) (qa : VA) : VE := fun vs => (qa vs).bind fun ds vs => match g (ds.map VS.v ++ List.replicate (N - ds.length) .un) with
  | .rt x => .ok x vs
  | .nx _ => .ok .none vs
  | _ => .st
theorem rst_ext {h : AH} : ∀ {KL KR : List KD} {ss : List SV} {vs : List VS} {fps : List (List Nat)}, RSt h KL ss vs fps → RSt h (KL ++ KR) (ss ++ List.replicate KR.length .un) (vs ++ List.replicate KR.length .un) (fps ++ List.replicate KR.length [])
  | [], [], ss, vs, fps, r => by
    rw [r.1, r.2.1, r.2.2]
    exact ⟨rfl, rfl, rfl⟩
  | [], k :: KR, ss, vs, fps, r => by
    have := rst_ext (h := h) (KL := []) (KR := KR) ⟨rfl, rfl, rfl⟩
    rw [r.1, r.2.1, r.2.2]
    exact ⟨_, _, _, _, _, _, rfl, rfl, rfl, rfl, this⟩
  | k :: KL, KR, ss, vs, fps, ⟨s, ss', v, vs', f, fps', h1, h2, h3, r1, r2⟩ => by
    subst h1 h2 h3
    exact ⟨s, _, v, _, f, _, rfl, rfl, rfl, r1, rst_ext r2⟩
section
variable {D K KL KR : List KD} {A : List Nat} {b b1 fr : Bool} {k rk np N : Nat} {fa : FE} {ga : VE} {ra : FA} {qa : VA} {f : FS} {g : VF}
theorem ax_nil : AX D [] Zx.fNil fNil := fun h sl vs fs R nd => ⟨[], h, fs, [], rfl, Good.refl R nd, ⟨rfl, rfl, rfl⟩, List.nodup_nil, fun _ m => (by cases m), fun _ m => (by cases m)⟩
theorem ax_cons (ha : XV D b1 k fa ga) (hr : AX D KL ra qa) (hb : (!b1 || b) = true := by decide) : AX D ((b, k) :: KL) (Zx.fCons fa ra) (fConsX ga qa) := by
  intro h sl vs fs R nd
  have o := ha h sl vs fs R nd
  unfold fConsX Zx.fCons
  generalize ga vs = r at o ⊢
  generalize fa sl h = q at o ⊢
  cases r with
  | st => trivial
  | rz c =>
    obtain ⟨t, rfl⟩ := o
    exact ⟨t, rfl⟩
  | ok x vs1 =>
    obtain ⟨s, h1, fs1, fp, rfl, G, r, n, d, od⟩ := o
    have o2 := hr h1 sl vs1 fs1 G.R G.nd
    dsimp only [VR.bind, Zx.R.bind]
    generalize qa vs1 = r2 at o2 ⊢
    generalize ra sl h1 = q2 at o2 ⊢
    cases r2 with
    | st => trivial
    | rz c => trivial
    | ok xs vs2 =>
      obtain ⟨ss, h2, fs2, fps, rfl, G2, R2, n2, d2, od2⟩ := o2
      dsimp only
      have lt : ∀ a ∈ fp, a < h1.length := fun a m => r.lt a m
      refine ⟨s :: ss, h2, fs2, fp :: fps, rfl, G.trans G2, ⟨s, ss, .v x, xs.map VS.v, fp, fps, rfl, rfl, rfl, ?_, R2⟩, ?_, fun a m => ?_, fun a m => ?_⟩
      · exact (r.bm hb).frame fun a m => G2.fr a (lt a m) (d a m)
      · rw [List.flatten_cons, List.nodup_append]
        refine ⟨n, n2, fun a ha c hc e => ?_⟩
        subst e
        rcases od2 a hc with z | z
        · exact d a ha z
        · exact absurd (lt a ha) (by omega)
      · rcases List.mem_append.mp m with m | m
        · intro z
          rcases G2.old a z with z | z
          · exact d a m z
          · exact absurd (lt a m) (by omega)
        · exact d2 a m
      · rcases List.mem_append.mp m with m | m
        · exact od a m
        · rcases od2 a m with z | z
          · exact G.old a z
          · exact .inr (Nat.le_trans G.le z)
theorem xv_callR (hs : SVp K A false rk f g) (ha : AX D KL ra qa) (hK : K = KL ++ KR := by rfl) (hN : K.length = N := by rfl) (hp : KL.length = np := by rfl) : XV D false rk (Zx.fCallR np N f ra) (fCallRV N g qa) := by
  subst hK hN hp
  intro h sl vs fs R nd
  have o := ha h sl vs fs R nd
  unfold fCallRV Zx.fCallR
  generalize qa vs = r at o ⊢
  generalize ra sl h = q at o ⊢
  cases r with
  | st => trivial
  | rz c =>
    obtain ⟨t, rfl⟩ := o
    exact ⟨t, rfl⟩
  | ok ds vs1 =>
    obtain ⟨ss, h1, fs1, fps, rfl, G, R1, n1, d1, od1⟩ := o
    dsimp only [VR.bind, Zx.R.bind]
    have l := R1.len
    rw [List.length_map] at l
    rw [if_pos l.1]
    have hn1 : (KL ++ KR).length - ds.length = KR.length := by rw [List.length_append]; omega
    have hn2 : (KL ++ KR).length - ss.length = KR.length := by rw [List.length_append]; omega
    rw [hn1, hn2]
    have fl : (fps ++ List.replicate KR.length ([] : List Nat)).flatten = fps.flatten := by rw [List.flatten_append, fl_rep, List.append_nil]
    have o2 := hs h1 _ _ _ (rst_ext (KR := KR) R1) (by rw [fl]; exact n1)
    generalize g (ds.map VS.v ++ List.replicate KR.length VS.un) = r2 at o2 ⊢
    generalize f (ss ++ List.replicate KR.length SV.un) h1 = q2 at o2 ⊢
    have fin : ∀ {h2 : AH}, (∀ n, n < h1.length → n ∉ fps.flatten → h2[n]? = h1[n]?) → h1.length ≤ h2.length → Good D h fs h2 sl vs1 fs1 := fun {h2} fr le => {
      R := G.R.frame fun n m => fr n (G.R.lt n m) fun z => d1 n z m
      nd := G.nd
      old := G.old
      fr := fun n hn hm => (fr n (Nat.lt_of_lt_of_le hn G.le) fun z => (od1 n z).elim hm fun z => absurd hn (by omega)).trans (G.fr n hn hm)
      le := Nat.le_trans G.le le }
    cases r2 with
    | st => trivial
    | rz c v => trivial
    | bk v => trivial
    | ct v => trivial
    | nx v =>
      obtain ⟨sl2, h2, fs2, rfl, G2, _⟩ := o2
      refine ⟨.d .none, h2, fs1, [], rfl, fin (fun n hn hm => G2.fr n hn (by rw [fl]; exact hm)) G2.le, RV.dk rfl, List.nodup_nil, fun _ m => (by cases m), fun _ m => (by cases m)⟩
    | rt x =>
      obtain ⟨s, h2, fp, rfl, r, n, z⟩ := o2
      refine ⟨s, h2, fs1, fp, rfl, fin (fun n hn hm => z.fr n hn (by rw [fl]; exact hm)) z.le, r, n, fun a m w => ?_, fun a m => ?_⟩
      · rcases z.old a m with u | u
        · rw [fl] at u; exact d1 a u w
        · exact absurd (G.R.lt a w) (by omega)
      · rcases z.old a m with u | u
        · rw [fl] at u; exact od1 a u
        · exact .inr (Nat.le_trans G.le u)
end
theorem cut_lo {α : Type} {xs : List α} {a : Int} (h : 0 ≤ a) : cutX xs none (some a) = xs.take a.toNat := by
  unfold cutX HT.sIx
  simp only [List.drop_zero, Nat.sub_zero]
  have : ¬ a < 0 := by omega
  simp only [this, if_false]
  rw [List.take_eq_take_iff]
  omega
theorem cut_hi {α : Type} {xs : List α} {a : Int} (h : 0 ≤ a) : cutX xs (some a) none = xs.drop a.toNat := by
  unfold cutX HT.sIx
  have : ¬ a < 0 := by omega
  simp only [this, if_false]
  by_cases hl : a.toNat ≤ xs.length
  · rw [Nat.min_eq_left hl, List.take_of_length_le (by rw [List.length_drop]; omega)]
  · rw [Nat.min_eq_right (by omega), List.drop_of_length_le (Nat.le_refl _), List.drop_of_length_le (by omega), List.take_nil]
section
variable {β : Type}
end
def fCut (i : Nat) (g1 g2 : VE) : VE := fun vs => gv vs[i]? (fun y => gl y (fun ds => rv (g1 vs) (fun x => gn x (fun a => rv (g2 vs) (fun y => gn y (fun c => if 0 ≤ a ∧ a ≤ c ∧ ds.length < lim then .ok (.list (ds.take a.toNat ++ ds.drop c.toNat)) (vs.set i .un) else .st) .st) .st) .st) .st) .st) .st
theorem u_cut {i : Nat} {g1 g2 : VE} {vs : List VS} : fCut i g1 g2 vs = gv vs[i]? (fun y => gl y (fun ds => rv (g1 vs) (fun x => gn x (fun a => rv (g2 vs) (fun y => gn y (fun c => if 0 ≤ a ∧ a ≤ c ∧ ds.length < lim then .ok (.list (ds.take a.toNat ++ ds.drop c.toNat)) (vs.set i .un) else .st) .st) .st) .st) .st) .st) .st := (rfl)
section
variable {D : List KD} {b b1 b2 fr1 fr2 : Bool} {k1 k2 m i : Nat} {f1 f2 : FE} {g1 g2 : VE}
def fPut (i j : Nat) (g1 g2 : VE) : VE := fun vs => gv vs[i]? (fun y => gl y (fun ds => gv vs[j]? (fun x => rv (g1 vs) (fun w => gn w (fun a => rv (g2 vs) (fun u => gn u (fun c => if 0 ≤ a ∧ a ≤ c ∧ ds.length < lim - 1 then .ok (.list (ds.take a.toNat ++ [x] ++ ds.drop c.toNat)) ((vs.set j .un).set i .un) else .st) .st) .st) .st) .st) .st) .st) .st
theorem u_put {i j : Nat} {g1 g2 : VE} {vs : List VS} : fPut i j g1 g2 vs = gv vs[i]? (fun y => gl y (fun ds => gv vs[j]? (fun x => rv (g1 vs) (fun w => gn w (fun a => rv (g2 vs) (fun u => gn u (fun c => if 0 ≤ a ∧ a ≤ c ∧ ds.length < lim - 1 then .ok (.list (ds.take a.toNat ++ [x] ++ ds.drop c.toNat)) ((vs.set j .un).set i .un) else .st) .st) .st) .st) .st) .st) .st) .st := (rfl)
end
def VO.cb (o : VO) (vs : List VS) : VR PyData := match o with
  | .rt x => .ok x vs
  | .nx _ => .ok .none vs
  | _ => .st
def VR.ac (r : VR (List PyData)) (x : PyData) : VR (List PyData) := match r with
  | .ok xs vs => .ok (x :: xs) vs
  | _ => .st
section
variable {vs vs' : List VS} {ga : VE} {qa : VA} {N : Nat} {g : VF} {x : PyData} {xs : List PyData}
theorem u_callR : fCallRV N g qa vs = (qa vs).bind fun ds vs => (g (ds.map VS.v ++ List.replicate (N - ds.length) .un)).cb vs := (rfl)
theorem cb_ok : (VO.rt x).cb vs = .ok x vs := (rfl)
theorem cb_nx : (VO.nx vs').cb vs = .ok .none vs := (rfl)
theorem u_consX : fConsX ga qa vs = (ga vs).bind fun x vs => (qa vs).ac x := (rfl)
theorem ac_ok : (VR.ok xs vs).ac x = .ok (x :: xs) vs := (rfl)
end
end Zx.V
namespace Zx.V
open PySem PySem.Spec L2
open Zx (SV AO AH FE FA FT FS Md Bd It1 Src O RpS En Wd inB iAdd iSub imm immL nod mulB divB modB powB lim flatD flatL isTy cutX kD opt o_some allD allI lstOf divF modF putIx)
section
variable {D : List KD} {rb : Bool} {rk : Nat} {b b1 b2 b3 fr1 fr2 fr3 : Bool} {k1 k2 k3 m l : Nat} {fi fj : FE} {gi gj : VE}
end
end Zx.V
namespace Zx.V
open PySem PySem.Spec L2
open Zx (SV AO AH FE FA FT FS Md Bd It1 Src O RpS En Wd inB iAdd iSub imm immL nod mulB divB modB powB lim flatD flatL isTy cutX kD opt o_some allD allI lstOf divF modF putIx wipeS lcR)
section
variable {D : List KD} {b b1 b2 fr : Bool} {k : Nat} {fs fa : FE} {gs ga : VE} {ta : FT} {ua : VT} {bd : Bd} {vx : List Nat}
end
end Zx.V
namespace Zx.V
open PySem PySem.Spec L2
open Zx (SV AO AH FE FA FT FS Md Bd It1 Src O RpS En Wd inB iAdd iSub imm immL nod mulB divB modB powB lim flatD flatL isTy cutX kD opt o_some allD allI lstOf divF modF putIx wipeS lcR argsD a_call g_cons g_fz g_vw g_nil shv shh)
def VC.bk (r : VC) (vs : List VS) : VR PyData := match r with
  | .ok y => .ok y vs
  | _ => .st
def only (r : VR PyData) (k : PyData → VR PyData) : VR PyData := match r with
  | .ok z _ => k z
  | _ => .st
def fCallX1 (u : List PyData → VC) (ga : VE) : VE := fun vs => (ga vs).bind fun x vs => (u [x]).bk vs
def fCallX2 (u : List PyData → VC) (ga gb : VE) : VE := fun vs => (ga vs).bind fun x vs => only (gb vs) fun z => (u [x, z]).bk vs
theorem u_callX1 {u : List PyData → VC} {ga : VE} {vs : List VS} : fCallX1 u ga vs = (ga vs).bind fun x vs => (u [x]).bk vs := (rfl)
theorem u_callX2 {u : List PyData → VC} {ga gb : VE} {vs : List VS} : fCallX2 u ga gb vs = (ga vs).bind fun x vs => only (gb vs) fun z => (u [x, z]).bk vs := (rfl)
theorem bk1_ok {y : PyData} {vs : List VS} : VC.bk (.ok y) vs = .ok y vs := (rfl)
theorem only_ok {z : PyData} {vs : List VS} {k : PyData → VR PyData} : only (.ok z vs) k = k z := (rfl)
section
variable {D : List KD} {b b2 fr2 : Bool} {k k1 k2 : Nat} {fa fb : FE} {ga gb : VE} {φ : List PyData → R SV} {u : List PyData → VC}
end
end Zx.V
namespace Zx.V
open PySem PySem.Spec L2
open Zx (wipeS lcR lcC R SV AO AH FE FA FT FS Md Bd It1 Src O RpS En Wd inB iAdd iSub imm immL nod mulB divB modB powB lim flatD flatL isTy cutX kD opt o_some)
def hotv (x : PyData) (vs : List VS) (o : Option VS) : VR PyData := match o with
  | some (.ex _) => .ok x vs
  | _ => .st
def fHot (ob : Option PyData) (i : Nat) : VE := fun vs => match ob with
  | some x => hotv x vs vs[i]?
  | none => .st
section
variable {D : List KD} {b fr : Bool} {k : Nat} {kd : KD} {i : Nat} {vs : List VS} {x : PyData} {c : Str}
theorem u_hot : fHot (some x) i vs = hotv x vs vs[i]? := (rfl)
theorem hot_ex : hotv x vs (some (.ex c)) = .ok x vs := (rfl)
end
theorem RSt.rekind {h : AH} : ∀ {D D2 : List KD} {sl : List SV} {vs : List VS} {fs : List (List Nat)}, RSt h D sl vs fs → D2.length = D.length → (∀ (i : Nat) (kd : KD), D2[i]? = some kd → D[i]? = some kd ∨ vs[i]? = some VS.un) → RSt h D2 sl vs fs
  | [], [], sl, vs, fs, r, _, _ => r
  | [], k :: D2, sl, vs, fs, _, e, _ => by simp at e
  | k :: D, [], sl, vs, fs, _, e, _ => by simp at e
  | k :: D, k2 :: D2, sl, vs, fs, ⟨s, sl', v, vs', f, fs', h1, h2, h3, r1, r2⟩, e, c => by
    refine ⟨s, sl', v, vs', f, fs', h1, h2, h3, ?_, RSt.rekind r2 (by simpa using e) fun i kd q => ?_⟩
    · rcases c 0 k2 rfl with z | z
      · have z : k = k2 := Option.some.inj z
        rw [← z]; exact r1
      · rw [h2] at z
        have z : v = .un := Option.some.inj z
        subst z
        exact r1
    · have := c (i + 1) kd q
      rw [h2] at this
      exact this
theorem wipe_un {vs : List VS} {i : Nat} : ∀ {vx : List Nat}, i ∈ vx → i < vs.length → (wipeV vs vx)[i]? = some .un
  | [], m, _ => by cases m
  | v :: r, m, hl => by
    have hlen : ∀ vx : List Nat, (wipeV vs vx).length = vs.length := by
      intro vx
      induction vx with
      | nil => rfl
      | cons v r ih => unfold wipeV; rw [List.length_set]; exact ih
    unfold wipeV
    by_cases e : v = i
    · subst e
      rw [List.getElem?_set_self (by rw [hlen]; exact hl)]
    · rw [List.getElem?_set_ne e]
      rcases List.mem_cons.mp m with z | z
      · exact absurd z.symm e
      · exact wipe_un z hl
def otherOk (vx : List Nat) (D D2 : List KD) : Bool := decide (D2.length = D.length) && (List.range D2.length).all fun i => vx.contains i || decide (D2[i]? = D[i]?)
theorem RSt.other {h : AH} {D D2 : List KD} {sl : List SV} {vs : List VS} {fs : List (List Nat)} {vx : List Nat} (o : otherOk vx D D2 = true) (r : RSt h D sl (wipeV vs vx) fs) (hv : vs.length = D.length) : RSt h D2 sl (wipeV vs vx) fs := by
  unfold otherOk at o
  rw [Bool.and_eq_true] at o
  have o1 := of_decide_eq_true o.1
  refine RSt.rekind r o1 fun i kd e => ?_
  have hi : i < D2.length := (List.getElem?_eq_some_iff.mp e).1
  have := List.all_eq_true.mp o.2 i (List.mem_range.mpr hi)
  rcases Bool.or_eq_true_iff.mp this with z | z
  · exact .inr (wipe_un (List.contains_iff_mem.mp z) (by omega))
  · exact .inl ((of_decide_eq_true z).symm.trans e)
section
variable {D D2 : List KD} {b b1 b2 fr : Bool} {k : Nat} {fa : FE} {ga : VE} {ta : FT} {ua : VT}
end
end Zx.V
namespace Zx.V
open PySem PySem.Spec L2
open Zx (R SV AO AH FE FA FT FS Md Bd It1 Src O RpS En Wd subS repS repOk lmax)
def gInS (neg : Bool) : PyData → PyData → List VS → VR PyData := fun x y vs => match x, y with
  | .str a, .str b => .ok (.bool (neg ^^ subS a b)) vs
  | _, _ => .st
def gIsB : PyData → PyData → List VS → VR PyData := fun x y vs => match x, y with
  | .bool a, .bool b => .ok (.bool (decide (a = b))) vs
  | _, _ => .st
def fSliceT (ga : VE) (gl gh : VOo) : VE := fun vs => (ga vs).bind fun x vs => (gl vs).bind fun lo vs => (gh vs).bind fun hi vs => match x with
  | .str z => if z.length ≤ sizeLine then .ok (.str (cutS z lo hi)) vs else .st
  | _ => .st
def gtx {α : Type} (x : PyData) (f : Str → α) (d : α) : α := match x with
  | .str z => f z
  | _ => d
def strV (z : Str) : List VI := z.cps.toList.map fun c => .one (.str ⟨#[c]⟩)
def iStr (ga : VE) : VSr := fun vs => (ga vs).bind fun x vs => match x with
  | .str z => .ok (strV z) vs
  | _ => .st
section
variable {D : List KD} {b b1 b2 b3 fr fr1 fr2 fr3 : Bool} {k k1 k2 k3 i : Nat} {fa fb fc : FE} {ga gb gc : VE} {fl fh : List SV → AH → R (Option Int)} {gl gh : VOo}
theorem iv_str (ha : EV D b k fr fa ga) : IV D b2 (Zx.iStr fa) (iStr ga) := by
  intro h sl vs fs R nd
  refine (ha h sl vs fs R nd).ep fun x s t f1 r1 n1 _ => ?_
  split
  · rename_i z
    obtain ⟨rfl, -⟩ := r1.imm rfl
    refine ⟨rfl, _, [], by rw [List.append_nil], _, rfl, ?_⟩
    unfold Zx.strI strV
    generalize z.cps.toList = l
    induction l with
    | nil => trivial
    | cons c l ih => exact ⟨.inl rfl, ih⟩
  · trivial
end
section
variable {vs : List VS} {a c z : Str} {n d : Int} {ga : VE} {gl gh : VOo} {neg : Bool} {ns : List Int}
theorem o_inS : gInS neg (.str a) (.str c) vs = .ok (.bool (neg ^^ subS a c)) vs := (rfl)
theorem o_isB {p q : Bool} : gIsB (.bool p) (.bool q) vs = .ok (.bool (decide (p = q))) vs := (rfl)
theorem gtx_s {α : Type} {f : Str → α} {d : α} : gtx (.str z) f d = f z := (rfl)
theorem u_sliceT : fSliceT ga gl gh vs = (ga vs).bind fun x vs => (gl vs).bind fun lo vs => (gh vs).bind fun hi vs => gtx x (fun z => if z.length ≤ sizeLine then .ok (.str (cutS z lo hi)) vs else .st) .st := by
  unfold fSliceT gtx
  rfl
theorem u_istr : iStr ga vs = (ga vs).bind fun x vs => gtx x (fun z => .ok (strV z) vs) .st := by
  unfold iStr gtx
  rfl
end
end Zx.V
namespace Zx.V
open PySem PySem.Spec L2
open Zx (R SV AO AH FE FA FT FS Md Bd It1 Src O RpS En Wd sortD leD patOk wrapS)
end Zx.V
namespace Zx.V
open PySem PySem.Spec L2
open Zx (R SV AO AH FE FA FT FS Md Bd It1 Src O RpS En Wd lim)
end Zx.V
namespace Zx.V
open PySem PySem.Spec L2
open Zx (R SV AO AH FE FA FT FS Md Bd It1 Src O RpS En Wd inB)
end Zx.V
namespace Zx.V
open PySem PySem.Spec L2
open Zx (R SV AO AH FE FA FT FS Md Bd It1 Src O RpS En Wd inB nod Fn imm opt o_some)
def gInD (neg : Bool) : PyData → PyData → List VS → VR PyData := fun x y vs => match y with
  | .list ds => if (nod x && nod (.list ds) && SeqAt.shaped x && SeqAt.shaped (.list ds)) = true then .ok (.bool (neg ^^ ds.any fun z => PyData.eqv z x)) vs else .st
  | _ => .st
theorem ov_inD {neg b1 b2 b fr : Bool} {k1 k2 k : Nat} (h1 : k1 ≤ 9 := by decide) (h2 : k2 ≤ 9 := by decide) : OpV b1 k1 b2 k2 b k fr (Zx.gInD neg) (gInD neg) := by
  intro h vs s t x y f1 f2 r1 n1 r2
  unfold gInD Zx.gInD
  rw [r1.rb h1, r2.rb h2]
  cases y
  case list ds =>
    dsimp only
    split
    · exact OutE.dd rfl
    · trivial
  all_goals trivial
theorem o_inD {neg : Bool} {x : PyData} {ds : List PyData} {vs : List VS} (fx : Fn 64 x) (fy : Fn 64 (.list ds)) : gInD neg x (.list ds) vs = .ok (.bool (neg ^^ ds.any fun z => PyData.eqv z x)) vs := by
  unfold gInD
  dsimp only
  rw [if_pos]
  rw [fx.n, fy.n, fx.shaped, fy.shaped]; rfl
theorem fVar_at {sl : List SV} {h : AH} {i : Nat} {s : SV} (e : sl[i]? = some s) (hs : s ≠ .un) : Zx.fVar i sl h = .ok s h := by
  unfold Zx.fVar
  rw [e]
  cases s <;> first | rfl | exact absurd rfl hs
def sSt2 (l : Nat) (gi gj ga gb : VE) : VF := fun vs => rv (ga vs) (fun x => rv (gb vs) (fun y => gv vs[l]? (fun z => gl z (fun ds => rv (gi vs) (fun a => gn a (fun i => rv (gj (vs.set l .un)) (fun c => gn c (fun j => opt (ixN ds.length i) (fun p => opt (ixN ds.length j) (fun q => if (imm x && imm y) = true then .nx (vs.set l (.v (.list ((ds.set p x).set q y)))) else .st) .st) .st) .st) .st) .st) .st) .st) .st) .st) .st
theorem u_st2 {l : Nat} {gi gj ga gb : VE} {vs : List VS} : sSt2 l gi gj ga gb vs = rv (ga vs) (fun x => rv (gb vs) (fun y => gv vs[l]? (fun z => gl z (fun ds => rv (gi vs) (fun a => gn a (fun i => rv (gj (vs.set l .un)) (fun c => gn c (fun j => opt (ixN ds.length i) (fun p => opt (ixN ds.length j) (fun q => if (imm x && imm y) = true then .nx (vs.set l (.v (.list ((ds.set p x).set q y)))) else .st) .st) .st) .st) .st) .st) .st) .st) .st) .st) .st := (rfl)
end Zx.V
namespace Zx.V
open PySem PySem.Spec L2
open Zx (R SV AO AH FE FA FT FS Md Bd It1 Src O RpS En Wd intsD unl lstInts intsD_ok)
def fLenSet (ga : VE) : VE := fun vs => (ga vs).bind fun x vs => match x with
  | .list ds => match intsD ds with
    | some ns => if ns.length < 64 then .ok (.int ((unl ns).length : Nat)) vs else .st
    | none => .st
  | _ => .st
theorem u_lenSet {ga : VE} {vs : List VS} : fLenSet ga vs = (ga vs).bind fun x vs => gl x (fun ds => opt (intsD ds) (fun ns => if ns.length < 64 then .ok (.int ((unl ns).length : Nat)) vs else .st) .st) .st := by
  unfold fLenSet gl opt
  congr 1
  funext x vs
  cases x
  case list ds =>
    dsimp only
    cases intsD ds <;> rfl
  all_goals rfl
end Zx.V
namespace Zx.V
open PySem PySem.Spec L2
open Zx (R SV AO AH FE FA FT FS Md Bd It1 Src O RpS En Wd lim)
def fMvCat (i : Nat) (gb : VE) : VE := fun vs => match vs[i]? with
  | some (.v (.list xs)) => (gb vs).bind fun y vs' => match y with
    | .list ys => if xs.length + ys.length < lim then .ok (.list (xs ++ ys)) (vs'.set i .un) else .st
    | _ => .st
  | _ => .st
theorem u_mvCat {i : Nat} {gb : VE} {vs : List VS} : fMvCat i gb vs = gv vs[i]? (fun x => gl x (fun xs => (gb vs).bind fun y vs' => gl y (fun ys => if xs.length + ys.length < lim then .ok (.list (xs ++ ys)) (vs'.set i .un) else .st) .st) .st) .st := by
  unfold fMvCat gv gl
  cases vs[i]? with
  | none => rfl
  | some z =>
    cases z with
    | v x =>
      cases x
      case list xs =>
        first
          | rfl
          | (dsimp only; congr 1)
      all_goals rfl
    | _ => rfl
end Zx.V
namespace Zx.V
open PySem PySem.Spec L2
open Zx (R SV AO AH FE FA FT FS Md Bd It1 Src O RpS En Wd lim lstItems setAll mkv)
def sSetL (is : List Nat) (ga : VE) : VF := fun vs => (ga vs).thn vs fun x vs => match x with
  | .list ds => match setAllV is ds vs with
    | some vs' => .nx vs'
    | none => .st
  | _ => .st
theorem u_setL {is : List Nat} {ga : VE} {vs : List VS} : sSetL is ga vs = (ga vs).thn vs fun x vs => gl x (fun ds => opt (setAllV is ds vs) (fun vs' => .nx vs') .st) .st := by
  unfold sSetL opt gl
  congr 1
  funext x vs
  cases x <;> try rfl
  rename_i ds
  dsimp only
  cases setAllV is ds vs <;> rfl
variable {D : List KD} {b : Bool} {rb : Bool} {rk : Nat} {fr : Bool} {fa : FE} {ga : VE}
end Zx.V
namespace Zx.V
open PySem PySem.Spec L2
open Zx (R SV AO AH FE FA FT FS Md Bd It1 Src O RpS En Wd lim strsD joinOk)
def fTxM (g : Str → PyData → List VS → VR PyData) (ga gb : VE) : VE := fun vs => (ga vs).bind fun x vs => match x with
  | .str a => (gb vs).bind fun y vs => g a y vs
  | _ => .st
theorem u_txM {g : Str → PyData → List VS → VR PyData} {ga gb : VE} {vs : List VS} : fTxM g ga gb vs = (ga vs).bind fun x vs => gtx x (fun a => (gb vs).bind fun y vs => g a y vs) .st := (rfl)
section
variable {D : List KD} {b b1 b2 fr fr1 fr2 : Bool} {k k1 k2 : Nat} {fa fb : FE} {ga gb : VE}
end
end Zx.V
namespace Zx.V
open PySem PySem.Spec L2
open Zx (R SV AO AH FE FA FT FS Md Bd It1 Src O RpS En Wd lim mkv tupItems itemsT)
variable {D : List KD} {b b1 b2 : Bool} {rb : Bool} {rk k i j : Nat} {fa : FE} {ga : VE}
def fTupM (i : Nat) (gb : VE) : VE := fun vs => match vs[i]? with
  | some (.v (.list xs)) => (gb vs).bind fun y vs' => match y with
    | .int m => .ok (.tuple [.list xs, .int m]) (vs'.set i .un)
    | _ => .st
  | _ => .st
theorem u_tupM {gb : VE} {vs : List VS} : fTupM i gb vs = gv vs[i]? (fun x => gl x (fun xs => (gb vs).bind fun y vs' => gn y (fun m => .ok (.tuple [.list xs, .int m]) (vs'.set i .un)) .st) .st) .st := by
  unfold fTupM gv gl gn
  cases vs[i]? with
  | none => rfl
  | some z =>
    cases z with
    | v x => cases x <;> rfl
    | _ => rfl
end Zx.V
namespace Zx.V
open PySem PySem.Spec L2
open Zx (R SV AO AH FE FA FT FS Md Bd It1 Src O RpS En Wd intsD lstInts intsD_ok)
def fCnt (ga gb : VE) : VE := fun vs => (ga vs).bind fun x vs => match x with
  | .list ds => match intsD ds with
    | some ns => (gb vs).bind fun y vs => match y with
      | .int k => .ok (.int (ns.count k : Nat)) vs
      | _ => .st
    | none => .st
  | _ => .st
theorem u_cnt {ga gb : VE} {vs : List VS} : fCnt ga gb vs = (ga vs).bind fun x vs => gl x (fun ds => opt (intsD ds) (fun ns => (gb vs).bind fun y vs => gn y (fun k => .ok (.int (ns.count k : Nat)) vs) .st) .st) .st := by
  unfold fCnt gl opt
  congr 1
  funext x vs
  cases x
  case list ds =>
    dsimp only
    cases intsD ds <;> rfl
  all_goals rfl
def fNld (ga : VE) : VE := fun vs => (ga vs).bind fun x vs => if isLD x = true then .st else .ok x vs
theorem u_nld {ga : VE} {vs : List VS} : fNld ga vs = (ga vs).bind fun x vs => if isLD x = true then .st else .ok x vs := (rfl)
end Zx.V
namespace Zx.V
open PySem PySem.Spec L2
section
variable {D : List KD} {b b1 b2 fr fr1 : Bool} {k k1 i : Nat} {fa : FE} {ga : VE}
def fLk (ga : VE) : VE := fun vs => (ga vs).bind fun x vs => match x with
  | .dict ps => match toL ps with
    | some l => .ok (lkd (dK l)) vs
    | none => .st
  | _ => .st
theorem RV.isD {h : AH} {b : Bool} {m : Nat} {s : SV} {l : List (Key × PyData)} {f : List Nat} (r : RV h b (m + 1) s (.dict (dK l)) f) : ∃ n kvs fl, s = .r n ∧ f = n :: fl.flatten ∧ h[n]? = some (some (.dct kvs)) ∧ DV h b m kvs l fl := by
  obtain ⟨n, kvs, fl, e1, e2, e3, e4⟩ := slotD (D := [(b, m + 1)]) (i := 0) (h := h) (sl := [s]) (vs := [.v (.dict (dK l))]) (fs := [f]) rfl (by exact ⟨s, [], .v (.dict (dK l)), [], f, [], rfl, rfl, rfl, r, rfl, rfl, rfl⟩) rfl
  have e1 : s = .r n := Option.some.inj e1
  have e2 : f = n :: fl.flatten := Option.some.inj e2
  exact ⟨n, kvs, fl, e1, e2, e3, e4⟩
def iDk (ga : VE) : VSr := fun vs => (ga vs).bind fun x vs => match x with
  | .dict ps => match keysD ps with
    | some ks => .ok (ks.map VI.one) vs
    | none => .st
  | _ => .st
def gSortedD : List PyData → List VS → VR PyData := fun ds vs => match ds with
  | [.dict ps] => match toM ps with
    | some l => if keyTy (l.map Prod.fst) = true then match sortD (l.map fun p => kD p.1) with
      | some es => .ok (.list es) vs
      | none => .st
      else .st
    | none => .st
  | _ => .st
theorem cv_sortedD {p : KD} : CbV [p] b 1 fr Zx.gSortedD gSortedD := by
  intro h vs ss ds r
  obtain ⟨s, x, f, rfl, rfl, r1⟩ := ra_one r
  unfold gSortedD
  split
  · rename_i ps e
    cases e
    split
    · rename_i l hl
      split
      · rename_i hty
        split
        · rename_i es hs
          obtain ⟨kvs, fs, k', e1, d, _⟩ := dct_ofM r1 hl
          have e3 : (kvs.map fun p => kD p.1) = l.map fun p => kD p.1 := by
            have := congrArg (List.map kD) d.1
            rw [List.map_map, List.map_map] at this
            exact this
          unfold Zx.gSortedD
          dsimp only
          rw [e1]
          dsimp only
          rw [if_pos (by rw [d.1]; exact hty), e3, hs]
          exact fresh_lst (fa_leaf es)
        · trivial
      · trivial
    · trivial
  · trivial
theorem keys_lk (l : List (Key × PyData)) : keysD ((.none, .none) :: dK l) = some (l.map fun p => kD p.1) := by
  have e : keysD ((.none, .none) :: dK l) = some (((dK l).filter fun p => !isMk p.1).map Prod.fst) := rfl
  rw [e]
  congr 1
  clear e
  induction l with
  | nil => rfl
  | cons p l ih =>
    show (((kD p.1, p.2) :: dK l).filter _).map Prod.fst = _
    rw [List.filter_cons, if_pos (by show (!isMk (kD p.1)) = true; rw [kD_mk]; rfl), List.map_cons, ih, List.map_cons]
def gdk {α : Type} (x : PyData) (f : List (Key × PyData) → α) (d : α) : α := match x with
  | .dict ps => match toL ps with
    | some l => f l
    | none => d
  | _ => d
def gks {α : Type} (x : PyData) (f : List PyData → α) (d : α) : α := match x with
  | .dict ps => match keysD ps with
    | some l => f l
    | none => d
  | _ => d
theorem gdk_ok {α : Type} {f : List (Key × PyData) → α} {d : α} {l : List (Key × PyData)} : gdk (.dict (dK l)) f d = f l := by
  unfold gdk
  dsimp only
  rw [toL_dK]
theorem gks_ok {α : Type} {f : List PyData → α} {d : α} {l : List (Key × PyData)} : gks (lkd (dK l)) f d = f (l.map fun p => kD p.1) := by
  unfold gks lkd
  dsimp only
  rw [keys_lk]
theorem u_fzd {vs : List VS} : fLk ga vs = (ga vs).bind fun x vs => gdk x (fun l => .ok (lkd (dK l)) vs) .st := (rfl)
theorem u_idk {vs : List VS} : iDk ga vs = (ga vs).bind fun x vs => gks x (fun ks => .ok (ks.map VI.one) vs) .st := (rfl)
theorem o_dinT {neg : Bool} {x : Str} {l : List (Key × PyData)} {vs : List VS} : dIn neg (.str x) (.dict (dK l)) vs = .ok (.bool (neg ^^ (valL l (.inr x)).isSome)) vs := o_din (key := .inr x)
theorem o_dinTL {neg : Bool} {x : Str} {l : List (Key × PyData)} {vs : List VS} : dIn neg (.str x) (lkd (dK l)) vs = .ok (.bool (neg ^^ (valL l (.inr x)).isSome)) vs := o_dinL (key := .inr x)
theorem o_dinIL {neg : Bool} {x : Int} {l : List (Key × PyData)} {vs : List VS} : dIn neg (.int x) (lkd (dK l)) vs = .ok (.bool (neg ^^ (valL l (.inl x)).isSome)) vs := o_dinL (key := .inl x)
theorem keyP_s {x : Str} : keyP (.str x) = some (.inr x) := (rfl)
section
variable {α : Type} [DecidableEq α] {κ : α → Key} {f : α → PyData}
def dF (κ : α → Key) (f : α → PyData) (ks : List α) : List (Key × PyData) := ks.map fun a => (κ a, f a)
def addk (ks : List α) (a : α) : List α := if a ∈ ks then ks else ks ++ [a]
def uniq (l : List α) : List α := l.foldl addk []
theorem dF_len {ks : List α} : (dF κ f ks).length = ks.length := List.length_map _
theorem dF_keys {ks : List α} : (dF κ f ks).map (fun p => kD p.1) = ks.map fun a => kD (κ a) := by unfold dF; rw [List.map_map]; rfl
theorem val_dF (inj : ∀ a b, κ a = κ b → a = b) (a : α) : ∀ {ks : List α}, valL (dF κ f ks) (κ a) = if a ∈ ks then some (f a) else none
  | [] => rfl
  | b :: ks => by
    show (if κ b = κ a then some (f b) else valL (dF κ f ks) (κ a)) = _
    by_cases h : b = a
    · subst h
      rw [if_pos rfl, if_pos List.mem_cons_self]
    · rw [if_neg fun e => h (inj _ _ e), val_dF inj a]
      by_cases m : a ∈ ks
      · rw [if_pos m, if_pos (List.mem_cons_of_mem _ m)]
      · rw [if_neg m, if_neg fun z => (List.mem_cons.mp z).elim (fun e => h e.symm) m]
theorem set_dF (inj : ∀ a b, κ a = κ b → a = b) (a : α) : ∀ {ks : List α}, setL (dF κ f ks) (κ a) (f a) = dF κ f ks
  | [] => rfl
  | b :: ks => by
    show (if κ b = κ a then (κ b, f a) else (κ b, f b)) :: setL (dF κ f ks) (κ a) (f a) = (κ b, f b) :: dF κ f ks
    rw [set_dF inj a]
    by_cases h : b = a
    · subst h; rw [if_pos rfl]
    · rw [if_neg fun e => h (inj _ _ e)]
theorem put_dF (inj : ∀ a b, κ a = κ b → a = b) {a : α} {ks : List α} : putL (dF κ f ks) (κ a) (f a) = dF κ f (addk ks a) := by
  unfold putL addk
  rw [val_dF inj]
  by_cases m : a ∈ ks
  · rw [if_pos m, if_pos m]; exact set_dF inj a
  · rw [if_neg m, if_neg m]
    show dF κ f ks ++ [(κ a, f a)] = _
    unfold dF
    rw [List.map_append]; rfl
theorem mem_addk {ks : List α} {a b : α} : b ∈ addk ks a ↔ b ∈ ks ∨ b = a := by
  unfold addk
  split
  · rename_i m
    exact ⟨.inl, fun h => h.elim id fun e => e ▸ m⟩
  · rw [List.mem_append, List.mem_singleton]
theorem nd_addk {ks : List α} {a : α} (h : ks.Nodup) : (addk ks a).Nodup := by
  unfold addk
  split
  · exact h
  · rename_i m
    exact List.nodup_append.mpr ⟨h, by simp, fun x hx y hy e => m (by rw [← List.mem_singleton.mp hy, ← e]; exact hx)⟩
theorem addk_len {ks : List α} {a : α} : (addk ks a).length ≤ ks.length + 1 := by
  unfold addk
  split
  · omega
  · rw [List.length_append]; exact Nat.le_refl _
theorem mem_fold {b : α} : ∀ {l ks : List α}, b ∈ l.foldl addk ks ↔ b ∈ ks ∨ b ∈ l
  | [], ks => by simp
  | a :: l, ks => by
    rw [List.foldl_cons, mem_fold, mem_addk, List.mem_cons]
    constructor
    · rintro ((h | h) | h)
      · exact .inl h
      · exact .inr (.inl h)
      · exact .inr (.inr h)
    · rintro (h | h | h)
      · exact .inl (.inl h)
      · exact .inl (.inr h)
      · exact .inr h
theorem nd_fold : ∀ {l ks : List α}, ks.Nodup → (l.foldl addk ks).Nodup
  | [], _, h => h
  | a :: l, ks, h => by rw [List.foldl_cons]; exact nd_fold (nd_addk h)
theorem mem_uniq {b : α} {l : List α} : b ∈ uniq l ↔ b ∈ l := by unfold uniq; rw [mem_fold]; simp
theorem nd_uniq {l : List α} : (uniq l).Nodup := nd_fold List.nodup_nil
theorem len_fold : ∀ {l ks : List α}, (l.foldl addk ks).length ≤ ks.length + l.length
  | [], ks => Nat.le_refl _
  | a :: l, ks => by
    rw [List.foldl_cons, List.length_cons]
    have := len_fold (l := l) (ks := addk ks a)
    have := addk_len (ks := ks) (a := a)
    omega
end
section
variable {vs0 vs : List VS} {bd : Bd} {body : VF}
theorem for_pre {α : Type} {w : α → VI} {f : List α → List VS} : ∀ (l l0 : List α), (∀ l1 a l2, l0 ++ l = l1 ++ a :: l2 → ∀ K, turnV vs0 bd body (w a) (f l1) K = K (f (l1 ++ [a]))) → forV vs0 bd body (l.map w) (f l0) = .nx (f (l0 ++ l))
  | [], l0, _ => by rw [List.append_nil]; rfl
  | a :: l, l0, h => by
    rw [List.map_cons, for_c, h l0 a l rfl, for_pre l (l0 ++ [a]) (fun l1 b l2 e => h l1 b l2 (by rw [← e, List.append_assoc]; rfl)), List.append_assoc]; rfl
theorem for_pre' {α : Type} {w : α → VI} {f : List α → List VS} {l : List α} (h0 : f [] = vs) (h : ∀ l1 a l2, l = l1 ++ a :: l2 → ∀ K, turnV vs0 bd body (w a) (f l1) K = K (f (l1 ++ [a]))) : forV vs0 bd body (l.map w) vs = .nx (f l) := by
  rw [← h0]
  exact for_pre l [] h
theorem for_preF {α : Type} {w : α → VI} {F : VO} {its : List VI} (ef : forV vs0 bd body its vs = F) (f : List α → List VS) (l : List α) (hi : its = l.map w) (h0 : f [] = vs) (h : ∀ l1 a l2, l = l1 ++ a :: l2 → ∀ K, turnV vs0 bd body (w a) (f l1) K = K (f (l1 ++ [a]))) : F = .nx (f l) := by
  rw [← ef, hi]
  exact for_pre' h0 h
end
end
end Zx.V
namespace Zx.V
open PySem PySem.Spec L2
open Zx (R SV AO AH FE FA FT FS Md Bd It1 Src O RpS En Wd Fn opt nod)
def fIdx (ga gb : VE) : VE := fun vs => (ga vs).bind fun x vs => gl x (fun ds => (gb vs).bind fun y vs => opt (idxD (.list ds) y) (fun j => .ok (.int (j : Nat)) vs) .st) .st
theorem u_idx {ga gb : VE} {vs : List VS} : fIdx ga gb vs = (ga vs).bind fun x vs => gl x (fun ds => (gb vs).bind fun y vs => opt (idxD (.list ds) y) (fun j => .ok (.int (j : Nat)) vs) .st) .st := (rfl)
theorem ev_idx {D : List KD} {b b1 b2 fr fr1 fr2 : Bool} {k k1 k2 : Nat} {fa fb : FE} {ga gb : VE} (ha : EV D b1 k1 fr1 fa ga) (hb : EV D b2 k2 fr2 fb gb) (hk : k1 ≤ 9 := by decide) (hk2 : k2 ≤ 9 := by decide) : EV D b k fr (Zx.fIdx fa fb) (fIdx ga gb) := by
  intro h sl vs fs R nd
  refine (ha h sl vs fs R nd).ee fun x s t f1 r1 n1 _ => ?_
  cases x
  case list ds =>
    rw [gl_l]
    rw [r1.rb hk]
    dsimp only
    refine (hb (h ++ t) sl vs fs R.app nd).ee fun y s2 t2 f2 r2 n2 _ => ?_
    rw [r1.app.rb hk, r2.rb hk2]
    dsimp only
    cases idxD (.list ds) y with
    | some j => exact OutE.dd rfl
    | none => trivial
  all_goals (unfold gl; trivial)
def forVarEV (vs0 : List VS) (l : Nat) (bd : Bd) (body : VF) : Nat → Nat → List VS → VO
  | 0, j, vs => match vs[l]? with
    | some (.v (.list ds)) => if ds.length ≤ j then .nx vs else .st
    | _ => .st
  | c + 1, j, vs => match vs[l]? with
    | some (.v (.list ds)) => match ds[j]? with
      | none => .nx vs
      | some x => match goV bd (.two (.int (j : Nat)) x) vs with
        | none => .st
        | some vs1 => aftV vs0 (body vs1) (forVarEV vs0 l bd body c (j + 1))
    | _ => .st
def sForE (l : Nat) (bd : Bd) (body : VF) : VF := fun vs => match vs[l]? with
  | some (.v (.list ds)) => forVarEV vs l bd body ds.length 0 vs
  | _ => .st
section
variable {D : List KD} {A : List Nat} {b rb : Bool} {rk : Nat} {f : FS} {g : VF} {bd : Bd} {h0 : AH} {sl0 : List SV} {vs0 : List VS} {fs0 : List (List Nat)}
end
theorem u_forE {i : Nat} {bd : Bd} {a : VF} {vs : List VS} : sForE i bd a vs = gv vs[i]? (fun y => gl y (fun ds => forVarEV vs i bd a ds.length 0 vs) .st) .st := by
  unfold sForE gv gl
  rcases vs[i]? with _ | (_ | y | _ | _) <;> try rfl
  cases y <;> rfl
section
variable {vs0 vs : List VS} {bd : Bd} {body : VF}
end
def rzK (j k : Nat) (x : PyData) : Bool := decide (j = k) || (decide (j = 0) && !isLD x) || (decide (1 ≤ j ∧ 1 ≤ k) && match x with
  | .list ds => ds.all fun d => !isLD d
  | _ => !isLD x)
def rzL (k : Nat) : List Nat → List PyData → Bool
  | [], [] => true
  | j :: js, d :: ds => rzK j k d && rzL k js ds
  | _, _ => false
theorem rv_nld {h : AH} {b : Bool} {x : PyData} (c : isLD x = false) : ∀ {j k : Nat} {s : SV} {f : List Nat}, RV h b j s x f → RV h b k s x f
  | 0, 0, s, f, r => r
  | 0, k + 1, s, f, r => by unfold RV; exact .inl ⟨r.1, r.2, c⟩
  | j + 1, k, s, f, r => by
    have l : f = [] ∧ leaf b s x := by
      unfold RV at r
      rcases r with r | ⟨_, _, _, _, _, _, e, _⟩ | ⟨_, _, _, _, _, _, e, _⟩ | ⟨_, _, ds, _, _, q, e, _⟩ | ⟨_, _, ds, _, _, q, e, _⟩
      · exact ⟨r.1, r.2.1⟩
      · subst e; cases c
      · subst e; cases c
      · subst e
        have c : (!immL ds) = false := c
        rw [q.2] at c; cases c
      · subst e; cases c
    cases k with
    | zero => exact l
    | succ k => unfold RV; exact .inl ⟨l.1, l.2, c⟩
theorem rv_rz {h : AH} {b : Bool} {j k : Nat} {s : SV} {x : PyData} {f : List Nat} (r : RV h b j s x f) (e : rzK j k x = true) : RV h b k s x f := by
  unfold rzK at e
  rw [Bool.or_eq_true, Bool.or_eq_true] at e
  rcases e with (e | e) | e
  · rw [← of_decide_eq_true e]; exact r
  · rw [Bool.and_eq_true] at e
    exact rv_nld (by simpa using e.2) r
  · rw [Bool.and_eq_true] at e
    obtain ⟨h1, h2⟩ := of_decide_eq_true e.1
    have e := e.2
    split at e
    · rename_i ds
      obtain ⟨j, rfl⟩ : ∃ i, j = i + 1 := ⟨j - 1, by omega⟩
      obtain ⟨k, rfl⟩ : ∃ i, k = i + 1 := ⟨k - 1, by omega⟩
      obtain ⟨n, xs, fl, rfl, hn, rfl, q⟩ := RV.isL r
      refine RV.ofL hn ?_
      have go : ∀ {xs : List SV} {ds : List PyData} {fl : List (List Nat)}, (ds.all fun d => !isLD d) = true → Fa3 (RV h b j) xs ds fl → Fa3 (RV h b k) xs ds fl := by
        intro xs
        induction xs with
        | nil =>
          intro ds fl _ q
          cases ds with
          | nil => cases fl with
            | nil => exact trivial
            | cons _ _ => exact q.elim
          | cons _ _ => cases fl <;> exact q.elim
        | cons a xs ih =>
          intro ds fl e q
          cases ds with
          | nil => cases fl <;> exact q.elim
          | cons d ds => cases fl with
            | nil => exact q.elim
            | cons f fl =>
              rw [List.all_cons, Bool.and_eq_true] at e
              exact ⟨rv_nld (by simpa using e.1) q.1, ih e.2 q.2⟩
      exact go e q
    · exact rv_nld (by simpa using e) r
theorem rst_fa {h : AH} {b : Bool} {k : Nat} : ∀ {js : List Nat} {ss : List SV} {ds : List PyData} {fps : List (List Nat)}, RSt h (js.map fun j => (b, j)) ss (ds.map VS.v) fps → rzL k js ds = true → Fa3 (RV h b k) ss ds fps
  | [], ss, ds, fps, r, e => by
    obtain ⟨h1, h2, h3⟩ := (show ss = [] ∧ ds.map VS.v = [] ∧ fps = [] from r)
    have : ds = [] := List.map_eq_nil_iff.mp h2
    subst this h1 h3
    exact trivial
  | j :: js, ss, ds, fps, r, e => by
    obtain ⟨s, sl', v, vs', f, fs', h1, h2, h3, r1, r2⟩ := r
    cases ds with
    | nil => cases h2
    | cons d ds =>
      rw [List.map_cons] at h2
      injection h2 with e1 e2
      subst e1 e2 h1 h3
      unfold rzL at e
      rw [Bool.and_eq_true] at e
      exact ⟨rv_rz r1 e.1, rst_fa r2 e.2⟩
def fTupX (k : Nat) (js : List Nat) (qa : VA) : VE := fun vs => (qa vs).bind fun ds vs => if (decide (ds.length ≤ 1000) && rzL k js ds && !immL ds) = true then .ok (.tuple ds) vs else .st
theorem xv_tupOX {D : List KD} {b : Bool} {k : Nat} {js : List Nat} {ra : FA} {qa : VA} (ha : AX D (js.map fun j => (b, j)) ra qa) : XV D b (k + 1) (Zx.fTupO ra) (fTupX k js qa) := by
  intro h sl vs fs R nd
  have o := ha h sl vs fs R nd
  unfold fTupX Zx.fTupO
  generalize qa vs = r at o ⊢
  generalize ra sl h = q at o ⊢
  cases r with
  | st => trivial
  | rz c =>
    obtain ⟨t, rfl⟩ := o
    exact ⟨t, rfl⟩
  | ok ds vs1 =>
    obtain ⟨ss, h1, fs1, fps, rfl, G, R1, n1, d1, od1⟩ := o
    dsimp only [VR.bind, Zx.R.bind]
    split
    · rename_i c
      rw [Bool.and_eq_true, Bool.and_eq_true] at c
      obtain ⟨⟨c1, c2⟩, c3⟩ := c
      have c1 := of_decide_eq_true c1
      have c3 : immL ds = false := by simpa using c3
      have q := rst_fa R1 c2
      rw [if_pos (by rw [q.len.1]; exact c1)]
      have ei : Zx.allI ss = none := by
        unfold Zx.allI
        cases e : Zx.allD ss with
        | none => rfl
        | some d2 =>
          dsimp only
          rw [fa_allD_eq q e, c3]; rfl
      rw [ei]
      have q2 : Fa3 (RV (h1 ++ [some (.tup ss)]) b k) ss ds fps := Fa3.imp (cs0 := fps) (fun _ _ _ _ p => RV.app p) (fun _ m => m) q
      have lt : ∀ a ∈ fps.flatten, a < h1.length := fun a m => by
        obtain ⟨l, hl, hm⟩ := List.mem_flatten.mp m
        obtain ⟨_, _, _, _, p⟩ := Fa3.mem q hl
        exact p.lt _ hm
      refine ⟨_, _, fs1, h1.length :: fps.flatten, rfl, G.app, RV.ofT (by rw [List.getElem?_append_right (Nat.le_refl _), Nat.sub_self]; rfl) c3 q2, List.nodup_cons.mpr ⟨fun m => Nat.lt_irrefl _ (lt _ m), n1⟩, fun a m => ?_, fun a m => ?_⟩
      · rcases List.mem_cons.mp m with rfl | m
        · exact fun z => Nat.lt_irrefl _ (G.R.lt _ z)
        · exact d1 a m
      · rcases List.mem_cons.mp m with rfl | m
        · exact .inr G.le
        · exact od1 a m
    · trivial
theorem u_tupX {k : Nat} {js : List Nat} {qa : VA} {vs : List VS} : fTupX k js qa vs = (qa vs).bind fun ds vs => if (decide (ds.length ≤ 1000) && rzL k js ds && !immL ds) = true then .ok (.tuple ds) vs else .st := (rfl)
def fTupM2 (k j1 j2 i : Nat) (gb : VE) : VE := fun vs => match vs[i]? with
  | some (.v x) => (gb vs).bind fun y vs' => if (rzK j1 k x && rzK j2 k y && !immL [x, y]) = true then .ok (.tuple [x, y]) (vs'.set i .un) else .st
  | _ => .st
theorem u_tupM2 {k j1 j2 i : Nat} {gb : VE} {vs : List VS} : fTupM2 k j1 j2 i gb vs = gv vs[i]? (fun x => (gb vs).bind fun y vs' => if (rzK j1 k x && rzK j2 k y && !immL [x, y]) = true then .ok (.tuple [x, y]) (vs'.set i .un) else .st) .st := by
  unfold fTupM2 gv
  rcases vs[i]? with _ | (_ | y | _ | _) <;> rfl
end Zx.V
namespace Zx.V
open PySem PySem.Spec L2
open Zx (R SV AO AH FE FA FT FS Md Bd It1 Src O RpS En Wd Fn opt nod orK pickF)
section
variable {D : List KD} {A1 A2 : List Nat} {rb : Bool} {rk : Nat} {f1 f2 : FS} {g1 g2 : VF} {o : Option Bool}
end
section
variable {b b1 b2 fr : Bool} {k k1 k2 : Nat}
end
end Zx.V
namespace Zx.V
open PySem PySem.Spec L2
open Zx (R SV AO AH FE FA FT FS Md Bd It1 Src O RpS En Wd Fn opt nod)
end Zx.V
namespace Zx.V
open PySem PySem.Spec L2
open Zx (R SV AO AH FE FA FT FS Md Bd It1 Src O RpS En Wd Fn opt nod imm immL mkv patOk leD)
end Zx.V
namespace Zx.V
open PySem PySem.Spec L2
open Zx (R SV AO AH FE FA FT FS Md Bd It1 Src O RpS En Wd Fn opt nod okR keyOf valS dctR)
theorem gdk_cases {α : Type} {x : PyData} {f : List (Key × PyData) → α} {d : α} : (∃ l, x = .dict (dK l) ∧ gdk x f d = f l) ∨ gdk x f d = d := by
  cases x with
  | dict ps =>
    unfold gdk
    dsimp only
    cases e : toL ps with
    | some l => exact .inl ⟨l, by rw [dK_toL e], rfl⟩
    | none => exact .inr rfl
  | _ => exact .inr rfl
section
variable {D : List KD} {b1 b2 fr fr1 fr2 : Bool} {k1 k2 : Nat} {fa fb fc : FE} {ga gb gc : VE}
def fDG2 (ga gb gc : VE) : VE := fun vs => (ga vs).bind fun x vs => gdk x (fun l => (gb vs).bind fun y vs => opt (keyP y) (fun key => (gc vs).bind fun z vs => match valL l key with | some u => .ok u vs | none => .ok z vs) .st) .st
end
end Zx.V
namespace Zx.V
open PySem PySem.Spec L2
open Zx (R SV AO AH FE FA FT FS Md Bd It1 Src O RpS En Wd Fn opt nod okR keyOf valS dctR dTwo)
section
variable {D : List KD} {b b1 b2 b3 b4 fr fr1 fr2 fr3 fr4 : Bool} {k k1 k2 k3 k4 : Nat} {fa fb fc fd : FE} {ga gb gc gd : VE}
theorem ev_dg2 (ha : EV D b1 k1 fr1 fa ga) (hb : EV D b2 k2 fr2 fb gb) (hc : EV D b3 k3 fr3 fc gc) (hk : k1 ≤ 1 := by decide) (hk3 : k3 = 0 := by decide) (hbb : (!b1 || b) = true := by decide) (hb3 : (!b3 || b) = true := by decide) : EV D b 0 fr (Zx.fDG2 fa fb fc) (fDG2 ga gb gc) := by
  subst hk3
  intro h sl vs fs R nd
  refine (ha h sl vs fs R nd).ee fun x s t f1 r1 n1 _ => ?_
  show OutE _ _ _ _ _ _ (gdk x (fun l => (gb vs).bind fun y vs => opt (keyP y) (fun key => (gc vs).bind fun z vs => match valL l key with | some u => VR.ok u vs | none => .ok z vs) .st) .st) _
  rcases gdk_cases (x := x) (f := fun l => (gb vs).bind fun y vs => opt (keyP y) (fun key => (gc vs).bind fun z vs => match valL l key with | some u => VR.ok u vs | none => .ok z vs) .st) (d := VR.st) with ⟨l, rfl, e⟩ | e
  · rw [e]
    obtain ⟨kvs0, fs0, k0, e0, _, _⟩ := dct_of r1
    rw [if_pos (by rw [e0]; rfl)]
    refine (hb (h ++ t) sl vs fs R.app nd).ee fun y s2 t2 f2 r2 n2 _ => ?_
    cases hk' : keyP y with
    | none => trivial
    | some key =>
      refine (hc (h ++ t ++ t2) sl vs fs R.app.app nd).ee fun z s3 t3 f3 r3 n3 _ => ?_
      obtain ⟨kvs, fs, k', e1, d, hk2⟩ := dct_of ((r1.app (t := t2)).app (t := t3))
      have e00 : k' = 0 := by omega
      subst e00
      show OutE _ _ _ _ _ _ (match valL l key with | some u => VR.ok u vs | none => .ok z vs) (Zx.dG2 s s2 s3 (h ++ t ++ t2 ++ t3))
      unfold Zx.dG2
      rw [key_rv (r2.app (t := t3)) hk', e1]
      dsimp only
      rcases DV.val key d with ⟨z1, z2⟩ | ⟨s', x', f, j, z1, z2, _, r4⟩
      · rw [z1, z2]
        exact ⟨rfl, s3, [], [], by rw [List.append_nil], by rw [List.append_nil]; exact RV.bm hb3 (show RV _ _ 0 _ _ _ from ⟨rfl, r3.2⟩), List.nodup_nil, fun _ _ m => by cases m⟩
      · rw [z1, z2]
        exact ⟨rfl, s', [], [], by rw [List.append_nil], by rw [List.append_nil]; exact RV.bm hbb (show RV _ _ 0 _ _ _ from ⟨rfl, r4.2⟩), List.nodup_nil, fun _ _ m => by cases m⟩
  · rw [e]
    trivial
end
end Zx.V
namespace Zx.V
open PySem PySem.Spec L2
open Zx (R SV AO AH FE FA FT FS Md Bd It1 Src O RpS En Wd Fn opt nod okR keyOf valS dctR dTwo)
def fmt1 (x : PyData) (vs : List VS) : VR PyData := match x with
  | .str y => if y.length ≤ sizeLine then .ok (.str y) vs else .st
  | .int i => if i.natAbs.log2 < 1920 then .ok (.str (toString i)) vs else .st
  | _ => .st
def fFmt (ga : VE) : VE := fun vs => (ga vs).bind fmt1
theorem u_fmt {ga : VE} {vs : List VS} : fFmt ga vs = (ga vs).bind fmt1 := (rfl)
def js1 (acc : Str) (x : PyData) (k : Str → VR PyData) : VR PyData := match x with
  | .str y => if (acc ++ y).length ≤ sizeLine then k (acc ++ y) else .st
  | _ => .st
def jsV : List VE → Str → VE
  | [], acc, vs => .ok (.str acc) vs
  | g :: gs, acc, vs => (g vs).bind fun x vs => js1 acc x fun a => jsV gs a vs
def fJs (gs : List VE) : VE := fun vs => jsV gs Str.empty vs
theorem u_js {gs : List VE} {vs : List VS} : fJs gs vs = jsV gs Str.empty vs := (rfl)
theorem js_n {acc : Str} {vs : List VS} : jsV [] acc vs = .ok (.str acc) vs := (rfl)
theorem js_c {g : VE} {gs : List VE} {acc : Str} {vs : List VS} : jsV (g :: gs) acc vs = (g vs).bind fun x vs => js1 acc x fun a => jsV gs a vs := (rfl)
section
variable {D : List KD} {b b1 fr fr1 : Bool} {k k1 : Nat} {fa : FE} {ga : VE}
inductive EJ (D : List KD) : List FE → List VE → Prop where
  | nil : EJ D [] []
  | cons {f : FE} {g : VE} {fs : List FE} {gs : List VE} {b : Bool} {k : Nat} {fr : Bool} (h : EV D b k fr f g) (r : EJ D fs gs) : EJ D (f :: fs) (g :: gs)
end
end Zx.V
namespace Zx.V
open PySem PySem.Spec L2
open Zx (R SV AO AH FE FA FT FS Md Bd It1 Src O RpS En Wd Fn opt nod okR keyOf valS dctR dTwo lookS)
def kin1 (neg : Bool) (tbl : List (Str × Str)) (x : PyData) (vs : List VS) : VR PyData := match x with
  | .str z => .ok (.bool (neg ^^ (lookS tbl z).isSome)) vs
  | _ => .st
def kix1 (tbl : List (Str × Str)) (x : PyData) (vs : List VS) : VR PyData := match x with
  | .str z => opt (lookS tbl z) (fun v => .ok (.str v) vs) .st
  | _ => .st
def kget1 (tbl : List (Str × Str)) (x y : PyData) (vs : List VS) : VR PyData := match x with
  | .str z => opt (lookS tbl z) (fun v => .ok (.str v) vs) (.ok y vs)
  | _ => .st
def fKIn (neg : Bool) (tbl : List (Str × Str)) (ga : VE) : VE := fun vs => (ga vs).bind fun x vs => kin1 neg tbl x vs
def fKIx (tbl : List (Str × Str)) (ga : VE) : VE := fun vs => (ga vs).bind fun x vs => kix1 tbl x vs
def fKGet (tbl : List (Str × Str)) (ga gb : VE) : VE := fun vs => (ga vs).bind fun x vs => (gb vs).bind fun y vs => kget1 tbl x y vs
theorem u_kin {neg : Bool} {tbl : List (Str × Str)} {ga : VE} {vs : List VS} : fKIn neg tbl ga vs = (ga vs).bind fun x vs => kin1 neg tbl x vs := (rfl)
theorem u_kix {tbl : List (Str × Str)} {ga : VE} {vs : List VS} : fKIx tbl ga vs = (ga vs).bind fun x vs => kix1 tbl x vs := (rfl)
theorem u_kget {tbl : List (Str × Str)} {ga gb : VE} {vs : List VS} : fKGet tbl ga gb vs = (ga vs).bind fun x vs => (gb vs).bind fun y vs => kget1 tbl x y vs := (rfl)
section
variable {D : List KD} {b b1 b2 fr fr1 fr2 : Bool} {k k1 k2 : Nat} {fa fb : FE} {ga gb : VE} {neg : Bool} {tbl : List (Str × Str)}
end
end Zx.V
namespace Zx.V
open PySem PySem.Spec L2
open Zx (R SV AO AH FE FA FT FS Md Bd It1 Src O RpS En Wd Fn opt nod okR keyOf valS dctR dTwo lookS rb rbL lcR lcOne lcPut nrz norm wipeS fzv fzL trimE)
end Zx.V
namespace Zx.V
open PySem PySem.Spec L2
open Zx (R SV AO AH FE FA FT FS Md Bd It1 Src O RpS En Wd Fn opt nod)
mutual
def upK : Nat → PyData → Bool
  | 0, x => !isLD x
  | k + 1, .list ds => upL k ds
  | k + 1, .dict ps => upD k ps
  | k + 1, .tuple ds => immL ds || upL k ds
  | _ + 1, x => true
def upL : Nat → List PyData → Bool
  | _, [] => true
  | k, d :: ds => upK k d && upL k ds
def upD : Nat → List (PyData × PyData) → Bool
  | _, [] => true
  | k, p :: ps => upK k p.2 && upD k ps
end
theorem upD_zip {k : Nat} : ∀ {ks : List Key} {ds : List PyData}, ks.length = ds.length → upD k (zipD ks ds) = true → upL k ds = true
  | [], [], _, _ => by unfold upL; rfl
  | key :: ks, d :: ds, h, e => by
    have e : upD k ((kD key, d) :: zipD ks ds) = true := e
    unfold upD at e
    rw [Bool.and_eq_true] at e
    unfold upL
    rw [e.1, upD_zip (Nat.succ.inj h) e.2]; rfl
  | [], d :: ds, h, _ => by cases h
  | k :: ks, [], h, _ => by cases h
theorem upD_zipN {k : Nat} : ∀ {ks : List NestedKey} {ds : List PyData}, ks.length = ds.length → upD k (zipN ks ds) = true → upL k ds = true
  | [], [], _, _ => by unfold upL; rfl
  | key :: ks, d :: ds, h, e => by
    have e : upD k ((key.data, d) :: zipN ks ds) = true := e
    unfold upD at e
    rw [Bool.and_eq_true] at e
    unfold upL
    rw [e.1, upD_zipN (Nat.succ.inj h) e.2]; rfl
  | [], d :: ds, h, _ => by cases h
  | k :: ks, [], h, _ => by cases h
theorem RV.up {h : AH} {b : Bool} : ∀ {k : Nat} {s : SV} {x : PyData} {f : List Nat}, RV h b k s x f → upK k x = true → RV h b (k + 1) s x f
  | 0, s, x, f, r, c => by
    unfold upK at c
    unfold RV
    exact .inl ⟨r.1, r.2, by simpa using c⟩
  | k + 1, s, x, f, r, c => by
    have lst : ∀ {xs : List SV} {ds : List PyData} {fs : List (List Nat)}, Fa3 (RV h b k) xs ds fs → upL k ds = true → Fa3 (RV h b (k + 1)) xs ds fs := by
      intro xs
      induction xs with
      | nil =>
        intro ds fs q c
        cases ds with
        | nil => cases fs with
          | nil => exact trivial
          | cons f fs => exact q.elim
        | cons d ds => cases fs <;> exact q.elim
      | cons a xs ih =>
        intro ds fs q c
        cases ds with
        | nil => cases fs <;> exact q.elim
        | cons d ds =>
          cases fs with
          | nil => exact q.elim
          | cons f fs =>
            unfold upL at c
            rw [Bool.and_eq_true] at c
            exact ⟨RV.up q.1 c.1, ih q.2 c.2⟩
    unfold RV at r
    unfold RV
    rcases r with r | ⟨n, xs, ds, fs, rfl, hn, rfl, rfl, r⟩ | ⟨n, xs, ds, fs, rfl, hn, rfl, rfl, r⟩ | ⟨n, xs, ds, fs, rfl, hn, rfl, rfl, r⟩ | ⟨n, xs, ds, fs, rfl, hn, rfl, rfl, r⟩
    · exact .inl r
    · exact .inr (.inl ⟨n, xs, ds, fs, rfl, hn, rfl, rfl, lst r (by unfold upK at c; exact c)⟩)
    · exact .inr (.inr (.inl ⟨n, xs, ds, fs, rfl, hn, rfl, rfl, lst r (upD_zip (ks := xs.map Prod.fst) (by have := r.len.1; simpa using this) (by unfold upK at c; exact c))⟩))
    · exact .inr (.inr (.inr (.inl ⟨n, xs, ds, fs, rfl, hn, rfl, rfl, lst r (by unfold upK at c; rw [hn.2, Bool.false_or] at c; exact c)⟩)))
    · exact .inr (.inr (.inr (.inr ⟨n, xs, ds, fs, rfl, ⟨hn.1, by omega⟩, rfl, rfl, lst r (upD_zipN (ks := xs.map Prod.fst) (by have := r.len.1; simpa using this) (by unfold Zx.tkD upK upD at c; exact (Bool.and_eq_true_iff.mp c).2))⟩)))
def fUp (k : Nat) (ga : VE) : VE := fun vs => (ga vs).bind fun x vs => if upK k x = true then .ok x vs else .st
section
variable {D : List KD} {b fr : Bool} {k : Nat} {fa : FE} {ga : VE}
end
end Zx.V
namespace Zx.V
open PySem PySem.Spec L2
open Zx (R SV AO AH FE FA FT FS Md Bd It1 Src O RpS En Wd Fn opt nod imm immL lim cutX allD)
theorem allD_map (ds : List PyData) : allD (ds.map SV.d) = some ds := by
  induction ds with
  | nil => rfl
  | cons d ds ih => rw [List.map_cons]; unfold allD; rw [ih]; rfl
abbrev whole (n : Nat) (lo hi : Option Int) : Prop := HT.sIx n 0 lo = 0 ∧ HT.sIx n n hi = n
def fSlU (ga : VE) (gl gh : VOo) : VE := fun vs => (ga vs).bind fun x vs => (gl vs).bind fun lo vs => (gh vs).bind fun hi vs => match x with
  | .tuple ds => if immL ds = true ∧ ¬ whole ds.length lo hi then .ok (.tuple (cutX ds lo hi)) vs else .st
  | _ => .st
def iTupU (ga : VE) : VSr := iTupl ga
def iAnyS (ga : VE) : VSr := fun vs => (ga vs).bind fun x vs => match x with
  | .tuple ds => .ok (ds.map .one) vs
  | .list ds => .ok (ds.map .one) vs
  | _ => .st
section
variable {D : List KD} {b b1 b2 fr fr1 : Bool} {k k1 k2 : Nat} {fa : FE} {ga : VE} {fl fh : List SV → AH → R (Option Int)} {gl gh : VOo}
end
end Zx.V
namespace Zx.V
open PySem PySem.Spec L2
open Zx (R SV AO AH FE FA FT FS Md Bd It1 Src O RpS En Wd Fn opt nod imm immL lim cutX allD)
def any1 (x : PyData) (vs : List VS) : VR (List VI) := match x with
  | .tuple ds => .ok (ds.map .one) vs
  | .list ds => .ok (ds.map .one) vs
  | _ => .st
theorem u_anyS {ga : VE} {vs : List VS} : iAnyS ga vs = (ga vs).bind any1 := (rfl)
theorem any_l {ds : List PyData} {vs : List VS} : any1 (.list ds) vs = .ok (ds.map .one) vs := (rfl)
theorem any_t {ds : List PyData} {vs : List VS} : any1 (.tuple ds) vs = .ok (ds.map .one) vs := (rfl)
theorem u_tupU {ga : VE} {vs : List VS} : iTupU ga vs = iTupl ga vs := (rfl)
def slU1 (lo hi : Option Int) (x : PyData) (vs : List VS) : VR PyData := match x with
  | .tuple ds => if immL ds = true ∧ ¬ whole ds.length lo hi then .ok (.tuple (cutX ds lo hi)) vs else .st
  | _ => .st
theorem u_slU {ga : VE} {gl gh : VOo} {vs : List VS} : fSlU ga gl gh vs = (ga vs).bind fun x vs => (gl vs).bind fun lo vs => (gh vs).bind fun hi vs => slU1 lo hi x vs := (rfl)
def up1 (k : Nat) (x : PyData) (vs : List VS) : VR PyData := if upK k x = true then .ok x vs else .st
theorem u_fUp {k : Nat} {ga : VE} {vs : List VS} : fUp k ga vs = (ga vs).bind (up1 k) := (rfl)
end Zx.V
namespace Zx.V
open PySem PySem.Spec L2
open Zx (R SV AO AH FE FA FT FS Md Bd It1 Src O RpS En Wd Fn opt nod imm immL lim cutX allD)
end Zx.V
namespace Zx.V
open PySem PySem.Spec L2
open Zx (SV AO AH FE FA FT FS Md Bd It1 Src O RpS En Wd inB iAdd iSub imm immL nod mulB divB modB powB lim flatD flatL isTy cutX kD opt wipeS lcR lcC R lcOneZ lcCZ lcPut nrz norm)
section
variable {D : List KD} {b b1 b2 b3 fr fr1 fr2 fr3 : Bool} {k k1 k2 k3 i : Nat} {fa fb fc : FE} {ga gb gc : VE} {ta tb : FT} {ua ub : VT} {ra : FA} {qa : VA} {KL : List KD}
end
end Zx.V
namespace Zx.V
open PySem PySem.Spec L2
open Zx (R SV AO AH FE FA FT FS Md Bd It1 Src O RpS En Wd Fn opt nod kN kNs kN_data data_kN valT setT putT tkOf dktOf mkN tkD zipN sortD patOk leD)
def tL (l : List (NestedKey × PyData)) : PyData := .dict (mkN :: l.map fun p => (p.1.data, p.2))
def toTs : List (PyData × PyData) → Option (List (NestedKey × PyData))
  | [] => some []
  | p :: r => match kN p.1 with
    | some k => match toTs r with
      | some q => some ((k, p.2) :: q)
      | none => none
    | none => none
def isMN : PyData × PyData → Bool
  | (.bool true, .none) => true
  | _ => false
def toT : PyData → Option (List (NestedKey × PyData))
  | .dict (m :: ps) => if isMN m = true then toTs ps else none
  | _ => none
theorem isMN_eq {p : PyData × PyData} (h : isMN p = true) : p = mkN := by
  unfold isMN at h
  split at h
  · rfl
  · cases h
theorem toTs_map : ∀ (l : List (NestedKey × PyData)), toTs (l.map fun p => (p.1.data, p.2)) = some l
  | [] => rfl
  | p :: r => by
    rw [List.map_cons]
    unfold toTs
    dsimp only
    rw [data_kN, toTs_map r]
theorem toT_tL (l : List (NestedKey × PyData)) : toT (tL l) = some l := by
  unfold tL toT
  show (if isMN mkN = true then _ else _) = _
  rw [if_pos (show isMN mkN = true from rfl)]; exact toTs_map l
theorem toTs_eq : ∀ {ps : List (PyData × PyData)} {l : List (NestedKey × PyData)}, toTs ps = some l → ps = l.map fun p => (p.1.data, p.2)
  | [], l, e => by unfold toTs at e; cases e; rfl
  | p :: r, l, e => by
    unfold toTs at e
    split at e
    · rename_i k hk
      split at e
      · rename_i q hq
        cases e
        rw [List.map_cons, ← toTs_eq hq, kN_data _ _ hk]
      · cases e
    · cases e
theorem toT_eq {x : PyData} {l : List (NestedKey × PyData)} (e : toT x = some l) : x = tL l := by
  unfold toT at e
  split at e
  · split at e
    · rename_i h
      rw [isMN_eq h, toTs_eq e]; rfl
    · cases e
  · cases e
def keyT : PyData → Option NestedKey
  | .tuple ds => match kN (.tuple ds) with
    | some k => if k.depth ≤ 8 then some k else none
    | none => none
  | _ => none
theorem tkOf_d {x : PyData} : tkOf (.d x) = keyT x := by cases x <;> rfl
mutual
theorem imm_data : ∀ k : NestedKey, Zx.imm k.data = true
  | .none => by unfold NestedKey.data Zx.imm; rfl
  | .num _ => by unfold NestedKey.data Zx.imm; rfl
  | .text _ => by unfold NestedKey.data Zx.imm; rfl
  | .tup ks => by unfold NestedKey.data Zx.imm; exact immL_datas ks
theorem immL_datas : ∀ ks : List NestedKey, Zx.immL (NestedKey.datas ks) = true
  | [] => by unfold NestedKey.datas Zx.immL; rfl
  | k :: ks => by unfold NestedKey.datas Zx.immL; rw [imm_data k, immL_datas ks]; rfl
end
theorem keyT_data {x : PyData} {k : NestedKey} (e : keyT x = some k) : x = k.data := by
  unfold keyT at e
  split at e
  · split at e
    · rename_i k' hk
      split at e
      · cases e; exact (kN_data _ _ hk).symm
      · cases e
    · cases e
  · cases e
theorem keyT_imm {x : PyData} {k : NestedKey} (e : keyT x = some k) : Zx.imm x = true := by rw [keyT_data e]; exact imm_data k
theorem isLD_imm {x : PyData} (c : Zx.imm x = true) : isLD x = false := by
  cases x with
  | list _ => unfold Zx.imm at c; cases c
  | dict _ => unfold Zx.imm at c; cases c
  | tuple ds =>
    unfold Zx.imm at c
    show (!Zx.immL ds) = false
    rw [c]; rfl
  | _ => rfl
section
variable {D : List KD} {A : List Nat} {b b1 b2 b3 rb fr fr1 fr2 fr3 : Bool} {k k1 k2 k3 i rk m : Nat} {fa fb fc fe : FE} {ga gb gc ge : VE} {h : AH} {sl : List SV} {vs : List VS} {fs : List (List Nat)}
def NV (h : AH) (b : Bool) (k : Nat) (kvs : List (NestedKey × SV)) (l : List (NestedKey × PyData)) (fs : List (List Nat)) : Prop := kvs.map Prod.fst = l.map Prod.fst ∧ Fa3 (RV h b k) (kvs.map Prod.snd) (l.map Prod.snd) fs
theorem tkD_tL {ks : List NestedKey} {ds : List PyData} (h : ks.length = ds.length) : tkD ks ds = tL (ks.zip ds) := by
  unfold tkD tL zipN
  congr 2
  induction ks generalizing ds with
  | nil => cases ds with
    | nil => rfl
    | cons d ds => cases h
  | cons k ks ih => cases ds with
    | nil => cases h
    | cons d ds => rw [List.map_cons, List.zip_cons_cons, List.zip_cons_cons, List.map_cons, ih (Nat.succ.inj h)]
theorem tL_inj {l l' : List (NestedKey × PyData)} (e : tL l = tL l') : l = l' := by
  have := congrArg toT e
  rw [toT_tL, toT_tL] at this
  exact Option.some.inj this
theorem tL_dK {l : List (NestedKey × PyData)} {ks : List Key} {ds : List PyData} (e : tL l = .dict (zipD ks ds)) : False := by
  have e := PyData.dict.inj e
  cases ks with
  | nil => unfold zipD at e; rw [List.map_nil, List.zip_nil_left] at e; cases e
  | cons k ks => cases ds with
    | nil => cases e
    | cons d ds =>
      have e2 := congrArg Prod.fst (List.cons.inj e).1
      cases k <;> cases e2
theorem rv_tL {s : SV} {l : List (NestedKey × PyData)} {f : List Nat} (r : RV h b (k + 1) s (tL l) f) : ∃ n kvs fl, s = .r n ∧ f = n :: fl.flatten ∧ h[n]? = some (some (.dkt kvs)) ∧ 60 ≤ k ∧ NV h b k kvs l fl := by
  unfold RV at r
  rcases r with q | ⟨n', xs, ds', fs, rfl, hn, e, rfl, q⟩ | ⟨n', kvs, ds', fs, rfl, hn, e, rfl, q⟩ | ⟨n', xs, ds', fs, rfl, hn, e, rfl, q⟩ | ⟨n', kvs, ds', fs, rfl, hn, e, rfl, q⟩
  · cases q.2.2
  · cases e
  · exact (tL_dK e).elim
  · cases e
  · have hl := q.len.1
    rw [List.length_map] at hl
    rw [tkD_tL (by rw [List.length_map]; exact hl)] at e
    have e := tL_inj e
    refine ⟨n', kvs, fs, rfl, rfl, hn.1, hn.2, ?_, ?_⟩
    · rw [e, List.map_fst_zip (by rw [List.length_map]; omega)]
    · rw [e, List.map_snd_zip (by rw [List.length_map]; omega)]
      exact q
theorem RV.ofN {kvs : List (NestedKey × SV)} {l : List (NestedKey × PyData)} {fl : List (List Nat)} {n : Nat} (hk : 60 ≤ k) (hn : h[n]? = some (some (.dkt kvs))) (d : NV h b k kvs l fl) : RV h b (k + 1) (.r n) (tL l) (n :: fl.flatten) := by
  unfold RV
  refine .inr (.inr (.inr (.inr ⟨n, kvs, l.map Prod.snd, fl, rfl, ⟨hn, hk⟩, ?_, rfl, d.2⟩)))
  rw [d.1, tkD_tL (by rw [List.length_map, List.length_map])]
  congr 1
  clear hn d
  induction l with
  | nil => rfl
  | cons p l ih => rw [List.map_cons, List.map_cons, List.zip_cons_cons, ← ih]
theorem NV.len {kvs : List (NestedKey × SV)} {l : List (NestedKey × PyData)} {fs : List (List Nat)} (d : NV h b k kvs l fs) : kvs.length = l.length := by
  have := congrArg List.length d.1
  rwa [List.length_map, List.length_map] at this
theorem NV.val (key : NestedKey) : ∀ {kvs : List (NestedKey × SV)} {l : List (NestedKey × PyData)} {fs : List (List Nat)}, NV h b k kvs l fs → (valT kvs key = none ∧ valT l key = none) ∨ ∃ (s : SV) (x : PyData) (f : List Nat) (j : Nat), valT kvs key = some s ∧ valT l key = some x ∧ fs[j]? = some f ∧ RV h b k s x f
  | [], [], fs, d => .inl ⟨rfl, rfl⟩
  | p :: kvs, [], fs, d => by cases d.1
  | [], p :: l, fs, d => by cases d.1
  | p :: kvs, q :: l, [], d => d.2.elim
  | p :: kvs, q :: l, f :: fs, ⟨d1, d2, d3⟩ => by
    have e1 : p.1 = q.1 := (List.cons.inj d1).1
    have e2 : kvs.map Prod.fst = l.map Prod.fst := (List.cons.inj d1).2
    unfold valT
    rw [List.find?_cons, List.find?_cons, e1]
    by_cases h : q.1 = key
    · rw [decide_eq_true h]
      exact .inr ⟨p.2, q.2, f, 0, rfl, rfl, rfl, d2⟩
    · rw [decide_eq_false h]
      rcases NV.val key ⟨e2, d3⟩ with z | ⟨s, x, f', j, h1, h2, h3, h4⟩
      · exact .inl z
      · exact .inr ⟨s, x, f', j + 1, h1, h2, h3, h4⟩
theorem NV.map {key : NestedKey} {x : PyData} (c : Zx.imm x = true) : ∀ {kvs : List (NestedKey × SV)} {l : List (NestedKey × PyData)} {fs : List (List Nat)}, NV h b k kvs l fs → ∃ fs', NV h b k (kvs.map (setT key (.d x))) (l.map (setT key x)) fs' ∧ fs'.flatten.Sublist fs.flatten
  | [], [], fs, d => ⟨fs, d, List.Sublist.refl _⟩
  | p :: kvs, [], fs, d => by cases d.1
  | [], p :: l, fs, d => by cases d.1
  | p :: kvs, q :: l, [], d => d.2.elim
  | p :: kvs, q :: l, f :: fs, ⟨d1, d2, d3⟩ => by
    have e1 : p.1 = q.1 := (List.cons.inj d1).1
    have e2 : kvs.map Prod.fst = l.map Prod.fst := (List.cons.inj d1).2
    obtain ⟨fs', ⟨z1, z2⟩, z3⟩ := NV.map (key := key) c ⟨e2, d3⟩
    rw [List.map_cons, List.map_cons]
    unfold setT at z1 z2 ⊢
    by_cases h : q.1 = key
    · rw [if_pos (e1.trans h), if_pos h]
      refine ⟨[] :: fs', ⟨?_, RV.dk (isLD_imm c), z2⟩, ?_⟩
      · rw [List.map_cons, List.map_cons, z1, e1]
      · rw [List.flatten_cons, List.flatten_cons, List.nil_append]
        exact z3.trans (List.sublist_append_right _ _)
    · rw [if_neg (fun z => h (e1.symm.trans z)), if_neg h]
      refine ⟨f :: fs', ⟨?_, d2, z2⟩, ?_⟩
      · rw [List.map_cons, List.map_cons, z1, e1]
      · rw [List.flatten_cons, List.flatten_cons]
        exact List.Sublist.append (List.Sublist.refl _) z3
theorem NV.put {key : NestedKey} {x : PyData} (c : Zx.imm x = true) {kvs : List (NestedKey × SV)} {l : List (NestedKey × PyData)} {fs : List (List Nat)} (d : NV h b k kvs l fs) : ∃ fs', NV h b k (putT kvs key (.d x)) (putT l key x) fs' ∧ fs'.flatten.Sublist fs.flatten := by
  unfold putT
  rcases d.val key with ⟨z1, z2⟩ | ⟨s', x', f, j, z1, z2, _, _⟩
  · rw [z1, z2]
    refine ⟨fs ++ [[]], ⟨?_, ?_⟩, ?_⟩
    · show (kvs ++ [(key, SV.d x)]).map Prod.fst = (l ++ [(key, x)]).map Prod.fst
      rw [List.map_append, List.map_append, d.1]; rfl
    · show Fa3 _ ((kvs ++ [(key, SV.d x)]).map Prod.snd) ((l ++ [(key, x)]).map Prod.snd) _
      rw [List.map_append, List.map_append]
      exact Fa3.app (show Fa3 (RV h b k) [.d x] [x] [[]] from ⟨RV.dk (isLD_imm c), trivial⟩) d.2
    · rw [List.flatten_append]
      simp
  · rw [z1, z2]
    exact d.map c
theorem tk_rv {s : SV} {x : PyData} {f : List Nat} {key : NestedKey} (r : RV h b k s x f) (e : keyT x = some key) : tkOf s = some key := by
  obtain ⟨rfl, _⟩ := r.imm (keyT_imm e)
  rw [tkOf_d]; exact e
def fDkt : VE := fun vs => .ok (tL []) vs
def tIn (neg : Bool) : PyData → PyData → List VS → VR PyData := fun y x vs => match keyT y, toT x with
  | some key, some l => .ok (.bool (neg ^^ (valT l key).isSome)) vs
  | _, _ => .st
def tGet : PyData → PyData → List VS → VR PyData := fun x y vs => match keyT y, toT x with
  | some key, some l => match valT l key with
    | some u => if Zx.imm u = true then .ok u vs else .st
    | none => .st
  | _, _ => .st
def fTIn (neg : Bool) (ga gb : VE) : VE := fBin (tIn neg) ga gb
def fTGet (ga gb : VE) : VE := fBin tGet ga gb
def gLenT : List PyData → List VS → VR PyData := fun ds vs => match ds with
  | [x] => match toT x with
    | some l => .ok (.int l.length) vs
    | none => .st
  | _ => .st
def gListT : List PyData → List VS → VR PyData := fun ds vs => match ds with
  | [x] => match toT x with
    | some l => .ok (.list (l.map fun p => p.1.data)) vs
    | none => .st
  | _ => .st
def gSortedT : List PyData → List VS → VR PyData := fun ds vs => match ds with
  | [x] => match toT x with
    | some l => match sortD (l.map fun p => p.1.data) with
      | some es => .ok (.list es) vs
      | none => .st
    | none => .st
  | _ => .st
theorem ev_dkt (hk : 60 ≤ k := by decide) : EV D b (k + 1) fr Zx.fDkt fDkt := by
  intro h sl vs fs R nd
  refine ⟨rfl, _, _, [h.length], rfl, ?_, by simp, fun _ n m => by rw [List.mem_singleton.mp m]; exact Nat.le_refl _⟩
  exact RV.ofN (kvs := []) (l := []) (fl := []) hk (by rw [List.getElem?_append_right (Nat.le_refl _), Nat.sub_self]; rfl) ⟨rfl, trivial⟩
theorem ov_tin {neg : Bool} : OpV b1 k1 b2 (k2 + 1) b k fr (fun y x h => Zx.tIn neg y x h) (tIn neg) := by
  intro h vs s t y x f1 f2 r1 n1 r2
  unfold tIn
  split
  · rename_i key l hk hl
    rw [toT_eq hl] at r2
    obtain ⟨n, kvs, fl, rfl, rfl, hn, h60, d⟩ := rv_tL r2
    show OutE _ _ _ _ _ _ _ (Zx.tIn neg s (.r n) h)
    unfold Zx.tIn
    have ed : dktOf h (.r n) = some kvs := by unfold dktOf; dsimp only; rw [hn]
    rw [tk_rv r1 hk, ed]
    dsimp only
    rcases d.val key with ⟨z1, z2⟩ | ⟨s', x', f, j, z1, z2, _, _⟩ <;> rw [z1, z2] <;> exact OutE.dd (x := .bool _) rfl
  · trivial
theorem ev_tin {neg : Bool} (ha : EV D b1 k1 fr1 fa ga) (hb : EV D b2 (k2 + 1) fr2 fb gb) : EV D b k fr (Zx.fTIn neg fa fb) (fTIn neg ga gb) := ev_bin ov_tin ha hb
theorem ov_tget : OpV b1 (k1 + 1) b2 k2 b k fr (fun x y h => Zx.tGet x y h) tGet := by
  intro h vs s t x y f1 f2 r1 n1 r2
  unfold tGet
  split
  · rename_i key l hk hl
    split
    · rename_i u hu
      split
      · rename_i c
        rw [toT_eq hl] at r1
        obtain ⟨n, kvs, fl, rfl, rfl, hn, h60, d⟩ := rv_tL r1
        rcases d.val key with ⟨z1, z2⟩ | ⟨s', x', f, j, z1, z2, _, r3⟩
        · rw [z2] at hu; cases hu
        · rw [z2] at hu
          cases hu
          obtain ⟨rfl, rfl⟩ := r3.imm c
          show OutE _ _ _ _ _ _ _ (Zx.tGet (.r n) t h)
          unfold Zx.tGet
          have ed : dktOf h (.r n) = some kvs := by unfold dktOf; dsimp only; rw [hn]
          rw [tk_rv r2 hk, ed]
          dsimp only
          rw [z1]
          exact ⟨rfl, .d u, [], [], by rw [List.append_nil], RV.dk (isLD_imm c), List.nodup_nil, fun _ _ m => by cases m⟩
      · trivial
    · trivial
  · trivial
theorem ev_tget (ha : EV D b1 (k1 + 1) fr1 fa ga) (hb : EV D b2 k2 fr2 fb gb) : EV D b k fr (Zx.fTGet fa fb) (fTGet ga gb) := ev_bin ov_tget ha hb
theorem cv_lenT : CbV [(b1, k1 + 1)] b k fr Zx.gLenT gLenT := by
  intro h vs ss ds r
  obtain ⟨s, x, f, rfl, rfl, r1⟩ := ra_one r
  unfold gLenT
  split
  · rename_i x e
    cases e
    split
    · rename_i l hl
      have r1 : RV h b1 (k1 + 1) s x f := r1
      rw [toT_eq hl] at r1
      obtain ⟨n, kvs, fl, rfl, rfl, hn, h60, d⟩ := rv_tL r1
      unfold Zx.gLenT
      dsimp only
      have ed : dktOf h (.r n) = some kvs := by unfold dktOf; dsimp only; rw [hn]
      rw [ed]
      dsimp only
      rw [d.len]
      exact OutE.dd (x := .int _) rfl
    · trivial
  · rename_i hx; exact (hx _ rfl).elim
theorem tv_data {kvs : List (NestedKey × SV)} {l : List (NestedKey × PyData)} {fs : List (List Nat)} (d : NV h b k kvs l fs) : (kvs.map fun p => p.1.data) = l.map fun p => p.1.data := by
  have := congrArg (List.map NestedKey.data) d.1
  rw [List.map_map, List.map_map] at this
  exact this
theorem cv_listT : CbV [(b1, k1 + 1)] b 1 fr Zx.gListT gListT := by
  intro h vs ss ds r
  obtain ⟨s, x, f, rfl, rfl, r1⟩ := ra_one r
  unfold gListT
  split
  · rename_i x e
    cases e
    split
    · rename_i l hl
      have r1 : RV h b1 (k1 + 1) s x f := r1
      rw [toT_eq hl] at r1
      obtain ⟨n, kvs, fl, rfl, rfl, hn, h60, d⟩ := rv_tL r1
      unfold Zx.gListT
      dsimp only
      have ed : dktOf h (.r n) = some kvs := by unfold dktOf; dsimp only; rw [hn]
      rw [ed]
      dsimp only
      have e3 : (kvs.map fun p => SV.d p.1.data) = (l.map fun p => p.1.data).map SV.d := by
        rw [← tv_data d, List.map_map]; rfl
      rw [e3]
      exact fresh_lst (fa_leaf _)
    · trivial
  · rename_i hx; exact (hx _ rfl).elim
theorem cv_sortedT : CbV [(b1, k1 + 1)] b 1 fr Zx.gSortedT gSortedT := by
  intro h vs ss ds r
  obtain ⟨s, x, f, rfl, rfl, r1⟩ := ra_one r
  unfold gSortedT
  split
  · rename_i x e
    cases e
    split
    · rename_i l hl
      split
      · rename_i es hs
        have r1 : RV h b1 (k1 + 1) s x f := r1
        rw [toT_eq hl] at r1
        obtain ⟨n, kvs, fl, rfl, rfl, hn, h60, d⟩ := rv_tL r1
        unfold Zx.gSortedT
        dsimp only
        have ed : dktOf h (.r n) = some kvs := by unfold dktOf; dsimp only; rw [hn]
        rw [ed]
        dsimp only
        rw [tv_data d, hs]
        exact fresh_lst (fa_leaf es)
      · trivial
    · trivial
  · rename_i hx; exact (hx _ rfl).elim
def sTStore (i : Nat) (gi ge : VE) : VF := fun vs => (ge vs).thn vs fun x vs => match gi vs with
  | .ok y _ => match keyT y with
    | some key => match vs[i]? with
      | some (.v z) => match toT z with
        | some l => if (decide (l.length < 1000000) && Zx.imm x) = true then .nx (vs.set i (.v (tL (putT l key x)))) else .st
        | none => .st
      | _ => .st
    | none => .st
  | _ => .st
theorem sv_tstore {fi : FE} {gi : VE} (hi : EV D b2 k2 fr2 fi gi) (he : XV D b1 0 fe ge) (e : D[i]? = some (b, k + 1) := by rfl) : SVp D [] rb rk (Zx.sTStore (Zx.fVar i) fi fe) (sTStore i gi ge) := by
  intro h sl vs fs R nd
  refine (he h sl vs fs R nd).thn R nd fun x vs1 s h1 fs1 fp G r n1 d o => ?_
  split
  · rename_i y vs2 hy
    split
    · rename_i key hk
      split
      · rename_i z ev
        split
        · rename_i l hl
          split
          · rename_i hlen
            rw [Bool.and_eq_true] at hlen
            have hc := hlen.2
            have hlen := of_decide_eq_true hlen.1
            rw [toT_eq hl] at ev
            obtain ⟨si, vi, f, e1, e2, e3, ri⟩ := G.R.get e
            rw [ev] at e2
            cases e2
            obtain ⟨n, kvs, fl, rfl, rfl, hn, h60, dv⟩ := rv_tL (show RV h1 b (k + 1) si (tL l) f from ri)
            have es0 : s = .d x := leaf_imm r.2 hc
            subst es0
            have hv : Zx.fVar i sl h1 = .ok (.r n) h1 := by
              unfold Zx.fVar
              rw [e1]
            show OutS _ _ _ _ _ _ _ _ ((Zx.fVar i sl h1).thn sl fun s' h2 => (fi sl h2).thn sl fun t h3 => match Zx.putN s' t (.d x) h3 with | some h4 => .nx sl h4 | none => .st)
            rw [hv]
            show OutS _ _ _ _ _ _ _ _ ((fi sl h1).thn sl fun t h3 => match Zx.putN (.r n) t (.d x) h3 with | some h4 => .nx sl h4 | none => .st)
            have oi := hi h1 sl vs1 fs1 G.R G.nd
            rw [hy] at oi
            obtain ⟨rfl, sy, t2, fy, e4, r4, _, _⟩ := oi
            rw [e4]
            show OutS _ _ _ _ _ _ _ _ (match Zx.putN (.r n) sy (.d x) (h1 ++ t2) with | some h4 => .nx sl h4 | none => .st)
            have e5 : (h1 ++ t2)[n]? = some (some (.dkt kvs)) := by rw [List.getElem?_append_left (List.getElem?_eq_some_iff.mp hn).1, hn]
            have hp : Zx.putN (.r n) sy (.d x) (h1 ++ t2) = some ((h1 ++ t2).set n (some (.dkt (putT kvs key (.d x))))) := by
              unfold Zx.putN
              rw [tk_rv r4 hk]
              have : dktOf (h1 ++ t2) (.r n) = some kvs := by unfold dktOf; dsimp only; rw [e5]
              rw [this]
              dsimp only
              rw [if_pos (by rw [dv.len]; exact hlen)]
            rw [hp]
            have G2 := G.app (t := t2)
            have dv2 : NV (h1 ++ t2) b k kvs l fl := ⟨dv.1, Fa3.imp (cs0 := fl) (fun _ _ _ _ p => RV.app p) (fun _ m => m) dv.2⟩
            obtain ⟨fl', dv3, sb⟩ := NV.put (key := key) hc dv2
            obtain ⟨nn, dd⟩ := nd_at G.nd e3
            have hlt := (List.getElem?_eq_some_iff.mp e5).1
            have R1 : RSt ((h1 ++ t2).set n (some (.dkt (putT kvs key (.d x))))) D sl (vs2.set i .un) (fs1.set i []) := (G2.R.drop i).frame fun a ha => List.getElem?_set_ne fun (e : n = a) => dd n List.mem_cons_self (e ▸ ha)
            have nn' := List.nodup_cons.mp nn
            have nfl : n ∉ fl'.flatten := fun z => nn'.1 (sb.subset z)
            have dv4 : NV ((h1 ++ t2).set n (some (.dkt (putT kvs key (.d x))))) b k (putT kvs key (.d x)) (putT l key x) fl' := ⟨dv3.1, Fa3.imp (cs0 := fl') (fun _ _ c hc' p => p.frame fun a ma => List.getElem?_set_ne fun (e : n = a) => nfl (by rw [e]; exact List.mem_flatten.mpr ⟨c, hc', ma⟩)) (fun _ m => m) dv3.2⟩
            have R2 := R1.set (s' := .r n) (v' := .v (tL (putT l key x))) (f' := n :: fl'.flatten) e (RV.ofN h60 (by rw [List.getElem?_set_self hlt]) dv4)
            have es : sl.set i (.r n) = sl := by
              obtain ⟨hi, e1⟩ := List.getElem?_eq_some_iff.mp e1
              rw [← e1]; exact List.set_getElem_self hi
            rw [es, List.set_set, List.set_set] at R2
            have sub : ∀ a ∈ n :: fl'.flatten, a ∈ n :: fl.flatten := fun a ha => by
              rcases List.mem_cons.mp ha with rfl | ha
              · exact List.mem_cons_self
              · exact List.mem_cons_of_mem _ (sb.subset ha)
            refine ⟨sl, _, fs1.set i (n :: fl'.flatten), rfl, ⟨R2, nd_set G.nd (List.nodup_cons.mpr ⟨nfl, nn'.2.sublist sb⟩) fun a ha z => ?_, fun a ha => ?_, fun a ha hz => ?_, by rw [List.length_set]; exact G2.le⟩, Keep.same⟩
            · exact dd a (sub a ha) z
            · rcases mem_set ha with z | z
              · exact G.old a (mem_at e3 (sub a z))
              · exact G.old a (mem_rest z)
            · rw [List.getElem?_set_ne fun e => ?_, G2.fr a ha hz]
              subst e
              rcases G.old n (mem_at e3 List.mem_cons_self) with z | z
              · exact hz z
              · omega
          · trivial
        · trivial
      · trivial
    · trivial
  · trivial
def fDktO (ga gb : VE) : VE := fun vs => (ga vs).bind fun x vs => (gb vs).bind fun y vs => match keyT x with
  | some key => if Zx.imm y = true then .ok (tL [(key, y)]) vs else .st
  | none => .st
theorem ev_dkt1 (ha : EV D b1 k1 fr1 fa ga) (hb : EV D b2 k2 fr2 fb gb) (h60 : 60 ≤ k := by decide) : EV D b (k + 1) fr (Zx.fDktO fa fb) (fDktO ga gb) := by
  intro h sl vs fs R nd
  have o := ha (h ++ [some (.dkt [])]) sl vs fs R.app nd
  unfold fDktO Zx.fDktO
  generalize ga vs = r at o ⊢
  generalize fa sl (h ++ [some (.dkt [])]) = q at o ⊢
  cases r with
  | ok x vs' =>
    obtain ⟨rfl, s, t, fp, rfl, h3, h4⟩ := o
    have o2 := hb (h ++ [some (.dkt [])] ++ t) sl vs' fs (RSt.app (RSt.app R)) nd
    show OutE _ _ _ _ _ _ ((gb vs').bind fun y vs => match (generalizing := false) keyT x with | some key => if Zx.imm y = true then .ok (tL [(key, y)]) vs else .st | none => .st) ((fb sl (h ++ [some (.dkt [])] ++ t)).bind fun v h2 => Zx.tOne h.length s v h2)
    generalize gb vs' = r2 at o2 ⊢
    generalize fb sl (h ++ [some (.dkt [])] ++ t) = q2 at o2 ⊢
    cases r2 with
    | ok y vs2 =>
      obtain ⟨rfl, s2, t2, fp2, rfl, k3, k4, k5⟩ := o2
      show OutE _ _ _ _ _ _ (match keyT x with | some key => if Zx.imm y = true then .ok (tL [(key, y)]) vs2 else .st | none => .st) (Zx.tOne h.length s s2 (h ++ [some (.dkt [])] ++ t ++ t2))
      split
      · rename_i key hk
        split
        · rename_i c
          obtain ⟨rfl, rfl⟩ := k3.imm c
          have hL : (h ++ [some (AO.dkt [])] ++ t ++ t2)[h.length]? = some (some (.dkt [])) := by
            rw [List.append_assoc, List.append_assoc, List.getElem?_append_right (Nat.le_refl _), Nat.sub_self]; rfl
          have hst : (h ++ [some (AO.dkt [])] ++ t ++ t2).set h.length (some (.dkt [(key, .d y)])) = h ++ ([some (.dkt [(key, .d y)])] ++ (t ++ t2)) := by
            rw [List.append_assoc, List.append_assoc, List.set_append_right _ _ (Nat.le_refl _), Nat.sub_self]
            simp
          unfold Zx.tOne
          rw [tk_rv h3 hk, hL]
          dsimp only
          rw [hst]
          refine ⟨rfl, .r h.length, [some (.dkt [(key, .d y)])] ++ (t ++ t2), [h.length], rfl, ?_, by simp, fun _ a m => ?_⟩
          · refine RV.ofN (l := [(key, y)]) (kvs := [(key, .d y)]) (fl := [[]]) h60 ?_ ⟨rfl, ⟨RV.dk (isLD_imm c), trivial⟩⟩
            rw [List.getElem?_append_right (Nat.le_refl _), Nat.sub_self]; rfl
          · rw [List.mem_singleton.mp m]; exact Nat.le_refl _
        · trivial
      · trivial
    | rz c =>
      obtain ⟨t2, rfl⟩ := o2
      exact ⟨[some (.dkt [])] ++ (t ++ t2), by simp only [List.append_assoc]; rfl⟩
    | st => trivial
  | rz c =>
    obtain ⟨t, rfl⟩ := o
    exact ⟨[some (.dkt [])] ++ t, by simp only [List.append_assoc]; rfl⟩
  | st => trivial
end
section
variable {vs : List VS} {ga gb : VE} {l : List (NestedKey × PyData)} {neg : Bool}
theorem u_dkt : fDkt vs = .ok (tL []) vs := (rfl)
theorem u_tin : fTIn neg ga gb vs = (ga vs).bind fun x vs => (gb vs).bind fun y vs => tIn neg x y vs := (rfl)
theorem u_tget : fTGet ga gb vs = (ga vs).bind fun x vs => (gb vs).bind fun y vs => tGet x y vs := (rfl)
theorem o_tin {y : PyData} {k : NestedKey} (e : keyT y = some k) : tIn neg y (tL l) vs = .ok (.bool (neg ^^ (valT l k).isSome)) vs := by
  unfold tIn
  rw [e, toT_tL]
theorem o_tget {y u : PyData} {k : NestedKey} (e : keyT y = some k) (h : valT l k = some u) (c : Zx.imm u = true) : tGet (tL l) y vs = .ok u vs := by
  unfold tGet
  rw [e, toT_tL]
  dsimp only
  rw [h]
  dsimp only
  rw [if_pos c]
theorem o_lenN : gLenT [tL l] vs = .ok (.int l.length) vs := by
  unfold gLenT
  dsimp only
  rw [toT_tL]
theorem o_listN : gListT [tL l] vs = .ok (.list (l.map fun p => p.1.data)) vs := by
  unfold gListT
  dsimp only
  rw [toT_tL]
theorem o_sortedN {es : List PyData} (hp : patOk (l.map fun p => p.1.data) = true) (p : es.Perm (l.map fun p => p.1.data)) (s : es.Pairwise fun x y => leD x y = true) : gSortedT [tL l] vs = .ok (.list es) vs := by
  unfold gSortedT
  dsimp only
  rw [toT_tL]
  dsimp only
  rw [sortD_eq hp p s]
def gtt {α : Type} (x : PyData) (f : List (NestedKey × PyData) → α) (d : α) : α := match toT x with
  | some l => f l
  | none => d
theorem gtt_ok {α : Type} {f : List (NestedKey × PyData) → α} {d : α} : gtt (tL l) f d = f l := by
  unfold gtt
  rw [toT_tL]
theorem u_tstore {i : Nat} {gi ge : VE} : sTStore i gi ge vs = (ge vs).thn vs fun x vs => rv (gi vs) (fun y => opt (keyT y) (fun key => gv vs[i]? (fun z => gtt z (fun l => if (decide (l.length < 1000000) && Zx.imm x) = true then .nx (vs.set i (.v (tL (putT l key x)))) else .st) .st) .st) .st) .st := by
  unfold sTStore opt rv gv gtt
  congr 1
  funext x vs
  cases gi vs with
  | rz c => rfl
  | st => rfl
  | ok y vs' =>
    dsimp only
    cases keyT y with
    | none => rfl
    | some key =>
      dsimp only
      all_goals (rcases vs[i]? with _ | (_ | _ | _ | _) <;> rfl)
theorem u_dkt1 : fDktO ga gb vs = (ga vs).bind fun x vs => (gb vs).bind fun y vs => opt (keyT x) (fun key => if Zx.imm y = true then .ok (tL [(key, y)]) vs else .st) .st := by
  unfold fDktO opt
  congr 1
  funext x vs
  congr 1
  funext y vs
  cases keyT x <;> rfl
theorem kt_t {ds : List PyData} {ks : List NestedKey} (e : kNs ds = some ks) (d : (NestedKey.tup ks).depth ≤ 8) : keyT (.tuple ds) = some (.tup ks) := by
  have : kN (.tuple ds) = some (.tup ks) := by unfold kN; rw [e]; rfl
  show (match kN (.tuple ds) with | some k => if k.depth ≤ 8 then some k else none | none => none) = _
  rw [this]
  dsimp only
  rw [if_pos d]
end
end Zx.V
namespace Zx.V
open PySem PySem.Spec L2
open Zx (R SV AO AH FE FA FT FS Md Bd It1 Src O RpS En Wd Fn opt nod keyOf valS putS setS dctOf lim setD)
section
variable {D : List KD} {b : Bool} {k i : Nat} {h0 h : AH} {fs0 fs : List (List Nat)} {sl : List SV} {vs : List VS}
theorem Good.focP (G : Good D h0 fs0 h sl vs fs) {js : List Int} {x x' : PyData} (e : D[i]? = some (b, js.length + k)) (ev : vs[i]? = some (.v x)) (eg : getAt js x = some x') :
    ∃ s0 s' f', sl[i]? = some s0 ∧ walkR h js s0 = some s' ∧ RV h b k s' x' f' ∧ f'.Nodup ∧ (∀ a ∈ f', a ∈ fs.flatten) ∧
      ∀ (h2 : AH) (x2 : PyData) (f2 : List Nat), h.length ≤ h2.length → (∀ a, a ∉ f' → a < h.length → h2[a]? = h[a]?) → okP js x2 x → RV h2 b k s' x2 f2 → f2.Nodup → (∀ a ∈ f2, a ∈ f' ∨ h.length ≤ a) →
        ∃ fs', Good D h0 fs0 h2 sl (vs.set i (.v (putAt js x2 x))) fs' := by
  obtain ⟨s0, v, f, e1, e2, e3, r⟩ := G.R.get e
  rw [ev] at e2
  cases e2
  have r : RV h b (js.length + k) s0 x f := r
  obtain ⟨nf, dj⟩ := nd_at G.nd e3
  obtain ⟨s', f', w, r', n', m', put⟩ := foc r rfl nf eg
  have ltf : ∀ a ∈ f, a < h.length := fun a m => r.lt a m
  refine ⟨s0, s', f', e1, w, r', n', fun a m => mem_at e3 (m' a m), fun h2 x2 f2 hl ag ok r2 n2 m2 => ?_⟩
  obtain ⟨f3, r3, n3, m3⟩ := put h2 x2 f2 (fun a ha z => ag a z (ltf a ha)) ok r2 n2 fun a ha => (m2 a ha).imp_right fun z w => absurd (ltf a w) (by omega)
  have m4 : ∀ a ∈ f3, a ∈ f ∨ h.length ≤ a := fun a ha => by
    rcases m3 a ha with z | z
    · exact (m2 a z).imp_left (m' a)
    · exact .inl z.1
  have ltr : ∀ a ∈ (fs.set i []).flatten, a < h.length := fun a m => G.R.lt a (mem_rest m)
  have ndr : ∀ a ∈ f3, a ∉ (fs.set i []).flatten := fun a ha z => by
    rcases m4 a ha with w | w
    · exact dj a w z
    · exact absurd (ltr a z) (by omega)
  have R1 : RSt h2 D sl (vs.set i .un) (fs.set i []) := (G.R.drop i).frame fun a ha => ag a (fun z => dj a (m' a z) ha) (ltr a ha)
  have R2 := R1.set (s' := s0) (v' := .v (putAt js x2 x)) (f' := f3) e r3
  have es : sl.set i s0 = sl := by
    obtain ⟨hi, e1⟩ := List.getElem?_eq_some_iff.mp e1
    rw [← e1]; exact List.set_getElem_self hi
  rw [es, List.set_set, List.set_set] at R2
  refine ⟨fs.set i f3, R2, nd_set G.nd n3 ndr, fun a ha => ?_, fun a ha hz => ?_, Nat.le_trans G.le hl⟩
  · rcases mem_set ha with z | z
    · rcases m4 a z with w | w
      · exact G.old a (mem_at e3 w)
      · exact .inr (Nat.le_trans G.le w)
    · exact G.old a (mem_rest z)
  · rw [ag a (fun z => ?_) (Nat.lt_of_lt_of_le ha G.le), G.fr a ha hz]
    rcases G.old a (mem_at e3 (m' a z)) with w | w
    · exact hz w
    · omega
theorem dict_imm {ps : List (PyData × PyData)} : Zx.imm (.dict ps) = false := by unfold Zx.imm; rfl
theorem Good.ensD (G : Good D h0 fs0 h sl vs fs) {js : List Int} {x : PyData} {l : List (Key × PyData)} {key : Key} (e : D[i]? = some (b, js.length + 2)) (ev : vs[i]? = some (.v x)) (eg : getAt js x = some (.dict (dK l))) (hn : valL l key = none) :
    ∃ s0 nd kvs, sl[i]? = some s0 ∧ walkR h js s0 = some (.r nd) ∧ h[nd]? = some (some (.dct kvs)) ∧ valS kvs key = none ∧ kvs.length = l.length ∧
      ∃ fs', Good D h0 fs0 ((h ++ [some (AO.lst [])]).set nd (some (.dct (putS kvs key (.r h.length))))) sl (vs.set i (.v (putAt js (.dict (dK (putL l key (.list [])))) x))) fs' := by
  obtain ⟨s0, s', f', e1, w, r', n', m', put⟩ := G.focP e ev eg
  obtain ⟨nd, kvs, fl, rfl, rfl, hd, dv⟩ := RV.isD (m := 1) r'
  have vn : valS kvs key = none := by
    rcases DV.val key dv with ⟨z1, z2⟩ | ⟨s, y, f, j, z1, z2, _, _⟩
    · exact z1
    · rw [hn] at z2; cases z2
  rw [List.nodup_cons] at n'
  have hlt := (List.getElem?_eq_some_iff.mp hd).1
  have ltf : ∀ a ∈ fl.flatten, a < h.length := fun a m => G.R.lt a (m' a (List.mem_cons_of_mem _ m))
  refine ⟨s0, nd, kvs, e1, w, hd, vn, dv.len, put _ _ (nd :: (fl ++ [[h.length]]).flatten) (by rw [List.length_set, List.length_append]; omega) (fun a ha hl => ?_) (okP_imm dict_imm) ?_ ?_ fun a ha => ?_⟩
  · rw [List.getElem?_set_ne (fun (z : nd = a) => ha (z ▸ List.mem_cons_self)), List.getElem?_append_left hl]
  · refine RV.ofD (by rw [List.getElem?_set_self (by rw [List.length_append]; omega)]) ⟨?_, ?_⟩
    · unfold putS putL
      rw [vn, hn]
      show (kvs ++ [(key, SV.r h.length)]).map Prod.fst = (l ++ [(key, PyData.list [])]).map Prod.fst
      rw [List.map_append, List.map_append, dv.1]; rfl
    · unfold putS putL
      rw [vn, hn]
      show Fa3 _ ((kvs ++ [(key, SV.r h.length)]).map Prod.snd) ((l ++ [(key, PyData.list [])]).map Prod.snd) _
      rw [List.map_append, List.map_append]
      refine Fa3.app (show Fa3 (RV _ b 1) [.r h.length] [.list []] [[h.length]] from ⟨?_, trivial⟩) (Fa3.imp (cs0 := fl) (fun _ _ c hc p => p.frame fun a ma => ?_) (fun _ m => m) dv.2)
      · refine RV.ofL (fl := []) (xs := []) (ds := []) ?_ trivial
        rw [List.getElem?_set_ne (by omega), List.getElem?_append_right (Nat.le_refl _), Nat.sub_self]; rfl
      · have ma' : a ∈ fl.flatten := List.mem_flatten.mpr ⟨c, hc, ma⟩
        rw [List.getElem?_set_ne (fun (z : nd = a) => n'.1 (z ▸ ma')), List.getElem?_append_left (ltf a ma')]
  · rw [List.flatten_append, List.nodup_cons, List.mem_append, List.nodup_append]
    refine ⟨fun z => ?_, n'.2, by simp, fun a ha c hc z => ?_⟩
    · rcases z with z | z
      · exact n'.1 z
      · have : nd = h.length := by simpa using z
        omega
    · have : c = h.length := by simpa using hc
      have := ltf a ha
      omega
  · rcases List.mem_cons.mp ha with rfl | ha
    · exact .inl List.mem_cons_self
    · rw [List.flatten_append] at ha
      rcases List.mem_append.mp ha with z | z
      · exact .inl (List.mem_cons_of_mem _ z)
      · have : a = h.length := by simpa using z
        exact .inr (by omega)
def updL : List (Key × PyData) → Key → PyData → List (Key × PyData)
  | [], _, _ => []
  | p :: r, k, x => if p.1 = k then (p.1, x) :: r else p :: updL r k x
theorem DV.upd {H : AH} {key : Key} {zs : List PyData} {u : PyData} {p : Nat} {us : List SV} (c : Zx.imm u = true) (hp : h[p]? = some (some (.lst us))) (hH : H = h.set p (some (.lst (us ++ [.d u])))) : ∀ {kvs : List (Key × SV)} {l : List (Key × PyData)} {fl : List (List Nat)}, DV h b 1 kvs l fl → fl.flatten.Nodup → valS kvs key = some (.r p) → valL l key = some (.list zs) →
    DV H b 1 kvs (updL l key (.list (zs ++ [u]))) fl
  | [], [], fl, d, nd, e, e2 => by cases e
  | q :: kvs, [], fl, d, nd, e, e2 => by cases d.1
  | [], q :: l, fl, d, nd, e, e2 => by cases d.1
  | q :: kvs, z :: l, [], d, nd, e, e2 => d.2.elim
  | q :: kvs, z :: l, f :: fl, ⟨d1, d2, d3⟩, nd, e, e2 => by
    have k1 : q.1 = z.1 := (List.cons.inj d1).1
    have k2 : kvs.map Prod.fst = l.map Prod.fst := (List.cons.inj d1).2
    rw [List.flatten_cons, List.nodup_append] at nd
    unfold valS at e
    unfold valL at e2
    unfold updL
    by_cases hk : z.1 = key
    · rw [if_pos (k1.trans hk)] at e
      rw [if_pos hk] at e2 ⊢
      have e := Option.some.inj e
      have e2 := Option.some.inj e2
      have r1 : RV h b 1 (.r p) (.list zs) f := by rw [← e, ← e2]; exact d2
      obtain ⟨p', us', fz, ep, hp', rfl, qz⟩ := r1.isL
      cases ep
      rw [hp] at hp'
      cases hp'
      have pf : p ∈ p :: fz.flatten := List.mem_cons_self
      refine ⟨?_, ?_, ?_⟩
      · show (q :: kvs).map Prod.fst = ((z.1, _) :: l).map Prod.fst
        rw [List.map_cons, List.map_cons, k1, k2]
      · show RV H b 1 q.2 (.list (zs ++ [u])) _
        rw [e, hH]
        have : RV (h.set p (some (.lst (us ++ [.d u])))) b 1 (.r p) (.list (zs ++ [u])) (p :: (fz ++ [[]]).flatten) := by
          refine RV.ofL (by rw [List.getElem?_set_self (List.getElem?_eq_some_iff.mp hp).1]) ?_
          exact Fa3.app (show Fa3 (RV _ b 0) [.d u] [u] [[]] from ⟨⟨rfl, .inl rfl⟩, trivial⟩) (Fa3.imp (cs0 := fz) (fun _ _ _ _ p => ⟨p.1, p.2⟩) (fun _ m => m) qz)
        rw [List.flatten_append] at this
        simpa using this
      · rw [hH]
        exact Fa3.imp (cs0 := fl) (fun _ _ c hc w => w.frame fun a ma => List.getElem?_set_ne fun (y : p = a) => nd.2.2 p pf p (y ▸ List.mem_flatten.mpr ⟨c, hc, ma⟩) rfl) (fun _ m => m) d3
    · rw [if_neg (fun w => hk (k1.symm.trans w))] at e
      rw [if_neg hk] at e2 ⊢
      obtain ⟨z1, z2⟩ := DV.upd c hp hH ⟨k2, d3⟩ nd.2.1 e e2
      obtain ⟨s', x', f', j, y1, y2, y3, y4⟩ : ∃ (s' : SV) (x' : PyData) (f' : List Nat) (j : Nat), valS kvs key = some s' ∧ valL l key = some x' ∧ fl[j]? = some f' ∧ RV h b 1 s' x' f' := by
        rcases DV.val key ⟨k2, d3⟩ with ⟨w1, w2⟩ | w
        · rw [e] at w1; cases w1
        · exact w
      rw [e] at y1
      cases y1
      rw [e2] at y2
      cases y2
      obtain ⟨p', us', fz, ep, hp', rfl, qz⟩ := y4.isL
      cases ep
      have pin : p ∈ fl.flatten := mem_at y3 List.mem_cons_self
      refine ⟨?_, ?_, z2⟩
      · rw [List.map_cons, List.map_cons, z1, k1]
      · rw [hH]
        exact d2.frame fun a ma => List.getElem?_set_ne fun (y : p = a) => nd.2.2 a ma p pin y.symm
theorem Good.updD (G : Good D h0 fs0 h sl vs fs) {js : List Int} {x u : PyData} {l : List (Key × PyData)} {key : Key} {zs : List PyData} (c : Zx.imm u = true) (e : D[i]? = some (b, js.length + 2)) (ev : vs[i]? = some (.v x)) (eg : getAt js x = some (.dict (dK l))) (hv : valL l key = some (.list zs)) :
    ∃ s0 nd kvs p us, sl[i]? = some s0 ∧ walkR h js s0 = some (.r nd) ∧ h[nd]? = some (some (.dct kvs)) ∧ valS kvs key = some (.r p) ∧ kvs.length = l.length ∧ h[p]? = some (some (.lst us)) ∧ us.length = zs.length ∧
      ∃ fs', Good D h0 fs0 (h.set p (some (.lst (us ++ [.d u])))) sl (vs.set i (.v (putAt js (.dict (dK (updL l key (.list (zs ++ [u]))))) x))) fs' := by
  obtain ⟨s0, s', f', e1, w, r', n', m', put⟩ := G.focP e ev eg
  obtain ⟨nd, kvs, fl, rfl, rfl, hd, dv⟩ := RV.isD (m := 1) r'
  obtain ⟨sv, x', f1, j, y1, y2, y3, y4⟩ : ∃ (s' : SV) (x' : PyData) (f' : List Nat) (j : Nat), valS kvs key = some s' ∧ valL l key = some x' ∧ fl[j]? = some f' ∧ RV h b 1 s' x' f' := by
    rcases DV.val key dv with ⟨w1, w2⟩ | w
    · rw [hv] at w2; cases w2
    · exact w
  rw [hv] at y2
  cases y2
  obtain ⟨p, us, fz, rfl, hp, rfl, qz⟩ := y4.isL
  rw [List.nodup_cons] at n'
  have pin : p ∈ fl.flatten := mem_at y3 List.mem_cons_self
  refine ⟨s0, nd, kvs, p, us, e1, w, hd, y1, dv.len, hp, qz.len.1, put _ _ (nd :: fl.flatten) (by rw [List.length_set]; exact Nat.le_refl _) (fun a ha hl => ?_) (okP_imm dict_imm) ?_ (List.nodup_cons.mpr n') fun a ha => .inl ha⟩
  · exact List.getElem?_set_ne fun (z : p = a) => ha (z ▸ List.mem_cons_of_mem _ pin)
  · exact RV.ofD (by rw [List.getElem?_set_ne (fun (z : p = nd) => n'.1 (z ▸ pin))]; exact hd) (DV.upd c hp rfl dv n'.2 y1 hv)
end
def appD (i : Nat) (js : List Int) (key : Key) (zs : List PyData) (ge : VE) (x1 : PyData) (l1 : List (Key × PyData)) (vs1 : List VS) : VR PyData := match ge vs1 with
  | .ok u _ => if (Zx.imm u && decide (zs.length < lim)) = true then .ok .none (vs1.set i (.v (putAt js (.dict (dK (updL l1 key (.list (zs ++ [u]))))) x1))) else .st
  | _ => .st
def setApp (i : Nat) (js : List Int) (x : PyData) (key : Key) (ge : VE) (l : List (Key × PyData)) (vs : List VS) : VR PyData := if l.length < 1000 then (match valL l key with
  | none => appD i js key [] ge (putAt js (.dict (dK (putL l key (.list [])))) x) (putL l key (.list [])) (vs.set i (.v (putAt js (.dict (dK (putL l key (.list [])))) x)))
  | some (.list zs) => appD i js key zs ge x l vs
  | some _ => .st) else .st
def fSetApp (i : Nat) (gp : VP) (gk ge : VE) : VE := fun vs => match vs[i]?, gp vs with
  | some (.v x), some js => match getAt js x with
    | some z => match gk vs with
      | .ok y _ => match keyP y with
        | some key => gdk z (fun l => setApp i js x key ge l vs) .st
        | none => .st
      | _ => .st
    | none => .st
  | _, _ => .st
theorem walkR_dset {h : AH} {nd : Nat} {kvs kvs2 : List (Key × SV)} : ∀ {js : List Int} {s s' : SV}, walkR h js s = some s' → h[nd]? = some (some (.dct kvs)) → walkR (h.set nd (some (.dct kvs2))) js s = some s'
  | [], s, s', w, hd => w
  | a :: js, s, s', w, hd => by
    unfold walkR at w ⊢
    cases s with
    | r m =>
      dsimp only at w ⊢
      by_cases hm : nd = m
      · subst hm
        rw [hd] at w
        cases w
      · rw [List.getElem?_set_ne hm]
        split at w
        · rename_i ys hy
          split at w
          · rename_i s2 h2
            rw [hy]
            dsimp only
            rw [h2]
            exact walkR_dset w hd
          · cases w
        · rename_i ys hy
          split at w
          · rename_i s2 h2
            rw [hy]
            dsimp only
            rw [h2]
            exact walkR_dset w hd
          · cases w
        · cases w
    | un => cases w
    | d x => cases w
    | vw x => cases w
    | sc x => cases w
    | ex x => cases w
theorem valL_putL {l : List (Key × PyData)} {key : Key} {x : PyData} (h : valL l key = none) : valL (putL l key x) key = some x := by
  unfold putL
  rw [h]
  dsimp only
  induction l with
  | nil => show (if key = key then some x else _) = _; rw [if_pos rfl]
  | cons p l ih =>
    unfold valL at h
    rw [List.cons_append]
    unfold valL
    split at h
    · cases h
    · rename_i hk
      rw [if_neg hk]
      exact ih h
theorem valS_putS {kvs : List (Key × SV)} {key : Key} {s : SV} (h : valS kvs key = none) : valS (putS kvs key s) key = some s := by
  unfold putS
  rw [h]
  dsimp only
  induction kvs with
  | nil => show (if key = key then some s else _) = _; rw [if_pos rfl]
  | cons p l ih =>
    unfold valS at h
    rw [List.cons_append]
    unfold valS
    split at h
    · cases h
    · rename_i hk
      rw [if_neg hk]
      exact ih h
section
variable {D : List KD} {b b1 b2 bi fr1 fr2 : Bool} {k1 k2 ki i n : Nat} {fo fk fe : FE} {gp : VP} {gk ge : VE}
theorem app_out {D : List KD} {b b2 bi fr2 : Bool} {k2 ki i : Nat} {fe : FE} {ge : VE} {h0 H : AH} {fs0 fs : List (List Nat)} {sl : List SV} {vs : List VS} (he : EV D b2 k2 fr2 fe ge) (G : Good D h0 fs0 H sl vs fs) {js : List Int} {x : PyData} {l : List (Key × PyData)} {key : Key} {zs : List PyData} {nd p : Nat} {kvs : List (Key × SV)} {us : List SV} {s0 : SV}
    (e : D[i]? = some (b, js.length + 2)) (ev : vs[i]? = some (.v x)) (eg : getAt js x = some (.dict (dK l))) (hv : valL l key = some (.list zs)) (e0 : sl[i]? = some s0) (ew : walkR H js s0 = some (.r nd)) (ek : H[nd]? = some (some (.dct kvs))) (es : valS kvs key = some (.r p)) (ep : H[p]? = some (some (.lst us))) :
    OutX D bi ki h0 sl fs0 (appD i js key zs ge x l vs) (if Zx.kdL H (.r p) = true then (Zx.fCons fe Zx.fNil sl H).bind fun ss h2 => Zx.gOwn Zx.kAppend (.r p) ss h2 else .st) := by
  have hkd : Zx.kdL H (.r p) = true := by
    unfold Zx.kdL Zx.lstOf
    dsimp only
    rw [ep]; rfl
  rw [if_pos hkd]
  unfold appD
  have o := he H sl vs fs G.R G.nd
  generalize ge vs = r at o ⊢
  cases r with
  | st => trivial
  | rz c => trivial
  | ok u vs' =>
    obtain ⟨rfl, su, t3, fu, eu, ru, _, _⟩ := o
    dsimp only
    split
    · rename_i c
      rw [Bool.and_eq_true] at c
      obtain ⟨c, hl⟩ := c
      have hl := of_decide_eq_true hl
      obtain ⟨rfl, rfl⟩ := ru.imm c
      have G2 := G.app (t := t3)
      obtain ⟨s0', nd', kvs', p', us', z1, z2, z3, z4, z5, z6, z7, fs', G3⟩ := G2.updD (b := b) (u := u) c e ev eg hv
      rw [e0] at z1
      cases z1
      rw [walkR_app ew] at z2
      cases z2
      rw [List.getElem?_append_left (List.getElem?_eq_some_iff.mp ek).1, ek] at z3
      cases z3
      rw [es] at z4
      cases z4
      rw [List.getElem?_append_left (List.getElem?_eq_some_iff.mp ep).1, ep] at z6
      cases z6
      unfold Zx.fCons
      rw [eu]
      have hgo : Zx.gOwn Zx.kAppend (.r p) [.d u] (H ++ t3) = .ok (.d .none) ((H ++ t3).set p (some (.lst (us ++ [.d u])))) := by
        unfold Zx.gOwn
        dsimp only
        rw [List.getElem?_append_left (List.getElem?_eq_some_iff.mp ep).1, ep]
        dsimp only
        unfold Zx.kAppend
        dsimp only
        rw [if_pos (by omega)]
      show OutX D bi ki h0 sl fs0 _ (Zx.gOwn Zx.kAppend (.r p) [.d u] (H ++ t3))
      rw [hgo]
      exact ⟨.d .none, _, fs', [], rfl, G3, RV.dk rfl, List.nodup_nil, (fun _ m => by cases m), fun _ m => by cases m⟩
    · trivial
theorem xv_setapp (hp : PV D i n fo gp) (hk : EV D b1 k1 fr1 fk gk) (he : EV D b2 k2 fr2 fe ge) (e : D[i]? = some (b, n + 2)) :
    XV D bi ki (Zx.fBM Zx.kdL (Zx.gOwn Zx.kAppend) (Zx.fSetd fo fk (Zx.fLst Zx.fNil)) (Zx.fCons fe Zx.fNil)) (fSetApp i gp gk ge) := by
  intro h sl vs fs R nd
  unfold fSetApp
  split
  case h_2 => trivial
  rename_i x js ev ej
  split
  case h_2 => trivial
  rename_i z eg
  split
  case h_2 => trivial
  rename_i y vs2 hy
  split
  case h_2 => trivial
  rename_i key hkey
  rcases gdk_cases (x := z) (f := fun l => setApp i js x key ge l vs) (d := VR.st) with ⟨l, rfl, eq⟩ | eq
  case inr => rw [eq]; trivial
  rw [eq]
  obtain ⟨hl, c⟩ := hp h sl vs fs R nd js ej
  subst hl
  obtain ⟨s0, s, t, e1, e2, e3⟩ := c x _ ev eg
  have ok := hk (h ++ t) sl vs fs R.app nd
  rw [hy] at ok
  obtain ⟨rfl, sk, t2, fk', e4, rk, _, _⟩ := ok
  have G0 : Good D h fs (h ++ t ++ t2) sl vs2 fs := (Good.ext (t := t) R nd).app
  obtain ⟨s0', s', f', w1, w2, w3, _⟩ := (Good.ext (t := t) R nd).focP e ev eg
  rw [e1] at w1
  cases w1
  rw [e3] at w2
  cases w2
  obtain ⟨nd0, kvs0, fl0, rfl, _, hd0, dv0⟩ := RV.isD (m := 1) w3
  have ed : dctOf (h ++ t) (.r nd0) = some kvs0 := by unfold dctOf; dsimp only; rw [hd0]
  have hd2 : ((h ++ t ++ t2) ++ [some (AO.lst [])])[nd0]? = some (some (.dct kvs0)) := by
    rw [List.append_assoc, List.getElem?_append_left (List.getElem?_eq_some_iff.mp hd0).1, hd0]
  have run : ∀ K, (Zx.fSetd fo fk (Zx.fLst Zx.fNil) sl h).bind K = ((setD (.r nd0) sk (.r (h ++ t ++ t2).length) ((h ++ t ++ t2) ++ [some (.lst [])])).bind K : Zx.R SV) := fun K => by
    unfold Zx.fSetd
    rw [e2]
    show ((if (dctOf (h ++ t) (.r nd0)).isSome = true then _ else _ : Zx.R SV)).bind K = _
    rw [ed, if_pos (show (some kvs0).isSome = true from rfl), e4]
    rfl
  show OutX D bi ki h sl fs (setApp i js x key ge l vs2) ((Zx.fSetd fo fk (Zx.fLst Zx.fNil) sl h).bind fun s h1 => if Zx.kdL h1 s = true then (Zx.fCons fe Zx.fNil sl h1).bind fun ss h2 => Zx.gOwn Zx.kAppend s ss h2 else .st)
  rw [run]
  unfold setApp
  split
  case isFalse => trivial
  rename_i hlen
  have hsd : setD (.r nd0) sk (.r (h ++ t ++ t2).length) ((h ++ t ++ t2) ++ [some (.lst [])]) = match valS kvs0 key with
      | some s => .ok s ((h ++ t ++ t2) ++ [some (.lst [])])
      | none => .ok (.r (h ++ t ++ t2).length) (((h ++ t ++ t2) ++ [some (AO.lst [])]).set nd0 (some (.dct (putS kvs0 key (.r (h ++ t ++ t2).length))))) := by
    unfold setD
    have : dctOf ((h ++ t ++ t2) ++ [some (.lst [])]) (.r nd0) = some kvs0 := by unfold dctOf; dsimp only; rw [hd2]
    rw [key_rv rk hkey, this]
    dsimp only
    rw [if_pos (by rw [dv0.len]; exact hlen)]
    all_goals (cases valS kvs0 key <;> rfl)
  rw [hsd]
  split
  · rename_i hv
    obtain ⟨s1, nd1, kvs1, z1, z2, z3, z4, z5, fs', G1⟩ := G0.ensD (b := b) e ev eg hv
    rw [e1] at z1
    cases z1
    rw [walkR_app e3] at z2
    cases z2
    have hd3 : (h ++ t ++ t2)[nd0]? = some (some (.dct kvs0)) := by rw [List.getElem?_append_left (List.getElem?_eq_some_iff.mp hd0).1, hd0]
    rw [hd3] at z3
    cases z3
    rw [z4]
    have hlt : nd0 < (h ++ t ++ t2).length := (List.getElem?_eq_some_iff.mp hd3).1
    refine app_out (us := []) he G1 (nd := nd0) (kvs := putS kvs0 key (.r (h ++ t ++ t2).length)) e ?_ (getAt_putAt dict_imm eg) (valL_putL hv) e1 ?_ ?_ (valS_putS z4) ?_
    · have hi : i < vs2.length := (List.getElem?_eq_some_iff.mp ev).1
      rw [List.getElem?_set_self hi]
    · exact walkR_dset (walkR_app (walkR_app e3)) hd2
    · rw [List.getElem?_set_self (by rw [List.length_append]; omega)]
    · rw [List.getElem?_set_ne (by omega), List.getElem?_append_right (Nat.le_refl _), Nat.sub_self]; rfl
  · rename_i zs hv
    have G1 := G0.app (t := [some (AO.lst [])])
    obtain ⟨s1, nd1, kvs1, p, us, z1, z2, z3, z4, z5, z6, z7, _⟩ := G1.updD (b := b) (u := .none) rfl e ev eg hv
    rw [e1] at z1
    cases z1
    rw [walkR_app (walkR_app e3)] at z2
    cases z2
    rw [hd2] at z3
    cases z3
    rw [z4]
    exact app_out he G1 e ev eg hv e1 (walkR_app (walkR_app e3)) hd2 z4 z6
  · trivial
end
theorem u_setapp {i : Nat} {gp : VP} {gk ge : VE} {vs : List VS} : fSetApp i gp gk ge vs = gv vs[i]? (fun x => opt (gp vs) (fun js => opt (getAt js x) (fun z => rv (gk vs) (fun y => opt (keyP y) (fun key => gdk z (fun l => setApp i js x key ge l vs) .st) .st) .st) .st) .st) .st := by
  unfold fSetApp opt rv gv
  rcases vs[i]? with _ | (_ | x | _ | _) <;> try rfl
  dsimp only
  cases gp vs with
  | none => rfl
  | some js =>
    dsimp only
    cases getAt js x with
    | none => rfl
    | some z =>
      dsimp only
      cases gk vs with
      | rz c => rfl
      | st => rfl
      | ok y vs' =>
        dsimp only
        cases keyP y <;> rfl
end Zx.V
namespace Zx.V
open PySem PySem.Spec L2
open Zx (R SV AO AH FE FA FT FS Md Bd It1 Src O RpS En Wd Fn opt nod)
def sForPop (l w i : Nat) (body : VF) : VF := fun vs => match fMt w pVar kPp fNil vs with
  | .ok (.int q) vs1 => sForOwnP l i [q] body vs1
  | _ => .st
section
variable {D : List KD} {A : List Nat} {rb bw : Bool} {rk : Nat} {b : Bool} {i m : Nat} {f : FS} {g : VF}
theorem u_forPop {l w i : Nat} {a : VF} {vs : List VS} : sForPop l w i a vs = match fMt w pVar kPp fNil vs with | .ok x vs1 => gn x (fun q => sForOwnP l i [q] a vs1) .st | _ => .st := by
  unfold sForPop gn
  cases fMt w pVar kPp fNil vs with
  | ok x vs1 => cases x <;> rfl
  | rz c => rfl
  | st => rfl
end
end Zx.V
namespace Zx.V
open PySem PySem.Spec L2
open Zx (R SV AO AH FE FA FT FS Md Bd It1 Src O RpS En Wd keysOf unK)
end Zx.V
namespace Zx.V
open PySem PySem.Spec L2
open Zx (R SV AO AH FE FA FT FS Md Bd It1 Src O RpS En Wd keysOf unK sortD wrapS leD patOk)
end Zx.V
namespace Zx.V
open PySem PySem.Spec L2
open Zx (R SV AO AH FE FA FT FS Md Bd It1 Src O RpS En Wd Sc ltK keyD scD scsD imm immL)
end Zx.V
namespace Zx.V
open PySem PySem.Spec L2
open Zx (R SV AO AH FE FA FT FS Md Bd It1 Src O RpS En Wd)
end Zx.V
namespace Zx.V
open PySem PySem.Spec L2
open Zx (R SV AO AH FE FA FT FS Md Bd It1 Src O RpS En Wd lim)
def sPush (l i : Nat) (g : VF) : VF := fun vs => match vs[l]?, vs[i]? with
  | some (.v (.list S)), some (.v (.list _)) => if S.length < lim then match g (vs.set l .un) with
    | .nx vs3 => match vs3[l]?, vs3[i]? with
      | some .un, some (.v (.list P)) => .nx ((vs3.set l (.v (.list (S ++ [.list P])))).set i .un)
      | _, _ => .st
    | _ => .st
    else .st
  | _, _ => .st
theorem seq_if {t : FT} {a b c : FS} : Zx.sSeq (Zx.sIf t a b) c = Zx.sIf t (Zx.sSeq a c) (Zx.sSeq b c) := by
  funext sl h
  unfold Zx.sIf
  show (match (t sl h).thn sl _ with | .nx sl' h' => c sl' h' | o => o) = _
  cases t sl h with
  | ok k h1 => cases k <;> rfl
  | rz _ _ => rfl
  | st => rfl
theorem seq_as {a b c : FS} : Zx.sSeq (Zx.sSeq a b) c = Zx.sSeq a (Zx.sSeq b c) := by
  funext sl h
  show (match (match a sl h with | .nx sl' h' => b sl' h' | o => o) with | .nx sl' h' => c sl' h' | o => o) = (match a sl h with | .nx sl' h' => (match b sl' h' with | .nx sl' h' => c sl' h' | o => o) | o => o)
  cases a sl h <;> rfl
theorem app_at {sl : List SV} {h : AH} {l i nl ni : Nat} {xs : List SV} (h1 : sl[l]? = some (.r nl)) (h2 : h[nl]? = some (some (.lst xs))) (h3 : sl[i]? = some (.r ni)) (h4 : xs.length < lim) :
    Zx.sExpr (Zx.fBM Zx.kdL (Zx.gOwn Zx.kAppend) (Zx.fVar l) (Zx.fCons (Zx.fVar i) Zx.fNil)) sl h = .nx sl (h.set nl (some (.lst (xs ++ [.r ni])))) := by
  have e1 : Zx.fVar l sl h = .ok (.r nl) h := by unfold Zx.fVar; rw [h1]
  have e2 : Zx.fVar i sl h = .ok (.r ni) h := by unfold Zx.fVar; rw [h3]
  have e3 : Zx.kdL h (.r nl) = true := by unfold Zx.kdL Zx.lstOf; dsimp only; rw [h2]; rfl
  unfold Zx.sExpr Zx.fBM
  rw [e1]
  show (if Zx.kdL h (.r nl) = true then (Zx.fCons (Zx.fVar i) Zx.fNil sl h).bind fun ss h2 => Zx.gOwn Zx.kAppend (.r nl) ss h2 else .st).thn sl _ = _
  rw [if_pos e3]
  unfold Zx.fCons
  rw [e2]
  show (Zx.gOwn Zx.kAppend (.r nl) [.r ni] h).thn sl _ = _
  unfold Zx.gOwn Zx.kAppend
  dsimp only
  rw [h2]
  dsimp only
  rw [if_pos h4]
  rfl
theorem fa3_app {h : AH} {b : Bool} {k : Nat} : ∀ {xs ys : List SV} {ds es : List PyData} {fs gs : List (List Nat)}, Fa3 (RV h b k) xs ds fs → Fa3 (RV h b k) ys es gs → Fa3 (RV h b k) (xs ++ ys) (ds ++ es) (fs ++ gs)
  | [], _, [], _, [], _, _, q => q
  | x :: xs, _, d :: ds, _, f :: fs, _, ⟨p1, p2⟩, q => ⟨p1, fa3_app p2 q⟩
  | [], _, [], _, c :: cs, _, p, _ => p.elim
  | [], _, y :: bs, _, [], _, p, _ => p.elim
  | [], _, y :: bs, _, c :: cs, _, p, _ => p.elim
  | a :: as, _, [], _, [], _, p, _ => p.elim
  | a :: as, _, [], _, c :: cs, _, p, _ => p.elim
  | a :: as, _, y :: bs, _, [], _, p, _ => p.elim
theorem rv_lst {h : AH} {b : Bool} {k : Nat} {s : SV} {ds : List PyData} {f : List Nat} (r : RV h b (k + 1) s (.list ds) f) : ∃ n xs fs, s = .r n ∧ h[n]? = some (some (.lst xs)) ∧ f = n :: fs.flatten ∧ Fa3 (RV h b k) xs ds fs := by
  unfold RV at r
  rcases r with ⟨_, _, z⟩ | ⟨n, xs, ds', fs, e1, e2, e3, e4, e5⟩ | ⟨n, kvs, ds', fs, _, _, z, _⟩ | ⟨n, xs, ds', fs, _, _, z, _⟩ | ⟨n, kvs, ds', fs, _, _, z, _⟩
  · cases z
  · cases e3; exact ⟨n, xs, fs, e1, e2, e4, e5⟩
  · cases z
  · cases z
  · cases z
theorem sv_push {D : List KD} {A : List Nat} {b rb : Bool} {k rk l i : Nat} {fB : FS} {gB : VF} (hB : SVp D A rb rk fB gB) (el : D[l]? = some (b, k + 2) := by rfl) (ei : D[i]? = some (b, k + 1) := by rfl) (hli : l ≠ i := by decide) (nl : l ∉ A := by decide) (ni : i ∉ A := by decide) :
    SVp D (l :: i :: A) rb rk (Zx.sSeq (Zx.sExpr (Zx.fBM Zx.kdL (Zx.gOwn Zx.kAppend) (Zx.fVar l) (Zx.fCons (Zx.fVar i) Zx.fNil))) fB) (sPush l i gB) := by
  intro h sl vs fs R nd
  unfold sPush
  obtain ⟨sL, vL, fL, a1, a2, a3, a4⟩ := R.get el
  obtain ⟨sI, vI, fI, b1, b2, b3, b4⟩ := R.get ei
  rw [a2, b2]
  split
  · rename_i S P0 c1 c2
    cases c1
    cases c2
    split
    · rename_i hlim
      obtain ⟨n, xs, fs0, rfl, hn, rfl, q⟩ := rv_lst (show RV h b (k + 1 + 1) sL (.list S) fL from a4)
      obtain ⟨m, ys, fs1, rfl, hm, rfl, q1⟩ := rv_lst (show RV h b (k + 1) sI (.list P0) fI from b4)
      have lx : xs.length < lim := by rw [q.len.1]; exact hlim
      have cell : ∀ c : FS, Zx.sSeq (Zx.sExpr (Zx.fBM Zx.kdL (Zx.gOwn Zx.kAppend) (Zx.fVar l) (Zx.fCons (Zx.fVar i) Zx.fNil))) c sl h = c sl (h.set n (some (.lst (xs ++ [.r m])))) := fun c => by
        unfold Zx.sSeq
        rw [app_at a1 hn b1 lx]
      rw [cell]
      have hlt : n < h.length := (List.getElem?_eq_some_iff.mp hn).1
      obtain ⟨nF, dF⟩ := nd_at nd a3
      have R1 : RSt h D sl (vs.set l .un) (fs.set l []) := R.drop l
      have hnn : ∀ a ∈ (fs.set l []).flatten, (h.set n (some (.lst (xs ++ [.r m]))))[a]? = h[a]? := fun a ha => by
        rw [List.getElem?_set_ne]
        rintro rfl
        exact dF n List.mem_cons_self ha
      have R2 : RSt (h.set n (some (.lst (xs ++ [.r m])))) D sl (vs.set l .un) (fs.set l []) := R1.frame hnn
      have o := hB _ sl _ _ R2 (nd_rest nd)
      generalize gB (vs.set l .un) = r at o ⊢
      cases r with
      | nx vs3 =>
        obtain ⟨sl3, h3, fs3, e3, G3, K3⟩ := o
        dsimp only
        obtain ⟨t1, u1, g1, c1, c2, c3, c4⟩ := G3.R.get el
        obtain ⟨t2, u2, g2, d1, d2, d3, d4⟩ := G3.R.get ei
        rw [c2, d2]
        split
        · rename_i P w1 w2
          cases w1
          cases w2
          have c4 : g1 = [] := c4
          subst c4
          have kl : sl3[l]? = sl[l]? := K3 l nl
          have ki : sl3[i]? = sl[i]? := K3 i ni
          rw [kl, a1] at c1
          cases c1
          rw [ki, b1] at d1
          cases d1
          have d4 : RV h3 b (k + 1) (.r m) (.list P) g2 := d4
          have hl2 : (h.set n (some (.lst (xs ++ [.r m])))).length = h.length := List.length_set
          have away : ∀ a ∈ (n :: fs0.flatten), a ∉ (fs.set l []).flatten := dF
          have below : ∀ a ∈ (n :: fs0.flatten), a < h.length := fun a ha => R.lt a (mem_at a3 ha)
          have kept : ∀ a ∈ (n :: fs0.flatten), h3[a]? = (h.set n (some (.lst (xs ++ [.r m]))))[a]? := fun a ha => G3.fr a (by rw [hl2]; exact below a ha) (away a ha)
          have n0 : n ∉ fs0.flatten := (List.nodup_cons.mp nF).1
          have hn3 : h3[n]? = some (some (.lst (xs ++ [.r m]))) := by
            rw [kept n List.mem_cons_self, List.getElem?_set_self hlt]
          have q3 : Fa3 (RV h3 b (k + 1)) xs S fs0 := Fa3.imp (cs0 := fs0) (fun x y c hc p => RV.frame (fun a ha => by
            have ha2 : a ∈ fs0.flatten := List.mem_flatten.mpr ⟨c, hc, ha⟩
            rw [kept a (List.mem_cons_of_mem _ ha2), List.getElem?_set_ne (fun z => n0 (by rw [z]; exact ha2))]) p) (fun c hc => hc) q
          have rl : RV h3 b (k + 2) (.r n) (.list (S ++ [.list P])) (n :: (fs0 ++ [g2]).flatten) := by
            unfold RV
            exact .inr (.inl ⟨n, xs ++ [.r m], S ++ [.list P], fs0 ++ [g2], rfl, hn3, rfl, rfl, fa3_app q3 ⟨d4, trivial⟩⟩)
          have fl3 : (n :: (fs0 ++ [g2]).flatten) = (n :: fs0.flatten) ++ g2 := by
            rw [List.flatten_append, List.flatten_cons, List.flatten_nil, List.append_nil]; rfl
          have out3 : ∀ a ∈ (n :: fs0.flatten), a ∉ fs3.flatten := fun a ha z => by
            rcases G3.old a z with y | y
            · exact away a ha y
            · have := below a ha
              rw [hl2] at y
              omega
          obtain ⟨nG, dG⟩ := nd_at G3.nd d3
          have R4 : RSt h3 D sl3 (vs3.set i .un) (fs3.set i []) := G3.R.drop i
          have rl2 : RS1 h3 (b, k + 2) (.r n) (.v (.list (S ++ [PyData.list P]))) (n :: (fs0 ++ [g2]).flatten) := rl
          have R5 := R4.set el rl2
          have es : sl3.set l (.r n) = sl3 := by
            apply List.ext_getElem?
            intro j
            by_cases hj : l = j
            · subst hj
              have lt3 : l < sl3.length := by
                have := (List.getElem?_eq_some_iff.mp (kl.trans a1)).1
                exact this
              rw [List.getElem?_set_self lt3, kl, a1]
            · rw [List.getElem?_set_ne hj]
          rw [es, List.set_comm _ _ (Ne.symm hli)] at R5
          have nN : (n :: (fs0 ++ [g2]).flatten).Nodup := by
            rw [fl3, List.nodup_append]
            exact ⟨nF, nG, fun a ha c hc e => out3 a ha (by rw [e]; exact mem_at d3 hc)⟩
          have dN : ∀ a ∈ (n :: (fs0 ++ [g2]).flatten), a ∉ ((fs3.set i []).set l []).flatten := fun a ha z => by
            rw [fl3] at ha
            rcases List.mem_append.mp ha with y | y
            · exact out3 a y (mem_rest (mem_rest z))
            · exact dG a y (mem_rest z)
          refine ⟨sl3, h3, _, e3, ⟨R5, nd_set (nd_rest G3.nd) nN dN, fun a ha => ?_, fun a ha hna => ?_, by rw [← hl2]; exact G3.le⟩, fun j hj => K3 j fun z => hj (List.mem_cons_of_mem _ (List.mem_cons_of_mem _ z))⟩
          · have up : a ∈ fs3.flatten → a ∈ fs.flatten ∨ h.length ≤ a := fun z => (G3.old a z).imp mem_rest fun y => by rw [hl2] at y; exact y
            rcases mem_set ha with y | y
            · rw [fl3] at y
              rcases List.mem_append.mp y with y | y
              · exact .inl (mem_at a3 y)
              · exact up (mem_at d3 y)
            · exact up (mem_rest (mem_rest y))
          · rw [G3.fr a (by rw [hl2]; exact ha) fun z => hna (mem_rest z), List.getElem?_set_ne]
            rintro rfl
            exact hna (mem_at a3 List.mem_cons_self)
        · trivial
      | _ => trivial
    · trivial
  · trivial
theorem seq_nx {c : FS} : Zx.sSeq Zx.sNext c = c := rfl
theorem sv_pushIf {D : List KD} {A A0 : List Nat} {b rb : Bool} {k rk l i : Nat} {t : FT} {gt : VT} {a : FS} {ga : VF} {fB : FS} {gB : VF} (ht : TV D t gt) (ha : SVp D A0 rb rk a ga) (hB : SVp D A rb rk fB gB) (el : D[l]? = some (b, k + 2) := by rfl) (ei : D[i]? = some (b, k + 1) := by rfl) (hli : l ≠ i := by decide) (nl : l ∉ A := by decide) (ni : i ∉ A := by decide) :
    SVp D ((A0 ++ (l :: i :: A)) ++ A) rb rk (Zx.sSeq (Zx.sIf t (Zx.sSeq a (Zx.sExpr (Zx.fBM Zx.kdL (Zx.gOwn Zx.kAppend) (Zx.fVar l) (Zx.fCons (Zx.fVar i) Zx.fNil)))) Zx.sNext) fB) (sIf gt (sSeq ga (sPush l i gB)) gB) := by
  rw [seq_if, seq_as, seq_nx]
  exact sv_if ht (sv_seq ha (sv_push hB el ei hli nl ni)) hB
theorem o_push {l i : Nat} {g : VF} {vs vs3 : List VS} {S P0 P : List PyData} (h1 : vs[l]? = some (.v (.list S))) (h2 : vs[i]? = some (.v (.list P0))) (hS : S.length < lim) (hg : g (vs.set l .un) = .nx vs3) (h3 : vs3[l]? = some .un) (h4 : vs3[i]? = some (.v (.list P))) :
    sPush l i g vs = .nx ((vs3.set l (.v (.list (S ++ [.list P])))).set i .un) := by
  unfold sPush
  rw [h1, h2]
  dsimp only
  rw [if_pos hS, hg]
  dsimp only
  rw [h3, h4]
end Zx.V
namespace Zx.V
open PySem PySem.Spec L2
open Zx (SV AO AH FE FA FT FS Md Bd It1 Src O RpS En Wd lim immL fzv fzL trimE trimOk opt)
def fConsM (i : Nat) (qa : VA) : VA := fun vs => match vs[i]? with
  | some (.v _) => match qa vs with
    | .ok ds vs1 => match vs1[i]? with
      | some (.v x) => .ok (x :: ds) (vs1.set i .un)
      | _ => .st
    | _ => .st
  | _ => .st
theorem ax_consM {D KL : List KD} {b : Bool} {k i : Nat} {ra : FA} {qa : VA} (hr : AX D KL ra qa) (e : D[i]? = some (b, k) := by rfl) : AX D ((b, k) :: KL) (Zx.fCons (Zx.fVar i) ra) (fConsM i qa) := by
  intro h sl vs fs R nd
  have o := hr h sl vs fs R nd
  unfold fConsM
  obtain ⟨s, v, f, e1, e2, e3, r⟩ := R.get e
  rw [e2]
  cases v with
  | un => trivial
  | sc x => trivial
  | ex x => trivial
  | v x0 =>
  have r : RV h b k s x0 f := r
  have hs : s ≠ .un := fun z => by subst z; exact rv_un r
  have E : Zx.fCons (Zx.fVar i) ra sl h = (ra sl h).bind fun ss h2 => .ok (s :: ss) h2 := by
    unfold Zx.fCons
    rw [fVar_at e1 hs]
    rfl
  rw [E]
  generalize qa vs = r2 at o ⊢
  generalize ra sl h = q2 at o ⊢
  cases r2 with
  | st => trivial
  | rz c => trivial
  | ok ds vs1 =>
    obtain ⟨ss, h2, fs2, fps, rfl, G, R2, n2, d2, od2⟩ := o
    dsimp only
    obtain ⟨s', v', f', g1, g2, g3, r'⟩ := G.R.get e
    rw [e1] at g1
    cases g1
    rw [g2]
    cases v' with
    | un => trivial
    | sc x => trivial
    | ex x => trivial
    | v x =>
      have r' : RV h2 b k s x f' := r'
      obtain ⟨n1, d1⟩ := nd_at G.nd g3
      refine ⟨s :: ss, h2, fs2.set i [], f' :: fps, rfl, G.sub (G.R.drop i) (nd_rest G.nd) (fun a m => mem_rest m), ⟨s, ss, .v x, ds.map VS.v, f', fps, rfl, rfl, rfl, r', R2⟩, ?_, fun a m => ?_, fun a m => ?_⟩
      · rw [List.flatten_cons, List.nodup_append]
        exact ⟨n1, n2, fun a ha c hc z => d2 c hc (by rw [← z]; exact mem_at g3 ha)⟩
      · rcases List.mem_append.mp m with m | m
        · exact d1 a m
        · exact fun z => d2 a m (mem_rest z)
      · rcases List.mem_append.mp m with m | m
        · exact G.old a (mem_at g3 m)
        · exact od2 a m
theorem rst_fzL {j : Nat} (h60 : j ≤ 60) : ∀ {js : List Nat} {h : AH} {ss : List SV} {ds : List PyData} {fps : List (List Nat)}, (∀ k ∈ js, k ≤ j) → RSt h (js.map fun k => (false, k)) ss (ds.map VS.v) fps → fps.flatten.Nodup → ∃ h', fzL j h ss = some (ds, h') ∧ h'.length = h.length ∧ ∀ m, m ∉ fps.flatten → h'[m]? = h[m]?
  | [], h, ss, ds, fps, _, r, _ => by
    obtain ⟨h1, h2, h3⟩ := (show ss = [] ∧ ds.map VS.v = [] ∧ fps = [] from r)
    have : ds = [] := List.map_eq_nil_iff.mp h2
    subst this h1 h3
    exact ⟨h, by unfold fzL; rfl, rfl, fun _ _ => rfl⟩
  | k :: js, h, ss, ds, fps, hk, r, nd => by
    obtain ⟨s, sl', v, vs', f, fs', h1, h2, h3, r1, r2⟩ := r
    cases ds with
    | nil => cases h2
    | cons d ds =>
      rw [List.map_cons] at h2
      injection h2 with e1 e2
      subst e1 e2 h1 h3
      rw [List.flatten_cons, List.nodup_append] at nd
      have r1 : RV h false k s d f := r1
      obtain ⟨h1, e1, l1, k1⟩ := RV.fz rfl r1 nd.1 (hk k List.mem_cons_self) h60
      have r3 : RSt h1 (js.map fun k => (false, k)) sl' (ds.map VS.v) fs' := r2.frame fun m hm => k1 m fun z => nd.2.2 m z m hm rfl
      obtain ⟨h2, e2, l2, k2⟩ := rst_fzL h60 (fun k hk2 => hk k (List.mem_cons_of_mem _ hk2)) r3 nd.2.1
      refine ⟨h2, ?_, l2.trans l1, fun m hm => ?_⟩
      · unfold fzL
        rw [e1]
        dsimp only
        rw [e2]
      · rw [List.flatten_cons, List.mem_append, not_or] at hm
        rw [k2 m hm.2, k1 m hm.1]
theorem rst_allD {h : AH} : ∀ {js : List Nat} {ss : List SV} {ds d2 : List PyData} {fps : List (List Nat)}, RSt h (js.map fun k => (false, k)) ss (ds.map VS.v) fps → Zx.allD ss = some d2 → d2 = ds
  | [], ss, ds, d2, fps, r, e => by
    obtain ⟨h1, h2, h3⟩ := (show ss = [] ∧ ds.map VS.v = [] ∧ fps = [] from r)
    have : ds = [] := List.map_eq_nil_iff.mp h2
    subst this h1 h3
    cases e; rfl
  | k :: js, ss, ds, d2, fps, r, e => by
    obtain ⟨s, sl', v, vs', f, fs', h1, h2, h3, r1, r2⟩ := r
    cases ds with
    | nil => cases h2
    | cons d ds =>
      rw [List.map_cons] at h2
      injection h2 with e1 e2
      subst e1 e2 h1 h3
      have r1 : RV h false k s d f := r1
      cases s with
      | d y =>
        unfold Zx.allD at e
        cases e2 : Zx.allD sl' with
        | none => rw [e2] at e; cases e
        | some d3 =>
          rw [e2] at e
          cases e
          rw [rv_d r1, rst_allD r2 e2]
      | un => cases e
      | vw y => cases e
      | r n => cases e
      | sc n => cases e
      | ex n => cases e
def fTupF (qa : VA) : VE := fun vs => match qa vs with
  | .ok ds vs => if (decide (ds.length ≤ 1000) && !immL ds) = true then .ok (.tuple ds) vs else .st
  | _ => .st
theorem xv_tupF {D : List KD} {js : List Nat} {ra : FA} {qa : VA} (ha : AX D (js.map fun j => (false, j)) ra qa) (hj : ∀ j ∈ js, j ≤ 8 := by decide) : XV D false 0 (Zx.fFz (Zx.fTupO ra)) (fTupF qa) := by
  intro h sl vs fs R nd
  have o := ha h sl vs fs R nd
  rw [a_fz]
  unfold fTupF Zx.fTupO
  generalize qa vs = r at o ⊢
  generalize ra sl h = q at o ⊢
  cases r with
  | st => trivial
  | rz c => trivial
  | ok ds vs1 =>
    obtain ⟨ss, h1, fs1, fps, rfl, G, R1, n1, d1, od1⟩ := o
    dsimp only
    split
    · rename_i c
      rw [Bool.and_eq_true] at c
      have c1 := of_decide_eq_true c.1
      have c3 : immL ds = false := by simpa using c.2
      have len : ss.length = ds.length := by
        have := R1.len
        rw [List.length_map] at this
        have l2 : (ds.map VS.v).length = ds.length := List.length_map _
        omega
      show OutX _ _ _ _ _ _ _ (((if ss.length ≤ 1000 then (match Zx.allI ss with | some ds => Zx.R.ok (SV.d (.tuple ds)) h1 | none => .ok (SV.r h1.length) (h1 ++ [some (AO.tup ss)])) else .st)).bind _)
      rw [if_pos (by rw [len]; exact c1)]
      have ei : Zx.allI ss = none := by
        unfold Zx.allI
        cases e : Zx.allD ss with
        | none => rfl
        | some d2 =>
          dsimp only
          rw [rst_allD R1 e, c3]; rfl
      rw [ei]
      have R2 : RSt (h1 ++ [some (.tup ss)]) (js.map fun j => (false, j)) ss (ds.map VS.v) fps := R1.app
      obtain ⟨h2, e2, l2, k2⟩ := rst_fzL (j := 8) (by decide) hj R2 n1
      have lt : ∀ a ∈ fps.flatten, a < h1.length := fun a m => R1.lt a m
      have hn0 : (h1 ++ [some (AO.tup ss)])[h1.length]? = some (some (.tup ss)) := by rw [List.getElem?_append_right (Nat.le_refl _), Nat.sub_self]; rfl
      have hn2 : h2[h1.length]? = some (some (.tup ss)) := by rw [k2 _ (fun z => Nat.lt_irrefl _ (lt _ z)), hn0]
      have ef : fzv 9 (h1 ++ [some (AO.tup ss)]) (.r h1.length) = some (.tuple ds, h2.set h1.length none) := by
        unfold fzv
        rw [hn0]
        dsimp only
        rw [e2]
        dsimp only
        rw [hn2]
        dsimp only
        rw [if_pos ⟨rfl, l2⟩]
      show OutX _ _ _ _ _ _ _ (opt (fzv 9 (h1 ++ [some (AO.tup ss)]) (.r h1.length)) (fun p => .ok (.d p.1) (trimE h.length sl p.2)) .st)
      rw [ef]
      show OutX _ _ _ _ _ _ _ (.ok (.d (.tuple ds)) (trimE h.length sl (h2.set h1.length none)))
      have k3 : ∀ m, m < h1.length → m ∉ fps.flatten → (h2.set h1.length none)[m]? = h1[m]? := fun m hm hf => by
        rw [List.getElem?_set_ne (by omega), k2 m hf, List.getElem?_append_left hm]
      have l3 : (h2.set h1.length none).length = h1.length + 1 := by rw [List.length_set, l2, List.length_append]; rfl
      generalize h2.set h1.length none = h3 at k3 l3
      have G2 : Good D h fs h3 sl vs1 fs1 := by
        refine ⟨G.R.frame fun n m => k3 n (G.R.lt n m) fun z => d1 n z m, G.nd, G.old, fun n hn hm => ?_, by rw [l3]; have := G.le; omega⟩
        rw [k3 n (Nat.lt_of_lt_of_le hn G.le) fun z => (od1 n z).elim hm fun w => by omega]
        exact G.fr n hn hm
      have fin : ∀ h4, Good D h fs h4 sl vs1 fs1 → OutX D false 0 h sl fs (.ok (.tuple ds) vs1) (.ok (.d (.tuple ds)) h4) := fun h4 G3 => ⟨.d (.tuple ds), h4, fs1, [], rfl, G3, RV.d, List.nodup_nil, (fun n m => by cases m), (fun n m => by cases m)⟩
      unfold trimE
      split
      · rename_i c
        unfold trimOk at c
        rw [Bool.and_eq_true] at c
        have hb := RSt.below c.1 c.2 G2.R
        refine fin _ ⟨G2.R.frame fun n m => List.getElem?_take_of_lt (hb n m), G2.nd, G2.old, fun n hn hm => ?_, ?_⟩
        · rw [List.getElem?_take_of_lt hn]; exact G2.fr n hn hm
        · rw [List.length_take]; have := G2.le; omega
      · exact fin _ G2
    · trivial
theorem u_consM {i : Nat} {qa : VA} {vs : List VS} : fConsM i qa vs = gv vs[i]? (fun _ => match qa vs with | .ok ds vs1 => gv vs1[i]? (fun x => .ok (x :: ds) (vs1.set i .un)) .st | _ => .st) .st := by
  unfold fConsM gv
  rcases vs[i]? with _ | (_ | y | _ | _) <;> rfl
theorem u_tupF {qa : VA} {vs : List VS} : fTupF qa vs = match qa vs with
  | .ok ds vs => if (decide (ds.length ≤ 1000) && !immL ds) = true then .ok (.tuple ds) vs else .st
  | _ => .st := (rfl)
end Zx.V
namespace Gn.V
open PySem PySem.Spec L2 Zx.V
open Zx (SV AO AH FE FA FT FS Md Bd It1 Src O RpS En Wd inB iAdd iSub imm nod mulB divB modB powB lim flatD flatL isTy cutX lk lkAny orK)
noncomputable def ee_net_of_1 : VE :=
  (fLc false 3 (iRng (fCons (fBin gIx (fVar 0) (fC (.int 0))) fNil)) (.nm 5) fYes (fDct false 2) [5])
noncomputable def el_net_of_1 : VF :=
  (sFor (iSeq (fBin gIx (fVar 0) (fC (.int 1)))) (.tp [2, 3, 4]) (sExpr (fSetApp 1 (pIx pVar (fVar 2)) (fVar 3) (fImm (fVar 4)))))
noncomputable def em_net_of : VF :=
  (sSeq (sSet 1 ee_net_of_1)
    (sSeq el_net_of_1
    (sRet (fMv 1))))
noncomputable def w_net_of : List PyData → VC := phiV [.vw] 6 em_net_of
abbrev K_net_of : List KD := [(true, 0), (false, 3), (true, 0), (true, 0), (true, 0), (false, 0)]
theorem k_net_of : CalV v_net_of 0 w_net_of := by
  have s : ∃ A, SVp K_net_of A false 0 m_net_of em_net_of := by
    delta m_net_of em_net_of l_net_of_1 e_net_of_1 el_net_of_1 ee_net_of_1
    exact ⟨_, (sv_seq (sv_set (i := 1) (xv_ev (ev_lc (b := false) (fr := true) (iv_rng (b := false) (av_cons (ev_bin (b := true) (k := 0) (fr := true) (ov_ix (k1 := 0)) (ev_var0 (b := true) (fr := true) (i := 0) rfl) (ev_c (x := (.int 0)) (b := false) (k := 0) (fr := true))) av_nil)) tv_yes (ev_dct (b := false) (k := 1) (fr := true)))))
    (sv_seq (sv_for (iv_seq (ev_bin (b := true) (k := 0) (fr := true) (ov_ix (k1 := 0)) (ev_var0 (b := true) (fr := true) (i := 0) rfl) (ev_c (x := (.int 1)) (b := false) (k := 0) (fr := true)))) (sv_expr (xv_setapp (b := false) (bi := false) (ki := 0) (i := 1) (n := 1) (pv_ix (b := false) (i := 1) (n := 0) (m := 2) (pv_var (i := 1) rfl) (ev_var0 (b := true) (fr := true) (i := 2) rfl) rfl) (ev_var0 (b := true) (fr := true) (i := 3) rfl) (ev_fz0 (k := 0) (fr := true) (ev_imm (b := false) (fr := true) (ev_var0 (b := true) (fr := true) (i := 4) rfl))) rfl)))
    (sv_retX (xv_fz (k := 3) (xv_mv (b := false) (k := 3) (i := 1) rfl)))))⟩
  exact s.elim fun _ s => cal_phi s
noncomputable def el_places_by_1 : VF :=
  (sFor (iSeq (fDG2 (fBin gIx (fVar 0) (fVar 4)) (fVar 2) (fLst false 1 fNil))) (.nm 5) (sDStore 3 (fVar 5) (fC (.bool true))))
noncomputable def el_places_by_2 : VF :=
  (sFor (iSeq (fVar 1)) (.nm 4) el_places_by_1)
noncomputable def em_places_by : VF :=
  (sSeq (sSet 3 (fDct false 1))
    (sSeq el_places_by_2
    (sRet (fCB gSortedD (fCons (fVar 3) fNil)))))
noncomputable def w_places_by : List PyData → VC := phiV [.fz, .vw, .vw] 6 em_places_by
abbrev K_places_by : List KD := [(false, 0), (true, 0), (true, 0), (false, 1), (true, 0), (false, 0)]
theorem k_places_by : CalV v_places_by 1 w_places_by := by
  have s : ∃ A, SVp K_places_by A false 1 m_places_by em_places_by := by
    delta m_places_by em_places_by l_places_by_2 l_places_by_1 el_places_by_2 el_places_by_1
    exact ⟨_, (sv_seq (sv_set (i := 3) (xv_ev (ev_dct (b := false) (k := 0) (fr := true))))
    (sv_seq (sv_for (iv_seq (ev_var0 (b := true) (fr := true) (i := 1) rfl)) (sv_for (iv_seq (ev_dg2 (b := false) (fr := true) (ev_bin (b := false) (k := 0) (fr := true) (ov_ix (k1 := 0)) (ev_var0 (b := false) (fr := true) (i := 0) rfl) (ev_var0 (b := true) (fr := true) (i := 4) rfl)) (ev_var0 (b := true) (fr := true) (i := 2) rfl) (ev_fz0 (k := 1) (fr := true) (ev_lst (fr := true) (af_nil (b := false) (k := 0)))))) (sv_dstore (i := 3) (ev_var0 (b := false) (fr := true) (i := 5) rfl) (xv_ev (ev_c (x := (.bool true)) (b := false) (k := 0) (fr := true))))))
    (sv_ret (ev_cb (b := false) (fr := true) cv_sortedD (av_cons (ev_var (b := false) (k := 1) (i := 3) rfl) av_nil)))))⟩
  exact s.elim fun _ s => cal_phi s
noncomputable def el_law_order_1 : VF :=
  (sWhile 1000 (fTst (fBin (gEq true) (fVar 2) (fLst false 1 fNil))) (sSeq (sExpr (fApp 3 (fMt 2 pVar kPpA (fCons (fBin gMod (fVar 1) (fCB gLen (fCons (fVar 2) fNil))) fNil))))
    (sSet 1 (fBin gDiv (fVar 1) (fBin gAdd (fCB gLen (fCons (fVar 2) fNil)) (fC (.int 1)))))))
noncomputable def em_law_order : VF :=
  (sSeq (sSet 2 (fLrg1 (fVar 0)))
    (sSeq (sSet 3 (fLst false 1 fNil))
    (sSeq el_law_order_1
    (sRet (fMv 3)))))
noncomputable def w_law_order : List PyData → VC := phiV [.vw, .vw] 4 em_law_order
abbrev K_law_order : List KD := [(true, 0), (true, 0), (false, 1), (false, 1)]
theorem k_law_order : CalV v_law_order 0 w_law_order := by
  have s : ∃ A, SVp K_law_order A false 0 m_law_order em_law_order := by
    delta m_law_order em_law_order l_law_order_1 el_law_order_1
    exact ⟨_, (sv_seq (sv_set (i := 2) (xv_ev (ev_lrg1 (b := false) (fr := true) (ev_var0 (b := true) (fr := true) (i := 0) rfl))))
    (sv_seq (sv_set (i := 3) (xv_ev (ev_lst (fr := true) (af_nil (b := false) (k := 0)))))
    (sv_seq (sv_while (fuel := 1000) (tv_tst (ev_bin (b := false) (k := 0) (fr := true) ov_eq (ev_var (b := false) (k := 1) (i := 2) rfl) (ev_fz0 (k := 1) (fr := true) (ev_lst (fr := true) (af_nil (b := false) (k := 0)))))) (sv_seq (sv_expr (xv_app (bi := false) (ki := 0) (i := 3) (m := 0) (xv_fz (k := 0) (xv_mt (m := 0) kv_ppA (pv_var (i := 2) rfl) (af_cons (ev_bin (b := false) (k := 0) (fr := true) ov_mod (ev_var0 (b := true) (fr := true) (i := 1) rfl) (ev_cb (b := false) (k := 0) (fr := true) cv_len (av_cons (ev_var (b := false) (k := 1) (i := 2) rfl) av_nil))) (af_nil (b := false) (k := 0))) rfl))))
    (sv_set (i := 1) (xv_ev (ev_bin (b := false) (k := 0) (fr := true) ov_div (ev_var0 (b := true) (fr := true) (i := 1) rfl) (ev_bin (b := false) (k := 0) (fr := true) ov_add (ev_cb (b := false) (k := 0) (fr := true) cv_len (av_cons (ev_var (b := false) (k := 1) (i := 2) rfl) av_nil)) (ev_c (x := (.int 1)) (b := false) (k := 0) (fr := true))))))))
    (sv_retX (xv_fz (k := 1) (xv_mv (b := false) (k := 1) (i := 3) rfl))))))⟩
  exact s.elim fun _ s => cal_phi s
noncomputable def el_law_behind_1 : VF :=
  (sFor (iSeq (fBin gIx (fVar 0) (fC (.int 1)))) (.tp [4, 5, 6]) (sIf (fAndT (fTst (fBin (gEq false) (fVar 5) (fVar 2))) (fTst (fBin (gIn false) (fVar 4) (fVar 1)))) (sDStore 3 (fVar 6) (fC (.bool true))) sNext))
noncomputable def em_law_behind : VF :=
  (sSeq (sSet 3 (fDct false 1))
    (sSeq el_law_behind_1
    (sRet (fCB gSortedD (fCons (fVar 3) fNil)))))
noncomputable def w_law_behind : List PyData → VC := phiV [.vw, .vw, .vw] 7 em_law_behind
abbrev K_law_behind : List KD := [(true, 0), (true, 0), (true, 0), (false, 1), (true, 0), (true, 0), (true, 0)]
theorem k_law_behind : CalV v_law_behind 0 w_law_behind := by
  have s : ∃ A, SVp K_law_behind A false 0 m_law_behind em_law_behind := by
    delta m_law_behind em_law_behind l_law_behind_1 el_law_behind_1
    exact ⟨_, (sv_seq (sv_set (i := 3) (xv_ev (ev_dct (b := false) (k := 0) (fr := true))))
    (sv_seq (sv_for (iv_seq (ev_bin (b := true) (k := 0) (fr := true) (ov_ix (k1 := 0)) (ev_var0 (b := true) (fr := true) (i := 0) rfl) (ev_c (x := (.int 1)) (b := false) (k := 0) (fr := true)))) (sv_if (tv_and (tv_tst (ev_bin (b := false) (k := 0) (fr := true) ov_eq (ev_var0 (b := true) (fr := true) (i := 5) rfl) (ev_var0 (b := true) (fr := true) (i := 2) rfl))) (tv_tst (ev_bin (b := false) (k := 0) (fr := true) ov_in (ev_var0 (b := true) (fr := true) (i := 4) rfl) (ev_var0 (b := true) (fr := true) (i := 1) rfl)))) (sv_dstore (i := 3) (ev_var0 (b := true) (fr := true) (i := 6) rfl) (xv_ev (ev_c (x := (.bool true)) (b := false) (k := 0) (fr := true)))) sv_next))
    (sv_ret (ev_fz0 (k := 1) (fr := true) (ev_cb (b := false) (fr := true) cv_sortedD (av_cons (ev_var (b := false) (k := 1) (i := 3) rfl) av_nil))))))⟩
  exact s.elim fun _ s => cal_phi s
noncomputable def ee_law_is_kind_1 : VE :=
  (fLc false 1 (iSeq (fVar 1)) (.nm 3) fYes (fIsi "bool" (fVar 3)) [3])
noncomputable def el_law_is_kind_1 : VF :=
  (sFor (iSeq (fBin gIx (fVar 0) (fC (.int 0)))) (.nm 1) (sIf (fOrT (fNotT (fTst (fIsi "list" (fVar 1)))) (fTst (fCB (gBools fun bs => bs.any id) (fCons ee_law_is_kind_1 fNil)))) (sRet (fC (.bool false))) sNext))
noncomputable def ee_law_is_kind_2 : VE :=
  (fLc false 1 (iSeq (fBin gIx (fBin gIx (fVar 0) (fC (.int 1))) (fC (.int 1)))) (.nm 2) fYes (fAndV (fIsi "tuple" (fVar 2)) (fNotV (fIsi "bool" (fBin gIx (fVar 2) (fC (.int 0)))))) [2])
noncomputable def em_law_is_kind : VF :=
  (sSeq (sIf (fOrT (fNotT (fTst (fIsi "tuple" (fVar 0)))) (fOrT (fNotT (fTst (fIsi "list" (fBin gIx (fVar 0) (fC (.int 0)))))) (fNotT (fTst (fIsi "tuple" (fBin gIx (fVar 0) (fC (.int 1)))))))) (sRet (fC (.bool false))) sNext)
    (sSeq (sIf (fOrT (fNotT (fTst (fIsi "int" (fBin gIx (fBin gIx (fVar 0) (fC (.int 1))) (fC (.int 0)))))) (fOrT (fTst (fIsi "bool" (fBin gIx (fBin gIx (fVar 0) (fC (.int 1))) (fC (.int 0))))) (fNotT (fTst (fIsi "list" (fBin gIx (fBin gIx (fVar 0) (fC (.int 1))) (fC (.int 1)))))))) (sRet (fC (.bool false))) sNext)
    (sSeq el_law_is_kind_1
    (sRet (fCB (gBools fun bs => bs.all id) (fCons ee_law_is_kind_2 fNil))))))
noncomputable def w_law_is_kind : List PyData → VC := phiV [.vw] 4 em_law_is_kind
abbrev K_law_is_kind : List KD := [(true, 0), (true, 0), (true, 0), (true, 0)]
theorem k_law_is_kind : CalV v_law_is_kind 0 w_law_is_kind := by
  have s : ∃ A, SVp K_law_is_kind A false 0 m_law_is_kind em_law_is_kind := by
    delta m_law_is_kind em_law_is_kind l_law_is_kind_1 e_law_is_kind_2 e_law_is_kind_1 ee_law_is_kind_2 el_law_is_kind_1 ee_law_is_kind_1
    exact ⟨_, (sv_seq (sv_if (tv_or (tv_not (tv_tst (ev_isi (b := false) (k := 0) (fr := true) (ev_var0 (b := true) (fr := true) (i := 0) rfl)))) (tv_or (tv_not (tv_tst (ev_isi (b := false) (k := 0) (fr := true) (ev_bin (b := true) (k := 0) (fr := true) (ov_ix (k1 := 0)) (ev_var0 (b := true) (fr := true) (i := 0) rfl) (ev_c (x := (.int 0)) (b := false) (k := 0) (fr := true)))))) (tv_not (tv_tst (ev_isi (b := false) (k := 0) (fr := true) (ev_bin (b := true) (k := 0) (fr := true) (ov_ix (k1 := 0)) (ev_var0 (b := true) (fr := true) (i := 0) rfl) (ev_c (x := (.int 1)) (b := false) (k := 0) (fr := true)))))))) (sv_ret (ev_c (x := (.bool false)) (b := false) (k := 0) (fr := true))) sv_next)
    (sv_seq (sv_if (tv_or (tv_not (tv_tst (ev_isi (b := false) (k := 0) (fr := true) (ev_bin (b := true) (k := 0) (fr := true) (ov_ix (k1 := 0)) (ev_bin (b := true) (k := 0) (fr := true) (ov_ix (k1 := 0)) (ev_var0 (b := true) (fr := true) (i := 0) rfl) (ev_c (x := (.int 1)) (b := false) (k := 0) (fr := true))) (ev_c (x := (.int 0)) (b := false) (k := 0) (fr := true)))))) (tv_or (tv_tst (ev_isi (b := false) (k := 0) (fr := true) (ev_bin (b := true) (k := 0) (fr := true) (ov_ix (k1 := 0)) (ev_bin (b := true) (k := 0) (fr := true) (ov_ix (k1 := 0)) (ev_var0 (b := true) (fr := true) (i := 0) rfl) (ev_c (x := (.int 1)) (b := false) (k := 0) (fr := true))) (ev_c (x := (.int 0)) (b := false) (k := 0) (fr := true))))) (tv_not (tv_tst (ev_isi (b := false) (k := 0) (fr := true) (ev_bin (b := true) (k := 0) (fr := true) (ov_ix (k1 := 0)) (ev_bin (b := true) (k := 0) (fr := true) (ov_ix (k1 := 0)) (ev_var0 (b := true) (fr := true) (i := 0) rfl) (ev_c (x := (.int 1)) (b := false) (k := 0) (fr := true))) (ev_c (x := (.int 1)) (b := false) (k := 0) (fr := true)))))))) (sv_ret (ev_c (x := (.bool false)) (b := false) (k := 0) (fr := true))) sv_next)
    (sv_seq (sv_for (iv_seq (ev_bin (b := true) (k := 0) (fr := true) (ov_ix (k1 := 0)) (ev_var0 (b := true) (fr := true) (i := 0) rfl) (ev_c (x := (.int 0)) (b := false) (k := 0) (fr := true)))) (sv_if (tv_or (tv_not (tv_tst (ev_isi (b := false) (k := 0) (fr := true) (ev_var0 (b := true) (fr := true) (i := 1) rfl)))) (tv_tst (ev_cb (b := false) (k := 0) (fr := true) cv_bools (av_cons (ev_fz0 (k := 1) (fr := true) (ev_lc (b := false) (fr := true) (iv_seq (ev_var0 (b := true) (fr := true) (i := 1) rfl)) tv_yes (ev_isi (b := false) (k := 0) (fr := true) (ev_var0 (b := true) (fr := true) (i := 3) rfl)))) av_nil)))) (sv_ret (ev_c (x := (.bool false)) (b := false) (k := 0) (fr := true))) sv_next))
    (sv_ret (ev_cb (b := false) (k := 0) (fr := true) cv_bools (av_cons (ev_fz0 (k := 1) (fr := true) (ev_lc (b := false) (fr := true) (iv_seq (ev_bin (b := true) (k := 0) (fr := true) (ov_ix (k1 := 0)) (ev_bin (b := true) (k := 0) (fr := true) (ov_ix (k1 := 0)) (ev_var0 (b := true) (fr := true) (i := 0) rfl) (ev_c (x := (.int 1)) (b := false) (k := 0) (fr := true))) (ev_c (x := (.int 1)) (b := false) (k := 0) (fr := true)))) tv_yes (ev_and (fr := true) (ev_isi (b := false) (k := 0) (fr := true) (ev_var0 (b := true) (fr := true) (i := 2) rfl)) (ev_not (b := false) (k := 0) (fr := true) (ev_isi (b := false) (k := 0) (fr := true) (ev_bin (b := true) (k := 0) (fr := true) (ov_ix (k1 := 0)) (ev_var0 (b := true) (fr := true) (i := 2) rfl) (ev_c (x := (.int 0)) (b := false) (k := 0) (fr := true)))))))) av_nil))))))⟩
  exact s.elim fun _ s => cal_phi s
noncomputable def el_sets_of_1 : VF :=
  (sFor (iTupl (fC (.tuple [.str (PySem.Str.ofString "a"), .str (PySem.Str.ofString "b"), .str (PySem.Str.ofString "c"), .str (PySem.Str.ofString "d")]))) (.nm 6) (sSeq (sSet 7 (fCall w_places_by (fCons (fVar 1) (fCons (fBin gIxO (fVar 2) (fVar 5)) (fCons (fVar 6) fNil)))))
    (sIf (fAndT (fTst (fBin (gEq true) (fVar 7) (fLst false 1 fNil))) (fTst (fTIn true (fCB gTuple (fCons (fVar 7) fNil)) (fVar 3)))) (sSeq (sTStore 3 (fCB gTuple (fCons (fVar 7) fNil)) (fCB gLen (fCons (fVar 2) fNil))) (sPush 2 7 (sIf (fTst (fBin (gEq true) (fVar 7) (fLst false 1 fNil))) (sExpr (fApp 4 (fTup (fCons (fVar 5) (fCons (fVar 6) (fCons (fTGet (fVar 3) (fCB gTuple (fCons (fVar 7) fNil))) fNil)))))) sNext)))
    (sIf (fTst (fBin (gEq true) (fVar 7) (fLst false 1 fNil))) (sExpr (fApp 4 (fTup (fCons (fVar 5) (fCons (fVar 6) (fCons (fTGet (fVar 3) (fCB gTuple (fCons (fVar 7) fNil))) fNil)))))) sNext))))
noncomputable def el_sets_of_2 : VF :=
  (sWhile 10000 (fTst (fBin gLt (fVar 5) (fCB gLen (fCons (fVar 2) fNil)))) (sSeq el_sets_of_1
    (sAug 5 (gI (fun _ _ => true) fun a b => .int (iAdd a b)) (fC (.int 1)))))
noncomputable def em_sets_of : VF :=
  (sSeq (sSet 1 (fCall w_net_of (fCons (fVar 0) fNil)))
    (sSeq (sSet 2 (fLst false 2 (fCons (fLrg1 (fBin gIx (fVar 0) (fC (.int 0)))) fNil)))
    (sSeq (sSet 3 (fDktO (fCB gTuple (fCons (fBin gIxO (fVar 2) (fC (.int 0))) fNil)) (fC (.int 0))))
    (sSeq (sSet 4 (fLst false 1 fNil))
    (sSeq (sSet 5 (fC (.int 0)))
    (sSeq el_sets_of_2
    (sRet (fTupX 2 [2, 2] (fConsM 2 (fConsX (fTupX 1 [0, 1] (fConsX (fCB gLen (fCons (fVar 2) fNil)) (fConsX (fMv 4) fNil))) fNil))))))))))
noncomputable def w_sets_of : List PyData → VC := phiV [.vw] 8 em_sets_of
abbrev K_sets_of : List KD := [(true, 0), (false, 0), (false, 2), (false, 61), (false, 1), (false, 0), (false, 0), (false, 1)]
theorem k_sets_of : CalV v_sets_of 3 w_sets_of := by
  have s : ∃ A, SVp K_sets_of A false 3 m_sets_of em_sets_of := by
    delta m_sets_of em_sets_of l_sets_of_2 l_sets_of_1 el_sets_of_2 el_sets_of_1
    exact ⟨_, (sv_seq (sv_set (i := 1) (xv_ev (ev_call (k := 0) (fr := true) k_net_of (am_vw (ev_var0 (b := true) (fr := true) (i := 0) rfl) am_nil))))
    (sv_seq (sv_set (i := 2) (xv_ev (ev_lst (fr := true) (af_cons (ev_lrg1 (b := false) (fr := true) (ev_bin (b := true) (k := 0) (fr := true) (ov_ix (k1 := 0)) (ev_var0 (b := true) (fr := true) (i := 0) rfl) (ev_c (x := (.int 0)) (b := false) (k := 0) (fr := true)))) (af_nil (b := false) (k := 1))))))
    (sv_seq (sv_set (i := 3) (xv_ev (ev_dkt1 (b := false) (k := 60) (fr := true) (ev_cb (b := false) (fr := true) cv_tuple (av_cons (ev_bin (b := false) (k := 1) (fr := false) ov_ixO (ev_var (b := false) (k := 2) (i := 2) rfl) (ev_c (x := (.int 0)) (b := false) (k := 0) (fr := true))) av_nil)) (ev_c (x := (.int 0)) (b := false) (k := 0) (fr := true)))))
    (sv_seq (sv_set (i := 4) (xv_ev (ev_lst (fr := true) (af_nil (b := false) (k := 0)))))
    (sv_seq (sv_set (i := 5) (xv_ev (ev_c (x := (.int 0)) (b := false) (k := 0) (fr := true))))
    (sv_seq (sv_while (fuel := 10000) (tv_tst (ev_bin (b := false) (k := 0) (fr := true) ov_lt (ev_var0 (b := false) (fr := true) (i := 5) rfl) (ev_cb (b := false) (k := 0) (fr := true) cv_len (av_cons (ev_var (b := false) (k := 2) (i := 2) rfl) av_nil)))) (sv_seq (sv_for (iv_tup (ev_c (x := (.tuple [.str (PySem.Str.ofString "a"), .str (PySem.Str.ofString "b"), .str (PySem.Str.ofString "c"), .str (PySem.Str.ofString "d")])) (b := false) (k := 0) (fr := true))) (sv_seq (sv_set (i := 7) (xv_ev (ev_call (k := 1) (fr := true) k_places_by (am_fz (ev_var0 (b := false) (fr := true) (i := 1) rfl) (am_vw (ev_bin (b := false) (k := 1) (fr := false) ov_ixO (ev_var (b := false) (k := 2) (i := 2) rfl) (ev_var0 (b := false) (fr := true) (i := 5) rfl)) (am_vw (ev_var0 (b := false) (fr := true) (i := 6) rfl) am_nil))))))
    (sv_pushIf (b := false) (k := 0) (l := 2) (i := 7) (tv_and (tv_tst (ev_bin (b := false) (k := 0) (fr := true) ov_eq (ev_var (b := false) (k := 1) (i := 7) rfl) (ev_fz0 (k := 1) (fr := true) (ev_lst (fr := true) (af_nil (b := false) (k := 0)))))) (tv_tst (ev_tin (b := false) (k := 0) (fr := true) (k2 := 60) (ev_cb (b := false) (fr := true) cv_tuple (av_cons (ev_var (b := false) (k := 1) (i := 7) rfl) av_nil)) (ev_var (b := false) (k := 61) (i := 3) rfl)))) (sv_tstore (i := 3) (k := 60) (ev_cb (b := false) (fr := true) cv_tuple (av_cons (ev_var (b := false) (k := 1) (i := 7) rfl) av_nil)) (xv_ev (ev_cb (b := false) (k := 0) (fr := true) cv_len (av_cons (ev_var (b := false) (k := 2) (i := 2) rfl) av_nil))))
    (sv_if (tv_tst (ev_bin (b := false) (k := 0) (fr := true) ov_eq (ev_var (b := false) (k := 1) (i := 7) rfl) (ev_fz0 (k := 1) (fr := true) (ev_lst (fr := true) (af_nil (b := false) (k := 0)))))) (sv_expr (xv_app (bi := false) (ki := 0) (i := 4) (m := 0) (xv_ev (ev_tup (fr := true) (n := 3) (av_cons (ev_var0 (b := false) (fr := true) (i := 5) rfl) (av_cons (ev_var0 (b := false) (fr := true) (i := 6) rfl) (av_cons (ev_tget (b := false) (k := 0) (fr := true) (k1 := 60) (ev_var (b := false) (k := 61) (i := 3) rfl) (ev_cb (b := false) (fr := true) cv_tuple (av_cons (ev_var (b := false) (k := 1) (i := 7) rfl) av_nil))) av_nil))))))) sv_next))))
    (sv_aug (j := 5) (ov_I fun _ _ => rfl) (ev_c (x := (.int 1)) (b := false) (k := 0) (fr := true)))))
    (sv_retX (xv_tupOX (b := false) (k := 2) (js := [2, 2]) (ax_consM (b := false) (k := 2) (i := 2) (ax_cons (b := false) (xv_tupOX (b := false) (k := 1) (js := [0, 1]) (ax_cons (b := false) (xv_ev (ev_cb (b := false) (k := 0) (fr := true) cv_len (av_cons (ev_var (b := false) (k := 2) (i := 2) rfl) av_nil))) (ax_cons (b := false) (xv_mv (b := false) (k := 1) (i := 4) rfl) ax_nil))) ax_nil) rfl)))))))))⟩
  exact s.elim fun _ s => cal_phi s
noncomputable def w_law_big : List PyData → VC := lift v_law_big 0
theorem k_law_big : CalV v_law_big 0 w_law_big := cal_lift
noncomputable def el_law_ring_1 : VF :=
  (sFor (iRng (fCons (fVar 0) fNil)) (.nm 4) (sSeq (sTStore 3 (fTup (fCons (fBin gIx (fVar 2) (fBin gSub (fVar 4) (fC (.int 1)))) (fCons (fBin gIx (fC (.str (PySem.Str.ofString "abcd"))) (fBin gMod (fVar 1) (fC (.int 4)))) (fCons (fBin gIx (fVar 2) (fVar 4)) fNil)))) (fC (.bool true)))
    (sSet 1 (fBin gDiv (fVar 1) (fC (.int 4))))))
noncomputable def em_law_ring : VF :=
  (sSeq (sSet 2 (fCall w_law_order (fCons (fVar 0) (fCons (fVar 1) fNil))))
    (sSeq (sSet 1 (fBin gDiv (fVar 1) (fC (.int 720))))
    (sSeq (sSet 3 fDkt)
    (sSeq el_law_ring_1
    (sRet (fMv 3))))))
noncomputable def w_law_ring : List PyData → VC := phiV [.vw, .vw] 5 em_law_ring
abbrev K_law_ring : List KD := [(true, 0), (true, 0), (false, 0), (false, 61), (false, 0)]
theorem k_law_ring : CalV v_law_ring 61 w_law_ring := by
  have s : ∃ A, SVp K_law_ring A false 61 m_law_ring em_law_ring := by
    delta m_law_ring em_law_ring l_law_ring_1 el_law_ring_1
    exact ⟨_, (sv_seq (sv_set (i := 2) (xv_ev (ev_call (k := 0) (fr := true) k_law_order (am_vw (ev_var0 (b := true) (fr := true) (i := 0) rfl) (am_vw (ev_var0 (b := true) (fr := true) (i := 1) rfl) am_nil)))))
    (sv_seq (sv_set (i := 1) (xv_ev (ev_bin (b := false) (k := 0) (fr := true) ov_div (ev_var0 (b := true) (fr := true) (i := 1) rfl) (ev_c (x := (.int 720)) (b := false) (k := 0) (fr := true)))))
    (sv_seq (sv_set (i := 3) (xv_ev (ev_dkt (b := false) (k := 60) (fr := true))))
    (sv_seq (sv_for (iv_rng (b := false) (av_cons (ev_var0 (b := true) (fr := true) (i := 0) rfl) av_nil)) (sv_seq (sv_tstore (i := 3) (k := 60) (ev_tup (fr := true) (n := 3) (av_cons (ev_bin (b := false) (k := 0) (fr := true) (ov_ix (k1 := 0)) (ev_var0 (b := false) (fr := true) (i := 2) rfl) (ev_bin (b := false) (k := 0) (fr := true) ov_sub (ev_var0 (b := false) (fr := true) (i := 4) rfl) (ev_c (x := (.int 1)) (b := false) (k := 0) (fr := true)))) (av_cons (ev_bin (b := false) (k := 0) (fr := true) (ov_ix (k1 := 0)) (ev_c (x := (.str (PySem.Str.ofString "abcd"))) (b := false) (k := 0) (fr := true)) (ev_bin (b := false) (k := 0) (fr := true) ov_mod (ev_var0 (b := true) (fr := true) (i := 1) rfl) (ev_c (x := (.int 4)) (b := false) (k := 0) (fr := true)))) (av_cons (ev_bin (b := false) (k := 0) (fr := true) (ov_ix (k1 := 0)) (ev_var0 (b := false) (fr := true) (i := 2) rfl) (ev_var0 (b := false) (fr := true) (i := 4) rfl)) av_nil)))) (xv_ev (ev_c (x := (.bool true)) (b := false) (k := 0) (fr := true))))
    (sv_set (i := 1) (xv_ev (ev_bin (b := false) (k := 0) (fr := true) ov_div (ev_var0 (b := true) (fr := true) (i := 1) rfl) (ev_c (x := (.int 4)) (b := false) (k := 0) (fr := true)))))))
    (sv_retX (xv_mv (b := false) (k := 61) (i := 3) rfl))))))⟩
  exact s.elim fun _ s => cal_phi s
noncomputable def el_law_due_1 : VF :=
  (sFor (iStr (fC (.str (PySem.Str.ofString "abcd")))) (.nm 4) (sSeq (sSet 5 (fCall w_law_behind (fCons (fVar 0) (fCons (fBin gIx (fVar 1) (fVar 3)) (fCons (fVar 4) fNil)))))
    (sIf (fTst (fBin (gEq true) (fVar 5) (fLst false 1 fNil))) (sSeq (sIf (fTst (fBin (gInD true) (fVar 5) (fVar 1))) (sExpr (fApp 1 (fVar 5))) sNext)
    (sExpr (fApp 2 (fTup (fCons (fVar 3) (fCons (fVar 4) (fCons (fIdx (fVar 1) (fVar 5)) fNil))))))) sNext)))
noncomputable def el_law_due_2 : VF :=
  (sWhile 10000 (fTst (fBin gLt (fVar 3) (fCB gLen (fCons (fVar 1) fNil)))) (sSeq el_law_due_1
    (sSet 3 (fBin gAdd (fVar 3) (fC (.int 1))))))
noncomputable def em_law_due : VF :=
  (sSeq (sSet 1 (fLst false 1 (fCons (fLrg1 (fBin gIx (fVar 0) (fC (.int 0)))) fNil)))
    (sSeq (sSet 2 (fLst false 1 fNil))
    (sSeq (sSet 3 (fC (.int 0)))
    (sSeq el_law_due_2
    (sRet (fTupF (fConsM 1 (fConsX (fTupX 1 [0, 1] (fConsX (fCB gLen (fCons (fVar 1) fNil)) (fConsX (fMv 2) fNil))) fNil))))))))
noncomputable def w_law_due : List PyData → VC := phiV [.vw] 6 em_law_due
abbrev K_law_due : List KD := [(true, 0), (false, 1), (false, 1), (false, 0), (false, 0), (false, 0)]
theorem k_law_due : CalV v_law_due 0 w_law_due := by
  have s : ∃ A, SVp K_law_due A false 0 m_law_due em_law_due := by
    delta m_law_due em_law_due l_law_due_2 l_law_due_1 el_law_due_2 el_law_due_1
    exact ⟨_, (sv_seq (sv_set (i := 1) (xv_ev (ev_lst (fr := true) (af_cons (ev_fz0 (k := 1) (fr := true) (ev_lrg1 (b := false) (fr := true) (ev_bin (b := true) (k := 0) (fr := true) (ov_ix (k1 := 0)) (ev_var0 (b := true) (fr := true) (i := 0) rfl) (ev_c (x := (.int 0)) (b := false) (k := 0) (fr := true))))) (af_nil (b := false) (k := 0))))))
    (sv_seq (sv_set (i := 2) (xv_ev (ev_lst (fr := true) (af_nil (b := false) (k := 0)))))
    (sv_seq (sv_set (i := 3) (xv_ev (ev_c (x := (.int 0)) (b := false) (k := 0) (fr := true))))
    (sv_seq (sv_while (fuel := 10000) (tv_tst (ev_bin (b := false) (k := 0) (fr := true) ov_lt (ev_var0 (b := false) (fr := true) (i := 3) rfl) (ev_cb (b := false) (k := 0) (fr := true) cv_len (av_cons (ev_var (b := false) (k := 1) (i := 1) rfl) av_nil)))) (sv_seq (sv_for (iv_str (b2 := false) (ev_c (x := (.str (PySem.Str.ofString "abcd"))) (b := false) (k := 0) (fr := true))) (sv_seq (sv_set (i := 5) (xv_ev (ev_call (k := 0) (fr := true) k_law_behind (am_vw (ev_var0 (b := true) (fr := true) (i := 0) rfl) (am_vw (ev_bin (b := false) (k := 0) (fr := true) (ov_ix (k1 := 1)) (ev_var (b := false) (k := 1) (i := 1) rfl) (ev_var0 (b := false) (fr := true) (i := 3) rfl)) (am_vw (ev_var0 (b := false) (fr := true) (i := 4) rfl) am_nil))))))
    (sv_if (tv_tst (ev_bin (b := false) (k := 0) (fr := true) ov_eq (ev_var0 (b := false) (fr := true) (i := 5) rfl) (ev_fz0 (k := 1) (fr := true) (ev_lst (fr := true) (af_nil (b := false) (k := 0)))))) (sv_seq (sv_if (tv_tst (ev_bin (b := false) (k := 0) (fr := true) ov_inD (ev_var0 (b := false) (fr := true) (i := 5) rfl) (ev_var (b := false) (k := 1) (i := 1) rfl))) (sv_expr (xv_app (bi := false) (ki := 0) (i := 1) (m := 0) (xv_ev (ev_fz0 (k := 0) (fr := true) (ev_var0 (b := false) (fr := true) (i := 5) rfl))))) sv_next)
    (sv_expr (xv_app (bi := false) (ki := 0) (i := 2) (m := 0) (xv_ev (ev_tup (fr := true) (n := 3) (av_cons (ev_var0 (b := false) (fr := true) (i := 3) rfl) (av_cons (ev_var0 (b := false) (fr := true) (i := 4) rfl) (av_cons (ev_idx (b := false) (k := 0) (fr := true) (ev_var (b := false) (k := 1) (i := 1) rfl) (ev_var0 (b := false) (fr := true) (i := 5) rfl)) av_nil)))))))) sv_next)))
    (sv_set (i := 3) (xv_ev (ev_bin (b := false) (k := 0) (fr := true) ov_add (ev_var0 (b := false) (fr := true) (i := 3) rfl) (ev_c (x := (.int 1)) (b := false) (k := 0) (fr := true)))))))
    (sv_retX (xv_tupF (js := [1, 2]) (ax_consM (b := false) (k := 1) (i := 1) (ax_cons (b := false) (xv_tupOX (b := false) (k := 1) (js := [0, 1]) (ax_cons (b := false) (xv_ev (ev_cb (b := false) (k := 0) (fr := true) cv_len (av_cons (ev_var (b := false) (k := 1) (i := 1) rfl) av_nil))) (ax_cons (b := false) (xv_mv (b := false) (k := 1) (i := 2) rfl) ax_nil))) ax_nil) rfl)))))))⟩
  exact s.elim fun _ s => cal_phi s
noncomputable def el_law_one_way_1 : VF :=
  (sFor (iSeq (fCB gListT (fCons (fVar 2) fNil))) (.nm 4) (sTStore 3 (fTup (fCons (fBin gIx (fVar 4) (fC (.int 0))) (fCons (fBin gIx (fVar 4) (fC (.int 1))) fNil))) (fC (.bool true))))
noncomputable def el_law_one_way_2 : VF :=
  (sFor (iStr (fC (.str (PySem.Str.ofString "abcd")))) (.nm 6) (sSeq (sSet 7 (fBin gMod (fVar 1) (fBin gMul (fC (.int 3)) (fVar 0))))
    (sSeq (sSet 1 (fBin gDiv (fVar 1) (fBin gMul (fC (.int 3)) (fVar 0))))
    (sIf (fAndT (fTst (fBin gLt (fVar 7) (fVar 0))) (fTst (fTIn true (fTup (fCons (fVar 5) (fCons (fVar 6) fNil))) (fVar 3)))) (sTStore 2 (fTup (fCons (fVar 5) (fCons (fVar 6) (fCons (fVar 7) fNil)))) (fC (.bool true))) sNext))))
noncomputable def el_law_one_way_3 : VF :=
  (sFor (iRng (fCons (fVar 0) fNil)) (.nm 5) el_law_one_way_2)
noncomputable def em_law_one_way : VF :=
  (sSeq (sSet 2 (fCall w_law_ring (fCons (fVar 0) (fCons (fVar 1) fNil))))
    (sSeq (sSet 1 (fBin gDiv (fVar 1) (fBin gPow (fC (.int 10)) (fC (.int 7)))))
    (sSeq (sSet 3 fDkt)
    (sSeq el_law_one_way_1
    (sSeq el_law_one_way_3
    (sRet (fMv 2)))))))
noncomputable def w_law_one_way : List PyData → VC := phiV [.vw, .vw] 8 em_law_one_way
abbrev K_law_one_way : List KD := [(true, 0), (true, 0), (false, 61), (false, 61), (false, 0), (false, 0), (false, 0), (false, 0)]
theorem k_law_one_way : CalV v_law_one_way 61 w_law_one_way := by
  have s : ∃ A, SVp K_law_one_way A false 61 m_law_one_way em_law_one_way := by
    delta m_law_one_way em_law_one_way l_law_one_way_3 l_law_one_way_2 l_law_one_way_1 el_law_one_way_3 el_law_one_way_2 el_law_one_way_1
    exact ⟨_, (sv_seq (sv_set (i := 2) (xv_ev (ev_call (k := 61) (fr := true) k_law_ring (am_vw (ev_var0 (b := true) (fr := true) (i := 0) rfl) (am_vw (ev_var0 (b := true) (fr := true) (i := 1) rfl) am_nil)))))
    (sv_seq (sv_set (i := 1) (xv_ev (ev_bin (b := false) (k := 0) (fr := true) ov_div (ev_var0 (b := true) (fr := true) (i := 1) rfl) (ev_bin (b := false) (k := 0) (fr := true) ov_pow (ev_c (x := (.int 10)) (b := false) (k := 0) (fr := true)) (ev_c (x := (.int 7)) (b := false) (k := 0) (fr := true))))))
    (sv_seq (sv_set (i := 3) (xv_ev (ev_dkt (b := false) (k := 60) (fr := true))))
    (sv_seq (sv_for (iv_seq (ev_fz0 (k := 1) (fr := true) (ev_cb (b := false) (fr := true) (cv_listT (b1 := false) (k1 := 60)) (av_cons (ev_var (b := false) (k := 61) (i := 2) rfl) av_nil)))) (sv_tstore (i := 3) (k := 60) (ev_tup (fr := true) (n := 2) (av_cons (ev_bin (b := false) (k := 0) (fr := true) (ov_ix (k1 := 0)) (ev_var0 (b := false) (fr := true) (i := 4) rfl) (ev_c (x := (.int 0)) (b := false) (k := 0) (fr := true))) (av_cons (ev_bin (b := false) (k := 0) (fr := true) (ov_ix (k1 := 0)) (ev_var0 (b := false) (fr := true) (i := 4) rfl) (ev_c (x := (.int 1)) (b := false) (k := 0) (fr := true))) av_nil))) (xv_ev (ev_c (x := (.bool true)) (b := false) (k := 0) (fr := true)))))
    (sv_seq (sv_for (iv_rng (b := false) (av_cons (ev_var0 (b := true) (fr := true) (i := 0) rfl) av_nil)) (sv_for (iv_str (b2 := false) (ev_c (x := (.str (PySem.Str.ofString "abcd"))) (b := false) (k := 0) (fr := true))) (sv_seq (sv_set (i := 7) (xv_ev (ev_bin (b := false) (k := 0) (fr := true) ov_mod (ev_var0 (b := true) (fr := true) (i := 1) rfl) (ev_bin (b := false) (k := 0) (fr := true) ov_mul (ev_c (x := (.int 3)) (b := false) (k := 0) (fr := true)) (ev_var0 (b := true) (fr := true) (i := 0) rfl)))))
    (sv_seq (sv_set (i := 1) (xv_ev (ev_bin (b := false) (k := 0) (fr := true) ov_div (ev_var0 (b := true) (fr := true) (i := 1) rfl) (ev_bin (b := false) (k := 0) (fr := true) ov_mul (ev_c (x := (.int 3)) (b := false) (k := 0) (fr := true)) (ev_var0 (b := true) (fr := true) (i := 0) rfl)))))
    (sv_if (tv_and (tv_tst (ev_bin (b := false) (k := 0) (fr := true) ov_lt (ev_var0 (b := false) (fr := true) (i := 7) rfl) (ev_var0 (b := true) (fr := true) (i := 0) rfl))) (tv_tst (ev_tin (b := false) (k := 0) (fr := true) (k2 := 60) (ev_tup (fr := true) (n := 2) (av_cons (ev_var0 (b := false) (fr := true) (i := 5) rfl) (av_cons (ev_var0 (b := false) (fr := true) (i := 6) rfl) av_nil))) (ev_var (b := false) (k := 61) (i := 3) rfl)))) (sv_tstore (i := 2) (k := 60) (ev_tup (fr := true) (n := 3) (av_cons (ev_var0 (b := false) (fr := true) (i := 5) rfl) (av_cons (ev_var0 (b := false) (fr := true) (i := 6) rfl) (av_cons (ev_var0 (b := false) (fr := true) (i := 7) rfl) av_nil)))) (xv_ev (ev_c (x := (.bool true)) (b := false) (k := 0) (fr := true)))) sv_next)))))
    (sv_retX (xv_mv (b := false) (k := 61) (i := 2) rfl)))))))⟩
  exact s.elim fun _ s => cal_phi s
noncomputable def el_law_good_1 : VF :=
  (sFor (iRng (fCons (fC (.int 2)) fNil)) (.nm 3) (sSeq (sSet 4 (fCall w_sets_of (fCons (fVar 1) fNil)))
    (sSeq (sIf (fOrT (fTst (fBin (gEq true) (fVar 4) (fVar 2))) (fOrT (fNotT (fTst (fCall w_law_is_kind (fCons (fVar 4) fNil)))) (fTst (fBin (gEq true) (fVar 1) (fVar 0))))) (sRet (fC (.bool false))) sNext)
    (sSeq (sExpr (fMt 4 (pIx (pIx pVar (fC (.int 0))) (fC (.int 0))) kApp (fCons (fC (.int 0)) fNil)))
    (sSeq (sExpr (fMt 4 (pIx pVar (fC (.int 0))) kRev fNil))
    (sExpr (fMt 4 (pIx (pIx pVar (fC (.int 1))) (fC (.int 1))) kApp (fCons (fTup (fCons (fC (.int 0)) (fCons (fC (.str (PySem.Str.ofString "a"))) (fCons (fC (.int 0)) fNil)))) fNil))))))))
noncomputable def em_law_good : VF :=
  (sSeq (sSet 1 (fTup (fCons (fImm (fBin gIx (fVar 0) (fC (.int 0)))) (fCons (fPure 1 (fCB gList (fCons (fBin gIx (fVar 0) (fC (.int 1))) fNil))) fNil))))
    (sSeq (sSet 2 (fCall w_law_due (fCons (fVar 0) fNil)))
    (sSeq el_law_good_1
    (sRet (fC (.bool true))))))
noncomputable def w_law_good : List PyData → VC := phiV [.vw] 5 em_law_good
abbrev K_law_good : List KD := [(true, 0), (false, 0), (false, 0), (false, 0), (false, 3)]
theorem k_law_good : CalV v_law_good 0 w_law_good := by
  have s : ∃ A, SVp K_law_good A false 0 m_law_good em_law_good := by
    delta m_law_good em_law_good l_law_good_1 el_law_good_1
    exact ⟨_, (sv_seq (sv_set (i := 1) (xv_ev (ev_tup (fr := true) (n := 2) (av_cons (ev_imm (b := false) (fr := true) (ev_bin (b := true) (k := 0) (fr := true) (ov_ix (k1 := 0)) (ev_var0 (b := true) (fr := true) (i := 0) rfl) (ev_c (x := (.int 0)) (b := false) (k := 0) (fr := true)))) (av_cons (ev_fz0 (k := 1) (fr := true) (ev_pure (ev_cb (fr := true) cv_list (av_cons (ev_bin (b := true) (k := 0) (fr := true) (ov_ix (k1 := 0)) (ev_var0 (b := true) (fr := true) (i := 0) rfl) (ev_c (x := (.int 1)) (b := false) (k := 0) (fr := true))) av_nil)))) av_nil)))))
    (sv_seq (sv_set (i := 2) (xv_ev (ev_call (k := 0) (fr := true) k_law_due (am_vw (ev_var0 (b := true) (fr := true) (i := 0) rfl) am_nil))))
    (sv_seq (sv_for (iv_rng (b := false) (av_cons (ev_c (x := (.int 2)) (b := false) (k := 0) (fr := true)) av_nil)) (sv_seq (sv_set (i := 4) (xv_ev (ev_call (k := 3) (fr := true) k_sets_of (am_vw (ev_var0 (b := false) (fr := true) (i := 1) rfl) am_nil))))
    (sv_seq (sv_if (tv_or (tv_tst (ev_bin (b := false) (k := 0) (fr := true) ov_eq (ev_var (b := false) (k := 3) (i := 4) rfl) (ev_var0 (b := false) (fr := true) (i := 2) rfl))) (tv_or (tv_not (tv_tst (ev_call (k := 0) (fr := true) k_law_is_kind (am_vw (ev_var (b := false) (k := 3) (i := 4) rfl) am_nil)))) (tv_tst (ev_bin (b := false) (k := 0) (fr := true) ov_eq (ev_var0 (b := false) (fr := true) (i := 1) rfl) (ev_var0 (b := true) (fr := true) (i := 0) rfl))))) (sv_ret (ev_c (x := (.bool false)) (b := false) (k := 0) (fr := true))) sv_next)
    (sv_seq (sv_expr (xv_mt (m := 0) (bo := false) (ko := 0) kv_app (pv_ix (b := false) (i := 4) (n := 1) (m := 1) (pv_ix (b := false) (i := 4) (n := 0) (m := 2) (pv_var (i := 4) rfl) (ev_c (x := (.int 0)) (b := false) (k := 0) (fr := true)) rfl) (ev_c (x := (.int 0)) (b := false) (k := 0) (fr := true)) rfl) (af_cons (ev_c (x := (.int 0)) (b := false) (k := 0) (fr := true)) (af_nil (b := false) (k := 0))) rfl))
    (sv_seq (sv_expr (xv_mt (m := 1) (bo := false) (ko := 0) kv_rev (pv_ix (b := false) (i := 4) (n := 0) (m := 2) (pv_var (i := 4) rfl) (ev_c (x := (.int 0)) (b := false) (k := 0) (fr := true)) rfl) (af_nil (b := false) (k := 0)) rfl))
    (sv_expr (xv_mt (m := 0) (bo := false) (ko := 0) kv_app (pv_ix (b := false) (i := 4) (n := 1) (m := 1) (pv_ix (b := false) (i := 4) (n := 0) (m := 2) (pv_var (i := 4) rfl) (ev_c (x := (.int 1)) (b := false) (k := 0) (fr := true)) rfl) (ev_c (x := (.int 1)) (b := false) (k := 0) (fr := true)) rfl) (af_cons (ev_tup (fr := true) (n := 3) (av_cons (ev_c (x := (.int 0)) (b := false) (k := 0) (fr := true)) (av_cons (ev_c (x := (.str (PySem.Str.ofString "a"))) (b := false) (k := 0) (fr := true)) (av_cons (ev_c (x := (.int 0)) (b := false) (k := 0) (fr := true)) av_nil)))) (af_nil (b := false) (k := 0))) rfl)))))))
    (sv_ret (ev_c (x := (.bool true)) (b := false) (k := 0) (fr := true))))))⟩
  exact s.elim fun _ s => cal_phi s
noncomputable def er1_l_law_more_1 : VF :=
  (sFor (iRng (fCons (fVar 0) fNil)) (.nm 7) (sSeq (sIf (fAndT (fTst (fBin (gEq false) (fBin gMod (fVar 2) (fVar 3)) (fC (.int 0)))) (fTst (fBin gLt (fCB gLenT (fCons (fVar 1) fNil)) (fVar 4)))) (sTStore 1 (fTup (fCons (fVar 5) (fCons (fVar 6) (fCons (fVar 7) fNil)))) (fC (.bool true))) sNext)
    (sSet 2 (fBin gDiv (fVar 2) (fVar 3)))))
noncomputable def er1_l_law_more_2 : VF :=
  (sFor (iStr (fC (.str (PySem.Str.ofString "abcd")))) (.nm 6) er1_l_law_more_1)
noncomputable def er1_l_law_more_3 : VF :=
  (sFor (iRng (fCons (fVar 0) fNil)) (.nm 5) er1_l_law_more_2)
noncomputable def em_r1_law_more : VF :=
  (sSeq er1_l_law_more_3
    (sRet (fMv 1)))
abbrev K_r1_law_more : List KD := [(false, 0), (false, 61), (true, 0), (false, 0), (false, 0), (false, 0), (false, 0), (false, 0)]
theorem s_r1_law_more : ∃ A, SVp K_r1_law_more A false 61 m_law_more em_r1_law_more := by
  delta m_law_more em_r1_law_more l_law_more_3 l_law_more_2 l_law_more_1 er1_l_law_more_3 er1_l_law_more_2 er1_l_law_more_1
  exact ⟨_, (sv_seq (sv_for (iv_rng (b := false) (av_cons (ev_var0 (b := false) (fr := true) (i := 0) rfl) av_nil)) (sv_for (iv_str (b2 := false) (ev_c (x := (.str (PySem.Str.ofString "abcd"))) (b := false) (k := 0) (fr := true))) (sv_for (iv_rng (b := false) (av_cons (ev_var0 (b := false) (fr := true) (i := 0) rfl) av_nil)) (sv_seq (sv_if (tv_and (tv_tst (ev_bin (b := false) (k := 0) (fr := true) ov_eq (ev_bin (b := false) (k := 0) (fr := true) ov_mod (ev_var0 (b := true) (fr := true) (i := 2) rfl) (ev_var0 (b := false) (fr := true) (i := 3) rfl)) (ev_c (x := (.int 0)) (b := false) (k := 0) (fr := true)))) (tv_tst (ev_bin (b := false) (k := 0) (fr := true) ov_lt (ev_cb (b := false) (k := 0) (fr := true) (cv_lenT (b1 := false) (k1 := 60)) (av_cons (ev_var (b := false) (k := 61) (i := 1) rfl) av_nil)) (ev_var0 (b := false) (fr := true) (i := 4) rfl)))) (sv_tstore (i := 1) (k := 60) (ev_tup (fr := true) (n := 3) (av_cons (ev_var0 (b := false) (fr := true) (i := 5) rfl) (av_cons (ev_var0 (b := false) (fr := true) (i := 6) rfl) (av_cons (ev_var0 (b := false) (fr := true) (i := 7) rfl) av_nil)))) (xv_ev (ev_c (x := (.bool true)) (b := false) (k := 0) (fr := true)))) sv_next)
    (sv_set (i := 2) (xv_ev (ev_bin (b := false) (k := 0) (fr := true) ov_div (ev_var0 (b := true) (fr := true) (i := 2) rfl) (ev_var0 (b := false) (fr := true) (i := 3) rfl))))))))
    (sv_retX (xv_mv (b := false) (k := 61) (i := 1) rfl)))⟩
noncomputable def er2_l_law_more_1 : VF :=
  (sFor (iRng (fCons (fVar 0) fNil)) (.nm 7) (sSeq (sIf (fAndT (fTst (fBin (gEq false) (fBin gMod (fVar 2) (fVar 3)) (fC (.int 0)))) (fTst (fBin gLt (fCB gLenT (fCons (fVar 1) fNil)) (fVar 4)))) (sTStore 1 (fTup (fCons (fVar 5) (fCons (fVar 6) (fCons (fVar 7) fNil)))) (fC (.bool true))) sNext)
    (sSet 2 (fBin gDiv (fVar 2) (fVar 3)))))
noncomputable def er2_l_law_more_2 : VF :=
  (sFor (iStr (fC (.str (PySem.Str.ofString "abcd")))) (.nm 6) er2_l_law_more_1)
noncomputable def er2_l_law_more_3 : VF :=
  (sFor (iRng (fCons (fVar 0) fNil)) (.nm 5) er2_l_law_more_2)
noncomputable def em_r2_law_more : VF :=
  (sSeq er2_l_law_more_3
    (sRet (fMv 1)))
abbrev K_r2_law_more : List KD := [(false, 0), (false, 61), (false, 0), (false, 0), (false, 0), (false, 0), (false, 0), (false, 0)]
theorem s_r2_law_more : ∃ A, SVp K_r2_law_more A false 61 m_law_more em_r2_law_more := by
  delta m_law_more em_r2_law_more l_law_more_3 l_law_more_2 l_law_more_1 er2_l_law_more_3 er2_l_law_more_2 er2_l_law_more_1
  exact ⟨_, (sv_seq (sv_for (iv_rng (b := false) (av_cons (ev_var0 (b := false) (fr := true) (i := 0) rfl) av_nil)) (sv_for (iv_str (b2 := false) (ev_c (x := (.str (PySem.Str.ofString "abcd"))) (b := false) (k := 0) (fr := true))) (sv_for (iv_rng (b := false) (av_cons (ev_var0 (b := false) (fr := true) (i := 0) rfl) av_nil)) (sv_seq (sv_if (tv_and (tv_tst (ev_bin (b := false) (k := 0) (fr := true) ov_eq (ev_bin (b := false) (k := 0) (fr := true) ov_mod (ev_var0 (b := false) (fr := true) (i := 2) rfl) (ev_var0 (b := false) (fr := true) (i := 3) rfl)) (ev_c (x := (.int 0)) (b := false) (k := 0) (fr := true)))) (tv_tst (ev_bin (b := false) (k := 0) (fr := true) ov_lt (ev_cb (b := false) (k := 0) (fr := true) (cv_lenT (b1 := false) (k1 := 60)) (av_cons (ev_var (b := false) (k := 61) (i := 1) rfl) av_nil)) (ev_var0 (b := false) (fr := true) (i := 4) rfl)))) (sv_tstore (i := 1) (k := 60) (ev_tup (fr := true) (n := 3) (av_cons (ev_var0 (b := false) (fr := true) (i := 5) rfl) (av_cons (ev_var0 (b := false) (fr := true) (i := 6) rfl) (av_cons (ev_var0 (b := false) (fr := true) (i := 7) rfl) av_nil)))) (xv_ev (ev_c (x := (.bool true)) (b := false) (k := 0) (fr := true)))) sv_next)
    (sv_set (i := 2) (xv_ev (ev_bin (b := false) (k := 0) (fr := true) ov_div (ev_var0 (b := false) (fr := true) (i := 2) rfl) (ev_var0 (b := false) (fr := true) (i := 3) rfl))))))))
    (sv_retX (xv_mv (b := false) (k := 61) (i := 1) rfl)))⟩
noncomputable def em_law_reader : VF :=
  (sSeq (sSet 2 (fBin gAdd (fC (.int 1)) (fBin gMod (fVar 0) (fVar 1))))
    (sSeq (sSet 3 (fBin gMod (fBin gDiv (fVar 0) (fVar 1)) (fC (.int 4))))
    (sSeq (sSet 0 (fBin gDiv (fVar 0) (fBin gMul (fC (.int 4)) (fVar 1))))
    (sSeq (sIf (fTst (fBin (gEq false) (fVar 3) (fC (.int 0)))) (sSet 4 (fCallRV 8 em_r1_law_more (fConsX (fVar 2) (fConsX fDkt (fConsX (fVar 0) (fConsX (fC (.int 2)) (fConsX (fC (.int 30)) fNil))))))) (sIf (fTst (fBin (gEq false) (fVar 3) (fC (.int 1)))) (sSet 4 (fCallRV 8 em_r1_law_more (fConsX (fVar 2) (fConsX fDkt (fConsX (fVar 0) (fConsX (fC (.int 9)) (fConsX (fC (.int 30)) fNil))))))) (sIf (fTst (fBin (gEq false) (fVar 3) (fC (.int 2)))) (sSet 4 (fCall w_law_one_way (fCons (fVar 2) (fCons (fVar 0) fNil)))) (sSet 4 (fCallRV 8 em_r2_law_more (fConsX (fVar 2) (fConsX (fCall w_law_ring (fCons (fVar 2) (fCons (fVar 0) fNil))) (fConsX (fBin gDiv (fVar 0) (fBin gPow (fC (.int 10)) (fC (.int 7)))) (fConsX (fC (.int 11)) (fConsX (fC (.int 30)) fNil))))))))))
    (sRet (fTup (fCons (fVar 2) (fCons (fCB gSortedT (fCons (fVar 4) fNil)) fNil))))))))
noncomputable def w_law_reader : List PyData → VC := phiV [.vw, .vw] 5 em_law_reader
abbrev K_law_reader : List KD := [(true, 0), (true, 0), (false, 0), (false, 0), (false, 61)]
theorem k_law_reader : CalV v_law_reader 0 w_law_reader := by
  have s : ∃ A, SVp K_law_reader A false 0 m_law_reader em_law_reader := by
    delta m_law_reader em_law_reader
    exact ⟨_, (sv_seq (sv_set (i := 2) (xv_ev (ev_bin (b := false) (k := 0) (fr := true) ov_add (ev_c (x := (.int 1)) (b := false) (k := 0) (fr := true)) (ev_bin (b := false) (k := 0) (fr := true) ov_mod (ev_var0 (b := true) (fr := true) (i := 0) rfl) (ev_var0 (b := true) (fr := true) (i := 1) rfl)))))
    (sv_seq (sv_set (i := 3) (xv_ev (ev_bin (b := false) (k := 0) (fr := true) ov_mod (ev_bin (b := false) (k := 0) (fr := true) ov_div (ev_var0 (b := true) (fr := true) (i := 0) rfl) (ev_var0 (b := true) (fr := true) (i := 1) rfl)) (ev_c (x := (.int 4)) (b := false) (k := 0) (fr := true)))))
    (sv_seq (sv_set (i := 0) (xv_ev (ev_bin (b := false) (k := 0) (fr := true) ov_div (ev_var0 (b := true) (fr := true) (i := 0) rfl) (ev_bin (b := false) (k := 0) (fr := true) ov_mul (ev_c (x := (.int 4)) (b := false) (k := 0) (fr := true)) (ev_var0 (b := true) (fr := true) (i := 1) rfl)))))
    (sv_seq (sv_if (tv_tst (ev_bin (b := false) (k := 0) (fr := true) ov_eq (ev_var0 (b := false) (fr := true) (i := 3) rfl) (ev_c (x := (.int 0)) (b := false) (k := 0) (fr := true)))) (sv_set (i := 4) (s_r1_law_more.elim fun _ s => xv_callR (K := K_r1_law_more) (KL := K_r1_law_more.take 5) (KR := K_r1_law_more.drop 5) s (ax_cons (b := false) (xv_ev (ev_var0 (b := false) (fr := true) (i := 2) rfl)) (ax_cons (b := false) (xv_ev (ev_dkt (b := false) (k := 60) (fr := true))) (ax_cons (b := true) (xv_ev (ev_var0 (b := true) (fr := true) (i := 0) rfl)) (ax_cons (b := false) (xv_ev (ev_c (x := (.int 2)) (b := false) (k := 0) (fr := true))) (ax_cons (b := false) (xv_ev (ev_c (x := (.int 30)) (b := false) (k := 0) (fr := true))) ax_nil))))))) (sv_if (tv_tst (ev_bin (b := false) (k := 0) (fr := true) ov_eq (ev_var0 (b := false) (fr := true) (i := 3) rfl) (ev_c (x := (.int 1)) (b := false) (k := 0) (fr := true)))) (sv_set (i := 4) (s_r1_law_more.elim fun _ s => xv_callR (K := K_r1_law_more) (KL := K_r1_law_more.take 5) (KR := K_r1_law_more.drop 5) s (ax_cons (b := false) (xv_ev (ev_var0 (b := false) (fr := true) (i := 2) rfl)) (ax_cons (b := false) (xv_ev (ev_dkt (b := false) (k := 60) (fr := true))) (ax_cons (b := true) (xv_ev (ev_var0 (b := true) (fr := true) (i := 0) rfl)) (ax_cons (b := false) (xv_ev (ev_c (x := (.int 9)) (b := false) (k := 0) (fr := true))) (ax_cons (b := false) (xv_ev (ev_c (x := (.int 30)) (b := false) (k := 0) (fr := true))) ax_nil))))))) (sv_if (tv_tst (ev_bin (b := false) (k := 0) (fr := true) ov_eq (ev_var0 (b := false) (fr := true) (i := 3) rfl) (ev_c (x := (.int 2)) (b := false) (k := 0) (fr := true)))) (sv_set (i := 4) (xv_ev (ev_call (k := 61) (fr := true) k_law_one_way (am_vw (ev_var0 (b := false) (fr := true) (i := 2) rfl) (am_vw (ev_var0 (b := true) (fr := true) (i := 0) rfl) am_nil))))) (sv_set (i := 4) (s_r2_law_more.elim fun _ s => xv_callR (K := K_r2_law_more) (KL := K_r2_law_more.take 5) (KR := K_r2_law_more.drop 5) s (ax_cons (b := false) (xv_ev (ev_var0 (b := false) (fr := true) (i := 2) rfl)) (ax_cons (b := false) (xv_ev (ev_call (k := 61) (fr := true) k_law_ring (am_vw (ev_var0 (b := false) (fr := true) (i := 2) rfl) (am_vw (ev_var0 (b := true) (fr := true) (i := 0) rfl) am_nil)))) (ax_cons (b := false) (xv_ev (ev_bin (b := false) (k := 0) (fr := true) ov_div (ev_var0 (b := true) (fr := true) (i := 0) rfl) (ev_bin (b := false) (k := 0) (fr := true) ov_pow (ev_c (x := (.int 10)) (b := false) (k := 0) (fr := true)) (ev_c (x := (.int 7)) (b := false) (k := 0) (fr := true))))) (ax_cons (b := false) (xv_ev (ev_c (x := (.int 11)) (b := false) (k := 0) (fr := true))) (ax_cons (b := false) (xv_ev (ev_c (x := (.int 30)) (b := false) (k := 0) (fr := true))) ax_nil))))))))))
    (sv_ret (ev_tup (fr := true) (n := 2) (av_cons (ev_var0 (b := false) (fr := true) (i := 2) rfl) (av_cons (ev_fz0 (k := 1) (fr := true) (ev_cb (b := false) (fr := true) (cv_sortedT (b1 := false) (k1 := 60)) (av_cons (ev_var (b := false) (k := 61) (i := 4) rfl) av_nil))) av_nil))))))))⟩
  exact s.elim fun _ s => cal_phi s
noncomputable def em_law : VF :=
  (sSeq (sSet 1 (fCall w_law_reader (fCons (fCall w_law_big (fCons (fSc 0) (fCons (fC (.int 0)) fNil))) (fCons (fC (.int 6)) fNil))))
    (sSeq (sSet 2 (fCall w_law_reader (fCons (fCall w_law_big (fCons (fSc 0) (fCons (fC (.int 1)) fNil))) (fCons (fC (.int 6)) fNil))))
    (sRet (fAndV (fCall w_law_good (fCons (fVar 1) fNil)) (fAndV (fCall w_law_good (fCons (fVar 2) fNil)) (fCall w_law_good (fCons (fVar 1) fNil)))))))
noncomputable def w_law : List PyData → VC := phiV [.sc] 3 em_law
abbrev K_law : List KD := [(false, 0), (false, 0), (false, 0)]
theorem k_law : CalV v_law 0 w_law := by
  have s : ∃ A, SVp K_law A false 0 m_law em_law := by
    delta m_law em_law
    exact ⟨_, (sv_seq (sv_set (i := 1) (xv_ev (ev_call (k := 0) (fr := true) k_law_reader (am_vw (ev_call (k := 0) (fr := true) k_law_big (am_sc (i := 0) (am_vw (ev_c (x := (.int 0)) (b := false) (k := 0) (fr := true)) am_nil))) (am_vw (ev_c (x := (.int 6)) (b := false) (k := 0) (fr := true)) am_nil)))))
    (sv_seq (sv_set (i := 2) (xv_ev (ev_call (k := 0) (fr := true) k_law_reader (am_vw (ev_call (k := 0) (fr := true) k_law_big (am_sc (i := 0) (am_vw (ev_c (x := (.int 1)) (b := false) (k := 0) (fr := true)) am_nil))) (am_vw (ev_c (x := (.int 6)) (b := false) (k := 0) (fr := true)) am_nil)))))
    (sv_ret (ev_and (fr := true) (ev_call (k := 0) (fr := true) k_law_good (am_vw (ev_var0 (b := false) (fr := true) (i := 1) rfl) am_nil)) (ev_and (fr := true) (ev_call (k := 0) (fr := true) k_law_good (am_vw (ev_var0 (b := false) (fr := true) (i := 2) rfl) am_nil)) (ev_call (k := 0) (fr := true) k_law_good (am_vw (ev_var0 (b := false) (fr := true) (i := 1) rfl) am_nil)))))))⟩
  exact s.elim fun _ s => cal_phi s
end Gn.V
namespace Gn.V
open PySem PySem.Spec L2 Zx.V
open Zx (SV AO AH FE FA FT FS Md Bd It1 Src O RpS En Wd inB iAdd iSub imm immL nod mulB divB modB powB lim flatD flatL isTy cutX kD opt o_some o_none eI eG Fn FnL Fn_int Fn_bool Fn_none Fn_lst Fn_eI Fn_eG FnL_map FnL_of FnL_nil FnL_cons Fn_tup eqv_refl intsD intsD_ok is_ii is_ib is_bb is_bi is_ll is_tt is_lt is_tl Sq gsum atI_0 atI_in ixN_in atI_map inB_lt wide_mul eqvAll_ints shaped_int)
local macro_rules | `(tactic| walk_at "wd") => `(tactic| first | omega | assumption | with_unfolding_all (simp only [List.length_cons, List.length_nil, List.length_map, List.length_range, List.length_append, Nat.reduceAdd, Nat.reduceLeDiff, Nat.le_refl, Nat.zero_le, decide_true]; done) | (simp only [List.length_cons, List.length_nil, List.length_map, List.length_range, List.length_append] <;> omega))
local macro_rules | `(tactic| walk_at "w") => `(tactic| simp (disch := walk_at "wd") only [u_phi, t_nx, t_rt, t_bk, t_ct, t_rz, h_rt, h_nx, h_rz, d_ok, d_rz, d_st, e_ok, e_rz, e_st, u_seq, u_set, u_if, u_expr, u_ret, u_retN, u_next, u_break, u_cont, u_raise, u_setT, u_setL, u_txM, u_tupM, u_par, u_var, u_mv, u_c, u_bin, u_un, u_tst, tst_b, u_andT, u_orT, u_notT, u_yes, u_andV, u_orV, u_notV, u_if', u_chain, u_nil, u_cons, u_lst, u_tup, u_imm, u_pure, u_cb, u_call, bk_ok, bk_rz, u_sc, u_isi, o_add, o_sub, o_div, o_mod, o_lt, o_le, o_gt, o_ge, o_eq, o_ne, o_neg, o_len, o_lent, o_ix, o_ixt, o_ixO, o_isN, o_notN, o_min, o_max, o_abs, o_int, o_intb, o_list, o_listt, o_tuple, o_sum, o_bools, u_dct, u_din, u_dget, o_lenD, p_var, p_ix, u_store, u_augS, u_app, capp_ok, lcEnd_some, u_mt, ge_nil, ge_c, pt_nil, u_dstore, u_aug, u_tryAs, u_tryO, tA_nx, tA_bk, tA_ct, tA_rt, tO_nx, tO_bk, tO_ct, tO_rt, eA_rt, eO_rt, vk_1, vAny_0, vAny_t, vAny_f, u_exi, exv_ex, u_hot, hot_ex, o_inS, o_isB, u_istr, u_sliceT, gtx_s, o_lrev, keyP_i, toL_dK, at_c0, at_c1, at_c2, u_dctO, o_ixOt, u_forOwnP, u_irng, u_irng2, g1_ok, g2_ok, u_iseq, u_itup, u_ienu, u_izip, rng_len, u_for, u_forVar, u_forOwn, u_forF, u_while, u_lc, u_lcVar, u_lcEV, u_lcOwn, u_lcMv, f_nx, f_ct, f_bk, f_rt, f_rz, rs_un, rs_v, rs_sc, rs_nil, gv_v, gl_l, gn_i, rv_k, o_some, o_none, startV, argV, intsD_ok, List.replicate, turn_eq, at_rng, o_dini, Bool.bne_false, Bool.false_bne, Bool.xor_false, Bool.false_xor, goV, setAllV, lc1_eq, rt_k, wipeV, tyP, is_ii, is_ib, is_bb, is_bi, is_ll, is_tt, is_lt, is_tl, isNo, List.getElem?_cons_zero, List.getElem?_cons_succ, List.set_cons_zero, List.set_cons_succ, List.length_cons, List.length_nil, List.length_map, List.length_range, List.map_nil, List.map_cons, if_true, if_false, reduceIte, Bool.false_eq_true, Bool.true_eq_false, decide_eq_true_eq, Bool.not_true, Bool.not_false, List.cons_append, List.nil_append, Int.reduceLT, Int.reduceLE, Int.reduceNeg, Nat.reduceAdd, Nat.reduceLeDiff, Int.reduceToNat, Nat.le_refl, Nat.zero_le, Int.ofNat_eq_natCast, Bool.and_self, Bool.and_true, Bool.true_and, Bool.or_false, Bool.or_true, Bool.and_false, Bool.false_or, Bool.true_or, Bool.false_and, decide_true, decide_false, id_eq, Int.toNat_natCast, Option.map_some, Option.map_none, Option.isSome_some, Option.isSome_none, Int.zero_add])
theorem at_Rv {g : List (List Int)} {k : Nat} (h : k < g.length) : atI (g.map eI) (k : Int) = some (eI (getR g k)) := by
  have := at_R (g := g) h
  rwa [Int.zero_add] at this
theorem at_Iv {v : List Int} {k : Nat} (h : k < v.length) : atI (v.map PyData.int) (k : Int) = some (.int (getI v k)) := by
  have := at_I (v := v) h
  rwa [Int.zero_add] at this
theorem row_len {n k : Nat} {g : List (List Int)} (s : Sq n g) (h : k < n) : (getR g k).length = n := by
  obtain ⟨r, e, hr, hl⟩ := s.get h
  unfold getR
  rw [e]; exact hl
theorem imm_bool {b : Bool} : imm (.bool b) = true := by unfold imm; rfl
theorem imm_str {x : Str} : imm (.str x) = true := by unfold imm; rfl
theorem Fn_str {k : Nat} {x : Str} (h : PyData.strOk x = true) : Fn k (.str x) := ⟨by unfold nod; rfl, by unfold PyData.canLay0; exact h, by unfold PyData.depth; exact Nat.zero_le _⟩
theorem pure_eI {v : List Int} : pureK 1 (eI v) = true := pure_lst fun d h => by
  obtain ⟨k, _, rfl⟩ := List.mem_map.mp h
  exact imm_int
theorem pureL_all {k : Nat} : ∀ {ds : List PyData}, (∀ d ∈ ds, pureK k d = true) → pureL k ds = true
  | [], _ => by unfold pureL; rfl
  | d :: ds, h => by
    unfold pureL
    rw [h d List.mem_cons_self, pureL_all fun x m => h x (List.mem_cons_of_mem _ m)]; rfl
theorem pure_lsK {k : Nat} {ds : List PyData} (h : ∀ d ∈ ds, pureK k d = true) : pureK (k + 1) (.list ds) = true := by
  unfold pureK
  exact pureL_all h
theorem pure_eG {g : List (List Int)} : pureK 2 (eG g) = true := pure_lsK fun d h => by
  obtain ⟨k, _, rfl⟩ := List.mem_map.mp h
  exact pure_eI
def left (n p : Nat) : List Nat := (List.range n).filter fun i => !decide (i = p)
theorem cutX_lo {α : Type} {xs : List α} {a : Nat} : cutX xs none (some (a : Int)) = xs.take a := by
  rw [cut_lo (by omega)]; simp
theorem cutX_hi {α : Type} {xs : List α} {a : Nat} : cutX xs (some (a : Int)) none = xs.drop a := by
  rw [cut_hi (by omega)]; simp
theorem u_slice {ga : VE} {gl gh : VOo} {vs : List VS} : fSlice ga gl gh vs = (ga vs).bind fun x vs => (gl vs).bind fun lo vs => (gh vs).bind fun hi vs => Zx.V.gl x (fun ds => .ok (.list (cutX ds lo hi)) vs) .st := by
  unfold fSlice Zx.V.gl
  congr 1
theorem o_oNo {vs : List VS} : oNo vs = .ok none vs := rfl
theorem u_oSome {ga : VE} {vs : List VS} : oSome ga vs = (ga vs).bind fun x vs => gn x (fun i => .ok (some i) vs) .st := by
  unfold oSome gn
  congr 1
theorem cat_ok {b : Bool} {xs ys : List PyData} {vs : List VS} (h : xs.length + ys.length < 1000000) : gCat b (.list xs) (.list ys) vs = .ok (.list (xs ++ ys)) vs := o_cat h
def putL {α : Type} (l : List α) (p : Nat) (x : α) : List α := l.take p ++ [x] ++ l.drop p
theorem at_c3 {α : Type} {a b c x : α} {xs : List α} : atI (a :: b :: c :: x :: xs) 3 = some x := by
  unfold atI ixN
  rw [if_pos (by decide), if_pos (by simp only [List.length_cons]; omega)]; rfl
theorem at_c4 {α : Type} {a b c d x : α} {xs : List α} : atI (a :: b :: c :: d :: x :: xs) 4 = some x := by
  unfold atI ixN
  rw [if_pos (by decide), if_pos (by simp only [List.length_cons]; omega)]; rfl
theorem at_c5 {α : Type} {a b c d e x : α} {xs : List α} : atI (a :: b :: c :: d :: e :: x :: xs) 5 = some x := by
  unfold atI ixN
  rw [if_pos (by decide), if_pos (by simp only [List.length_cons]; omega)]; rfl
theorem immL_c {d : PyData} {ds : List PyData} : immL (d :: ds) = (imm d && immL ds) := by conv => lhs; unfold immL
theorem immL_n : immL [] = true := by unfold immL; rfl
theorem imm_lst {ds : List PyData} : imm (.list ds) = false := by unfold imm; rfl
theorem imm_tup {ds : List PyData} : imm (.tuple ds) = immL ds := by conv => lhs; unfold imm
theorem imm_none : imm .none = true := by unfold imm; rfl
theorem ix_c {n j : Nat} (h : j < n) : ixN n (j : Int) = some j := by
  rw [Zx.ixN_in (by omega) (by omega)]; simp
theorem pt_t0 {js : List Int} {y a : PyData} {r : List PyData} : putAt (0 :: js) y (.tuple (a :: r)) = .tuple (putAt js y a :: r) := putAt_t (ix_c (j := 0) (by simp)) rfl
theorem pt_t1 {js : List Int} {y a b : PyData} {r : List PyData} : putAt (1 :: js) y (.tuple (a :: b :: r)) = .tuple (a :: putAt js y b :: r) := putAt_t (ix_c (j := 1) (by simp)) rfl
theorem pt_t2 {js : List Int} {y a b c : PyData} {r : List PyData} : putAt (2 :: js) y (.tuple (a :: b :: c :: r)) = .tuple (a :: b :: putAt js y c :: r) := putAt_t (ix_c (j := 2) (by simp)) rfl
theorem pt_t3 {js : List Int} {y a b c d : PyData} {r : List PyData} : putAt (3 :: js) y (.tuple (a :: b :: c :: d :: r)) = .tuple (a :: b :: c :: putAt js y d :: r) := putAt_t (ix_c (j := 3) (by simp)) rfl
local macro_rules | `(tactic| walk_at "td") => `(tactic| first | omega | assumption | (simp only [immL_c, immL_n, imm_lst, imm_tup, imm_int, imm_bool, imm_str, imm_none, Bool.and_false, Bool.false_and, Bool.and_true, Bool.true_and]; done) | (rw [row_len (by assumption) (by omega)]; omega) | (simp only [List.length_map, List.length_range, List.length_cons, List.length_nil, List.length_append, List.length_take, List.length_drop] <;> omega) | with_unfolding_all (simp only [List.length_cons, List.length_nil, List.length_map, List.length_range, List.length_append, Nat.reduceAdd, Nat.reduceLeDiff, Nat.le_refl, Nat.zero_le, decide_true]; done))
local macro_rules | `(tactic| walk_at "t") => `(tactic| simp (disch := walk_at "td") only [u_phi, t_nx, t_rt, t_bk, t_ct, t_rz, h_rt, h_nx, h_rz, d_ok, d_rz, d_st, e_ok, e_rz, e_st, u_seq, u_set, u_if, u_expr, u_ret, u_retN, u_next, u_break, u_cont, u_raise, u_setT, u_setL, u_txM, u_tupM, u_par, u_var, u_mv, u_c, u_bin, u_un, u_tst, tst_b, u_andT, u_orT, u_notT, u_yes, u_andV, u_orV, u_notV, u_if', u_chain, u_nil, u_cons, u_lst, u_tup, u_imm, u_pure, u_cb, u_call, bk_ok, bk_rz, u_sc, u_isi, o_add, o_sub, o_div, o_mod, o_lt, o_le, o_gt, o_ge, o_eq, o_ne, o_neg, o_len, o_lent, o_ix, o_ixt, o_ixO, o_isN, o_notN, o_min, o_max, o_abs, o_int, o_intb, o_list, o_listt, o_tuple, o_sum, o_bools, u_dct, u_din, u_dget, o_lenD, p_var, p_ix, u_store, u_augS, u_app, capp_ok, lcEnd_some, u_mt, ge_nil, ge_c, pt_nil, u_dstore, u_aug, u_tryAs, u_tryO, tA_nx, tA_bk, tA_ct, tA_rt, tO_nx, tO_bk, tO_ct, tO_rt, eA_rt, eO_rt, vk_1, vAny_0, vAny_t, vAny_f, u_exi, exv_ex, u_hot, hot_ex, o_inS, o_isB, u_istr, u_sliceT, gtx_s, o_lrev, keyP_i, toL_dK, at_c0, at_c1, at_c2, u_dctO, o_ixOt, u_forOwnP, u_irng, u_irng2, g1_ok, g2_ok, u_iseq, u_itup, u_ienu, u_izip, rng_len, u_for, u_forVar, u_forOwn, u_forF, u_while, u_lc, u_lcVar, u_lcEV, u_lcOwn, u_lcMv, f_nx, f_ct, f_bk, f_rt, f_rz, rs_un, rs_v, rs_sc, rs_nil, gv_v, gl_l, gn_i, rv_k, o_some, o_none, startV, argV, intsD_ok, List.replicate, turn_eq, at_rng, u_dkt, u_tin, u_tget, o_lenN, o_listN, u_tstore, u_dkt1, gtt_ok, u_forPop, u_setapp, o_dini, Bool.bne_false, Bool.false_bne, Bool.xor_false, Bool.false_xor, goV, setAllV, lc1_eq, rt_k, wipeV, tyP, is_ii, is_ib, is_bb, is_bi, is_ll, is_tt, is_lt, is_tl, isNo, List.getElem?_cons_zero, List.getElem?_cons_succ, List.set_cons_zero, List.set_cons_succ, List.length_cons, List.length_nil, List.length_map, List.length_range, List.map_nil, List.map_cons, if_true, if_false, reduceIte, Bool.false_eq_true, Bool.true_eq_false, decide_eq_true_eq, Bool.not_true, Bool.not_false, List.cons_append, List.nil_append, Int.reduceLT, Int.reduceLE, Int.reduceNeg, Nat.reduceAdd, Nat.reduceLeDiff, Int.reduceToNat, Nat.le_refl, Nat.zero_le, Int.ofNat_eq_natCast, Bool.and_self, Bool.and_true, Bool.true_and, Bool.or_false, Bool.or_true, Bool.and_false, Bool.false_or, Bool.true_or, Bool.false_and, decide_true, decide_false, id_eq, Int.toNat_natCast, Option.map_some, Option.map_none, Option.isSome_some, Option.isSome_none, Int.zero_add, at_Rv, at_Iv, u_cut, u_put, u_callR, u_consX, u_callX1, u_callX2, bk1_ok, only_ok, cb_ok, cb_nx, ac_ok, Nat.reduceSub, List.append_nil, if_pos, if_neg, decide_eq_true, decide_eq_false, u_slice, u_oSome, o_oNo, cutX_lo, cutX_hi, cat_ok, lcEnd_some, pure_eI, pure_eG, List.map_map, capp_ok, List.length_take, List.length_drop, Function.comp_apply, at_c3, at_c4, at_c5, ge_t, pt_t1, pt_t2, pt_t3, pt_t0, u_st2, u_lenSet, u_cnt, u_nld, u_mvCat, u_fzd, u_idk, gdk_ok, gks_ok, o_dinT, o_dinTL, o_dinIL, o_lenDL, keyP_s, u_idx, u_forE, u_tupX, u_tupM2, u_anyS, any_l, any_t, u_tupU, u_slU, u_fUp, u_fmt, u_js, js_n, js_c, u_kin, u_kix, u_kget])
theorem big_v {ns : List Int} {k : Int} (h0 : 0 ≤ k) : ∃ b, 0 ≤ b ∧ w_law_big [eI ns, .int k] = .ok (.int b) := by
  obtain ⟨b, hb, e⟩ := big_eq (ns := ns) h0
  exact ⟨b, hb, lift_d e⟩
abbrev tx (l : List Nat) : Str := ⟨l.toArray⟩
theorem tx_len {l : List Nat} : (tx l).length = l.length := by
  show l.toArray.size = _
  rw [List.size_toArray]
theorem tx_inj {a b : List Nat} (h : tx a = tx b) : a = b := by
  have := congrArg (fun z : Str => z.cps.toList) h
  exact this
theorem tx_ok {l : List Nat} (h : ∀ c ∈ l, c < 200) : PyData.strOk (tx l) = true := by
  unfold PyData.strOk
  rw [Array.all_eq_true']
  intro x hx
  have := h x (by simpa using hx)
  exact decide_eq_true (by omega)
theorem small_line {n : Nat} (h : n ≤ 1000) : n ≤ sizeLine := by rw [sizeLine_eq]; omega
section
variable {vs : List VS} {a b l : List Nat} {i c : Nat}
theorem o_ixT (h : l.length ≤ 1000) (e : l[i]? = some c) : gIx (.str (tx l)) (.int i) vs = .ok (.str (tx [c])) vs := by
  have hi : i < l.length := (List.getElem?_eq_some_iff.mp e).1
  unfold gIx
  dsimp only
  rw [if_pos (by rw [tx_len]; exact small_line h), atI_0 (by omega)]
  simp [e]
theorem strV_tx : strV (tx l) = l.map fun c => VI.one (.str (tx [c])) := rfl
theorem eq_tx {neg : Bool} (ha : ∀ c ∈ a, c < 200) (hb : ∀ c ∈ b, c < 200) : gEq neg (.str (tx a)) (.str (tx b)) vs = .ok (.bool (neg ^^ decide (a = b))) vs := by
  rw [eq_fn (Fn_str (tx_ok ha)) (Fn_str (tx_ok hb))]
  congr 3
  show (tx a == tx b) = _
  by_cases h : a = b
  · subst h; simp
  · rw [decide_eq_false h]
    exact beq_eq_false_iff_ne.mpr fun z => h (tx_inj z)
end
def ls (s : Nat) : List Nat := (List.range s).map fun k => 97 + k
theorem abcd : PySem.Str.ofString "abcd" = tx (ls 4) := by decide +kernel
abbrev Ar3 := Nat × Nat × Nat
def mkD (m : Nat) : PyData := .str (tx [97 + m])
def arD (a : Ar3) : PyData := .tuple [.int (a.1 : Int), mkD a.2.1, .int (a.2.2 : Int)]
def arL (A : List Ar3) : PyData := .list (A.map arD)
def rd (n : Nat) (A : List Ar3) : PyData := .tuple [.int (n : Int), arL A]
structure OkR (n : Nat) (A : List Ar3) : Prop where
  n1 : 1 ≤ n
  n6 : n ≤ 6
  rng : ∀ a ∈ A, a.1 < n ∧ a.2.1 < 4 ∧ a.2.2 < n
  few : A.length ≤ 200
abbrev pI (P : List Nat) : List Int := P.map fun (i : Nat) => (i : Int)
def plL (P : List Nat) : PyData := .list ((pI P).map PyData.int)
def bh (n : Nat) (A : List Ar3) (P : List Nat) (m : Nat) : List Nat := (List.range n).filter fun j => A.any fun a => decide (a.2.1 = m) && decide (a.1 ∈ P) && decide (a.2.2 = j)
theorem mem_bh {n m j : Nat} {A : List Ar3} {P : List Nat} : j ∈ bh n A P m ↔ j < n ∧ ∃ a ∈ A, a.2.1 = m ∧ a.1 ∈ P ∧ a.2.2 = j := by
  unfold bh
  rw [List.mem_filter, List.mem_range, List.any_eq_true]
  refine and_congr Iff.rfl ⟨fun ⟨a, ha, h⟩ => ?_, fun ⟨a, ha, h1, h2, h3⟩ => ⟨a, ha, ?_⟩⟩
  · rw [Bool.and_eq_true, Bool.and_eq_true] at h
    exact ⟨a, ha, of_decide_eq_true h.1.1, of_decide_eq_true h.1.2, of_decide_eq_true h.2⟩
  · rw [decide_eq_true h1, decide_eq_true h2, decide_eq_true h3]; rfl
theorem pw_bh {n m : Nat} {A : List Ar3} {P : List Nat} : (bh n A P m).Pairwise (· < ·) := List.Pairwise.sublist List.filter_sublist List.pairwise_lt_range
section
open Zx (lkd patOk leD kSc keyTy kfD)
def kI (i : Nat) : L2.Key := .inl (i : Int)
theorem kI_inj : ∀ a b : Nat, kI a = kI b → a = b := fun a b e => by
  have := Sum.inl.inj e
  omega
def setI (ks : List Nat) : List (L2.Key × PyData) := dF kI (fun _ => .bool true) ks
theorem put_setI {ks : List Nat} {a : Nat} : Zx.V.putL (setI ks) (.inl (a : Int)) (.bool true) = setI (addk ks a) := put_dF kI_inj
theorem keyTy_I {f : Nat → PyData} : ∀ {ks : List Nat}, keyTy ((dF kI f ks).map Prod.fst) = true
  | [] => rfl
  | k :: ks => by
    show ((dF kI f ks).map Prod.fst).all _ = true
    rw [List.all_eq_true]
    intro x hx
    obtain ⟨p, hp, rfl⟩ := List.mem_map.mp hx
    obtain ⟨a, _, rfl⟩ := List.mem_map.mp hp
    exact decide_eq_true rfl
theorem pat_I : ∀ {ks : List Nat}, patOk (ks.map fun (i : Nat) => PyData.int (i : Int)) = true
  | [] => rfl
  | k :: ks => by
    show (ks.map fun (i : Nat) => PyData.int (i : Int)).all _ = true
    rw [List.all_eq_true]
    intro x hx
    obtain ⟨a, _, rfl⟩ := List.mem_map.mp hx
    exact decide_eq_true rfl
theorem leD_I {a b : Nat} : leD (.int (a : Int)) (.int (b : Int)) = decide (a ≤ b) := by
  show (!(Zx.ltK [Zx.Sc.i (b : Int)] [Zx.Sc.i (a : Int)])) = _
  rw [Zx.ltK_1]
  show (!decide ((b : Int) < (a : Int))) = _
  by_cases h : a ≤ b
  · rw [decide_eq_true h, decide_eq_false (by omega)]; rfl
  · rw [decide_eq_false h, decide_eq_true (by omega)]; rfl
theorem sort_I {f : Nat → PyData} {ks bs : List Nat} {vs : List VS} (hk : ks.Nodup) (hb : bs.Pairwise (· < ·)) (h : ∀ x, x ∈ ks ↔ x ∈ bs) : gSortedD [.dict (dK (dF kI f ks))] vs = .ok (plL bs) vs := by
  have nb : bs.Nodup := hb.imp fun h => Nat.ne_of_lt h
  have pm : bs.Perm ks := (List.perm_ext_iff_of_nodup nb hk).mpr fun x => (h x).symm
  have e : (dF kI f ks).map (fun p => kD p.1) = ks.map fun (i : Nat) => PyData.int (i : Int) := dF_keys
  have eb : plL bs = .list (bs.map fun (i : Nat) => PyData.int (i : Int)) := by unfold plL; rw [List.map_map]; rfl
  unfold gSortedD
  dsimp only
  rw [toM_dK]
  dsimp only
  rw [if_pos keyTy_I, e, Zx.sortD_eq pat_I (pm.map _) (List.pairwise_map.mpr (hb.imp fun {a b} h => by rw [leD_I]; exact decide_eq_true (by omega)))]
  dsimp only
  rw [eb]
end
theorem mem_pI {i : Nat} {P : List Nat} : ((i : Int) ∈ pI P) ↔ i ∈ P := by
  rw [List.mem_map]
  constructor
  · rintro ⟨j, hj, e⟩
    have : j = i := by omega
    exact this ▸ hj
  · exact fun h => ⟨i, h, rfl⟩
theorem mk_small {m : Nat} (h : m < 4) : ∀ c ∈ [97 + m], c < 200 := fun c hc => by rw [List.mem_singleton.mp hc]; omega
theorem eq_mk {neg : Bool} {m k : Nat} {vs : List VS} (h1 : m < 4) (h2 : k < 4) : gEq neg (mkD m) (mkD k) vs = .ok (.bool (neg ^^ decide (m = k))) vs := by
  unfold mkD
  rw [eq_tx (mk_small h1) (mk_small h2)]
  have : decide ([97 + m] = [97 + k]) = decide (m = k) := by
    by_cases h : m = k
    · rw [decide_eq_true h, h]; simp
    · rw [decide_eq_false h]
      exact decide_eq_false fun e => h (by have := (List.cons.inj e).1; omega)
  rw [this]
def hit (P : List Nat) (m : Nat) (A : List Ar3) : List Nat := (A.filter fun a => decide (a.2.1 = m) && decide (a.1 ∈ P)).map fun a => a.2.2
theorem hit_bh {n m : Nat} {A : List Ar3} {P : List Nat} (r : ∀ a ∈ A, a.1 < n ∧ a.2.1 < 4 ∧ a.2.2 < n) (x : Nat) : x ∈ uniq (hit P m A) ↔ x ∈ bh n A P m := by
  rw [mem_uniq, mem_bh]
  unfold hit
  rw [List.mem_map]
  constructor
  · rintro ⟨a, ha, rfl⟩
    obtain ⟨h1, h2⟩ := List.mem_filter.mp ha
    rw [Bool.and_eq_true] at h2
    exact ⟨(r a h1).2.2, a, h1, of_decide_eq_true h2.1, of_decide_eq_true h2.2, rfl⟩
  · rintro ⟨_, a, ha, h1, h2, rfl⟩
    exact ⟨a, List.mem_filter.mpr ⟨ha, by rw [decide_eq_true h1, decide_eq_true h2]; rfl⟩, rfl⟩
theorem hit_len {m : Nat} {A : List Ar3} {P : List Nat} : (hit P m A).length ≤ A.length := by
  unfold hit
  rw [List.length_map]; exact List.length_filter_le _ _
theorem hit_app {m : Nat} {P : List Nat} {l : List Ar3} {a : Ar3} : (hit P m (l ++ [a])).foldl addk [] = if a.2.1 = m ∧ a.1 ∈ P then addk ((hit P m l).foldl addk []) a.2.2 else (hit P m l).foldl addk [] := by
  unfold hit
  rw [List.filter_append, List.map_append, List.foldl_append]
  by_cases h : a.2.1 = m ∧ a.1 ∈ P
  · rw [if_pos h, List.filter_cons, decide_eq_true h.1, decide_eq_true h.2]; rfl
  · rw [if_neg h, List.filter_cons]
    have : (decide (a.2.1 = m) && decide (a.1 ∈ P)) = false := by
      by_cases h1 : a.2.1 = m
      · rw [decide_eq_false (fun h2 => h ⟨h1, h2⟩), Bool.and_false]
      · rw [decide_eq_false h1, Bool.false_and]
    rw [this]; rfl
theorem set_len {m : Nat} {P : List Nat} {l : List Ar3} : (setI ((hit P m l).foldl addk [])).length ≤ l.length := by
  unfold setI
  rw [dF_len]
  have := len_fold (l := hit P m l) (ks := [])
  have := hit_len (m := m) (P := P) (A := l)
  rw [List.length_nil] at *
  omega
theorem law_behind_v {n m : Nat} {A : List Ar3} {P : List Nat} (R : OkR n A) (hm : m < 4) : w_law_behind [rd n A, plL P, mkD m] = .ok (plL (bh n A P m)) := by
  unfold w_law_behind em_law_behind el_law_behind_1 rd arL
  walk_at "t"
  generalize eF : forV _ _ _ _ _ = F
  have h := for_preF eF (fun l1 => [.v (rd n A), .v (plL P), .v (mkD m), .v (.dict (dK (setI ((hit P m l1).foldl addk [])))), .un, .un, .un]) A (w := fun a => .one (arD a)) rfl rfl fun l1 a l2 e K => ?_
  · rw [h]
    walk_at "t"
    rw [show gSortedD [PyData.dict (dK (setI (List.foldl addk [] (hit P m A))))] _ = _ from sort_I (f := fun _ => .bool true) (nd_uniq (l := hit P m A)) pw_bh (hit_bh R.rng)]
    walk_at "t"
  · have ha := R.rng a (by rw [e]; exact List.mem_append_right _ List.mem_cons_self)
    have hl : l1.length < A.length := by rw [e, List.length_append, List.length_cons]; omega
    have hs := set_len (m := m) (P := P) (l := l1)
    have few := R.few
    unfold arD
    walk_at "t"
    rw [eq_mk ha.2.1 hm]
    walk_at "t"
    rw [hit_app]
    by_cases h1 : a.2.1 = m
    · rw [if_pos h1]
      unfold plL
      rw [o_in]
      walk_at "t"
      by_cases h2 : a.1 ∈ P
      · rw [if_pos (mem_pI.mpr h2), if_pos ⟨h1, h2⟩]
        walk_at "t"
        rw [put_setI]
      · rw [if_neg (fun z => h2 (mem_pI.mp z)), if_neg (fun z => h2 z.2)]
        walk_at "t"
    · rw [if_neg h1, if_neg (fun z => h1 z.1)]
      walk_at "t"
def kM (m : Nat) : L2.Key := .inr (tx [97 + m])
theorem kM_inj : ∀ a b : Nat, kM a = kM b → a = b := fun a b e => by
  have := (List.cons.inj (tx_inj (Sum.inr.inj e))).1
  omega
def mks (i : Nat) (A : List Ar3) : List Nat := (A.filter fun a => decide (a.1 = i)).map fun a => a.2.1
def outs (i m : Nat) (A : List Ar3) : List Nat := (A.filter fun a => decide (a.1 = i) && decide (a.2.1 = m)).map fun a => a.2.2
def netD (A : List Ar3) (i : Nat) : List (L2.Key × PyData) := dF kM (fun m => plL (outs i m A)) ((mks i A).foldl addk [])
def netL (n : Nat) (A : List Ar3) : PyData := .list ((List.range n).map fun i => .dict (dK (netD A i)))
theorem mks_app {i : Nat} {l : List Ar3} {a : Ar3} : (mks i (l ++ [a])).foldl addk [] = if a.1 = i then addk ((mks i l).foldl addk []) a.2.1 else (mks i l).foldl addk [] := by
  unfold mks
  rw [List.filter_append, List.map_append, List.foldl_append, List.filter_cons]
  by_cases h : a.1 = i
  · rw [if_pos h, decide_eq_true h]; rfl
  · rw [if_neg h, decide_eq_false h]; rfl
theorem outs_app {i m : Nat} {l : List Ar3} {a : Ar3} : outs i m (l ++ [a]) = if a.1 = i ∧ a.2.1 = m then outs i m l ++ [a.2.2] else outs i m l := by
  unfold outs
  rw [List.filter_append, List.map_append]
  by_cases h1 : a.1 = i <;> by_cases h2 : a.2.1 = m <;> simp [h1, h2]
theorem upd_dF {α : Type} [DecidableEq α] {κ : α → L2.Key} {f g : α → PyData} (inj : ∀ a b, κ a = κ b → a = b) {a : α} (ga : ∀ b, b ≠ a → g b = f b) : ∀ {ks : List α}, ks.Nodup → a ∈ ks → updL (dF κ f ks) (κ a) (g a) = dF κ g ks
  | [], _, m => by cases m
  | b :: ks, nd, m => by
    rw [List.nodup_cons] at nd
    show (if κ b = κ a then (κ b, g a) :: dF κ f ks else (κ b, f b) :: updL (dF κ f ks) (κ a) (g a)) = (κ b, g b) :: dF κ g ks
    by_cases h : b = a
    · subst h
      rw [if_pos rfl]
      congr 1
      unfold dF
      refine List.map_congr_left fun c hc => ?_
      rw [ga c (fun z => nd.1 (z ▸ hc))]
    · rw [if_neg (fun e => h (inj _ _ e)), upd_dF inj ga nd.2 ((List.mem_cons.mp m).resolve_left fun e => h e.symm), ga b h]
theorem dF_congr {α : Type} {κ : α → L2.Key} {f g : α → PyData} {ks : List α} (h : ∀ a ∈ ks, f a = g a) : dF κ f ks = dF κ g ks := by
  unfold dF
  exact List.map_congr_left fun a m => by rw [h a m]
theorem outs_none {i m : Nat} {A : List Ar3} (h : m ∉ (mks i A).foldl addk []) : outs i m A = [] := by
  unfold outs
  rw [List.map_eq_nil_iff, List.filter_eq_nil_iff]
  intro a ha z
  rw [Bool.and_eq_true] at z
  refine h (mem_fold.mpr (.inr ?_))
  unfold mks
  exact List.mem_map.mpr ⟨a, List.mem_filter.mpr ⟨ha, z.1⟩, of_decide_eq_true z.2⟩
theorem netD_new {l : List Ar3} {a : Ar3} (h : a.2.1 ∉ (mks a.1 l).foldl addk []) : updL (Zx.V.putL (netD l a.1) (kM a.2.1) (.list [])) (kM a.2.1) (.list ([] ++ [.int (a.2.2 : Int)])) = netD (l ++ [a]) a.1 := by
  have e1 : Zx.V.putL (netD l a.1) (kM a.2.1) (.list []) = dF kM (fun m => plL (outs a.1 m l)) (addk ((mks a.1 l).foldl addk []) a.2.1) := by
    have : PyData.list [] = (fun m => plL (outs a.1 m l)) a.2.1 := by
      show _ = plL (outs a.1 a.2.1 l)
      rw [outs_none h]; rfl
    rw [this]
    exact put_dF kM_inj
  rw [e1]
  have e2 : PyData.list ([] ++ [.int (a.2.2 : Int)]) = (fun m => plL (outs a.1 m (l ++ [a]))) a.2.1 := by
    show _ = plL (outs a.1 a.2.1 (l ++ [a]))
    rw [outs_app, if_pos ⟨rfl, rfl⟩, outs_none h]; rfl
  rw [e2, upd_dF kM_inj (g := fun m => plL (outs a.1 m (l ++ [a]))) (fun b hb => ?_) (nd_addk (nd_fold List.nodup_nil)) (mem_addk.mpr (.inr rfl))]
  · unfold netD
    rw [mks_app, if_pos rfl]
  · show plL (outs a.1 b (l ++ [a])) = plL (outs a.1 b l)
    rw [outs_app, if_neg (fun z => hb z.2.symm)]
theorem netD_old {l : List Ar3} {a : Ar3} (h : a.2.1 ∈ (mks a.1 l).foldl addk []) : updL (netD l a.1) (kM a.2.1) (.list ((pI (outs a.1 a.2.1 l)).map PyData.int ++ [.int (a.2.2 : Int)])) = netD (l ++ [a]) a.1 := by
  have e2 : PyData.list ((pI (outs a.1 a.2.1 l)).map PyData.int ++ [.int (a.2.2 : Int)]) = (fun m => plL (outs a.1 m (l ++ [a]))) a.2.1 := by
    show _ = plL (outs a.1 a.2.1 (l ++ [a]))
    rw [outs_app, if_pos ⟨rfl, rfl⟩]
    unfold plL pI
    rw [List.map_append, List.map_append]; rfl
  unfold netD at *
  rw [e2, upd_dF kM_inj (g := fun m => plL (outs a.1 m (l ++ [a]))) (fun b hb => ?_) (nd_fold List.nodup_nil) h, mks_app, if_pos rfl]
  · rw [show addk ((mks a.1 l).foldl addk []) a.2.1 = (mks a.1 l).foldl addk [] from if_pos h]
  · show plL (outs a.1 b (l ++ [a])) = plL (outs a.1 b l)
    rw [outs_app, if_neg (fun z => hb z.2.symm)]
theorem netD_else {l : List Ar3} {a : Ar3} {i : Nat} (h : a.1 ≠ i) : netD (l ++ [a]) i = netD l i := by
  unfold netD
  rw [mks_app, if_neg h]
  exact dF_congr fun m _ => by rw [outs_app, if_neg (fun z => h z.1)]
theorem netD_len {l : List Ar3} {i : Nat} : (netD l i).length ≤ l.length := by
  unfold netD
  rw [dF_len]
  have := len_fold (l := mks i l) (ks := [])
  have h2 : (mks i l).length ≤ l.length := by unfold mks; rw [List.length_map]; exact List.length_filter_le _ _
  rw [List.length_nil] at this
  omega
theorem outs_len {l : List Ar3} {i m : Nat} : (outs i m l).length ≤ l.length := by unfold outs; rw [List.length_map]; exact List.length_filter_le _ _
theorem netL_set {n : Nat} {l : List Ar3} {a : Ar3} (h : a.1 < n) : PyData.list (((List.range n).map fun i => PyData.dict (dK (netD l i))).set a.1 (.dict (dK (netD (l ++ [a]) a.1)))) = netL n (l ++ [a]) := by
  unfold netL
  congr 1
  apply List.ext_getElem?
  intro j
  by_cases hj : a.1 = j
  · subst hj
    rw [List.getElem?_set_self (by rw [List.length_map, List.length_range]; exact h), List.getElem?_map, List.getElem?_range h]; rfl
  · rw [List.getElem?_set_ne hj, List.getElem?_map, List.getElem?_map]
    by_cases hn : j < n
    · rw [List.getElem?_range hn]
      show some (PyData.dict (dK (netD l j))) = some (PyData.dict (dK (netD (l ++ [a]) j)))
      rw [netD_else hj]
    · rw [List.getElem?_eq_none (by rw [List.length_range]; omega)]; rfl
theorem netL_nil {n : Nat} : netL n [] = .list (List.replicate n (.dict [])) := by
  unfold netL
  congr 1
  rw [show (fun i : Nat => PyData.dict (dK (netD [] i))) = fun _ => PyData.dict [] from rfl, List.map_const', List.length_range]
theorem netD_val {l : List Ar3} {i m : Nat} : valL (netD l i) (kM m) = if m ∈ (mks i l).foldl addk [] then some (plL (outs i m l)) else none := val_dF kM_inj m
theorem rng_at {n i : Nat} {f : Nat → PyData} (h : i < n) : ((List.range n).map f)[i]? = some (f i) := by rw [List.getElem?_map, List.getElem?_range h]; rfl
theorem get_net {n i : Nat} {l : List Ar3} (h : i < n) : getAt [(i : Int)] (netL n l) = some (.dict (dK (netD l i))) := by
  unfold netL
  rw [ge_c, atI_0 (by omega)]
  simp only [Int.toNat_natCast]
  rw [rng_at h]; rfl
theorem put_list {ds : List PyData} {i : Nat} {d y : PyData} (h : ds[i]? = some d) : putAt [(i : Int)] y (.list ds) = .list (ds.set i y) := by
  have hi := (List.getElem?_eq_some_iff.mp h).1
  have e : L2.ixN ds.length (i : Int) = some i := by rw [Zx.ixN_in (by omega) (by omega)]; simp
  rw [putAt_c (p := i) e h]; rfl
theorem setApp_v {n : Nat} {l : List Ar3} {a : Ar3} {ge : VE} {vs : List VS} (h : a.1 < n) (few : l.length < 900) (hv : vs[1]? = some (.v (netL n l))) (hg : ∀ x, ge (vs.set 1 (.v x)) = .ok (.int (a.2.2 : Int)) (vs.set 1 (.v x))) : setApp 1 [(a.1 : Int)] (netL n l) (kM a.2.1) ge (netD l a.1) vs = .ok .none (vs.set 1 (.v (netL n (l ++ [a])))) := by
  have e0 : vs = vs.set 1 (.v (netL n l)) := by
    obtain ⟨hi, e⟩ := List.getElem?_eq_some_iff.mp hv
    rw [← e, List.set_getElem_self]
  have put : ∀ d, putAt [(a.1 : Int)] (.dict d) (netL n l) = .list (((List.range n).map fun i => PyData.dict (dK (netD l i))).set a.1 (.dict d)) := fun d => put_list (rng_at h)
  unfold setApp
  rw [if_pos (by have := netD_len (l := l) (i := a.1); omega), netD_val]
  by_cases h1 : a.2.1 ∈ (mks a.1 l).foldl addk []
  · rw [if_pos h1]
    unfold plL
    dsimp only
    unfold appD
    have hg0 := hg (netL n l)
    rw [← e0] at hg0
    rw [hg0]
    dsimp only
    rw [if_pos (by rw [Bool.and_eq_true]; exact ⟨rfl, decide_eq_true (by rw [List.length_map, List.length_map]; have := outs_len (l := l) (i := a.1) (m := a.2.1); unfold Zx.lim; omega)⟩), netD_old h1, put, netL_set h]
  · rw [if_neg h1]
    dsimp only
    unfold appD
    rw [hg]
    dsimp only
    rw [if_pos (by rw [Bool.and_eq_true]; exact ⟨rfl, decide_eq_true (by decide)⟩), netD_new h1, List.set_set, put, put_list (d := .dict (dK (Zx.V.putL (netD l a.1) (kM a.2.1) (.list [])))) (by rw [List.getElem?_set_self (by rw [List.length_map, List.length_range]; exact h)]), List.set_set, netL_set h]
theorem net_v {n : Nat} {A : List Ar3} (R : OkR n A) : w_net_of [rd n A] = .ok (netL n A) := by
  have n1 := R.n1
  have n6 := R.n6
  have few := R.few
  unfold w_net_of em_net_of el_net_of_1 ee_net_of_1 rd arL
  walk_at "t"
  rw [lc_rmap (o := fun _ => .dict []) fun i hi => by walk_at "t", lcEnd_some (by walk_at "wd"), List.map_const', List.length_range, ← netL_nil]
  walk_at "t"
  generalize eF : forV _ _ _ _ _ = F
  have h := for_preF eF (fun l1 => [.v (rd n A), .v (netL n l1), .un, .un, .un, .un]) A (w := fun a => .one (arD a)) rfl rfl fun l1 a l2 e K => ?_
  · rw [h]
    walk_at "t"
  · have ha := R.rng a (by rw [e]; exact List.mem_append_right _ List.mem_cons_self)
    have hl : l1.length < A.length := by rw [e, List.length_append, List.length_cons]; omega
    unfold arD
    walk_at "t"
    rw [get_net ha.1]
    walk_at "t"
    rw [show keyP (mkD a.2.1) = some (kM a.2.1) from rfl]
    walk_at "t"
    rw [setApp_v ha.1 (by omega) rfl fun x => by walk_at "t"]
    walk_at "t"
theorem nd_lt {n : Nat} {K : List Nat} (h : K.Nodup) (b : ∀ x ∈ K, x < n) : K.length ≤ n := by
  have pm : K.Perm ((List.range n).filter fun x => decide (x ∈ K)) := (List.perm_ext_iff_of_nodup h (List.Nodup.sublist List.filter_sublist List.nodup_range)).mpr fun x => by
    rw [List.mem_filter, List.mem_range]
    exact ⟨fun m => ⟨b x m, decide_eq_true m⟩, fun z => of_decide_eq_true z.2⟩
  rw [pm.length_eq]
  have := List.length_filter_le (fun x => decide (x ∈ K)) (List.range n)
  rw [List.length_range] at this
  exact this
theorem mem_outs {i m x : Nat} {A : List Ar3} : x ∈ outs i m A ↔ ∃ a ∈ A, a.1 = i ∧ a.2.1 = m ∧ a.2.2 = x := by
  unfold outs
  rw [List.mem_map]
  constructor
  · rintro ⟨a, ha, rfl⟩
    obtain ⟨h1, h2⟩ := List.mem_filter.mp ha
    rw [Bool.and_eq_true] at h2
    exact ⟨a, h1, of_decide_eq_true h2.1, of_decide_eq_true h2.2, rfl⟩
  · rintro ⟨a, ha, h1, h2, rfl⟩
    exact ⟨a, List.mem_filter.mpr ⟨ha, by rw [decide_eq_true h1, decide_eq_true h2]; rfl⟩, rfl⟩
abbrev led (P : List Nat) (m : Nat) (A : List Ar3) : List Nat := P.flatMap fun i => outs i m A
theorem led_bh {n m : Nat} {A : List Ar3} {P : List Nat} (R : OkR n A) (x : Nat) : x ∈ (led P m A).foldl addk [] ↔ x ∈ bh n A P m := by
  rw [mem_fold, mem_bh, List.mem_flatMap]
  constructor
  · rintro (h | ⟨i, hi, h⟩)
    · cases h
    · obtain ⟨a, ha, h1, h2, h3⟩ := mem_outs.mp h
      exact ⟨h3 ▸ (R.rng a ha).2.2, a, ha, h2, h1 ▸ hi, h3⟩
  · rintro ⟨_, a, ha, h1, h2, h3⟩
    exact .inr ⟨a.1, h2, mem_outs.mpr ⟨a, ha, rfl, h1, h3⟩⟩
theorem dg2_net {n m i : Nat} {A : List Ar3} {x1 x3 x5 : VS} (hi : i < n) : fDG2 (fBin gIx (fVar 0) (fVar 4)) (fVar 2) (fLst false 1 fNil) [.v (netL n A), x1, .v (mkD m), x3, .v (.int (i : Int)), x5] = .ok (plL (outs i m A)) [.v (netL n A), x1, .v (mkD m), x3, .v (.int (i : Int)), x5] := by
  unfold fDG2 netL
  walk_at "t"
  rw [show keyP (mkD m) = some (kM m) from rfl, o_some, netD_val]
  by_cases h : m ∈ (mks i A).foldl addk []
  · rw [if_pos h]
  · rw [if_neg h, outs_none h]; rfl
theorem gl_plL {α : Type} {P : List Nat} {f : List PyData → α} {d : α} : gl (plL P) f d = f (P.map fun (i : Nat) => .int (i : Int)) := by unfold plL; rw [gl_l, List.map_map]; rfl
theorem places_by_v {n m : Nat} {A : List Ar3} {P : List Nat} (R : OkR n A) (hP : ∀ i ∈ P, i < n) : w_places_by [netL n A, plL P, mkD m] = .ok (plL (bh n A P m)) := by
  have n6 := R.n6
  unfold w_places_by em_places_by el_places_by_2
  walk_at "t"
  rw [gl_plL, List.map_map]
  walk_at "t"
  generalize eF : forV _ _ _ _ _ = F
  have h := for_preF eF (fun l1 => [.v (netL n A), .v (plL P), .v (mkD m), .v (.dict (dK (setI ((led l1 m A).foldl addk [])))), .un, .un]) P (w := fun (i : Nat) => .one (.int (i : Int))) rfl rfl fun l1 i l2 e K => ?_
  · rw [h]
    walk_at "t"
    rw [show gSortedD [PyData.dict (dK (setI (List.foldl addk [] (led P m A))))] _ = _ from sort_I (f := fun _ => .bool true) (nd_uniq (l := led P m A)) pw_bh (led_bh R)]
    walk_at "t"
  · have hi := hP i (by rw [e]; exact List.mem_append_right _ List.mem_cons_self)
    unfold el_places_by_1
    walk_at "t"
    rw [dg2_net hi]
    walk_at "t"
    rw [gl_plL, List.map_map]
    walk_at "t"
    generalize eG : forV _ _ _ _ _ = G
    have h2 := for_preF eG (fun l3 => [.v (netL n A), .v (plL P), .v (mkD m), .v (.dict (dK (setI (l3.foldl addk ((led l1 m A).foldl addk []))))), .v (.int (i : Int)), .un]) (outs i m A) (w := fun (i : Nat) => .one (.int (i : Int))) rfl rfl fun l3 x l4 e2 K => ?_
    · rw [h2]
      walk_at "t"
      rw [show led (l1 ++ [i]) m A = led l1 m A ++ outs i m A by unfold led; rw [List.flatMap_append, List.flatMap_cons, List.flatMap_nil, List.append_nil], List.foldl_append]
    · have hl : (setI (List.foldl addk (List.foldl addk [] (led l1 m A)) l3)).length < 1000 := by
        unfold setI
        rw [dF_len]
        have := nd_lt (n := n) (K := List.foldl addk (List.foldl addk [] (led l1 m A)) l3) (nd_fold (nd_fold List.nodup_nil)) fun y hy => by
          rcases mem_fold.mp hy with z | z
          · exact (mem_bh.mp ((led_bh R y).mp z)).1
          · obtain ⟨a, ha, _, _, h3⟩ := mem_outs.mp (show y ∈ outs i m A by rw [e2]; exact List.mem_append_left _ z)
            exact h3 ▸ (R.rng a ha).2.2
        omega
      walk_at "t"
      rw [put_setI, List.foldl_append]; rfl
/-- a set of places below six, in its order -/
structure Pls (P : List Nat) : Prop where
  pw : P.Pairwise (· < ·)
  lt : ∀ x ∈ P, x < 6
theorem Pls.nd {P : List Nat} (h : Pls P) : P.Nodup := h.pw.imp fun h => Nat.ne_of_lt h
theorem bh_pls {n m : Nat} {A : List Ar3} {P : List Nat} (n6 : n ≤ 6) : Pls (bh n A P m) := ⟨pw_bh, fun x hx => Nat.lt_of_lt_of_le (mem_bh.mp hx).1 n6⟩
theorem rng_pls {n : Nat} (n6 : n ≤ 6) : Pls (List.range n) := ⟨List.pairwise_lt_range, fun x hx => Nat.lt_of_lt_of_le (List.mem_range.mp hx) n6⟩
theorem eq_nilP {neg : Bool} {P : List Nat} {vs : List VS} : gEq neg (plL P) (.list []) vs = .ok (.bool (neg ^^ P.isEmpty)) vs := by
  unfold plL
  rw [eq_fn (Fn.mono (Fn_lst (k := 0) (FnL_map fun _ _ => Fn_int)) (by decide)) (Fn_lst FnL_nil), Zx.eqv_nil]
  cases P <;> rfl
theorem n0t {vs : List VS} : gEq true (plL []) (.list []) vs = .ok (.bool false) vs := eq_nilP
theorem nCt {x : Nat} {P : List Nat} {vs : List VS} : gEq true (plL (x :: P)) (.list []) vs = .ok (.bool true) vs := eq_nilP
section
variable {vs0 vs : List VS} {bd : Bd} {body : VF} {gt : VT}
theorem wh_any {P : Nat → List VS → Prop} {Q : VO → Prop} : ∀ (c M : Nat) {vs : List VS}, M < c → P M vs → (∀ M vs, P M vs → (gt vs = .ok false vs ∧ Q (.nx vs)) ∨ (gt vs = .ok true vs ∧ ((∃ o, Q o ∧ ∀ K, aftV vs0 (body vs) K = o) ∨ ∃ vs' M', M' < M ∧ P M' vs' ∧ ∀ K, aftV vs0 (body vs) K = K vs'))) → Q (whV vs0 gt body c vs)
  | 0, M, vs, h, _, _ => absurd h (Nat.not_lt_zero _)
  | c + 1, M, vs, h, p, st => by
    unfold whV
    rcases st M vs p with ⟨e, r⟩ | ⟨e, ⟨o, q, k⟩ | ⟨vs', M', hM, p', k⟩⟩
    · rw [e]; exact r
    · rw [e]
      show Q (if true = true then aftV vs0 (body vs) (whV vs0 gt body c) else .nx vs)
      rw [if_pos rfl, k]
      exact q
    · rw [e]
      show Q (if true = true then aftV vs0 (body vs) (whV vs0 gt body c) else .nx vs)
      rw [if_pos rfl, k]
      exact wh_any c M' (by omega) p' st
theorem wh_anyF {c : Nat} {F : VO} (e : whV vs0 gt body c vs = F) (P : Nat → List VS → Prop) (Q : VO → Prop) (M : Nat) (hM : M < c) (p : P M vs) (st : ∀ M vs, P M vs → (gt vs = .ok false vs ∧ Q (.nx vs)) ∨ (gt vs = .ok true vs ∧ ((∃ o, Q o ∧ ∀ K, aftV vs0 (body vs) K = o) ∨ ∃ vs' M', M' < M ∧ P M' vs' ∧ ∀ K, aftV vs0 (body vs) K = K vs'))) : Q F := e ▸ wh_any c M hM p st
end
theorem tx_abcd : PySem.Str.ofString "abcd" = tx [97, 98, 99, 100] := by decide +kernel
theorem abcd_its : strV (PySem.Str.ofString "abcd") = [0, 1, 2, 3].map fun m => VI.one (mkD m) := by rw [tx_abcd, strV_tx]; rfl
theorem rng_plL {n : Nat} : PyData.list ((List.range n).map fun (i : Nat) => PyData.int (i : Int)) = plL (List.range n) := by unfold plL; rw [List.map_map]; rfl
theorem u_lrg1 {ga : VE} {vs : List VS} : fLrg1 ga vs = (ga vs).bind fun x vs => gn x (fun i => fLrg 0 i vs) .st := by
  unfold fLrg1 gn
  congr 1
theorem lrg_pl {n : Nat} {vs : List VS} (h : n ≤ 1000) : fLrg 0 (n : Int) vs = .ok (plL (List.range n)) vs := by
  unfold fLrg Zx.V.rgV
  have h1 : (inB 0 && inB (n : Int) && decide (((n : Int) - 0).toNat ≤ 1000000)) = true := by
    unfold inB
    simp
    omega
  rw [if_pos h1, ← rng_plL]
  simp
theorem plL_app {P : List Nat} {j : Nat} : PyData.list ((P.map fun (i : Nat) => PyData.int (i : Int)) ++ [PyData.int (j : Int)]) = plL (P ++ [j]) := by
  unfold plL
  rw [List.map_map, List.map_append]; rfl
theorem ne_plL {P : List Nat} {vs : List VS} : (gEq true (plL P) (.list []) vs).bind tst = .ok (!P.isEmpty) vs := by
  rw [eq_nilP]
  cases P <;> rfl
section
variable {vs0 vs : List VS} {bd : Bd} {body : VF}
end
abbrev stO (n x : Nat) (L O : List Nat) : List VS := [.v (.int (n : Int)), .v (.int (x : Int)), .v (plL L), .v (plL O)]
theorem er_map {α β : Type} {f : α → β} : ∀ {l : List α} {p : Nat}, (l.map f).eraseIdx p = (l.eraseIdx p).map f
  | [], p => by simp
  | a :: l, 0 => rfl
  | a :: l, p + 1 => by
    show f a :: (l.map f).eraseIdx p = f a :: (l.eraseIdx p).map f
    rw [er_map]
theorem len_plL {L : List Nat} {vs : List VS} : gLen [plL L] vs = .ok (.int (L.length : Int)) vs := by
  unfold plL
  walk_at "t"
theorem kPpA_v {l : List Nat} {p : Nat} (h : p < l.length) (hl : l.length ≤ 6) : kPpA (l.map fun (i : Nat) => PyData.int (i : Int)) [.int (p : Int)] = some ((l.eraseIdx p).map fun (i : Nat) => PyData.int (i : Int), .int (l[p] : Int)) := by
  have e1 : inB (p : Int) = true := by
    unfold inB
    simp
    omega
  have e2 : seqIndex? (p : Int) (l.map fun (i : Nat) => PyData.int (i : Int)).length = some p := by
    rw [List.length_map]
    unfold seqIndex?
    simp
    omega
  unfold kPpA
  dsimp only
  rw [if_pos e1, e2]
  dsimp only
  rw [List.getElem?_map, List.getElem?_eq_getElem h]
  simp [er_map]
theorem law_order_v {n x : Nat} (n6 : n ≤ 6) : ∃ P : List Nat, w_law_order [.int (n : Int), .int (x : Int)] = .ok (plL P) ∧ P.length = n ∧ ∀ i ∈ P, i < n := by
  unfold w_law_order em_law_order
  walk_at "t"
  rw [u_lrg1]
  walk_at "t"
  rw [lrg_pl (by omega)]
  walk_at "t"
  unfold el_law_order_1
  walk_at "t"
  generalize eF : whV _ _ _ _ _ = F
  have h := wh_anyF eF (fun M vs => ∃ x L O, vs = stO n x L O ∧ L.length = M ∧ L.length + O.length = n ∧ (∀ i ∈ L, i < n) ∧ ∀ i ∈ O, i < n)
    (fun o => ∃ x O, o = .nx (stO n x [] O) ∧ O.length = n ∧ ∀ i ∈ O, i < n) n (by omega) ⟨x, List.range n, [], rfl, List.length_range, by rw [List.length_range]; rfl, fun i hi => List.mem_range.mp hi, fun _ z => by cases z⟩ ?_
  · obtain ⟨x', O, rfl, h1, h2⟩ := h
    refine ⟨O, ?_, h1, h2⟩
    walk_at "t"
  · rintro M vs ⟨y, L, O, rfl, hM, hl, hL, hO⟩
    rcases L with _ | ⟨a, L⟩
    · left
      refine ⟨?_, y, O, rfl, by rw [List.length_nil] at hl; omega, hO⟩
      walk_at "t"
      exact ne_plL
    · right
      obtain ⟨p, hp, ep⟩ : ∃ p, p < (a :: L).length ∧ y % (a :: L).length = p := ⟨_, Nat.mod_lt _ (by rw [List.length_cons]; omega), rfl⟩
      have hb : ∀ K' , aftV [.v (.int (n : Int)), .v (.int (x : Int)), .v (plL (List.range n)), .v (.list [])] ((sSeq (sExpr (fApp 3 (fMt 2 pVar kPpA (fCons (fBin gMod (fVar 1) (fCB gLen (fCons (fVar 2) fNil))) fNil)))) (sSet 1 (fBin gDiv (fVar 1) (fBin gAdd (fCB gLen (fCons (fVar 2) fNil)) (fC (.int 1)))))) (stO n y (a :: L) O)) K' = K' (stO n (y / ((a :: L).length)) ((a :: L).eraseIdx p) (O ++ [(a :: L)[p]])) := by
        intro K'
        generalize eL : a :: L = L' at *
        unfold stO
        walk_at "t"
        rw [gl_plL, len_plL]
        walk_at "t"
        rw [show ((y : Int) % (L'.length : Int)) = (p : Int) by rw [← ep]; rfl, gl_plL, kPpA_v hp (by omega), o_some]
        walk_at "t"
        rw [gl_plL, capp_ok (by rw [List.length_map]; omega), plL_app]
        walk_at "t"
        rw [show (((L'.eraseIdx p).length : Nat) : Int) + 1 = (L'.length : Int) by rw [List.length_eraseIdx_of_lt hp]; omega]
        have hne : 0 < (L'.length : Int) ∧ (L'.length : Int) < 340282366920938463463374607431768211456 := by omega
        rw [o_div hne.1 hne.2]
        walk_at "t"
        have ee : PyData.list ((L'.eraseIdx p).map fun (i : Nat) => PyData.int (i : Int)) = plL (L'.eraseIdx p) := by unfold plL; rw [List.map_map]; rfl
        rw [ee, show ((y : Int) / (L'.length : Int)) = ((y / L'.length : Nat) : Int) from rfl]
      refine ⟨?_, .inr ⟨_, M - 1, by rw [← hM, List.length_cons]; omega, ⟨_, _, _, rfl, ?_, ?_, ?_, ?_⟩, hb⟩⟩
      · walk_at "t"
        exact ne_plL
      · rw [List.length_eraseIdx_of_lt hp, hM]
      · rw [List.length_eraseIdx_of_lt hp, List.length_append, List.length_singleton]
        rw [List.length_cons] at *
        omega
      · exact fun i hi => hL i (List.mem_of_mem_eraseIdx hi)
      · intro i hi
        rcases List.mem_append.mp hi with z | z
        · exact hO i z
        · rw [List.mem_singleton.mp z]; exact hL _ (List.getElem_mem hp)
open Zx (patOk leD leD_tr leD_tot)
theorem pat_ar (w : List Ar3) : patOk (w.map arD) = true := by
  cases w with
  | nil => rfl
  | cons a w =>
    have e : ∃ b P, ∀ c : Ar3, Zx.patD (arD c) = some (true, b :: P) := ⟨Zx.Sc.ty (.i 0), [Zx.Sc.ty (.s (tx [])), Zx.Sc.ty (.i 0)], fun c => rfl⟩
    obtain ⟨b, P, e⟩ := e
    rw [List.map_cons]
    unfold Zx.patOk
    dsimp only
    rw [e a]
    dsimp only
    rw [List.all_eq_true]
    intro y my
    obtain ⟨c, _, rfl⟩ := List.mem_map.mp my
    exact decide_eq_true (e c)
def srA (A : List Ar3) : List Ar3 := A.mergeSort fun a b => leD (arD a) (arD b)
theorem srA_perm {A : List Ar3} : (srA A).Perm A := List.mergeSort_perm _ _
theorem srA_pw {A : List Ar3} : ((srA A).map arD).Pairwise fun x y => leD x y = true :=
  List.pairwise_map.mpr (List.pairwise_mergeSort (le := fun a b => leD (arD a) (arD b)) (fun _ _ _ => leD_tr _ _ _) (fun _ _ => leD_tot _ _) A)
theorem OkR.sr {n : Nat} {A : List Ar3} (R : OkR n A) : OkR n (srA A) := ⟨R.n1, R.n6, fun a ha => R.rng a (srA_perm.mem_iff.mp ha), by rw [srA_perm.length_eq]; exact R.few⟩
section
variable {vs0 : List VS} {bd : Bd} {body : VF}
theorem for_allN {α : Type} {w : α → VI} {P : Nat → List VS → Prop} {N : Nat} : ∀ (l : List α) (j : Nat) {vs : List VS}, j + l.length = N → P j vs → (∀ a ∈ l, ∀ j vs, j < N → P j vs → ∃ vs', P (j + 1) vs' ∧ ∀ K, turnV vs0 bd body (w a) vs K = K vs') → ∃ vs', forV vs0 bd body (l.map w) vs = .nx vs' ∧ P N vs'
  | [], j, vs, e, p, _ => ⟨vs, rfl, by rw [← e]; exact p⟩
  | a :: l, j, vs, e, p, h => by
    rw [List.length_cons] at e
    obtain ⟨vs1, p1, k⟩ := h a List.mem_cons_self j vs (by omega) p
    obtain ⟨vs2, e, p2⟩ := for_allN l (j + 1) (by omega) p1 fun b hb => h b (List.mem_cons_of_mem _ hb)
    refine ⟨vs2, ?_, p2⟩
    rw [List.map_cons, for_c, k, e]
end
theorem for_allF {α : Type} {w : α → VI} {vs0 : List VS} {bd : Bd} {body : VF} {vs : List VS} {its : List VI} {F : VO} (eF : forV vs0 bd body its vs = F) (l : List α) (hi : its = l.map w) (P : Nat → List VS → Prop) (p : P 0 vs) (h : ∀ a ∈ l, ∀ j vs, j < l.length → P j vs → ∃ vs', P (j + 1) vs' ∧ ∀ K, turnV vs0 bd body (w a) vs K = K vs') : ∃ vs', F = .nx vs' ∧ P l.length vs' := by
  subst hi
  obtain ⟨vs', e, p'⟩ := for_allN (N := l.length) l 0 (by omega) p h
  exact ⟨vs', by rw [← eF, e], p'⟩
def k3 (a : Ar3) : NestedKey := .tup [.num (a.1 : Int), .text (tx [97 + a.2.1]), .num (a.2.2 : Int)]
def k2 (a : Nat × Nat) : NestedKey := .tup [.num (a.1 : Int), .text (tx [97 + a.2])]
def d3 (L : List Ar3) : List (NestedKey × PyData) := L.map fun a => (k3 a, PyData.bool true)
def d2 (L : List (Nat × Nat)) : List (NestedKey × PyData) := L.map fun a => (k2 a, PyData.bool true)
theorem keyT3 {i m j : Nat} : keyT (.tuple [.int (i : Int), mkD m, .int (j : Int)]) = some (k3 (i, m, j)) := by
  refine kt_t ?_ ?_
  · unfold mkD
    simp [Zx.kNs, Zx.kN]
  · simp [NestedKey.depth, NestedKey.depthAll]
theorem keyT2 {i m : Nat} : keyT (.tuple [.int (i : Int), mkD m]) = some (k2 (i, m)) := by
  refine kt_t ?_ ?_
  · unfold mkD
    simp [Zx.kNs, Zx.kN]
  · simp [NestedKey.depth, NestedKey.depthAll]
theorem data_k3 {a : Ar3} : (k3 a).data = arD a := by
  unfold k3 arD mkD
  simp [NestedKey.data, NestedKey.datas]
theorem put_same {α : Type} {f : α → NestedKey} {k : NestedKey} {L : List α} (h : (Zx.valT (L.map fun a => (f a, PyData.bool true)) k).isSome = true) : Zx.putT (L.map fun a => (f a, PyData.bool true)) k (PyData.bool true) = L.map fun a => (f a, PyData.bool true) := by
  unfold Zx.putT
  rw [if_pos h, List.map_map]
  apply List.map_congr_left
  intro a _
  show Zx.setT k (PyData.bool true) (f a, .bool true) = _
  unfold Zx.setT
  dsimp only
  split <;> first | rfl | simp_all
theorem put3 {L : List Ar3} {a : Ar3} : ∃ L', Zx.putT (d3 L) (k3 a) (PyData.bool true) = d3 L' ∧ L'.length ≤ L.length + 1 ∧ ∀ b ∈ L', b ∈ L ∨ b = a := by
  by_cases h : (Zx.valT (d3 L) (k3 a)).isSome = true
  · exact ⟨L, put_same h, by omega, fun b hb => .inl hb⟩
  · refine ⟨L ++ [a], ?_, by rw [List.length_append]; exact Nat.le_refl _, fun b hb => ?_⟩
    · unfold Zx.putT
      rw [if_neg h]
      unfold d3
      rw [List.map_append]; rfl
    · rcases List.mem_append.mp hb with h | h
      · exact .inl h
      · exact .inr (List.mem_singleton.mp h)
theorem put2 {L : List (Nat × Nat)} {a : Nat × Nat} : ∃ L', Zx.putT (d2 L) (k2 a) (PyData.bool true) = d2 L' ∧ L'.length ≤ L.length + 1 := by
  by_cases h : (Zx.valT (d2 L) (k2 a)).isSome = true
  · exact ⟨L, put_same h, by omega⟩
  · refine ⟨L ++ [a], ?_, by rw [List.length_append]; exact Nat.le_refl _⟩
    unfold Zx.putT
    rw [if_neg h]
    unfold d2
    rw [List.map_append]; rfl
theorem d3_len {L : List Ar3} : (d3 L).length = L.length := List.length_map _
theorem d2_len {L : List (Nat × Nat)} : (d2 L).length = L.length := List.length_map _
theorem data_d3 {L : List Ar3} : ((d3 L).map fun p => p.1.data) = L.map arD := by
  unfold d3
  rw [List.map_map]
  apply List.map_congr_left
  intro a _
  exact data_k3
theorem sorted3 {L : List Ar3} {vs : List VS} : gSortedT [tL (d3 L)] vs = .ok (arL (srA L)) vs := by
  refine o_sortedN ?_ ?_ srA_pw
  · rw [data_d3]; exact pat_ar L
  · rw [data_d3]; exact srA_perm.map arD
def Rn (n : Nat) (L : List Ar3) : Prop := ∀ a ∈ L, a.1 < n ∧ a.2.1 < 4 ∧ a.2.2 < n
theorem put_ok {n : Nat} {L : List Ar3} (h : Rn n L) {a : Ar3} (ha : a.1 < n ∧ a.2.1 < 4 ∧ a.2.2 < n) : ∃ L', Zx.putT (d3 L) (k3 a) (PyData.bool true) = d3 L' ∧ L'.length ≤ L.length + 1 ∧ Rn n L' := by
  obtain ⟨L', e, l, m⟩ := put3 (L := L) (a := a)
  refine ⟨L', e, l, fun b hb => ?_⟩
  rcases m b hb with h' | h'
  · exact h b h'
  · rw [h']; exact ha
theorem store3 {i : Nat} {gi : VE} {vs : List VS} {L : List Ar3} {p m q : Nat} (hg : gi vs = .ok (.tuple [.int (p : Int), mkD m, .int (q : Int)]) vs) (hv : vs[i]? = some (.v (tL (d3 L)))) (hl : L.length < 1000) : sTStore i gi (fC (.bool true)) vs = .nx (vs.set i (.v (tL (Zx.putT (d3 L) (k3 (p, m, q)) (PyData.bool true))))) := by
  rw [u_tstore]
  walk_at "t"
  rw [hg]
  walk_at "t"
  rw [keyT3]
  walk_at "t"
  rw [hv]
  walk_at "t"
  rw [d3_len, decide_eq_true (show L.length < 1000000 by omega)]
  rw [if_pos (show (true && Zx.imm (.bool true)) = true from rfl)]
abbrev stM (n : Nat) (L : List Ar3) (x r : Nat) (s5 s6 s7 : VS) : List VS := [.v (.int (n : Int)), .v (tL (d3 L)), .v (.int (x : Int)), .v (.int (r : Int)), .v (.int 30), s5, s6, s7]
theorem more_j {n : Nat} (n6 : n ≤ 6) {r : Nat} (hr : 2 ≤ r) (hr2 : r ≤ 11) {p m : Nat} (hp : p < n) (hm : m < 4) {L : List Ar3} {x : Nat} (hL : Rn n L) (h30 : L.length ≤ 30) : ∃ L' x', er1_l_law_more_1 (stM n L x r (.v (.int (p : Int))) (.v (mkD m)) .un) = .nx (stM n L' x' r (.v (.int (p : Int))) (.v (mkD m)) .un) ∧ Rn n L' ∧ L'.length ≤ 30 := by
  unfold er1_l_law_more_1
  walk_at "t"
  generalize eF : forV _ _ _ _ _ = F
  have hF := for_allF eF (w := fun (i : Nat) => VI.one (.int (0 + (i : Int)))) (List.range n) rfl (fun _ vs => ∃ L' x', vs = stM n L' x' r (.v (.int (p : Int))) (.v (mkD m)) .un ∧ Rn n L' ∧ L'.length ≤ 30) ⟨L, x, rfl, hL, h30⟩ ?_
  · obtain ⟨vs', rfl, L', x', rfl, h1, h2⟩ := hF
    exact ⟨L', x', rfl, h1, h2⟩
  · rintro j hj _ vs - ⟨L, x, rfl, hL, h30⟩
    have hj := List.mem_range.mp hj
    rw [show (0 + (j : Int)) = (j : Int) by omega]
    by_cases h0 : x % r = 0
    · by_cases h1 : L.length < 30
      · obtain ⟨L', e, l, hL'⟩ := put_ok hL (a := (p, m, j)) ⟨hp, hm, hj⟩
        refine ⟨_, ⟨L', x / r, rfl, hL', by omega⟩, fun K => ?_⟩
        unfold stM
        walk_at "t"
        rw [d3_len, if_pos (show ((L.length : Nat) : Int) < 30 by omega), keyT3]
        walk_at "t"
        rw [e]
        rfl
      · refine ⟨_, ⟨L, x / r, rfl, hL, by omega⟩, fun K => ?_⟩
        unfold stM
        walk_at "t"
        rw [d3_len, if_neg (show ¬ ((L.length : Nat) : Int) < 30 by omega)]
        walk_at "t"
        rfl
    · refine ⟨_, ⟨L, x / r, rfl, hL, by omega⟩, fun K => ?_⟩
      unfold stM
      walk_at "t"
      rfl
theorem more_m {n : Nat} (n6 : n ≤ 6) {r : Nat} (hr : 2 ≤ r) (hr2 : r ≤ 11) {p : Nat} (hp : p < n) {L : List Ar3} {x : Nat} (hL : Rn n L) (h30 : L.length ≤ 30) : ∃ L' x', er1_l_law_more_2 (stM n L x r (.v (.int (p : Int))) .un .un) = .nx (stM n L' x' r (.v (.int (p : Int))) .un .un) ∧ Rn n L' ∧ L'.length ≤ 30 := by
  unfold er1_l_law_more_2
  walk_at "t"
  rw [abcd_its]
  generalize eF : forV _ _ _ _ _ = F
  have hF := for_allF eF (w := fun m => VI.one (mkD m)) [0, 1, 2, 3] rfl (fun _ vs => ∃ L' x', vs = stM n L' x' r (.v (.int (p : Int))) .un .un ∧ Rn n L' ∧ L'.length ≤ 30) ⟨L, x, rfl, hL, h30⟩ ?_
  · obtain ⟨vs', rfl, L', x', rfl, h1, h2⟩ := hF
    exact ⟨L', x', rfl, h1, h2⟩
  · rintro m hm _ vs - ⟨L, x, rfl, hL, h30⟩
    have hm : m < 4 := by simp at hm; omega
    obtain ⟨L', x', e, h1, h2⟩ := more_j n6 hr hr2 hp hm (x := x) hL h30
    refine ⟨_, ⟨L', x', rfl, h1, h2⟩, fun K => ?_⟩
    unfold stM at e ⊢
    walk_at "t"
    rw [e]
    walk_at "t"
theorem more_p {n : Nat} (n6 : n ≤ 6) {r : Nat} (hr : 2 ≤ r) (hr2 : r ≤ 11) {L : List Ar3} {x : Nat} (hL : Rn n L) (h30 : L.length ≤ 30) : ∃ L' x', er1_l_law_more_3 (stM n L x r .un .un .un) = .nx (stM n L' x' r .un .un .un) ∧ Rn n L' ∧ L'.length ≤ 30 := by
  unfold er1_l_law_more_3
  walk_at "t"
  generalize eF : forV _ _ _ _ _ = F
  have hF := for_allF eF (w := fun (i : Nat) => VI.one (.int (0 + (i : Int)))) (List.range n) rfl (fun _ vs => ∃ L' x', vs = stM n L' x' r .un .un .un ∧ Rn n L' ∧ L'.length ≤ 30) ⟨L, x, rfl, hL, h30⟩ ?_
  · obtain ⟨vs', rfl, L', x', rfl, h1, h2⟩ := hF
    exact ⟨L', x', rfl, h1, h2⟩
  · rintro p hp _ vs - ⟨L, x, rfl, hL, h30⟩
    have hp := List.mem_range.mp hp
    obtain ⟨L', x', e, h1, h2⟩ := more_m n6 hr hr2 hp (x := x) hL h30
    refine ⟨_, ⟨L', x', rfl, h1, h2⟩, fun K => ?_⟩
    rw [show (0 + (p : Int)) = (p : Int) by omega]
    unfold stM at e ⊢
    walk_at "t"
    rw [e]
    walk_at "t"
theorem law_more_v {n : Nat} (n6 : n ≤ 6) {r : Nat} (hr : 2 ≤ r) (hr2 : r ≤ 11) {L : List Ar3} {x : Nat} (hL : Rn n L) (h30 : L.length ≤ 30) : ∃ L', em_r1_law_more (stM n L x r .un .un .un) = .rt (tL (d3 L')) ∧ Rn n L' ∧ L'.length ≤ 30 := by
  obtain ⟨L', x', e, h1, h2⟩ := more_p n6 hr hr2 (x := x) hL h30
  refine ⟨L', ?_, h1, h2⟩
  unfold em_r1_law_more
  rw [u_seq, e]
  unfold stM
  walk_at "t"
theorem more_eq : em_r2_law_more = em_r1_law_more := rfl
theorem getD_in {P : List Nat} {i : Nat} (h : i < P.length) : P.getD i 0 = P[i] := by
  rw [List.getD_eq_getElem?_getD, List.getElem?_eq_getElem h]; rfl
theorem ix_plL {P : List Nat} {i : Nat} {vs : List VS} (h : i < P.length) : gIx (plL P) (.int (i : Int)) vs = .ok (.int (P.getD i 0 : Nat)) vs := by
  unfold plL
  walk_at "t"
  rw [atI_0 (by omega), Int.toNat_natCast, List.getElem?_map, List.getElem?_eq_getElem h, getD_in h]
  rfl
theorem at_m1 {α : Type} {xs : List α} (h : 0 < xs.length) : atI xs (-1) = xs[xs.length - 1]? := by
  unfold atI ixN
  rw [if_neg (by decide)]
  rw [if_pos (by omega)]
  show xs[_]? = _
  congr 1
  omega
theorem ix_m1 {P : List Nat} {n k : Nat} {vs : List VS} (hP : P.length = n) (n6 : n ≤ 6) (hk : k < n) : ∃ i, i ∈ P ∧ gIx (plL P) (.int ((k : Int) - 1)) vs = .ok (.int (i : Nat)) vs := by
  rcases Nat.eq_zero_or_pos k with h | h
  · subst h
    refine ⟨P[P.length - 1], List.getElem_mem _, ?_⟩
    unfold plL
    rw [List.map_map, o_ix, show (((0 : Nat) : Int) - 1) = -1 from rfl, at_m1 (by rw [List.length_map]; omega), List.length_map, List.getElem?_map, List.getElem?_eq_getElem (by omega)]
    rfl
  · have hk1 : k - 1 < P.length := by omega
    refine ⟨P[k - 1], List.getElem_mem _, ?_⟩
    rw [show ((k : Int) - 1) = ((k - 1 : Nat) : Int) by omega, ix_plL hk1, getD_in hk1]
theorem ix_abcd {x : Nat} {vs : List VS} : gIx (.str (PySem.Str.ofString "abcd")) (.int ((x % 4 : Nat) : Int)) vs = .ok (mkD (x % 4)) vs := by
  rw [tx_abcd]
  have : x % 4 = 0 ∨ x % 4 = 1 ∨ x % 4 = 2 ∨ x % 4 = 3 := by omega
  rcases this with h | h | h | h <;> rw [h] <;> exact o_ixT (by decide) rfl
theorem n_div {x c : Nat} {vs : List VS} (h : 0 < c) (h2 : (c : Int) < 340282366920938463463374607431768211456) : gDiv (.int (x : Int)) (.int (c : Int)) vs = .ok (.int ((x / c : Nat) : Int)) vs := by
  rw [o_div (by omega) (by omega)]; rfl
theorem n_mod {x c : Nat} {vs : List VS} (h : 0 < c) : gMod (.int (x : Int)) (.int (c : Int)) vs = .ok (.int ((x % c : Nat) : Int)) vs := by
  rw [o_mod (by omega)]; rfl
theorem powBk {m n : Int} {vs : List VS} (h : Zx.powB m n = true) : gPow (.int m) (.int n) vs = .ok (.int (m ^ n.toNat)) vs := if_pos h
theorem pw7 {vs : List VS} : gPow (.int 10) (.int 7) vs = .ok (.int ((10000000 : Nat) : Int)) vs := powBk (by decide)
theorem law_ring_v {n x : Nat} (n6 : n ≤ 6) : ∃ L, w_law_ring [.int (n : Int), .int (x : Int)] = .ok (tL (d3 L)) ∧ Rn n L ∧ L.length ≤ n := by
  obtain ⟨P, eP, lP, hP⟩ := law_order_v (n := n) (x := x) n6
  unfold w_law_ring em_law_ring
  walk_at "t"
  rw [eP]
  walk_at "t"
  unfold el_law_ring_1
  walk_at "t"
  generalize eF : forV _ _ _ _ _ = F
  have hF := for_allF eF (w := fun (i : Nat) => VI.one (.int (0 + (i : Int)))) (List.range n) rfl (fun j vs => ∃ L' x', vs = [.v (.int (n : Int)), .v (.int ((x' : Nat) : Int)), .v (plL P), .v (tL (d3 L')), .un] ∧ Rn n L' ∧ L'.length ≤ j) ⟨[], x / 720, rfl, (fun _ h => by cases h), Nat.le_refl _⟩ ?_
  · obtain ⟨vs', rfl, L', x', rfl, h1, h2⟩ := hF
    refine ⟨L', ?_, h1, by rw [List.length_range] at h2; exact h2⟩
    walk_at "t"
  · rintro k hk j vs hj ⟨L, x, rfl, hL, hl⟩
    have hk := List.mem_range.mp hk
    rw [List.length_range] at hj
    rw [show (0 + (k : Int)) = (k : Int) by omega]
    obtain ⟨i, hi, ei⟩ := ix_m1 (vs := [.v (.int (n : Int)), .v (.int (x : Int)), .v (plL P), .v (tL (d3 L)), .v (.int (k : Int))]) lP n6 hk
    obtain ⟨L', e, l, hL'⟩ := put_ok hL (a := (i, x % 4, P.getD k 0)) ⟨hP _ hi, Nat.mod_lt _ (by decide), hP _ (by rw [getD_in (by omega)]; exact List.getElem_mem _)⟩
    refine ⟨_, ⟨L', x / 4, rfl, hL', by omega⟩, fun K => ?_⟩
    have eg : (fTup (fCons (fBin gIx (fVar 2) (fBin gSub (fVar 4) (fC (.int 1)))) (fCons (fBin gIx (fC (.str (PySem.Str.ofString "abcd"))) (fBin gMod (fVar 1) (fC (.int 4)))) (fCons (fBin gIx (fVar 2) (fVar 4)) fNil)))) [.v (.int (n : Int)), .v (.int (x : Int)), .v (plL P), .v (tL (d3 L)), .v (.int (k : Int))] = .ok (.tuple [.int (i : Int), mkD (x % 4), .int (P.getD k 0 : Nat)]) [.v (.int (n : Int)), .v (.int (x : Int)), .v (plL P), .v (tL (d3 L)), .v (.int (k : Int))] := by
      walk_at "t"
      rw [ei]
      walk_at "t"
      rw [show ((x : Int) % 4) = ((x % 4 : Nat) : Int) from rfl, ix_abcd]
      walk_at "t"
      rw [ix_plL (by omega)]
      walk_at "t"
    show aftV _ ((sSeq (sTStore 3 (fTup (fCons (fBin gIx (fVar 2) (fBin gSub (fVar 4) (fC (.int 1)))) (fCons (fBin gIx (fC (.str (PySem.Str.ofString "abcd"))) (fBin gMod (fVar 1) (fC (.int 4)))) (fCons (fBin gIx (fVar 2) (fVar 4)) fNil)))) (fC (.bool true))) (sSet 1 (fBin gDiv (fVar 1) (fC (.int 4))))) [.v (.int (n : Int)), .v (.int (x : Int)), .v (plL P), .v (tL (d3 L)), .v (.int (k : Int))]) K = _
    rw [u_seq, store3 eg rfl (by omega), e]
    walk_at "t"
    rfl
abbrev stW (n x : Nat) (L : List Ar3) (M : List (Nat × Nat)) (s4 s5 s6 s7 : VS) : List VS := [.v (.int (n : Int)), .v (.int (x : Int)), .v (tL (d3 L)), .v (tL (d2 M)), s4, s5, s6, s7]
theorem oway_1 {n x : Nat} {L : List Ar3} (hl : L.length ≤ 6) : ∃ M, el_law_one_way_1 (stW n x L [] .un .un .un .un) = .nx (stW n x L M .un .un .un .un) := by
  unfold el_law_one_way_1 stW
  walk_at "t"
  rw [show (List.map (VI.one ∘ fun p : NestedKey × PyData => p.1.data) (d3 L)) = L.map fun a => VI.one (arD a) by rw [← List.map_map, data_d3, List.map_map]; rfl]
  generalize eF : forV _ _ _ _ _ = F
  have hF := for_allF eF (w := fun a => VI.one (arD a)) L (by first | rfl | rw [List.map_map]; rfl) (fun j vs => ∃ M, vs = stW n x L M .un .un .un .un ∧ M.length ≤ j) ⟨[], rfl, Nat.le_refl _⟩ ?_
  · obtain ⟨vs', rfl, M', rfl, h1⟩ := hF
    exact ⟨M', rfl⟩
  · rintro a ha j vs hj ⟨M, rfl, hM⟩
    obtain ⟨M', e, l⟩ := put2 (L := M) (a := (a.1, a.2.1))
    refine ⟨_, ⟨M', rfl, by omega⟩, fun K => ?_⟩
    have ea : arD a = .tuple [.int (a.1 : Int), mkD a.2.1, .int (a.2.2 : Int)] := rfl
    unfold stW
    walk_at "t"
    rw [ea]
    walk_at "t"
    rw [keyT2]
    walk_at "t"
    rw [d2_len, decide_eq_true (show M.length < 1000000 by omega)]
    rw [if_pos (show (true && Zx.imm (.bool true)) = true from rfl)]
    walk_at "t"
    rw [e]
theorem oway_2 {n x p : Nat} (n1 : 1 ≤ n) (n6 : n ≤ 6) (hp : p < n) {L : List Ar3} {M : List (Nat × Nat)} (hL : Rn n L) (hl : L.length ≤ 100) : ∃ x' L', el_law_one_way_2 (stW n x L M .un (.v (.int (p : Int))) .un .un) = .nx (stW n x' L' M .un (.v (.int (p : Int))) .un .un) ∧ Rn n L' ∧ L'.length ≤ L.length + 4 := by
  unfold el_law_one_way_2 stW
  walk_at "t"
  rw [abcd_its]
  generalize eF : forV _ _ _ _ _ = F
  have hF := for_allF eF (w := fun m => VI.one (mkD m)) [0, 1, 2, 3] rfl (fun j vs => ∃ x' L', vs = stW n x' L' M .un (.v (.int (p : Int))) .un .un ∧ Rn n L' ∧ L'.length ≤ L.length + j) ⟨x, L, rfl, hL, Nat.le_refl _⟩ ?_
  · obtain ⟨vs', rfl, x', L', rfl, h1, h2⟩ := hF
    exact ⟨x', L', rfl, h1, h2⟩
  · rintro m hm j vs hj ⟨x, L', rfl, hL, hl'⟩
    have hm : m < 4 := by simp at hm; omega
    have hj : j < 4 := hj
    have ed : ∀ vs, gDiv (.int (x : Int)) (.int (3 * (n : Int))) vs = .ok (.int ((x / (3 * n) : Nat) : Int)) vs := fun vs => by
      rw [show (3 * (n : Int)) = ((3 * n : Nat) : Int) by omega, n_div (by omega) (by omega)]
    have em : ∀ vs, gMod (.int (x : Int)) (.int (3 * (n : Int))) vs = .ok (.int ((x % (3 * n) : Nat) : Int)) vs := fun vs => by
      rw [show (3 * (n : Int)) = ((3 * n : Nat) : Int) by omega, n_mod (by omega)]
    have emu : ∀ vs, gMul (.int 3) (.int (n : Int)) vs = .ok (.int (3 * (n : Int))) vs := fun vs => by
      refine o_mul ?_
      have : n = 1 ∨ n = 2 ∨ n = 3 ∨ n = 4 ∨ n = 5 ∨ n = 6 := by omega
      rcases this with h | h | h | h | h | h <;> rw [h] <;> decide +kernel
    obtain ⟨q, hq⟩ : ∃ q, x % (3 * n) = q := ⟨_, rfl⟩
    have eq : (x : Int) % (3 * (n : Int)) = (q : Int) := by rw [← hq, Int.natCast_emod]; rfl
    have ed : (x : Int) / (3 * (n : Int)) = ((x / (3 * n) : Nat) : Int) := by rw [Int.natCast_ediv]; rfl
    by_cases h : q < n
    · by_cases h2 : (Zx.valT (d2 M) (k2 (p, m))).isSome = true
      · refine ⟨_, ⟨x / (3 * n), L', rfl, hL, by omega⟩, fun K => ?_⟩
        unfold stW
        walk_at "t"
        rw [emu]
        walk_at "t"
        rw [eq, emu]
        walk_at "t"
        rw [ed]
        try walk_at "t"
        rw [o_tin keyT2, h2]
        walk_at "t"
        rw [if_neg (show ¬ (true ^^ true) = true by decide)]
        walk_at "t"
      · obtain ⟨L2, e, l, hL2⟩ := put_ok hL (a := (p, m, q)) ⟨hp, hm, h⟩
        refine ⟨_, ⟨x / (3 * n), L2, rfl, hL2, by omega⟩, fun K => ?_⟩
        unfold stW
        walk_at "t"
        rw [emu]
        walk_at "t"
        rw [eq, emu]
        walk_at "t"
        rw [ed]
        try walk_at "t"
        rw [o_tin keyT2, Bool.eq_false_iff.mpr h2]
        walk_at "t"
        rw [keyT3]
        walk_at "t"
        rw [d3_len, decide_eq_true (show L'.length < 1000000 by omega)]
        rw [if_pos (show (true && Zx.imm (.bool true)) = true from rfl)]
        walk_at "t"
        rw [e]
    · refine ⟨_, ⟨x / (3 * n), L', rfl, hL, by omega⟩, fun K => ?_⟩
      unfold stW
      walk_at "t"
      rw [emu]
      walk_at "t"
      rw [eq, emu]
      walk_at "t"
      rw [ed]
theorem oway_3 {n x : Nat} (n1 : 1 ≤ n) (n6 : n ≤ 6) {L : List Ar3} {M : List (Nat × Nat)} (hL : Rn n L) (hl : L.length ≤ n) : ∃ x' L', el_law_one_way_3 (stW n x L M .un .un .un .un) = .nx (stW n x' L' M .un .un .un .un) ∧ Rn n L' ∧ L'.length ≤ 30 := by
  unfold el_law_one_way_3 stW
  walk_at "t"
  generalize eF : forV _ _ _ _ _ = F
  have hF := for_allF eF (w := fun (i : Nat) => VI.one (.int (0 + (i : Int)))) (List.range n) rfl (fun j vs => ∃ x' L', vs = stW n x' L' M .un .un .un .un ∧ Rn n L' ∧ L'.length ≤ n + 4 * j) ⟨x, L, rfl, hL, hl⟩ ?_
  · obtain ⟨vs', rfl, x', L', rfl, h1, h2⟩ := hF
    exact ⟨x', L', rfl, h1, by rw [List.length_range] at h2; omega⟩
  · rintro p hp j vs hj ⟨x, L, rfl, hL, hl⟩
    have hp := List.mem_range.mp hp
    rw [List.length_range] at hj
    obtain ⟨x', L', e, h1, h2⟩ := oway_2 (x := x) (M := M) n1 n6 hp hL (by omega)
    refine ⟨_, ⟨x', L', rfl, h1, by omega⟩, fun K => ?_⟩
    rw [show (0 + (p : Int)) = (p : Int) by omega]
    unfold stW at e ⊢
    walk_at "t"
    rw [e]
    walk_at "t"
theorem law_one_way_v {n x : Nat} (n1 : 1 ≤ n) (n6 : n ≤ 6) : ∃ L, w_law_one_way [.int (n : Int), .int (x : Int)] = .ok (tL (d3 L)) ∧ Rn n L ∧ L.length ≤ 30 := by
  obtain ⟨L, eL, hL, lL⟩ := law_ring_v (n := n) (x := x) n6
  obtain ⟨M, e1⟩ := oway_1 (n := n) (x := x / 10000000) (L := L) (by omega)
  obtain ⟨x', L', e2, h1, h2⟩ := oway_3 (x := x / 10000000) (M := M) n1 n6 hL lL
  refine ⟨L', ?_, h1, h2⟩
  unfold w_law_one_way em_law_one_way
  unfold stW at e1 e2
  walk_at "t"
  rw [eL]
  walk_at "t"
  rw [pw7]
  walk_at "t"
  rw [← Int.natCast_ediv, show (tL [] : PyData) = tL (d2 []) from rfl, e1]
  walk_at "t"
  rw [e2]
  walk_at "t"
theorem OkR.of {n : Nat} {L : List Ar3} (n1 : 1 ≤ n) (n6 : n ≤ 6) (h : Rn n L) (l : L.length ≤ 200) : OkR n (srA L) := OkR.sr ⟨n1, n6, h, l⟩
theorem srA_len {A : List Ar3} : (srA A).length = A.length := srA_perm.length_eq
theorem reader_v {x m : Nat} (m1 : 1 ≤ m) (m6 : m ≤ 6) : ∃ n A, w_law_reader [.int (x : Int), .int (m : Int)] = .ok (rd n A) ∧ OkR n A ∧ n ≤ m ∧ A.length ≤ 30 := by
  obtain ⟨n, en⟩ : ∃ n, 1 + x % m = n := ⟨_, rfl⟩
  have hlt := Nat.mod_lt x (show 0 < m by omega)
  have n1 : 1 ≤ n := by omega
  have n6 : n ≤ 6 := by omega
  have nm : n ≤ m := by omega
  have emu : ∀ vs, gMul (.int 4) (.int (m : Int)) vs = .ok (.int ((4 * m : Nat) : Int)) vs := fun vs => by
    rw [show ((4 * m : Nat) : Int) = 4 * (m : Int) by omega]
    refine o_mul ?_
    have : m = 1 ∨ m = 2 ∨ m = 3 ∨ m = 4 ∨ m = 5 ∨ m = 6 := by omega
    rcases this with h | h | h | h | h | h <;> rw [h] <;> decide +kernel
  have key : ∃ L, Rn n L ∧ L.length ≤ 30 ∧ w_law_reader [.int (x : Int), .int (m : Int)] = .ok (rd n (srA L)) := by
    unfold w_law_reader em_law_reader
    walk_at "t"
    obtain ⟨w, ew⟩ : ∃ w, x / m % 4 = w := ⟨_, rfl⟩
    have hw : w < 4 := by rw [← ew]; exact Nat.mod_lt _ (by decide)
    have c1 : (1 : Int) + (x : Int) % (m : Int) = (n : Int) := by rw [← Int.natCast_emod]; omega
    have c2 : (x : Int) / (m : Int) % 4 = (w : Int) := by rw [← Int.natCast_ediv]; omega
    rw [c1, c2, emu]
    walk_at "t"
    have c3 : (x : Int) / ((4 * m : Nat) : Int) = ((x / (4 * m) : Nat) : Int) := by rw [Int.natCast_ediv]
    rw [c3]
    clear c1 c2 c3
    generalize x / (4 * m) = y
    have : w = 0 ∨ w = 1 ∨ w = 2 ∨ w = 3 := by omega
    rcases this with h | h | h | h
    · subst h
      obtain ⟨L, e, h1, h2⟩ := law_more_v (L := []) (x := y) (r := 2) n6 (by decide) (by decide) (fun _ h => by cases h) (by decide)
      refine ⟨L, h1, h2, ?_⟩
      walk_at "t"
      unfold stM at e
      rw [show (tL [] : PyData) = tL (d3 []) from rfl, show (2 : Int) = ((2 : Nat) : Int) from rfl, e]
      walk_at "t"
      rw [sorted3]
      walk_at "t"
      rfl
    · subst h
      obtain ⟨L, e, h1, h2⟩ := law_more_v (L := []) (x := y) (r := 9) n6 (by decide) (by decide) (fun _ h => by cases h) (by decide)
      refine ⟨L, h1, h2, ?_⟩
      walk_at "t"
      unfold stM at e
      rw [show (tL [] : PyData) = tL (d3 []) from rfl, show (9 : Int) = ((9 : Nat) : Int) from rfl, e]
      walk_at "t"
      rw [sorted3]
      walk_at "t"
      rfl
    · subst h
      obtain ⟨L, e, h1, h2⟩ := law_one_way_v (x := y) n1 n6
      refine ⟨L, h1, h2, ?_⟩
      walk_at "t"
      rw [e]
      walk_at "t"
      rw [sorted3]
      walk_at "t"
      rfl
    · subst h
      obtain ⟨L0, e0, h01, h02⟩ := law_ring_v (x := y) n6
      obtain ⟨L, e, h1, h2⟩ := law_more_v (L := L0) (x := y / 10000000) (r := 11) n6 (by decide) (by decide) h01 (by omega)
      refine ⟨L, h1, h2, ?_⟩
      walk_at "t"
      rw [e0]
      walk_at "t"
      rw [pw7]
      walk_at "t"
      unfold stM at e
      rw [← Int.natCast_ediv, more_eq, show (11 : Int) = ((11 : Nat) : Int) from rfl, e]
      walk_at "t"
      rw [sorted3]
      walk_at "t"
      rfl
  obtain ⟨L, h1, h2, e⟩ := key
  exact ⟨n, srA L, e, OkR.of n1 n6 h1 (by omega), nm, by rw [srA_len]; exact h2⟩
theorem ix_rd0 {n : Nat} {A : List Ar3} {vs : List VS} : gIx (rd n A) (.int 0) vs = .ok (.int (n : Int)) vs := by
  unfold rd
  walk_at "t"
theorem ix_rd1 {n : Nat} {A : List Ar3} {vs : List VS} : gIx (rd n A) (.int 1) vs = .ok (arL A) vs := by
  unfold rd
  walk_at "t"
theorem mk_ok {m : Nat} (h : m < 4) : PyData.strOk (tx [97 + m]) = true := tx_ok fun c hc => by
  rw [List.mem_singleton.mp hc]; omega
theorem Fn_ar {n : Nat} {A : List Ar3} (R : OkR n A) : Fn 2 (arL A) := Fn_lst (FnL_map fun a ha => Fn_tup (k := 0) (FnL_cons Fn_int (FnL_cons (Fn_str (mk_ok (R.rng a ha).2.1)) (FnL_cons Fn_int FnL_nil))))
theorem big_n {ns : List Int} {k : Int} (h0 : 0 ≤ k) : ∃ b : Nat, w_law_big [eI ns, .int k] = .ok (.int (b : Int)) := by
  obtain ⟨b, hb, e⟩ := big_v (ns := ns) h0
  obtain ⟨c, rfl⟩ := Int.eq_ofNat_of_zero_le hb
  exact ⟨c, e⟩
theorem Fn_rd {n : Nat} {A : List Ar3} (R : OkR n A) : Fn 64 (rd n A) := (Fn_tup (k := 2) (FnL_cons Fn_int (FnL_cons (Fn_ar R) FnL_nil))).mono (by decide)
theorem copy_v {A : List Ar3} {vs : List VS} : gList [arL A] vs = .ok (arL A) vs := by
  unfold arL
  walk_at "t"
def bt (P : List Nat) (x : Nat) : Nat := if x ∈ P then 1 else 0
theorem bt_le {P : List Nat} {x : Nat} : bt P x ≤ 1 := by unfold bt; split <;> omega
theorem bt_eq {P Q : List Nat} {x : Nat} (h : bt P x = bt Q x) : x ∈ P ↔ x ∈ Q := by
  unfold bt at h
  by_cases h1 : x ∈ P <;> by_cases h2 : x ∈ Q <;> simp [h1, h2] at h ⊢
def code (P : List Nat) : Nat := bt P 0 + 2 * bt P 1 + 4 * bt P 2 + 8 * bt P 3 + 16 * bt P 4 + 32 * bt P 5
theorem code_lt {P : List Nat} : code P < 64 := by
  unfold code
  have := bt_le (P := P) (x := 0)
  have := bt_le (P := P) (x := 1)
  have := bt_le (P := P) (x := 2)
  have := bt_le (P := P) (x := 3)
  have := bt_le (P := P) (x := 4)
  have := bt_le (P := P) (x := 5)
  omega
theorem sorted_ext {P Q : List Nat} (h1 : P.Pairwise (· < ·)) (h2 : Q.Pairwise (· < ·)) (h : ∀ x, x ∈ P ↔ x ∈ Q) : P = Q := by
  have pm : P.Perm Q := (List.perm_ext_iff_of_nodup (h1.imp fun h => Nat.ne_of_lt h) (h2.imp fun h => Nat.ne_of_lt h)).mpr h
  exact List.Perm.eq_of_pairwise (fun a b _ _ h1 h2 => absurd h1 (by omega)) h1 h2 pm
theorem code_inj {P Q : List Nat} (hP : Pls P) (hQ : Pls Q) (h : code P = code Q) : P = Q := by
  have e : ∀ x, x < 6 → bt P x = bt Q x := by
    unfold code at h
    have p0 := bt_le (P := P) (x := 0)
    have p1 := bt_le (P := P) (x := 1)
    have p2 := bt_le (P := P) (x := 2)
    have p3 := bt_le (P := P) (x := 3)
    have p4 := bt_le (P := P) (x := 4)
    have p5 := bt_le (P := P) (x := 5)
    have q0 := bt_le (P := Q) (x := 0)
    have q1 := bt_le (P := Q) (x := 1)
    have q2 := bt_le (P := Q) (x := 2)
    have q3 := bt_le (P := Q) (x := 3)
    have q4 := bt_le (P := Q) (x := 4)
    have q5 := bt_le (P := Q) (x := 5)
    have z0 : bt P 0 = bt Q 0 := by omega
    have z1 : bt P 1 = bt Q 1 := by omega
    have z2 : bt P 2 = bt Q 2 := by omega
    have z3 : bt P 3 = bt Q 3 := by omega
    have z4 : bt P 4 = bt Q 4 := by omega
    have z5 : bt P 5 = bt Q 5 := by omega
    intro x hx
    match x, hx with
    | 0, _ => exact z0
    | 1, _ => exact z1
    | 2, _ => exact z2
    | 3, _ => exact z3
    | 4, _ => exact z4
    | 5, _ => exact z5
  refine sorted_ext hP.pw hQ.pw fun x => ?_
  by_cases hx : x < 6
  · exact bt_eq (e x hx)
  · exact ⟨fun z => absurd (hP.lt x z) hx, fun z => absurd (hQ.lt x z) hx⟩
def nkL (P : List Nat) : NestedKey := .tup (P.map fun (i : Nat) => .num (i : Int))
def tuL (P : List Nat) : PyData := .tuple ((pI P).map PyData.int)
theorem kNs_P : ∀ {P : List Nat}, Zx.kNs ((pI P).map PyData.int) = some (P.map fun (i : Nat) => NestedKey.num (i : Int))
  | [] => by unfold Zx.kNs; rfl
  | p :: P => by
    show Zx.kNs (.int (p : Int) :: (pI P).map PyData.int) = _
    unfold Zx.kNs
    rw [show Zx.kN (.int (p : Int)) = some (.num (p : Int)) by unfold Zx.kN; rfl, kNs_P]; rfl
theorem dep_P : ∀ {P : List Nat}, NestedKey.depthAll (P.map fun (i : Nat) => NestedKey.num (i : Int)) = 0
  | [] => by unfold NestedKey.depthAll; rfl
  | p :: P => by
    rw [List.map_cons]
    unfold NestedKey.depthAll
    rw [dep_P]
    unfold NestedKey.depth
    rfl
theorem num_inj : ∀ {P Q : List Nat}, (P.map fun (i : Nat) => NestedKey.num (i : Int)) = (Q.map fun (i : Nat) => NestedKey.num (i : Int)) → P = Q
  | [], [], _ => rfl
  | [], q :: Q, h => by cases h
  | p :: P, [], h => by cases h
  | p :: P, q :: Q, h => by
    rw [List.map_cons, List.map_cons] at h
    obtain ⟨h1, h2⟩ := List.cons.inj h
    have h1 := NestedKey.num.inj h1
    rw [show p = q by omega, num_inj h2]
theorem nk_inj {P Q : List Nat} (h : nkL P = nkL Q) : P = Q := num_inj (NestedKey.tup.inj h)
theorem tup_plL {P : List Nat} {vs : List VS} : gTuple [plL P] vs = .ok (tuL P) vs := by
  unfold plL tuL
  walk_at "t"
theorem marks_its : [PyData.str (PySem.Str.ofString "a"), .str (PySem.Str.ofString "b"), .str (PySem.Str.ofString "c"), .str (PySem.Str.ofString "d")] = [0, 1, 2, 3].map mkD := by
  rw [show PySem.Str.ofString "a" = tx [97] by decide +kernel, show PySem.Str.ofString "b" = tx [98] by decide +kernel, show PySem.Str.ofString "c" = tx [99] by decide +kernel, show PySem.Str.ofString "d" = tx [100] by decide +kernel]
  rfl
theorem marks_its2 : [VI.one (PyData.str (PySem.Str.ofString "a")), .one (.str (PySem.Str.ofString "b")), .one (.str (PySem.Str.ofString "c")), .one (.str (PySem.Str.ofString "d"))] = [0, 1, 2, 3].map fun m => VI.one (mkD m) := by
  have h := congrArg (List.map VI.one) marks_its
  exact h
theorem aug_one {a : Nat} {vs : List VS} : gI (fun _ _ => true) (fun a b => PyData.int (iAdd a b)) (.int (a : Int)) (.int 1) vs = .ok (.int ((a + 1 : Nat) : Int)) vs := by
  show VR.ok (PyData.int (iAdd (a : Int) 1)) vs = _
  unfold iAdd
  rw [show ((a : Int) + 1) = ((a + 1 : Nat) : Int) by omega]
abbrev SA := List (List Nat) × List Ar3
def pu (S : List (List Nat)) (t : List Nat) : List (List Nat) := if t ∈ S then S else S ++ [t]
def stq (n : Nat) (A : List Ar3) (a : Nat) (P : List Nat) (X : SA) (m : Nat) : SA :=
  if bh n A P m = [] then X else (pu X.1 (bh n A P m), X.2 ++ [(a, m, (pu X.1 (bh n A P m)).idxOf (bh n A P m))])
def sms (n : Nat) (A : List Ar3) (a : Nat) (P : List Nat) (ms : List Nat) (X : SA) : SA := ms.foldl (stq n A a P) X
def runS (n : Nat) (A : List Ar3) : Nat → Nat → SA → SA
  | 0, _, X => X
  | f + 1, a, X => match X.1[a]? with
    | some P => runS n A f (a + 1) (sms n A a P [0, 1, 2, 3] X)
    | none => X
def sts (n : Nat) (A : List Ar3) : SA := runS n A 9999 0 ([List.range n], [])
structure SOk (n : Nat) (X : SA) : Prop where
  nd : X.1.Nodup
  pl : ∀ P ∈ X.1, Pls P
  lt : ∀ P ∈ X.1, ∀ i ∈ P, i < n
  ar : ∀ b ∈ X.2, b.2.1 < 4
theorem few_sets {S : List (List Nat)} (nd : S.Nodup) (h : ∀ P ∈ S, Pls P) : S.length ≤ 64 := by
  have : (S.map code).Nodup := by
    rw [List.Nodup, List.pairwise_map]
    exact List.Pairwise.imp_of_mem (fun {a b} ma mb hab e => hab (code_inj (h a ma) (h b mb) e)) nd
  have := nd_lt (n := 64) this fun x hx => by
    obtain ⟨p, _, rfl⟩ := List.mem_map.mp hx
    exact code_lt
  rwa [List.length_map] at this
theorem SOk.few {n : Nat} {X : SA} (h : SOk n X) : X.1.length ≤ 64 := few_sets h.nd h.pl
theorem mem_pu {S : List (List Nat)} {t P : List Nat} : P ∈ pu S t ↔ P ∈ S ∨ P = t := by
  unfold pu
  by_cases h : t ∈ S
  · rw [if_pos h]
    exact ⟨.inl, fun z => z.elim id fun e => by rw [e]; exact h⟩
  · rw [if_neg h, List.mem_append, List.mem_singleton]
theorem nd_pu {S : List (List Nat)} {t : List Nat} (nd : S.Nodup) : (pu S t).Nodup := by
  unfold pu
  by_cases h : t ∈ S
  · rw [if_pos h]; exact nd
  · rw [if_neg h, List.nodup_append]
    exact ⟨nd, List.pairwise_singleton _ _, fun a ha b hb e => h (by rw [List.mem_singleton.mp hb] at e; rw [← e]; exact ha)⟩
theorem at_pu {S : List (List Nat)} {t P : List Nat} {a : Nat} (h : S[a]? = some P) : (pu S t)[a]? = some P := by
  unfold pu
  by_cases c : t ∈ S
  · rw [if_pos c]; exact h
  · rw [if_neg c, List.getElem?_append_left (List.getElem?_eq_some_iff.mp h).1]; exact h
theorem SOk.st {n : Nat} {A : List Ar3} {a m : Nat} {P : List Nat} {X : SA} (n6 : n ≤ 6) (hm : m < 4) (h : SOk n X) : SOk n (stq n A a P X m) ∧ (stq n A a P X m).2.length ≤ X.2.length + 1 ∧ X.1.length ≤ (stq n A a P X m).1.length ∧ ∀ (b : Nat) (Q : List Nat), X.1[b]? = some Q → (stq n A a P X m).1[b]? = some Q := by
  unfold stq
  by_cases c : bh n A P m = []
  · rw [if_pos c]
    exact ⟨h, Nat.le_succ _, Nat.le_refl _, fun _ _ e => e⟩
  · rw [if_neg c]
    refine ⟨⟨nd_pu h.nd, fun Q hQ => (mem_pu.mp hQ).elim (h.pl Q) fun e => by rw [e]; exact bh_pls n6, fun Q hQ i hi => (mem_pu.mp hQ).elim (fun z => h.lt Q z i hi) fun e => by rw [e] at hi; exact (mem_bh.mp hi).1, fun b hb => ?_⟩, ?_, ?_, fun b Q e => at_pu e⟩
    · rcases List.mem_append.mp hb with z | z
      · exact h.ar b z
      · rw [List.mem_singleton.mp z]; exact hm
    · show (X.2 ++ [_]).length ≤ _
      rw [List.length_append]; exact Nat.le_refl _
    · show _ ≤ (pu X.1 _).length
      unfold pu
      split
      · exact Nat.le_refl _
      · rw [List.length_append]; omega
theorem SOk.sms {n : Nat} {A : List Ar3} {a : Nat} {P : List Nat} (n6 : n ≤ 6) : ∀ {ms : List Nat} {X : SA}, (∀ m ∈ ms, m < 4) → SOk n X → SOk n (sms n A a P ms X) ∧ (Gn.V.sms n A a P ms X).2.length ≤ X.2.length + ms.length ∧ X.1.length ≤ (Gn.V.sms n A a P ms X).1.length
  | [], X, _, h => ⟨h, Nat.le_refl _, Nat.le_refl _⟩
  | m :: ms, X, hm, h => by
    obtain ⟨o1, o2, o3, _⟩ := h.st (A := A) (a := a) (P := P) n6 (hm m List.mem_cons_self)
    obtain ⟨p1, p2, p3⟩ := SOk.sms n6 (ms := ms) (A := A) (a := a) (P := P) (fun m z => hm m (List.mem_cons_of_mem _ z)) o1
    exact ⟨p1, by rw [List.length_cons]; exact Nat.le_trans p2 (by omega), Nat.le_trans o3 p3⟩
theorem SOk.start {n : Nat} (n6 : n ≤ 6) : SOk n ([List.range n], []) where
  nd := List.pairwise_singleton _ _
  pl P hP := by rw [List.mem_singleton.mp hP]; exact rng_pls n6
  lt P hP i hi := by rw [List.mem_singleton.mp hP] at hi; exact List.mem_range.mp hi
  ar b hb := by cases hb
def setsD (S : List (List Nat)) : PyData := .list (S.map plL)
def resS (X : SA) : PyData := .tuple [setsD X.1, .tuple [.int (X.1.length : Int), arL X.2]]
def numD : Nat → List (List Nat) → List (NestedKey × PyData)
  | _, [] => []
  | k, P :: S => (nkL P, .int (k : Int)) :: numD (k + 1) S
theorem numD_len : ∀ {S : List (List Nat)} {k : Nat}, (numD k S).length = S.length
  | [], _ => rfl
  | _ :: S, k => by unfold numD; rw [List.length_cons, List.length_cons, numD_len]
theorem numD_app : ∀ {S : List (List Nat)} {P : List Nat} {k : Nat}, numD k (S ++ [P]) = numD k S ++ [(nkL P, .int ((k + S.length : Nat) : Int))]
  | [], _, _ => rfl
  | Q :: S, P, k => by
    rw [List.cons_append]
    unfold numD
    rw [numD_app, List.length_cons, List.cons_append, show k + 1 + S.length = k + (S.length + 1) by omega]
theorem idx_ne {Q P : List Nat} {S : List (List Nat)} (h : Q ≠ P) : (Q :: S).idxOf P = S.idxOf P + 1 := by
  rw [List.idxOf_cons, show (Q == P) = false from by simpa using h]; rfl
theorem val_num {P : List Nat} : ∀ {S : List (List Nat)} {k : Nat}, Zx.valT (numD k S) (nkL P) = if P ∈ S then some (.int ((k + S.idxOf P : Nat) : Int)) else none
  | [], _ => rfl
  | Q :: S, k => by
    have ih := val_num (P := P) (S := S) (k := k + 1)
    unfold Zx.valT at ih ⊢
    unfold numD
    rw [List.find?_cons]
    by_cases h : Q = P
    · subst h
      dsimp only
      rw [decide_eq_true rfl, if_pos List.mem_cons_self, List.idxOf_cons_self]; rfl
    · dsimp only
      rw [decide_eq_false (fun z => h (nk_inj z))]
      dsimp only
      rw [ih, idx_ne h]
      by_cases c : P ∈ S
      · rw [if_pos c, if_pos (List.mem_cons_of_mem _ c), show k + 1 + S.idxOf P = k + (S.idxOf P + 1) by omega]
      · rw [if_neg c, if_neg (fun z => (List.mem_cons.mp z).elim (fun e => h e.symm) c)]
theorem put_num {S : List (List Nat)} {P : List Nat} (h : P ∉ S) : Zx.putT (numD 0 S) (nkL P) (.int (S.length : Int)) = numD 0 (S ++ [P]) := by
  unfold Zx.putT
  rw [val_num, if_neg h, numD_app, Nat.zero_add]
  rfl
theorem keyT_tu {P : List Nat} : keyT (tuL P) = some (nkL P) := by
  refine kt_t kNs_P ?_
  have e : (nkL P).depth = 1 := by
    unfold nkL NestedKey.depth
    rw [dep_P]
  unfold nkL at e
  rw [e]
  all_goals decide
theorem ix_sets {S : List (List Nat)} {a : Nat} {P : List Nat} {vs : List VS} (e : S[a]? = some P) : gIxO (setsD S) (.int (a : Int)) vs = .ok (plL P) vs := by
  unfold setsD
  walk_at "t"
  rw [atI_0 (by omega), Int.toNat_natCast, List.getElem?_map, e]
  all_goals rfl
theorem ix_sets1 {S : List (List Nat)} {a : Nat} {P : List Nat} {vs : List VS} (e : S[a]? = some P) : gIx (setsD S) (.int (a : Int)) vs = .ok (plL P) vs := by
  unfold setsD
  walk_at "t"
  rw [atI_0 (by omega), Int.toNat_natCast, List.getElem?_map, e]
  all_goals rfl
theorem len_sets {S : List (List Nat)} {vs : List VS} : gLen [setsD S] vs = .ok (.int (S.length : Int)) vs := by
  unfold setsD
  walk_at "t"
  all_goals rw [List.length_map]
theorem Fn_pl {P : List Nat} : Fn 1 (plL P) := Fn_lst (k := 0) (FnL_map fun _ _ => Fn_int)
theorem Fn_sets {S : List (List Nat)} : Fn 2 (setsD S) := Fn_lst (k := 1) (FnL_map fun _ _ => Fn_pl)
theorem eqv_plL {P Q : List Nat} : PyData.eqv (plL P) (plL Q) = decide (P = Q) := by
  have h := Zx.eqv_eI (pI P) (pI Q)
  rw [show PyData.eqv (plL P) (plL Q) = decide (pI P = pI Q) from h]
  by_cases e : P = Q
  · rw [decide_eq_true e, e, decide_eq_true rfl]
  · rw [decide_eq_false e]
    refine decide_eq_false fun z => e ?_
    have inj : ∀ {P Q : List Nat}, pI P = pI Q → P = Q := by
      intro P
      induction P with
      | nil => intro Q h; cases Q with
        | nil => rfl
        | cons q Q => cases h
      | cons p P ih => intro Q h; cases Q with
        | nil => cases h
        | cons q Q =>
          obtain ⟨h1, h2⟩ := List.cons.inj h
          have h1 : (p : Int) = (q : Int) := h1
          rw [ih h2, show p = q by omega]
    exact inj z
theorem in_sets {neg : Bool} {t : List Nat} {S : List (List Nat)} {vs : List VS} : gInD neg (plL t) (setsD S) vs = .ok (.bool (neg ^^ decide (t ∈ S))) vs := by
  rw [show setsD S = .list (S.map plL) from rfl, o_inD (Fn_pl.mono (by decide)) (Fn_sets.mono (by decide))]
  congr 3
  rw [Bool.eq_iff_iff, List.any_eq_true, decide_eq_true_eq]
  constructor
  · rintro ⟨y, hy, e⟩
    obtain ⟨q, hq, rfl⟩ := List.mem_map.mp hy
    rw [eqv_plL, decide_eq_true_eq] at e
    rw [← e]; exact hq
  · exact fun h => ⟨plL t, List.mem_map_of_mem h, by rw [eqv_plL]; exact decide_eq_true rfl⟩
theorem find_pl {t : List Nat} : ∀ {S : List (List Nat)}, t ∈ S → (S.map plL).findIdx? (fun z => PyData.eqv z (plL t)) = some (S.idxOf t)
  | [], h => by cases h
  | Q :: S, h => by
    rw [List.map_cons, List.findIdx?_cons, eqv_plL]
    by_cases e : Q = t
    · subst e
      rw [decide_eq_true rfl, if_pos rfl, List.idxOf_cons_self]
    · rw [decide_eq_false e, if_neg (by decide), find_pl ((List.mem_cons.mp h).elim (fun z => absurd z.symm e) id), idx_ne e]
      rfl
theorem idx_sets {t : List Nat} {S : List (List Nat)} (h : t ∈ S) : Zx.idxD (setsD S) (plL t) = some (S.idxOf t) := by
  unfold Zx.idxD setsD
  dsimp only
  have f := Fn_sets (S := S)
  unfold setsD at f
  rw [if_pos, find_pl h]
  have g := Fn_pl (P := t)
  rw [f.n, g.n, (f.mono (by decide) : Fn 64 _).shaped, (g.mono (by decide) : Fn 64 _).shaped]; rfl
noncomputable def tlS : VF := (sIf (fTst (fBin (gEq true) (fVar 7) (fLst false 1 fNil))) (sExpr (fApp 4 (fTup (fCons (fVar 5) (fCons (fVar 6) (fCons (fTGet (fVar 3) (fCB gTuple (fCons (fVar 7) fNil))) fNil)))))) sNext)
noncomputable def bdS : VF := (sSeq (sSet 7 (fCall w_places_by (fCons (fVar 1) (fCons (fBin gIxO (fVar 2) (fVar 5)) (fCons (fVar 6) fNil)))))
    (sIf (fAndT (fTst (fBin (gEq true) (fVar 7) (fLst false 1 fNil))) (fTst (fTIn true (fCB gTuple (fCons (fVar 7) fNil)) (fVar 3)))) (sSeq (sTStore 3 (fCB gTuple (fCons (fVar 7) fNil)) (fCB gLen (fCons (fVar 2) fNil))) (sPush 2 7 tlS)) tlS))
theorem bdS_eq : el_sets_of_1 = sFor (iTupl (fC (.tuple [.str (PySem.Str.ofString "a"), .str (PySem.Str.ofString "b"), .str (PySem.Str.ofString "c"), .str (PySem.Str.ofString "d")]))) (.nm 6) bdS := rfl
theorem num_get {t : List Nat} {S : List (List Nat)} {vs : List VS} (h : t ∈ S) : tGet (tL (numD 0 S)) (tuL t) vs = .ok (.int ((S.idxOf t : Nat) : Int)) vs := by
  refine o_tget keyT_tu ?_ rfl
  rw [val_num, if_pos h, Nat.zero_add]
theorem tlS_v {v0 v1 v2 : VS} {S : List (List Nat)} {Ar : List Ar3} {a m x : Nat} {F : List Nat} (h : (x :: F) ∈ S) (hl : Ar.length ≤ 1000) :
    tlS [v0, v1, v2, .v (tL (numD 0 S)), .v (.list (Ar.map arD)), .v (.int (a : Int)), .v (mkD m), .v (plL (x :: F))] = .nx [v0, v1, v2, .v (tL (numD 0 S)), .v (.list ((Ar ++ [(a, m, S.idxOf (x :: F))]).map arD)), .v (.int (a : Int)), .v (mkD m), .v (plL (x :: F))] := by
  unfold tlS
  walk_at "t"
  rw [nCt]
  walk_at "t"
  rw [tup_plL]
  walk_at "t"
  rw [num_get h]
  walk_at "t"
  rw [List.map_append]
  rfl
theorem turn_prog {n : Nat} {A : List Ar3} (R : OkR n A) {x0 x1 x2 x3 x4 x5 : PyData} {S : List (List Nat)} {Ar : List Ar3} {P : List Nat} {a m : Nat} {K : List VS → VO} (h : SOk n (S, Ar)) (hP : S[a]? = some P) (hm : m < 4) (hA : Ar.length ≤ 900) :
    turnV [.v x0, .v x1, .v x2, .v x3, .v x4, .v x5, .un, .un] (.nm 6) bdS (VI.one (mkD m)) [.v (rd n A), .v (netL n A), .v (setsD S), .v (tL (numD 0 S)), .v (.list (Ar.map arD)), .v (.int (a : Int)), .un, .un] K =
      K [.v (rd n A), .v (netL n A), .v (setsD (stq n A a P (S, Ar) m).1), .v (tL (numD 0 (stq n A a P (S, Ar) m).1)), .v (.list ((stq n A a P (S, Ar) m).2.map arD)), .v (.int (a : Int)), .un, .un] := by
  have hS : S.length ≤ 64 := h.few
  unfold bdS
  walk_at "t"
  rw [ix_sets hP]
  walk_at "t"
  rw [places_by_v R (h.lt P (List.mem_of_getElem? hP))]
  unfold stq
  generalize eF : bh n A P m = F
  cases F with
  | nil =>
    walk_at "t"
    rw [n0t]
    walk_at "t"
    unfold tlS
    walk_at "t"
    rw [n0t]
    walk_at "t"
    all_goals rfl
  | cons x F =>
    walk_at "t"
    rw [nCt]
    walk_at "t"
    rw [tup_plL]
    walk_at "t"
    rw [o_tin keyT_tu, val_num, if_neg (List.cons_ne_nil _ _)]
    unfold pu
    by_cases c : (x :: F) ∈ S
    · rw [if_pos c, if_pos c]
      walk_at "t"
      rw [tlS_v c (by omega)]
      rfl
    · rw [if_neg c, if_neg c]
      walk_at "t"
      rw [len_sets]
      walk_at "t"
      rw [tup_plL]
      walk_at "t"
      rw [keyT_tu]
      walk_at "t"
      rw [if_pos (by rw [Bool.and_eq_true]; exact ⟨decide_eq_true (by rw [numD_len]; omega), rfl⟩), put_num c]
      walk_at "t"
      have hp : sPush 2 7 tlS [VS.v (rd n A), .v (netL n A), .v (setsD S), .v (tL (numD 0 (S ++ [x :: F]))), .v (.list (Ar.map arD)), .v (.int (a : Int)), .v (mkD m), .v (plL (x :: F))] = _ :=
        o_push (S := S.map plL) (P0 := (x :: F).map fun (i : Nat) => PyData.int (i : Int)) (P := (pI (x :: F)).map PyData.int) rfl (by unfold plL; rw [List.map_map]; rfl) (by rw [List.length_map]; unfold Zx.lim; omega) (tlS_v (v0 := .v (rd n A)) (v1 := .v (netL n A)) (v2 := .un) (List.mem_append_right _ List.mem_cons_self) (by omega)) rfl rfl
      rw [hp]
      walk_at "t"
      unfold setsD plL
      simp only [List.map_append, List.map_cons, List.map_nil, List.map_map]
      all_goals rfl
noncomputable def bdL : VF := (sSeq (sSet 5 (fCall w_law_behind (fCons (fVar 0) (fCons (fBin gIx (fVar 1) (fVar 3)) (fCons (fVar 4) fNil)))))
    (sIf (fTst (fBin (gEq true) (fVar 5) (fLst false 1 fNil))) (sSeq (sIf (fTst (fBin (gInD true) (fVar 5) (fVar 1))) (sExpr (fApp 1 (fVar 5))) sNext)
    (sExpr (fApp 2 (fTup (fCons (fVar 3) (fCons (fVar 4) (fCons (fIdx (fVar 1) (fVar 5)) fNil))))))) sNext))
theorem bdL_eq : el_law_due_1 = sFor (iStr (fC (.str (PySem.Str.ofString "abcd")))) (.nm 4) bdL := rfl
theorem turn_law {n : Nat} {A : List Ar3} (R : OkR n A) {x0 x1 x2 x3 : PyData} {S : List (List Nat)} {Ar : List Ar3} {P : List Nat} {a m : Nat} {K : List VS → VO} (h : SOk n (S, Ar)) (hP : S[a]? = some P) (hm : m < 4) (hA : Ar.length ≤ 900) :
    turnV [.v x0, .v x1, .v x2, .v x3, .un, .un] (.nm 4) bdL (VI.one (mkD m)) [.v (rd n A), .v (setsD S), .v (.list (Ar.map arD)), .v (.int (a : Int)), .un, .un] K =
      K [.v (rd n A), .v (setsD (stq n A a P (S, Ar) m).1), .v (.list ((stq n A a P (S, Ar) m).2.map arD)), .v (.int (a : Int)), .un, .un] := by
  have hS : S.length ≤ 64 := h.few
  unfold bdL
  walk_at "t"
  rw [ix_sets1 hP]
  walk_at "t"
  rw [law_behind_v R hm]
  unfold stq
  generalize eF : bh n A P m = F
  cases F with
  | nil =>
    walk_at "t"
    rw [n0t]
    walk_at "t"
    all_goals rfl
  | cons x F =>
    walk_at "t"
    rw [nCt]
    walk_at "t"
    rw [in_sets, if_neg (List.cons_ne_nil _ _)]
    unfold pu
    by_cases c : (x :: F) ∈ S
    · rw [decide_eq_true c, if_pos c, show (true ^^ true) = false from rfl]
      walk_at "t"
      have e := idx_sets c
      unfold setsD at e ⊢
      walk_at "t"
      rw [e]
      walk_at "t"
      rw [List.map_append]
      rfl
    · rw [decide_eq_false c, if_neg c, show (true ^^ false) = true from rfl]
      have e := idx_sets (t := x :: F) (S := S ++ [x :: F]) (List.mem_append_right _ List.mem_cons_self)
      unfold setsD at e ⊢
      rw [List.map_append] at e ⊢
      walk_at "t"
      rw [show ([x :: F] : List (List Nat)).map plL = [plL (x :: F)] from rfl] at e
      rw [e]
      walk_at "t"
      rw [List.map_append]
      rfl
theorem marks_prog {n : Nat} {A : List Ar3} (R : OkR n A) {x0 x1 x2 x3 x4 x5 : PyData} {P : List Nat} {a : Nat} : ∀ {ms : List Nat} {X : SA}, (∀ m ∈ ms, m < 4) → SOk n X → X.1[a]? = some P → X.2.length + ms.length ≤ 900 →
    forV [.v x0, .v x1, .v x2, .v x3, .v x4, .v x5, .un, .un] (.nm 6) bdS (ms.map fun m => VI.one (mkD m)) [.v (rd n A), .v (netL n A), .v (setsD X.1), .v (tL (numD 0 X.1)), .v (.list (X.2.map arD)), .v (.int (a : Int)), .un, .un] =
      .nx [.v (rd n A), .v (netL n A), .v (setsD (sms n A a P ms X).1), .v (tL (numD 0 (sms n A a P ms X).1)), .v (.list ((sms n A a P ms X).2.map arD)), .v (.int (a : Int)), .un, .un]
  | [], X, _, _, _, _ => rfl
  | m :: ms, X, hm, ok, hP, hl => by
    rw [List.length_cons] at hl
    rw [List.map_cons, for_c, turn_prog R (S := X.1) (Ar := X.2) ok hP (hm m List.mem_cons_self) (by omega)]
    obtain ⟨o1, o2, _, o4⟩ := ok.st (A := A) (a := a) (P := P) R.n6 (hm m List.mem_cons_self)
    have o2 : (stq n A a P (X.1, X.2) m).2.length ≤ X.2.length + 1 := o2
    exact marks_prog R (fun m z => hm m (List.mem_cons_of_mem _ z)) o1 (o4 a P hP) (by omega)
theorem marks_law {n : Nat} {A : List Ar3} (R : OkR n A) {x0 x1 x2 x3 : PyData} {P : List Nat} {a : Nat} : ∀ {ms : List Nat} {X : SA}, (∀ m ∈ ms, m < 4) → SOk n X → X.1[a]? = some P → X.2.length + ms.length ≤ 900 →
    forV [.v x0, .v x1, .v x2, .v x3, .un, .un] (.nm 4) bdL (ms.map fun m => VI.one (mkD m)) [.v (rd n A), .v (setsD X.1), .v (.list (X.2.map arD)), .v (.int (a : Int)), .un, .un] =
      .nx [.v (rd n A), .v (setsD (sms n A a P ms X).1), .v (.list ((sms n A a P ms X).2.map arD)), .v (.int (a : Int)), .un, .un]
  | [], X, _, _, _, _ => rfl
  | m :: ms, X, hm, ok, hP, hl => by
    rw [List.length_cons] at hl
    rw [List.map_cons, for_c, turn_law R (S := X.1) (Ar := X.2) ok hP (hm m List.mem_cons_self) (by omega)]
    obtain ⟨o1, o2, _, o4⟩ := ok.st (A := A) (a := a) (P := P) R.n6 (hm m List.mem_cons_self)
    have o2 : (stq n A a P (X.1, X.2) m).2.length ≤ X.2.length + 1 := o2
    exact marks_law R (fun m z => hm m (List.mem_cons_of_mem _ z)) o1 (o4 a P hP) (by omega)
def Sof (n : Nat) (A : List Ar3) (M a : Nat) (X : SA) : Prop := SOk n X ∧ a ≤ X.1.length ∧ a + M = 9999 ∧ X.2.length ≤ 4 * a ∧ runS n A M a X = sts n A
theorem Sof.start {n : Nat} {A : List Ar3} (n6 : n ≤ 6) : Sof n A 9999 0 ([List.range n], []) := ⟨SOk.start n6, Nat.zero_le _, rfl, Nat.le_refl _, rfl⟩
theorem Sof.step {n : Nat} {A : List Ar3} {M a : Nat} {X : SA} {P : List Nat} (n6 : n ≤ 6) (h : Sof n A (M + 1) a X) (e : X.1[a]? = some P) : Sof n A M (a + 1) (sms n A a P [0, 1, 2, 3] X) := by
  obtain ⟨h1, h2, h3, h4, h5⟩ := h
  obtain ⟨o1, o2, o3⟩ := h1.sms (A := A) (a := a) (P := P) n6 (ms := [0, 1, 2, 3]) (by decide)
  have ha := (List.getElem?_eq_some_iff.mp e).1
  refine ⟨o1, by omega, by omega, ?_, ?_⟩
  · have : ([0, 1, 2, 3] : List Nat).length = 4 := rfl
    omega
  · rw [← h5]
    show _ = (match X.1[a]? with | some P => runS n A M (a + 1) (sms n A a P [0, 1, 2, 3] X) | none => X)
    rw [e]
theorem Sof.stop {n : Nat} {A : List Ar3} {M a : Nat} {X : SA} (h : Sof n A (M + 1) a X) (e : ¬ a < X.1.length) : X = sts n A := by
  obtain ⟨h1, h2, h3, h4, h5⟩ := h
  rw [← h5]
  show _ = (match X.1[a]? with | some P => runS n A M (a + 1) (sms n A a P [0, 1, 2, 3] X) | none => X)
  rw [List.getElem?_eq_none (by omega)]
theorem sets_of_v {n : Nat} {A : List Ar3} (R : OkR n A) : w_sets_of [rd n A] = .ok (resS (sts n A)) ∧ SOk n (sts n A) ∧ (sts n A).2.length ≤ 256 := by
  have n6 := R.n6
  have eA : rd n A = .tuple [.int (n : Int), arL A] := rfl
  unfold w_sets_of em_sets_of
  walk_at "t"
  rw [net_v R]
  walk_at "t"
  rw [u_lrg1, eA]
  walk_at "t"
  rw [lrg_pl (by omega)]
  walk_at "t"
  rw [tup_plL]
  walk_at "t"
  rw [keyT_tu]
  walk_at "t"
  unfold el_sets_of_2
  walk_at "t"
  generalize eF : whV _ _ _ _ _ = F
  have h := wh_anyF eF (fun M vs => ∃ (a : Nat) (X : SA), vs = [.v (rd n A), .v (netL n A), .v (setsD X.1), .v (tL (numD 0 X.1)), .v (.list (X.2.map arD)), .v (.int (a : Int)), .un, .un] ∧ Sof n A M a X)
    (fun o => ∃ (a : Nat), o = .nx [.v (rd n A), .v (netL n A), .v (setsD (sts n A).1), .v (tL (numD 0 (sts n A).1)), .v (.list ((sts n A).2.map arD)), .v (.int (a : Int)), .un, .un] ∧ SOk n (sts n A) ∧ (sts n A).2.length ≤ 256) 9999 (by decide) ⟨0, _, rfl, Sof.start n6⟩ ?_
  · obtain ⟨a, rfl, ok, h1⟩ := h
    have l64 := ok.few
    refine ⟨?_, ok, h1⟩
    walk_at "t"
    rw [u_consM]
    walk_at "t"
    rw [len_sets]
    walk_at "t"
    unfold resS arL
    rfl
  · rintro M vs ⟨a, X, rfl, hs⟩
    have l1 := hs.1.few
    have l2 := hs.2.2.1
    have l4 := hs.2.2.2.1
    have l0 := hs.2.1
    obtain ⟨M', rfl⟩ : ∃ M', M = M' + 1 := ⟨M - 1, by omega⟩
    by_cases hlt : a < X.1.length
    · right
      obtain ⟨P, ex⟩ : ∃ x, X.1[a]? = some x := ⟨_, List.getElem?_eq_getElem hlt⟩
      have st := hs.step n6 ex
      refine ⟨by walk_at "t"; rw [len_sets]; walk_at "t", ?_⟩
      right
      refine ⟨_, M', by omega, ⟨a + 1, _, rfl, st⟩, fun K => ?_⟩
      have mk := marks_prog R (x0 := rd n A) (x1 := netL n A) (x2 := setsD X.1) (x3 := tL (numD 0 X.1)) (x4 := .list (X.2.map arD)) (x5 := .int (a : Int)) (ms := [0, 1, 2, 3]) (by decide) hs.1 ex (by have : ([0, 1, 2, 3] : List Nat).length = 4 := rfl; omega)
      rw [bdS_eq]
      walk_at "t"
      rw [marks_its2, mk]
      walk_at "t"
      rw [aug_one]
      walk_at "t"
    · left
      have e := hs.stop hlt
      refine ⟨by walk_at "t"; rw [len_sets]; walk_at "t", a, by rw [← e], by rw [← e]; exact hs.1, by rw [← e]; omega⟩
theorem law_due_v {n : Nat} {A : List Ar3} (R : OkR n A) : w_law_due [rd n A] = .ok (resS (sts n A)) := by
  have n6 := R.n6
  have eA : rd n A = .tuple [.int (n : Int), arL A] := rfl
  unfold w_law_due em_law_due
  rw [eA]
  walk_at "t"
  rw [u_lrg1]
  walk_at "t"
  rw [lrg_pl (by omega)]
  walk_at "t"
  unfold el_law_due_2
  walk_at "t"
  generalize eF : whV _ _ _ _ _ = F
  have h := wh_anyF eF (fun M vs => ∃ (a : Nat) (X : SA), vs = [.v (rd n A), .v (setsD X.1), .v (.list (X.2.map arD)), .v (.int (a : Int)), .un, .un] ∧ Sof n A M a X)
    (fun o => ∃ (a : Nat), o = .nx [.v (rd n A), .v (setsD (sts n A).1), .v (.list ((sts n A).2.map arD)), .v (.int (a : Int)), .un, .un] ∧ SOk n (sts n A) ∧ (sts n A).2.length ≤ 256) 9999 (by decide) ⟨0, _, rfl, Sof.start n6⟩ ?_
  · obtain ⟨a, rfl, ok, h1⟩ := h
    have l64 := ok.few
    walk_at "t"
    rw [u_tupF, u_consM]
    walk_at "t"
    rw [len_sets]
    walk_at "t"
    unfold resS arL
    rfl
  · rintro M vs ⟨a, X, rfl, hs⟩
    have l1 := hs.1.few
    have l2 := hs.2.2.1
    have l4 := hs.2.2.2.1
    have l0 := hs.2.1
    obtain ⟨M', rfl⟩ : ∃ M', M = M' + 1 := ⟨M - 1, by omega⟩
    by_cases hlt : a < X.1.length
    · right
      obtain ⟨P, ex⟩ : ∃ x, X.1[a]? = some x := ⟨_, List.getElem?_eq_getElem hlt⟩
      have st := hs.step n6 ex
      refine ⟨by walk_at "t"; rw [len_sets]; walk_at "t", ?_⟩
      right
      refine ⟨_, M', by omega, ⟨a + 1, _, rfl, st⟩, fun K => ?_⟩
      have mk := marks_law R (x0 := rd n A) (x1 := setsD X.1) (x2 := .list (X.2.map arD)) (x3 := .int (a : Int)) (ms := [0, 1, 2, 3]) (by decide) hs.1 ex (by have : ([0, 1, 2, 3] : List Nat).length = 4 := rfl; omega)
      rw [bdL_eq]
      walk_at "t"
      rw [abcd_its, mk]
      walk_at "t"
      rw [show ((a : Int) + 1) = ((a + 1 : Nat) : Int) by omega]
    · left
      have e := hs.stop hlt
      refine ⟨by walk_at "t"; rw [len_sets]; walk_at "t", a, by rw [← e], by rw [← e]; exact hs.1, by rw [← e]; omega⟩
theorem stq_len {n : Nat} {A : List Ar3} {a m : Nat} {P : List Nat} {X : SA} : X.1.length ≤ (stq n A a P X m).1.length := by
  unfold stq
  split
  · exact Nat.le_refl _
  · show _ ≤ (pu X.1 _).length
    unfold pu
    split
    · exact Nat.le_refl _
    · rw [List.length_append]; omega
theorem sms_len {n : Nat} {A : List Ar3} {a : Nat} {P : List Nat} : ∀ {ms : List Nat} {X : SA}, X.1.length ≤ (sms n A a P ms X).1.length
  | [], _ => Nat.le_refl _
  | m :: ms, X => Nat.le_trans stq_len (sms_len (ms := ms) (X := stq n A a P X m))
theorem runS_len {n : Nat} {A : List Ar3} : ∀ {f a : Nat} {X : SA}, X.1.length ≤ (runS n A f a X).1.length
  | 0, _, _ => Nat.le_refl _
  | f + 1, a, X => by
    unfold runS
    split
    · exact Nat.le_trans sms_len runS_len
    · exact Nat.le_refl _
theorem sts_pos {n : Nat} {A : List Ar3} : ∃ P S, (sts n A).1 = P :: S := by
  have h : 1 ≤ (sts n A).1.length := runS_len (f := 9999) (a := 0) (X := ([List.range n], []))
  cases e : (sts n A).1 with
  | nil => rw [e] at h; cases h
  | cons P S => exact ⟨P, S, rfl⟩
theorem anyF {α : Type} {P : List α} {vs : List VS} : gBools (fun bs => bs.any id) [.list (P.map fun _ => PyData.bool false)] vs = .ok (.bool false) vs := by
  rw [show (P.map fun _ => PyData.bool false) = (P.map fun _ => false).map PyData.bool by rw [List.map_map]; rfl, o_bools]
  congr 2
  rw [Bool.eq_false_iff]
  intro z
  obtain ⟨x, hx, e⟩ := List.any_eq_true.mp z
  obtain ⟨_, _, rfl⟩ := List.mem_map.mp hx
  cases e
theorem allT {α : Type} {P : List α} {vs : List VS} : gBools (fun bs => bs.all id) [.list (P.map fun _ => PyData.bool true)] vs = .ok (.bool true) vs := by
  rw [show (P.map fun _ => PyData.bool true) = (P.map fun _ => true).map PyData.bool by rw [List.map_map]; rfl, o_bools]
  congr 2
  refine List.all_eq_true.mpr fun x hx => ?_
  obtain ⟨_, _, rfl⟩ := List.mem_map.mp hx
  rfl
theorem is_kind_v {X : SA} (h : ∀ P ∈ X.1, Pls P) (l64 : X.1.length ≤ 64) (l256 : X.2.length ≤ 256) : w_law_is_kind [resS X] = .ok (.bool true) := by
  unfold w_law_is_kind em_law_is_kind resS setsD arL
  walk_at "t"
  have loop : ∀ x : VS, el_law_is_kind_1 [.v (.tuple [.list (X.1.map plL), .tuple [.int (X.1.length : Int), .list (X.2.map arD)]]), .un, .un, .un] = .nx [.v (.tuple [.list (X.1.map plL), .tuple [.int (X.1.length : Int), .list (X.2.map arD)]]), .un, .un, .un] := fun _ => by
    unfold el_law_is_kind_1
    walk_at "t"
    refine for_still fun it hit K => ?_
    obtain ⟨P, hP, rfl⟩ := List.mem_map.mp hit
    have hl : P.length ≤ 1000 := by
      have := nd_lt (h P hP).nd (h P hP).lt
      omega
    generalize PyData.tuple [PyData.list (X.1.map plL), .tuple [.int (X.1.length : Int), .list (X.2.map arD)]] = T
    unfold ee_law_is_kind_1 plL pI
    walk_at "t"
    rw [lc_lmap (w := VI.one ∘ (PyData.int ∘ fun (i : Nat) => (i : Int))) (l := P) (o := fun _ => PyData.bool false) fun a ha => by walk_at "t"]
    rw [lcEnd_some (by rw [List.length_map]; omega)]
    walk_at "t"
    rw [anyF]
    walk_at "t"
  rw [loop .un]
  unfold ee_law_is_kind_2
  walk_at "t"
  rw [lc_lmap (w := VI.one ∘ arD) (l := X.2) (o := fun _ => PyData.bool true) fun a ha => by unfold arD; walk_at "t"]
  rw [lcEnd_some (by rw [List.length_map]; omega)]
  walk_at "t"
  rw [allT]
  walk_at "t"
theorem Fn_res {X : SA} (h : ∀ b ∈ X.2, b.2.1 < 4) : Fn 64 (resS X) := by
  refine Fn.mono (Fn_tup (k := 4) (FnL_cons (Fn_sets.mono (by decide)) (FnL_cons (Fn_tup (k := 3) (FnL_cons Fn_int (FnL_cons (Fn.mono (Fn_lst (k := 1) (FnL_map fun a ha => Fn_tup (k := 0) (FnL_cons Fn_int (FnL_cons (Fn_str (mk_ok (h a ha))) (FnL_cons Fn_int FnL_nil))))) (by decide)) FnL_nil))) FnL_nil))) (by decide)
theorem kApp_v {ds : List PyData} {y : PyData} (h : ds.length < 1000000) : kApp ds [y] = some (ds ++ [y], .none) := by
  show (if ds.length < Zx.lim then some (ds ++ [y], PyData.none) else none) = _
  exact if_pos h
theorem put0 {js : List Int} {y d : PyData} {ds : List PyData} : Zx.V.putAt (0 :: js) y (.list (d :: ds)) = .list (Zx.V.putAt js y d :: ds) := by
  have e : ixN (d :: ds).length 0 = some 0 := by
    unfold ixN
    rw [List.length_cons]
    simp
    try omega
  conv => lhs; unfold Zx.V.putAt
  dsimp only
  rw [e]
  rfl
theorem pure_ar {A : List Ar3} : pureK 1 (arL A) = true := pure_lst fun d h => by
  obtain ⟨a, _, rfl⟩ := List.mem_map.mp h
  rfl
theorem good_v {n : Nat} {A : List Ar3} (R : OkR n A) : w_law_good [rd n A] = .ok (.bool true) := by
  obtain ⟨e1, ok, l256⟩ := sets_of_v R
  have l64 := ok.few
  have ek := is_kind_v (X := sts n A) ok.pl l64 l256
  have eq1 : ∀ vs, gEq true (resS (sts n A)) (resS (sts n A)) vs = .ok (.bool false) vs := fun vs => eq_same (Fn_res ok.ar)
  have eq2 : ∀ vs, gEq true (rd n A) (rd n A) vs = .ok (.bool false) vs := fun vs => eq_same (Fn_rd R)
  unfold w_law_good em_law_good
  walk_at "t"
  rw [ix_rd0]
  walk_at "t"
  rw [ix_rd1]
  walk_at "t"
  rw [copy_v]
  walk_at "t"
  rw [if_pos pure_ar]
  walk_at "t"
  have er : PyData.tuple [.int (n : Int), arL A] = rd n A := rfl
  rw [er]
  rw [law_due_v R]
  walk_at "t"
  have loop : el_law_good_1 [.v (rd n A), .v (rd n A), .v (resS (sts n A)), .un, .un] = .nx [.v (rd n A), .v (rd n A), .v (resS (sts n A)), .un, .un] := by
    unfold el_law_good_1
    walk_at "t"
    refine for_still fun it hit K => ?_
    obtain ⟨i, hi, rfl⟩ := rng_mem hit
    walk_at "t"
    rw [e1]
    walk_at "t"
    rw [eq1]
    walk_at "t"
    rw [ek]
    walk_at "t"
    rw [eq2]
    walk_at "t"
    obtain ⟨P, S, eP⟩ := sts_pos (n := n) (A := A)
    have l1 : ∀ P ∈ (sts n A).1, P.length ≤ 1000 := fun P hP => by
      have := nd_lt (ok.pl P hP).nd (ok.pl P hP).lt
      omega
    rw [eP, List.length_cons] at l64
    have lP := l1 P (by rw [eP]; exact List.mem_cons_self)
    unfold resS setsD arL
    rw [eP]
    unfold plL
    walk_at "t"
    rw [kApp_v (by rw [List.length_map]; omega)]
    walk_at "t"
    rw [put0, pt_nil]
    walk_at "t"
    rw [show ∀ ds, kRev ds [] = some (ds.reverse, .none) from fun _ => rfl]
    walk_at "t"
    rw [kApp_v (by rw [List.length_map]; omega)]
    walk_at "t"
  rw [loop]
  walk_at "t"
theorem law_v (ns : List Int) : w_law [eI ns] = .ok (.bool true) := by
  obtain ⟨b0, e0⟩ := big_n (ns := ns) (k := 0) (by decide)
  obtain ⟨b1, e1⟩ := big_n (ns := ns) (k := 1) (by decide)
  obtain ⟨n, A, eA, RA, _, hA⟩ := reader_v (x := b0) (m := 6) (by decide) (by decide)
  obtain ⟨k, B, eB, RB, _, hB⟩ := reader_v (x := b1) (m := 6) (by decide) (by decide)
  have six : (6 : Int) = ((6 : Nat) : Int) := rfl
  unfold w_law em_law
  walk_at "t"
  rw [e0]
  walk_at "t"
  rw [six, eA]
  walk_at "t"
  rw [e1]
  walk_at "t"
  rw [eB]
  walk_at "t"
  rw [good_v RA]
  walk_at "t"
  rw [good_v RB]
  walk_at "t"
  rw [good_v RA]
  walk_at "t"
theorem law_ok (ns : List Int) (_ : ns.length ≤ 63) : ∃ h, v_law [.list (ns.map PyData.int)] = .ok (.d (.bool true)) h := law_by k_law (law_v ns)
end Gn.V
namespace Gn
open PySem PySem.Spec L2 Zx
def topS (i : Nat) : Stmt := PySem.Challenge.pw_foreverrows_k27_sets_read_one_way.main.body.getD i (.Pass ⟨0, 0, 0, 0⟩)
abbrev s_net_of : Stmt := topS 2
abbrev s_places_by : Stmt := topS 3
abbrev s_law_cell_at : Stmt := topS 6
abbrev s_law_order : Stmt := topS 8
abbrev s_law_more : Stmt := topS 10
abbrev s_law_behind : Stmt := topS 13
abbrev s_law_is_kind : Stmt := topS 15
abbrev s_sets_of : Stmt := topS 4
abbrev s_law_big : Stmt := topS 7
abbrev s_law_ring : Stmt := topS 9
abbrev s_law_due : Stmt := topS 14
abbrev s_law_one_way : Stmt := topS 11
abbrev s_law_good : Stmt := topS 16
abbrev s_law_reader : Stmt := topS 12
abbrev s_law : Stmt := topS 17
structure Txt (P : Program) (w : World) (K : PySem.W.Frag) (mg : Str → Option Value) (base : Heap) : Prop where
  z_all : mg (PySem.Str.ofString "all") = none
  z_any : mg (PySem.Str.ofString "any") = none
  z_bool : mg (PySem.Str.ofString "bool") = none
  z_int : mg (PySem.Str.ofString "int") = none
  z_isinstance : mg (PySem.Str.ofString "isinstance") = none
  z_len : mg (PySem.Str.ofString "len") = none
  z_list : mg (PySem.Str.ofString "list") = none
  z_range : mg (PySem.Str.ofString "range") = none
  z_sorted : mg (PySem.Str.ofString "sorted") = none
  z_tuple : mg (PySem.Str.ofString "tuple") = none
  k_MARKS : TupC K mg (PySem.Str.ofString "MARKS") [(PySem.Str.ofString "a"), (PySem.Str.ofString "b"), (PySem.Str.ofString "c"), (PySem.Str.ofString "d")]
section
variable {P : Program} {w : World} {K : PySem.W.Frag} {mg : Str → Option Value} {base : Heap}
theorem sc_net_of : FnScope [(PySem.Str.ofString "reader"), (PySem.Str.ofString "net"), (PySem.Str.ofString "here"), (PySem.Str.ofString "mark"), (PySem.Str.ofString "there"), (PySem.Str.ofString "place")] [(PySem.Str.ofString "reader")] (defScope s_net_of) := ⟨rfl, rfl, rfl, by decide +kernel, rfl, by decide +kernel, by decide +kernel⟩
theorem d_net_of (T : Txt P w K mg base) : DefOk P w K mg base [(PySem.Str.ofString "reader"), (PySem.Str.ofString "net"), (PySem.Str.ofString "here"), (PySem.Str.ofString "mark"), (PySem.Str.ofString "there"), (PySem.Str.ofString "place")] "net_of" s_net_of 0 m_net_of := by
  delta m_net_of l_net_of_1 e_net_of_1
  exact fun f cdv A outer s H E W hr tk hp =>
  (ss_cons (ss_setLc (i := 1) (fun _ _ _ q => q) rfl sc_net_of.nd (by rfl) (by rfl) (sw_true rfl rfl rfl (by decide +kernel)) (si_rng (by rfl) T.z_range (sa_cons (se_ix ix_seq os_ix (se_var (pv 0)) se_int (fun _ _ => rfl)) sa_nil)) (blkOk_by (own := [((PySem.Str.ofString "place"), 5)]) (by show blkC [(PySem.Str.ofString "reader"), (PySem.Str.ofString "net"), (PySem.Str.ofString "here"), (PySem.Str.ofString "mark"), (PySem.Str.ofString "there"), (PySem.Str.ofString "place")] (defScope s_net_of) _ _ = true; decide +kernel)) (fun _ _ _ _ _ => (pg_name (i := 5) sc_net_of.nd (by rfl) (.inl rfl))) (fun _ _ _ _ _ => sts_nil) (fun _ _ _ _ _ => se_dct) gs_name (by decide))
    (ss_cons (ss_for hp rfl (si_list (se_ix ix_seq os_ix (se_var (pv 0)) se_int (fun _ _ => rfl))) (pg_tup (n := ([2, 3, 4] : List Nat).length) (t := gNms [2, 3, 4]) rfl (pgs_cons (pg_name (i := 2) sc_net_of.nd (by rfl) (.inl rfl)) (pgs_cons (pg_name (i := 3) sc_net_of.nd (by rfl) (.inl rfl)) (pgs_cons (pg_name (i := 4) sc_net_of.nd (by rfl) (.inl rfl)) pgs_nil)))) (gs_tup (is := [2, 3, 4])) (ss_one (ss_expr (se_bm ms_append PySem.F.plainAttrs_list PySem.F.slot_list_append PySem.F.type_list_append mt_append (se_setd (se_ix ix_seq os_ix (se_var (pv 1)) (se_var (pv 2)) (fun _ _ => rfl)) (se_var (pv 3)) (se_lst sa_nil) ⟨by rfl, by rfl, by rfl, by rfl⟩) (sa_cons (se_fz (se_var (pv 4))) sa_nil)))))
    (ss_one (ss_ret (se_fz (se_var (pv 1)))))))
theorem c_net_of (T : Txt P w K mg base) {f : Addr} {fd : FuncData} (F : Fun K "net_of" "net_of" s_net_of f fd) (b : Binds K fd [(PySem.Str.ofString "reader")] []) (hm : mg (PySem.Str.ofString "net_of") = some (.ref f)) : Cal P w K mg base (PySem.Str.ofString "net_of") 1 [.vw] v_net_of :=
  ⟨f, fd, [(PySem.Str.ofString "reader")], fn_data F sc_net_of rfl (d_net_of T ), hm, F.kp, b⟩
theorem sc_places_by : FnScope [(PySem.Str.ofString "net"), (PySem.Str.ofString "places"), (PySem.Str.ofString "mark"), (PySem.Str.ofString "found"), (PySem.Str.ofString "place"), (PySem.Str.ofString "there")] [(PySem.Str.ofString "net"), (PySem.Str.ofString "places"), (PySem.Str.ofString "mark")] (defScope s_places_by) := ⟨rfl, rfl, rfl, by decide +kernel, rfl, by decide +kernel, by decide +kernel⟩
theorem d_places_by (T : Txt P w K mg base) : DefOk P w K mg base [(PySem.Str.ofString "net"), (PySem.Str.ofString "places"), (PySem.Str.ofString "mark"), (PySem.Str.ofString "found"), (PySem.Str.ofString "place"), (PySem.Str.ofString "there")] "places_by" s_places_by 0 m_places_by := by
  delta m_places_by l_places_by_2 l_places_by_1
  exact fun f cdv A outer s H E W hr tk hp =>
  (ss_cons (ss_set (i := 3) sc_places_by.nd (by rfl) (.inl rfl) se_dct)
    (ss_cons (ss_for hp rfl (si_list (se_var (pv 1))) (pg_name (i := 4) sc_places_by.nd (by rfl) (.inl rfl)) gs_name (ss_one (ss_for hp rfl (si_list (se_dg2 (Nat.lt_of_le_of_lt (Nat.add_le_add_left (show 1 ≤ 64 by decide) _) hr.units) (se_ix ix_seq os_ix (se_var (pv 0)) (se_var (pv 4)) (fun _ _ => rfl)) (se_var (pv 2)) (se_fz (se_lst sa_nil)) ⟨by rfl, by rfl, by rfl, by rfl⟩)) (pg_name (i := 5) sc_places_by.nd (by rfl) (.inl rfl)) gs_name (ss_one (ss_dstore se_bl (se_var (pv 3)) (se_var (pv 5)) (pg_sub (se_var (pv 3)) (se_var (pv 5)) (set_dict (Nat.lt_of_le_of_lt (Nat.add_le_add_left (show 1 ≤ 64 by decide) _) hr.units))))))))
    (ss_one (ss_ret (se_callB (cr_sortedD rfl) cs_sortedD (by rfl) T.z_sorted (by decide +kernel) (sa_cons (se_var (pv 3)) sa_nil))))))
theorem c_places_by (T : Txt P w K mg base) {f : Addr} {fd : FuncData} (F : Fun K "places_by" "places_by" s_places_by f fd) (b : Binds K fd [(PySem.Str.ofString "net"), (PySem.Str.ofString "places"), (PySem.Str.ofString "mark")] []) (hm : mg (PySem.Str.ofString "places_by") = some (.ref f)) : Cal P w K mg base (PySem.Str.ofString "places_by") 1 [.fz, .vw, .vw] v_places_by :=
  ⟨f, fd, [(PySem.Str.ofString "net"), (PySem.Str.ofString "places"), (PySem.Str.ofString "mark")], fn_data F sc_places_by rfl (d_places_by T ), hm, F.kp, b⟩
theorem sc_law_cell_at : FnScope [(PySem.Str.ofString "_law_script"), (PySem.Str.ofString "_law_k")] [(PySem.Str.ofString "_law_script"), (PySem.Str.ofString "_law_k")] (defScope s_law_cell_at) := ⟨rfl, rfl, rfl, by decide +kernel, rfl, by decide +kernel, by decide +kernel⟩
theorem d_law_cell_at (T : Txt P w K mg base) : DefOk P w K mg base [(PySem.Str.ofString "_law_script"), (PySem.Str.ofString "_law_k")] "_law_cell_at" s_law_cell_at 0 m_law_cell_at := by
  delta m_law_cell_at
  exact fun f cdv A outer s H E W hr tk hp =>
  (ss_cons (ss_if (st_cmp op_lt os_B0 (se_var (pv 1)) (se_callB call_len cs_len (by rfl) T.z_len (by decide +kernel) (sa_cons (se_var (pv 0)) sa_nil)) (nomark _)) (ss_one (ss_ret (se_ix ix_seq os_ix (se_var (pv 0)) (se_var (pv 1)) (fun _ _ => rfl)))) ss_nil)
    (ss_one (ss_ret se_int)))
theorem c_law_cell_at (T : Txt P w K mg base) {f : Addr} {fd : FuncData} (F : Fun K "_law_cell_at" "_law_cell_at" s_law_cell_at f fd) (b : Binds K fd [(PySem.Str.ofString "_law_script"), (PySem.Str.ofString "_law_k")] []) (hm : mg (PySem.Str.ofString "_law_cell_at") = some (.ref f)) : Cal P w K mg base (PySem.Str.ofString "_law_cell_at") 1 [.sc, .vw] v_law_cell_at :=
  ⟨f, fd, [(PySem.Str.ofString "_law_script"), (PySem.Str.ofString "_law_k")], fn_data F sc_law_cell_at rfl (d_law_cell_at T ), hm, F.kp, b⟩
theorem sc_law_order : FnScope [(PySem.Str.ofString "_law_many"), (PySem.Str.ofString "_law_big_here"), (PySem.Str.ofString "_law_rest"), (PySem.Str.ofString "_law_order_here")] [(PySem.Str.ofString "_law_many"), (PySem.Str.ofString "_law_big_here")] (defScope s_law_order) := ⟨rfl, rfl, rfl, by decide +kernel, rfl, by decide +kernel, by decide +kernel⟩
theorem d_law_order (T : Txt P w K mg base) : DefOk P w K mg base [(PySem.Str.ofString "_law_many"), (PySem.Str.ofString "_law_big_here"), (PySem.Str.ofString "_law_rest"), (PySem.Str.ofString "_law_order_here")] "_law_order" s_law_order 0 m_law_order := by
  delta m_law_order l_law_order_1
  exact fun f cdv A outer s H E W hr tk hp =>
  (ss_cons (ss_set (i := 2) sc_law_order.nd (by rfl) (.inl rfl) (se_listRg rfl (by rfl) T.z_list (sr_1 (by rfl) T.z_range (se_var (pv 0)))))
    (ss_cons (ss_set (i := 3) sc_law_order.nd (by rfl) (.inl rfl) (se_lst sa_nil))
    (ss_cons (ss_while 1000 hp (st_cmp (op_neD hr.units) os_ne (se_var (pv 2)) (se_fz (se_lst sa_nil)) (nomark _)) (ss_cons (ss_expr (se_bm ms_append PySem.F.plainAttrs_list PySem.F.slot_list_append PySem.F.type_list_append mt_append (se_var (pv 3)) (sa_cons (se_fz (se_bm ms_popAt PySem.F.plainAttrs_list PySem.F.slot_list_pop PySem.F.type_list_pop mt_popAt (se_var (pv 2)) (sa_cons (se_op op_mod os_mod (se_var (pv 1)) (se_callB call_len cs_len (by rfl) T.z_len (by decide +kernel) (sa_cons (se_var (pv 2)) sa_nil))) sa_nil))) sa_nil)))
    (ss_one (ss_set (i := 1) sc_law_order.nd (by rfl) (.inl rfl) (se_op op_fdivW os_div (se_var (pv 1)) (se_op op_plus os_plus (se_callB call_len cs_len (by rfl) T.z_len (by decide +kernel) (sa_cons (se_var (pv 2)) sa_nil)) se_int))))))
    (ss_one (ss_ret (se_fz (se_var (pv 3))))))))
theorem c_law_order (T : Txt P w K mg base) {f : Addr} {fd : FuncData} (F : Fun K "_law_order" "_law_order" s_law_order f fd) (b : Binds K fd [(PySem.Str.ofString "_law_many"), (PySem.Str.ofString "_law_big_here")] []) (hm : mg (PySem.Str.ofString "_law_order") = some (.ref f)) : Cal P w K mg base (PySem.Str.ofString "_law_order") 1 [.vw, .vw] v_law_order :=
  ⟨f, fd, [(PySem.Str.ofString "_law_many"), (PySem.Str.ofString "_law_big_here")], fn_data F sc_law_order rfl (d_law_order T ), hm, F.kp, b⟩
theorem sc_law_more : FnScope [(PySem.Str.ofString "_law_places"), (PySem.Str.ofString "_law_arrows"), (PySem.Str.ofString "_law_big_here"), (PySem.Str.ofString "_law_rare"), (PySem.Str.ofString "_law_most"), (PySem.Str.ofString "_law_place"), (PySem.Str.ofString "_law_mark"), (PySem.Str.ofString "_law_there")] [(PySem.Str.ofString "_law_places"), (PySem.Str.ofString "_law_arrows"), (PySem.Str.ofString "_law_big_here"), (PySem.Str.ofString "_law_rare"), (PySem.Str.ofString "_law_most")] (defScope s_law_more) := ⟨rfl, rfl, rfl, by decide +kernel, rfl, by decide +kernel, by decide +kernel⟩
theorem d_law_more (T : Txt P w K mg base) : DefOk P w K mg base [(PySem.Str.ofString "_law_places"), (PySem.Str.ofString "_law_arrows"), (PySem.Str.ofString "_law_big_here"), (PySem.Str.ofString "_law_rare"), (PySem.Str.ofString "_law_most"), (PySem.Str.ofString "_law_place"), (PySem.Str.ofString "_law_mark"), (PySem.Str.ofString "_law_there")] "_law_more" s_law_more 0 m_law_more := by
  delta m_law_more l_law_more_3 l_law_more_2 l_law_more_1
  exact fun f cdv A outer s H E W hr tk hp =>
  (ss_cons (ss_for hp rfl (si_rng (by rfl) T.z_range (sa_cons (se_var (pv 0)) sa_nil)) (pg_name (i := 5) sc_law_more.nd (by rfl) (.inl rfl)) gs_name (ss_one (ss_for hp rfl (si_str se_str) (pg_name (i := 6) sc_law_more.nd (by rfl) (.inl rfl)) gs_name (ss_one (ss_for hp rfl (si_rng (by rfl) T.z_range (sa_cons (se_var (pv 0)) sa_nil)) (pg_name (i := 7) sc_law_more.nd (by rfl) (.inl rfl)) gs_name (ss_cons (ss_if (st_w (sw_and (st_cmp (op_eqD hr.units) os_eq (se_op op_mod os_mod (se_var (pv 2)) (se_var (pv 3))) se_int (nomark _)) (sw_and1 (st_cmp op_lt os_B0 (se_callB cr_lenN cs_lenT (by rfl) T.z_len (by decide +kernel) (sa_cons (se_var (pv 1)) sa_nil)) (se_var (pv 4)) (nomark _))))) (ss_one (ss_tstore (Nat.lt_of_le_of_lt (Nat.add_le_add_left (show 9 ≤ 64 by decide) _) hr.units) se_bl (se_var (pv 1)) (se_tup (sa_cons (se_var (pv 5)) (sa_cons (se_var (pv 6)) (sa_cons (se_var (pv 7)) sa_nil)))))) ss_nil)
    (ss_one (ss_set (i := 2) sc_law_more.nd (by rfl) (.inl rfl) (se_op op_fdivW os_div (se_var (pv 2)) (se_var (pv 3)))))))))))
    (ss_one (ss_ret (se_var (pv 1)))))
theorem r_law_more (T : Txt P w K mg base) {f : Addr} {fd : FuncData} (F : Fun K "_law_more" "_law_more" s_law_more f fd) (b : Binds K fd [(PySem.Str.ofString "_law_places"), (PySem.Str.ofString "_law_arrows"), (PySem.Str.ofString "_law_big_here"), (PySem.Str.ofString "_law_rare"), (PySem.Str.ofString "_law_most")] []) (hm : mg (PySem.Str.ofString "_law_more") = some (.ref f)) : CalR P w K mg base (PySem.Str.ofString "_law_more") 1 5 8 m_law_more :=
  ⟨f, fd, [(PySem.Str.ofString "_law_places"), (PySem.Str.ofString "_law_arrows"), (PySem.Str.ofString "_law_big_here"), (PySem.Str.ofString "_law_rare"), (PySem.Str.ofString "_law_most")], fn_ref F sc_law_more (d_law_more T ), hm, F.kp, b⟩
theorem c_law_more (T : Txt P w K mg base) {f : Addr} {fd : FuncData} (F : Fun K "_law_more" "_law_more" s_law_more f fd) (b : Binds K fd [(PySem.Str.ofString "_law_places"), (PySem.Str.ofString "_law_arrows"), (PySem.Str.ofString "_law_big_here"), (PySem.Str.ofString "_law_rare"), (PySem.Str.ofString "_law_most")] []) (hm : mg (PySem.Str.ofString "_law_more") = some (.ref f)) : Cal P w K mg base (PySem.Str.ofString "_law_more") 1 [.vw, .vw, .vw, .vw, .vw] v_law_more :=
  ⟨f, fd, [(PySem.Str.ofString "_law_places"), (PySem.Str.ofString "_law_arrows"), (PySem.Str.ofString "_law_big_here"), (PySem.Str.ofString "_law_rare"), (PySem.Str.ofString "_law_most")], fn_data F sc_law_more rfl (d_law_more T ), hm, F.kp, b⟩
theorem sc_law_behind : FnScope [(PySem.Str.ofString "_law_reader_here"), (PySem.Str.ofString "_law_places"), (PySem.Str.ofString "_law_mark"), (PySem.Str.ofString "_law_found"), (PySem.Str.ofString "_law_here"), (PySem.Str.ofString "_law_sign"), (PySem.Str.ofString "_law_there")] [(PySem.Str.ofString "_law_reader_here"), (PySem.Str.ofString "_law_places"), (PySem.Str.ofString "_law_mark")] (defScope s_law_behind) := ⟨rfl, rfl, rfl, by decide +kernel, rfl, by decide +kernel, by decide +kernel⟩
theorem d_law_behind (T : Txt P w K mg base) : DefOk P w K mg base [(PySem.Str.ofString "_law_reader_here"), (PySem.Str.ofString "_law_places"), (PySem.Str.ofString "_law_mark"), (PySem.Str.ofString "_law_found"), (PySem.Str.ofString "_law_here"), (PySem.Str.ofString "_law_sign"), (PySem.Str.ofString "_law_there")] "_law_behind" s_law_behind 0 m_law_behind := by
  delta m_law_behind l_law_behind_1
  exact fun f cdv A outer s H E W hr tk hp =>
  (ss_cons (ss_set (i := 3) sc_law_behind.nd (by rfl) (.inl rfl) se_dct)
    (ss_cons (ss_for hp rfl (si_list (se_ix ix_seq os_ix (se_var (pv 0)) se_int (fun _ _ => rfl))) (pg_tup (n := ([4, 5, 6] : List Nat).length) (t := gNms [4, 5, 6]) rfl (pgs_cons (pg_name (i := 4) sc_law_behind.nd (by rfl) (.inl rfl)) (pgs_cons (pg_name (i := 5) sc_law_behind.nd (by rfl) (.inl rfl)) (pgs_cons (pg_name (i := 6) sc_law_behind.nd (by rfl) (.inl rfl)) pgs_nil)))) (gs_tup (is := [4, 5, 6])) (ss_one (ss_if (st_w (sw_and (st_cmp (op_eqD hr.units) os_eq (se_var (pv 5)) (se_var (pv 2)) (nomark _)) (sw_and1 (st_cmp op_in_seq os_in (se_var (pv 4)) (se_var (pv 1)) (by rfl))))) (ss_one (ss_dstore se_bl (se_var (pv 3)) (se_var (pv 6)) (pg_sub (se_var (pv 3)) (se_var (pv 6)) (set_dict (Nat.lt_of_le_of_lt (Nat.add_le_add_left (show 1 ≤ 64 by decide) _) hr.units))))) ss_nil)))
    (ss_one (ss_ret (se_fz (se_callB (cr_sortedD rfl) cs_sortedD (by rfl) T.z_sorted (by decide +kernel) (sa_cons (se_var (pv 3)) sa_nil)))))))
theorem c_law_behind (T : Txt P w K mg base) {f : Addr} {fd : FuncData} (F : Fun K "_law_behind" "_law_behind" s_law_behind f fd) (b : Binds K fd [(PySem.Str.ofString "_law_reader_here"), (PySem.Str.ofString "_law_places"), (PySem.Str.ofString "_law_mark")] []) (hm : mg (PySem.Str.ofString "_law_behind") = some (.ref f)) : Cal P w K mg base (PySem.Str.ofString "_law_behind") 1 [.vw, .vw, .vw] v_law_behind :=
  ⟨f, fd, [(PySem.Str.ofString "_law_reader_here"), (PySem.Str.ofString "_law_places"), (PySem.Str.ofString "_law_mark")], fn_data F sc_law_behind rfl (d_law_behind T ), hm, F.kp, b⟩
theorem sc_law_is_kind : FnScope [(PySem.Str.ofString "_law_told"), (PySem.Str.ofString "_law_places"), (PySem.Str.ofString "_law_arrow"), (PySem.Str.ofString "_law_place")] [(PySem.Str.ofString "_law_told")] (defScope s_law_is_kind) := ⟨rfl, rfl, rfl, by decide +kernel, rfl, by decide +kernel, by decide +kernel⟩
theorem d_law_is_kind (T : Txt P w K mg base) : DefOk P w K mg base [(PySem.Str.ofString "_law_told"), (PySem.Str.ofString "_law_places"), (PySem.Str.ofString "_law_arrow"), (PySem.Str.ofString "_law_place")] "_law_is_kind" s_law_is_kind 0 m_law_is_kind := by
  delta m_law_is_kind l_law_is_kind_1 e_law_is_kind_2 e_law_is_kind_1
  exact fun f cdv A outer s H E W hr tk hp =>
  (ss_cons (ss_if (st_w (sw_or (st_not (st_val (se_isi (T := "tuple") (by rfl) T.z_isinstance (by decide +kernel) (pe_bltn (by rfl) T.z_tuple (u := .type "tuple") (by decide +kernel) rfl) (se_var (pv 0))))) (sw_or (st_not (st_val (se_isi (T := "list") (by rfl) T.z_isinstance (by decide +kernel) (pe_bltn (by rfl) T.z_list (u := .type "list") (by decide +kernel) rfl) (se_ix ix_seq os_ix (se_var (pv 0)) se_int (fun _ _ => rfl))))) (sw_or1 (st_not (st_val (se_isi (T := "tuple") (by rfl) T.z_isinstance (by decide +kernel) (pe_bltn (by rfl) T.z_tuple (u := .type "tuple") (by decide +kernel) rfl) (se_ix ix_seq os_ix (se_var (pv 0)) se_int (fun _ _ => rfl))))))))) (ss_one (ss_ret se_bl)) ss_nil)
    (ss_cons (ss_if (st_w (sw_or (st_not (st_val (se_isi (T := "int") (by rfl) T.z_isinstance (by decide +kernel) (pe_bltn (by rfl) T.z_int (u := .type "int") (by decide +kernel) rfl) (se_ix ix_seq os_ix (se_ix ix_seq os_ix (se_var (pv 0)) se_int (fun _ _ => rfl)) se_int (fun _ _ => rfl))))) (sw_or (st_val (se_isi (T := "bool") (by rfl) T.z_isinstance (by decide +kernel) (pe_bltn (by rfl) T.z_bool (u := .type "bool") (by decide +kernel) rfl) (se_ix ix_seq os_ix (se_ix ix_seq os_ix (se_var (pv 0)) se_int (fun _ _ => rfl)) se_int (fun _ _ => rfl)))) (sw_or1 (st_not (st_val (se_isi (T := "list") (by rfl) T.z_isinstance (by decide +kernel) (pe_bltn (by rfl) T.z_list (u := .type "list") (by decide +kernel) rfl) (se_ix ix_seq os_ix (se_ix ix_seq os_ix (se_var (pv 0)) se_int (fun _ _ => rfl)) se_int (fun _ _ => rfl))))))))) (ss_one (ss_ret se_bl)) ss_nil)
    (ss_cons (ss_for hp rfl (si_list (se_ix ix_seq os_ix (se_var (pv 0)) se_int (fun _ _ => rfl))) (pg_name (i := 1) sc_law_is_kind.nd (by rfl) (.inl rfl)) gs_name (ss_one (ss_if (st_w (sw_or (st_not (st_val (se_isi (T := "list") (by rfl) T.z_isinstance (by decide +kernel) (pe_bltn (by rfl) T.z_list (u := .type "list") (by decide +kernel) rfl) (se_var (pv 1))))) (sw_or1 (st_val (se_callB (cr_any rfl) cs_bools (by rfl) T.z_any (by decide +kernel) (sa_cons (se_fz (se_lc rfl sc_law_is_kind.nd (si_list (se_var (pv 1))) (blkOk_by (own := [((PySem.Str.ofString "_law_place"), 3)]) (by show blkC [(PySem.Str.ofString "_law_told"), (PySem.Str.ofString "_law_places"), (PySem.Str.ofString "_law_arrow"), (PySem.Str.ofString "_law_place")] (defScope s_law_is_kind) _ _ = true; decide +kernel)) (fun _ _ _ _ _ => (pg_name (i := 3) sc_law_is_kind.nd (by rfl) (.inl rfl))) (fun _ _ _ _ _ => sts_nil) (fun _ _ _ _ _ => (se_isi (T := "bool") (by rfl) T.z_isinstance (by decide +kernel) (pe_bltn (by rfl) T.z_bool (u := .type "bool") (by decide +kernel) rfl) (se_var (pv 3)))) gs_name (by decide))) sa_nil)))))) (ss_one (ss_ret se_bl)) ss_nil)))
    (ss_one (ss_ret (se_callB (cr_all rfl) cs_bools (by rfl) T.z_all (by decide +kernel) (sa_cons (se_fz (se_lc rfl sc_law_is_kind.nd (si_list (se_ix ix_seq os_ix (se_ix ix_seq os_ix (se_var (pv 0)) se_int (fun _ _ => rfl)) se_int (fun _ _ => rfl))) (blkOk_by (own := [((PySem.Str.ofString "_law_arrow"), 2)]) (by show blkC [(PySem.Str.ofString "_law_told"), (PySem.Str.ofString "_law_places"), (PySem.Str.ofString "_law_arrow"), (PySem.Str.ofString "_law_place")] (defScope s_law_is_kind) _ _ = true; decide +kernel)) (fun _ _ _ _ _ => (pg_name (i := 2) sc_law_is_kind.nd (by rfl) (.inl rfl))) (fun _ _ _ _ _ => sts_nil) (fun _ _ _ _ _ => (se_and (se_isi (T := "tuple") (by rfl) T.z_isinstance (by decide +kernel) (pe_bltn (by rfl) T.z_tuple (u := .type "tuple") (by decide +kernel) rfl) (se_var (pv 2))) (se_one (se_not (se_isi (T := "bool") (by rfl) T.z_isinstance (by decide +kernel) (pe_bltn (by rfl) T.z_bool (u := .type "bool") (by decide +kernel) rfl) (se_ix ix_seq os_ix (se_var (pv 2)) se_int (fun _ _ => rfl))))))) gs_name (by decide))) sa_nil)))))))
theorem c_law_is_kind (T : Txt P w K mg base) {f : Addr} {fd : FuncData} (F : Fun K "_law_is_kind" "_law_is_kind" s_law_is_kind f fd) (b : Binds K fd [(PySem.Str.ofString "_law_told")] []) (hm : mg (PySem.Str.ofString "_law_is_kind") = some (.ref f)) : Cal P w K mg base (PySem.Str.ofString "_law_is_kind") 1 [.vw] v_law_is_kind :=
  ⟨f, fd, [(PySem.Str.ofString "_law_told")], fn_data F sc_law_is_kind rfl (d_law_is_kind T ), hm, F.kp, b⟩
theorem sc_sets_of : FnScope [(PySem.Str.ofString "reader"), (PySem.Str.ofString "net"), (PySem.Str.ofString "sets"), (PySem.Str.ofString "number"), (PySem.Str.ofString "arrows"), (PySem.Str.ofString "at"), (PySem.Str.ofString "mark"), (PySem.Str.ofString "there")] [(PySem.Str.ofString "reader")] (defScope s_sets_of) := ⟨rfl, rfl, rfl, by decide +kernel, rfl, by decide +kernel, by decide +kernel⟩
theorem d_sets_of (T : Txt P w K mg base) (c_net_of : Cal P w K mg base (PySem.Str.ofString "net_of") 1 [.vw] v_net_of) (c_places_by : Cal P w K mg base (PySem.Str.ofString "places_by") 1 [.fz, .vw, .vw] v_places_by) : DefOk P w K mg base [(PySem.Str.ofString "reader"), (PySem.Str.ofString "net"), (PySem.Str.ofString "sets"), (PySem.Str.ofString "number"), (PySem.Str.ofString "arrows"), (PySem.Str.ofString "at"), (PySem.Str.ofString "mark"), (PySem.Str.ofString "there")] "sets_of" s_sets_of 1 m_sets_of := by
  delta m_sets_of l_sets_of_2 l_sets_of_1
  exact fun f cdv A outer s H E W hr tk hp =>
  (ss_cons (ss_set (i := 1) sc_sets_of.nd (by rfl) (.inl rfl) (se_callC c_net_of (hr.mono (by decide)) (by rfl) tk (sa_cons (se_var (pv 0)) sa_nil)))
    (ss_cons (ss_set (i := 2) sc_sets_of.nd (by rfl) (.inl rfl) (se_lst (sa_cons (se_listRg rfl (by rfl) T.z_list (sr_1 (by rfl) T.z_range (se_ix ix_seq os_ix (se_var (pv 0)) se_int (fun _ _ => rfl)))) sa_nil)))
    (ss_cons (ss_set (i := 3) sc_sets_of.nd (by rfl) (.inl rfl) (se_dkt1 (Nat.lt_of_le_of_lt (Nat.add_le_add_left (show 9 ≤ 64 by decide) _) hr.units) (se_callTy call_tuple_of cs_tuple (by rfl) T.z_tuple (by decide +kernel) (sa_cons (se_ix ix_seq os_ix (se_var (pv 2)) se_int (fun _ _ => rfl)) sa_nil)) se_int))
    (ss_cons (ss_set (i := 4) sc_sets_of.nd (by rfl) (.inl rfl) (se_lst sa_nil))
    (ss_cons (ss_set (i := 5) sc_sets_of.nd (by rfl) (.inl rfl) se_int)
    (ss_cons (ss_while 10000 hp (st_cmp op_lt os_B0 (se_var (pv 5)) (se_callB call_len cs_len (by rfl) T.z_len (by decide +kernel) (sa_cons (se_var (pv 2)) sa_nil)) (nomark _)) (ss_cons (ss_for hp rfl (si_tup (se_gtup (zs := [(PySem.Str.ofString "a"), (PySem.Str.ofString "b"), (PySem.Str.ofString "c"), (PySem.Str.ofString "d")]) (by rfl) T.k_MARKS)) (pg_name (i := 6) sc_sets_of.nd (by rfl) (.inl rfl)) gs_name (ss_cons (ss_set (i := 7) sc_sets_of.nd (by rfl) (.inl rfl) (se_callC c_places_by (hr.mono (by decide)) (by rfl) tk (sa_cons (se_var (pv 1)) (sa_cons (se_ix ix_seq os_ix (se_var (pv 2)) (se_var (pv 5)) (fun _ _ => rfl)) (sa_cons (se_var (pv 6)) sa_nil)))))
    (ss_cons (ss_if (st_w (sw_and (st_cmp (op_neD hr.units) os_ne (se_var (pv 7)) (se_fz (se_lst sa_nil)) (nomark _)) (sw_and1 (st_tnotin (Nat.lt_of_le_of_lt (Nat.add_le_add_left (show 9 ≤ 64 by decide) _) hr.units) (se_callTy call_tuple_of cs_tuple (by rfl) T.z_tuple (by decide +kernel) (sa_cons (se_var (pv 7)) sa_nil)) (se_var (pv 3)) (by rfl))))) (ss_cons (ss_tstore (Nat.lt_of_le_of_lt (Nat.add_le_add_left (show 9 ≤ 64 by decide) _) hr.units) (se_callB call_len cs_len (by rfl) T.z_len (by decide +kernel) (sa_cons (se_var (pv 2)) sa_nil)) (se_var (pv 3)) (se_callTy call_tuple_of cs_tuple (by rfl) T.z_tuple (by decide +kernel) (sa_cons (se_var (pv 7)) sa_nil)))
    (ss_one (ss_expr (se_bm ms_append PySem.F.plainAttrs_list PySem.F.slot_list_append PySem.F.type_list_append mt_append (se_var (pv 2)) (sa_cons (se_var (pv 7)) sa_nil))))) ss_nil)
    (ss_one (ss_if (st_cmp (op_neD hr.units) os_ne (se_var (pv 7)) (se_fz (se_lst sa_nil)) (nomark _)) (ss_one (ss_expr (se_bm ms_append PySem.F.plainAttrs_list PySem.F.slot_list_append PySem.F.type_list_append mt_append (se_var (pv 4)) (sa_cons (se_tup (sa_cons (se_var (pv 5)) (sa_cons (se_var (pv 6)) (sa_cons (se_tget (Nat.lt_of_le_of_lt (Nat.add_le_add_left (show 9 ≤ 64 by decide) _) hr.units) (se_var (pv 3)) (se_callTy call_tuple_of cs_tuple (by rfl) T.z_tuple (by decide +kernel) (sa_cons (se_var (pv 7)) sa_nil)) (fun _ _ => rfl)) sa_nil)))) sa_nil)))) ss_nil)))))
    (ss_one (ss_aug (j := 5) sc_sets_of.nd (by rfl) (.inl rfl) se_int ip_add))))
    (ss_one (ss_ret (se_tupO (sa_cons (se_var (pv 2)) (sa_cons (se_tupO (sa_cons (se_callB call_len cs_len (by rfl) T.z_len (by decide +kernel) (sa_cons (se_var (pv 2)) sa_nil)) (sa_cons (se_var (pv 4)) sa_nil))) sa_nil)))))))))))
theorem c_sets_of (T : Txt P w K mg base) (c_net_of : Cal P w K mg base (PySem.Str.ofString "net_of") 1 [.vw] v_net_of) (c_places_by : Cal P w K mg base (PySem.Str.ofString "places_by") 1 [.fz, .vw, .vw] v_places_by) {f : Addr} {fd : FuncData} (F : Fun K "sets_of" "sets_of" s_sets_of f fd) (b : Binds K fd [(PySem.Str.ofString "reader")] []) (hm : mg (PySem.Str.ofString "sets_of") = some (.ref f)) : Cal P w K mg base (PySem.Str.ofString "sets_of") 2 [.vw] v_sets_of :=
  ⟨f, fd, [(PySem.Str.ofString "reader")], fn_data F sc_sets_of rfl (d_sets_of T c_net_of c_places_by), hm, F.kp, b⟩
theorem sc_law_big : FnScope [(PySem.Str.ofString "_law_script"), (PySem.Str.ofString "_law_at"), (PySem.Str.ofString "_law_cell"), (PySem.Str.ofString "_law_primes"), (PySem.Str.ofString "_law_big_here"), (PySem.Str.ofString "_law_k"), (PySem.Str.ofString "_law_one")] [(PySem.Str.ofString "_law_script"), (PySem.Str.ofString "_law_at")] (defScope s_law_big) := ⟨rfl, rfl, rfl, by decide +kernel, rfl, by decide +kernel, by decide +kernel⟩
theorem d_law_big (T : Txt P w K mg base) (c_law_cell_at : Cal P w K mg base (PySem.Str.ofString "_law_cell_at") 1 [.sc, .vw] v_law_cell_at) : DefOk P w K mg base [(PySem.Str.ofString "_law_script"), (PySem.Str.ofString "_law_at"), (PySem.Str.ofString "_law_cell"), (PySem.Str.ofString "_law_primes"), (PySem.Str.ofString "_law_big_here"), (PySem.Str.ofString "_law_k"), (PySem.Str.ofString "_law_one")] "_law_big" s_law_big 1 m_law_big := by
  delta m_law_big l_law_big_1
  exact fun f cdv A outer s H E W hr tk hp =>
  (ss_cons (ss_set (i := 2) sc_law_big.nd (by rfl) (.inl rfl) (se_callC c_law_cell_at (hr.mono (by decide)) (by rfl) tk (sa_cons (se_var (pv 0)) (sa_cons (se_var (pv 1)) sa_nil))))
    (ss_cons (ss_if (st_cmp op_ge os_B0 (se_var (pv 2)) (se_op op_pow os_pow se_int se_int) (nomark _)) (ss_one (ss_ret (se_var (pv 2)))) ss_nil)
    (ss_cons (ss_set (i := 3) sc_law_big.nd (by rfl) (.inl rfl) (se_tup (sa_cons se_int (sa_cons se_int (sa_cons se_int (sa_cons se_int (sa_cons se_int (sa_cons se_int (sa_cons se_int (sa_cons se_int (sa_cons se_int sa_nil)))))))))))
    (ss_cons (ss_set (i := 4) sc_law_big.nd (by rfl) (.inl rfl) se_int)
    (ss_cons (ss_for hp rfl (si_rng (by rfl) T.z_range (sa_cons se_int sa_nil)) (pg_name (i := 5) sc_law_big.nd (by rfl) (.inl rfl)) gs_name (ss_cons (ss_set (i := 6) sc_law_big.nd (by rfl) (.inl rfl) (se_op op_plus os_plus (se_op op_plus os_plus (se_op op_mod os_mod (se_callC c_law_cell_at (hr.mono (by decide)) (by rfl) tk (sa_cons (se_var (pv 0)) (sa_cons (se_op op_plus os_plus (se_var (pv 1)) (se_op op_mod os_mod (se_var (pv 5)) se_int)) sa_nil))) (se_op op_pow os_pow se_int se_int)) (se_op op_mulX os_mul se_int (se_var (pv 5)))) se_int))
    (ss_one (ss_set (i := 4) sc_law_big.nd (by rfl) (.inl rfl) (se_op op_plus os_plus (se_op op_mulX os_mul (se_var (pv 4)) se_int) (se_op op_mod os_mod (se_op op_mulX os_mul (se_op op_mod os_mod (se_op op_plus os_plus (se_op op_mulX os_mul (se_var (pv 6)) (se_var (pv 6))) (se_op op_mulX os_mul se_int (se_var (pv 5)))) (se_ix ix_seq os_ix (se_var (pv 3)) (se_op op_mod os_mod (se_var (pv 5)) se_int) (fun _ _ => rfl))) (se_op op_plus os_plus (se_var (pv 5)) se_int)) se_int))))))
    (ss_one (ss_ret (se_var (pv 4)))))))))
theorem c_law_big (T : Txt P w K mg base) (c_law_cell_at : Cal P w K mg base (PySem.Str.ofString "_law_cell_at") 1 [.sc, .vw] v_law_cell_at) {f : Addr} {fd : FuncData} (F : Fun K "_law_big" "_law_big" s_law_big f fd) (b : Binds K fd [(PySem.Str.ofString "_law_script"), (PySem.Str.ofString "_law_at")] []) (hm : mg (PySem.Str.ofString "_law_big") = some (.ref f)) : Cal P w K mg base (PySem.Str.ofString "_law_big") 2 [.sc, .vw] v_law_big :=
  ⟨f, fd, [(PySem.Str.ofString "_law_script"), (PySem.Str.ofString "_law_at")], fn_data F sc_law_big rfl (d_law_big T c_law_cell_at), hm, F.kp, b⟩
theorem sc_law_ring : FnScope [(PySem.Str.ofString "_law_places"), (PySem.Str.ofString "_law_big_here"), (PySem.Str.ofString "_law_order_here"), (PySem.Str.ofString "_law_arrows"), (PySem.Str.ofString "_law_k")] [(PySem.Str.ofString "_law_places"), (PySem.Str.ofString "_law_big_here")] (defScope s_law_ring) := ⟨rfl, rfl, rfl, by decide +kernel, rfl, by decide +kernel, by decide +kernel⟩
theorem d_law_ring (T : Txt P w K mg base) (c_law_order : Cal P w K mg base (PySem.Str.ofString "_law_order") 1 [.vw, .vw] v_law_order) : DefOk P w K mg base [(PySem.Str.ofString "_law_places"), (PySem.Str.ofString "_law_big_here"), (PySem.Str.ofString "_law_order_here"), (PySem.Str.ofString "_law_arrows"), (PySem.Str.ofString "_law_k")] "_law_ring" s_law_ring 1 m_law_ring := by
  delta m_law_ring l_law_ring_1
  exact fun f cdv A outer s H E W hr tk hp =>
  (ss_cons (ss_set (i := 2) sc_law_ring.nd (by rfl) (.inl rfl) (se_callC c_law_order (hr.mono (by decide)) (by rfl) tk (sa_cons (se_var (pv 0)) (sa_cons (se_var (pv 1)) sa_nil))))
    (ss_cons (ss_set (i := 1) sc_law_ring.nd (by rfl) (.inl rfl) (se_op op_fdivW os_div (se_var (pv 1)) se_int))
    (ss_cons (ss_set (i := 3) sc_law_ring.nd (by rfl) (.inl rfl) se_dkt)
    (ss_cons (ss_for hp rfl (si_rng (by rfl) T.z_range (sa_cons (se_var (pv 0)) sa_nil)) (pg_name (i := 4) sc_law_ring.nd (by rfl) (.inl rfl)) gs_name (ss_cons (ss_tstore (Nat.lt_of_le_of_lt (Nat.add_le_add_left (show 9 ≤ 64 by decide) _) hr.units) se_bl (se_var (pv 3)) (se_tup (sa_cons (se_ix ix_seq os_ix (se_var (pv 2)) (se_op op_sub os_I0 (se_var (pv 4)) se_int) (fun _ _ => rfl)) (sa_cons (se_ix ix_seq os_ix se_str (se_op op_mod os_mod (se_var (pv 1)) se_int) (fun _ _ => rfl)) (sa_cons (se_ix ix_seq os_ix (se_var (pv 2)) (se_var (pv 4)) (fun _ _ => rfl)) sa_nil)))))
    (ss_one (ss_set (i := 1) sc_law_ring.nd (by rfl) (.inl rfl) (se_op op_fdivW os_div (se_var (pv 1)) se_int)))))
    (ss_one (ss_ret (se_var (pv 3))))))))
theorem c_law_ring (T : Txt P w K mg base) (c_law_order : Cal P w K mg base (PySem.Str.ofString "_law_order") 1 [.vw, .vw] v_law_order) {f : Addr} {fd : FuncData} (F : Fun K "_law_ring" "_law_ring" s_law_ring f fd) (b : Binds K fd [(PySem.Str.ofString "_law_places"), (PySem.Str.ofString "_law_big_here")] []) (hm : mg (PySem.Str.ofString "_law_ring") = some (.ref f)) : Cal P w K mg base (PySem.Str.ofString "_law_ring") 2 [.vw, .vw] v_law_ring :=
  ⟨f, fd, [(PySem.Str.ofString "_law_places"), (PySem.Str.ofString "_law_big_here")], fn_data F sc_law_ring rfl (d_law_ring T c_law_order), hm, F.kp, b⟩
theorem sc_law_due : FnScope [(PySem.Str.ofString "_law_reader_here"), (PySem.Str.ofString "_law_sets"), (PySem.Str.ofString "_law_arrows"), (PySem.Str.ofString "_law_k"), (PySem.Str.ofString "_law_mark"), (PySem.Str.ofString "_law_there")] [(PySem.Str.ofString "_law_reader_here")] (defScope s_law_due) := ⟨rfl, rfl, rfl, by decide +kernel, rfl, by decide +kernel, by decide +kernel⟩
theorem d_law_due (T : Txt P w K mg base) (c_law_behind : Cal P w K mg base (PySem.Str.ofString "_law_behind") 1 [.vw, .vw, .vw] v_law_behind) : DefOk P w K mg base [(PySem.Str.ofString "_law_reader_here"), (PySem.Str.ofString "_law_sets"), (PySem.Str.ofString "_law_arrows"), (PySem.Str.ofString "_law_k"), (PySem.Str.ofString "_law_mark"), (PySem.Str.ofString "_law_there")] "_law_due" s_law_due 1 m_law_due := by
  delta m_law_due l_law_due_2 l_law_due_1
  exact fun f cdv A outer s H E W hr tk hp =>
  (ss_cons (ss_set (i := 1) sc_law_due.nd (by rfl) (.inl rfl) (se_lst (sa_cons (se_fz (se_listRg rfl (by rfl) T.z_list (sr_1 (by rfl) T.z_range (se_ix ix_seq os_ix (se_var (pv 0)) se_int (fun _ _ => rfl))))) sa_nil)))
    (ss_cons (ss_set (i := 2) sc_law_due.nd (by rfl) (.inl rfl) (se_lst sa_nil))
    (ss_cons (ss_set (i := 3) sc_law_due.nd (by rfl) (.inl rfl) se_int)
    (ss_cons (ss_while 10000 hp (st_cmp op_lt os_B0 (se_var (pv 3)) (se_callB call_len cs_len (by rfl) T.z_len (by decide +kernel) (sa_cons (se_var (pv 1)) sa_nil)) (nomark _)) (ss_cons (ss_for hp rfl (si_str se_str) (pg_name (i := 4) sc_law_due.nd (by rfl) (.inl rfl)) gs_name (ss_cons (ss_set (i := 5) sc_law_due.nd (by rfl) (.inl rfl) (se_callC c_law_behind (hr.mono (by decide)) (by rfl) tk (sa_cons (se_var (pv 0)) (sa_cons (se_ix ix_seq os_ix (se_var (pv 1)) (se_var (pv 3)) (fun _ _ => rfl)) (sa_cons (se_var (pv 4)) sa_nil)))))
    (ss_one (ss_if (st_cmp (op_neD hr.units) os_ne (se_var (pv 5)) (se_fz (se_lst sa_nil)) (nomark _)) (ss_cons (ss_if (st_cmp (op_notInD (room65 hr)) os_notInD (se_var (pv 5)) (se_var (pv 1)) (by rfl)) (ss_one (ss_expr (se_bm ms_append PySem.F.plainAttrs_list PySem.F.slot_list_append PySem.F.type_list_append mt_append (se_var (pv 1)) (sa_cons (se_fz (se_var (pv 5))) sa_nil)))) ss_nil)
    (ss_one (ss_expr (se_bm ms_append PySem.F.plainAttrs_list PySem.F.slot_list_append PySem.F.type_list_append mt_append (se_var (pv 2)) (sa_cons (se_tup (sa_cons (se_var (pv 3)) (sa_cons (se_var (pv 4)) (sa_cons (se_idx (room65 hr) (se_var (pv 1)) (se_var (pv 5))) sa_nil)))) sa_nil))))) ss_nil))))
    (ss_one (ss_set (i := 3) sc_law_due.nd (by rfl) (.inl rfl) (se_op op_plus os_plus (se_var (pv 3)) se_int)))))
    (ss_one (ss_ret (se_fz (se_tupO (sa_cons (se_var (pv 1)) (sa_cons (se_tupO (sa_cons (se_callB call_len cs_len (by rfl) T.z_len (by decide +kernel) (sa_cons (se_var (pv 1)) sa_nil)) (sa_cons (se_var (pv 2)) sa_nil))) sa_nil))))))))))
theorem c_law_due (T : Txt P w K mg base) (c_law_behind : Cal P w K mg base (PySem.Str.ofString "_law_behind") 1 [.vw, .vw, .vw] v_law_behind) {f : Addr} {fd : FuncData} (F : Fun K "_law_due" "_law_due" s_law_due f fd) (b : Binds K fd [(PySem.Str.ofString "_law_reader_here")] []) (hm : mg (PySem.Str.ofString "_law_due") = some (.ref f)) : Cal P w K mg base (PySem.Str.ofString "_law_due") 2 [.vw] v_law_due :=
  ⟨f, fd, [(PySem.Str.ofString "_law_reader_here")], fn_data F sc_law_due rfl (d_law_due T c_law_behind), hm, F.kp, b⟩
theorem sc_law_one_way : FnScope [(PySem.Str.ofString "_law_places"), (PySem.Str.ofString "_law_big_here"), (PySem.Str.ofString "_law_arrows"), (PySem.Str.ofString "_law_known"), (PySem.Str.ofString "_law_arrow"), (PySem.Str.ofString "_law_place"), (PySem.Str.ofString "_law_mark"), (PySem.Str.ofString "_law_spot")] [(PySem.Str.ofString "_law_places"), (PySem.Str.ofString "_law_big_here")] (defScope s_law_one_way) := ⟨rfl, rfl, rfl, by decide +kernel, rfl, by decide +kernel, by decide +kernel⟩
theorem d_law_one_way (T : Txt P w K mg base) (c_law_ring : Cal P w K mg base (PySem.Str.ofString "_law_ring") 2 [.vw, .vw] v_law_ring) : DefOk P w K mg base [(PySem.Str.ofString "_law_places"), (PySem.Str.ofString "_law_big_here"), (PySem.Str.ofString "_law_arrows"), (PySem.Str.ofString "_law_known"), (PySem.Str.ofString "_law_arrow"), (PySem.Str.ofString "_law_place"), (PySem.Str.ofString "_law_mark"), (PySem.Str.ofString "_law_spot")] "_law_one_way" s_law_one_way 2 m_law_one_way := by
  delta m_law_one_way l_law_one_way_3 l_law_one_way_2 l_law_one_way_1
  exact fun f cdv A outer s H E W hr tk hp =>
  (ss_cons (ss_set (i := 2) sc_law_one_way.nd (by rfl) (.inl rfl) (se_callC c_law_ring (hr.mono (by decide)) (by rfl) tk (sa_cons (se_var (pv 0)) (sa_cons (se_var (pv 1)) sa_nil))))
    (ss_cons (ss_set (i := 1) sc_law_one_way.nd (by rfl) (.inl rfl) (se_op op_fdivW os_div (se_var (pv 1)) (se_op op_pow os_pow se_int se_int)))
    (ss_cons (ss_set (i := 3) sc_law_one_way.nd (by rfl) (.inl rfl) se_dkt)
    (ss_cons (ss_for hp rfl (si_list (se_fz (se_callTy (cr_listN rfl) cs_listT (by rfl) T.z_list (by decide +kernel) (sa_cons (se_var (pv 2)) sa_nil)))) (pg_name (i := 4) sc_law_one_way.nd (by rfl) (.inl rfl)) gs_name (ss_one (ss_tstore (Nat.lt_of_le_of_lt (Nat.add_le_add_left (show 9 ≤ 64 by decide) _) hr.units) se_bl (se_var (pv 3)) (se_tup (sa_cons (se_ix ix_seq os_ix (se_var (pv 4)) se_int (fun _ _ => rfl)) (sa_cons (se_ix ix_seq os_ix (se_var (pv 4)) se_int (fun _ _ => rfl)) sa_nil))))))
    (ss_cons (ss_for hp rfl (si_rng (by rfl) T.z_range (sa_cons (se_var (pv 0)) sa_nil)) (pg_name (i := 5) sc_law_one_way.nd (by rfl) (.inl rfl)) gs_name (ss_one (ss_for hp rfl (si_str se_str) (pg_name (i := 6) sc_law_one_way.nd (by rfl) (.inl rfl)) gs_name (ss_cons (ss_set (i := 7) sc_law_one_way.nd (by rfl) (.inl rfl) (se_op op_mod os_mod (se_var (pv 1)) (se_op op_mulX os_mul se_int (se_var (pv 0)))))
    (ss_cons (ss_set (i := 1) sc_law_one_way.nd (by rfl) (.inl rfl) (se_op op_fdivW os_div (se_var (pv 1)) (se_op op_mulX os_mul se_int (se_var (pv 0)))))
    (ss_one (ss_if (st_w (sw_and (st_cmp op_lt os_B0 (se_var (pv 7)) (se_var (pv 0)) (nomark _)) (sw_and1 (st_tnotin (Nat.lt_of_le_of_lt (Nat.add_le_add_left (show 9 ≤ 64 by decide) _) hr.units) (se_tup (sa_cons (se_var (pv 5)) (sa_cons (se_var (pv 6)) sa_nil))) (se_var (pv 3)) (by rfl))))) (ss_one (ss_tstore (Nat.lt_of_le_of_lt (Nat.add_le_add_left (show 9 ≤ 64 by decide) _) hr.units) se_bl (se_var (pv 2)) (se_tup (sa_cons (se_var (pv 5)) (sa_cons (se_var (pv 6)) (sa_cons (se_var (pv 7)) sa_nil)))))) ss_nil)))))))
    (ss_one (ss_ret (se_var (pv 2)))))))))
theorem c_law_one_way (T : Txt P w K mg base) (c_law_ring : Cal P w K mg base (PySem.Str.ofString "_law_ring") 2 [.vw, .vw] v_law_ring) {f : Addr} {fd : FuncData} (F : Fun K "_law_one_way" "_law_one_way" s_law_one_way f fd) (b : Binds K fd [(PySem.Str.ofString "_law_places"), (PySem.Str.ofString "_law_big_here")] []) (hm : mg (PySem.Str.ofString "_law_one_way") = some (.ref f)) : Cal P w K mg base (PySem.Str.ofString "_law_one_way") 3 [.vw, .vw] v_law_one_way :=
  ⟨f, fd, [(PySem.Str.ofString "_law_places"), (PySem.Str.ofString "_law_big_here")], fn_data F sc_law_one_way rfl (d_law_one_way T c_law_ring), hm, F.kp, b⟩
theorem sc_law_good : FnScope [(PySem.Str.ofString "_law_reader_here"), (PySem.Str.ofString "_law_handed"), (PySem.Str.ofString "_law_due_here"), (PySem.Str.ofString "_law_turn"), (PySem.Str.ofString "_law_told")] [(PySem.Str.ofString "_law_reader_here")] (defScope s_law_good) := ⟨rfl, rfl, rfl, by decide +kernel, rfl, by decide +kernel, by decide +kernel⟩
theorem d_law_good (T : Txt P w K mg base) (c_law_due : Cal P w K mg base (PySem.Str.ofString "_law_due") 2 [.vw] v_law_due) (c_sets_of : Cal P w K mg base (PySem.Str.ofString "sets_of") 2 [.vw] v_sets_of) (c_law_is_kind : Cal P w K mg base (PySem.Str.ofString "_law_is_kind") 1 [.vw] v_law_is_kind) : DefOk P w K mg base [(PySem.Str.ofString "_law_reader_here"), (PySem.Str.ofString "_law_handed"), (PySem.Str.ofString "_law_due_here"), (PySem.Str.ofString "_law_turn"), (PySem.Str.ofString "_law_told")] "_law_good" s_law_good 2 m_law_good := by
  delta m_law_good l_law_good_1
  exact fun f cdv A outer s H E W hr tk hp =>
  (ss_cons (ss_set (i := 1) sc_law_good.nd (by rfl) (.inl rfl) (se_tup (sa_cons (se_ix ix_seq os_ix (se_var (pv 0)) se_int (fun _ _ => rfl)) (sa_cons (se_fz (se_callTy call_list_of cs_list (by rfl) T.z_list (by decide +kernel) (sa_cons (se_ix ix_seq os_ix (se_var (pv 0)) se_int (fun _ _ => rfl)) sa_nil))) sa_nil))))
    (ss_cons (ss_set (i := 2) sc_law_good.nd (by rfl) (.inl rfl) (se_callC c_law_due (hr.mono (by decide)) (by rfl) tk (sa_cons (se_var (pv 0)) sa_nil)))
    (ss_cons (ss_for hp rfl (si_rng (by rfl) T.z_range (sa_cons se_int sa_nil)) (pg_name (i := 3) sc_law_good.nd (by rfl) (.inl rfl)) gs_name (ss_cons (ss_set (i := 4) sc_law_good.nd (by rfl) (.inl rfl) (se_callC c_sets_of (hr.mono (by decide)) (by rfl) tk (sa_cons (se_var (pv 1)) sa_nil)))
    (ss_cons (ss_if (st_w (sw_or (st_cmp (op_neD hr.units) os_ne (se_var (pv 4)) (se_var (pv 2)) (nomark _)) (sw_or (st_not (st_val (se_callC c_law_is_kind (hr.mono (by decide)) (by rfl) tk (sa_cons (se_var (pv 4)) sa_nil)))) (sw_or1 (st_cmp (op_neD hr.units) os_ne (se_var (pv 1)) (se_var (pv 0)) (nomark _)))))) (ss_one (ss_ret se_bl)) ss_nil)
    (ss_cons (ss_expr (se_bm ms_append PySem.F.plainAttrs_list PySem.F.slot_list_append PySem.F.type_list_append mt_append (se_ix ix_seq os_ix (se_ix ix_seq os_ix (se_var (pv 4)) se_int (fun _ _ => rfl)) se_int (fun _ _ => rfl)) (sa_cons se_int sa_nil)))
    (ss_cons (ss_expr (se_bm0 ms_reverse PySem.F.plainAttrs_list PySem.F.slot_list_reverse PySem.F.type_list_reverse mt_reverse (se_ix ix_seq os_ix (se_var (pv 4)) se_int (fun _ _ => rfl))))
    (ss_one (ss_expr (se_bm ms_append PySem.F.plainAttrs_list PySem.F.slot_list_append PySem.F.type_list_append mt_append (se_ix ix_seq os_ix (se_ix ix_seq os_ix (se_var (pv 4)) se_int (fun _ _ => rfl)) se_int (fun _ _ => rfl)) (sa_cons (se_tup (sa_cons se_int (sa_cons se_str (sa_cons se_int sa_nil)))) sa_nil)))))))))
    (ss_one (ss_ret se_bl)))))
theorem c_law_good (T : Txt P w K mg base) (c_law_due : Cal P w K mg base (PySem.Str.ofString "_law_due") 2 [.vw] v_law_due) (c_sets_of : Cal P w K mg base (PySem.Str.ofString "sets_of") 2 [.vw] v_sets_of) (c_law_is_kind : Cal P w K mg base (PySem.Str.ofString "_law_is_kind") 1 [.vw] v_law_is_kind) {f : Addr} {fd : FuncData} (F : Fun K "_law_good" "_law_good" s_law_good f fd) (b : Binds K fd [(PySem.Str.ofString "_law_reader_here")] []) (hm : mg (PySem.Str.ofString "_law_good") = some (.ref f)) : Cal P w K mg base (PySem.Str.ofString "_law_good") 3 [.vw] v_law_good :=
  ⟨f, fd, [(PySem.Str.ofString "_law_reader_here")], fn_data F sc_law_good rfl (d_law_good T c_law_due c_sets_of c_law_is_kind), hm, F.kp, b⟩
theorem sc_law_reader : FnScope [(PySem.Str.ofString "_law_big_here"), (PySem.Str.ofString "_law_most"), (PySem.Str.ofString "_law_places"), (PySem.Str.ofString "_law_way"), (PySem.Str.ofString "_law_arrows")] [(PySem.Str.ofString "_law_big_here"), (PySem.Str.ofString "_law_most")] (defScope s_law_reader) := ⟨rfl, rfl, rfl, by decide +kernel, rfl, by decide +kernel, by decide +kernel⟩
theorem d_law_reader (T : Txt P w K mg base) (c_law_more : Cal P w K mg base (PySem.Str.ofString "_law_more") 1 [.vw, .vw, .vw, .vw, .vw] v_law_more) (c_law_one_way : Cal P w K mg base (PySem.Str.ofString "_law_one_way") 3 [.vw, .vw] v_law_one_way) (c_law_ring : Cal P w K mg base (PySem.Str.ofString "_law_ring") 2 [.vw, .vw] v_law_ring) (r_law_more : CalR P w K mg base (PySem.Str.ofString "_law_more") 1 5 8 m_law_more) : DefOk P w K mg base [(PySem.Str.ofString "_law_big_here"), (PySem.Str.ofString "_law_most"), (PySem.Str.ofString "_law_places"), (PySem.Str.ofString "_law_way"), (PySem.Str.ofString "_law_arrows")] "_law_reader" s_law_reader 3 m_law_reader := by
  delta m_law_reader
  exact fun f cdv A outer s H E W hr tk hp =>
  (ss_cons (ss_set (i := 2) sc_law_reader.nd (by rfl) (.inl rfl) (se_op op_plus os_plus se_int (se_op op_mod os_mod (se_var (pv 0)) (se_var (pv 1)))))
    (ss_cons (ss_set (i := 3) sc_law_reader.nd (by rfl) (.inl rfl) (se_op op_mod os_mod (se_op op_fdivW os_div (se_var (pv 0)) (se_var (pv 1))) se_int))
    (ss_cons (ss_set (i := 0) sc_law_reader.nd (by rfl) (.inl rfl) (se_op op_fdivW os_div (se_var (pv 0)) (se_op op_mulX os_mul se_int (se_var (pv 1)))))
    (ss_cons (ss_if (st_cmp (op_eqD hr.units) os_eq (se_var (pv 3)) se_int (nomark _)) (ss_one (ss_set (i := 4) sc_law_reader.nd (by rfl) (.inl rfl) (se_callR r_law_more (hr.mono (by decide)) (by rfl) tk (sa_cons (se_var (pv 2)) (sa_cons se_dkt (sa_cons (se_var (pv 0)) (sa_cons se_int (sa_cons se_int sa_nil)))))))) (ss_one (ss_if (st_cmp (op_eqD hr.units) os_eq (se_var (pv 3)) se_int (nomark _)) (ss_one (ss_set (i := 4) sc_law_reader.nd (by rfl) (.inl rfl) (se_callR r_law_more (hr.mono (by decide)) (by rfl) tk (sa_cons (se_var (pv 2)) (sa_cons se_dkt (sa_cons (se_var (pv 0)) (sa_cons se_int (sa_cons se_int sa_nil)))))))) (ss_one (ss_if (st_cmp (op_eqD hr.units) os_eq (se_var (pv 3)) se_int (nomark _)) (ss_one (ss_set (i := 4) sc_law_reader.nd (by rfl) (.inl rfl) (se_callC c_law_one_way (hr.mono (by decide)) (by rfl) tk (sa_cons (se_var (pv 2)) (sa_cons (se_var (pv 0)) sa_nil))))) (ss_one (ss_set (i := 4) sc_law_reader.nd (by rfl) (.inl rfl) (se_callR r_law_more (hr.mono (by decide)) (by rfl) tk (sa_cons (se_var (pv 2)) (sa_cons (se_callC c_law_ring (hr.mono (by decide)) (by rfl) tk (sa_cons (se_var (pv 2)) (sa_cons (se_var (pv 0)) sa_nil))) (sa_cons (se_op op_fdivW os_div (se_var (pv 0)) (se_op op_pow os_pow se_int se_int)) (sa_cons se_int (sa_cons se_int sa_nil)))))))))))))
    (ss_one (ss_ret (se_tup (sa_cons (se_var (pv 2)) (sa_cons (se_fz (se_callB (cr_sortedN rfl) cs_sortedT (by rfl) T.z_sorted (by decide +kernel) (sa_cons (se_var (pv 4)) sa_nil))) sa_nil)))))))))
theorem c_law_reader (T : Txt P w K mg base) (c_law_more : Cal P w K mg base (PySem.Str.ofString "_law_more") 1 [.vw, .vw, .vw, .vw, .vw] v_law_more) (c_law_one_way : Cal P w K mg base (PySem.Str.ofString "_law_one_way") 3 [.vw, .vw] v_law_one_way) (c_law_ring : Cal P w K mg base (PySem.Str.ofString "_law_ring") 2 [.vw, .vw] v_law_ring) (r_law_more : CalR P w K mg base (PySem.Str.ofString "_law_more") 1 5 8 m_law_more) {f : Addr} {fd : FuncData} (F : Fun K "_law_reader" "_law_reader" s_law_reader f fd) (b : Binds K fd [(PySem.Str.ofString "_law_big_here"), (PySem.Str.ofString "_law_most")] []) (hm : mg (PySem.Str.ofString "_law_reader") = some (.ref f)) : Cal P w K mg base (PySem.Str.ofString "_law_reader") 4 [.vw, .vw] v_law_reader :=
  ⟨f, fd, [(PySem.Str.ofString "_law_big_here"), (PySem.Str.ofString "_law_most")], fn_data F sc_law_reader rfl (d_law_reader T c_law_more c_law_one_way c_law_ring r_law_more), hm, F.kp, b⟩
theorem sc_law : FnScope [(PySem.Str.ofString "_law_script"), (PySem.Str.ofString "_law_one"), (PySem.Str.ofString "_law_other")] [(PySem.Str.ofString "_law_script")] (defScope s_law) := ⟨rfl, rfl, rfl, by decide +kernel, rfl, by decide +kernel, by decide +kernel⟩
theorem d_law (T : Txt P w K mg base) (c_law_reader : Cal P w K mg base (PySem.Str.ofString "_law_reader") 4 [.vw, .vw] v_law_reader) (c_law_big : Cal P w K mg base (PySem.Str.ofString "_law_big") 2 [.sc, .vw] v_law_big) (c_law_good : Cal P w K mg base (PySem.Str.ofString "_law_good") 3 [.vw] v_law_good) : DefOk P w K mg base [(PySem.Str.ofString "_law_script"), (PySem.Str.ofString "_law_one"), (PySem.Str.ofString "_law_other")] "law" s_law 4 m_law := by
  delta m_law
  exact fun f cdv A outer s H E W hr tk hp =>
  (ss_cons (ss_set (i := 1) sc_law.nd (by rfl) (.inl rfl) (se_callC c_law_reader (hr.mono (by decide)) (by rfl) tk (sa_cons (se_callC c_law_big (hr.mono (by decide)) (by rfl) tk (sa_cons (se_var (pv 0)) (sa_cons se_int sa_nil))) (sa_cons se_int sa_nil))))
    (ss_cons (ss_set (i := 2) sc_law.nd (by rfl) (.inl rfl) (se_callC c_law_reader (hr.mono (by decide)) (by rfl) tk (sa_cons (se_callC c_law_big (hr.mono (by decide)) (by rfl) tk (sa_cons (se_var (pv 0)) (sa_cons se_int sa_nil))) (sa_cons se_int sa_nil))))
    (ss_one (ss_ret (se_and (se_callC c_law_good (hr.mono (by decide)) (by rfl) tk (sa_cons (se_var (pv 1)) sa_nil)) (se_and (se_callC c_law_good (hr.mono (by decide)) (by rfl) tk (sa_cons (se_var (pv 2)) sa_nil)) (se_one (se_callC c_law_good (hr.mono (by decide)) (by rfl) tk (sa_cons (se_var (pv 1)) sa_nil)))))))))
theorem c_law (T : Txt P w K mg base) (c_law_reader : Cal P w K mg base (PySem.Str.ofString "_law_reader") 4 [.vw, .vw] v_law_reader) (c_law_big : Cal P w K mg base (PySem.Str.ofString "_law_big") 2 [.sc, .vw] v_law_big) (c_law_good : Cal P w K mg base (PySem.Str.ofString "_law_good") 3 [.vw] v_law_good) {f : Addr} {fd : FuncData} (F : Fun K "law" "law" s_law f fd) (b : Binds K fd [(PySem.Str.ofString "_law_script")] []) (hm : mg (PySem.Str.ofString "law") = some (.ref f)) : Cal P w K mg base (PySem.Str.ofString "law") 5 [.sc] v_law :=
  ⟨f, fd, [(PySem.Str.ofString "_law_script")], fn_data F sc_law rfl (d_law T c_law_reader c_law_big c_law_good), hm, F.kp, b⟩
end
theorem all_mk (law_ok : ∀ ns : List Int, ns.length ≤ 63 → ∃ h, v_law [.list (ns.map PyData.int)] = .ok (.d (.bool true)) h) {l : PySem.W.OpenLaw} {w : World} {K : PySem.W.Frag} {h : Heap} {mg : Str → Option Value} {fa : Addr} (X : K.In h) (G : h.Ns mainGlobals mg) (hfa : mg (PySem.Str.ofString "law") = some (.ref fa))
    {f0 : Addr} {od0 an0 : Option Addr} {sl0 : Array (Option Value)} {oc0 kV0 dc0 pm0 cd0 ct0 : Value}
    (a0 : PySem.W.nsIn K mainGlobals (PySem.Str.ofString "net_of") = some (some (.ref f0))) (l0 : K.lookup f0 = some ⟨oc0, od0, .func (PySem.W.fnOf "net_of" "net_of" (defArgs s_net_of) (defBody s_net_of) (defScope s_net_of) .none kV0 dc0 pm0 an0 cd0 ct0), sl0⟩) (c0 : PySem.W.codeIn K cd0 "net_of" = true) (k0 : PySem.W.keepIn K (.ref f0) = true)
    {f1 : Addr} {od1 an1 : Option Addr} {sl1 : Array (Option Value)} {oc1 kV1 dc1 pm1 cd1 ct1 : Value}
    (a1 : PySem.W.nsIn K mainGlobals (PySem.Str.ofString "places_by") = some (some (.ref f1))) (l1 : K.lookup f1 = some ⟨oc1, od1, .func (PySem.W.fnOf "places_by" "places_by" (defArgs s_places_by) (defBody s_places_by) (defScope s_places_by) .none kV1 dc1 pm1 an1 cd1 ct1), sl1⟩) (c1 : PySem.W.codeIn K cd1 "places_by" = true) (k1 : PySem.W.keepIn K (.ref f1) = true)
    {f2 : Addr} {od2 an2 : Option Addr} {sl2 : Array (Option Value)} {oc2 kV2 dc2 pm2 cd2 ct2 : Value}
    (a2 : PySem.W.nsIn K mainGlobals (PySem.Str.ofString "_law_cell_at") = some (some (.ref f2))) (l2 : K.lookup f2 = some ⟨oc2, od2, .func (PySem.W.fnOf "_law_cell_at" "_law_cell_at" (defArgs s_law_cell_at) (defBody s_law_cell_at) (defScope s_law_cell_at) .none kV2 dc2 pm2 an2 cd2 ct2), sl2⟩) (c2 : PySem.W.codeIn K cd2 "_law_cell_at" = true) (k2 : PySem.W.keepIn K (.ref f2) = true)
    {f3 : Addr} {od3 an3 : Option Addr} {sl3 : Array (Option Value)} {oc3 kV3 dc3 pm3 cd3 ct3 : Value}
    (a3 : PySem.W.nsIn K mainGlobals (PySem.Str.ofString "_law_order") = some (some (.ref f3))) (l3 : K.lookup f3 = some ⟨oc3, od3, .func (PySem.W.fnOf "_law_order" "_law_order" (defArgs s_law_order) (defBody s_law_order) (defScope s_law_order) .none kV3 dc3 pm3 an3 cd3 ct3), sl3⟩) (c3 : PySem.W.codeIn K cd3 "_law_order" = true) (k3 : PySem.W.keepIn K (.ref f3) = true)
    {f4 : Addr} {od4 an4 : Option Addr} {sl4 : Array (Option Value)} {oc4 kV4 dc4 pm4 cd4 ct4 : Value}
    (a4 : PySem.W.nsIn K mainGlobals (PySem.Str.ofString "_law_more") = some (some (.ref f4))) (l4 : K.lookup f4 = some ⟨oc4, od4, .func (PySem.W.fnOf "_law_more" "_law_more" (defArgs s_law_more) (defBody s_law_more) (defScope s_law_more) .none kV4 dc4 pm4 an4 cd4 ct4), sl4⟩) (c4 : PySem.W.codeIn K cd4 "_law_more" = true) (k4 : PySem.W.keepIn K (.ref f4) = true)
    {f5 : Addr} {od5 an5 : Option Addr} {sl5 : Array (Option Value)} {oc5 kV5 dc5 pm5 cd5 ct5 : Value}
    (a5 : PySem.W.nsIn K mainGlobals (PySem.Str.ofString "_law_behind") = some (some (.ref f5))) (l5 : K.lookup f5 = some ⟨oc5, od5, .func (PySem.W.fnOf "_law_behind" "_law_behind" (defArgs s_law_behind) (defBody s_law_behind) (defScope s_law_behind) .none kV5 dc5 pm5 an5 cd5 ct5), sl5⟩) (c5 : PySem.W.codeIn K cd5 "_law_behind" = true) (k5 : PySem.W.keepIn K (.ref f5) = true)
    {f6 : Addr} {od6 an6 : Option Addr} {sl6 : Array (Option Value)} {oc6 kV6 dc6 pm6 cd6 ct6 : Value}
    (a6 : PySem.W.nsIn K mainGlobals (PySem.Str.ofString "_law_is_kind") = some (some (.ref f6))) (l6 : K.lookup f6 = some ⟨oc6, od6, .func (PySem.W.fnOf "_law_is_kind" "_law_is_kind" (defArgs s_law_is_kind) (defBody s_law_is_kind) (defScope s_law_is_kind) .none kV6 dc6 pm6 an6 cd6 ct6), sl6⟩) (c6 : PySem.W.codeIn K cd6 "_law_is_kind" = true) (k6 : PySem.W.keepIn K (.ref f6) = true)
    {f7 : Addr} {od7 an7 : Option Addr} {sl7 : Array (Option Value)} {oc7 kV7 dc7 pm7 cd7 ct7 : Value}
    (a7 : PySem.W.nsIn K mainGlobals (PySem.Str.ofString "sets_of") = some (some (.ref f7))) (l7 : K.lookup f7 = some ⟨oc7, od7, .func (PySem.W.fnOf "sets_of" "sets_of" (defArgs s_sets_of) (defBody s_sets_of) (defScope s_sets_of) .none kV7 dc7 pm7 an7 cd7 ct7), sl7⟩) (c7 : PySem.W.codeIn K cd7 "sets_of" = true) (k7 : PySem.W.keepIn K (.ref f7) = true)
    {f8 : Addr} {od8 an8 : Option Addr} {sl8 : Array (Option Value)} {oc8 kV8 dc8 pm8 cd8 ct8 : Value}
    (a8 : PySem.W.nsIn K mainGlobals (PySem.Str.ofString "_law_big") = some (some (.ref f8))) (l8 : K.lookup f8 = some ⟨oc8, od8, .func (PySem.W.fnOf "_law_big" "_law_big" (defArgs s_law_big) (defBody s_law_big) (defScope s_law_big) .none kV8 dc8 pm8 an8 cd8 ct8), sl8⟩) (c8 : PySem.W.codeIn K cd8 "_law_big" = true) (k8 : PySem.W.keepIn K (.ref f8) = true)
    {f9 : Addr} {od9 an9 : Option Addr} {sl9 : Array (Option Value)} {oc9 kV9 dc9 pm9 cd9 ct9 : Value}
    (a9 : PySem.W.nsIn K mainGlobals (PySem.Str.ofString "_law_ring") = some (some (.ref f9))) (l9 : K.lookup f9 = some ⟨oc9, od9, .func (PySem.W.fnOf "_law_ring" "_law_ring" (defArgs s_law_ring) (defBody s_law_ring) (defScope s_law_ring) .none kV9 dc9 pm9 an9 cd9 ct9), sl9⟩) (c9 : PySem.W.codeIn K cd9 "_law_ring" = true) (k9 : PySem.W.keepIn K (.ref f9) = true)
    {f10 : Addr} {od10 an10 : Option Addr} {sl10 : Array (Option Value)} {oc10 kV10 dc10 pm10 cd10 ct10 : Value}
    (a10 : PySem.W.nsIn K mainGlobals (PySem.Str.ofString "_law_due") = some (some (.ref f10))) (l10 : K.lookup f10 = some ⟨oc10, od10, .func (PySem.W.fnOf "_law_due" "_law_due" (defArgs s_law_due) (defBody s_law_due) (defScope s_law_due) .none kV10 dc10 pm10 an10 cd10 ct10), sl10⟩) (c10 : PySem.W.codeIn K cd10 "_law_due" = true) (k10 : PySem.W.keepIn K (.ref f10) = true)
    {f11 : Addr} {od11 an11 : Option Addr} {sl11 : Array (Option Value)} {oc11 kV11 dc11 pm11 cd11 ct11 : Value}
    (a11 : PySem.W.nsIn K mainGlobals (PySem.Str.ofString "_law_one_way") = some (some (.ref f11))) (l11 : K.lookup f11 = some ⟨oc11, od11, .func (PySem.W.fnOf "_law_one_way" "_law_one_way" (defArgs s_law_one_way) (defBody s_law_one_way) (defScope s_law_one_way) .none kV11 dc11 pm11 an11 cd11 ct11), sl11⟩) (c11 : PySem.W.codeIn K cd11 "_law_one_way" = true) (k11 : PySem.W.keepIn K (.ref f11) = true)
    {f12 : Addr} {od12 an12 : Option Addr} {sl12 : Array (Option Value)} {oc12 kV12 dc12 pm12 cd12 ct12 : Value}
    (a12 : PySem.W.nsIn K mainGlobals (PySem.Str.ofString "_law_good") = some (some (.ref f12))) (l12 : K.lookup f12 = some ⟨oc12, od12, .func (PySem.W.fnOf "_law_good" "_law_good" (defArgs s_law_good) (defBody s_law_good) (defScope s_law_good) .none kV12 dc12 pm12 an12 cd12 ct12), sl12⟩) (c12 : PySem.W.codeIn K cd12 "_law_good" = true) (k12 : PySem.W.keepIn K (.ref f12) = true)
    {f13 : Addr} {od13 an13 : Option Addr} {sl13 : Array (Option Value)} {oc13 kV13 dc13 pm13 cd13 ct13 : Value}
    (a13 : PySem.W.nsIn K mainGlobals (PySem.Str.ofString "_law_reader") = some (some (.ref f13))) (l13 : K.lookup f13 = some ⟨oc13, od13, .func (PySem.W.fnOf "_law_reader" "_law_reader" (defArgs s_law_reader) (defBody s_law_reader) (defScope s_law_reader) .none kV13 dc13 pm13 an13 cd13 ct13), sl13⟩) (c13 : PySem.W.codeIn K cd13 "_law_reader" = true) (k13 : PySem.W.keepIn K (.ref f13) = true)
    {f14 : Addr} {od14 an14 : Option Addr} {sl14 : Array (Option Value)} {oc14 kV14 dc14 pm14 cd14 ct14 : Value}
    (a14 : PySem.W.nsIn K mainGlobals (PySem.Str.ofString "law") = some (some (.ref f14))) (l14 : K.lookup f14 = some ⟨oc14, od14, .func (PySem.W.fnOf "law" "law" (defArgs s_law) (defBody s_law) (defScope s_law) .none kV14 dc14 pm14 an14 cd14 ct14), sl14⟩) (c14 : PySem.W.codeIn K cd14 "law" = true) (k14 : PySem.W.keepIn K (.ref f14) = true)
    (z_all : PySem.W.nsIn K mainGlobals (PySem.Str.ofString "all") = some none)
    (z_any : PySem.W.nsIn K mainGlobals (PySem.Str.ofString "any") = some none)
    (z_bool : PySem.W.nsIn K mainGlobals (PySem.Str.ofString "bool") = some none)
    (z_int : PySem.W.nsIn K mainGlobals (PySem.Str.ofString "int") = some none)
    (z_isinstance : PySem.W.nsIn K mainGlobals (PySem.Str.ofString "isinstance") = some none)
    (z_len : PySem.W.nsIn K mainGlobals (PySem.Str.ofString "len") = some none)
    (z_list : PySem.W.nsIn K mainGlobals (PySem.Str.ofString "list") = some none)
    (z_range : PySem.W.nsIn K mainGlobals (PySem.Str.ofString "range") = some none)
    (z_sorted : PySem.W.nsIn K mainGlobals (PySem.Str.ofString "sorted") = some none)
    (z_tuple : PySem.W.nsIn K mainGlobals (PySem.Str.ofString "tuple") = some none)
    {A_MARKS : Addr} {o_MARKS : Option Addr} {n_MARKS : Nat} {sl_MARKS : Array (Option Value)} {t_MARKS_0 t_MARKS_1 t_MARKS_2 t_MARKS_3 : Tok}
    (g_MARKS : PySem.W.nsIn K mainGlobals (PySem.Str.ofString "MARKS") = some (some (.ref A_MARKS)))
    (h_MARKS : K.lookup A_MARKS = some ⟨.type "tuple", o_MARKS, .seq #[.str (PySem.Str.ofString "a") t_MARKS_0, .str (PySem.Str.ofString "b") t_MARKS_1, .str (PySem.Str.ofString "c") t_MARKS_2, .str (PySem.Str.ofString "d") t_MARKS_3] n_MARKS, sl_MARKS⟩)
    : ∃ fd : FuncData, (∀ (s : Shared) (v : Value), BindsTo s fd ⟨[v], []⟩ [((PySem.Str.ofString "_law_script"), v)]) ∧ ∀ base : Heap, K.In base → base.Ns mainGlobals mg → FnOk l.prog w K mg base (L2N.CX l.prog w) 5 fa fd [(PySem.Str.ofString "_law_script")] (spLaw K) := by
  have e := hfa.symm.trans (PySem.W.mg_of X G a14)
  cases e
  have F0 := fun_mk (st := s_net_of) l0 c0 k0
  have b0 := F0.binds (ps := [(PySem.Str.ofString "reader")]) fun _ _ _ _ _ _ us hl => match us, hl with | [_], _ => rfl
  have F1 := fun_mk (st := s_places_by) l1 c1 k1
  have b1 := F1.binds (ps := [(PySem.Str.ofString "net"), (PySem.Str.ofString "places"), (PySem.Str.ofString "mark")]) fun _ _ _ _ _ _ us hl => match us, hl with | [_, _, _], _ => rfl
  have F2 := fun_mk (st := s_law_cell_at) l2 c2 k2
  have b2 := F2.binds (ps := [(PySem.Str.ofString "_law_script"), (PySem.Str.ofString "_law_k")]) fun _ _ _ _ _ _ us hl => match us, hl with | [_, _], _ => rfl
  have F3 := fun_mk (st := s_law_order) l3 c3 k3
  have b3 := F3.binds (ps := [(PySem.Str.ofString "_law_many"), (PySem.Str.ofString "_law_big_here")]) fun _ _ _ _ _ _ us hl => match us, hl with | [_, _], _ => rfl
  have F4 := fun_mk (st := s_law_more) l4 c4 k4
  have b4 := F4.binds (ps := [(PySem.Str.ofString "_law_places"), (PySem.Str.ofString "_law_arrows"), (PySem.Str.ofString "_law_big_here"), (PySem.Str.ofString "_law_rare"), (PySem.Str.ofString "_law_most")]) fun _ _ _ _ _ _ us hl => match us, hl with | [_, _, _, _, _], _ => rfl
  have F5 := fun_mk (st := s_law_behind) l5 c5 k5
  have b5 := F5.binds (ps := [(PySem.Str.ofString "_law_reader_here"), (PySem.Str.ofString "_law_places"), (PySem.Str.ofString "_law_mark")]) fun _ _ _ _ _ _ us hl => match us, hl with | [_, _, _], _ => rfl
  have F6 := fun_mk (st := s_law_is_kind) l6 c6 k6
  have b6 := F6.binds (ps := [(PySem.Str.ofString "_law_told")]) fun _ _ _ _ _ _ us hl => match us, hl with | [_], _ => rfl
  have F7 := fun_mk (st := s_sets_of) l7 c7 k7
  have b7 := F7.binds (ps := [(PySem.Str.ofString "reader")]) fun _ _ _ _ _ _ us hl => match us, hl with | [_], _ => rfl
  have F8 := fun_mk (st := s_law_big) l8 c8 k8
  have b8 := F8.binds (ps := [(PySem.Str.ofString "_law_script"), (PySem.Str.ofString "_law_at")]) fun _ _ _ _ _ _ us hl => match us, hl with | [_, _], _ => rfl
  have F9 := fun_mk (st := s_law_ring) l9 c9 k9
  have b9 := F9.binds (ps := [(PySem.Str.ofString "_law_places"), (PySem.Str.ofString "_law_big_here")]) fun _ _ _ _ _ _ us hl => match us, hl with | [_, _], _ => rfl
  have F10 := fun_mk (st := s_law_due) l10 c10 k10
  have b10 := F10.binds (ps := [(PySem.Str.ofString "_law_reader_here")]) fun _ _ _ _ _ _ us hl => match us, hl with | [_], _ => rfl
  have F11 := fun_mk (st := s_law_one_way) l11 c11 k11
  have b11 := F11.binds (ps := [(PySem.Str.ofString "_law_places"), (PySem.Str.ofString "_law_big_here")]) fun _ _ _ _ _ _ us hl => match us, hl with | [_, _], _ => rfl
  have F12 := fun_mk (st := s_law_good) l12 c12 k12
  have b12 := F12.binds (ps := [(PySem.Str.ofString "_law_reader_here")]) fun _ _ _ _ _ _ us hl => match us, hl with | [_], _ => rfl
  have F13 := fun_mk (st := s_law_reader) l13 c13 k13
  have b13 := F13.binds (ps := [(PySem.Str.ofString "_law_big_here"), (PySem.Str.ofString "_law_most")]) fun _ _ _ _ _ _ us hl => match us, hl with | [_, _], _ => rfl
  have F14 := fun_mk (st := s_law) l14 c14 k14
  have b14 := F14.binds (ps := [(PySem.Str.ofString "_law_script")]) fun _ _ _ _ _ _ us hl => match us, hl with | [_], _ => rfl
  refine ⟨PySem.W.fnOf "law" "law" (defArgs s_law) (defBody s_law) (defScope s_law) .none kV14 dc14 pm14 an14 cd14 ct14, fun s v => .of_eq rfl, fun base _ _ => ?_⟩
  · have T : Txt l.prog w K mg base := ⟨PySem.W.mg_none_of X G z_all, PySem.W.mg_none_of X G z_any, PySem.W.mg_none_of X G z_bool, PySem.W.mg_none_of X G z_int, PySem.W.mg_none_of X G z_isinstance, PySem.W.mg_none_of X G z_len, PySem.W.mg_none_of X G z_list, PySem.W.mg_none_of X G z_range, PySem.W.mg_none_of X G z_sorted, PySem.W.mg_none_of X G z_tuple, ⟨A_MARKS, _, _, _, PySem.W.mg_of X G g_MARKS, h_MARKS, rfl, rfl, (by show 4 ≤ sizeLine; rw [sizeLine_eq]; decide), .cons ⟨_, rfl⟩ (.cons ⟨_, rfl⟩ (.cons ⟨_, rfl⟩ (.cons ⟨_, rfl⟩ (.nil))))⟩⟩
    have C0 := c_net_of T  F0 b0 (PySem.W.mg_of X G a0)
    have C1 := c_places_by T  F1 b1 (PySem.W.mg_of X G a1)
    have C2 := c_law_cell_at T  F2 b2 (PySem.W.mg_of X G a2)
    have C3 := c_law_order T  F3 b3 (PySem.W.mg_of X G a3)
    have C4 := c_law_more T  F4 b4 (PySem.W.mg_of X G a4)
    have R4 := r_law_more T  F4 b4 (PySem.W.mg_of X G a4)
    have C5 := c_law_behind T  F5 b5 (PySem.W.mg_of X G a5)
    have C6 := c_law_is_kind T  F6 b6 (PySem.W.mg_of X G a6)
    have C7 := c_sets_of T C0 C1 F7 b7 (PySem.W.mg_of X G a7)
    have C8 := c_law_big T C2 F8 b8 (PySem.W.mg_of X G a8)
    have C9 := c_law_ring T C3 F9 b9 (PySem.W.mg_of X G a9)
    have C10 := c_law_due T C5 F10 b10 (PySem.W.mg_of X G a10)
    have C11 := c_law_one_way T C9 F11 b11 (PySem.W.mg_of X G a11)
    have C12 := c_law_good T C10 C7 C6 F12 b12 (PySem.W.mg_of X G a12)
    have C13 := c_law_reader T C4 C11 C9 R4 F13 b13 (PySem.W.mg_of X G a13)
    have C14 := c_law T C13 C8 C12 F14 b14 (PySem.W.mg_of X G a14)
    exact law_fn (fn_data F14 sc_law rfl (d_law T C13 C8 C12)) law_ok
end Gn
open PySem PySem.W PyProof.Rows
set_option maxRecDepth 100000 in
set_option maxHeartbeats 0 in
theorem PySem.Challenge.cw_foreverrows_k27_sets_read_one_way_holds : PySem.Challenge.rw_foreverrows_k27_sets_read_one_way.Holds := by
  w_on; o_law; k_head; (case hw => w_witness2)
  k_fill
  refine L2.walk_of (l := PySem.Challenge.rw_foreverrows_k27_sets_read_one_way) (n := 63) (k := 5) (x := "_law_script") (CX := fun w => L2N.CX PySem.Challenge.rw_foreverrows_k27_sets_read_one_way.prog w) (sp := fun w => Zx.spLaw _) rfl (by decide) rfl ⟨rfl, by decide, by decide⟩ (fun w h Y => PySem.W.kIn_of Y) ?F Zx.spLaw_start (fun w H s e s' h => Zx.cx_none h)
  case F =>
    intro w mg fa h KX G hmg
    refine' Gn.all_mk Gn.V.law_ok KX G hmg ?a0 ?l0 ?c0 ?k0 ?a1 ?l1 ?c1 ?k1 ?a2 ?l2 ?c2 ?k2 ?a3 ?l3 ?c3 ?k3 ?a4 ?l4 ?c4 ?k4 ?a5 ?l5 ?c5 ?k5 ?a6 ?l6 ?c6 ?k6 ?a7 ?l7 ?c7 ?k7 ?a8 ?l8 ?c8 ?k8 ?a9 ?l9 ?c9 ?k9 ?a10 ?l10 ?c10 ?k10 ?a11 ?l11 ?c11 ?k11 ?a12 ?l12 ?c12 ?k12 ?a13 ?l13 ?c13 ?k13 ?a14 ?l14 ?c14 ?k14 ?z_all ?z_any ?z_bool ?z_int ?z_isinstance ?z_len ?z_list ?z_range ?z_sorted ?z_tuple ?g_MARKS ?h_MARKS
    (case a0 => k_is); (case l0 => k_is); (case c0 => k_is); (case k0 => k_is); (case a1 => k_is); (case l1 => k_is); (case c1 => k_is); (case k1 => k_is); (case a2 => k_is); (case l2 => k_is); (case c2 => k_is); (case k2 => k_is); (case a3 => k_is); (case l3 => k_is); (case c3 => k_is); (case k3 => k_is); (case a4 => k_is); (case l4 => k_is); (case c4 => k_is); (case k4 => k_is); (case a5 => k_is); (case l5 => k_is); (case c5 => k_is); (case k5 => k_is); (case a6 => k_is); (case l6 => k_is); (case c6 => k_is); (case k6 => k_is); (case a7 => k_is); (case l7 => k_is); (case c7 => k_is); (case k7 => k_is); (case a8 => k_is); (case l8 => k_is); (case c8 => k_is); (case k8 => k_is); (case a9 => k_is); (case l9 => k_is); (case c9 => k_is); (case k9 => k_is); (case a10 => k_is); (case l10 => k_is); (case c10 => k_is); (case k10 => k_is); (case a11 => k_is); (case l11 => k_is); (case c11 => k_is); (case k11 => k_is); (case a12 => k_is); (case l12 => k_is); (case c12 => k_is); (case k12 => k_is); (case a13 => k_is); (case l13 => k_is); (case c13 => k_is); (case k13 => k_is); (case a14 => k_is); (case l14 => k_is); (case c14 => k_is); (case k14 => k_is); (case z_all => k_is); (case z_any => k_is); (case z_bool => k_is); (case z_int => k_is); (case z_isinstance => k_is); (case z_len => k_is); (case z_list => k_is); (case z_range => k_is); (case z_sorted => k_is); (case z_tuple => k_is); (case g_MARKS => k_is); (case h_MARKS => k_is)
