import PyProof.Rows.All
import Wide.All
import OpenK.AllK
import Wide.FinOn
import HandS.ForMost
import HandS.ForExc
import HandS.Wide
import HandS.Walk
import HandS.Zip
import HandS.ExcCtx
import HandS.HotCalls
import HandS.Conv
import HandS.IsInst
import HandS.SortInts
import HandS.ExcOwn
import HandS.ExcIs
import HandS.TryOnly
import HandS.Dict
import HandS.Small
import HandS.WordsDict
import HandS.Rev
import PyProof.ListNew
import HandS.Style
import HandS.Text
import HandS.Iter
import PyProof.StrBlock2
import PyProof.WalksS
import PyProof.WalkInts
import HandS.SortKw
import HandS.SortOrd
import HandS.SortRule
import PyProof.Rows.SortKeyStr
import PyProof.Rows.SortStr
import HandS.Hot
import HandS.More
import HandS.RevRange
import HandS.Deep
import HandS.TupSets
import HandS.SetFor
import HandS.EndBits
import PyProof.ReprRoads
import HandS.FStr
import PySem.Challenge.RW_foreverrows_k83_texts_of_moves
set_option Elab.async false
set_option linter.all false
set_option maxRecDepth 100000
set_option maxHeartbeats 4000000
set_option exponentiation.threshold 2000
namespace Zx
open PySem PySem.Spec L2
def isMk : PyData → Bool
  | .none => true
  | _ => false
def lkq : List (PyData × PyData) → Bool
  | [] => false
  | p :: _ => isMk p.1
def lkd (ps : List (PyData × PyData)) : PyData := .dict ((.none, .none) :: ps)
def DkAt (F : Hp) (a : Addr) (b : Bool) (ps : List (Key × V)) : Prop := match b with
  | true => ∃ od, F a = some (.frz od (.dK ps))
  | false => F a = some (.dK ps)
theorem DkAt.mono {F F' : Hp} (s : Same F F') {a : Addr} {b : Bool} {ps : List (Key × V)} (h : DkAt F a b ps) : DkAt F' a b ps := by
  cases b with
  | true => obtain ⟨od, h⟩ := h; exact ⟨od, s _ _ h⟩
  | false => exact s _ _ h
theorem DkAt.rd {F : Hp} {a : Addr} {b : Bool} {ps : List (Key × V)} (h : DkAt F a b ps) : Rd F a (.dK ps) := by
  cases b with
  | true => exact .inr h
  | false => exact .inl h
mutual
/-- v stands for the datum in F -/
def Rp (K : PySem.W.Frag) (F : Hp) (v : V) : PyData → Prop
  | .none => v = .non
  | .bool b => v = .bl b
  | .int i => v = .int i
  | .str x => v = .str x
  | .list ds => ∃ a xs, v = .ref a ∧ F a = some (.lst xs) ∧ RpL K F xs ds
  | .tuple ds => ∃ a xs, v = .ref a ∧ SqT K F a xs ∧ RpL K F xs ds
  | .dict kvs => ∃ a ps, v = .ref a ∧ DkAt F a (lkq kvs) ps ∧ RpK K F ps kvs
def RpL (K : PySem.W.Frag) (F : Hp) (vs : List V) : List PyData → Prop
  | [] => vs = []
  | d :: ds => ∃ x r, vs = x :: r ∧ Rp K F x d ∧ RpL K F r ds
def RpK (K : PySem.W.Frag) (F : Hp) (ps : List (Key × V)) : List (PyData × PyData) → Prop
  | [] => ps = []
  | (k, d) :: kvs => match isMk k with
    | true => RpK K F ps kvs
    | false => ∃ p r, ps = p :: r ∧ Rp K F (kV p.1) k ∧ Rp K F p.2 d ∧ RpK K F r kvs
end

theorem sqT_mono {K : PySem.W.Frag} {H H' : Hp} {a : Addr} {xs : List V} (e : ∀ o, H a = some o → H' a = some o) (h : SqT K H a xs) : SqT K H' a xs := by
  rcases h with (h | ⟨o, h⟩) | h
  · exact .inl (.inl (e _ h))
  · exact .inl (.inr ⟨o, e _ h⟩)
  · exact .inr h
theorem sqL_mono {K : PySem.W.Frag} {H H' : Hp} {a : Addr} {xs : List V} (e : ∀ o, H a = some o → H' a = some o) (h : SqL K H a xs) : SqL K H' a xs := by
  rcases h with (h | ⟨o, h⟩) | h
  · exact .inl (.inl (e _ h))
  · exact .inl (.inr ⟨o, e _ h⟩)
  · exact .inr h
mutual
theorem Rp.mono {K : PySem.W.Frag} {F F' : Hp} (s : Same F F') : ∀ (d : PyData) (v : V), Rp K F v d → Rp K F' v d
  | .none, v, h => by unfold Rp at h ⊢; exact h
  | .bool b, v, h => by unfold Rp at h ⊢; exact h
  | .int i, v, h => by unfold Rp at h ⊢; exact h
  | .str x, v, h => by unfold Rp at h ⊢; exact h
  | .list ds, v, h => by
    unfold Rp at h ⊢
    obtain ⟨a, xs, e, q, r⟩ := h
    exact ⟨a, xs, e, s _ _ q, RpL.mono s ds xs r⟩
  | .tuple ds, v, h => by
    unfold Rp at h ⊢
    obtain ⟨a, xs, e, q, r⟩ := h
    exact ⟨a, xs, e, sqT_mono (s a) q, RpL.mono s ds xs r⟩
  | .dict kvs, v, h => by
    unfold Rp at h ⊢
    obtain ⟨a, ps, e, q, r⟩ := h
    exact ⟨a, ps, e, q.mono s, RpK.mono s kvs ps r⟩
theorem RpL.mono {K : PySem.W.Frag} {F F' : Hp} (s : Same F F') : ∀ (ds : List PyData) (vs : List V), RpL K F vs ds → RpL K F' vs ds
  | [], vs, h => by unfold RpL at h ⊢; exact h
  | d :: ds, vs, h => by
    unfold RpL at h ⊢
    obtain ⟨x, r, e, h1, h2⟩ := h
    exact ⟨x, r, e, Rp.mono s d x h1, RpL.mono s ds r h2⟩
theorem RpK.mono {K : PySem.W.Frag} {F F' : Hp} (s : Same F F') : ∀ (ds : List (PyData × PyData)) (vs : List (Key × V)), RpK K F vs ds → RpK K F' vs ds
  | [], vs, h => by unfold RpK at h ⊢; exact h
  | (k, d) :: ds, vs, h => by
    unfold RpK at h ⊢
    cases c : isMk k with
    | true => rw [c] at h; exact RpK.mono s ds vs h
    | false =>
      rw [c] at h
      obtain ⟨x, r, e, h1, h2, h3⟩ := h
      exact ⟨x, r, e, Rp.mono s k _ h1, Rp.mono s d _ h2, RpK.mono s ds r h3⟩
end

mutual
/-- no dict within -/
def nod : PyData → Bool
  | .list ds => nodL ds
  | .tuple ds => nodL ds
  | .dict _ => false
  | _ => true
def nodL : List PyData → Bool
  | [] => true
  | d :: ds => nod d && nodL ds
end
mutual
theorem Rp.dp {K : PySem.W.Frag} {F : Hp} : ∀ (d : PyData) (v : V), nod d = true → Rp K F v d → Dp K F v d
  | .none, v, _, h => by unfold Rp at h; subst h; exact .non
  | .bool b, v, _, h => by unfold Rp at h; subst h; exact .bl b
  | .int i, v, _, h => by unfold Rp at h; subst h; exact .int i
  | .str x, v, _, h => by unfold Rp at h; subst h; exact .str x
  | .list ds, v, n, h => by
    unfold Rp at h
    obtain ⟨a, xs, rfl, q, r⟩ := h
    exact .lst (.of q) (RpL.dp ds xs (by unfold nod at n; exact n) r)
  | .tuple ds, v, n, h => by
    unfold Rp at h
    obtain ⟨a, xs, rfl, q, r⟩ := h
    exact .tup q (RpL.dp ds xs (by unfold nod at n; exact n) r)
  | .dict kvs, v, n, h => by unfold nod at n; cases n
theorem RpL.dp {K : PySem.W.Frag} {F : Hp} : ∀ (ds : List PyData) (vs : List V), nodL ds = true → RpL K F vs ds → DpAll K F vs ds
  | [], vs, _, h => by unfold RpL at h; subst h; exact .nil
  | d :: ds, vs, n, h => by
    unfold RpL at h
    obtain ⟨x, r, rfl, h1, h2⟩ := h
    unfold nodL at n
    have n2 := (Bool.and_eq_true _ _).mp n
    exact .cons (Rp.dp d x n2.1 h1) (RpL.dp ds r n2.2 h2)
end

theorem RpL.length {K : PySem.W.Frag} {F : Hp} : ∀ {ds : List PyData} {vs : List V}, RpL K F vs ds → vs.length = ds.length
  | [], vs, h => by unfold RpL at h; subst h; rfl
  | d :: ds, vs, h => by
    unfold RpL at h
    obtain ⟨x, r, rfl, _, h2⟩ := h
    rw [List.length_cons, List.length_cons, RpL.length h2]
theorem RpL.get {K : PySem.W.Frag} {F : Hp} : ∀ {ds : List PyData} {vs : List V} {i : Nat} {d : PyData}, RpL K F vs ds → ds[i]? = some d → ∃ v, vs[i]? = some v ∧ Rp K F v d
  | [], vs, i, d, _, e => by simp at e
  | d :: ds, vs, 0, d', h, e => by
    unfold RpL at h
    obtain ⟨x, r, rfl, h1, h2⟩ := h
    simp at e
    subst e
    exact ⟨x, rfl, h1⟩
  | d :: ds, vs, i + 1, d', h, e => by
    unfold RpL at h
    obtain ⟨x, r, rfl, h1, h2⟩ := h
    have e' : ds[i]? = some d' := by simpa using e
    obtain ⟨v, ev, hv⟩ := RpL.get h2 e'
    exact ⟨v, by simpa using ev, hv⟩
/-- un: nothing is known; d: frozen data; vw: data that stand still while the def runs; r: the n-th owned object -/
inductive SV where
  | un | d (x : PyData) | vw (x : PyData) | r (n : Nat) | sc (x : List Int) | ex (c : Str)
def RpS (K : PySem.W.Frag) (H : Hp) (v : V) (ns : List Int) : Prop := ∃ a, v = .ref a ∧ SqL K H a (ns.map V.int)
/-- an owned object -/
inductive AO where
  | lst (xs : List SV)
  | dct (kvs : List (Key × SV))
  | tup (xs : List SV)
abbrev AH := List (Option AO)
def AO.isT : AO → Bool
  | .tup _ => true
  | _ => false
mutual
/-- immutable through and through -/
def imm : PyData → Bool
  | .list _ => false
  | .tuple ds => immL ds
  | .dict _ => false
  | _ => true
def immL : List PyData → Bool
  | [] => true
  | d :: ds => imm d && immL ds
end
def mkv (x : PyData) : SV := if imm x then .d x else .vw x
/-- the entry: what stands still (G), what was frozen (F0); the world now: addresses of the owned, the frozen -/
structure En where
  K : PySem.W.Frag
  G : Hp
  F0 : Hp
  ex : Option Value
def En.ok (en : En) (X : Cx) : Prop := en.K = X.K ∧ en.ex = X.A.handled
structure Wd where
  rho : List Addr
  F : Hp
def Wd.le (w w' : Wd) : Prop := w.rho <+: w'.rho ∧ Same w.F w'.F
theorem Wd.le.refl (w : Wd) : w.le w := ⟨List.prefix_refl _, Same.refl _⟩
theorem Wd.le.trans {a b c : Wd} (h : a.le b) (k : b.le c) : a.le c := ⟨h.1.trans k.1, h.2.trans k.2⟩
def RS (en : En) (w : Wd) (v : V) : SV → Prop
  | .un => True
  | .d x => Rp en.K w.F v x
  | .vw x => Rp en.K en.G v x
  | .r n => ∃ a, w.rho[n]? = some a ∧ v = .ref a
  | .sc ns => RpS en.K en.G v ns
  | .ex _ => ∃ a, v = .ref a ∧ en.ex = some (.ref a)
def RSL (en : En) (w : Wd) (vs : List V) : List SV → Prop
  | [] => vs = []
  | s :: ss => ∃ x r, vs = x :: r ∧ RS en w x s ∧ RSL en w r ss
theorem prefix_get {α : Type} {a b : List α} (h : a <+: b) {n : Nat} {x : α} (e : a[n]? = some x) : b[n]? = some x := by
  obtain ⟨t, rfl⟩ := h
  rw [List.getElem?_append_left (List.getElem?_eq_some_iff.mp e).1]
  exact e
theorem RS.mono {en : En} {w w' : Wd} (h : w.le w') {v : V} : ∀ {s : SV}, RS en w v s → RS en w' v s
  | .un, _ => trivial
  | .d x, q => Rp.mono h.2 x v q
  | .vw x, q => q
  | .r n, ⟨a, e, z⟩ => ⟨a, prefix_get h.1 e, z⟩
  | .sc _, q => q
  | .ex _, q => q
theorem RSL.mono {en : En} {w w' : Wd} (h : w.le w') : ∀ {ss : List SV} {vs : List V}, RSL en w vs ss → RSL en w' vs ss
  | [], _, q => q
  | s :: ss, vs, ⟨x, r, e, a, b⟩ => ⟨x, r, e, RS.mono h a, RSL.mono h b⟩
theorem RSL.length {en : En} {w : Wd} : ∀ {ss : List SV} {vs : List V}, RSL en w vs ss → vs.length = ss.length
  | [], vs, h => by cases h; rfl
  | s :: ss, vs, ⟨x, r, e, a, b⟩ => by rw [e, List.length_cons, List.length_cons, RSL.length b]
theorem RSL.get {en : En} {w : Wd} : ∀ {ss : List SV} {vs : List V} {i : Nat} {s : SV}, RSL en w vs ss → ss[i]? = some s → ∃ v, vs[i]? = some v ∧ RS en w v s
  | [], vs, i, s, _, e => by simp at e
  | s :: ss, vs, 0, s', ⟨x, r, e, a, b⟩, q => by
    simp at q
    subst q
    exact ⟨x, by rw [e]; rfl, a⟩
  | s :: ss, vs, i + 1, s', ⟨x, r, e, a, b⟩, q => by
    have q' : ss[i]? = some s' := by simpa using q
    obtain ⟨v, ev, hv⟩ := RSL.get b q'
    exact ⟨v, by rw [e]; simpa using ev, hv⟩
theorem RSL.app {en : En} {w : Wd} : ∀ {ss ts : List SV} {vs us : List V}, RSL en w vs ss → RSL en w us ts → RSL en w (vs ++ us) (ss ++ ts)
  | [], ts, vs, us, h, k => by cases h; exact k
  | s :: ss, ts, vs, us, ⟨x, r, e, a, b⟩, k => ⟨x, r ++ us, by rw [e]; rfl, a, RSL.app b k⟩
theorem RSL.set {en : En} {w : Wd} {v : V} {s : SV} (q : RS en w v s) : ∀ {ss : List SV} {vs : List V} (i : Nat), RSL en w vs ss → RSL en w (vs.set i v) (ss.set i s)
  | [], vs, i, h => by cases h; cases i <;> exact rfl
  | t :: ss, vs, 0, ⟨x, r, e, a, b⟩ => by subst e; exact ⟨v, r, rfl, q, b⟩
  | t :: ss, vs, i + 1, ⟨x, r, e, a, b⟩ => by subst e; exact ⟨x, r.set i v, rfl, a, RSL.set q i b⟩
theorem RSL.ofRp {en : En} {w : Wd} : ∀ {ds : List PyData} {vs : List V}, RpL en.K w.F vs ds → RSL en w vs (ds.map SV.d)
  | [], vs, h => by unfold RpL at h; exact h
  | d :: ds, vs, h => by
    unfold RpL at h
    obtain ⟨x, r, e, h1, h2⟩ := h
    exact ⟨x, r, e, h1, RSL.ofRp h2⟩
def TupIn (H F : Hp) : Prop := (∀ a xs, H a = some (.tup xs) → F a = some (.tup xs)) ∧ ∀ a o u, H a = some (.frz o u) → F a = some (.frz o u)
mutual
theorem Rp.immF {K : PySem.W.Frag} {G H F : Hp} (s : Same G H) (t : TupIn H F) : ∀ (d : PyData) (v : V), imm d = true → Rp K G v d → Rp K F v d
  | .none, v, _, h => by unfold Rp at h ⊢; exact h
  | .bool b, v, _, h => by unfold Rp at h ⊢; exact h
  | .int i, v, _, h => by unfold Rp at h ⊢; exact h
  | .str x, v, _, h => by unfold Rp at h ⊢; exact h
  | .list ds, v, n, h => by unfold imm at n; cases n
  | .tuple ds, v, n, h => by
    unfold Rp at h ⊢
    obtain ⟨a, xs, rfl, q, r⟩ := h
    refine ⟨a, xs, rfl, ?_, RpL.immF s t ds xs (by unfold imm at n; exact n) r⟩
    rcases q with (q | ⟨o, q⟩) | q
    · exact .inl (.inl (t.1 _ _ (s _ _ q)))
    · exact .inl (.inr ⟨o, t.2 _ _ _ (s _ _ q)⟩)
    · exact .inr q
  | .dict kvs, v, n, h => by unfold imm at n; cases n
theorem RpL.immF {K : PySem.W.Frag} {G H F : Hp} (s : Same G H) (t : TupIn H F) : ∀ (ds : List PyData) (vs : List V), immL ds = true → RpL K G vs ds → RpL K F vs ds
  | [], vs, _, h => by unfold RpL at h ⊢; exact h
  | d :: ds, vs, n, h => by
    unfold RpL at h ⊢
    obtain ⟨x, r, e, h1, h2⟩ := h
    unfold immL at n
    have n2 := (Bool.and_eq_true _ _).mp n
    exact ⟨x, r, e, Rp.immF s t d x n2.1 h1, RpL.immF s t ds r n2.2 h2⟩
end

def AOk (en : En) (w : Wd) (H : Hp) (a : Addr) : AO → Prop
  | .tup xs => ∃ vs, H a = some (.tup vs) ∧ RSL en w vs xs
  | .lst xs => ∃ vs, H a = some (.lst vs) ∧ RSL en w vs xs
  | .dct kvs => ∃ kws : List (Key × V), H a = some (.dK kws) ∧ kws.map Prod.fst = kvs.map Prod.fst ∧ RSL en w (kws.map Prod.snd) (kvs.map Prod.snd)
structure SimH (en : En) (w : Wd) (H : Hp) (h : AH) : Prop where
  gh : Same en.G H
  fh : Same w.F H
  f0 : Same en.F0 w.F
  nw : ∀ a o, w.F a = some o → en.F0 a = some o ∨ en.G a = none
  ti : TupIn H w.F
  len : w.rho.length = h.length
  live : ∀ (n : Nat) (o : AO), h[n]? = some (some o) → ∃ a, w.rho[n]? = some a ∧ AOk en w H a o ∧ (o.isT = false → w.F a = none) ∧ en.G a = none
  sep : ∀ (n m : Nat) (a : Addr) (o1 o2 : AO), h[n]? = some (some o1) → h[m]? = some (some o2) → w.rho[n]? = some a → w.rho[m]? = some a → n = m
def Slt (en : En) (w : Wd) (σ : St) (sl : List SV) : Prop := sl.length = σ.length ∧ ∀ (i : Nat) (s : SV), sl[i]? = some s → s = .un ∨ ∃ v, σ[i]? = some (some v) ∧ RS en w v s
structure Sim (en : En) (w : Wd) (σ : St) (H : Hp) (sl : List SV) (h : AH) : Prop extends SimH en w H h where
  slots : Slt en w σ sl
theorem Slt.mono {en : En} {w w' : Wd} {σ : St} {sl : List SV} (k : w.le w') (q : Slt en w σ sl) : Slt en w' σ sl :=
  ⟨q.1, fun i s e => (q.2 i s e).imp_right fun ⟨v, ev, r⟩ => ⟨v, ev, RS.mono k r⟩⟩
theorem AOk.mono {en : En} {w w' : Wd} {H H' : Hp} {a : Addr} {o : AO} (k : w.le w') (e : H' a = H a) (q : AOk en w H a o) : AOk en w' H' a o := by
  cases o with
  | lst xs =>
    obtain ⟨vs, e1, r⟩ := q
    exact ⟨vs, e.trans e1, RSL.mono k r⟩
  | dct kvs =>
    obtain ⟨vs, e1, ek, r⟩ := q
    exact ⟨vs, e.trans e1, ek, RSL.mono k r⟩
  | tup xs =>
    obtain ⟨vs, e1, r⟩ := q
    exact ⟨vs, e.trans e1, RSL.mono k r⟩
theorem AOk.some {en : En} {w : Wd} {H : Hp} {a : Addr} {o : AO} (q : AOk en w H a o) : ∃ u, H a = some u ∧ (o.isT = false → ∀ xs, u ≠ .tup xs) ∧ ∀ ob u', u ≠ .frz ob u' := by
  cases o with
  | lst xs =>
    obtain ⟨vs, e1, r⟩ := q
    exact ⟨_, e1, (fun _ _ z => by cases z), (fun _ _ z => by cases z)⟩
  | dct kvs =>
    obtain ⟨vs, e1, ek, r⟩ := q
    exact ⟨_, e1, (fun _ _ z => by cases z), (fun _ _ z => by cases z)⟩
  | tup xs =>
    obtain ⟨vs, e1, r⟩ := q
    exact ⟨_, e1, (fun z => by cases z), (fun _ _ z => by cases z)⟩
section
variable {en : En} {w w' : Wd} {σ : St} {H : Hp} {sl : List SV} {h : AH}
theorem SimH.G_none (S : SimH en w H h) {p : Addr} (n : H p = none) : en.G p = none := S.gh.free n
theorem SimH.F_none (S : SimH en w H h) {p : Addr} (n : H p = none) : w.F p = none := S.fh.free n
def Wd.fz (w : Wd) (p : Addr) (o : HO) : Wd := ⟨w.rho, upd w.F p o⟩
theorem le_fz {p : Addr} {o : HO} (n : w.F p = none) : w.le (w.fz p o) := ⟨List.prefix_refl _, fun b u e => by
  show upd w.F p o b = some u
  rw [upd_ne (ne_of_none e n)]; exact e⟩
theorem SimH.newF (S : SimH en w H h) {p : Addr} {o : HO} (n : H p = none) (hf : ∀ ob u, o ≠ .frz ob u) : SimH en (w.fz p o) (upd H p o) h where
  gh := fun b u e => by rw [upd_ne (ne_of_none e (S.G_none n))]; exact S.gh b u e
  fh := fun b u e => by
    have e : upd w.F p o b = some u := e
    by_cases hb : b = p
    · subst hb; rw [upd_same] at e ⊢; exact e
    · rw [upd_ne hb] at e ⊢; exact S.fh b u e
  f0 := S.f0.trans (le_fz (S.F_none n)).2
  nw := fun b u e => by
    have e : upd w.F p o b = some u := e
    by_cases hb : b = p
    · subst hb; exact .inr (S.G_none n)
    · rw [upd_ne hb] at e; exact S.nw b u e
  ti := ⟨fun b xs e => by
      show upd w.F p o b = _
      by_cases hb : b = p
      · subst hb; rw [upd_same] at e ⊢; exact e
      · rw [upd_ne hb] at e ⊢; exact S.ti.1 b xs e, fun b ob u e => by
      show upd w.F p o b = _
      by_cases hb : b = p
      · subst hb; rw [upd_same] at e ⊢; exact e
      · rw [upd_ne hb] at e ⊢; exact S.ti.2 b ob u e⟩
  len := S.len
  live := fun m ob e => by
    obtain ⟨a, e1, q, f, g⟩ := S.live m ob e
    obtain ⟨u, eu, _, _⟩ := q.some
    have ne : a ≠ p := ne_of_none eu n
    exact ⟨a, e1, q.mono (le_fz (S.F_none n)) (upd_ne ne), fun t => by show upd w.F p o a = none; rw [upd_ne ne]; exact f t, g⟩
  sep := S.sep
theorem Sim.newF (S : Sim en w σ H sl h) {p : Addr} {o : HO} (n : H p = none) (hf : ∀ ob u, o ≠ .frz ob u) : Sim en (w.fz p o) σ (upd H p o) sl h :=
  ⟨S.toSimH.newF n hf, S.slots.mono (le_fz (S.F_none n))⟩
def Wd.ow (w : Wd) (p : Addr) : Wd := ⟨w.rho ++ [p], w.F⟩
theorem le_ow {p : Addr} : w.le (w.ow p) := ⟨List.prefix_append _ _, Same.refl _⟩
theorem SimH.newAO (S : SimH en w H h) {p : Addr} {hu : HO} {ao : AO} (n : H p = none) (nt : ∀ xs, hu ≠ .tup xs) (nf : ∀ ob u, hu ≠ .frz ob u) (r : ∀ H2 : Hp, H2 p = some hu → AOk en w H2 p ao) : SimH en (w.ow p) (upd H p hu) (h ++ [some ao]) where
  gh := fun b u e => by rw [upd_ne (ne_of_none e (S.G_none n))]; exact S.gh b u e
  fh := fun b u e => by
    have e : w.F b = some u := e
    rw [upd_ne (ne_of_none e (S.F_none n))]; exact S.fh b u e
  f0 := S.f0
  nw := S.nw
  ti := ⟨fun b ys e => by
      by_cases hb : b = p
      · subst hb; rw [upd_same] at e; exact absurd (Option.some.inj e) (nt ys)
      · rw [upd_ne hb] at e; exact S.ti.1 b ys e, fun b ob u e => by
      by_cases hb : b = p
      · subst hb; rw [upd_same] at e; exact absurd (Option.some.inj e) (nf ob u)
      · rw [upd_ne hb] at e; exact S.ti.2 b ob u e⟩
  len := by show (w.rho ++ [p]).length = _; rw [List.length_append, List.length_append, S.len]; rfl
  live := fun m ob e => by
    by_cases hm : m < h.length
    · rw [List.getElem?_append_left hm] at e
      obtain ⟨a, e1, q, f, g⟩ := S.live m ob e
      obtain ⟨u, eu, _, _⟩ := q.some
      have ne : a ≠ p := ne_of_none eu n
      exact ⟨a, prefix_get le_ow.1 e1, q.mono le_ow (upd_ne ne), f, g⟩
    · rw [List.getElem?_append_right (by omega)] at e
      have hm0 : m - h.length = 0 := by
        cases k : m - h.length with
        | zero => rfl
        | succ j => rw [k] at e; simp at e
      have em : m = h.length := by omega
      subst em
      rw [hm0] at e
      simp at e
      subst e
      refine ⟨p, ?_, (r _ upd_same).mono le_ow rfl, fun _ => S.F_none n, S.G_none n⟩
      show (w.rho ++ [p])[h.length]? = some p
      rw [← S.len, List.getElem?_append_right (Nat.le_refl _)]
      simp
  sep := fun i j a o1 o2 e1 e2 a1 a2 => by
    have old : ∀ m o, m < h.length → (h ++ [some ao])[m]? = some (some o) → (w.rho ++ [p])[m]? = some a → a ≠ p := fun m o hm e k => by
      rw [List.getElem?_append_left hm] at e
      obtain ⟨b, e3, q, _, _⟩ := S.live m o e
      obtain ⟨u, eu, _, _⟩ := q.some
      have : b = a := by
        rw [List.getElem?_append_left (by rw [S.len]; exact hm), e3] at k
        exact Option.some.inj k
      rw [← this]
      exact ne_of_none eu n
    have lt : ∀ m o, (h ++ [some ao])[m]? = some (some o) → m < h.length ∨ m = h.length := fun m o e => by
      have := (List.getElem?_eq_some_iff.mp e).1
      rw [List.length_append] at this
      simp at this
      omega
    have new : (w.rho ++ [p])[h.length]? = some p := by
      rw [← S.len, List.getElem?_append_right (Nat.le_refl _)]
      simp
    rcases lt i _ e1 with hi | hi <;> rcases lt j _ e2 with hj | hj
    · rw [List.getElem?_append_left hi] at e1
      rw [List.getElem?_append_left hj] at e2
      refine S.sep i j a o1 o2 e1 e2 ?_ ?_
      · have a1 : (w.rho ++ [p])[i]? = some a := a1
        rw [List.getElem?_append_left (by rw [S.len]; exact hi)] at a1; exact a1
      · have a2 : (w.rho ++ [p])[j]? = some a := a2
        rw [List.getElem?_append_left (by rw [S.len]; exact hj)] at a2; exact a2
    · have ne := old i o1 hi e1 a1
      rw [hj] at a2
      exact absurd (Option.some.inj (a2.symm.trans new)) ne
    · have ne := old j o2 hj e2 a2
      rw [hi] at a1
      exact absurd (Option.some.inj (a1.symm.trans new)) ne
    · omega
theorem SimH.newT (S : SimH en w H h) {p : Addr} {vs : List V} {xs : List SV} (n : H p = none) (r : RSL en w vs xs) : SimH en ((w.fz p (.tup vs)).ow p) (upd H p (.tup vs)) (h ++ [some (.tup xs)]) := by
  have S1 := S.newF (o := .tup vs) n (fun _ _ z => by cases z)
  have k1 : w.le (w.fz p (.tup vs)) := le_fz (S.F_none n)
  refine ⟨S1.gh, S1.fh, S1.f0, S1.nw, S1.ti, ?_, fun m ob e => ?_, fun i j a o1 o2 e1 e2 a1 a2 => ?_⟩
  · show (w.rho ++ [p]).length = _
    rw [List.length_append, List.length_append, S.len]; rfl
  · by_cases hm : m < h.length
    · rw [List.getElem?_append_left hm] at e
      obtain ⟨a, e1, q, f, g⟩ := S1.live m ob e
      exact ⟨a, prefix_get le_ow.1 e1, q.mono le_ow rfl, f, g⟩
    · rw [List.getElem?_append_right (by omega)] at e
      have hm0 : m - h.length = 0 := by
        cases k : m - h.length with
        | zero => rfl
        | succ j => rw [k] at e; simp at e
      have em : m = h.length := by omega
      subst em
      rw [hm0] at e
      simp at e
      subst e
      refine ⟨p, ?_, ⟨vs, upd_same, RSL.mono le_ow (RSL.mono k1 r)⟩, (fun z => by cases z), S.G_none n⟩
      show (w.rho ++ [p])[h.length]? = some p
      rw [← S.len, List.getElem?_append_right (Nat.le_refl _)]
      simp
  · have old : ∀ m o, m < h.length → (h ++ [some (AO.tup xs)])[m]? = some (some o) → (w.rho ++ [p])[m]? = some a → a ≠ p := fun m o hm e k => by
      rw [List.getElem?_append_left hm] at e
      obtain ⟨b, e3, q, _, _⟩ := S.live m o e
      obtain ⟨u, eu, _, _⟩ := q.some
      have : b = a := by
        rw [List.getElem?_append_left (by rw [S.len]; exact hm), e3] at k
        exact Option.some.inj k
      rw [← this]
      exact ne_of_none eu n
    have lt : ∀ m o, (h ++ [some (AO.tup xs)])[m]? = some (some o) → m < h.length ∨ m = h.length := fun m o e => by
      have := (List.getElem?_eq_some_iff.mp e).1
      rw [List.length_append] at this
      simp at this
      omega
    have new : (w.rho ++ [p])[h.length]? = some p := by
      rw [← S.len, List.getElem?_append_right (Nat.le_refl _)]
      simp
    rcases lt i _ e1 with hi | hi <;> rcases lt j _ e2 with hj | hj
    · rw [List.getElem?_append_left hi] at e1
      rw [List.getElem?_append_left hj] at e2
      refine S.sep i j a o1 o2 e1 e2 ?_ ?_
      · have a1 : (w.rho ++ [p])[i]? = some a := a1
        rw [List.getElem?_append_left (by rw [S.len]; exact hi)] at a1; exact a1
      · have a2 : (w.rho ++ [p])[j]? = some a := a2
        rw [List.getElem?_append_left (by rw [S.len]; exact hj)] at a2; exact a2
    · have ne := old i o1 hi e1 a1
      rw [hj] at a2
      exact absurd (Option.some.inj (a2.symm.trans new)) ne
    · have ne := old j o2 hj e2 a2
      rw [hi] at a1
      exact absurd (Option.some.inj (a1.symm.trans new)) ne
    · omega
theorem Sim.newT (S : Sim en w σ H sl h) {p : Addr} {vs : List V} {xs : List SV} (n : H p = none) (r : RSL en w vs xs) : Sim en ((w.fz p (.tup vs)).ow p) σ (upd H p (.tup vs)) sl (h ++ [some (.tup xs)]) :=
  ⟨S.toSimH.newT n r, S.slots.mono ((le_fz (S.toSimH.F_none n)).trans le_ow)⟩
theorem SimH.newO (S : SimH en w H h) {p : Addr} {vs : List V} {xs : List SV} (n : H p = none) (r : RSL en w vs xs) : SimH en (w.ow p) (upd H p (.lst vs)) (h ++ [some (.lst xs)]) :=
  S.newAO n (fun _ z => by cases z) (fun _ _ z => by cases z) fun _ e => ⟨vs, e, r⟩
theorem Sim.newO (S : Sim en w σ H sl h) {p : Addr} {vs : List V} {xs : List SV} (n : H p = none) (r : RSL en w vs xs) : Sim en (w.ow p) σ (upd H p (.lst vs)) sl (h ++ [some (.lst xs)]) :=
  ⟨S.toSimH.newO n r, S.slots.mono le_ow⟩
theorem SimH.rs_new (S : SimH en w H h) {p : Addr} : RS en (w.ow p) (.ref p) (.r h.length) := ⟨p, by
  show (w.rho ++ [p])[h.length]? = some p
  rw [← S.len, List.getElem?_append_right (Nat.le_refl _)]
  simp, rfl⟩
theorem SimH.writeAO (S : SimH en w H h) {n : Nat} {a : Addr} {o : AO} {hu : HO} {ao : AO} (e : h[n]? = some (some o)) (ha : w.rho[n]? = some a) (mt : ∀ xs, hu ≠ .tup xs) (mf : ∀ ob u, hu ≠ .frz ob u) (r : ∀ H2 : Hp, H2 a = some hu → AOk en w H2 a ao) (ot : o.isT = false := by rfl) : SimH en w (upd H a hu) (h.set n (some ao)) := by
  obtain ⟨a', e1, q, f, g⟩ := S.live n o e
  have ea : a' = a := Option.some.inj (e1.symm.trans ha)
  subst ea
  have f := f ot
  obtain ⟨u, eu, nt, nf⟩ := q.some
  have hn : n < h.length := (List.getElem?_eq_some_iff.mp e).1
  refine ⟨fun b u' z => ?_, fun b u' z => ?_, S.f0, S.nw, ⟨fun b ys z => ?_, fun b ob u' z => ?_⟩, by rw [List.length_set]; exact S.len, fun m ob z => ?_, fun i j b o1 o2 z1 z2 b1 b2 => ?_⟩
  · have ne : b ≠ a' := fun k => by rw [k, g] at z; cases z
    rw [upd_ne ne]; exact S.gh b u' z
  · have ne : b ≠ a' := fun k => by rw [k, f] at z; cases z
    rw [upd_ne ne]; exact S.fh b u' z
  · by_cases hb : b = a'
    · subst hb; rw [upd_same] at z; exact absurd (Option.some.inj z) (mt ys)
    · rw [upd_ne hb] at z; exact S.ti.1 b ys z
  · by_cases hb : b = a'
    · subst hb; rw [upd_same] at z; exact absurd (Option.some.inj z) (mf ob u')
    · rw [upd_ne hb] at z; exact S.ti.2 b ob u' z
  · by_cases hm : m = n
    · subst hm
      rw [List.getElem?_set_self hn] at z
      cases z
      exact ⟨a', ha, r _ upd_same, fun _ => f, g⟩
    · rw [List.getElem?_set_ne (Ne.symm hm)] at z
      obtain ⟨b, e2, q2, f2, g2⟩ := S.live m ob z
      have ne : b ≠ a' := fun k => by subst k; exact hm (S.sep m n b ob o z e e2 ha)
      exact ⟨b, e2, q2.mono (Wd.le.refl w) (upd_ne ne), f2, g2⟩
  · have get : ∀ m o', (h.set n (some ao))[m]? = some (some o') → ∃ o'', h[m]? = some (some o'') := fun m o' z => by
      by_cases hm : m = n
      · subst hm; exact ⟨o, e⟩
      · rw [List.getElem?_set_ne (Ne.symm hm)] at z; exact ⟨_, z⟩
    obtain ⟨p1, k1⟩ := get i o1 z1
    obtain ⟨p2, k2⟩ := get j o2 z2
    exact S.sep i j b p1 p2 k1 k2 b1 b2
theorem SimH.write (S : SimH en w H h) {n : Nat} {a : Addr} {o : AO} {vs : List V} {xs : List SV} (e : h[n]? = some (some o)) (ha : w.rho[n]? = some a) (r : RSL en w vs xs) (ot : o.isT = false := by rfl) : SimH en w (upd H a (.lst vs)) (h.set n (some (.lst xs))) :=
  S.writeAO e ha (fun _ z => by cases z) (fun _ _ z => by cases z) (fun _ e => ⟨vs, e, r⟩) ot
theorem Sim.write (S : Sim en w σ H sl h) {n : Nat} {a : Addr} {o : AO} {vs : List V} {xs : List SV} (e : h[n]? = some (some o)) (ha : w.rho[n]? = some a) (r : RSL en w vs xs) (ot : o.isT = false := by rfl) : Sim en w σ (upd H a (.lst vs)) sl (h.set n (some (.lst xs))) :=
  ⟨S.toSimH.write e ha r ot, S.slots⟩
theorem SimH.le_own (S : SimH en w H h) {n : Nat} {a : Addr} {o : AO} {hu : HO} (e : h[n]? = some (some o)) (ha : w.rho[n]? = some a) (hv : H a = some hu) : w.le (w.fz a hu) := by
  obtain ⟨a', e1, q, f, g⟩ := S.live n o e
  have ea : a' = a := Option.some.inj (e1.symm.trans ha)
  subst ea
  cases o with
  | tup xs =>
    obtain ⟨vs, hv2, _⟩ := q
    have hu2 : HO.tup vs = hu := Option.some.inj (hv2.symm.trans hv)
    subst hu2
    have hF := S.ti.1 a' vs hv2
    refine ⟨List.prefix_refl _, fun b u z => ?_⟩
    show upd w.F a' (.tup vs) b = some u
    by_cases hb : b = a'
    · subst hb
      rw [upd_same, ← hF]; exact z
    · rw [upd_ne hb]; exact z
  | lst xs => exact le_fz (f rfl)
  | dct kvs => exact le_fz (f rfl)
theorem SimH.freeze (S : SimH en w H h) {n : Nat} {a : Addr} {o : AO} {hu : HO} (e : h[n]? = some (some o)) (ha : w.rho[n]? = some a) (hv : H a = some hu) : SimH en (w.fz a hu) H (h.set n none) := by
  obtain ⟨a', e1, q, f, g⟩ := S.live n o e
  have ea : a' = a := Option.some.inj (e1.symm.trans ha)
  subst ea
  have kk : w.le (w.fz a' hu) := S.le_own e ha hv
  refine ⟨S.gh, fun b u z => ?_, S.f0.trans kk.2, fun b u z => ?_, ⟨fun b ys z => kk.2 _ _ (S.ti.1 b ys z), fun b ob u z => kk.2 _ _ (S.ti.2 b ob u z)⟩, by rw [List.length_set]; exact S.len, fun m ob z => ?_, fun i j b o1 o2 z1 z2 b1 b2 => ?_⟩
  · have z : upd w.F a' hu b = some u := z
    by_cases hb : b = a'
    · subst hb; rw [upd_same] at z; rw [hv]; exact z
    · rw [upd_ne hb] at z; exact S.fh b u z
  · have z : upd w.F a' hu b = some u := z
    by_cases hb : b = a'
    · subst hb; exact .inr g
    · rw [upd_ne hb] at z; exact S.nw b u z
  · have hm : m ≠ n := fun k => by
      subst k
      rw [List.getElem?_set_self (List.getElem?_eq_some_iff.mp e).1] at z
      cases z
    rw [List.getElem?_set_ne (Ne.symm hm)] at z
    obtain ⟨b, e2, q2, f2, g2⟩ := S.live m ob z
    have ne : b ≠ a' := fun k => by subst k; exact hm (S.sep m n b ob o z e e2 ha)
    exact ⟨b, e2, q2.mono kk rfl, fun t => by show upd w.F a' hu b = none; rw [upd_ne ne]; exact f2 t, g2⟩
  · have get : ∀ m o', (h.set n none)[m]? = some (some o') → h[m]? = some (some o') := fun m o' z => by
      by_cases hm : m = n
      · subst hm
        rw [List.getElem?_set_self (List.getElem?_eq_some_iff.mp e).1] at z
        cases z
      · rw [List.getElem?_set_ne (Ne.symm hm)] at z; exact z
    exact S.sep i j b o1 o2 (get i o1 z1) (get j o2 z2) b1 b2
theorem Sim.freeze (S : Sim en w σ H sl h) {n : Nat} {a : Addr} {o : AO} {hu : HO} (e : h[n]? = some (some o)) (ha : w.rho[n]? = some a) (hv : H a = some hu) : Sim en (w.fz a hu) σ H sl (h.set n none) :=
  ⟨S.toSimH.freeze e ha hv, S.slots.mono (S.toSimH.le_own e ha hv)⟩
end
def kD : Key → PyData
  | .inl i => .int i
  | .inr x => .str x
theorem kD_mk (k : Key) : isMk (kD k) = false := by cases k <;> rfl
theorem kD_ok {K : PySem.W.Frag} {F : Hp} (k : Key) : Rp K F (kV k) (kD k) := by
  cases k <;> (unfold kD Rp; rfl)
def zipD (ks : List Key) (ds : List PyData) : List (PyData × PyData) := (ks.map kD).zip ds
theorem zipD_ok {K : PySem.W.Frag} {F : Hp} : ∀ {kws : List (Key × V)} {ds : List PyData}, RpL K F (kws.map Prod.snd) ds → RpK K F kws (zipD (kws.map Prod.fst) ds)
  | [], ds, r => by unfold zipD; rw [List.map_nil, List.map_nil, List.zip_nil_left]; unfold RpK; rfl
  | p :: q, [], r => by rw [List.map_cons] at r; unfold RpL at r; cases r
  | p :: q, d :: ds, r => by
    rw [List.map_cons] at r
    unfold RpL at r
    obtain ⟨x, y, e, h1, h2⟩ := r
    have e1 := (List.cons.inj e).1
    have e2 := (List.cons.inj e).2
    show RpK K F (p :: q) ((kD p.1, d) :: zipD (q.map Prod.fst) ds)
    unfold RpK
    rw [kD_mk]
    exact ⟨p, q, rfl, kD_ok p.1, e1 ▸ h1, zipD_ok (e2 ▸ h2)⟩
theorem zipD_mk : ∀ {ks : List Key} {ds : List PyData}, lkq (zipD ks ds) = false
  | [], _ => rfl
  | k :: ks, [] => rfl
  | k :: ks, d :: ds => kD_mk k
mutual
def rb (h : AH) : Nat → SV → Option PyData
  | _, .un => none
  | _, .d x => some x
  | _, .vw x => some x
  | _, .sc _ => none
  | _, .ex _ => none
  | 0, .r _ => none
  | k + 1, .r n => match h[n]? with
    | some (some (.lst xs)) => (rbL h k xs).map PyData.list
    | some (some (.dct kvs)) => (rbL h k (kvs.map Prod.snd)).map fun ds => PyData.dict (zipD (kvs.map Prod.fst) ds)
    | some (some (.tup xs)) => (rbL h k xs).map PyData.tuple
    | _ => none
def rbL (h : AH) : Nat → List SV → Option (List PyData)
  | _, [] => some []
  | k, s :: ss => match rb h k s with
    | some d => match rbL h k ss with
      | some ds => some (d :: ds)
      | none => none
    | none => none
end
end Zx
namespace Zx
open PySem PySem.Spec L2
inductive R (α : Type) where
  | ok (a : α) (h : AH) | rz (c : Str) (h : AH) | st
def R.bind {α β : Type} (r : R α) (k : α → AH → R β) : R β := match r with
  | .ok a h => k a h
  | .rz c h => .rz c h
  | .st => .st
abbrev FE := List SV → AH → R SV
abbrev FA := List SV → AH → R (List SV)
abbrev FT := List SV → AH → R Bool
def clsW (X : Cx) (W : WX) (c : Str) (σ : St) (H : Hp) : Prop := ∀ u, X.mg c = some u → W u none σ H
def Po {α β : Type} (rep : En → Wd → β → α → Prop) (X : Cx) (W : WX) (en : En) (w : Wd) (σ : St) (sl : List SV) (r : R α) (Q : β → Hp → Prop) : Prop := match r with
  | .ok a h' => ∀ b w' H', w.le w' → Sim en w' σ H' sl h' → rep en w' b a → Q b H'
  | .rz c h' => ∀ w' H', w.le w' → Sim en w' σ H' sl h' → clsW X W c σ H'
  | .st => False
def repB : En → Wd → Bool → Bool → Prop := fun _ _ a b => a = b
section
variable {X : Cx} {W : WX} {en : En} {w : Wd} {σ : St} {sl : List SV} {H : Hp} {h : AH}
theorem Po.mono {α β : Type} {rep : En → Wd → β → α → Prop} {r : R α} {Q : β → Hp → Prop} {w' : Wd} (k : w.le w') (P : Po rep X W en w σ sl r Q) : Po rep X W en w' σ sl r Q := by
  cases r with
  | ok a h' => exact fun b w2 H2 l S q => P b w2 H2 (k.trans l) S q
  | rz c h' => exact fun w2 H2 l S => P w2 H2 (k.trans l) S
  | st => exact P
theorem Po.bind {α β α' β' : Type} {rep : En → Wd → β → α → Prop} {rep' : En → Wd → β' → α' → Prop} {r : R α} {k : α → AH → R α'} {Q : β' → Hp → Prop} {Q1 : β → Hp → Prop} (P : Po rep' X W en w σ sl (r.bind k) Q)
    (c : ∀ a h1 b w' H', w.le w' → Sim en w' σ H' sl h1 → rep en w' b a → Po rep' X W en w' σ sl (k a h1) Q → Q1 b H') : Po rep X W en w σ sl r Q1 := by
  cases r with
  | ok a h1 => exact fun b w' H' l S q => c a h1 b w' H' l S q (Po.mono l P)
  | rz cc h1 => exact P
  | st => exact P
theorem Po.imp {α β : Type} {rep : En → Wd → β → α → Prop} {r : R α} {Q Q1 : β → Hp → Prop} (P : Po rep X W en w σ sl r Q) (c : ∀ b H', Q b H' → Q1 b H') : Po rep X W en w σ sl r Q1 := by
  cases r with
  | ok a h1 => exact fun b w' H' l S q => c _ _ (P b w' H' l S q)
  | rz cc h1 => exact P
  | st => exact P
theorem Po.here {a : SV} {v : V} {Q : VK} (P : Po RS X W en w σ sl (.ok a h) Q) (S : Sim en w σ H sl h) (r : RS en w v a) : Q v H := P v w H (Wd.le.refl w) S r
end
def tE (X : Cx) (W : WX) (f : FE) : TE := fun σ H Q => ∃ en w sl h, en.ok X ∧ Sim en w σ H sl h ∧ Po RS X W en w σ sl (f sl h) Q
def tA (X : Cx) (W : WX) (f : FA) : TA := fun σ H Q => ∃ en w sl h, en.ok X ∧ Sim en w σ H sl h ∧ Po RSL X W en w σ sl (f sl h) Q
def tT (X : Cx) (W : WX) (f : FT) : TT := fun σ H Q => ∃ en w sl h, en.ok X ∧ Sim en w σ H sl h ∧ Po repB X W en w σ sl (f sl h) Q
abbrev SE (X : Cx) (W : WX) (e : Expr) (f : FE) : Prop := PE X e (tE X W f)
abbrev SA (X : Cx) (W : WX) (es : List Expr) (f : FA) : Prop := PA X es (tA X W f)
abbrev STt (X : Cx) (W : WX) (e : Expr) (f : FT) : Prop := PT X e (tT X W f)
abbrev SWt (X : Cx) (W : WX) (e : Expr) (f : FT) : Prop := PW X e (tT X W f)
theorem PE.imp {X : Cx} {e : Expr} {t t' : TE} (h : PE X e t) (k : ∀ σ H Q, t' σ H Q → t σ H Q) : PE X e t' := ⟨fun pins s σ H Q I q => h.run pins s σ H Q I (k σ H Q q)⟩
theorem PA.imp {X : Cx} {e : List Expr} {t t' : TA} (h : PA X e t) (k : ∀ σ H Q, t' σ H Q → t σ H Q) : PA X e t' := ⟨fun pos pins s σ H Q I q => h.run pos pins s σ H Q I (k σ H Q q)⟩
theorem PT.imp {X : Cx} {e : Expr} {t t' : TT} (h : PT X e t) (k : ∀ σ H Q, t' σ H Q → t σ H Q) : PT X e t' := ⟨fun pins s σ H Q I q => h.run pins s σ H Q I (k σ H Q q)⟩
theorem PW.imp {X : Cx} {e : Expr} {t t' : TT} (h : PW X e t) (k : ∀ σ H Q, t' σ H Q → t σ H Q) : PW X e t' := ⟨fun wh pins s σ H Q I q => h.run wh pins s σ H Q I (k σ H Q q)⟩
theorem PS.imp {X : Cx} {e : Stmt} {t t' : TS} (h : PS X e t) (k : ∀ D σ H, t' D σ H → t D σ H) : PS X e t' := ⟨fun pins s σ H Q I q => h.run pins s σ H Q I (k Q σ H q)⟩
theorem PSs.imp {X : Cx} {e : List Stmt} {t t' : TS} (h : PSs X e t) (k : ∀ D σ H, t' D σ H → t D σ H) : PSs X e t' := ⟨fun pins s σ H Q I q => h.run pins s σ H Q I (k Q σ H q)⟩
def fVar (i : Nat) : FE := fun sl h => match sl[i]? with
  | none => .st
  | some .un => .st
  | some s => .ok s h
def fC (x : PyData) : FE := fun _ h => .ok (.d x) h
section
variable {X : Cx} {W : WX}
theorem se_var {i : Nat} {x : Str} {pos : Pos} (h : PE X (.Name x pos) (tVar i)) : SE X W (.Name x pos) (fVar i) := PE.imp h (by
  rintro σ H Q ⟨en, w, sl, h, eK, S, P⟩
  cases e : sl[i]? with
  | none => simp only [fVar, e] at P; exact False.elim P
  | some s =>
    rcases S.slots.2 i s e with rfl | ⟨v, ev, r⟩
    · simp only [fVar, e] at P; exact False.elim P
    · cases s with
      | un => simp only [fVar, e] at P; exact False.elim P
      | d x => simp only [fVar, e] at P; exact ⟨v, ev, P.here S r⟩
      | vw x => simp only [fVar, e] at P; exact ⟨v, ev, P.here S r⟩
      | r n => simp only [fVar, e] at P; exact ⟨v, ev, P.here S r⟩
      | sc n => simp only [fVar, e] at P; exact ⟨v, ev, P.here S r⟩
      | ex n => simp only [fVar, e] at P; exact ⟨v, ev, P.here S r⟩)
theorem se_c {e : Expr} {v : V} {x : PyData} (h : PE X e (tC v)) (r : ∀ F, Rp X.K F v x) : SE X W e (fC x) := PE.imp h (by
  rintro σ H Q ⟨en, w, sl, h, eK, S, P⟩
  exact Po.here P S (show Rp en.K w.F v x by rw [eK.1]; exact r _))
theorem se_int {i j pos} : SE X W (.Constant (.int i) j pos) (fC (.int i)) := se_c pe_int fun F => by unfold Rp; rfl
theorem se_bl {b j pos} : SE X W (.Constant (.bool b) j pos) (fC (.bool b)) := se_c pe_bl fun F => by unfold Rp; rfl
theorem se_non {j pos} : SE X W (.Constant .none j pos) (fC .none) := se_c pe_non fun F => by unfold Rp; rfl
theorem se_str {x j pos} : SE X W (.Constant (.str x) j pos) (fC (.str x)) := se_c pe_str fun F => by unfold Rp; rfl
end
def fBin (g : SV → SV → AH → R SV) (fa fb : FE) : FE := fun sl h => (fa sl h).bind fun x h1 => (fb sl h1).bind fun y h2 => g x y h2
def fUn (g : SV → AH → R SV) (fa : FE) : FE := fun sl h => (fa sl h).bind fun x h1 => g x h1
def OpS (X : Cx) (r : R2) (g : SV → SV → AH → R SV) : Prop := ∀ (W : WX) (en : En) (w : Wd) (σ : St) (H : Hp) (sl : List SV) (h : AH) (x y : V) (s t : SV) (Q : VK), en.ok X → Sim en w σ H sl h → RS en w x s → RS en w y t → Po RS X W en w σ sl (g s t h) Q → r x y H Q
def UnS (X : Cx) (r : V → Hp → VK → Prop) (g : SV → AH → R SV) : Prop := ∀ (W : WX) (en : En) (w : Wd) (σ : St) (H : Hp) (sl : List SV) (h : AH) (x : V) (s : SV) (Q : VK), en.ok X → Sim en w σ H sl h → RS en w x s → Po RS X W en w σ sl (g s h) Q → r x H Q
section
variable {X : Cx} {W : WX} {a b : Expr} {fa fb : FE} {pos : Pos}
theorem bin_t {r : R2} {g : SV → SV → AH → R SV} (hr : OpS X r g) {σ : St} {H : Hp} {Q : VK} (q : tE X W (fBin g fa fb) σ H Q) : tOp r (tE X W fa) (tE X W fb) σ H Q := by
  obtain ⟨en, w, sl, h, eK, S, P⟩ := q
  refine ⟨en, w, sl, h, eK, S, Po.bind P fun s h1 v w1 H1 l1 S1 r1 P1 => ?_⟩
  exact ⟨en, w1, sl, h1, eK, S1, Po.bind P1 fun t h2 u w2 H2 l2 S2 r2 P2 => hr W en w2 σ H2 sl h2 v u s t Q eK S2 (RS.mono l2 r1) r2 P2⟩
theorem se_op {op : Operator} {r : R2} {g : SV → SV → AH → R SV} (ho : OpR X (binaryOp op) r) (hr : OpS X r g) (ha : SE X W a fa) (hb : SE X W b fb) : SE X W (.BinOp a op b pos) (fBin g fa fb) :=
  PE.imp (pe_op ho ha hb) fun _ _ _ q => bin_t hr q
theorem se_cmp {op : CmpOp} {r : R2} {g : SV → SV → AH → R SV} (ho : OpR X (compareOp op) r) (hr : OpS X r g) (ha : SE X W a fa) (hb : SE X W b fb) (hm : behindInMarks op b = false) : SE X W (.Compare a [op] [b] pos) (fBin g fa fb) :=
  PE.imp (pe_cmpR ho ha hb hm) fun _ _ _ q => bin_t hr q
theorem se_ix {r : R2} {g : SV → SV → AH → R SV} (ho : IxR X r) (hr : OpS X r g) (ha : SE X W a fa) (hb : SE X W b fb) (hs : PlainIx b) : SE X W (.Subscript a b pos) (fBin g fa fb) :=
  PE.imp (pe_ix ho ha hb hs) fun _ _ _ q => bin_t hr q
theorem se_un {op : UnaryOp} {r : V → Hp → VK → Prop} {g : SV → AH → R SV} (ho : UnR X (unaryOp op) r) (hr : UnS X r g) (ha : SE X W a fa) : SE X W (.UnaryOp op a pos) (fUn g fa) :=
  PE.imp (pe_un ho ha) (by
    rintro σ H Q ⟨en, w, sl, h, eK, S, P⟩
    exact ⟨en, w, sl, h, eK, S, Po.bind P fun s h1 v w1 H1 l1 S1 r1 P1 => hr W en w1 σ H1 sl h1 v s Q eK S1 r1 P1⟩)
end
def gI (C : Int → Int → Bool) (k : Int → Int → PyData) : SV → SV → AH → R SV := fun s t h => match s, t with
  | .d (.int i), .d (.int j) => if C i j then .ok (.d (k i j)) h else .st
  | _, _ => .st
theorem gI_inv {C : Int → Int → Bool} {k : Int → Int → PyData} {X : Cx} {W : WX} {en : En} {w : Wd} {σ : St} {H : Hp} {sl : List SV} {h : AH} {x y : V} {s t : SV} {Q : VK} (S : Sim en w σ H sl h) (r1 : RS en w x s) (r2 : RS en w y t)
    (P : Po RS X W en w σ sl (gI C k s t h) Q) : ∃ i j, x = .int i ∧ y = .int j ∧ C i j = true ∧ Po RS X W en w σ sl (.ok (.d (k i j)) h) Q := by
  unfold gI at P
  split at P
  · rename_i i j
    split at P
    · rename_i hc
      refine ⟨i, j, ?_, ?_, hc, P⟩
      · have r1 : Rp en.K w.F x (.int i) := r1
        unfold Rp at r1; exact r1
      · have r2 : Rp en.K w.F y (.int j) := r2
        unfold Rp at r2; exact r2
    · exact False.elim P
  · exact False.elim P
theorem Rp.int {K : PySem.W.Frag} {F : Hp} {i : Int} : Rp K F (.int i) (.int i) := by unfold Rp; rfl
theorem Rp.bool {K : PySem.W.Frag} {F : Hp} {i : Bool} : Rp K F (.bl i) (.bool i) := by unfold Rp; rfl
theorem Rp.str {K : PySem.W.Frag} {F : Hp} {i : Str} : Rp K F (.str i) (.str i) := by unfold Rp; rfl
theorem Rp.non {K : PySem.W.Frag} {F : Hp} : Rp K F .non .none := by unfold Rp; rfl
section
variable {X : Cx} {W : WX} {en : En} {w : Wd} {σ : St} {sl : List SV} {H : Hp} {h : AH} {Q : VK}
theorem Po.int {i : Int} (P : Po RS X W en w σ sl (.ok (.d (.int i)) h) Q) (S : Sim en w σ H sl h) : Q (.int i) H := P.here S (show Rp en.K w.F (.int i) (.int i) from Rp.int)
theorem Po.bool {i : Bool} (P : Po RS X W en w σ sl (.ok (.d (.bool i)) h) Q) (S : Sim en w σ H sl h) : Q (.bl i) H := P.here S (show Rp en.K w.F (.bl i) (.bool i) from Rp.bool)
theorem Po.str {i : Str} (P : Po RS X W en w σ sl (.ok (.d (.str i)) h) Q) (S : Sim en w σ H sl h) : Q (.str i) H := P.here S (show Rp en.K w.F (.str i) (.str i) from Rp.str)
theorem Po.non (P : Po RS X W en w σ sl (.ok (.d .none) h) Q) (S : Sim en w σ H sl h) : Q .non H := P.here S (show Rp en.K w.F .non .none from Rp.non)
end
theorem os_I {X : Cx} {Cp : Int → Int → Prop} {C : Int → Int → Bool} {k : Int → Int → Int} (hC : ∀ i j, C i j = true → Cp i j) : OpS X (rI Cp fun i j => .int (k i j)) (gI C fun i j => .int (k i j)) := by
  intro W en w σ H sl h x y s t Q eK S r1 r2 P
  obtain ⟨i, j, rfl, rfl, c, P⟩ := gI_inv S r1 r2 P
  exact ⟨i, j, rfl, rfl, hC i j c, P.int S⟩
theorem os_I0 {X : Cx} {k : Int → Int → Int} : OpS X (rI0 fun i j => .int (k i j)) (gI (fun _ _ => true) fun i j => .int (k i j)) := by
  intro W en w σ H sl h x y s t Q eK S r1 r2 P
  obtain ⟨i, j, rfl, rfl, c, P⟩ := gI_inv S r1 r2 P
  exact ⟨i, j, rfl, rfl, P.int S⟩
theorem os_B0 {X : Cx} {k : Int → Int → Bool} : OpS X (rI0 fun i j => .bl (k i j)) (gI (fun _ _ => true) fun i j => .bool (k i j)) := by
  intro W en w σ H sl h x y s t Q eK S r1 r2 P
  obtain ⟨i, j, rfl, rfl, c, P⟩ := gI_inv S r1 r2 P
  exact ⟨i, j, rfl, rfl, P.bool S⟩
def gOr (g g' : SV → SV → AH → R SV) : SV → SV → AH → R SV := fun s t h => match g s t h with
  | .st => g' s t h
  | r => r
theorem os_or {X : Cx} {r r' : R2} {g g' : SV → SV → AH → R SV} (a : OpS X r g) (b : OpS X r' g') : OpS X (fun x y H Q => r x y H Q ∨ r' x y H Q) (gOr g g') := by
  intro W en w σ H sl h x y s t Q eK S r1 r2 P
  unfold gOr at P
  cases e : g s t h with
  | st => rw [e] at P; exact .inr (b W en w σ H sl h x y s t Q eK S r1 r2 P)
  | ok v h' => rw [e] at P; exact .inl (a W en w σ H sl h x y s t Q eK S r1 r2 (by rw [e]; exact P))
  | rz c h' => rw [e] at P; exact .inl (a W en w σ H sl h x y s t Q eK S r1 r2 (by rw [e]; exact P))
mutual
theorem rb_ok {en : En} {w : Wd} {H : Hp} {h : AH} (S : SimH en w H h) : ∀ (k : Nat) (s : SV) (v : V) (x : PyData), RS en w v s → rb h k s = some x → Rp en.K H v x
  | _, .un, v, x, r, e => by unfold rb at e; cases e
  | _, .d y, v, x, r, e => by
    unfold rb at e; cases e
    exact Rp.mono S.fh y v r
  | _, .vw y, v, x, r, e => by
    unfold rb at e; cases e
    exact Rp.mono S.gh y v r
  | _, .sc n, v, x, r, e => by unfold rb at e; cases e
  | _, .ex n, v, x, r, e => by unfold rb at e; cases e
  | 0, .r n, v, x, r, e => by unfold rb at e; cases e
  | k + 1, .r n, v, x, r, e => by
    unfold rb at e
    split at e
    · rename_i xs he
      cases q : rbL h k xs with
      | none => rw [q] at e; cases e
      | some ds =>
        rw [q] at e
        cases e
        obtain ⟨a, e1, rfl⟩ := r
        obtain ⟨a', e2, ⟨vs, hv, rv⟩, _, _⟩ := S.live n _ he
        have ea : a' = a := Option.some.inj (e2.symm.trans e1)
        subst ea
        unfold Rp
        exact ⟨a', vs, rfl, hv, rbL_ok S k xs vs ds rv q⟩
    · rename_i kvs he
      cases q : rbL h k (kvs.map Prod.snd) with
      | none => rw [q] at e; cases e
      | some ds =>
        rw [q] at e
        cases e
        obtain ⟨a, e1, rfl⟩ := r
        obtain ⟨a', e2, ⟨kws, hv, ek, rv⟩, _, _⟩ := S.live n _ he
        have ea : a' = a := Option.some.inj (e2.symm.trans e1)
        subst ea
        unfold Rp
        refine ⟨a', kws, rfl, by rw [zipD_mk]; exact hv, ?_⟩
        rw [← ek]
        exact zipD_ok (rbL_ok S k _ _ ds rv q)
    · rename_i xs he
      cases q : rbL h k xs with
      | none => rw [q] at e; cases e
      | some ds =>
        rw [q] at e
        cases e
        obtain ⟨a, e1, rfl⟩ := r
        obtain ⟨a', e2, ⟨vs, hv, rv⟩, _, _⟩ := S.live n _ he
        have ea : a' = a := Option.some.inj (e2.symm.trans e1)
        subst ea
        unfold Rp
        exact ⟨a', vs, rfl, .inl (.inl hv), rbL_ok S k xs vs ds rv q⟩
    · cases e
theorem rbL_ok {en : En} {w : Wd} {H : Hp} {h : AH} (S : SimH en w H h) : ∀ (k : Nat) (ss : List SV) (vs : List V) (ds : List PyData), RSL en w vs ss → rbL h k ss = some ds → RpL en.K H vs ds
  | k, [], vs, ds, r, e => by
    unfold rbL at e
    cases e
    unfold RpL
    exact r
  | k, s :: ss, vs, ds, ⟨x, q, e1, r1, r2⟩, e => by
    unfold rbL at e
    cases e2 : rb h k s with
    | none => rw [e2] at e; cases e
    | some d =>
      rw [e2] at e
      cases e3 : rbL h k ss with
      | none => rw [e3] at e; cases e
      | some d2 =>
        rw [e3] at e
        cases e
        unfold RpL
        exact ⟨x, q, e1, rb_ok S k s x d r1 e2, rbL_ok S k ss q d2 r2 e3⟩
end

def gEq (neg : Bool) : SV → SV → AH → R SV := fun s t h => match rb h 9 s, rb h 9 t with
  | some d, some e => if (nod d && nod e && SeqAt.shaped d && SeqAt.shaped e) = true then .ok (.d (.bool (neg ^^ PyData.eqv d e))) h else .st
  | _, _ => .st
theorem os_eq {X : Cx} : OpS X (rEqD X.K) (gEq false) := by
  intro W en w σ H sl h x y s t Q eK S r1 r2 P
  unfold gEq at P
  split at P
  · rename_i d e q1 q2
    split at P
    · rename_i c
      simp only [Bool.and_eq_true] at c
      obtain ⟨⟨⟨c1, c2⟩, c3⟩, c4⟩ := c
      refine ⟨d, e, ?_, ?_, c3, c4, ?_⟩
      · rw [← eK.1]; exact Rp.dp d x c1 (rb_ok S.toSimH 9 s x d r1 q1)
      · rw [← eK.1]; exact Rp.dp e y c2 (rb_ok S.toSimH 9 t y e r2 q2)
      · have := P.bool S
        simpa using this
    · exact False.elim P
  · exact False.elim P
theorem os_ne {X : Cx} : OpS X (rNeD X.K) (gEq true) := by
  intro W en w σ H sl h x y s t Q eK S r1 r2 P
  unfold gEq at P
  split at P
  · rename_i d e q1 q2
    split at P
    · rename_i c
      simp only [Bool.and_eq_true] at c
      obtain ⟨⟨⟨c1, c2⟩, c3⟩, c4⟩ := c
      refine ⟨d, e, ?_, ?_, c3, c4, ?_⟩
      · rw [← eK.1]; exact Rp.dp d x c1 (rb_ok S.toSimH 9 s x d r1 q1)
      · rw [← eK.1]; exact Rp.dp e y c2 (rb_ok S.toSimH 9 t y e r2 q2)
      · have := P.bool S
        simpa using this
    · exact False.elim P
  · exact False.elim P
def itemsOf (h : AH) : SV → Option (List SV)
  | .d (.list ds) => some (ds.map SV.d)
  | .d (.tuple ds) => some (ds.map SV.d)
  | .vw (.list ds) => some (ds.map mkv)
  | .vw (.tuple ds) => some (ds.map mkv)
  | .r n => match h[n]? with
    | some (some (.lst xs)) => some xs
    | some (some (.tup xs)) => some xs
    | _ => none
  | .sc ns => some (ns.map fun i => SV.d (.int i))
  | _ => none
theorem RSL.ofInts {en : En} {w : Wd} : ∀ {ns : List Int}, RSL en w (ns.map V.int) (ns.map fun i => SV.d (.int i))
  | [] => rfl
  | i :: ns => ⟨.int i, ns.map V.int, rfl, (by show Rp en.K w.F (.int i) (.int i); unfold Rp; rfl), RSL.ofInts⟩
theorem RSL.ofVw {en : En} {w : Wd} {H : Hp} {h : AH} (S : SimH en w H h) : ∀ {ds : List PyData} {vs : List V}, RpL en.K en.G vs ds → RSL en w vs (ds.map mkv)
  | [], vs, q => by unfold RpL at q; exact q
  | d :: ds, vs, q => by
    unfold RpL at q
    obtain ⟨x, r, e, h1, h2⟩ := q
    refine ⟨x, r, e, ?_, RSL.ofVw S h2⟩
    show RS en w x (mkv d)
    unfold mkv
    split
    · rename_i c
      exact Rp.immF S.gh S.ti d x c h1
    · exact h1
theorem items_ok {en : En} {w : Wd} {H : Hp} {h : AH} (S : SimH en w H h) {s : SV} {v : V} {xs : List SV} (r : RS en w v s) (e : itemsOf h s = some xs) : ∃ a vs, v = .ref a ∧ (SqL en.K H a vs ∨ SqT en.K H a vs) ∧ RSL en w vs xs := by
  unfold itemsOf at e
  split at e
  · cases e
    have r : Rp en.K w.F v (.list _) := r
    unfold Rp at r
    obtain ⟨a, vs, rfl, q, l⟩ := r
    exact ⟨a, vs, rfl, .inl (.of (S.fh _ _ q)), RSL.ofRp l⟩
  · cases e
    have r : Rp en.K w.F v (.tuple _) := r
    unfold Rp at r
    obtain ⟨a, vs, rfl, q, l⟩ := r
    exact ⟨a, vs, rfl, .inr (sqT_mono (S.fh a) q), RSL.ofRp l⟩
  · cases e
    have r : Rp en.K en.G v (.list _) := r
    unfold Rp at r
    obtain ⟨a, vs, rfl, q, l⟩ := r
    exact ⟨a, vs, rfl, .inl (.of (S.gh _ _ q)), RSL.ofVw S l⟩
  · cases e
    have r : Rp en.K en.G v (.tuple _) := r
    unfold Rp at r
    obtain ⟨a, vs, rfl, q, l⟩ := r
    exact ⟨a, vs, rfl, .inr (sqT_mono (S.gh a) q), RSL.ofVw S l⟩
  · split at e
    · cases e
      rename_i n ys he
      obtain ⟨a, e1, rfl⟩ := r
      obtain ⟨a', e2, ⟨vs, hv, rv⟩, _, _⟩ := S.live n _ he
      have ea : a' = a := Option.some.inj (e2.symm.trans e1)
      subst ea
      exact ⟨a', vs, rfl, .inl (.of hv), rv⟩
    · cases e
      rename_i n ys he
      obtain ⟨a, e1, rfl⟩ := r
      obtain ⟨a', e2, ⟨vs, hv, rv⟩, _, _⟩ := S.live n _ he
      have ea : a' = a := Option.some.inj (e2.symm.trans e1)
      subst ea
      exact ⟨a', vs, rfl, .inr (.inl (.inl hv)), rv⟩
    · cases e
  · cases e
    obtain ⟨a, rfl, q⟩ := r
    exact ⟨a, _, rfl, .inl (sqL_mono (S.gh a) q), RSL.ofInts⟩
  · cases e
def lstOf (h : AH) : SV → Option (List SV)
  | .d (.list ds) => some (ds.map SV.d)
  | .vw (.list ds) => some (ds.map mkv)
  | .r n => match h[n]? with
    | some (some (.lst xs)) => some xs
    | _ => none
  | _ => none
theorem lst_ok {en : En} {w : Wd} {H : Hp} {h : AH} (S : SimH en w H h) {s : SV} {v : V} {xs : List SV} (r : RS en w v s) (e : lstOf h s = some xs) : ∃ a vs, v = .ref a ∧ H a = some (.lst vs) ∧ RSL en w vs xs := by
  unfold lstOf at e
  split at e
  · cases e
    have r : Rp en.K w.F v (.list _) := r
    unfold Rp at r
    obtain ⟨a, vs, rfl, q, l⟩ := r
    exact ⟨a, vs, rfl, S.fh _ _ q, RSL.ofRp l⟩
  · cases e
    have r : Rp en.K en.G v (.list _) := r
    unfold Rp at r
    obtain ⟨a, vs, rfl, q, l⟩ := r
    exact ⟨a, vs, rfl, S.gh _ _ q, RSL.ofVw S l⟩
  · split at e
    · cases e
      rename_i n ys he
      obtain ⟨a, e1, rfl⟩ := r
      obtain ⟨a', e2, ⟨vs, hv, rv⟩, _, _⟩ := S.live n _ he
      have ea : a' = a := Option.some.inj (e2.symm.trans e1)
      subst ea
      exact ⟨a', vs, rfl, hv, rv⟩
    · cases e
  · cases e
theorem atI_RSL {en : En} {w : Wd} {vs : List V} {xs : List SV} {i : Int} {s : SV} (r : RSL en w vs xs) (e : atI xs i = some s) : ∃ v, atI vs i = some v ∧ RS en w v s := by
  unfold atI at e ⊢
  rw [RSL.length r]
  cases k : ixN xs.length i with
  | none => rw [k] at e; cases e
  | some j =>
    rw [k] at e
    have e : xs[j]? = some s := e
    obtain ⟨v, ev, rv⟩ := RSL.get r e
    exact ⟨v, ev, rv⟩
def gIx : SV → SV → AH → R SV := fun s t h => match t with
  | .d (.int i) => match s with
    | .d (.str z) => if z.length ≤ sizeLine then match atI z.cps.toList i with
        | some c => .ok (.d (.str ⟨#[c]⟩)) h
        | none => .st
      else .st
    | _ => match itemsOf h s with
      | some xs => match atI xs i with
        | some u => .ok u h
        | none => .st
      | none => .st
  | _ => .st
theorem os_ix {X : Cx} : OpS X (rIx X.K) gIx := by
  intro W en w σ H sl h x y s t Q eK S r1 r2 P
  unfold gIx at P
  split at P
  · rename_i i
    have r2 : Rp en.K w.F y (.int i) := r2
    unfold Rp at r2
    subst r2
    split at P
    · rename_i z
      have r1 : Rp en.K w.F x (.str z) := r1
      unfold Rp at r1
      subst r1
      split at P
      · rename_i hz
        split at P
        · rename_i c hc
          exact .inr (.inr ⟨z, i, c, rfl, rfl, hz, hc, P.str S⟩)
        · exact False.elim P
      · exact False.elim P
    · split at P
      · rename_i xs hx
        split at P
        · rename_i u hu
          obtain ⟨a, vs, rfl, q, rl⟩ := items_ok S.toSimH r1 hx
          obtain ⟨v, ev, rv⟩ := atI_RSL rl hu
          have q2 := P.here S rv
          rw [eK.1] at q
          rcases q with q | q
          · exact .inl ⟨a, vs, i, v, rfl, rfl, q, ev, q2⟩
          · exact .inr (.inl ⟨a, vs, i, v, rfl, rfl, q, ev, q2⟩)
        · exact False.elim P
      · exact False.elim P
  · exact False.elim P
end Zx
namespace Zx
open PySem PySem.Spec L2
def reset : List SV → List SV → List SV
  | a :: as, b :: bs => (match a with | .un => .un | _ => b) :: reset as bs
  | _, bs => bs
def below (L : Nat) : SV → Bool
  | .r n => decide (n < L)
  | _ => true
def belowO (L : Nat) : Option AO → Bool
  | some (.lst xs) => xs.all (below L)
  | some (.dct kvs) => (kvs.map Prod.snd).all (below L)
  | some (.tup xs) => xs.all (below L)
  | none => true
def trimOk (L : Nat) (sl : List SV) (h : AH) : Bool := (h.take L).all (belowO L) && sl.all (below L)
def norm (sl0 : List SV) (L : Nat) (sl : List SV) (h : AH) : List SV × AH :=
  if trimOk L (reset sl0 sl) h = true then (reset sl0 sl, h.take L) else (reset sl0 sl, h)
theorem pick_un {a b s : SV} (e : (match a with | .un => SV.un | _ => b) = s) : s = .un ∨ b = s := by
  cases a with
  | un => exact .inl e.symm
  | d x => exact .inr e
  | vw x => exact .inr e
  | r x => exact .inr e
  | sc x => exact .inr e
  | ex x => exact .inr e
theorem reset_get : ∀ {as bs : List SV} {i : Nat} {s : SV}, (reset as bs)[i]? = some s → s = .un ∨ bs[i]? = some s
  | [], bs, i, s, e => by unfold reset at e; exact .inr e
  | a :: as, [], i, s, e => by unfold reset at e; exact .inr e
  | a :: as, b :: bs, 0, s, e => by
    unfold reset at e
    exact (pick_un (Option.some.inj e)).imp_right fun z => congrArg some z
  | a :: as, b :: bs, i + 1, s, e => by
    unfold reset at e
    have e : (reset as bs)[i]? = some s := e
    rcases reset_get e with z | z
    · exact .inl z
    · exact .inr z
theorem reset_len : ∀ (as bs : List SV), (reset as bs).length = bs.length
  | [], bs => by unfold reset; rfl
  | a :: as, [] => by unfold reset; rfl
  | a :: as, b :: bs => by unfold reset; rw [List.length_cons, List.length_cons, reset_len]
theorem RS.cut {en : En} {w : Wd} {L : Nat} {v : V} {s : SV} (r : RS en w v s) (b : below L s = true) : RS en ⟨w.rho.take L, w.F⟩ v s := by
  cases s with
  | un => exact trivial
  | d x => exact r
  | vw x => exact r
  | sc x => exact r
  | ex x => exact r
  | r n =>
    obtain ⟨a, e, z⟩ := r
    unfold below at b
    have hn := of_decide_eq_true b
    refine ⟨a, ?_, z⟩
    show (w.rho.take L)[n]? = some a
    rw [List.getElem?_take_of_lt hn]
    exact e
theorem RSL.cut {en : En} {w : Wd} {L : Nat} : ∀ {ss : List SV} {vs : List V}, RSL en w vs ss → ss.all (below L) = true → RSL en ⟨w.rho.take L, w.F⟩ vs ss
  | [], vs, r, _ => r
  | s :: ss, vs, ⟨x, q, e, a, b⟩, c => by
    rw [List.all_cons, Bool.and_eq_true] at c
    exact ⟨x, q, e, RS.cut a c.1, RSL.cut b c.2⟩
def trimE (L : Nat) (sl : List SV) (h : AH) : AH := if trimOk L sl h = true then h.take L else h
theorem SimH.trim {en : En} {w0 w : Wd} {H : Hp} {h : AH} (S : SimH en w H h) (le : w0.le w) (c1 : (h.take w0.rho.length).all (belowO w0.rho.length) = true) :
    w0.le ⟨w.rho.take w0.rho.length, w.F⟩ ∧ SimH en ⟨w.rho.take w0.rho.length, w.F⟩ H (h.take w0.rho.length) := by
  have hL : w0.rho.length ≤ w.rho.length := le.1.length_le
  have get : ∀ (n : Nat) (o : AO), (h.take w0.rho.length)[n]? = some (some o) → n < w0.rho.length ∧ h[n]? = some (some o) := fun n o e => by
    have hn : n < (h.take w0.rho.length).length := (List.getElem?_eq_some_iff.mp e).1
    rw [List.length_take] at hn
    have hn2 : n < w0.rho.length := by omega
    rw [List.getElem?_take_of_lt hn2] at e
    exact ⟨hn2, e⟩
  refine ⟨⟨?_, le.2⟩, ⟨S.gh, S.fh, S.f0, S.nw, S.ti, ?_, fun n o e => ?_, fun n m a o1 o2 e1 e2 a1 a2 => ?_⟩⟩
  · obtain ⟨t, ht⟩ := le.1
    refine ⟨[], ?_⟩
    show w0.rho ++ [] = w.rho.take w0.rho.length
    rw [← ht, List.append_nil, List.take_left' rfl]
  · show (w.rho.take w0.rho.length).length = (h.take w0.rho.length).length
    rw [List.length_take, List.length_take, S.len]
  · obtain ⟨hn, e'⟩ := get n o e
    obtain ⟨a, ea, q, f, g⟩ := S.live n o e'
    refine ⟨a, ?_, ?_, f, g⟩
    · show (w.rho.take w0.rho.length)[n]? = some a
      rw [List.getElem?_take_of_lt hn]; exact ea
    · cases o with
      | lst xs =>
        obtain ⟨vs, hv, rl⟩ := q
        refine ⟨vs, hv, RSL.cut rl ?_⟩
        have hm : some (AO.lst xs) ∈ h.take w0.rho.length := List.mem_of_getElem? e
        have := List.all_eq_true.mp c1 _ hm
        exact this
      | dct kvs =>
        obtain ⟨vs, hv, ek, rl⟩ := q
        refine ⟨vs, hv, ek, RSL.cut rl ?_⟩
        have hm : some (AO.dct kvs) ∈ h.take w0.rho.length := List.mem_of_getElem? e
        have := List.all_eq_true.mp c1 _ hm
        exact this
      | tup xs =>
        obtain ⟨vs, hv, rl⟩ := q
        refine ⟨vs, hv, RSL.cut rl ?_⟩
        have hm : some (AO.tup xs) ∈ h.take w0.rho.length := List.mem_of_getElem? e
        have := List.all_eq_true.mp c1 _ hm
        exact this
  · obtain ⟨h1, e1'⟩ := get n o1 e1
    obtain ⟨h2, e2'⟩ := get m o2 e2
    have a1 : (w.rho.take w0.rho.length)[n]? = some a := a1
    have a2 : (w.rho.take w0.rho.length)[m]? = some a := a2
    rw [List.getElem?_take_of_lt h1] at a1
    rw [List.getElem?_take_of_lt h2] at a2
    exact S.sep n m a o1 o2 e1' e2' a1 a2
theorem Slt.cut {en : En} {w : Wd} {L : Nat} {σ : St} {sl : List SV} (sr : Slt en w σ sl) (c3 : sl.all (below L) = true) : Slt en ⟨w.rho.take L, w.F⟩ σ sl := by
  refine ⟨sr.1, fun i s e => ?_⟩
  rcases sr.2 i s e with z | ⟨v, ev, r⟩
  · exact .inl z
  · have hm : s ∈ sl := List.mem_of_getElem? e
    exact .inr ⟨v, ev, RS.cut r (List.all_eq_true.mp c3 _ hm)⟩
theorem Sim.trim {en : En} {w0 w : Wd} {σ : St} {H : Hp} {sl : List SV} {h : AH} (S : Sim en w σ H sl h) (le : w0.le w) :
    ∃ w2, w0.le w2 ∧ w2.F = w.F ∧ Sim en w2 σ H sl (trimE w0.rho.length sl h) := by
  unfold trimE
  by_cases c : trimOk w0.rho.length sl h = true
  · rw [if_pos c]
    unfold trimOk at c
    rw [Bool.and_eq_true] at c
    obtain ⟨c2, c3⟩ := c
    have := SimH.trim S.toSimH le c2
    exact ⟨_, this.1, rfl, ⟨this.2, Slt.cut S.slots c3⟩⟩
  · rw [if_neg c]
    exact ⟨w, le, rfl, S⟩
theorem Sim.norm {en : En} {w0 w : Wd} {σ : St} {H : Hp} {sl0 sl : List SV} {h : AH} (S : Sim en w σ H sl h) (le : w0.le w) :
    ∃ w2, w0.le w2 ∧ Sim en w2 σ H (norm sl0 w0.rho.length sl h).1 (norm sl0 w0.rho.length sl h).2 := by
  have sr : Slt en w σ (reset sl0 sl) := ⟨(reset_len sl0 sl).trans S.slots.1, fun i s e => by
    rcases reset_get e with z | z
    · exact .inl z
    · exact S.slots.2 i s z⟩
  obtain ⟨w2, l2, _, S2⟩ := Sim.trim ⟨S.toSimH, sr⟩ le
  unfold trimE at S2
  unfold Zx.norm
  split
  · rename_i c
    rw [if_pos c] at S2
    exact ⟨w2, l2, S2⟩
  · rename_i c
    rw [if_neg c] at S2
    exact ⟨w2, l2, S2⟩
def fTst (f : FE) : FT := fun sl h => (f sl h).bind fun s h1 => match s with
  | .d (.bool b) => .ok b h1
  | _ => .st
section
variable {X : Cx} {W : WX} {a b c : Expr} {fa fb fc : FE} {ta tb : FT} {pos : Pos} {rest : List Expr}
theorem tB_t {σ : St} {H : Hp} {Q : Bool → Hp → Prop} (q : tT X W (fTst fa) σ H Q) : tB (tE X W fa) σ H Q := by
  obtain ⟨en, w, sl, h, eK, S, P⟩ := q
  refine ⟨en, w, sl, h, eK, S, Po.bind P fun s h1 v w1 H1 l1 S1 r1 P1 => ?_⟩
  split at P1
  · rename_i k
    have r1 : Rp en.K w1.F v (.bool k) := r1
    unfold Rp at r1
    exact ⟨k, r1, P1 k w1 H1 (Wd.le.refl _) S1 rfl⟩
  · exact False.elim P1
theorem st_val (h : SE X W a fa) (he : ∀ whole, isTrue a X.env whole = (do let v ← whole; standAt a.pos; holding [v] (truthy v)) := by intro _; rfl) : STt X W a (fTst fa) :=
  PT.imp (pt_val h he) fun _ _ _ q => tB_t q
theorem st_cmp {op : CmpOp} {r : R2} {g : SV → SV → AH → R SV} (ho : OpR X (compareOp op) r) (hr : OpS X r g) (ha : SE X W a fa) (hb : SE X W b fb) (hm : behindInMarks op b = false) : STt X W (.Compare a [op] [b] pos) (fTst (fBin g fa fb)) :=
  PT.imp (pt_cmpR ho ha hb hm) (by
    rintro σ H Q ⟨en, w, sl, h, eK, S, P⟩
    refine bin_t (W := W) hr ⟨en, w, sl, h, eK, S, ?_⟩
    refine Po.bind P fun s h1 v w1 H1 l1 S1 r1 P1 => ?_
    split at P1
    · rename_i k
      have r1 : Rp en.K w1.F v (.bool k) := r1
      unfold Rp at r1
      exact ⟨k, r1, P1 k w1 H1 (Wd.le.refl _) S1 rfl⟩
    · exact False.elim P1)
def fChain (g g' : SV → SV → AH → R SV) (fa fb fc : FE) : FE := fun sl h => (fa sl h).bind fun x h1 => (fb sl h1).bind fun y h2 => (g x y h2).bind fun z h3 => match z with
  | .d (.bool true) => (fc sl h3).bind fun u h4 => g' y u h4
  | .d (.bool false) => .ok (.d (.bool false)) h3
  | _ => .st
def fAndT (ta tb : FT) : FT := fun sl h => (ta sl h).bind fun k h1 => if k = true then tb sl h1 else .ok false h1
def fOrT (ta tb : FT) : FT := fun sl h => (ta sl h).bind fun k h1 => if k = true then .ok true h1 else tb sl h1
def fNotT (ta : FT) : FT := fun sl h => (ta sl h).bind fun k h1 => .ok (!k) h1
theorem sw_and1 (ha : STt X W a ta) : SWt X W (.BoolOp .And [a] pos) ta := pw_and1 ha
theorem sw_or1 (ha : STt X W a ta) : SWt X W (.BoolOp .Or [a] pos) ta := pw_or1 ha
theorem sw_and (ha : STt X W a ta) (hb : SWt X W (.BoolOp .And (b :: rest) pos) tb) : SWt X W (.BoolOp .And (a :: b :: rest) pos) (fAndT ta tb) := PW.imp (pw_and ha hb) (by
  rintro σ H Q ⟨en, w, sl, h, eK, S, P⟩
  refine ⟨en, w, sl, h, eK, S, Po.bind P fun k h1 k' w1 H1 l1 S1 r1 P1 => ?_⟩
  have r1 : k' = k := r1
  subst r1
  cases k' with
  | true => rw [if_pos rfl] at P1 ⊢; exact ⟨en, w1, sl, h1, eK, S1, P1⟩
  | false => rw [if_neg (by decide)] at P1 ⊢; exact P1 false w1 H1 (Wd.le.refl _) S1 rfl)
theorem sw_or (ha : STt X W a ta) (hb : SWt X W (.BoolOp .Or (b :: rest) pos) tb) : SWt X W (.BoolOp .Or (a :: b :: rest) pos) (fOrT ta tb) := PW.imp (pw_or ha hb) (by
  rintro σ H Q ⟨en, w, sl, h, eK, S, P⟩
  refine ⟨en, w, sl, h, eK, S, Po.bind P fun k h1 k' w1 H1 l1 S1 r1 P1 => ?_⟩
  have r1 : k' = k := r1
  subst r1
  cases k' with
  | true => rw [if_pos rfl] at P1 ⊢; exact P1 true w1 H1 (Wd.le.refl _) S1 rfl
  | false => rw [if_neg (by decide)] at P1 ⊢; exact ⟨en, w1, sl, h1, eK, S1, P1⟩)
theorem st_w (h : SWt X W a ta) : STt X W a ta := PW.pt h
theorem st_not (ha : STt X W a ta) : STt X W (.UnaryOp .Not a pos) (fNotT ta) := PT.imp (pt_not ha) (by
  rintro σ H Q ⟨en, w, sl, h, eK, S, P⟩
  refine ⟨en, w, sl, h, eK, S, Po.bind P fun k h1 k' w1 H1 l1 S1 r1 P1 => ?_⟩
  have r1 : k' = k := r1
  subst r1
  exact P1 _ w1 H1 (Wd.le.refl _) S1 rfl)
def fAndV (fa fb : FE) : FE := fun sl h => (fa sl h).bind fun s h1 => match s with
  | .d (.bool true) => fb sl h1
  | .d (.bool false) => .ok (.d (.bool false)) h1
  | _ => .st
def fOrV (fa fb : FE) : FE := fun sl h => (fa sl h).bind fun s h1 => match s with
  | .d (.bool true) => .ok (.d (.bool true)) h1
  | .d (.bool false) => fb sl h1
  | _ => .st
def fNotV (fa : FE) : FE := fun sl h => (fa sl h).bind fun s h1 => match s with
  | .d (.bool k) => .ok (.d (.bool (!k))) h1
  | _ => .st
theorem se_one {op} (h : SE X W a fa) : SE X W (.BoolOp op [a] pos) fa := pe_one h
theorem se_and (ha : SE X W a fa) (hb : SE X W (.BoolOp .And (b :: rest) pos) fb) : SE X W (.BoolOp .And (a :: b :: rest) pos) (fAndV fa fb) := PE.imp (pe_and ha hb) (by
  rintro σ H Q ⟨en, w, sl, h, eK, S, P⟩
  refine ⟨en, w, sl, h, eK, S, Po.bind P fun s h1 v w1 H1 l1 S1 r1 P1 => ?_⟩
  split at P1
  · have r1 : Rp en.K w1.F v (.bool true) := r1
    unfold Rp at r1
    exact ⟨true, r1, by rw [if_pos rfl]; exact ⟨en, w1, sl, h1, eK, S1, P1⟩⟩
  · have r1 : Rp en.K w1.F v (.bool false) := r1
    unfold Rp at r1
    exact ⟨false, r1, by rw [if_neg (by decide)]; exact P1.bool S1⟩
  · exact False.elim P1)
def fIf (t : FT) (fa fb : FE) : FE := fun sl h => (t sl h).bind fun k h1 => if k = true then fa sl h1 else fb sl h1
end
def fNil : FA := fun _ h => .ok [] h
def fCons (fa : FE) (fr : FA) : FA := fun sl h => (fa sl h).bind fun s h1 => (fr sl h1).bind fun ss h2 => .ok (s :: ss) h2
section
variable {X : Cx} {W : WX} {a : Expr} {es : List Expr} {fa : FE} {fr : FA} {pos : Pos}
theorem sa_nil : SA X W [] fNil := PA.imp pa_nil (by
  rintro σ H Q ⟨en, w, sl, h, eK, S, P⟩
  exact P [] w H (Wd.le.refl _) S rfl)
theorem sa_cons (ha : SE X W a fa) (hr : SA X W es fr) (hs : starEach (a :: es) X.env = (false, eval a X.env) :: starEach es X.env := by rfl) : SA X W (a :: es) (fCons fa fr) := PA.imp (pa_cons ha hr hs) (by
  rintro σ H Q ⟨en, w, sl, h, eK, S, P⟩
  refine ⟨en, w, sl, h, eK, S, Po.bind P fun s h1 v w1 H1 l1 S1 r1 P1 => ?_⟩
  refine ⟨en, w1, sl, h1, eK, S1, Po.bind P1 fun ss h2 vs w2 H2 l2 S2 r2 P2 => ?_⟩
  exact P2 (v :: vs) w2 H2 (Wd.le.refl _) S2 ⟨v, vs, rfl, RS.mono l2 r1, r2⟩)
def fLst (fa : FA) : FE := fun sl h => (fa sl h).bind fun ss h1 => if ss.length ≤ 1000 then .ok (.r h1.length) (h1 ++ [some (.lst ss)]) else .st
theorem line1000 : 1000 ≤ sizeLine := Nat.le_of_lt (small1000 (Nat.le_refl _))
theorem se_lst {fa : FA} (ha : SA X W es fa) : SE X W (.List es pos) (fLst fa) := PE.imp (pe_lst ha) (by
  rintro σ H Q ⟨en, w, sl, h, eK, S, P⟩
  refine ⟨en, w, sl, h, eK, S, Po.bind P fun ss h1 vs w1 H1 l1 S1 r1 P1 => ?_⟩
  split at P1
  · rename_i hl
    refine ⟨by rw [RSL.length r1]; exact Nat.le_trans hl line1000, fun p np => ?_⟩
    exact P1 (.ref p) (w1.ow p) _ le_ow (S1.newO np r1) S1.toSimH.rs_new
  · exact False.elim P1)
def allD : List SV → Option (List PyData)
  | [] => some []
  | .d x :: r => (allD r).map (x :: ·)
  | _ => none
theorem allD_ok {en : En} {w : Wd} : ∀ {ss : List SV} {vs : List V} {ds : List PyData}, RSL en w vs ss → allD ss = some ds → RpL en.K w.F vs ds
  | [], vs, ds, r, e => by
    unfold allD at e
    cases e
    unfold RpL
    exact r
  | s :: ss, vs, ds, ⟨x, q, e1, r1, r2⟩, e => by
    cases s with
    | d y =>
      unfold allD at e
      cases k : allD ss with
      | none => rw [k] at e; cases e
      | some d2 =>
        rw [k] at e
        cases e
        unfold RpL
        exact ⟨x, q, e1, r1, allD_ok r2 k⟩
    | un => unfold allD at e; cases e
    | vw y => unfold allD at e; cases e
    | r n => unfold allD at e; cases e
    | sc n => unfold allD at e; cases e
    | ex n => unfold allD at e; cases e
def fTup (fa : FA) : FE := fun sl h => (fa sl h).bind fun ss h1 => match allD ss with
  | some ds => if ds.length ≤ 1000 then .ok (.d (.tuple ds)) h1 else .st
  | none => .st
theorem se_tup {x1} {fa : FA} (ha : SA X W es fa) : SE X W (.Tuple es x1 pos) (fTup fa) := PE.imp (pe_tup ha) (by
  rintro σ H Q ⟨en, w, sl, h, eK, S, P⟩
  refine ⟨en, w, sl, h, eK, S, Po.bind P fun ss h1 vs w1 H1 l1 S1 r1 P1 => ?_⟩
  split at P1
  · rename_i ds hd
    split at P1
    · rename_i hl
      have rl := allD_ok r1 hd
      refine ⟨by rw [RpL.length rl]; exact Nat.le_trans hl line1000, fun p np => ?_⟩
      refine P1 (.ref p) (w1.fz p (.tup vs)) _ (le_fz (S1.F_none np)) (S1.newF np (fun _ _ z => by cases z)) ?_
      show Rp en.K (upd w1.F p (.tup vs)) (.ref p) (.tuple ds)
      unfold Rp
      exact ⟨p, vs, rfl, .of upd_same, RpL.mono (le_fz (S1.F_none np)).2 ds vs rl⟩
    · exact False.elim P1
  · exact False.elim P1)
mutual
def fzv : Nat → AH → SV → Option (PyData × AH)
  | _, _, .un => none
  | _, h, .d x => some (x, h)
  | _, h, .vw x => if imm x then some (x, h) else none
  | _, _, .sc _ => none
  | _, _, .ex _ => none
  | 0, _, .r _ => none
  | k + 1, h, .r n => match h[n]? with
    | some (some (.lst xs)) => match fzL k h xs with
      | some (ds, h1) => match h1[n]? with
        | some (some (.lst ys)) => if ys.length = xs.length ∧ h1.length = h.length then some (.list ds, h1.set n none) else none
        | _ => none
      | none => none
    | some (some (.dct kvs)) => match fzL k h (kvs.map Prod.snd) with
      | some (ds, h1) => match h1[n]? with
        | some (some (.dct kvs2)) => if kvs2.length = kvs.length ∧ h1.length = h.length then some (.dict (zipD (kvs.map Prod.fst) ds), h1.set n none) else none
        | _ => none
      | none => none
    | some (some (.tup xs)) => match fzL k h xs with
      | some (ds, h1) => match h1[n]? with
        | some (some (.tup ys)) => if ys.length = xs.length ∧ h1.length = h.length then some (.tuple ds, h1.set n none) else none
        | _ => none
      | none => none
    | _ => none
def fzL : Nat → AH → List SV → Option (List PyData × AH)
  | _, h, [] => some ([], h)
  | k, h, s :: ss => match fzv k h s with
    | some (d, h1) => match fzL k h1 ss with
      | some (ds, h2) => some (d :: ds, h2)
      | none => none
    | none => none
end
/-- what freezing leaves -/
structure Fzd (en : En) (w w' : Wd) (H : Hp) (h h' : AH) : Prop where
  le : w.le w'
  S : SimH en w' H h'
  rho : w'.rho = w.rho
  same : ∀ (n : Nat) (o : AO), h'[n]? = some (some o) → h[n]? = some (some o)
mutual
theorem fzv_ok {en : En} {H : Hp} : ∀ (k : Nat) (w : Wd) (h : AH) (s : SV) (v : V) (x : PyData) (h' : AH), SimH en w H h → RS en w v s → fzv k h s = some (x, h') → ∃ w', Fzd en w w' H h h' ∧ Rp en.K w'.F v x
  | _, w, h, .un, v, x, h', S, r, e => by unfold fzv at e; cases e
  | _, w, h, .d y, v, x, h', S, r, e => by
    unfold fzv at e; cases e
    exact ⟨w, ⟨Wd.le.refl _, S, rfl, fun _ _ z => z⟩, r⟩
  | _, w, h, .vw y, v, x, h', S, r, e => by
    unfold fzv at e
    split at e
    · rename_i c
      cases e
      exact ⟨w, ⟨Wd.le.refl _, S, rfl, fun _ _ z => z⟩, Rp.immF S.gh S.ti y v c r⟩
    · cases e
  | _, w, h, .sc n, v, x, h', S, r, e => by unfold fzv at e; cases e
  | _, w, h, .ex n, v, x, h', S, r, e => by unfold fzv at e; cases e
  | 0, w, h, .r n, v, x, h', S, r, e => by unfold fzv at e; cases e
  | k + 1, w, h, .r n, v, x, h', S, r, e => by
    unfold fzv at e
    split at e
    · rename_i xs hx
      split at e
      · rename_i ds h1 q
        split at e
        · rename_i ys hy
          split at e
          · rename_i hc
            cases e
            obtain ⟨a, e1, rfl⟩ := r
            obtain ⟨a', e2, ⟨vs, hv, rv⟩, _, _⟩ := S.live n _ hx
            have ea : a' = a := Option.some.inj (e2.symm.trans e1)
            subst ea
            obtain ⟨w1, F1, rl⟩ := fzL_ok k w h xs vs ds h1 S rv q
            have e3 : w1.rho[n]? = some a' := by rw [F1.rho]; exact e1
            obtain ⟨a2, e4, _, f2, _⟩ := F1.S.live n _ hy
            have ea2 : a2 = a' := Option.some.inj (e4.symm.trans e3)
            subst ea2
            refine ⟨w1.fz a2 (.lst vs), ⟨F1.le.trans (F1.S.le_own hy e3 hv), F1.S.freeze hy e3 hv, F1.rho, fun m o z => F1.same m o ?_⟩, ?_⟩
            · by_cases hm : m = n
              · subst hm
                rw [List.getElem?_set_self (List.getElem?_eq_some_iff.mp hy).1] at z
                cases z
              · rw [List.getElem?_set_ne (Ne.symm hm)] at z; exact z
            · show Rp en.K (upd w1.F a2 (.lst vs)) (.ref a2) (.list ds)
              unfold Rp
              exact ⟨a2, vs, rfl, upd_same, RpL.mono (F1.S.le_own hy e3 hv).2 ds vs rl⟩
          · cases e
        · cases e
      · cases e
    · rename_i kvs hx
      split at e
      · rename_i ds h1 q
        split at e
        · rename_i ys hy
          split at e
          · rename_i hc
            cases e
            obtain ⟨a, e1, rfl⟩ := r
            obtain ⟨a', e2, ⟨kws, hv, ek, rv⟩, _, _⟩ := S.live n _ hx
            have ea : a' = a := Option.some.inj (e2.symm.trans e1)
            subst ea
            obtain ⟨w1, F1, rl⟩ := fzL_ok k w h (kvs.map Prod.snd) (kws.map Prod.snd) ds h1 S rv q
            have e3 : w1.rho[n]? = some a' := by rw [F1.rho]; exact e1
            obtain ⟨a2, e4, _, f2, _⟩ := F1.S.live n _ hy
            have ea2 : a2 = a' := Option.some.inj (e4.symm.trans e3)
            subst ea2
            refine ⟨w1.fz a2 (.dK kws), ⟨F1.le.trans (F1.S.le_own hy e3 hv), F1.S.freeze hy e3 hv, F1.rho, fun m o z => F1.same m o ?_⟩, ?_⟩
            · by_cases hm : m = n
              · subst hm
                rw [List.getElem?_set_self (List.getElem?_eq_some_iff.mp hy).1] at z
                cases z
              · rw [List.getElem?_set_ne (Ne.symm hm)] at z; exact z
            · show Rp en.K (upd w1.F a2 (.dK kws)) (.ref a2) (.dict (zipD (kvs.map Prod.fst) ds))
              unfold Rp
              refine ⟨a2, kws, rfl, by rw [zipD_mk]; exact upd_same, RpK.mono (F1.S.le_own hy e3 hv).2 _ kws ?_⟩
              rw [← ek]
              exact zipD_ok rl
          · cases e
        · cases e
      · cases e
    · rename_i xs hx
      split at e
      · rename_i ds h1 q
        split at e
        · rename_i ys hy
          split at e
          · rename_i hc
            cases e
            obtain ⟨a, e1, rfl⟩ := r
            obtain ⟨a', e2, ⟨vs, hv, rv⟩, _, _⟩ := S.live n _ hx
            have ea : a' = a := Option.some.inj (e2.symm.trans e1)
            subst ea
            obtain ⟨w1, F1, rl⟩ := fzL_ok k w h xs vs ds h1 S rv q
            have e3 : w1.rho[n]? = some a' := by rw [F1.rho]; exact e1
            obtain ⟨a2, e4, _, f2, _⟩ := F1.S.live n _ hy
            have ea2 : a2 = a' := Option.some.inj (e4.symm.trans e3)
            subst ea2
            refine ⟨w1.fz a2 (.tup vs), ⟨F1.le.trans (F1.S.le_own hy e3 hv), F1.S.freeze hy e3 hv, F1.rho, fun m o z => F1.same m o ?_⟩, ?_⟩
            · by_cases hm : m = n
              · subst hm
                rw [List.getElem?_set_self (List.getElem?_eq_some_iff.mp hy).1] at z
                cases z
              · rw [List.getElem?_set_ne (Ne.symm hm)] at z; exact z
            · show Rp en.K (upd w1.F a2 (.tup vs)) (.ref a2) (.tuple ds)
              unfold Rp
              exact ⟨a2, vs, rfl, .inl (.inl upd_same), RpL.mono (F1.S.le_own hy e3 hv).2 ds vs rl⟩
          · cases e
        · cases e
      · cases e
    · cases e
theorem fzL_ok {en : En} {H : Hp} : ∀ (k : Nat) (w : Wd) (h : AH) (ss : List SV) (vs : List V) (ds : List PyData) (h' : AH), SimH en w H h → RSL en w vs ss → fzL k h ss = some (ds, h') → ∃ w', Fzd en w w' H h h' ∧ RpL en.K w'.F vs ds
  | k, w, h, [], vs, ds, h', S, r, e => by
    unfold fzL at e
    cases e
    exact ⟨w, ⟨Wd.le.refl _, S, rfl, fun _ _ z => z⟩, by unfold RpL; exact r⟩
  | k, w, h, s :: ss, vs, ds, h', S, ⟨x, q, e1, r1, r2⟩, e => by
    unfold fzL at e
    split at e
    · rename_i d h1 q1
      split at e
      · rename_i d2 h2 q2
        cases e
        obtain ⟨w1, F1, p1⟩ := fzv_ok k w h s x d h1 S r1 q1
        obtain ⟨w2, F2, p2⟩ := fzL_ok k w1 h1 ss q d2 _ F1.S (RSL.mono F1.le r2) q2
        refine ⟨w2, ⟨F1.le.trans F2.le, F2.S, F2.rho.trans F1.rho, fun n o z => F1.same n o (F2.same n o z)⟩, ?_⟩
        unfold RpL
        exact ⟨x, q, e1, Rp.mono F2.le.2 d x p1, p2⟩
      · cases e
    · cases e
end
def fFz (f : FE) : FE := fun sl h => (f sl h).bind fun s h1 => match fzv 9 h1 s with
  | some (x, h2) => .ok (.d x) (trimE h.length sl h2)
  | none => .st
theorem fz_po {en : En} {w : Wd} {σ : St} {H : Hp} {sl : List SV} {h : AH} {f : FE} {Q : VK} (S : Sim en w σ H sl h) (P : Po RS X W en w σ sl (fFz f sl h) Q) : Po RS X W en w σ sl (f sl h) Q := by
  unfold fFz at P
  generalize f sl h = r at P ⊢
  cases r with
  | st => exact P
  | rz c h1 => exact P
  | ok s h1 =>
    intro v w1 H1 l1 S1 r1
    have P : Po RS X W en w σ sl (match fzv 9 h1 s with | some (x, h2) => .ok (.d x) (trimE h.length sl h2) | none => .st) Q := P
    split at P
    · rename_i x h2 q
      obtain ⟨w2, F2, p2⟩ := fzv_ok 9 w1 h1 s v x h2 S1.toSimH r1 q
      obtain ⟨w3, l3, e3, S3⟩ := Sim.trim (w0 := w) (σ := σ) (sl := sl) ⟨F2.S, S1.slots.mono F2.le⟩ (l1.trans F2.le)
      rw [S.len] at S3
      refine P v w3 H1 l3 S3 ?_
      show Rp en.K w3.F v x
      rw [e3]
      exact p2
    · exact False.elim P
theorem se_fz (ha : SE X W a fa) : SE X W a (fFz fa) := PE.imp ha (by
  rintro σ H Q ⟨en, w, sl, h, eK, S, P⟩
  exact ⟨en, w, sl, h, eK, S, fz_po S P⟩)
def CallS (X : Cx) (r : List V → Hp → VK → Prop) (g : List SV → AH → R SV) : Prop := ∀ (W : WX) (en : En) (w : Wd) (σ : St) (H : Hp) (sl : List SV) (h : AH) (xs : List V) (ss : List SV) (Q : VK), en.ok X → Sim en w σ H sl h → RSL en w xs ss → Po RS X W en w σ sl (g ss h) Q → r xs H Q
def fCB (g : List SV → AH → R SV) (fa : FA) : FE := fun sl h => (fa sl h).bind fun ss h1 => g ss h1
theorem cb_t {r : List V → Hp → VK → Prop} {g : List SV → AH → R SV} (hr : CallS X r g) {fa : FA} {σ : St} {H : Hp} {Q : VK} (q : tE X W (fCB g fa) σ H Q) : tCB r (tA X W fa) σ H Q := by
  obtain ⟨en, w, sl, h, eK, S, P⟩ := q
  exact ⟨en, w, sl, h, eK, S, Po.bind P fun ss h1 vs w1 H1 l1 S1 r1 P1 => hr W en w1 σ H1 sl h1 vs ss Q eK S1 r1 P1⟩
theorem se_callB {x : Str} {p : Pos} {id : String} {r : List V → Hp → VK → Prop} {g : List SV → AH → R SV} {fa : FA} (hc : CallR X (.builtin id) r) (hr : CallS X r g) (hg : Gl X x) (hm : X.mg x = none) (hv : bootBuiltins x = some (.builtin id)) (ha : SA X W (a :: es) fa) (hn : x ≠ "__name__" := by decide) (hdb : (x == ("__debug__" : Str)) = false := by decide)
    (he : starEach (a :: es) X.env = (false, eval a X.env) :: starEach es X.env := by rfl) (hpl : (backTo pos (starEach es X.env)).any (·.1) = false := by rfl) : SE X W (.Call (.Name x p) (a :: es) [] pos) (fCB g fa) :=
  PE.imp (pe_callB hc hg hm hv ha hn hdb he hpl) fun _ _ _ q => cb_t hr q
theorem se_callTy {x : Str} {p : Pos} {id : String} {r : List V → Hp → VK → Prop} {g : List SV → AH → R SV} {fa : FA} (hc : CallR X (.type id) r) (hr : CallS X r g) (hg : Gl X x) (hm : X.mg x = none) (hv : bootBuiltins x = some (.type id)) (ha : SA X W (a :: es) fa) (hn : x ≠ "__name__" := by decide) (hdb : (x == ("__debug__" : Str)) = false := by decide)
    (he : starEach (a :: es) X.env = (false, eval a X.env) :: starEach es X.env := by rfl) (hpl : (backTo pos (starEach es X.env)).any (·.1) = false := by rfl) : SE X W (.Call (.Name x p) (a :: es) [] pos) (fCB g fa) :=
  PE.imp (pe_callTy hc hg hm hv ha hn hdb he hpl) fun _ _ _ q => cb_t hr q
end
end Zx
namespace Zx
open PySem PySem.Spec L2
def shv (L : Nat) : SV → SV
  | .r n => .r (n + L)
  | .vw _ => .un
  | .d x => .d x
  | .un => .un
  | .sc _ => .un
  | .ex _ => .un
/-- how an argument is handed in: frozen, looked at, the script -/
inductive Md where
  | fz | vw | sc
def sho (L : Nat) : AO → AO
  | .lst xs => .lst (xs.map (shv L))
  | .dct kvs => .dct (kvs.map fun p => (p.1, shv L p.2))
  | .tup xs => .tup (xs.map (shv L))
def shh (L : Nat) (h : AH) : AH := h.map (Option.map (sho L))
def argD (h : AH) : Md → SV → Option PyData
  | .fz, .d x => some x
  | .sc, .sc ns => some (.list (ns.map PyData.int))
  | .vw, s => rb h 9 s
  | _, _ => none
def ArgV (K : PySem.W.Frag) (F H : Hp) (v : V) : Md → PyData → Prop
  | .fz, d => Rp K F v d
  | .vw, d => Rp K H v d
  | .sc, d => ∃ ns, d = .list (ns.map PyData.int) ∧ RpS K H v ns
def argsD (h : AH) : List Md → List SV → Option (List PyData)
  | [], [] => some []
  | m :: ms, s :: ss => match argD h m s with
    | some d => match argsD h ms ss with
      | some ds => some (d :: ds)
      | none => none
    | none => none
  | _, _ => none
def ArgOk (K : PySem.W.Frag) (F H : Hp) : List Md → List V → List PyData → Prop
  | [], vs, ds => vs = [] ∧ ds = []
  | m :: ms, vs, ds => ∃ v vs' d ds', vs = v :: vs' ∧ ds = d :: ds' ∧ ArgV K F H v m d ∧ ArgOk K F H ms vs' ds'
theorem ArgOk.len {K : PySem.W.Frag} {F H : Hp} : ∀ {ms : List Md} {vs : List V} {ds : List PyData}, ArgOk K F H ms vs ds → vs.length = ms.length ∧ ds.length = ms.length
  | [], vs, ds, ⟨h1, h2⟩ => by rw [h1, h2]; exact ⟨rfl, rfl⟩
  | m :: ms, vs, ds, ⟨v, vs', d, ds', h1, h2, _, q⟩ => by
    obtain ⟨a, b⟩ := ArgOk.len q
    rw [h1, h2, List.length_cons, List.length_cons, List.length_cons, a, b]
    exact ⟨rfl, rfl⟩
def spD (K : PySem.W.Frag) (mg : Str → Option Value) (ms : List Md) (φ : List PyData → R SV) : Sp := fun vs H Q E => ∃ F ds, Same F H ∧ TupIn H F ∧ ArgOk K F H ms vs ds ∧ match φ ds with
  | .ok s hn => ∀ v w H', SimH ⟨K, H, F, none⟩ w H' hn → RS ⟨K, H, F, none⟩ w v s → Q v H'
  | .rz c _ => ∀ w H' hn, SimH ⟨K, H, F, none⟩ w H' hn → ∀ u, mg c = some u → E u none H'
  | .st => False
theorem argsD_ok {en : En} {w : Wd} {H : Hp} {h : AH} (S : SimH en w H h) : ∀ {ms : List Md} {ss : List SV} {vs : List V} {ds : List PyData}, RSL en w vs ss → argsD h ms ss = some ds → ArgOk en.K w.F H ms vs ds
  | [], [], vs, ds, r, e => by
    unfold argsD at e
    cases e
    exact ⟨r, rfl⟩
  | [], s :: ss, vs, ds, r, e => by unfold argsD at e; cases e
  | m :: ms, [], vs, ds, r, e => by unfold argsD at e; cases e
  | m :: ms, s :: ss, vs, ds, ⟨x, q, e1, r1, r2⟩, e => by
    unfold argsD at e
    cases k : argD h m s with
    | none => rw [k] at e; cases e
    | some d =>
      rw [k] at e
      cases k2 : argsD h ms ss with
      | none => rw [k2] at e; cases e
      | some d2 =>
        rw [k2] at e
        cases e
        refine ⟨x, q, d, d2, e1, rfl, ?_, argsD_ok S r2 k2⟩
        cases m with
        | vw =>
          have k : rb h 9 s = some d := by unfold argD at k; exact k
          exact rb_ok S 9 s x d r1 k
        | fz =>
          cases s with
          | d y => unfold argD at k; cases k; exact r1
          | un => unfold argD at k; cases k
          | vw y => unfold argD at k; cases k
          | r n => unfold argD at k; cases k
          | sc n => unfold argD at k; cases k
          | ex n => unfold argD at k; cases k
        | sc =>
          cases s with
          | sc ns =>
            unfold argD at k; cases k
            obtain ⟨a, e, q⟩ := r1
            exact ⟨ns, rfl, a, e, sqL_mono (S.gh a) q⟩
          | un => unfold argD at k; cases k
          | vw y => unfold argD at k; cases k
          | r n => unfold argD at k; cases k
          | d n => unfold argD at k; cases k
          | ex n => unfold argD at k; cases k
theorem RS.shift {K : PySem.W.Frag} {G F0 : Hp} {en : En} {w1 w : Wd} (eK : en.K = K) {v : V} {s : SV} (r : RS ⟨K, G, F0, none⟩ w v s) : RS en ⟨w1.rho ++ w.rho, w.F⟩ v (shv w1.rho.length s) := by
  cases s with
  | un => exact trivial
  | d x => exact (show Rp en.K w.F v x by rw [eK]; exact r)
  | vw x => exact trivial
  | sc x => exact trivial
  | ex x => exact trivial
  | r n =>
    obtain ⟨a, e, z⟩ := r
    refine ⟨a, ?_, z⟩
    show (w1.rho ++ w.rho)[n + w1.rho.length]? = some a
    rw [List.getElem?_append_right (by omega), Nat.add_sub_cancel]
    exact e
theorem RSL.shift {K : PySem.W.Frag} {G F0 : Hp} {en : En} {w1 w : Wd} (eK : en.K = K) : ∀ {ss : List SV} {vs : List V}, RSL ⟨K, G, F0, none⟩ w vs ss → RSL en ⟨w1.rho ++ w.rho, w.F⟩ vs (ss.map (shv w1.rho.length))
  | [], vs, r => r
  | s :: ss, vs, ⟨x, q, e, a, b⟩ => ⟨x, q, e, RS.shift eK a, RSL.shift eK b⟩
theorem Sim.call {en : En} {w1 w : Wd} {σ : St} {H1 H' : Hp} {sl : List SV} {h1 hn : AH} (S1 : Sim en w1 σ H1 sl h1) (S2 : SimH ⟨en.K, H1, w1.F, none⟩ w H' hn) :
    w1.le ⟨w1.rho ++ w.rho, w.F⟩ ∧ Sim en ⟨w1.rho ++ w.rho, w.F⟩ σ H' sl (h1 ++ shh h1.length hn) := by
  have le : w1.le ⟨w1.rho ++ w.rho, w.F⟩ := ⟨List.prefix_append _ _, S2.f0⟩
  have hL : h1.length = w1.rho.length := S1.len.symm
  have getN : ∀ (n : Nat) (o : AO), (h1 ++ shh h1.length hn)[n]? = some (some o) → (n < h1.length ∧ h1[n]? = some (some o)) ∨ (h1.length ≤ n ∧ ∃ o', hn[n - h1.length]? = some (some o') ∧ o = sho h1.length o') := fun n o e => by
    by_cases hn' : n < h1.length
    · rw [List.getElem?_append_left hn'] at e
      exact .inl ⟨hn', e⟩
    · rw [List.getElem?_append_right (by omega)] at e
      refine .inr ⟨by omega, ?_⟩
      unfold shh at e
      rw [List.getElem?_map] at e
      cases k : hn[n - h1.length]? with
      | none => rw [k] at e; cases e
      | some oo =>
        rw [k] at e
        cases oo with
        | none => cases e
        | some o' => cases e; exact ⟨o', rfl, rfl⟩
  have rhoR : ∀ (n : Nat), h1.length ≤ n → (w1.rho ++ w.rho)[n]? = w.rho[n - h1.length]? := fun n hn' => by
    rw [List.getElem?_append_right (by omega), hL]
  have rhoL : ∀ (n : Nat), n < h1.length → (w1.rho ++ w.rho)[n]? = w1.rho[n]? := fun n hn' => by
    rw [List.getElem?_append_left (by omega)]
  refine ⟨le, ⟨S1.gh.trans S2.gh, S2.fh, S1.f0.trans S2.f0, fun a o e => ?_, S2.ti, ?_, fun n o e => ?_, fun n m a o1 o2 e1 e2 a1 a2 => ?_⟩, S1.slots.mono le⟩
  · rcases S2.nw a o e with z | z
    · exact S1.nw a o z
    · exact .inr (S1.gh.free z)
  · show (w1.rho ++ w.rho).length = (h1 ++ shh h1.length hn).length
    rw [List.length_append, List.length_append, S1.len, S2.len]
    unfold shh
    rw [List.length_map]
  · rcases getN n o e with ⟨hlt, e'⟩ | ⟨hge, o', e', rfl⟩
    · obtain ⟨a, ea, q, f, g⟩ := S1.live n o e'
      obtain ⟨u, eu, _, _⟩ := q.some
      refine ⟨a, (rhoL n hlt).trans ea, q.mono le ((S2.gh a u eu).trans eu.symm), ?_, g⟩
      intro ht
      have f := f ht
      show w.F a = none
      cases k : w.F a with
      | none => rfl
      | some o2 =>
        rcases S2.nw a o2 k with z | z
        · have z : w1.F a = some o2 := z
          rw [f] at z; cases z
        · have z : H1 a = none := z
          rw [eu] at z; cases z
    · obtain ⟨a, ea, q, f, g⟩ := S2.live _ o' e'
      refine ⟨a, (rhoR n hge).trans ea, ?_, (fun t => f (by cases o' <;> first | rfl | exact t)), S1.gh.free g⟩
      cases o' with
      | lst xs =>
        obtain ⟨vs, hv, rl⟩ := q
        refine ⟨vs, hv, ?_⟩
        rw [hL]
        exact RSL.shift (en := en) (w1 := w1) rfl rl
      | dct kvs =>
        obtain ⟨vs, hv, ek, rl⟩ := q
        refine ⟨vs, hv, ?_, ?_⟩
        · rw [ek, List.map_map]; rfl
        · rw [hL, List.map_map, show (Prod.snd ∘ fun p : Key × SV => (p.1, shv w1.rho.length p.2)) = (shv w1.rho.length) ∘ Prod.snd from rfl, ← List.map_map]
          exact RSL.shift (en := en) (w1 := w1) rfl rl
      | tup xs =>
        obtain ⟨vs, hv, rl⟩ := q
        refine ⟨vs, hv, ?_⟩
        rw [hL]
        exact RSL.shift (en := en) (w1 := w1) rfl rl
  · have a1 : (w1.rho ++ w.rho)[n]? = some a := a1
    have a2 : (w1.rho ++ w.rho)[m]? = some a := a2
    rcases getN n o1 e1 with ⟨h1', e1'⟩ | ⟨h1', o1', e1', _⟩ <;> rcases getN m o2 e2 with ⟨h2', e2'⟩ | ⟨h2', o2', e2', _⟩
    · exact S1.sep n m a o1 o2 e1' e2' (by rw [← rhoL n h1']; exact a1) (by rw [← rhoL m h2']; exact a2)
    · obtain ⟨b, eb, q, f, g⟩ := S1.live n o1 e1'
      obtain ⟨u, eu, _, _⟩ := q.some
      obtain ⟨b2, eb2, q2, f2, g2⟩ := S2.live _ o2' e2'
      have z1 : b = a := Option.some.inj (((rhoL n h1').trans eb).symm.trans a1)
      have z2 : b2 = a := Option.some.inj (((rhoR m h2').trans eb2).symm.trans a2)
      have g2 : H1 b2 = none := g2
      rw [z2, ← z1, eu] at g2; cases g2
    · obtain ⟨b, eb, q, f, g⟩ := S1.live m o2 e2'
      obtain ⟨u, eu, _, _⟩ := q.some
      obtain ⟨b2, eb2, q2, f2, g2⟩ := S2.live _ o1' e1'
      have z1 : b = a := Option.some.inj (((rhoL m h2').trans eb).symm.trans a2)
      have z2 : b2 = a := Option.some.inj (((rhoR n h1').trans eb2).symm.trans a1)
      have g2 : H1 b2 = none := g2
      rw [z2, ← z1, eu] at g2; cases g2
    · have := S2.sep _ _ a o1' o2' e1' e2' (by rw [← rhoR n h1']; exact a1) (by rw [← rhoR m h2']; exact a2)
      omega
theorem SimH.drop {en : En} {w : Wd} {H : Hp} {h : AH} (S : SimH en w H h) : SimH en ⟨[], w.F⟩ H [] :=
  ⟨S.gh, S.fh, S.f0, S.nw, S.ti, rfl, fun n o e => by simp at e, fun n m a o1 o2 e => by simp at e⟩
def fCall (ms : List Md) (φ : List PyData → R SV) (fa : FA) : FE := fun sl h => (fa sl h).bind fun ss h1 => match argsD h1 ms ss with
  | some ds => match φ ds with
    | .ok s hn => .ok (shv h1.length s) (h1 ++ shh h1.length hn)
    | .rz c _ => .rz c h1
    | .st => .st
  | none => .st
section
variable {X : Cx} {W : WX} {a : Expr} {es : List Expr} {fa : FA} {pos p : Pos} {x : Str} {k : Nat} {f : Addr} {fd : FuncData} {ps : List Str} {ms : List Md} {φ : List PyData → R SV}
theorem call_t {σ : St} {H : Hp} {Q : VK} (q : tE X W (fCall ms φ fa) σ H Q) : tCallS (spD X.K X.mg ms φ) (WE W) (tA X W fa) σ H Q := by
  obtain ⟨en, w, sl, h, eK, S, P⟩ := q
  refine ⟨en, w, sl, h, eK, S, Po.bind P fun ss h1 vs w1 H1 l1 S1 r1 P1 => ?_⟩
  split at P1
  · rename_i ds hd
    refine ⟨w1.F, ds, S1.fh, S1.ti, by rw [← eK.1]; exact argsD_ok S1.toSimH r1 hd, ?_⟩
    cases hφ : φ ds with
    | st => rw [hφ] at P1; exact False.elim P1
    | rz c hh =>
      rw [hφ] at P1
      show ∀ w H' hn, SimH ⟨X.K, H1, w1.F, none⟩ w H' hn → ∀ u, X.mg c = some u → W u none σ H'
      intro w2 H' hn S2 u hu
      rw [← eK.1] at S2
      obtain ⟨le, S3⟩ := Sim.call S1 S2.drop
      refine P1 _ H' le ?_ u hu
      have S3 : Sim en ⟨w1.rho ++ [], w2.F⟩ σ H' sl (h1 ++ []) := S3
      rw [List.append_nil h1] at S3
      exact S3
    | ok s hn =>
      rw [hφ] at P1
      show ∀ v w H', SimH ⟨X.K, H1, w1.F, none⟩ w H' hn → RS ⟨X.K, H1, w1.F, none⟩ w v s → Q v H'
      intro v w2 H' S2 r2
      rw [← eK.1] at S2 r2
      obtain ⟨le, S3⟩ := Sim.call S1 S2
      refine P1 v _ H' le S3 ?_
      rw [show h1.length = w1.rho.length from S1.len.symm]
      exact RS.shift rfl r2
  · exact False.elim P1
theorem se_call (F : FnOk X.prog X.w X.K X.mg X.base (L2N.CX X.prog X.w) k f fd ps (spD X.K X.mg ms φ)) (hr : Room k X.A) (hg : Gl X x) (hm : X.mg x = some (.ref f)) (hk : PySem.W.keepIn X.K (.ref f) = true) (hb : Binds X.K fd ps []) (tk : L2N.Takes X W)
    (ha : SA X W (a :: es) fa) (hdb : (x == ("__debug__" : Str)) = false := by decide) (he : starEach (a :: es) X.env = (false, eval a X.env) :: starEach es X.env := by rfl) (hpl : (backTo pos (starEach es X.env)).any (·.1) = false := by rfl) :
    SE X W (.Call (.Name x p) (a :: es) [] pos) (fCall ms φ fa) :=
  PE.imp (pe_callS F hr hg hm hk hb (L2N.passAt tk) ha hdb he hpl) fun _ _ _ q => call_t q
end
inductive O where
  | nx (sl : List SV) (h : AH) | rt (s : SV) (h : AH) | bk (sl : List SV) (h : AH) | ct (sl : List SV) (h : AH) | rz (c : Str) (sl : List SV) (h : AH) | st
abbrev FS := List SV → AH → O
def PoS (X : Cx) (W : WX) (en : En) (w : Wd) (o : O) (D : Ends) : Prop := match o with
  | .nx sl h => ∀ w' σ' H', w.le w' → Sim en w' σ' H' sl h → D.nx σ' H'
  | .bk sl h => ∀ w' σ' H', w.le w' → Sim en w' σ' H' sl h → D.bk σ' H'
  | .ct sl h => ∀ w' σ' H', w.le w' → Sim en w' σ' H' sl h → D.ct σ' H'
  | .rt s h => ∀ w' H' v, w.le w' → SimH en w' H' h → RS en w' v s → D.rt v H'
  | .rz c sl h => ∀ w' σ' H', w.le w' → Sim en w' σ' H' sl h → clsW X W c σ' H'
  | .st => False
def tS (X : Cx) (W : WX) (g : FS) : TS := fun D σ H => ∃ en w sl h, en.ok X ∧ Sim en w σ H sl h ∧ PoS X W en w (g sl h) D
abbrev SS (X : Cx) (W : WX) (s : Stmt) (g : FS) : Prop := PS X s (tS X W g)
abbrev SSs (X : Cx) (W : WX) (s : List Stmt) (g : FS) : Prop := PSs X s (tS X W g)
theorem PoS.mono {X : Cx} {W : WX} {en : En} {w w' : Wd} {o : O} {D : Ends} (k : w.le w') (P : PoS X W en w o D) : PoS X W en w' o D := by
  cases o with
  | nx sl h => exact fun w2 σ2 H2 l S => P w2 σ2 H2 (k.trans l) S
  | bk sl h => exact fun w2 σ2 H2 l S => P w2 σ2 H2 (k.trans l) S
  | ct sl h => exact fun w2 σ2 H2 l S => P w2 σ2 H2 (k.trans l) S
  | rt s h => exact fun w2 H2 v l S r => P w2 H2 v (k.trans l) S r
  | rz c sl h => exact fun w2 σ2 H2 l S => P w2 σ2 H2 (k.trans l) S
  | st => exact P
def R.thn {α : Type} (r : R α) (sl : List SV) (k : α → AH → O) : O := match r with
  | .ok a h => k a h
  | .rz c h => .rz c sl h
  | .st => .st
theorem Po.thn {α β : Type} {rep : En → Wd → β → α → Prop} {X : Cx} {W : WX} {en : En} {w : Wd} {σ : St} {sl : List SV} {r : R α} {k : α → AH → O} {D : Ends} {Q1 : β → Hp → Prop} (P : PoS X W en w (r.thn sl k) D)
    (c : ∀ a h1 b w' H', w.le w' → Sim en w' σ H' sl h1 → rep en w' b a → PoS X W en w' (k a h1) D → Q1 b H') : Po rep X W en w σ sl r Q1 := by
  cases r with
  | ok a h1 => exact fun b w' H' l S q => c a h1 b w' H' l S q (PoS.mono l P)
  | rz cc h1 => exact fun w' H' l S => P w' σ H' l S
  | st => exact P
def sNext : FS := fun sl h => .nx sl h
def sSeq (a b : FS) : FS := fun sl h => match a sl h with
  | .nx sl' h' => b sl' h'
  | o => o
def sExpr (f : FE) : FS := fun sl h => (f sl h).thn sl fun _ h1 => .nx sl h1
def sRet (f : FE) : FS := fun sl h => (f sl h).thn sl fun s h1 => .rt s h1
def sRetN : FS := fun _ h => .rt (.d .none) h
def sSet (i : Nat) (f : FE) : FS := fun sl h => (f sl h).thn sl fun s h1 => .nx (sl.set i s) h1
def sIf (t : FT) (a b : FS) : FS := fun sl h => (t sl h).thn sl fun k h1 => if k = true then a sl h1 else b sl h1
def sBreak : FS := fun sl h => .bk sl h
def sCont : FS := fun sl h => .ct sl h
def sRaise (c : Str) : FS := fun sl h => .rz c sl h
theorem Slt.set {en : En} {w : Wd} {σ : St} {sl : List SV} (q : Slt en w σ sl) {v : V} {s : SV} (r : RS en w v s) (i : Nat) : Slt en w (σ.set i (some v)) (sl.set i s) := by
  refine ⟨by rw [List.length_set, List.length_set]; exact q.1, fun j u e => ?_⟩
  by_cases hj : i = j
  · subst hj
    by_cases hi : i < sl.length
    · rw [List.getElem?_set_self hi] at e
      cases e
      refine .inr ⟨v, ?_, r⟩
      rw [List.getElem?_set_self (by rw [← q.1]; exact hi)]
    · rw [List.getElem?_eq_none (by rw [List.length_set]; omega)] at e
      cases e
  · rw [List.getElem?_set_ne hj] at e
    rw [List.getElem?_set_ne hj]
    exact q.2 j u e
theorem Sim.set {en : En} {w : Wd} {σ : St} {H : Hp} {sl : List SV} {h : AH} (S : Sim en w σ H sl h) {v : V} {s : SV} (r : RS en w v s) (i : Nat) : Sim en w (σ.set i (some v)) H (sl.set i s) h := ⟨S.toSimH, S.slots.set r i⟩
section
variable {X : Cx} {W : WX} {e : Expr} {fe : FE} {st : Stmt} {rest : List Stmt} {a b : List Stmt} {g g' : FS} {pos : Pos} {ft : FT} {c : Expr}
theorem ss_nil : SSs X W [] sNext := PSs.imp pss_nil (by
  rintro D σ H ⟨en, w, sl, h, eK, S, P⟩
  exact P w σ H (Wd.le.refl _) S)
theorem ss_one (h1 : SS X W st g) : SSs X W [st] g := pss_one h1
theorem ss_cons (h1 : SS X W st g) (h2 : SSs X W rest g') : SSs X W (st :: rest) (sSeq g g') := PSs.imp (pss_cons h1 h2) (by
  rintro D σ H ⟨en, w, sl, h, eK, S, P⟩
  refine ⟨en, w, sl, h, eK, S, ?_⟩
  unfold sSeq at P
  cases q : g sl h with
  | nx sl1 h1 =>
    rw [q] at P
    exact fun w' σ' H' l S' => ⟨en, w', sl1, h1, eK, S', PoS.mono l P⟩
  | rt s h1 => rw [q] at P; exact P
  | bk sl1 h1 => rw [q] at P; exact P
  | ct sl1 h1 => rw [q] at P; exact P
  | rz cc sl1 h1 => rw [q] at P; exact P
  | st => rw [q] at P; exact P)
theorem ss_expr (he : SE X W e fe) (hs : swapsWith e none pos.line X.env = pure false := by rfl) : SS X W (.Expr e pos) (sExpr fe) := PS.imp (ps_expr he hs) (by
  rintro D σ H ⟨en, w, sl, h, eK, S, P⟩
  exact ⟨en, w, sl, h, eK, S, Po.thn P fun s h1 v w1 H1 l1 S1 r1 P1 => P1 w1 σ H1 (Wd.le.refl _) S1⟩)
theorem ss_ret (he : SE X W e fe) : SS X W (.Return (some e) pos) (sRet fe) := PS.imp (ps_ret he) (by
  rintro D σ H ⟨en, w, sl, h, eK, S, P⟩
  exact ⟨en, w, sl, h, eK, S, Po.thn P fun s h1 v w1 H1 l1 S1 r1 P1 => P1 w1 H1 v (Wd.le.refl _) S1.toSimH r1⟩)
theorem ss_set {i : Nat} {x : Str} {pos' : Pos} (hN : X.N.Nodup) (hi : X.N[i]? = some x) (hx : Loc X.env.scope x) (he : SE X W e fe) (hs : swapsWith e (some (.Name x pos')) pos.line X.env = pure false := by rfl) (hf : X.fn x = true ∨ X.env.scope.names.lookup x = some .local := by first | exact .inl rfl | exact .inr rfl | assumption) :
    SS X W (.Assign [.Name x pos'] e pos) (sSet i fe) := PS.imp (ps_set hN hi hx he hs hf) (by
  rintro D σ H ⟨en, w, sl, h, eK, S, P⟩
  exact ⟨en, w, sl, h, eK, S, Po.thn P fun s h1 v w1 H1 l1 S1 r1 P1 => P1 w1 _ H1 (Wd.le.refl _) (S1.set r1 i)⟩)
theorem ss_if (hc : STt X W c ft) (ha : SSs X W a g) (hb : SSs X W b g') : SS X W (.If c a b pos) (sIf ft g g') := PS.imp (ps_if hc ha hb) (by
  rintro D σ H ⟨en, w, sl, h, eK, S, P⟩
  refine ⟨en, w, sl, h, eK, S, Po.thn P fun k h1 k' w1 H1 l1 S1 r1 P1 => ?_⟩
  have r1 : k' = k := r1
  subst r1
  cases k' with
  | true => rw [if_pos rfl] at P1 ⊢; exact ⟨en, w1, sl, h1, eK, S1, P1⟩
  | false => rw [if_neg (by decide)] at P1 ⊢; exact ⟨en, w1, sl, h1, eK, S1, P1⟩)
theorem takesN {X : Cx} : L2N.Takes X (fun _ _ _ _ => False) := fun _ _ x => by
  obtain ⟨_, _, _, _, _, _, _, _, _, _, _, _, _, _, _, _, z⟩ := x
  exact z.elim
theorem ss_raise {cl : Str} {C : Addr} (hc : X.calm = true) (tk : L2N.Takes X W) (gC : X.mg cl = some (.ref C)) (he : L2N.PMk X e (fun _ H Q => Q (.ref C) none H)) : SS X W (.Raise (some e) none pos) (sRaise cl) := PS.imp (L2N.ps_raise hc tk he) (by
  rintro D σ H ⟨en, w, sl, h, eK, S, P⟩
  exact P w σ H (Wd.le.refl _) S (.ref C) gC)
end
end Zx
namespace Zx
open PySem PySem.Spec L2
inductive It1 where
  | one (s : SV) | two (x y : SV)
inductive Bd where
  | nm (i : Nat) | tp (is : List Nat)
def tupItems : SV → Option (List SV)
  | .d (.tuple ds) => some (ds.map SV.d)
  | .vw (.tuple ds) => some (ds.map mkv)
  | _ => none
def setAll : List Nat → List SV → List SV → Option (List SV)
  | [], [], sl => some sl
  | i :: is, x :: xs, sl => setAll is xs (sl.set i x)
  | _, _, _ => none
def Bd.go : Bd → It1 → List SV → Option (List SV)
  | .nm i, .one s, sl => some (sl.set i s)
  | .tp is, .one s, sl => match tupItems s with
    | some xs => setAll is xs sl
    | none => none
  | .tp is, .two x y, sl => setAll is [x, y] sl
  | .nm _, .two _ _, _ => none
def RepI (en : En) (w : Wd) (H : Hp) (v : V) : It1 → Prop
  | .one s => RS en w v s
  | .two x y => ∃ T a b, v = .ref T ∧ H T = some (.tup [a, b]) ∧ RS en w a x ∧ RS en w b y
theorem tup_ok {en : En} {w : Wd} {H : Hp} {h : AH} (S : SimH en w H h) {s : SV} {v : V} {xs : List SV} (r : RS en w v s) (e : tupItems s = some xs) : ∃ a vs, v = .ref a ∧ SqT en.K H a vs ∧ RSL en w vs xs := by
  unfold tupItems at e
  split at e
  · cases e
    have r : Rp en.K w.F v (.tuple _) := r
    unfold Rp at r
    obtain ⟨a, vs, rfl, q, l⟩ := r
    exact ⟨a, vs, rfl, sqT_mono (S.fh a) q, RSL.ofRp l⟩
  · cases e
    have r : Rp en.K en.G v (.tuple _) := r
    unfold Rp at r
    obtain ⟨a, vs, rfl, q, l⟩ := r
    exact ⟨a, vs, rfl, sqT_mono (S.gh a) q, RSL.ofVw S l⟩
  · cases e
def Bd.is : Bd → List Nat
  | .nm i => [i]
  | .tp is => is
def Chg (is : List Nat) (σ σ' : St) : Prop := σ'.length = σ.length ∧ ∀ j, j ∉ is → σ'[j]? = σ[j]?
theorem Chg.refl (is : List Nat) (σ : St) : Chg is σ σ := ⟨rfl, fun _ _ => rfl⟩
theorem Chg.set {is : List Nat} {σ σ' : St} {i : Nat} {v : Option V} (hi : i ∈ is) (c : Chg is (σ.set i v) σ') : Chg is σ σ' :=
  ⟨c.1.trans (by rw [List.length_set]), fun j hj => (c.2 j hj).trans (List.getElem?_set_ne (fun e => hj (by rw [← e]; exact hi)))⟩
def gNms : List Nat → TGs
  | [] => gNil
  | i :: is => gCons (gName i) (gNms is)
theorem gNms_ok {en : En} {w : Wd} {H : Hp} {h : AH} {Q : St → Hp → Prop} : ∀ {is : List Nat} {xs : List SV} {vs : List V} {σ : St} {sl sl' : List SV}, Sim en w σ H sl h → RSL en w vs xs → setAll is xs sl = some sl' → (∀ σ', Sim en w σ' H sl' h → Chg is σ σ' → Q σ' H) → gNms is vs σ H Q
  | [], [], vs, σ, sl, sl', S, r, e, q => by
    unfold setAll at e
    cases e
    exact ⟨r, q σ S (Chg.refl _ _)⟩
  | i :: is, x :: xs, vs, σ, sl, sl', S, ⟨v, vr, e1, a, b⟩, e, q => by
    unfold setAll at e
    exact ⟨v, vr, e1, gNms_ok (S.set a i) b e fun σ' S' c => q σ' S' (Chg.set List.mem_cons_self ⟨c.1, fun j hj => c.2 j fun z => hj (List.mem_cons_of_mem _ z)⟩)⟩
  | [], x :: xs, vs, σ, sl, sl', S, r, e, q => by unfold setAll at e; cases e
  | i :: is, [], vs, σ, sl, sl', S, r, e, q => by unfold setAll at e; cases e
theorem setAll_len : ∀ {is : List Nat} {xs sl sl' : List SV}, setAll is xs sl = some sl' → xs.length = is.length
  | [], [], sl, sl', e => rfl
  | i :: is, x :: xs, sl, sl', e => by
    unfold setAll at e
    rw [List.length_cons, List.length_cons, setAll_len e]
  | [], x :: xs, sl, sl', e => by unfold setAll at e; cases e
  | i :: is, [], sl, sl', e => by unfold setAll at e; cases e
def GS (X : Cx) (bd : Bd) (g : TG) : Prop := ∀ (en : En) (w : Wd) (σ : St) (H : Hp) (sl sl' : List SV) (h : AH) (v : V) (it : It1) (Q : St → Hp → Prop), en.ok X → Sim en w σ H sl h → RepI en w H v it → bd.go it sl = some sl' → (∀ σ', Sim en w σ' H sl' h → Chg bd.is σ σ' → Q σ' H) → g v σ H Q
theorem gs_name {X : Cx} {i : Nat} : GS X (.nm i) (gName i) := by
  intro en w σ H sl sl' h v it Q eK S r e q
  cases it with
  | one s => cases e; exact q _ (S.set r i) (Chg.set (List.mem_singleton_self i) (Chg.refl _ _))
  | two x y => cases e
theorem gs_tup {X : Cx} {is : List Nat} : GS X (.tp is) (gTup X.K is.length (gNms is)) := by
  intro en w σ H sl sl' h v it Q eK S r e q
  cases it with
  | one s =>
    have e : (match tupItems s with | some xs => setAll is xs sl | none => none) = some sl' := e
    split at e
    · rename_i xs hx
      obtain ⟨a, vs, rfl, hq, rl⟩ := tup_ok S.toSimH r hx
      refine ⟨a, vs, rfl, by rw [← eK.1]; exact hq, ?_, gNms_ok S rl e q⟩
      rw [RSL.length rl, setAll_len e]
    · cases e
  | two x y =>
    have e : setAll is [x, y] sl = some sl' := e
    obtain ⟨T, a, b, rfl, hT, r1, r2⟩ := r
    exact ⟨T, [a, b], rfl, .of hT, (setAll_len e), gNms_ok (is := is) (xs := [x, y]) S ⟨a, [b], rfl, r1, b, [], rfl, r2, rfl⟩ e q⟩
def sSetT (is : List Nat) (f : FE) : FS := fun sl h => (f sl h).thn sl fun s h1 => match (Bd.tp is).go (.one s) sl with
  | some sl' => .nx sl' h1
  | none => .st
section
variable {X : Cx} {W : WX} {e tg : Expr} {fe : FE} {pos : Pos}
theorem ss_setT {is : List Nat} (he : SE X W e fe) (hg : PG X tg (gTup X.K is.length (gNms is))) (hs : swapsWithSole [tg] e pos.line X.env = pure false := by rfl) (hw : swappedStores [tg] e X.env = pure none := by rfl)
    (h1 : List.map (fun x => x.snd) (assignEach [tg] X.env) = [assign tg X.env] := by rfl) : SS X W (.Assign [tg] e pos) (sSetT is fe) := PS.imp (ps_asg he hg hs hw h1) (by
  rintro D σ H ⟨en, w, sl, h, eK, S, P⟩
  refine ⟨en, w, sl, h, eK, S, Po.thn P fun s h1 v w1 H1 l1 S1 r1 P1 => ?_⟩
  split at P1
  · rename_i sl' e1
    exact gs_tup (X := X) en w1 σ H1 sl sl' h1 v (.one s) D.nx eK S1 r1 e1 fun σ' S' _ => P1 w1 σ' H1 (Wd.le.refl _) S'
  · exact False.elim P1)
end
inductive Src where
  | cn (l : List It1) | ow (n : Nat)
/-- the iterator J walks these items while the world stands -/
structure ItOk (en : En) (w0 : Wd) (J : It) (l : List It1) : Prop where
  goes : ∀ i σ w H sl h, w0.le w → Sim en w σ H sl h → i < l.length → J.go i H
  stop : ∀ σ w H sl h, w0.le w → Sim en w σ H sl h → J.stop l.length H
  yld : ∀ i σ w H sl h x H' it, w0.le w → Sim en w σ H sl h → l[i]? = some it → J.yld i H x H' → ∃ w', w.le w' ∧ Sim en w' σ H' sl h ∧ RepI en w' H' x it
def RepS (en : En) (w : Wd) (J : It) : Src → Prop
  | .cn l => ItOk en w J l
  | .ow n => ∃ a, w.rho[n]? = some a ∧ J = Itl en.K a
def tI (X : Cx) (W : WX) (f : List SV → AH → R Src) : TI := fun σ H Q => ∃ en w sl h, en.ok X ∧ Sim en w σ H sl h ∧ Po RepS X W en w σ sl (f sl h) Q
abbrev SI (X : Cx) (W : WX) (tg iter : Expr) (f : List SV → AH → R Src) : Prop := PI X tg iter (tI X W f)
theorem PI.imp {X : Cx} {tg iter : Expr} {t t' : TI} (h : PI X tg iter t) (k : ∀ σ H Q, t' σ H Q → t σ H Q) : PI X tg iter t' := ⟨fun pins s σ H Q I q => h.run pins s σ H Q I (k σ H Q q)⟩
def iSeq (f : FE) : List SV → AH → R Src := fun sl h => (f sl h).bind fun s h1 => match s with
  | .d (.list ds) => .ok (.cn (ds.map fun x => .one (.d x))) h1
  | .vw (.list ds) => .ok (.cn (ds.map fun x => .one (mkv x))) h1
  | .r n => match h1[n]? with
    | some (some (.lst _)) => .ok (.ow n) h1
    | _ => .st
  | _ => .st
def iTupl (f : FE) : List SV → AH → R Src := fun sl h => (f sl h).bind fun s h1 => match s with
  | .d (.tuple ds) => .ok (.cn (ds.map fun x => .one (.d x))) h1
  | .vw (.tuple ds) => .ok (.cn (ds.map fun x => .one (mkv x))) h1
  | _ => .st
theorem itl_ok {en : En} {w0 : Wd} {a : Addr} {vs : List V} {xs : List SV} (hq : ∀ σ w H sl h, w0.le w → Sim en w σ H sl h → SqL en.K H a vs) (rl : RSL en w0 vs xs) : ItOk en w0 (Itl en.K a) (xs.map It1.one) where
  goes := fun i σ w H sl h le S hi => by
    rw [List.length_map] at hi
    have hv : i < vs.length := by rw [RSL.length rl]; exact hi
    exact ⟨vs, vs[i], hq σ w H sl h le S, by simp [hv]⟩
  stop := fun σ w H sl h le S => ⟨vs, hq σ w H sl h le S, by rw [List.length_map, RSL.length rl]; exact Nat.le_refl _⟩
  yld := fun i σ w H sl h x H' it le S e y => by
    obtain ⟨rfl, y⟩ := y
    rw [List.getElem?_map] at e
    cases k : xs[i]? with
    | none => rw [k] at e; cases e
    | some s =>
      rw [k] at e
      cases e
      obtain ⟨v, ev, rv⟩ := RSL.get rl k
      have z : v = x := Option.some.inj (ev.symm.trans (y vs (hq σ w _ sl h le S)))
      subst z
      exact ⟨w, Wd.le.refl _, S, RS.mono le rv⟩
theorem itt_ok {en : En} {w0 : Wd} {a : Addr} {vs : List V} {xs : List SV} (hq : ∀ σ w H sl h, w0.le w → Sim en w σ H sl h → SqT en.K H a vs) (rl : RSL en w0 vs xs) : ItOk en w0 (Itt en.K a) (xs.map It1.one) where
  goes := fun i σ w H sl h le S hi => by
    rw [List.length_map] at hi
    have hv : i < vs.length := by rw [RSL.length rl]; exact hi
    exact ⟨vs, vs[i], hq σ w H sl h le S, by simp [hv]⟩
  stop := fun σ w H sl h le S => ⟨vs, hq σ w H sl h le S, by rw [List.length_map, RSL.length rl]; exact Nat.le_refl _⟩
  yld := fun i σ w H sl h x H' it le S e y => by
    obtain ⟨rfl, y⟩ := y
    rw [List.getElem?_map] at e
    cases k : xs[i]? with
    | none => rw [k] at e; cases e
    | some s =>
      rw [k] at e
      cases e
      obtain ⟨v, ev, rv⟩ := RSL.get rl k
      have z : v = x := Option.some.inj (ev.symm.trans (y vs (hq σ w _ sl h le S)))
      subst z
      exact ⟨w, Wd.le.refl _, S, RS.mono le rv⟩
section
variable {X : Cx} {W : WX} {e e2 tg : Expr} {fe : FE} {fa : FA} {pos p : Pos}
theorem map_one (ds : List PyData) (k : PyData → SV) : (ds.map fun x => It1.one (k x)) = (ds.map k).map It1.one := by rw [List.map_map]; rfl
theorem si_list (he : SE X W e fe) : SI X W tg e (iSeq fe) := PI.imp (pi_list he) (by
  rintro σ H R ⟨en, w, sl, h, eK, S, P⟩
  refine ⟨en, w, sl, h, eK, S, Po.bind P fun s h1 v w1 H1 l1 S1 r1 P1 => ?_⟩
  split at P1
  · rename_i ds
    have r1 : Rp en.K w1.F v (.list ds) := r1
    unfold Rp at r1
    obtain ⟨a, vs, rfl, q, l⟩ := r1
    refine ⟨a, rfl, ⟨vs, .of (S1.fh _ _ q)⟩, P1 _ w1 H1 (Wd.le.refl _) S1 ?_⟩
    show ItOk en w1 (Itl X.K a) _
    rw [map_one, ← eK.1]
    exact itl_ok (fun σ w H sl h le S => .of (S.fh _ _ (le.2 _ _ q))) (RSL.ofRp l)
  · rename_i ds
    have r1 : Rp en.K en.G v (.list ds) := r1
    unfold Rp at r1
    obtain ⟨a, vs, rfl, q, l⟩ := r1
    refine ⟨a, rfl, ⟨vs, .of (S1.gh _ _ q)⟩, P1 _ w1 H1 (Wd.le.refl _) S1 ?_⟩
    show ItOk en w1 (Itl X.K a) _
    rw [map_one, ← eK.1]
    exact itl_ok (fun σ w H sl h le S => .of (S.gh _ _ q)) (RSL.ofVw S1.toSimH l)
  · rename_i n
    split at P1
    · rename_i xs hx
      obtain ⟨a, e1, rfl⟩ := r1
      obtain ⟨a', e2, ⟨vs, hv, rv⟩, _, _⟩ := S1.live n _ hx
      have ea : a' = a := Option.some.inj (e2.symm.trans e1)
      subst ea
      exact ⟨a', rfl, ⟨vs, .of hv⟩, P1 _ w1 H1 (Wd.le.refl _) S1 ⟨a', e1, by rw [eK.1]⟩⟩
    · exact False.elim P1
  · exact False.elim P1)
def rngI (lo : Int) (n : Nat) : List It1 := (List.range n).map fun i => .one (.d (.int (lo + (i : Nat))))
def inB (i : Int) : Bool := decide (-1000000000 ≤ i ∧ i ≤ 1000000000)
def iRng (fa : FA) : List SV → AH → R Src := fun sl h => (fa sl h).bind fun ss h1 => match ss with
  | [.d (.int j)] => if inB j then .ok (.cn (rngI 0 j.toNat)) h1 else .st
  | _ => .st
def iRng2 (fa : FA) : List SV → AH → R Src := fun sl h => (fa sl h).bind fun ss h1 => match ss with
  | [.d (.int i), .d (.int j)] => if (inB i && inB j) = true then .ok (.cn (rngI i (j - i).toNat)) h1 else .st
  | _ => .st
theorem itr_ok {en : En} {w0 : Wd} {lo : Int} {n : Nat} : ItOk en w0 (Itr lo n) (rngI lo n) where
  goes := fun i σ w H sl h le S hi => by
    unfold rngI at hi
    rw [List.length_map, List.length_range] at hi
    exact hi
  stop := fun σ w H sl h le S => by
    unfold rngI
    rw [List.length_map, List.length_range]
    exact Nat.le_refl _
  yld := fun i σ w H sl h x H' it le S e y => by
    obtain ⟨rfl, rfl⟩ := y
    unfold rngI at e
    rw [List.getElem?_map] at e
    cases k : (List.range n)[i]? with
    | none => rw [k] at e; cases e
    | some s =>
      rw [k] at e
      cases e
      have hs : s = i := by
        obtain ⟨hi, e2⟩ := List.getElem?_eq_some_iff.mp k
        rw [List.getElem_range] at e2
        exact e2.symm
      subst hs
      exact ⟨w, Wd.le.refl _, S, by show Rp en.K w.F _ _; exact Rp.int⟩
theorem inB_ok {i : Int} (h : inB i = true) : -(2 ^ 62) ≤ i ∧ i < 2 ^ 62 := by
  unfold inB at h
  have := of_decide_eq_true h
  omega
theorem si_rng (hg : Gl X "range") (hm : X.mg "range" = none) (ha : SA X W [e] fa) (hs : starEach [e] X.env = [(false, eval e X.env)] := by rfl) : SI X W tg (.Call (.Name "range" p) [e] [] pos) (iRng fa) := PI.imp (pi_range1 hg hm ha hs) (by
  rintro σ H R ⟨en, w, sl, h, eK, S, P⟩
  refine ⟨en, w, sl, h, eK, S, Po.bind P fun ss h1 vs w1 H1 l1 S1 r1 P1 => ?_⟩
  split at P1
  · rename_i j
    split at P1
    · rename_i hj
      obtain ⟨v, vr, e1, q1, e2⟩ := r1
      have q1 : Rp en.K w1.F v (.int j) := q1
      unfold Rp at q1
      subst q1
      have e2 : vr = [] := e2
      subst e2
      obtain ⟨b1, b2⟩ := inB_ok hj
      exact ⟨j, e1, b1, b2, P1 _ w1 H1 (Wd.le.refl _) S1 itr_ok⟩
    · exact False.elim P1
  · exact False.elim P1)
def stillL : SV → Option (List SV)
  | .d (.list ds) => some (ds.map SV.d)
  | .vw (.list ds) => some (ds.map mkv)
  | _ => none
def enumI : Nat → List SV → List It1
  | _, [] => []
  | k, x :: xs => .two (.d (.int (k : Nat))) x :: enumI (k + 1) xs
def iEnu (fa : FA) : List SV → AH → R Src := fun sl h => (fa sl h).bind fun ss h1 => match ss with
  | [s] => match stillL s with
    | some xs => .ok (.cn (enumI 0 xs)) h1
    | none => .st
  | _ => .st
def zipI : List SV → List SV → List It1
  | x :: xs, y :: ys => .two x y :: zipI xs ys
  | _, _ => []
def iZip (fa : FA) : List SV → AH → R Src := fun sl h => (fa sl h).bind fun ss h1 => match ss with
  | [s, t] => match stillL s, stillL t with
    | some xs, some ys => .ok (.cn (zipI xs ys)) h1
    | _, _ => .st
  | _ => .st
end
end Zx
namespace Zx
open PySem PySem.Spec L2
def aft (sl0 : List SV) (L : Nat) (o : O) (k : List SV → AH → O) : O := match o with
  | .nx sl h => k (norm sl0 L sl h).1 (norm sl0 L sl h).2
  | .ct sl h => k (norm sl0 L sl h).1 (norm sl0 L sl h).2
  | .bk sl h => .nx (norm sl0 L sl h).1 (norm sl0 L sl h).2
  | .rt s h => .rt s h
  | .rz c sl h => .rz c sl h
  | .st => .st
def forC (sl0 : List SV) (L : Nat) (bd : Bd) (body : FS) : List It1 → List SV → AH → O
  | [], sl, h => .nx sl h
  | x :: xs, sl, h => match bd.go x sl with
    | none => .st
    | some sl1 => aft sl0 L (body sl1 h) (forC sl0 L bd body xs)
def forR (sl0 : List SV) (L : Nat) (bd : Bd) (body : FS) (n : Nat) : Nat → Nat → List SV → AH → O
  | 0, i, sl, h => match h[n]? with
    | some (some (.lst xs)) => if xs.length ≤ i then .nx sl h else .st
    | _ => .st
  | k + 1, i, sl, h => match h[n]? with
    | some (some (.lst xs)) => match xs[i]? with
      | none => .nx sl h
      | some s => match bd.go (.one s) sl with
        | none => .st
        | some sl1 => aft sl0 L (body sl1 h) (forR sl0 L bd body n k (i + 1))
    | _ => .st
def sFor (fi : List SV → AH → R Src) (bd : Bd) (body : FS) : FS := fun sl h => (fi sl h).thn sl fun s h1 => match s with
  | .cn l => forC sl h1.length bd body l sl h1
  | .ow n => match h1[n]? with
    | some (some (.lst xs)) => forR sl h1.length bd body n xs.length 0 sl h1
    | _ => .st
section
variable {X : Cx} {W : WX} {en : En} {w w0 : Wd} {D : Ends} {σ : St} {H : Hp} {sl sl0 : List SV} {h : AH}
def Nt (X : Cx) (W : WX) (en : En) (w0 : Wd) (D : Ends) (k : List SV → AH → O) : St → Hp → Prop := fun σ H => ∃ w2 sl h, w0.le w2 ∧ Sim en w2 σ H sl h ∧ PoS X W en w0 (k sl h) D
theorem aft_ok {o : O} {k : List SV → AH → O} {N : St → Hp → Prop} (le : w0.le w) (P : PoS X W en w0 (aft sl0 w0.rho.length o k) D) (hN : ∀ σ H, Nt X W en w0 D k σ H → N σ H) : PoS X W en w o { D with nx := N, ct := N, bk := D.nx } := by
  have step : ∀ sl h, PoS X W en w0 (k (norm sl0 w0.rho.length sl h).1 (norm sl0 w0.rho.length sl h).2) D → ∀ w' σ' H', w.le w' → Sim en w' σ' H' sl h → N σ' H' := fun sl h P w' σ' H' l S => by
    obtain ⟨w2, l2, S2⟩ := S.norm (sl0 := sl0) (le.trans l)
    exact hN _ _ ⟨w2, _, _, l2, S2, P⟩
  cases o with
  | nx sl h => exact step sl h P
  | ct sl h => exact step sl h P
  | bk sl h =>
    intro w' σ' H' l S
    obtain ⟨w2, l2, S2⟩ := S.norm (sl0 := sl0) (le.trans l)
    exact P w2 σ' H' l2 S2
  | rt s h => exact fun w' H' v l S r => P w' H' v (le.trans l) S r
  | rz c sl h => exact fun w' σ' H' l S => P w' σ' H' (le.trans l) S
  | st => exact P
theorem forC_ok {J : It} {g : TG} {tb : TS} {bd : Bd} {body : FS} {l : List It1} (eK : en.ok X) (ok : ItOk en w0 J l) (hg : GS X bd g) (hb : ∀ D σ H, tS X W body D σ H → tb D σ H) (S : Sim en w0 σ H sl0 h) (P : PoS X W en w0 (forC sl0 w0.rho.length bd body l sl0 h) D) :
    ∃ W : Nat → Nat → St → Hp → Prop, (∃ m, W 0 m σ H) ∧ ∀ i m σ H, W i m σ H →
      (J.stop i H ∧ D.nx σ H) ∨ (J.go i H ∧ ∃ N : St → Hp → Prop, (∀ σ' H', N σ' H' → ∃ m', m' < m ∧ W (i + 1) m' σ' H') ∧ ∀ x H', J.yld i H x H' → g x σ H' fun σ2 H2 => tb { D with nx := N, ct := N, bk := D.nx } σ2 H2) := by
  refine ⟨fun i m σ H => m = l.length - i ∧ i ≤ l.length ∧ Nt X W en w0 D (forC sl0 w0.rho.length bd body (l.drop i)) σ H, ⟨l.length, by simp, Nat.zero_le _, w0, sl0, h, Wd.le.refl _, S, by simpa using P⟩, ?_⟩
  rintro i m σ H ⟨rfl, hi, w, sl, h, le, S, P⟩
  by_cases hlt : i < l.length
  · right
    have ed : l.drop i = l[i] :: l.drop (i + 1) := List.drop_eq_getElem_cons hlt
    rw [ed] at P
    refine ⟨ok.goes i σ w H sl h le S hlt, Nt X W en w0 D (forC sl0 w0.rho.length bd body (l.drop (i + 1))), fun σ' H' p' => ⟨l.length - (i + 1), by omega, rfl, hlt, p'⟩, fun x H' y => ?_⟩
    obtain ⟨w1, l1, S1, r1⟩ := ok.yld i σ w H sl h x H' l[i] le S (List.getElem?_eq_getElem hlt) y
    unfold forC at P
    cases e : bd.go l[i] sl with
    | none => rw [e] at P; exact False.elim P
    | some sl1 =>
      rw [e] at P
      refine hg en w1 σ H' sl sl1 h x l[i] _ eK S1 r1 e fun σ2 S2 _ => hb _ _ _ ⟨en, w1, sl1, h, eK, S2, ?_⟩
      exact aft_ok (le.trans l1) P fun _ _ z => z
  · have e : i = l.length := by omega
    subst e
    rw [List.drop_length] at P
    unfold forC at P
    exact .inl ⟨ok.stop σ w H sl h le S, P w σ H le S⟩
theorem forR_ok {a : Addr} {g : TG} {tb : TS} {bd : Bd} {body : FS} {n k0 : Nat} (eK : en.ok X) (ha : w0.rho[n]? = some a) (hg : GS X bd g) (hb : ∀ D σ H, tS X W body D σ H → tb D σ H) (S : Sim en w0 σ H sl0 h) (P : PoS X W en w0 (forR sl0 w0.rho.length bd body n k0 0 sl0 h) D) :
    ∃ W : Nat → Nat → St → Hp → Prop, (∃ m, W 0 m σ H) ∧ ∀ i m σ H, W i m σ H →
      ((Itl X.K a).stop i H ∧ D.nx σ H) ∨ ((Itl X.K a).go i H ∧ ∃ N : St → Hp → Prop, (∀ σ' H', N σ' H' → ∃ m', m' < m ∧ W (i + 1) m' σ' H') ∧ ∀ x H', (Itl X.K a).yld i H x H' → g x σ H' fun σ2 H2 => tb { D with nx := N, ct := N, bk := D.nx } σ2 H2) := by
  refine ⟨fun i m σ H => Nt X W en w0 D (forR sl0 w0.rho.length bd body n m i) σ H, ⟨k0, w0, sl0, h, Wd.le.refl _, S, P⟩, ?_⟩
  rintro i m σ H ⟨w, sl, h, le, S, P⟩
  have live : ∀ xs, h[n]? = some (some (.lst xs)) → ∃ vs, H a = some (.lst vs) ∧ RSL en w vs xs := fun xs hx => by
    obtain ⟨a', e2, ⟨vs, hv, rv⟩, _, _⟩ := S.live n _ hx
    have ea : a' = a := Option.some.inj (e2.symm.trans (prefix_get le.1 ha))
    subst ea
    exact ⟨vs, hv, rv⟩
  cases m with
  | zero =>
    unfold forR at P
    split at P
    · rename_i xs hx
      obtain ⟨vs, hv, rv⟩ := live xs hx
      split at P
      · rename_i hl
        exact .inl ⟨⟨vs, .of hv, by rw [RSL.length rv]; exact hl⟩, P w σ H le S⟩
      · exact False.elim P
    · exact False.elim P
  | succ k =>
    unfold forR at P
    split at P
    · rename_i xs hx
      obtain ⟨vs, hv, rv⟩ := live xs hx
      split at P
      · rename_i hxi
        exact .inl ⟨⟨vs, .of hv, by rw [RSL.length rv]; exact List.getElem?_eq_none_iff.mp hxi⟩, P w σ H le S⟩
      · rename_i s hs
        obtain ⟨v, ev, rs⟩ := RSL.get rv hs
        refine .inr ⟨⟨vs, v, .of hv, ev⟩, Nt X W en w0 D (forR sl0 w0.rho.length bd body n k (i + 1)), fun σ' H' p' => ⟨k, Nat.lt_succ_self k, p'⟩, fun x H' y => ?_⟩
        obtain ⟨rfl, y⟩ := y
        have z : v = x := Option.some.inj (ev.symm.trans (y vs (.of hv)))
        subst z
        cases e : bd.go (.one s) sl with
        | none => rw [e] at P; exact False.elim P
        | some sl1 =>
          rw [e] at P
          refine hg en w σ _ sl sl1 h v (.one s) _ eK S rs e fun σ2 S2 _ => hb _ _ _ ⟨en, w, sl1, h, eK, S2, ?_⟩
          exact aft_ok le P fun _ _ z => z
    · exact False.elim P
end
section
variable {X : Cx} {W : WX} {iter tg : Expr} {body : List Stmt} {fi : List SV → AH → R Src} {bd : Bd} {g : TG} {fb : FS} {pos : Pos}
theorem ss_for (hp : PassesOwn (model X.prog X.w) X.A X.env X.xe) (hc : X.calm = true) (hi : SI X W tg iter fi) (hg : PG X tg g) (gs : GS X bd g) (hb : SSs X W body fb)
    (hs : ∀ x, foldedSetIterable iter X.env x = pure x := by intro _; rfl) : SS X W (.For tg iter body [] pos) (sFor fi bd fb) := PS.imp (ps_for hp hc hi hg hb hs) (by
  rintro D σ H ⟨en, w, sl, h, eK, S, P⟩
  refine ⟨en, w, sl, h, eK, S, Po.thn P fun s h1 J w1 H1 l1 S1 r1 P1 => ?_⟩
  have hl : h1.length = w1.rho.length := S1.len.symm
  rw [hl] at P1
  cases s with
  | cn l => exact forC_ok eK r1 gs (fun _ _ _ q => q) S1 P1
  | ow n =>
    obtain ⟨a, ha, rfl⟩ := r1
    have P1 : PoS X W en w1 (match h1[n]? with | some (some (.lst xs)) => forR sl w1.rho.length bd fb n xs.length 0 sl h1 | _ => .st) D := P1
    split at P1
    · rw [eK.1]; exact forR_ok eK ha gs (fun _ _ _ q => q) S1 P1
    · exact False.elim P1)
def whL (sl0 : List SV) (L : Nat) (t : FT) (body : FS) : Nat → List SV → AH → O
  | 0, _, _ => .st
  | k + 1, sl, h => (t sl h).thn sl fun b h1 => if b = true then aft sl0 L (body sl h1) (whL sl0 L t body k) else .nx sl h1
def sWhile (fuel : Nat) (t : FT) (body : FS) : FS := fun sl h => whL sl h.length t body fuel sl h
end
end Zx
namespace Zx
open PySem PySem.Spec L2
def wipeS (sl : List SV) : List Nat → List SV
  | [] => sl
  | v :: vs => (wipeS sl vs).set v .un
def nrz {α : Type} : R α → R α
  | .rz _ _ => .st
  | .ok a h => .ok a h
  | .st => .st
def lcPut (L : Nat) (slw : List SV) (s : SV) (h : AH) (k : AH → R Unit) : R Unit := match h[L]? with
  | some (some (.lst acc)) => if acc.length < 1000000 then k (norm [] (L + 1) slw (h.set L (some (.lst (acc ++ [s]))))).2 else .st
  | _ => .st
def lcOne (L : Nat) (bd : Bd) (tt : FT) (fe : FE) (slw : List SV) (it : It1) (h : AH) (k : AH → R Unit) : R Unit := match bd.go it slw with
  | none => .st
  | some sl1 => (nrz (tt sl1 h)).bind fun b h1 => if b = true then (nrz (fe sl1 h1)).bind fun s h2 => lcPut L slw s h2 k else k (norm [] (L + 1) slw h1).2
def lcC (L : Nat) (bd : Bd) (tt : FT) (fe : FE) (slw : List SV) : List It1 → AH → R Unit
  | [], h => .ok () h
  | it :: its, h => lcOne L bd tt fe slw it h (lcC L bd tt fe slw its)
def lcR (L : Nat) (bd : Bd) (tt : FT) (fe : FE) (slw : List SV) (n : Nat) : Nat → Nat → AH → R Unit
  | 0, i, h => match h[n]? with
    | some (some (.lst xs)) => if xs.length ≤ i then .ok () h else .st
    | _ => .st
  | k + 1, i, h => match h[n]? with
    | some (some (.lst xs)) => match xs[i]? with
      | none => .ok () h
      | some s => lcOne L bd tt fe slw (.one s) h (lcR L bd tt fe slw n k (i + 1))
    | _ => .st
def fLc (fi : List SV → AH → R Src) (bd : Bd) (tt : FT) (fe : FE) (vs : List Nat) : FE := fun sl h => (fi sl h).bind fun s h1 => match s with
  | .cn l => (lcC h1.length bd tt fe (wipeS sl vs) l (h1 ++ [some (.lst [])])).bind fun _ h2 => .ok (.r h1.length) h2
  | .ow n => match h1[n]? with
    | some (some (.lst xs)) => (lcR h1.length bd tt fe (wipeS sl vs) n xs.length 0 (h1 ++ [some (.lst [])])).bind fun _ h2 => .ok (.r h1.length) h2
    | _ => .st
theorem wipe_get (σ : St) : ∀ (vs : List Nat) (j : Nat), (wipe σ vs)[j]? = if j ∈ vs then (if j < σ.length then some none else none) else σ[j]?
  | [], j => by unfold wipe; rw [if_neg (by simp)]
  | v :: vs, j => by
    unfold wipe
    by_cases h : v = j
    · subst h
      rw [if_pos List.mem_cons_self]
      by_cases hl : v < σ.length
      · rw [if_pos hl, List.getElem?_set_self (by rw [wipe_length]; exact hl)]
      · rw [if_neg hl, List.getElem?_eq_none (by rw [List.length_set, wipe_length]; omega)]
    · rw [List.getElem?_set_ne h, wipe_get σ vs j]
      have : (j ∈ v :: vs) ↔ j ∈ vs := ⟨fun z => (List.mem_cons.mp z).elim (fun e => absurd e.symm h) id, List.mem_cons_of_mem _⟩
      by_cases hm : j ∈ vs
      · rw [if_pos hm, if_pos (this.mpr hm)]
      · rw [if_neg hm, if_neg (fun z => hm (this.mp z))]
theorem wipe_chg {vs is : List Nat} {σ σ' : St} (hs : ∀ i ∈ is, i ∈ vs) (c : Chg is (wipe σ vs) σ') : wipe σ' vs = wipe σ vs := by
  apply List.ext_getElem?
  intro j
  have hl : σ'.length = σ.length := c.1.trans (wipe_length σ vs)
  rw [wipe_get, wipe_get, hl]
  by_cases hj : j ∈ vs
  · rw [if_pos hj, if_pos hj]
  · rw [if_neg hj, if_neg hj, c.2 j (fun z => hj (hs j z)), wipe_get, if_neg hj]
theorem Slt.wipe {en : En} {w : Wd} {σ : St} : ∀ {sl : List SV} (vs : List Nat), Slt en w σ sl → Slt en w (L2.wipe σ vs) (wipeS sl vs)
  | sl, [], q => q
  | sl, v :: vs, q => by
    have ih := Slt.wipe vs q
    unfold L2.wipe wipeS
    refine ⟨by rw [List.length_set, List.length_set]; exact ih.1, fun j s e => ?_⟩
    by_cases h : v = j
    · subst h
      by_cases hv : v < (wipeS sl vs).length
      · rw [List.getElem?_set_self hv] at e
        cases e; exact .inl rfl
      · rw [List.getElem?_eq_none (by rw [List.length_set]; omega)] at e; cases e
    · rw [List.getElem?_set_ne h] at e
      rw [List.getElem?_set_ne h]
      exact ih.2 j s e
abbrev W0 : WX := fun _ _ _ _ => False
abbrev STs (X : Cx) (W : WX) (es : List Expr) (f : FT) : Prop := PTs X es (tT X W f)
def fYes : FT := fun _ h => .ok true h
theorem PTs.imp {X : Cx} {e : List Expr} {t t' : TT} (h : PTs X e t) (k : ∀ σ H Q, t' σ H Q → t σ H Q) : PTs X e t' := ⟨fun pins s σ H Q I q => h.run pins s σ H Q I (k σ H Q q)⟩
theorem sts_nil {X : Cx} {W : WX} : STs X W [] fYes := PTs.imp pts_nil (by
  rintro σ H Q ⟨en, w, sl, h, eK, S, P⟩
  exact P true w H (Wd.le.refl _) S rfl)
theorem sts_one {X : Cx} {W : WX} {c : Expr} {t : FT} (h : STt X W c t) : STs X W [c] t := pts_one h
section
variable {X : Cx} {W : WX} {en : En} {w1 w : Wd} {σ : St} {H : Hp} {sl : List SV} {h : AH} {D : Addr} {Q : VK}
def Lt (X : Cx) (W : WX) (en : En) (w1 : Wd) (D : Addr) (σ : St) (sl : List SV) (vs : List Nat) (L : Nat) (Q : VK) (k : AH → R Unit) (H : Hp) : Prop :=
  ∃ w h, (w1.ow D).le w ∧ Sim en w (wipe σ vs) H (wipeS sl vs) h ∧ Po RS X W en w1 σ sl ((k h).bind fun _ h2 => .ok (.r L) h2) Q
theorem norm_nil {L : Nat} {slw : List SV} {h : AH} : (norm [] L slw h).1 = slw := by
  unfold norm
  split <;> (show reset [] slw = slw; unfold reset; rfl)
theorem lcOne_ok {J : It} {bd : Bd} {g : TG} {tt : FT} {fe : FE} {vs : List Nat} {L : Nat} {it : It1} {k : AH → R Unit} {x : V} (eK : en.ok X) (hL : L = w1.rho.length) (gs : GS X bd g) (hv : ∀ i ∈ bd.is, i ∈ vs) (sl0 : Slt en w1 σ sl)
    (le : (w1.ow D).le w) (S : Sim en w (wipe σ vs) H (wipeS sl vs) h) (r : RepI en w H x it) (P : Po RS X W en w1 σ sl ((lcOne L bd tt fe (wipeS sl vs) it h k).bind fun _ h2 => .ok (.r L) h2) Q) :
    g x (wipe σ vs) H fun σ2 H2 => wipe σ2 vs = wipe σ vs ∧ tT X W0 tt σ2 H2 fun b H3 =>
      if b = true then tE X W0 fe σ2 H3 fun y H4 => ∃ acc, H4 D = some (.lst acc) ∧ acc.length < sizeLine ∧ Lt X W en w1 D σ sl vs L Q k (upd H4 D (.lst (acc ++ [y]))) else Lt X W en w1 D σ sl vs L Q k H3 := by
  have lw : w1.le w := le_ow.trans le
  have again : ∀ w3 H3 σ3 sl3 h3, (w1.ow D).le w3 → Sim en w3 σ3 H3 sl3 h3 → Po RS X W en w1 σ sl ((k (norm [] (L + 1) (wipeS sl vs) h3).2).bind fun _ h2 => .ok (.r L) h2) Q → Lt X W en w1 D σ sl vs L Q k H3 := fun w3 H3 σ3 sl3 h3 l3 S3 P3 => by
    have S4 : Sim en w3 (wipe σ vs) H3 (wipeS sl vs) h3 := ⟨S3.toSimH, Slt.wipe vs (sl0.mono (le_ow.trans l3))⟩
    obtain ⟨w2, l2, S2⟩ := S4.norm (sl0 := []) l3
    have e1 : (w1.ow D).rho.length = L + 1 := by
      show (w1.rho ++ [D]).length = L + 1
      rw [List.length_append, hL]; rfl
    rw [e1] at S2
    rw [norm_nil] at S2
    exact ⟨w2, _, l2, S2, P3⟩
  unfold lcOne at P
  cases e : bd.go it (wipeS sl vs) with
  | none => rw [e] at P; exact False.elim P
  | some sl1 =>
    rw [e] at P
    refine gs en w (wipe σ vs) H _ sl1 h x it _ eK S r e fun σ2 S2 c => ⟨wipe_chg hv c, en, w, sl1, h, eK, S2, ?_⟩
    have P : Po RS X W en w1 σ sl (((nrz (tt sl1 h)).bind fun b h1 => if b = true then (nrz (fe sl1 h1)).bind fun s h2 => lcPut L (wipeS sl vs) s h2 k else k (norm [] (L + 1) (wipeS sl vs) h1).2).bind fun _ h2 => .ok (.r L) h2) Q := P
    generalize et : tt sl1 h = rt at P ⊢
    cases rt with
    | st => exact False.elim P
    | rz cc hh => exact False.elim P
    | ok b h1 =>
      intro b' w2 H2 l2 S3 r2
      have r2 : b' = b := r2
      subst r2
      have P : Po RS X W en w1 σ sl ((if b' = true then (nrz (fe sl1 h1)).bind fun s h2 => lcPut L (wipeS sl vs) s h2 k else k (norm [] (L + 1) (wipeS sl vs) h1).2).bind fun _ h2 => .ok (.r L) h2) Q := P
      cases b' with
      | false =>
        rw [if_neg (by decide)] at P ⊢
        exact again w2 H2 σ2 sl1 h1 (le.trans l2) S3 P
      | true =>
        rw [if_pos rfl] at P ⊢
        refine ⟨en, w2, sl1, h1, eK, S3, ?_⟩
        generalize ee : fe sl1 h1 = re at P ⊢
        cases re with
        | st => exact False.elim P
        | rz cc hh => exact False.elim P
        | ok s h2 =>
          intro y w4 H4 l4 S5 r5
          have P : Po RS X W en w1 σ sl ((lcPut L (wipeS sl vs) s h2 k).bind fun _ h2 => .ok (.r L) h2) Q := P
          unfold lcPut at P
          split at P
          · rename_i acc hacc
            split at P
            · rename_i hlt
              obtain ⟨a, ea, ⟨us, hu, rl⟩, _, _⟩ := S5.live L _ hacc
              have l5 := (le.trans l2).trans l4
              have eD : w4.rho[L]? = some D := by
                refine prefix_get l5.1 ?_
                show (w1.rho ++ [D])[L]? = some D
                rw [hL, List.getElem?_append_right (Nat.le_refl _), Nat.sub_self]
                rfl
              have : a = D := Option.some.inj (ea.symm.trans eD)
              subst this
              refine ⟨us, hu, ?_, ?_⟩
              · rw [RSL.length rl, sizeLine_eq]; omega
              · exact again w4 _ σ2 sl1 _ l5 (S5.write hacc ea (RSL.app (ts := [s]) rl ⟨y, [], rfl, r5, rfl⟩)) P
            · exact False.elim P
          · exact False.elim P
theorem lc_t {fi : List SV → AH → R Src} {bd : Bd} {g : TG} {tt : FT} {fe : FE} {vs : List Nat} (gs : GS X bd g) (hv : ∀ i ∈ bd.is, i ∈ vs) {σ : St} {H : Hp} {Q : VK} (q : tE X W (fLc fi bd tt fe vs) σ H Q) :
    tLc (tI X W fi) g (tT X W0 tt) (tE X W0 fe) vs σ H Q := by
  obtain ⟨en, w, sl, h, eK, S, P⟩ := q
  refine ⟨en, w, sl, h, eK, S, Po.bind P fun s h1 J w1 H1 l1 S1 r1 P1 => ?_⟩
  intro D nD
  have S2 : Sim en (w1.ow D) (wipe σ vs) (upd H1 D (.lst [])) (wipeS sl vs) (h1 ++ [some (.lst [])]) := by
    have z := S1.newO (vs := []) (xs := []) nD rfl
    exact ⟨z.toSimH, Slt.wipe vs z.slots⟩
  have hL : h1.length = w1.rho.length := S1.len.symm
  have fin : ∀ (k : AH → R Unit) w2 h2 H2, (w1.ow D).le w2 → Sim en w2 (wipe σ vs) H2 (wipeS sl vs) h2 → k h2 = .ok () h2 → Po RS X W en w1 σ sl ((k h2).bind fun _ h2 => .ok (.r h1.length) h2) Q → Q (.ref D) H2 := fun k w2 h2 H2 l2 S3 e P3 => by
    rw [e] at P3
    refine P3 (.ref D) w2 H2 (le_ow.trans l2) ⟨S3.toSimH, S1.slots.mono (le_ow.trans l2)⟩ ⟨D, prefix_get l2.1 ?_, rfl⟩
    show (w1.rho ++ [D])[h1.length]? = some D
    rw [hL, List.getElem?_append_right (Nat.le_refl _), Nat.sub_self]
    rfl
  cases s with
  | cn l =>
    have ok : ItOk en w1 J l := r1
    refine ⟨fun i m H => m = l.length - i ∧ i ≤ l.length ∧ Lt X W en w1 D σ sl vs h1.length Q (lcC h1.length bd tt fe (wipeS sl vs) (l.drop i)) H, ⟨l.length, by simp, Nat.zero_le _, _, _, Wd.le.refl _, S2, by simpa using P1⟩, ?_⟩
    rintro i m H ⟨rfl, hi, w2, h2, le, S3, P2⟩
    by_cases hlt : i < l.length
    · right
      have ed : l.drop i = l[i] :: l.drop (i + 1) := List.drop_eq_getElem_cons hlt
      rw [ed] at P2
      refine ⟨ok.goes i _ w2 H _ h2 (le_ow.trans le) S3 hlt, Lt X W en w1 D σ sl vs h1.length Q (lcC h1.length bd tt fe (wipeS sl vs) (l.drop (i + 1))), fun H' p' => ⟨l.length - (i + 1), by omega, rfl, hlt, p'⟩, fun x H' y => ?_⟩
      obtain ⟨w3, l3, S4, r4⟩ := ok.yld i _ w2 H _ h2 x H' l[i] (le_ow.trans le) S3 (List.getElem?_eq_getElem hlt) y
      unfold lcC at P2
      exact lcOne_ok (J := J) eK hL gs hv S1.slots (le.trans l3) S4 r4 P2
    · have e : i = l.length := by omega
      subst e
      rw [List.drop_length] at P2
      exact .inl ⟨ok.stop _ w2 H _ h2 (le_ow.trans le) S3, fin _ w2 h2 H le S3 (by unfold lcC; rfl) P2⟩
  | ow n =>
    obtain ⟨a, ha, rfl⟩ := r1
    have P1 : Po RS X W en w1 σ sl (match h1[n]? with | some (some (.lst xs)) => (lcR h1.length bd tt fe (wipeS sl vs) n xs.length 0 (h1 ++ [some (.lst [])])).bind fun _ h2 => .ok (.r h1.length) h2 | _ => .st) Q := P1
    split at P1
    · rename_i xs0 hx0
      refine ⟨fun i m H => Lt X W en w1 D σ sl vs h1.length Q (lcR h1.length bd tt fe (wipeS sl vs) n m i) H, ⟨xs0.length, _, _, Wd.le.refl _, S2, P1⟩, ?_⟩
      rintro i m H ⟨w2, h2, le, S3, P2⟩
      have live : ∀ xs, h2[n]? = some (some (.lst xs)) → ∃ vs, H a = some (.lst vs) ∧ RSL en w2 vs xs := fun xs hx => by
        obtain ⟨a', e2, ⟨us, hv, rv⟩, _, _⟩ := S3.live n _ hx
        have ea : a' = a := Option.some.inj (e2.symm.trans (prefix_get (le_ow.trans le).1 ha))
        subst ea
        exact ⟨us, hv, rv⟩
      cases m with
      | zero =>
        generalize ek : lcR h1.length bd tt fe (wipeS sl vs) n 0 i = k at P2
        have ek2 := congrFun ek h2
        unfold lcR at ek2
        split at ek2
        · rename_i xs hx
          obtain ⟨us, hu, rv⟩ := live xs hx
          split at ek2
          · rename_i hl
            exact .inl ⟨⟨us, .of hu, by rw [RSL.length rv]; exact hl⟩, fin k w2 h2 H le S3 ek2.symm P2⟩
          · rw [← ek2] at P2; exact False.elim P2
        · rw [← ek2] at P2; exact False.elim P2
      | succ m =>
        generalize ek : lcR h1.length bd tt fe (wipeS sl vs) n (m + 1) i = k at P2
        have ek2 := congrFun ek h2
        unfold lcR at ek2
        split at ek2
        · rename_i xs hx
          obtain ⟨us, hu, rv⟩ := live xs hx
          split at ek2
          · rename_i hxi
            exact .inl ⟨⟨us, .of hu, by rw [RSL.length rv]; exact List.getElem?_eq_none_iff.mp hxi⟩, fin k w2 h2 H le S3 ek2.symm P2⟩
          · rename_i s hs
            obtain ⟨v, ev, rs⟩ := RSL.get rv hs
            rw [← ek2] at P2
            refine .inr ⟨⟨us, v, .of hu, ev⟩, Lt X W en w1 D σ sl vs h1.length Q (lcR h1.length bd tt fe (wipeS sl vs) n m (i + 1)), fun H' p' => ⟨m, Nat.lt_succ_self m, p'⟩, fun x H' y => ?_⟩
            obtain ⟨rfl, y⟩ := y
            have z : v = x := Option.some.inj (ev.symm.trans (y us (by exact .of hu)))
            subst z
            exact lcOne_ok (J := Itl en.K a) eK hL gs hv S1.slots le S3 (it := .one s) rs P2
        · rw [← ek2] at P2; exact False.elim P2
    · exact False.elim P1
end
end Zx
namespace Zx
open PySem PySem.Spec L2
section
variable {X : Cx} {W : WX}
theorem se_lc {elt tg iter : Expr} {ifs : List Expr} {scope : Scope} {own : List (Str × Nat)} {pos : Pos} {fi : List SV → AH → R Src} {bd : Bd} {g : TG} {tt : FT} {fe : FE} (hc : X.calm = true) (hN : X.N.Nodup) (hi : SI X W tg iter fi) (ok : BlkOk X.N X.env.scope scope own)
    (hg : ∀ (s : Shared) (H : Hp) (C : Addr) (cl : List (Str × Addr)) (fp : List Addr), PG (X.blk s H scope (compEnvC scope cl C X.env) fp) tg g) (ht : ∀ (s : Shared) (H : Hp) (C : Addr) (cl : List (Str × Addr)) (fp : List Addr), STs (X.blk s H scope (compEnvC scope cl C X.env) fp) W0 ifs tt)
    (he : ∀ (s : Shared) (H : Hp) (C : Addr) (cl : List (Str × Addr)) (fp : List Addr), SE (X.blk s H scope (compEnvC scope cl C X.env) fp) W0 elt fe) (gs : GS X bd g) (hv : ∀ i ∈ bd.is, i ∈ own.map (·.2)) (hs : ∀ x, foldedSetIterable iter X.env x = pure x := by intro _; rfl) :
    SE X W (.ListComp elt [⟨tg, iter, ifs, 0⟩] scope pos) (fLc fi bd tt fe (own.map (·.2))) :=
  PE.imp (pe_lc hc hN hi ok hg ht he hs) fun _ _ _ q => lc_t gs hv q
theorem ss_setLc {i : Nat} {y : Str} {py : Pos} {elt tg iter : Expr} {ifs : List Expr} {scope : Scope} {own : List (Str × Nat)} {pos spos : Pos} {fi : List SV → AH → R Src} {bd : Bd} {g : TG} {tt : FT} {fe f : FE} (k : ∀ σ H Q, tE X W f σ H Q → tE X W (fLc fi bd tt fe (own.map (·.2))) σ H Q) (hc : X.calm = true) (hN : X.N.Nodup) (hy : X.N[i]? = some y) (hyl : X.env.scope.names.lookup y = some .local)
    (hsw : swapsWith (.ListComp elt [⟨tg, iter, ifs, 0⟩] scope pos) (some (.Name y py)) spos.line X.env = pure true) (hi : SI X W tg iter fi) (ok : BlkOk X.N X.env.scope scope own)
    (hg : ∀ (s : Shared) (H : Hp) (C : Addr) (cl : List (Str × Addr)) (fp : List Addr), PG (X.blk s H scope (compEnvC scope cl C X.env) fp) tg g) (ht : ∀ (s : Shared) (H : Hp) (C : Addr) (cl : List (Str × Addr)) (fp : List Addr), STs (X.blk s H scope (compEnvC scope cl C X.env) fp) W0 ifs tt)
    (he : ∀ (s : Shared) (H : Hp) (C : Addr) (cl : List (Str × Addr)) (fp : List Addr), SE (X.blk s H scope (compEnvC scope cl C X.env) fp) W0 elt fe) (gs : GS X bd g) (hv : ∀ i ∈ bd.is, i ∈ own.map (·.2)) (hs : ∀ x, foldedSetIterable iter X.env x = pure x := by intro _; rfl) :
    SS X W (.Assign [.Name y py] (.ListComp elt [⟨tg, iter, ifs, 0⟩] scope pos) spos) (sSet i f) :=
  PS.imp (ps_setLc hc hN hy hyl hsw hi ok hg ht he hs) (by
    rintro D σ H ⟨en, w, sl, h, eK, S, P⟩
    exact lc_t gs hv (k σ H _ ⟨en, w, sl, h, eK, S, Po.thn P fun s h1 v w1 H1 l1 S1 r1 P1 => P1 w1 _ H1 (Wd.le.refl _) (S1.set r1 i)⟩))
theorem RSL.one {en : En} {w : Wd} {vs : List V} {s : SV} (r : RSL en w vs [s]) : ∃ v, vs = [v] ∧ RS en w v s := by
  obtain ⟨v, vr, e, a, b⟩ := r
  have b : vr = [] := b
  subst b
  exact ⟨v, e, a⟩
theorem RSL.two {en : En} {w : Wd} {vs : List V} {s t : SV} (r : RSL en w vs [s, t]) : ∃ v u, vs = [v, u] ∧ RS en w v s ∧ RS en w u t := by
  obtain ⟨v, vr, e, a, b⟩ := r
  obtain ⟨u, rfl, c⟩ := RSL.one b
  exact ⟨v, u, e, a, c⟩
theorem RS.int {en : En} {w : Wd} {v : V} {i : Int} (r : RS en w v (.d (.int i))) : v = .int i := by
  have r : Rp en.K w.F v (.int i) := r
  unfold Rp at r; exact r
theorem RS.bool {en : En} {w : Wd} {v : V} {i : Bool} (r : RS en w v (.d (.bool i))) : v = .bl i := by
  have r : Rp en.K w.F v (.bool i) := r
  unfold Rp at r; exact r
theorem RS.str {en : En} {w : Wd} {v : V} {i : Str} (r : RS en w v (.d (.str i))) : v = .str i := by
  have r : Rp en.K w.F v (.str i) := r
  unfold Rp at r; exact r
theorem RS.non {en : En} {w : Wd} {v : V} (r : RS en w v (.d .none)) : v = .non := by
  have r : Rp en.K w.F v .none := r
  unfold Rp at r; exact r
def gLen : List SV → AH → R SV := fun ss h => match ss with
  | [s] => match s with
    | .d (.str z) => if z.length ≤ sizeLine then .ok (.d (.int z.length)) h else .st
    | s => match itemsOf h s with
      | some xs => .ok (.d (.int xs.length)) h
      | none => .st
  | _ => .st
abbrev rLen (X : Cx) : List V → Hp → VK → Prop := fun xs H Q => ∃ x n, xs = [x] ∧ LenV X.K x H n ∧ Q (.int n) H
theorem cs_len : CallS X (rLen X) gLen := by
  intro W en w σ H sl h xs ss Q eK S r P
  unfold gLen at P
  split at P
  · obtain ⟨v, rfl, rv⟩ := r.one
    split at P
    · split at P
      · rename_i z hz
        cases RS.str rv
        exact ⟨_, _, rfl, ⟨hz, rfl⟩, P.int S⟩
      · exact False.elim P
    · split at P
      · rename_i xs hx
        obtain ⟨a, vs, rfl, q, rl⟩ := items_ok S.toSimH rv hx
        refine ⟨.ref a, xs.length, rfl, ?_, P.int S⟩
        rw [eK.1] at q
        rcases q with q | q
        · exact .inl ⟨vs, q, (RSL.length rl).symm⟩
        · exact .inr ⟨vs, q, (RSL.length rl).symm⟩
      · exact False.elim P
  · exact False.elim P
def gI2 (k : Int → Int → Int) : List SV → AH → R SV := fun ss h => match ss with
  | [.d (.int i), .d (.int j)] => .ok (.d (.int (k i j))) h
  | _ => .st
def gI1 (k : Int → Int) : List SV → AH → R SV := fun ss h => match ss with
  | [.d (.int i)] => .ok (.d (.int (k i))) h
  | _ => .st
def gInt : List SV → AH → R SV := fun ss h => match ss with
  | [.d (.int i)] => .ok (.d (.int i)) h
  | [.d (.bool k)] => .ok (.d (.int (if k = true then 1 else 0))) h
  | _ => .st
def intsOf : List SV → Option (List Int)
  | [] => some []
  | .d (.int i) :: r => (intsOf r).map (i :: ·)
  | _ => none
def bolsOf : List SV → Option (List Bool)
  | [] => some []
  | .d (.bool i) :: r => (bolsOf r).map (i :: ·)
  | _ => none
theorem bols_ok {en : En} {w : Wd} : ∀ {ss : List SV} {vs : List V} {ns : List Bool}, RSL en w vs ss → bolsOf ss = some ns → vs = ns.map V.bl
  | [], vs, ns, r, e => by unfold bolsOf at e; cases e; exact r
  | s :: ss, vs, ns, ⟨x, q, e1, a, b⟩, e => by
    unfold bolsOf at e
    split at e
    · rename_i heq; cases heq
    · rename_i i r heq
      cases heq
      cases k : bolsOf ss with
      | none => rw [k] at e; cases e
      | some n2 =>
        rw [k] at e
        cases e
        cases RS.bool a
        rw [e1, List.map_cons, ← bols_ok b k]
    · cases e
def lstInts (h : AH) (s : SV) : Option (List Int) := match lstOf h s with
  | some xs => intsOf xs
  | none => none
def gSum : List SV → AH → R SV := fun ss h => match ss with
  | [s] => match lstInts h s with
    | some ns => .ok (.d (.int ns.sum)) h
    | none => .st
  | _ => .st
def lmax : List Int → Int
  | [] => 0
  | [x] => x
  | x :: y :: r => max x (lmax (y :: r))
def gBools (k : List Bool → Bool) : List SV → AH → R SV := fun ss h => match ss with
  | [s] => match lstOf h s with
    | some xs => match bolsOf xs with
      | some bs => .ok (.d (.bool (k bs))) h
      | none => .st
    | none => .st
  | _ => .st
theorem cs_bools {k : List Bool → Bool} : CallS X (fun vs H Q => ∃ (a : Addr) (bs : List Bool), vs = [V.ref a] ∧ SqL X.K H a (bs.map V.bl) ∧ Q (.bl (k bs)) H) (gBools k) := by
  intro W en w σ H sl h xs ss Q eK S r P
  unfold gBools at P
  split at P
  · obtain ⟨v, rfl, r1⟩ := r.one
    split at P
    · rename_i xs hx
      split at P
      · rename_i bs hb
        obtain ⟨a, vs, rfl, q, rl⟩ := lst_ok S.toSimH r1 hx
        rw [bols_ok rl hb] at q
        exact ⟨a, bs, rfl, .of q, P.bool S⟩
      · exact False.elim P
    · exact False.elim P
  · exact False.elim P
def gList : List SV → AH → R SV := fun ss h => match ss with
  | [s] => match itemsOf h s with
    | some xs => .ok (.r h.length) (h ++ [some (.lst xs)])
    | none => .st
  | _ => .st
theorem cs_list : CallS X (fun xs H Q => ∃ p ys, xs = [.ref p] ∧ (SqL X.K H p ys ∨ SqT X.K H p ys) ∧ ∀ l, H l = none → Q (.ref l) (upd H l (.lst ys))) gList := by
  intro W en w σ H sl h xs ss Q eK S r P
  unfold gList at P
  split at P
  · obtain ⟨v, rfl, r1⟩ := r.one
    split at P
    · rename_i xs hx
      obtain ⟨a, vs, rfl, q, rl⟩ := items_ok S.toSimH r1 hx
      rw [eK.1] at q
      exact ⟨a, vs, rfl, q, fun l nl => P _ (w.ow l) _ le_ow (S.newO nl rl) S.toSimH.rs_new⟩
    · exact False.elim P
  · exact False.elim P
def gTuple : List SV → AH → R SV := fun ss h => match ss with
  | [s] => match lstOf h s with
    | some xs => match allD xs with
      | some ds => .ok (.d (.tuple ds)) h
      | none => .st
    | none => match s with
      | .d (.tuple ds) => .ok (.d (.tuple ds)) h
      | _ => .st
  | _ => .st
theorem cs_tuple : CallS X (fun xs H Q => ∃ p ys, xs = [.ref p] ∧ ((SqL X.K H p ys ∧ ∀ l, H l = none → Q (.ref l) (upd H l (.tup ys))) ∨ (SqT X.K H p ys ∧ Q (.ref p) H))) gTuple := by
  intro W en w σ H sl h xs ss Q eK S r P
  unfold gTuple at P
  split at P
  · obtain ⟨v, rfl, r1⟩ := r.one
    split at P
    · rename_i xs hx
      split at P
      · rename_i ds hd
        obtain ⟨a, vs, rfl, q, rl⟩ := lst_ok S.toSimH r1 hx
        have rd := allD_ok rl hd
        refine ⟨a, vs, rfl, .inl ⟨.of q, fun p np => ?_⟩⟩
        refine P (.ref p) (w.fz p (.tup vs)) _ (le_fz (S.F_none np)) (S.newF np (fun _ _ z => by cases z)) ?_
        show Rp en.K (upd w.F p (.tup vs)) (.ref p) (.tuple ds)
        unfold Rp
        exact ⟨p, vs, rfl, .of upd_same, RpL.mono (le_fz (S.F_none np)).2 ds vs rd⟩
      · exact False.elim P
    · split at P
      · rename_i ds _
        have r2 : Rp en.K w.F v (.tuple ds) := r1
        unfold Rp at r2
        obtain ⟨a, vs, rfl, q, l⟩ := r2
        refine ⟨a, vs, rfl, .inr ⟨?_, P.here S r1⟩⟩
        rw [← eK.1]
        exact sqT_mono (S.fh a) q
      · exact False.elim P
  · exact False.elim P
def rgS (a b : Int) : List SV := (List.range (b - a).toNat).map fun i => SV.d (.int (a + (i : Nat)))
def fRg1 (fa : FE) : List SV → AH → R (Int × Int) := fun sl h => (fa sl h).bind fun s h1 => match s with
  | .d (.int n) => .ok (0, n) h1
  | _ => .st
def fLstRg (f : List SV → AH → R (Int × Int)) : FE := fun sl h => (f sl h).bind fun p h1 => if (inB p.1 && inB p.2 && decide ((p.2 - p.1).toNat ≤ 1000000)) = true then .ok (.r h1.length) (h1 ++ [some (.lst (rgS p.1 p.2))]) else .st
variable {a b e : Expr} {fa fb : FE} {p pos : Pos}
end
end Zx
namespace Zx
open PySem PySem.Spec L2
def MtS (X : Cx) (T : String) (r : V → List V → Hp → VK → Prop) (kd : AH → SV → Bool) (g : SV → List SV → AH → R SV) : Prop :=
  (∀ (en : En) (w : Wd) (H : Hp) (h : AH) (x : V) (s : SV), en.ok X → SimH en w H h → RS en w x s → kd h s = true → tyV X.K T x H) ∧
  ∀ (W : WX) (en : En) (w : Wd) (σ : St) (H : Hp) (sl : List SV) (h : AH) (x : V) (xs : List V) (s : SV) (ss : List SV) (Q : VK), en.ok X → Sim en w σ H sl h → RS en w x s → RSL en w xs ss → Po RS X W en w σ sl (g s ss h) Q → r x xs H Q
def fBM (kd : AH → SV → Bool) (g : SV → List SV → AH → R SV) (fo : FE) (fa : FA) : FE := fun sl h => (fo sl h).bind fun s h1 => if kd h1 s = true then (fa sl h1).bind fun ss h2 => g s ss h2 else .st
section
variable {X : Cx} {W : WX} {o e : Expr} {es : List Expr} {fo : FE} {fa : FA} {T id : String} {name : Str} {r : V → List V → Hp → VK → Prop} {kd : AH → SV → Bool} {g : SV → List SV → AH → R SV} {apos cpos : Pos}
theorem se_bm (ms : MtS X T r kd g) (pa : PlainAttrs T) (slot : Slot T name id) (hty : typeOf (.builtin id) = pure (.type "method_descriptor")) (hm : MtR X id r) (ho : SE X W o fo) (ha : SA X W (e :: es) fa)
    (hbase : attributeBase o name X.env (eval o X.env) = eval o X.env := by rfl)
    (hfew : ((backTo cpos (starEach (e :: es) X.env)).all (fun x => !x.1) && (backToKw cpos (keywordEach [] X.env)).all (fun x => x.1.isSome)
      && decide ((e :: es).length + ([] : List Keyword).length + (if ([] : List Keyword).isEmpty then 0 else 1) < 30)) = true := by rfl)
    (hline : (apos.endLine == cpos.line) = true := by rfl) (hs : starEach (e :: es) X.env = (false, eval e X.env) :: starEach es X.env := by rfl) (hplain : (backTo cpos (starEach es X.env)).any (·.1) = false := by rfl) :
    SE X W (.Call (.Attribute o name apos) (e :: es) [] cpos) (fBM kd g fo fa) := PE.imp (pe_bm pa slot hty hm ho ha hbase hfew hline hs hplain) (by
  rintro σ H Q ⟨en, w, sl, h, eK, S, P⟩
  refine ⟨en, w, sl, h, eK, S, Po.bind P fun s h1 v w1 H1 l1 S1 r1 P1 => ?_⟩
  split at P1
  · rename_i hk
    refine ⟨ms.1 en w1 H1 h1 v s eK S1.toSimH r1 hk, en, w1, sl, h1, eK, S1, Po.bind P1 fun ss h2 vs w2 H2 l2 S2 r2 P2 => ?_⟩
    exact ms.2 W en w2 σ H2 sl h2 v vs s ss Q eK S2 (RS.mono l2 r1) r2 P2
  · exact False.elim P1)
def kdL : AH → SV → Bool := fun h s => (lstOf h s).isSome
theorem kdL_ok {en : En} {w : Wd} {H : Hp} {h : AH} {x : V} {s : SV} (S : SimH en w H h) (r : RS en w x s) (k : kdL h s = true) : tyV X.K "list" x H := by
  unfold kdL at k
  cases e : lstOf h s with
  | none => rw [e] at k; cases k
  | some xs =>
    obtain ⟨a, vs, rfl, q, rl⟩ := lst_ok S r e
    exact .inl ⟨rfl, vs, .of q⟩
def gOwn (k : List SV → List SV → AH → Option (List SV × SV)) : SV → List SV → AH → R SV := fun s ss h => match s with
  | .r n => match h[n]? with
    | some (some (.lst xs)) => match k xs ss h with
      | some (ys, v) => .ok v (h.set n (some (.lst ys)))
      | none => .st
    | _ => .st
  | _ => .st
theorem gOwn_inv {k : List SV → List SV → AH → Option (List SV × SV)} {en : En} {w : Wd} {σ : St} {H : Hp} {sl : List SV} {h : AH} {x : V} {s : SV} {ss : List SV} {Q : VK} (S : Sim en w σ H sl h) (r : RS en w x s) (P : Po RS X W en w σ sl (gOwn k s ss h) Q) :
    ∃ a vs xs ys v, x = .ref a ∧ H a = some (.lst vs) ∧ RSL en w vs xs ∧ k xs ss h = some (ys, v) ∧ ∀ us u, RSL en w us ys → RS en w u v → Q u (upd H a (.lst us)) := by
  unfold gOwn at P
  split at P
  · rename_i n
    split at P
    · rename_i xs hx
      split at P
      · rename_i ys v hk
        obtain ⟨a, e1, rfl⟩ := r
        obtain ⟨a', e2, ⟨vs, hv, rv⟩, _, _⟩ := S.live n _ hx
        have ea : a' = a := Option.some.inj (e2.symm.trans e1)
        subst ea
        exact ⟨a', vs, xs, ys, v, rfl, hv, rv, hk, fun us u r1 r2 => P u w _ (Wd.le.refl _) (S.write hx e1 r1) r2⟩
      · exact False.elim P
    · exact False.elim P
  · exact False.elim P
theorem RS.dnone {en : En} {w : Wd} : RS en w .non (.d .none) := (show Rp en.K w.F .non .none from Rp.non)
def lim : Nat := 1000000
theorem lim_line {n : Nat} (h : n < lim) : n < sizeLine := by rw [sizeLine_eq]; unfold lim at h; omega
def kAppend : List SV → List SV → AH → Option (List SV × SV) := fun xs ss _ => match ss with
  | [v] => if xs.length < lim then some (xs ++ [v], .d .none) else none
  | _ => none
theorem ms_append : MtS X "list" rAppend kdL (gOwn kAppend) := by
  refine ⟨fun en w H h x s eK S r k => kdL_ok S r k, fun W en w σ H sl h x xs s ss Q eK S r rl P => ?_⟩
  obtain ⟨a, vs, zs, ys, v, rfl, hv, rv, hk, q⟩ := gOwn_inv S r P
  unfold kAppend at hk
  split at hk
  · rename_i t
    split at hk
    · rename_i hl
      cases hk
      obtain ⟨u, rfl, ru⟩ := rl.one
      exact ⟨a, vs, u, rfl, rfl, hv, by rw [RSL.length rv]; exact lim_line hl, q _ _ (RSL.app (ts := [t]) rv ⟨u, [], rfl, ru, rfl⟩) RS.dnone⟩
    · cases hk
  · cases hk
def kReverse : List SV → List SV → AH → Option (List SV × SV) := fun xs ss _ => match ss with
  | [] => some (xs.reverse, .d .none)
  | _ => none
def kClear : List SV → List SV → AH → Option (List SV × SV) := fun xs ss _ => match ss with
  | [] => some ([], .d .none)
  | _ => none
end
def putIx (s t v : SV) (h : AH) : Option AH := match s with
  | .r n => match t with
    | .d (.int i) => match h[n]? with
      | some (some (.lst xs)) => match ixN xs.length i with
        | some j => some (h.set n (some (.lst (xs.set j v))))
        | none => none
      | _ => none
    | _ => none
  | _ => none
def sStore (fo fi fe : FE) : FS := fun sl h => (fe sl h).thn sl fun v h1 => (fo sl h1).thn sl fun s h2 => (fi sl h2).thn sl fun t h3 => match putIx s t v h3 with
  | some h4 => .nx sl h4
  | none => .st
section
variable {X : Cx} {W : WX} {o i e : Expr} {fo fi fe : FE} {pos tpos : Pos}
def sAugS (k : Int → Int → Int) (fo fi fe : FE) : FS := fun sl h => (fo sl h).thn sl fun s h1 => (fi sl h1).thn sl fun t h2 => match t with
  | .d (.int i) => match lstOf h2 s with
    | some xs => match atI xs i with
      | some (.d (.int a)) => (fe sl h2).thn sl fun v h3 => match v with
        | .d (.int b) => match putIx s t (.d (.int (k a b))) h3 with
          | some h4 => .nx sl h4
          | none => .st
        | _ => .st
      | _ => .st
    | none => .st
  | _ => .st
def sAug (j : Nat) (g : SV → SV → AH → R SV) (fe : FE) : FS := fun sl h => (fVar j sl h).thn sl fun s h1 => (fe sl h1).thn sl fun t h2 => (g s t h2).thn sl fun v h3 => .nx (sl.set j v) h3
end
def gCat : SV → SV → AH → R SV := fun s t h => match lstOf h s, lstOf h t with
  | some xs, some ys => if xs.length + ys.length < lim then .ok (.r h.length) (h ++ [some (.lst (xs ++ ys))]) else .st
  | _, _ => .st
theorem os_cat {X : Cx} : OpS X rCat gCat := by
  intro W en w σ H sl h x y s t Q eK S r1 r2 P
  unfold gCat at P
  split at P
  · rename_i xs ys hx hy
    split at P
    · rename_i hl
      obtain ⟨a, vs, rfl, qa, ra⟩ := lst_ok S.toSimH r1 hx
      obtain ⟨b, us, rfl, qb, rb'⟩ := lst_ok S.toSimH r2 hy
      exact ⟨a, b, vs, us, rfl, rfl, qa, qb, Nat.le_of_lt (by rw [RSL.length ra, RSL.length rb']; exact lim_line hl), fun p np => P _ (w.ow p) _ le_ow (S.newO np (RSL.app ra rb')) S.toSimH.rs_new⟩
    · exact False.elim P
  · exact False.elim P
def gCatS : SV → SV → AH → R SV := fun s t h => match s, t with
  | .d (.str a), .d (.str b) => if a.length + b.length < lim then .ok (.d (.str (a ++ b))) h else .st
  | _, _ => .st
theorem os_catS {X : Cx} : OpS X (fun x y H Q => ∃ i j, x = .str i ∧ y = .str j ∧ i.length + j.length ≤ sizeLine ∧ Q (.str (i ++ j)) H) gCatS := by
  intro W en w σ H sl h x y s t Q eK S r1 r2 P
  unfold gCatS at P
  split at P
  · split at P
    · rename_i hl
      exact ⟨_, _, RS.str r1, RS.str r2, Nat.le_of_lt (lim_line hl), P.str S⟩
    · exact False.elim P
  · exact False.elim P
abbrev rPlus : R2 := fun x y H Q => rI0 (fun i j => .int (i + j)) x y H Q ∨ rCat x y H Q ∨ (∃ i j, x = .str i ∧ y = .str j ∧ i.length + j.length ≤ sizeLine ∧ Q (.str (i ++ j)) H)
def gAdd : SV → SV → AH → R SV := gOr (gI (fun _ _ => true) fun i j => .int (i + j)) (gOr gCat gCatS)
theorem op_plus {X : Cx} : OpR X (binaryOp .Add) rPlus := op_add.or (op_cat.or op_add_str)
theorem os_plus {X : Cx} : OpS X rPlus gAdd := os_or os_I0 (os_or os_cat os_catS)
end Zx
namespace Zx
open PySem PySem.Spec L2
open PyProof.Rows (envOfC)
def intsD : List PyData → Option (List Int)
  | [] => some []
  | .int i :: r => (intsD r).map (i :: ·)
  | _ => none
theorem intsD_ok : ∀ ns : List Int, intsD (ns.map PyData.int) = some ns
  | [] => rfl
  | n :: ns => by
    show (intsD (ns.map PyData.int)).map (n :: ·) = some (n :: ns)
    rw [intsD_ok ns]; rfl
def argS : Md → PyData → SV
  | .fz, d => .d d
  | .vw, d => mkv d
  | .sc, .list ds => match intsD ds with
    | some ns => .sc ns
    | none => .un
  | .sc, _ => .un
def startS : List Md → List PyData → Nat → List SV
  | m :: ms, d :: ds, n + 1 => argS m d :: startS ms ds n
  | _, _, n => List.replicate n .un
def cl (s : SV) (h : AH) : AH := if below 0 s = true then [] else h
theorem cl_ok {en : En} {w : Wd} {F0 : Hp} {H : Hp} {h : AH} {s : SV} {v : V} (S : SimH en w H h) (le : (Wd.mk [] F0).le w) (r : RS en w v s) : ∃ w2, SimH en w2 H (cl s h) ∧ RS en w2 v s := by
  unfold cl
  by_cases c : below 0 s = true
  · rw [if_pos c]
    have := SimH.trim (w0 := ⟨[], F0⟩) S le rfl
    exact ⟨_, this.2, RS.cut r c⟩
  · rw [if_neg c]
    exact ⟨w, S, r⟩
def phi (ms : List Md) (n : Nat) (g : FS) : List PyData → R SV := fun ds => match g (startS ms ds n) [] with
  | .rt s h => .ok s (cl s h)
  | .nx _ h => .ok (.d .none) (cl (.d .none) h)
  | .rz c _ h => .rz c h
  | _ => .st
theorem argS_ok {en : En} {w : Wd} {H : Hp} {h : AH} (S : SimH en w H h) (eG : en.G = H) {v : V} {m : Md} {d : PyData} (a : ArgV en.K w.F H v m d) : RS en w v (argS m d) := by
  cases m with
  | fz => exact a
  | vw =>
    show RS en w v (mkv d)
    unfold mkv
    split
    · rename_i c
      exact Rp.immF (G := H) (Same.refl H) S.ti d v c a
    · exact (show Rp en.K en.G v d by rw [eG]; exact a)
  | sc =>
    obtain ⟨ns, rfl, q⟩ := a
    show RS en w v (match intsD (ns.map PyData.int) with | some ns => SV.sc ns | none => SV.un)
    rw [intsD_ok]
    exact (show RpS en.K en.G v ns by rw [eG]; exact q)
theorem start_ok {en : En} {w : Wd} {H : Hp} {h : AH} (S : SimH en w H h) (eG : en.G = H) : ∀ {ms : List Md} {vs : List V} {ds : List PyData} {n : Nat}, ms.length ≤ n → ArgOk en.K w.F H ms vs ds → Slt en w (vs.map some ++ List.replicate (n - vs.length) none) (startS ms ds n)
  | [], vs, ds, n, hn, ⟨h1, h2⟩ => by
    subst h1; subst h2
    unfold startS
    refine ⟨by simp, fun i s e => ?_⟩
    rw [List.getElem?_replicate] at e
    split at e
    · cases e; exact .inl rfl
    · cases e
  | m :: ms, vs, ds, 0, hn, _ => by simp at hn
  | m :: ms, vs, ds, n + 1, hn, ⟨v, vs', d, ds', h1, h2, a, q⟩ => by
    subst h1; subst h2
    have ih := start_ok S eG (n := n) (by simpa using hn) q
    unfold startS
    have e1 : (List.map some (v :: vs') ++ List.replicate (n + 1 - (v :: vs').length) none) = some v :: (List.map some vs' ++ List.replicate (n - vs'.length) none) := by
      rw [List.map_cons, List.cons_append, List.length_cons, Nat.add_sub_add_right]
    rw [e1]
    refine ⟨by rw [List.length_cons, List.length_cons, ih.1], fun i s e => ?_⟩
    cases i with
    | zero =>
      cases e
      exact .inr ⟨v, rfl, argS_ok S eG a⟩
    | succ i => exact ih.2 i s e
def DefOk (P : Program) (w : World) (K : PySem.W.Frag) (mg : Str → Option Value) (base : Heap) (N : List Str) (qual : Str) (st : Stmt) (k : Nat) (g : FS) : Prop :=
  ∀ (f : Addr) (cdv : Value) (A : Around) (outer : List Env) (s : Shared) (H : Hp) (E : XK) (W : WX), Room k (A.deeper (envOfC qual (defScope st) s.heap.objs.size f cdv)) → L2N.Takes (cxOf (L2N.CX P w) P w K mg base N qual (defScope st) f cdv A outer s H E) W →
    PassesOwn (model P w) (A.deeper (envOfC qual (defScope st) s.heap.objs.size f cdv)) (envOfC qual (defScope st) s.heap.objs.size f cdv) (cxOf (L2N.CX P w) P w K mg base N qual (defScope st) f cdv A outer s H E).xe →
    SSs (cxOf (L2N.CX P w) P w K mg base N qual (defScope st) f cdv A outer s H E) W (defBody st) g
section
variable {P : Program} {w : World} {K : PySem.W.Frag} {mg : Str → Option Value} {base : Heap}
theorem okN {x q0 : Str} {st : Stmt} {f : Addr} {fd : FuncData} {N ps : List Str} {k : Nat} {sp : Sp} (F : Fun K x q0 st f fd) (S : FnScope N ps (defScope st)) (hl : ∀ vs H Q E, sp vs H Q E → vs.length = ps.length)
    (hb : ∀ (cdv : Value) (A : Around) (outer : List Env) (s : Shared) (H : Hp) (vs : List V) (Q : VK) (E : XK), Room k (A.deeper (envOfC q0 (defScope st) s.heap.objs.size f cdv)) → sp vs H Q E →
      ∃ t, PSs (cxOf (L2N.CX P w) P w K mg base N q0 (defScope st) f cdv A outer s H E) (defBody st) t ∧ t { nx := fun _ H2 => Q .non H2, rt := Q } (L2.start N vs) H) : FnOk P w K mg base (L2N.CX P w) (k + 1) f fd ps sp := by
  obtain ⟨_, _, _, _, _, _, cdv, _, _, e, lk, hcd⟩ := F.ex
  subst e
  exact fn_of lk hcd S hl fun A outer s H vs Q E => hb cdv A outer s H vs Q E
theorem fn_data {x qual : Str} {st : Stmt} {f : Addr} {fd : FuncData} {N ps : List Str} {k : Nat} {ms : List Md} {g : FS} (F : Fun K x qual st f fd) (S : FnScope N ps (defScope st)) (hms : ms.length = ps.length) (hb : DefOk P w K mg base N qual st k g) :
    FnOk P w K mg base (L2N.CX P w) (k + 1) f fd ps (spD K mg ms (phi ms N.length g)) := by
  have hpl : ps.length ≤ N.length := by have := congrArg List.length S.pre; rw [List.length_take] at this; omega
  refine okN F S (fun vs H Q E h => ?_) (fun cdv A outer s H vs Q E hr h => ?_)
  · obtain ⟨F0, ds, _, _, a, _⟩ := h
    exact a.len.1.trans hms
  · obtain ⟨F0, ds, sm, ti, a, q⟩ := h
    refine ⟨tS (cxOf (L2N.CX P w) P w K mg base N qual (defScope st) f cdv A outer s H E) (fun cls d _ H => E cls d H) g, hb f cdv A outer s H E _ hr (L2N.takes_of rfl rfl rfl rfl) (passes_of rfl), ?_⟩
    have S0 : SimH ⟨K, H, F0, none⟩ ⟨[], F0⟩ H [] := ⟨Same.refl H, sm, Same.refl F0, fun a o e => .inl e, ti, rfl, fun n o e => by simp at e, fun n m a o1 o2 e => by simp at e⟩
    refine ⟨⟨K, H, F0, none⟩, ⟨[], F0⟩, startS ms ds N.length, [], ⟨rfl, hr.hd.symm⟩, ⟨S0, ?_⟩, ?_⟩
    · show Slt _ _ (L2.start N vs) _
      unfold L2.start
      exact start_ok S0 rfl (by rw [hms]; exact hpl) a
    · unfold phi at q
      generalize g (startS ms ds N.length) [] = o at q ⊢
      cases o with
      | nx sl h =>
        intro w' σ' H' l S'
        obtain ⟨w2, S2, r2⟩ := cl_ok (s := .d .none) (v := .non) S'.toSimH l RS.dnone
        exact q .non w2 H' S2 r2
      | rt s h =>
        intro w' H' v l S' r
        obtain ⟨w2, S2, r2⟩ := cl_ok S' l r
        exact q v w2 H' S2 r2
      | rz c sl h => exact fun w' σ' H' l S' u hu => q w' H' h S'.toSimH u hu
      | bk sl h => exact False.elim q
      | ct sl h => exact False.elim q
      | st => exact False.elim q
end
def tyOf (h : AH) : SV → Option String
  | .d .none => some "NoneType"
  | .d (.bool _) => some "bool"
  | .d (.int _) => some "int"
  | .d (.str _) => some "str"
  | .d (.list _) => some "list"
  | .d (.tuple _) => some "tuple"
  | .vw (.list _) => some "list"
  | .vw (.tuple _) => some "tuple"
  | .r n => match h[n]? with
    | some (some (.lst _)) => some "list"
    | some (some (.tup _)) => some "tuple"
    | _ => none
  | _ => none
theorem tyT {K : PySem.W.Frag} {H : Hp} {a : Addr} {xs : List V} (q : SqT K H a xs) : TyX K H (.ref a) (.type "tuple") := by
  rcases q with (q | ⟨o, q⟩) | ⟨o, its, n, q, c, _⟩
  · exact .base (.tup q)
  · exact .fTuple q
  · exact .kTuple q c
theorem tyOf_ok {en : En} {w : Wd} {H : Hp} {h : AH} (S : SimH en w H h) {x : V} {s : SV} {t : String} (r : RS en w x s) (e : tyOf h s = some t) : TyX en.K H x (.type t) := by
  unfold tyOf at e
  split at e
  · cases e; cases RS.non r; exact .base .non
  · cases e; cases RS.bool r; exact .base (.bl _)
  · cases e; cases RS.int r; exact .base (.int _)
  · cases e; cases RS.str r; exact .base (.str _)
  · cases e
    have r : Rp en.K w.F x (.list _) := r
    unfold Rp at r
    obtain ⟨a, vs, rfl, q, l⟩ := r
    exact .base (.lst (S.fh _ _ q))
  · cases e
    have r : Rp en.K w.F x (.tuple _) := r
    unfold Rp at r
    obtain ⟨a, vs, rfl, q, l⟩ := r
    exact tyT (sqT_mono (S.fh a) q)
  · cases e
    have r : Rp en.K en.G x (.list _) := r
    unfold Rp at r
    obtain ⟨a, vs, rfl, q, l⟩ := r
    exact .base (.lst (S.gh _ _ q))
  · cases e
    have r : Rp en.K en.G x (.tuple _) := r
    unfold Rp at r
    obtain ⟨a, vs, rfl, q, l⟩ := r
    exact tyT (sqT_mono (S.gh a) q)
  · split at e
    · cases e
      rename_i n _ xs hx
      obtain ⟨a, e1, rfl⟩ := r
      obtain ⟨a', e2, ⟨vs, hv, rv⟩, _, _⟩ := S.live n _ hx
      have ea : a' = a := Option.some.inj (e2.symm.trans e1)
      subst ea
      exact .base (.lst hv)
    · cases e
      rename_i n _ xs hx
      obtain ⟨a, e1, rfl⟩ := r
      obtain ⟨a', e2, ⟨vs, hv, rv⟩, _, _⟩ := S.live n _ hx
      have ea : a' = a := Option.some.inj (e2.symm.trans e1)
      subst ea
      exact tyT (.inl (.inl hv))
    · cases e
  · cases e
def isTy (a b : String) : Option Bool :=
  if a = b then some true
  else if ["int", "bool", "list", "tuple", "str", "dict"].contains b && ["int", "bool", "list", "tuple", "str", "NoneType"].contains a then some (a == "bool" && b == "int")
  else none
theorem isTy_ok {a b : String} {r : Bool} (h : isTy a b = some r) : kitB a b = some r := by
  unfold isTy at h
  split at h
  · rename_i e
    cases h
    subst e
    unfold kitB
    rw [if_pos (by simp)]
  · split at h
    · rename_i ne c
      rw [Bool.and_eq_true] at c
      obtain ⟨c1, c2⟩ := c
      have c1 : b ∈ ["int", "bool", "list", "tuple", "str", "dict"] := List.contains_iff_mem.mp c1
      have c2 : a ∈ ["int", "bool", "list", "tuple", "str", "NoneType"] := List.contains_iff_mem.mp c2
      have all : ∀ x ∈ ["int", "bool", "list", "tuple", "str", "NoneType"], ∀ y ∈ ["int", "bool", "list", "tuple", "str", "dict"], x ≠ y → kitB x y = some (x == "bool" && y == "int") := by decide +kernel
      rw [← h]
      exact all a c2 b c1 ne
    · cases h
def fIsi (T : String) (fa : FE) : FE := fun sl h => (fa sl h).bind fun s h1 => match tyOf h1 s with
  | some t => match isTy t T with
    | some b => .ok (.d (.bool b)) h1
    | none => .st
  | none => .st
section
variable {X : Cx} {W : WX} {a : Expr} {fa : FE} {p p2 pos : Pos} {T : String} {x : Str}
theorem se_isi (hg : Gl X "isinstance") (hm : X.mg "isinstance" = none) (hv : bootBuiltins "isinstance" = some (.builtin "isinstance")) (hT : PE X (.Name x p2) (tC (.ty T))) (ha : SE X W a fa)
    (he : starEach [a, .Name x p2] X.env = (false, eval a X.env) :: starEach [.Name x p2] X.env := by rfl) (hs2 : starEach [.Name x p2] X.env = (false, eval (.Name x p2) X.env) :: starEach [] X.env := by rfl)
    (hpl : (backTo pos (starEach [.Name x p2] X.env)).any (·.1) = false := by rfl) : SE X W (.Call (.Name "isinstance" p) [a, .Name x p2] [] pos) (fIsi T fa) :=
  PE.imp (pe_callB call_isi hg hm hv (pa_cons ha (pa_cons hT pa_nil hs2) he) (by decide) (by decide) he hpl) (by
    rintro σ H Q ⟨en, w, sl, h, eK, S, P⟩
    refine ⟨en, w, sl, h, eK, S, Po.bind P fun s h1 v w1 H1 l1 S1 r1 P1 => ?_⟩
    split at P1
    · rename_i t ht
      split at P1
      · rename_i b hb
        refine ⟨v, .ty T, .type t, .type T, b, rfl, .ty T, ?_, kit_ty (isTy_ok hb), P1.bool S1⟩
        rw [← eK.1]
        exact tyOf_ok S1.toSimH r1 ht
      · exact False.elim P1
    · exact False.elim P1)
end
end Zx
namespace Zx
open PySem PySem.Spec L2
def gSub : SV → SV → AH → R SV := gI (fun _ _ => true) fun i j => .int (i - j)
def CMulX (i j : Int) : Prop := i.natAbs.log2 + j.natAbs.log2 < 50000000
theorem CMulX.ok {i j : Int} (h : CMulX i j) : PySem.IntMulOk i j := by
  have b : ∀ x : Int, Builtin.Int.intBits x ≤ x.natAbs.log2 + 1 := fun x => by
    unfold Builtin.Int.intBits
    split <;> omega
  have h1 := b i
  have h2 := b j
  have h3 : i.natAbs.log2 + j.natAbs.log2 < 50000000 := h
  have e : PySem.bitsLine = 134217728 := by decide
  intro z
  rw [Bool.and_eq_true] at z
  have z2 := z.2
  unfold Builtin.Int.intTooBig at z2
  have z3 := of_decide_eq_true z2
  rw [e] at z3
  omega
theorem op_mulX {X : Cx} : OpR X (binaryOp .Mult) (rI CMulX fun i j => .int (i * j)) := opI fun _ _ _ _ _ _ _ hc q => PyProof.Rows.mul_int q hc.ok
def mulB (i j : Int) : Bool := decide (i.natAbs.log2 + j.natAbs.log2 < 50000000)
def divB (_ j : Int) : Bool := decide (0 < j ∧ j.natAbs.log2 < 9000)
def modB (_ j : Int) : Bool := decide (0 < j)
def powB (i j : Int) : Bool := decide (0 ≤ j ∧ j ≤ 1000000 ∧ i.natAbs < 2 ^ 64)
def gMul : SV → SV → AH → R SV := gI mulB fun i j => .int (i * j)
def gDiv : SV → SV → AH → R SV := gI divB fun i j => .int (i / j)
def gMod : SV → SV → AH → R SV := gI modB fun i j => .int (i % j)
def gPow : SV → SV → AH → R SV := gI powB fun i j => .int (i ^ j.toNat)
def gLt : SV → SV → AH → R SV := gI (fun _ _ => true) fun i j => .bool (decide (i < j))
def gLe : SV → SV → AH → R SV := gI (fun _ _ => true) fun i j => .bool (decide (i ≤ j))
def gGt : SV → SV → AH → R SV := gI (fun _ _ => true) fun i j => .bool (decide (j < i))
def gGe : SV → SV → AH → R SV := gI (fun _ _ => true) fun i j => .bool (decide (j ≤ i))
def iAdd (a b : Int) : Int := a + b
def iSub (a b : Int) : Int := a - b
def gAbs : List SV → AH → R SV := gI1 fun i => if i < 0 then -i else i
def gMin2 : List SV → AH → R SV := gI2 fun i j => if j < i then j else i
def gMax2 : List SV → AH → R SV := gI2 fun i j => if j > i then j else i
section
variable {X : Cx} {W : WX}
theorem os_mul : OpS X (rI CMulX fun i j => .int (i * j)) gMul := os_I fun i j h => by unfold mulB at h; exact (of_decide_eq_true h : i.natAbs.log2 + j.natAbs.log2 < 50000000)
theorem os_div : OpS X (rI CDivW fun i j => .int (i / j)) gDiv := os_I fun i j h => by unfold divB at h; exact (of_decide_eq_true h : 0 < j ∧ j.natAbs.log2 < 9000)
theorem os_mod : OpS X (rI (fun _ j => 0 < j) fun i j => .int (i % j)) gMod := os_I fun i j h => by unfold modB at h; exact (of_decide_eq_true h : 0 < j)
theorem os_pow : OpS X (rI CPow fun i j => .int (i ^ j.toNat)) gPow := os_I fun i j h => by unfold powB at h; exact (of_decide_eq_true h : 0 ≤ j ∧ j ≤ 1000000 ∧ i.natAbs < 2 ^ 64)
def gNeg : SV → AH → R SV := fun s h => match s with
  | .d (.int i) => .ok (.d (.int (-i))) h
  | _ => .st
theorem us_neg : UnS X (rU fun i => .int (-i)) gNeg := by
  intro W en w σ H sl h x s Q eK S r P
  unfold gNeg at P
  split at P
  · exact ⟨_, RS.int r, P.int S⟩
  · exact False.elim P
def isNon : SV → Option Bool
  | .d .none => some true
  | .d _ => some false
  | .vw .none => some true
  | .vw _ => some false
  | .r _ => some false
  | .sc _ => some false
  | .ex _ => some false
  | .un => none
def gIsN : SV → SV → AH → R SV := fun s t h => match t with
  | .d .none => match isNon s with
    | some b => .ok (.d (.bool b)) h
    | none => .st
  | _ => .st
def gNotN : SV → SV → AH → R SV := fun s t h => match t with
  | .d .none => match isNon s with
    | some b => .ok (.d (.bool (!b))) h
    | none => .st
  | _ => .st
def flatD : SV → Option V
  | .d .none => some .non
  | .d (.bool b) => some (.bl b)
  | .d (.int i) => some (.int i)
  | .d (.str x) => some (.str x)
  | _ => none
def flatL : List SV → Option (List V)
  | [] => some []
  | s :: ss => match flatD s with
    | some v => match flatL ss with
      | some vs => some (v :: vs)
      | none => none
    | none => none
theorem flatD_ok {en : En} {w : Wd} {v u : V} {s : SV} (r : RS en w v s) (e : flatD s = some u) : v = u ∧ flatV u = true := by
  unfold flatD at e
  split at e
  · cases e; exact ⟨RS.non r, rfl⟩
  · cases e; exact ⟨RS.bool r, rfl⟩
  · cases e; exact ⟨RS.int r, rfl⟩
  · cases e; exact ⟨RS.str r, rfl⟩
  · cases e
theorem flatL_ok {en : En} {w : Wd} : ∀ {ss : List SV} {vs us : List V}, RSL en w vs ss → flatL ss = some us → vs = us ∧ us.all flatV = true
  | [], vs, us, r, e => by unfold flatL at e; cases e; exact ⟨r, rfl⟩
  | s :: ss, vs, us, ⟨x, q, e1, a, b⟩, e => by
    unfold flatL at e
    cases k : flatD s with
    | none => rw [k] at e; cases e
    | some v =>
      rw [k] at e
      cases k2 : flatL ss with
      | none => rw [k2] at e; cases e
      | some u2 =>
        rw [k2] at e
        cases e
        obtain ⟨h1, h2⟩ := flatD_ok a k
        obtain ⟨h3, h4⟩ := flatL_ok b k2
        exact ⟨by rw [e1, h1, h3], by rw [List.all_cons, h2, h4]; rfl⟩
def gIn (neg : Bool) : SV → SV → AH → R SV := fun s t h => match flatD s with
  | some v => match itemsOf h t with
    | some xs => match flatL xs with
      | some vs => .ok (.d (.bool (if neg then !inV v vs else inV v vs))) h
      | none => .st
    | none => .st
  | none => .st
theorem os_inN (neg : Bool) : OpS X (rIn X.K neg) (gIn neg) := by
  intro W en w σ H sl h x y s t Q eK S r1 r2 P
  unfold gIn at P
  split at P
  · rename_i v hv
    split at P
    · rename_i xs hx
      split at P
      · rename_i vs hvs
        obtain ⟨rfl, f1⟩ := flatD_ok r1 hv
        obtain ⟨a, us, rfl, q, rl⟩ := items_ok S.toSimH r2 hx
        obtain ⟨rfl, f2⟩ := flatL_ok rl hvs
        rw [eK.1] at q
        exact ⟨a, us, rfl, q, f1, f2, P.bool S⟩
      · exact False.elim P
    · exact False.elim P
  · exact False.elim P
theorem os_in : OpS X (rIn X.K false) (gIn false) := os_inN false
def tO (X : Cx) (W : WX) (f : List SV → AH → R (Option Int)) : TO := fun σ H Q => ∃ en w sl h, en.ok X ∧ Sim en w σ H sl h ∧ Po (fun _ _ (b a : Option Int) => b = a) X W en w σ sl (f sl h) Q
abbrev SO (X : Cx) (W : WX) (e : Option Expr) (f : List SV → AH → R (Option Int)) : Prop := PO X e (tO X W f)
theorem PO.imp {X : Cx} {e : Option Expr} {t t' : TO} (h : PO X e t) (k : ∀ σ H Q, t' σ H Q → t σ H Q) : PO X e t' := by
  obtain ⟨r⟩ := h
  constructor
  intros
  apply r
  · assumption
  · apply k
    assumption
def oNo : List SV → AH → R (Option Int) := fun _ h => .ok none h
def oSome (f : FE) : List SV → AH → R (Option Int) := fun sl h => (f sl h).bind fun s h1 => match s with
  | .d (.int i) => .ok (some i) h1
  | _ => .st
theorem so_none : SO X W none oNo := PO.imp po_none (by
  rintro σ H Q ⟨en, w, sl, h, eK, S, P⟩
  exact P none w H (Wd.le.refl _) S rfl)
variable {e a b : Expr} {fe fa fb : FE} {pos p p2 : Pos}
theorem so_some (h : SE X W e fe) : SO X W (some e) (oSome fe) := PO.imp (po_some h) (by
  rintro σ H Q ⟨en, w, sl, h, eK, S, P⟩
  refine ⟨en, w, sl, h, eK, S, Po.bind P fun s h1 v w1 H1 l1 S1 r1 P1 => ?_⟩
  split at P1
  · rename_i i
    exact ⟨i, RS.int r1, P1 (some i) w1 H1 (Wd.le.refl _) S1 rfl⟩
  · exact False.elim P1)
def cutX {α : Type} (xs : List α) (lo hi : Option Int) : List α := (xs.drop (HT.sIx xs.length 0 lo)).take (HT.sIx xs.length xs.length hi - HT.sIx xs.length 0 lo)
theorem RSL.take {en : En} {w : Wd} : ∀ {ss : List SV} {vs : List V} (n : Nat), RSL en w vs ss → RSL en w (vs.take n) (ss.take n)
  | [], vs, n, r => by have r : vs = [] := r; subst r; simp; exact rfl
  | s :: ss, vs, 0, r => by simp; exact rfl
  | s :: ss, vs, n + 1, ⟨x, q, e, a, b⟩ => by subst e; exact ⟨x, q.take n, rfl, a, RSL.take n b⟩
theorem RSL.drop {en : En} {w : Wd} : ∀ {ss : List SV} {vs : List V} (n : Nat), RSL en w vs ss → RSL en w (vs.drop n) (ss.drop n)
  | [], vs, n, r => by have r : vs = [] := r; subst r; simp; exact rfl
  | s :: ss, vs, 0, r => r
  | s :: ss, vs, n + 1, ⟨x, q, e, a, b⟩ => by subst e; exact RSL.drop n b
theorem RSL.cutX {en : En} {w : Wd} {ss : List SV} {vs : List V} (lo hi : Option Int) (r : RSL en w vs ss) : RSL en w (cutV vs lo hi) (Zx.cutX ss lo hi) := by
  unfold cutV Zx.cutX
  rw [RSL.length r]
  exact RSL.take _ (RSL.drop _ r)
def fSlice (fe : FE) (fl fh : List SV → AH → R (Option Int)) : FE := fun sl h => (fe sl h).bind fun s h1 => (fl sl h1).bind fun lo h2 => (fh sl h2).bind fun hi h3 => match lstOf h3 s with
  | some xs => .ok (.r h3.length) (h3 ++ [some (.lst (cutX xs lo hi))])
  | none => .st
theorem se_slice {lo hi : Option Expr} {fl fh : List SV → AH → R (Option Int)} (he : SE X W e fe) (hl : SO X W lo fl) (hu : SO X W hi fh) : SE X W (.Subscript e (.Slice lo hi none p2) pos) (fSlice fe fl fh) := PE.imp (pe_slice sl_list he hl hu) (by
  rintro σ H Q ⟨en, w, sl, h, eK, S, P⟩
  refine ⟨en, w, sl, h, eK, S, Po.bind P fun s h1 v w1 H1 l1 S1 r1 P1 => ?_⟩
  refine ⟨en, w1, sl, h1, eK, S1, Po.bind P1 fun lo h2 lo' w2 H2 l2 S2 r2 P2 => ?_⟩
  refine ⟨en, w2, sl, h2, eK, S2, Po.bind P2 fun hi h3 hi' w3 H3 l3 S3 r3 P3 => ?_⟩
  have r2 : lo' = lo := r2
  have r3 : hi' = hi := r3
  subst r2; subst r3
  split at P3
  · rename_i xs hx
    obtain ⟨a, vs, rfl, q, rl⟩ := lst_ok S3.toSimH (RS.mono (l2.trans l3) r1) hx
    exact ⟨a, vs, rfl, .of q, fun p np => P3 _ (w3.ow p) _ le_ow (S3.newO np (RSL.cutX lo' hi' rl)) S3.toSimH.rs_new⟩
  · exact False.elim P3)
def sPar (i j : Nat) (fa : FA) : FS := fun sl h => (fa sl h).thn sl fun ss h1 => match ss with
  | [s, t] => .nx ((sl.set i s).set j t) h1
  | _ => .st
end
structure Cal (P : Program) (w : World) (K : PySem.W.Frag) (mg : Str → Option Value) (base : Heap) (x : Str) (k : Nat) (ms : List Md) (φ : List PyData → R SV) : Prop where
  ex : ∃ f fd ps, FnOk P w K mg base (L2N.CX P w) k f fd ps (spD K mg ms φ) ∧ mg x = some (.ref f) ∧ PySem.W.keepIn K (.ref f) = true ∧ Binds K fd ps []
theorem se_callC {X : Cx} {W : WX} {a : Expr} {es : List Expr} {fa : FA} {pos p : Pos} {x : Str} {k : Nat} {ms : List Md} {φ : List PyData → R SV} (c : Cal X.prog X.w X.K X.mg X.base x k ms φ) (hr : Room k X.A) (hg : Gl X x) (tk : L2N.Takes X W)
    (ha : SA X W (a :: es) fa) (hdb : (x == ("__debug__" : Str)) = false := by decide) (he : starEach (a :: es) X.env = (false, eval a X.env) :: starEach es X.env := by rfl) (hpl : (backTo pos (starEach es X.env)).any (·.1) = false := by rfl) :
    SE X W (.Call (.Name x p) (a :: es) [] pos) (fCall ms φ fa) := by
  obtain ⟨f, fd, ps, F, hm, hk, hb⟩ := c.ex
  exact se_call F hr hg hm hk hb tk ha hdb he hpl
def spLaw (K : PySem.W.Frag) : Sp := fun vs H Q _ => ∃ (a : Addr) (ns : List Int), vs = [.ref a] ∧ SqL K H a (ns.map V.int) ∧ ns.length ≤ 63 ∧ ∀ H', Q (.bl true) H'
theorem law_fn {P : Program} {w : World} {K : PySem.W.Frag} {mg : Str → Option Value} {base : Heap} {k : Nat} {f : Addr} {fd : FuncData} {ps : List Str} {φ : List PyData → R SV}
    (h : FnOk P w K mg base (L2N.CX P w) k f fd ps (spD K mg [.sc] φ)) (ok : ∀ ns : List Int, ns.length ≤ 63 → ∃ h, φ [.list (ns.map PyData.int)] = .ok (.d (.bool true)) h) : FnOk P w K mg base (L2N.CX P w) k f fd ps (spLaw K) :=
  h.imp fun vs H Q E q => by
    obtain ⟨a, ns, rfl, hS, hl, q⟩ := q
    obtain ⟨hh, e⟩ := ok ns hl
    refine ⟨H, [.list (ns.map PyData.int)], Same.refl H, ⟨fun _ _ z => z, fun _ _ _ z => z⟩, ⟨.ref a, [], _, [], rfl, rfl, ⟨ns, rfl, a, rfl, hS⟩, rfl, rfl⟩, ?_⟩
    rw [e]
    intro v w H' S r
    cases RS.bool r
    exact q H'
theorem spLaw_start {KK : World → PySem.W.Frag} : ∀ (w : World) (H : Hp) (a : Addr) (ns : List Int), ns.length ≤ 63 → Only H → SqL (KK w) H a (ns.map V.int) → spLaw (KK w) [.ref a] H (fun v _ => v = .bl true) fun _ _ _ => False :=
  fun _ _ a ns hl _ hS => ⟨a, ns, rfl, hS, hl, fun _ => rfl⟩
theorem cx_none {P : Program} {w : World} {H : Hp} {s : Shared} {e : Value} {s' : Shared} (h : L2N.CX P w [] H s (fun _ _ _ => False) e s') : False := by
  obtain ⟨_, _, _, _, _, _, _, _, _, _, _, _, z⟩ := h
  exact z
end Zx
namespace Zx
open PySem PySem.Spec L2
def O.seq (o : O) (b : FS) : O := match o with
  | .nx sl h => b sl h
  | o => o
def pick (o : Option SV) (h : AH) : R SV := match o with
  | none => .st
  | some .un => .st
  | some s => .ok s h
def O.fin (o : O) : R SV := match o with
  | .rt s h => .ok s (cl s h)
  | .nx _ h => .ok (.d .none) (cl (.d .none) h)
  | .rz c _ h => .rz c h
  | _ => .st
def opt {α β : Type} (o : Option α) (k : α → β) (d : β) : β := match o with
  | some a => k a
  | none => d
section
variable {α β : Type} {a b : FS} {fa fb fc : FE} {ta tb : FT} {fl fr : FA} {sl sl' : List SV} {h h' h1 : AH} {s t v : SV} {x : PyData} {i j : Int} {n : Nat} {c : Str} {k : α → AH → R β} {ko : α → AH → O} {g g' : SV → SV → AH → R SV} {gu : SV → AH → R SV} {gs : List SV → AH → R SV} {bd : Bd} {fi : List SV → AH → R Src}
theorem q_nx : (O.nx sl h).seq b = b sl h := (rfl)
theorem q_rt : (O.rt s h).seq b = .rt s h := (rfl)
theorem q_bk : (O.bk sl h).seq b = .bk sl h := (rfl)
theorem q_ct : (O.ct sl h).seq b = .ct sl h := (rfl)
theorem q_rz : (O.rz c sl h).seq b = .rz c sl h := (rfl)
theorem q_st : O.st.seq b = .st := (rfl)
theorem f_nx : (O.nx sl h).fin = .ok (.d .none) (cl (.d .none) h) := (rfl)
theorem f_rt : (O.rt s h).fin = .ok s (cl s h) := (rfl)
theorem f_rz : (O.rz c sl h).fin = .rz c h := (rfl)
theorem f_st : O.st.fin = .st := (rfl)
theorem b_ok {a : α} : (R.ok a h).bind k = k a h := (rfl)
theorem b_rz : (R.rz c h : R α).bind k = .rz c h := (rfl)
theorem b_st : (R.st : R α).bind k = .st := (rfl)
theorem t_ok {a : α} : (R.ok a h).thn sl ko = ko a h := (rfl)
theorem t_rz : (R.rz c h : R α).thn sl ko = .rz c sl h := (rfl)
theorem t_st : (R.st : R α).thn sl ko = .st := (rfl)
theorem o_some {a : α} {k : α → β} {d : β} : opt (some a) k d = k a := (rfl)
theorem o_none {k : α → β} {d : β} : opt none k d = d := (rfl)
theorem a_seq : sSeq a b sl h = (a sl h).seq b := (rfl)
theorem a_set : sSet n fa sl h = (fa sl h).thn sl fun s h1 => .nx (sl.set n s) h1 := (rfl)
theorem a_if : sIf ta a b sl h = (ta sl h).thn sl fun k h1 => if k = true then a sl h1 else b sl h1 := (rfl)
theorem a_expr : sExpr fa sl h = (fa sl h).thn sl fun _ h1 => .nx sl h1 := (rfl)
theorem a_ret : sRet fa sl h = (fa sl h).thn sl fun s h1 => .rt s h1 := (rfl)
theorem a_retN : sRetN sl h = .rt (.d .none) h := (rfl)
theorem a_next : sNext sl h = .nx sl h := (rfl)
theorem a_break : sBreak sl h = .bk sl h := (rfl)
theorem a_cont : sCont sl h = .ct sl h := (rfl)
theorem a_raise : sRaise c sl h = .rz c sl h := (rfl)
theorem a_var : fVar n sl h = pick sl[n]? h := (by unfold fVar pick; rfl)
theorem p_d : pick (some (.d x)) h = .ok (.d x) h := (rfl)
theorem p_vw : pick (some (.vw x)) h = .ok (.vw x) h := (rfl)
theorem p_r : pick (some (.r n)) h = .ok (.r n) h := (rfl)
theorem p_sc {ns : List Int} : pick (some (.sc ns)) h = .ok (.sc ns) h := (rfl)
theorem p_ex : pick (some (.ex c)) h = .ok (.ex c) h := (rfl)
theorem p_mkv : pick (some (mkv x)) h = .ok (mkv x) h := by unfold mkv; split <;> rfl
theorem a_c : fC x sl h = .ok (.d x) h := (rfl)
theorem a_bin : fBin g fa fb sl h = (fa sl h).bind fun x h1 => (fb sl h1).bind fun y h2 => g x y h2 := (rfl)
theorem a_un : fUn gu fa sl h = (fa sl h).bind fun x h1 => gu x h1 := (rfl)
def tst (s : SV) (h : AH) : R Bool := match s with
  | .d (.bool b) => .ok b h
  | _ => .st
theorem a_tst : fTst fa sl h = (fa sl h).bind tst := (rfl)
theorem tst_b {b : Bool} : tst (.d (.bool b)) h = .ok b h := (rfl)
theorem a_andT : fAndT ta tb sl h = (ta sl h).bind fun k h1 => if k = true then tb sl h1 else .ok false h1 := (rfl)
theorem a_orT : fOrT ta tb sl h = (ta sl h).bind fun k h1 => if k = true then .ok true h1 else tb sl h1 := (rfl)
theorem a_notT : fNotT ta sl h = (ta sl h).bind fun k h1 => .ok (!k) h1 := (rfl)
theorem a_andV : fAndV fa fb sl h = (fa sl h).bind fun s h1 => (tst s h1).bind fun k h2 => if k = true then fb sl h2 else .ok (.d (.bool false)) h2 := by
  unfold fAndV
  congr 1
  funext s h1
  cases s with
  | d x => cases x with
    | bool b => cases b <;> rfl
    | none => rfl
    | int i => rfl
    | str i => rfl
    | list i => rfl
    | tuple i => rfl
    | dict i => rfl
  | un => rfl
  | vw x => rfl
  | r x => rfl
  | sc x => rfl
  | ex x => rfl
theorem a_orV : fOrV fa fb sl h = (fa sl h).bind fun s h1 => (tst s h1).bind fun k h2 => if k = true then .ok (.d (.bool true)) h2 else fb sl h2 := by
  unfold fOrV
  congr 1
  funext s h1
  cases s with
  | d x => cases x with
    | bool b => cases b <;> rfl
    | none => rfl
    | int i => rfl
    | str i => rfl
    | list i => rfl
    | tuple i => rfl
    | dict i => rfl
  | un => rfl
  | vw x => rfl
  | r x => rfl
  | sc x => rfl
  | ex x => rfl
theorem a_notV : fNotV fa sl h = (fa sl h).bind fun s h1 => (tst s h1).bind fun k h2 => .ok (.d (.bool (!k))) h2 := by
  unfold fNotV
  congr 1
  funext s h1
  cases s with
  | d x => cases x <;> rfl
  | un => rfl
  | vw x => rfl
  | r x => rfl
  | sc x => rfl
  | ex x => rfl
theorem a_chain : fChain g g' fa fb fc sl h = (fa sl h).bind fun x h1 => (fb sl h1).bind fun y h2 => (g x y h2).bind fun z h3 => (tst z h3).bind fun k h4 => if k = true then (fc sl h4).bind fun u h5 => g' y u h5 else .ok (.d (.bool false)) h4 := by
  unfold fChain
  congr 1
  funext x h1
  congr 1
  funext y h2
  congr 1
  funext s h3
  cases s with
  | d x => cases x with
    | bool b => cases b <;> rfl
    | none => rfl
    | int i => rfl
    | str i => rfl
    | list i => rfl
    | tuple i => rfl
    | dict i => rfl
  | un => rfl
  | vw x => rfl
  | r x => rfl
  | sc x => rfl
  | ex x => rfl
theorem a_if' : fIf ta fa fb sl h = (ta sl h).bind fun k h1 => if k = true then fa sl h1 else fb sl h1 := (rfl)
theorem a_nil : fNil sl h = .ok [] h := (rfl)
theorem a_cons : fCons fa fr sl h = (fa sl h).bind fun s h1 => (fr sl h1).bind fun ss h2 => .ok (s :: ss) h2 := (rfl)
theorem a_lst : fLst fr sl h = (fr sl h).bind fun ss h1 => if ss.length ≤ 1000 then .ok (.r h1.length) (h1 ++ [some (.lst ss)]) else .st := (rfl)
theorem a_tup : fTup fr sl h = (fr sl h).bind fun ss h1 => opt (allD ss) (fun ds => if ds.length ≤ 1000 then .ok (.d (.tuple ds)) h1 else .st) .st := by
  unfold fTup opt
  congr 1
  funext ss h1
  cases allD ss <;> rfl
theorem a_fz : fFz fa sl h = (fa sl h).bind fun s h1 => opt (fzv 9 h1 s) (fun p => .ok (.d p.1) (trimE h.length sl p.2)) .st := by
  unfold fFz opt
  congr 1
  funext s h1
  cases fzv 9 h1 s <;> rfl
theorem a_cb : fCB gs fr sl h = (fr sl h).bind fun ss h1 => gs ss h1 := (rfl)
def back (L : Nat) (h : AH) (r : R SV) : R SV := match r with
  | .ok s hn => .ok (shv L s) (h ++ shh L hn)
  | .rz c _ => .rz c h
  | .st => .st
theorem back_d {L : Nat} : back L h (.ok (.d x) []) = .ok (.d x) h := by unfold back shh; simp [shv]
theorem back_rz {L : Nat} {hn : AH} : back L h (.rz c hn) = .rz c h := (rfl)
theorem back_st {L : Nat} : back L h .st = .st := (rfl)
theorem a_call {ms : List Md} {φ : List PyData → R SV} : fCall ms φ fr sl h = (fr sl h).bind fun ss h1 => opt (argsD h1 ms ss) (fun ds => back h1.length h1 (φ ds)) .st := by
  unfold fCall opt back
  congr 1
  funext ss h1
  cases argsD h1 ms ss with
  | none => rfl
  | some ds =>
    first
      | rfl
      | (dsimp only
         generalize φ ds = r
         cases r <;> rfl)
theorem g_nil : argsD h [] [] = some [] := (rfl)
theorem g_cons {m : Md} {ms : List Md} {ss : List SV} : argsD h (m :: ms) (s :: ss) = opt (argD h m s) (fun d => opt (argsD h ms ss) (fun ds => some (d :: ds)) none) none := by
  unfold opt
  conv => lhs; unfold argsD
  cases argD h m s with
  | none => rfl
  | some d => cases argsD h ms ss <;> rfl
theorem g_fz : argD h .fz (.d x) = some x := (rfl)
theorem g_sc {ns : List Int} : argD h .sc (.sc ns) = some (.list (ns.map PyData.int)) := (rfl)
theorem g_vw : argD h .vw s = rb h 9 s := by unfold argD; cases s <;> rfl
theorem a_isi {T : String} : fIsi T fa sl h = (fa sl h).bind fun s h1 => opt (tyOf h1 s) (fun t => opt (isTy t T) (fun b => .ok (.d (.bool b)) h1) .st) .st := by
  unfold fIsi opt
  congr 1
  funext ss h1
  cases tyOf h1 ss with
  | none => rfl
  | some t =>
    dsimp only
    generalize isTy t T = r
    cases r <;> rfl
theorem a_bm {kd : AH → SV → Bool} {gm : SV → List SV → AH → R SV} : fBM kd gm fa fr sl h = (fa sl h).bind fun s h1 => if kd h1 s = true then (fr sl h1).bind fun ss h2 => gm s ss h2 else .st := (rfl)
def seqI (s : SV) (h : AH) : R Src := match s with
  | .d (.list ds) => .ok (.cn (ds.map fun x => .one (.d x))) h
  | .vw (.list ds) => .ok (.cn (ds.map fun x => .one (mkv x))) h
  | .r n => match h[n]? with
    | some (some (.lst _)) => .ok (.ow n) h
    | _ => .st
  | _ => .st
theorem a_iseq : iSeq fa sl h = (fa sl h).bind seqI := (rfl)
theorem s_d {ds : List PyData} : seqI (.d (.list ds)) h = .ok (.cn (ds.map fun x => .one (.d x))) h := (rfl)
theorem s_vw {ds : List PyData} : seqI (.vw (.list ds)) h = .ok (.cn (ds.map fun x => .one (mkv x))) h := (rfl)
def tupI (s : SV) (h : AH) : R Src := match s with
  | .d (.tuple ds) => .ok (.cn (ds.map fun x => .one (.d x))) h
  | .vw (.tuple ds) => .ok (.cn (ds.map fun x => .one (mkv x))) h
  | _ => .st
theorem a_itup : iTupl fa sl h = (fa sl h).bind tupI := (rfl)
theorem u_d {ds : List PyData} : tupI (.d (.tuple ds)) h = .ok (.cn (ds.map fun x => .one (.d x))) h := (rfl)
theorem u_vw {ds : List PyData} : tupI (.vw (.tuple ds)) h = .ok (.cn (ds.map fun x => .one (mkv x))) h := (rfl)
def rng1 (ss : List SV) (h : AH) : R Src := match ss with
  | [.d (.int j)] => if inB j then .ok (.cn (rngI 0 j.toNat)) h else .st
  | _ => .st
def rng2 (ss : List SV) (h : AH) : R Src := match ss with
  | [.d (.int i), .d (.int j)] => if (inB i && inB j) = true then .ok (.cn (rngI i (j - i).toNat)) h else .st
  | _ => .st
theorem inB_lt {i : Int} (h0 : -1000000000 ≤ i) (h1 : i ≤ 1000000000) : inB i = true := by
  unfold inB
  exact decide_eq_true ⟨h0, h1⟩
theorem a_irng : iRng fr sl h = (fr sl h).bind rng1 := (rfl)
theorem r1_ok (h0 : -1000000000 ≤ j) (h1 : j ≤ 1000000000) : rng1 [.d (.int j)] h = .ok (.cn (rngI 0 j.toNat)) h := by
  unfold rng1
  simp only [inB_lt h0 h1, if_true]
theorem a_irng2 : Zx.iRng2 fr sl h = (fr sl h).bind rng2 := (rfl)
theorem r2_ok (h0 : -1000000000 ≤ i) (h1 : i ≤ 1000000000) (h2 : -1000000000 ≤ j) (h3 : j ≤ 1000000000) : rng2 [.d (.int i), .d (.int j)] h = .ok (.cn (rngI i (j - i).toNat)) h := by
  unfold rng2
  simp only [inB_lt h0 h1, inB_lt h2 h3, Bool.and_self, if_true]
def enuI (ss : List SV) (h : AH) : R Src := match ss with
  | [s] => opt (stillL s) (fun xs => .ok (.cn (enumI 0 xs)) h) .st
  | _ => .st
theorem a_ienu : iEnu fr sl h = (fr sl h).bind enuI := by
  unfold iEnu enuI opt
  congr 1
  funext ss h1
  split
  · rename_i s
    dsimp only
    generalize stillL s = r
    cases r <;> rfl
  · rename_i hne
    first
      | rfl
      | (split
         · rename_i s
           exact absurd rfl (hne s)
         · rfl)
theorem e_1 : enuI [s] h = opt (stillL s) (fun xs => .ok (.cn (enumI 0 xs)) h) .st := (rfl)
def zipJ (ss : List SV) (h : AH) : R Src := match ss with
  | [s, t] => opt (stillL s) (fun xs => opt (stillL t) (fun ys => .ok (.cn (zipI xs ys)) h) .st) .st
  | _ => .st
theorem a_izip : Zx.iZip fr sl h = (fr sl h).bind zipJ := by
  unfold Zx.iZip zipJ opt
  congr 1
  funext ss h1
  split
  · rename_i s t
    dsimp only
    generalize stillL s = r
    generalize stillL t = r2
    cases r <;> cases r2 <;> rfl
  · rename_i hne
    first
      | rfl
      | (split
         · rename_i s t
           exact absurd rfl (hne s t)
         · rfl)
theorem z_2 : zipJ [s, t] h = opt (stillL s) (fun xs => opt (stillL t) (fun ys => .ok (.cn (zipI xs ys)) h) .st) .st := (rfl)
theorem l_d {ds : List PyData} : stillL (.d (.list ds)) = some (ds.map SV.d) := (rfl)
theorem l_vw {ds : List PyData} : stillL (.vw (.list ds)) = some (ds.map mkv) := (rfl)
def runS (sl : List SV) (bd : Bd) (b : FS) (s : Src) (h : AH) : O := match s with
  | .cn l => forC sl h.length bd b l sl h
  | .ow n => match h[n]? with
    | some (some (.lst xs)) => forR sl h.length bd b n xs.length 0 sl h
    | _ => .st
theorem a_for : sFor fi bd b sl h = (fi sl h).thn sl fun s h1 => runS sl bd b s h1 := (rfl)
theorem w_cn {l : List It1} : runS sl bd b (.cn l) h = forC sl h.length bd b l sl h := (rfl)
theorem c_nil {sl0 : List SV} {L : Nat} {body : FS} : forC sl0 L bd body [] sl h = .nx sl h := by unfold forC; rfl
theorem c_cons {sl0 : List SV} {L : Nat} {body : FS} {x : It1} {xs : List It1} : forC sl0 L bd body (x :: xs) sl h = opt (bd.go x sl) (fun sl1 => aft sl0 L (body sl1 h) (forC sl0 L bd body xs)) .st := by
  conv => lhs; unfold forC
  unfold opt
  cases bd.go x sl <;> rfl
theorem n_nx {sl0 : List SV} {L : Nat} {k : List SV → AH → O} : aft sl0 L (.nx sl h) k = k (norm sl0 L sl h).1 (norm sl0 L sl h).2 := (rfl)
theorem n_ct {sl0 : List SV} {L : Nat} {k : List SV → AH → O} : aft sl0 L (.ct sl h) k = k (norm sl0 L sl h).1 (norm sl0 L sl h).2 := (rfl)
theorem n_bk {sl0 : List SV} {L : Nat} {k : List SV → AH → O} : aft sl0 L (.bk sl h) k = .nx (norm sl0 L sl h).1 (norm sl0 L sl h).2 := (rfl)
theorem n_rt {sl0 : List SV} {L : Nat} {k : List SV → AH → O} : aft sl0 L (.rt s h) k = .rt s h := (rfl)
theorem n_rz {sl0 : List SV} {L : Nat} {k : List SV → AH → O} : aft sl0 L (.rz c sl h) k = .rz c sl h := (rfl)
theorem n_st {sl0 : List SV} {L : Nat} {k : List SV → AH → O} : aft sl0 L .st k = .st := (rfl)
theorem a_setT {is : List Nat} : sSetT is fa sl h = (fa sl h).thn sl fun s h1 => opt ((Bd.tp is).go (.one s) sl) (fun sl' => .nx sl' h1) .st := by
  unfold sSetT opt
  congr 1
  funext s h1
  cases (Bd.tp is).go (.one s) sl <;> rfl
theorem a_store : sStore fa fb fc sl h = (fc sl h).thn sl fun v h1 => (fa sl h1).thn sl fun s h2 => (fb sl h2).thn sl fun t h3 => opt (putIx s t v h3) (fun h4 => .nx sl h4) .st := by
  unfold sStore opt
  congr 1
  funext v h1
  congr 1
  funext s h2
  congr 1
  funext t h3
  cases putIx s t v h3 <;> rfl
theorem rb_d {k : Nat} : rb h k (.d x) = some x := by cases k <;> (unfold rb; rfl)
theorem i_add : gAdd (.d (.int i)) (.d (.int j)) h = .ok (.d (.int (i + j))) h := (rfl)
theorem i_sub : Zx.gSub (.d (.int i)) (.d (.int j)) h = .ok (.d (.int (i - j))) h := (rfl)
theorem i_mul (hm : mulB i j = true) : gMul (.d (.int i)) (.d (.int j)) h = .ok (.d (.int (i * j))) h := by
  show (if mulB i j = true then _ else _) = _
  rw [if_pos hm]
theorem divB_ok (h0 : 0 < j) (h1 : j < 340282366920938463463374607431768211456) : divB i j = true := by
  unfold divB
  refine decide_eq_true ⟨h0, ?_⟩
  have h2 : j.natAbs < 2 ^ 128 := by omega
  have := PySem.Flt.log2_lt_of (by decide) h2
  omega
theorem i_div (h0 : 0 < j) (h1 : j < 340282366920938463463374607431768211456) : gDiv (.d (.int i)) (.d (.int j)) h = .ok (.d (.int (i / j))) h := by
  show (if divB i j = true then _ else _) = _
  rw [if_pos (divB_ok h0 h1)]
theorem i_mod (h0 : 0 < j) : gMod (.d (.int i)) (.d (.int j)) h = .ok (.d (.int (i % j))) h := by
  show (if modB i j = true then _ else _) = _
  rw [if_pos (by unfold modB; exact decide_eq_true h0)]
theorem i_pow (hp : powB i j = true) : gPow (.d (.int i)) (.d (.int j)) h = .ok (.d (.int (i ^ j.toNat))) h := by
  show (if powB i j = true then _ else _) = _
  rw [if_pos hp]
theorem i_lt : gLt (.d (.int i)) (.d (.int j)) h = .ok (.d (.bool (decide (i < j)))) h := (rfl)
theorem i_le : gLe (.d (.int i)) (.d (.int j)) h = .ok (.d (.bool (decide (i ≤ j)))) h := (rfl)
theorem i_gt : gGt (.d (.int i)) (.d (.int j)) h = .ok (.d (.bool (decide (j < i)))) h := (rfl)
theorem i_ge : gGe (.d (.int i)) (.d (.int j)) h = .ok (.d (.bool (decide (j ≤ i)))) h := (rfl)
theorem shaped_int : SeqAt.shaped (.int i) = true := by
  unfold SeqAt.shaped
  simp [PyData.canLay0, PyData.depth]
theorem i_eq : gEq false (.d (.int i)) (.d (.int j)) h = .ok (.d (.bool (decide (i = j)))) h := by
  unfold gEq
  rw [rb_d, rb_d]
  simp [nod, shaped_int, PyData.eqv]
  by_cases e : i = j <;> simp [e]
theorem i_ne : gEq true (.d (.int i)) (.d (.int j)) h = .ok (.d (.bool (!decide (i = j)))) h := by
  unfold gEq
  rw [rb_d, rb_d]
  simp [nod, shaped_int, PyData.eqv]
  by_cases e : i = j <;> simp [e]
theorem i_neg : gNeg (.d (.int i)) h = .ok (.d (.int (-i))) h := (rfl)
theorem i_int : gInt [.d (.int i)] h = .ok (.d (.int i)) h := (rfl)
theorem i_intb {b : Bool} : gInt [.d (.bool b)] h = .ok (.d (.int (if b = true then 1 else 0))) h := (rfl)
theorem i_abs : gAbs [.d (.int i)] h = .ok (.d (.int (if i < 0 then -i else i))) h := (rfl)
theorem i_min : gMin2 [.d (.int i), .d (.int j)] h = .ok (.d (.int (if j < i then j else i))) h := (rfl)
theorem i_max : gMax2 [.d (.int i), .d (.int j)] h = .ok (.d (.int (if j > i then j else i))) h := (rfl)
theorem atI_map {α γ : Type} {f : α → γ} {xs : List α} {i : Int} : atI (xs.map f) i = (atI xs i).map f := by
  unfold atI
  rw [List.length_map]
  cases ixN xs.length i with
  | none => rfl
  | some j =>
    show (xs.map f)[j]? = Option.map f xs[j]?
    rw [List.getElem?_map]
theorem ix_d {ds : List PyData} : gIx (.d (.list ds)) (.d (.int i)) h = opt (atI ds i) (fun u => .ok (.d u) h) .st := by
  simp only [gIx, itemsOf, atI_map]
  cases atI ds i <;> rfl
theorem ix_dt {ds : List PyData} : gIx (.d (.tuple ds)) (.d (.int i)) h = opt (atI ds i) (fun u => .ok (.d u) h) .st := by
  simp only [gIx, itemsOf, atI_map]
  cases atI ds i <;> rfl
theorem ix_vw {ds : List PyData} : gIx (.vw (.list ds)) (.d (.int i)) h = opt (atI ds i) (fun u => .ok (mkv u) h) .st := by
  simp only [gIx, itemsOf, atI_map]
  cases atI ds i <;> rfl
theorem ix_sc {ns : List Int} : gIx (.sc ns) (.d (.int i)) h = opt (atI ns i) (fun u => .ok (.d (.int u)) h) .st := by
  simp only [gIx, itemsOf, atI_map]
  cases atI ns i <;> rfl
theorem n_d {ds : List PyData} : gLen [.d (.list ds)] h = .ok (.d (.int ds.length)) h := by simp only [gLen, itemsOf, List.length_map]
theorem n_dt {ds : List PyData} : gLen [.d (.tuple ds)] h = .ok (.d (.int ds.length)) h := by simp only [gLen, itemsOf, List.length_map]
theorem n_vw {ds : List PyData} : gLen [.vw (.list ds)] h = .ok (.d (.int ds.length)) h := by simp only [gLen, itemsOf, List.length_map]
theorem n_sc {ns : List Int} : gLen [.sc ns] h = .ok (.d (.int ns.length)) h := by simp only [gLen, itemsOf, List.length_map]
theorem fzv_d {k : Nat} : fzv k h (.d x) = some (x, h) := by cases k <;> (unfold fzv; rfl)
theorem fzL_d : ∀ (ds : List PyData) (k : Nat) (h : AH), fzL k h (ds.map SV.d) = some (ds, h)
  | [], k, h => by unfold fzL; rfl
  | d :: ds, k, h => by
    show fzL k h (SV.d d :: ds.map SV.d) = _
    unfold fzL
    rw [fzv_d]
    show (match fzL k h (ds.map SV.d) with | some (ds_1, h2) => some (d :: ds_1, h2) | none => none) = _
    rw [fzL_d ds k h]
theorem fzv_r {ds : List PyData} (e : h[n]? = some (some (.lst (ds.map SV.d)))) : fzv 9 h (.r n) = some (.list ds, h.set n none) := by
  unfold fzv
  simp only [e, fzL_d, and_self, if_true]
theorem rb_vw {k : Nat} : rb h k (.vw x) = some x := by cases k <;> (unfold rb; rfl)
theorem rb_mkv {k : Nat} : rb h k (mkv x) = some x := by
  unfold mkv
  split
  · exact rb_d
  · exact rb_vw
theorem rbL_d : ∀ (ds : List PyData) (k : Nat), rbL h k (ds.map SV.d) = some ds
  | [], k => by unfold rbL; rfl
  | d :: ds, k => by
    show rbL h k (SV.d d :: ds.map SV.d) = _
    unfold rbL
    rw [rb_d]
    show (match rbL h k (ds.map SV.d) with | some ds_1 => some (d :: ds_1) | none => none) = _
    rw [rbL_d ds k]
theorem rb_r {k : Nat} {ds : List PyData} (e : h[n]? = some (some (.lst (ds.map SV.d)))) : rb h (k + 1) (.r n) = some (.list ds) := by
  unfold rb
  simp only [e, rbL_d]
  rfl
theorem allD_map : ∀ (ds : List PyData), allD (ds.map SV.d) = some ds
  | [] => by unfold allD; rfl
  | d :: ds => by
    show (allD (ds.map SV.d)).map (d :: ·) = some (d :: ds)
    rw [allD_map ds]; rfl
theorem d_nil : allD [] = some [] := (rfl)
theorem d_cons {ss : List SV} : allD (.d x :: ss) = opt (allD ss) (fun ds => some (x :: ds)) none := by
  unfold opt
  conv => lhs; unfold allD
  cases allD ss <;> rfl
theorem phi_eq {ms : List Md} {m : Nat} {ds : List PyData} : phi ms m a ds = (a (startS ms ds m) []).fin := by
  unfold phi O.fin
  rfl
theorem below_d : ∀ (ds : List PyData) (L : Nat), (ds.map SV.d).all (below L) = true
  | [], _ => rfl
  | d :: ds, L => by
    rw [List.map_cons, List.all_cons, below_d ds L]
    rfl
theorem atI_0 {α : Type} {xs : List α} {i : Int} (h0 : 0 ≤ i) : atI xs i = xs[i.toNat]? := by
  unfold atI ixN
  rw [if_pos h0]
  by_cases h1 : i < xs.length
  · rw [if_pos h1]; rfl
  · rw [if_neg h1]
    rw [List.getElem?_eq_none (by omega)]
    rfl
end
abbrev eI (ns : List Int) : PyData := .list (ns.map PyData.int)
abbrev eG (g : List (List Int)) : PyData := .list (g.map eI)
end Zx
namespace Zx
open PySem PySem.Spec L2
structure Fn (k : Nat) (d : PyData) : Prop where
  n : nod d = true
  c : d.canLay0 = true
  d : d.depth ≤ k
structure FnL (k : Nat) (ds : List PyData) : Prop where
  n : nodL ds = true
  c : PyData.canLayAll0 ds = true
  d : PyData.depthAll ds ≤ k
theorem Fn.mono {k l : Nat} {d : PyData} (f : Fn k d) (h : k ≤ l) : Fn l d := ⟨f.n, f.c, Nat.le_trans f.d h⟩
theorem Fn_int {k : Nat} {i : Int} : Fn k (.int i) := ⟨by unfold nod; rfl, by unfold PyData.canLay0; rfl, by unfold PyData.depth; exact Nat.zero_le _⟩
theorem Fn_bool {k : Nat} {b : Bool} : Fn k (.bool b) := ⟨by unfold nod; rfl, by unfold PyData.canLay0; rfl, by unfold PyData.depth; exact Nat.zero_le _⟩
theorem Fn_none {k : Nat} : Fn k .none := ⟨by unfold nod; rfl, by unfold PyData.canLay0; rfl, by unfold PyData.depth; exact Nat.zero_le _⟩
theorem FnL_nil {k : Nat} : FnL k [] := ⟨by unfold nodL; rfl, by unfold PyData.canLayAll0; rfl, by unfold PyData.depthAll; exact Nat.zero_le _⟩
theorem FnL_cons {k : Nat} {d : PyData} {ds : List PyData} (a : Fn k d) (b : FnL k ds) : FnL k (d :: ds) :=
  ⟨by unfold nodL; rw [a.n, b.n]; rfl, by unfold PyData.canLayAll0; rw [a.c, b.c]; rfl, by unfold PyData.depthAll; exact Nat.max_le.mpr ⟨a.d, b.d⟩⟩
theorem FnL_of {k : Nat} : ∀ {ds : List PyData}, (∀ d ∈ ds, Fn k d) → FnL k ds
  | [], _ => FnL_nil
  | d :: ds, h => FnL_cons (h d List.mem_cons_self) (FnL_of fun x m => h x (List.mem_cons_of_mem _ m))
theorem FnL_map {α : Type} {k : Nat} {xs : List α} {f : α → PyData} (h : ∀ x ∈ xs, Fn k (f x)) : FnL k (xs.map f) := FnL_of fun d m => by
  obtain ⟨x, hx, e⟩ := List.mem_map.mp m
  exact e ▸ h x hx
theorem Fn_lst {k : Nat} {ds : List PyData} (a : FnL k ds) : Fn (k + 1) (.list ds) :=
  ⟨by unfold nod; exact a.n, by unfold PyData.canLay0; exact a.c, by unfold PyData.depth; exact Nat.succ_le_succ a.d⟩
theorem Fn_tup {k : Nat} {ds : List PyData} (a : FnL k ds) : Fn (k + 1) (.tuple ds) :=
  ⟨by unfold nod; exact a.n, by unfold PyData.canLay0; exact a.c, by unfold PyData.depth; exact Nat.succ_le_succ a.d⟩
theorem Fn_eI {k : Nat} (ns : List Int) : Fn (k + 1) (eI ns) := Fn_lst (FnL_map fun _ _ => Fn_int)
theorem Fn_eG {k : Nat} (g : List (List Int)) : Fn (k + 2) (eG g) := Fn_lst (FnL_map fun r _ => Fn_eI r)
theorem Fn.shaped {d : PyData} (f : Fn 64 d) : SeqAt.shaped d = true := by
  unfold SeqAt.shaped
  rw [f.c, decide_eq_true f.d]; rfl
mutual
theorem eqv_refl : ∀ d : PyData, nod d = true → PyData.eqv d d = true
  | .none, _ => by unfold PyData.eqv; rfl
  | .bool b, _ => by unfold PyData.eqv; simp
  | .int i, _ => by unfold PyData.eqv; simp
  | .str s, _ => by unfold PyData.eqv; simp
  | .list ds, h => by unfold nod at h; unfold PyData.eqv; exact eqvAll_refl ds h
  | .tuple ds, h => by unfold nod at h; unfold PyData.eqv; exact eqvAll_refl ds h
  | .dict _, h => by unfold nod at h; cases h
theorem eqvAll_refl : ∀ ds : List PyData, nodL ds = true → PyData.eqvAll ds ds = true
  | [], _ => by unfold PyData.eqvAll; rfl
  | d :: ds, h => by
    unfold nodL at h
    have h := Bool.and_eq_true_iff.mp h
    unfold PyData.eqvAll
    rw [eqv_refl d h.1, eqvAll_refl ds h.2]; rfl
end
section
variable {h : AH} {s t : SV} {x y : PyData} {neg : Bool}
end
theorem eqvAll_ints : ∀ as bs : List Int, PyData.eqvAll (as.map PyData.int) (bs.map PyData.int) = decide (as = bs)
  | [], [] => by unfold PyData.eqvAll; rfl
  | [], b :: bs => by
    show PyData.eqvAll [] (_ :: _) = _
    unfold PyData.eqvAll; rfl
  | a :: as, [] => by
    show PyData.eqvAll (_ :: _) [] = _
    unfold PyData.eqvAll; rfl
  | a :: as, b :: bs => by
    show PyData.eqvAll (.int a :: as.map PyData.int) (.int b :: bs.map PyData.int) = _
    unfold PyData.eqvAll
    rw [eqvAll_ints as bs]
    unfold PyData.eqv
    by_cases e : a = b <;> by_cases e2 : as = bs <;> simp [e, e2]
theorem eqv_nil (ds : List PyData) : PyData.eqv (.list ds) (.list []) = ds.isEmpty := by
  unfold PyData.eqv
  cases ds <;> (unfold PyData.eqvAll; rfl)
theorem cl_nil {s : SV} : cl s [] = [] := by unfold cl; split <;> rfl
theorem cl_r {n : Nat} {h : AH} : cl (.r n) h = h := by
  unfold cl below
  simp
theorem cl_d {x : PyData} {h : AH} : cl (.d x) h = [] := (rfl)
theorem cl_vw {x : PyData} {h : AH} : cl (.vw x) h = [] := (rfl)
theorem trim_len {L : Nat} {sl : List SV} {h : AH} (e : h.length ≤ L) : trimE L sl h = h := by
  unfold trimE
  rw [List.take_of_length_le e]
  split <;> rfl
theorem trim_ok {sl : List SV} {h : AH} (a : h.all (belowO h.length) = true) (b : sl.all (below h.length) = true) {g : AH} : trimE h.length sl (h ++ g) = h := by
  unfold trimE trimOk
  rw [List.take_left, a, b]
  rfl
theorem trim_0 {sl : List SV} {h : AH} (b : sl.all (below 0) = true) : trimE 0 sl h = [] := trim_ok (h := []) rfl b (g := h)
theorem norm_len {L : Nat} {sl0 sl : List SV} {h : AH} (e : h.length ≤ L) : norm sl0 L sl h = (reset sl0 sl, h) := by
  unfold norm
  rw [List.take_of_length_le e]
  split <;> rfl
theorem mkv_int {i : Int} : mkv (.int i) = .d (.int i) := (rfl)
theorem mkv_bool {b : Bool} : mkv (.bool b) = .d (.bool b) := (rfl)
theorem mkv_none : mkv .none = .d .none := (rfl)
theorem mkv_str {s : Str} : mkv (.str s) = .d (.str s) := (rfl)
theorem mkv_lst {ds : List PyData} : mkv (.list ds) = .vw (.list ds) := (rfl)
theorem back_r {L n : Nat} {h hn : AH} : back L h (.ok (.r n) hn) = .ok (.r (n + L)) (h ++ shh L hn) := (rfl)
theorem wide_mul {i j : Int} (a b : Nat) (ha : 0 < a) (hb : 0 < b) (hi : i.natAbs < 2 ^ a) (hj : j.natAbs < 2 ^ b) (hab : a + b < 1000000) : mulB i j = true := by
  unfold mulB
  refine decide_eq_true ?_
  have := PySem.Flt.log2_lt_of ha hi
  have := PySem.Flt.log2_lt_of hb hj
  omega
theorem reset_un {as bs : List SV} {b : SV} : reset (.un :: as) (b :: bs) = .un :: reset as bs := by
  conv => lhs; unfold reset
theorem reset_d {as bs : List SV} {b : SV} {x : PyData} : reset (.d x :: as) (b :: bs) = b :: reset as bs := by
  conv => lhs; unfold reset
theorem reset_r {as bs : List SV} {b : SV} {n : Nat} : reset (.r n :: as) (b :: bs) = b :: reset as bs := by
  conv => lhs; unfold reset
theorem reset_vw {as bs : List SV} {b : SV} {x : PyData} : reset (.vw x :: as) (b :: bs) = b :: reset as bs := by
  conv => lhs; unfold reset
theorem reset_sc {as bs : List SV} {b : SV} {x : List Int} : reset (.sc x :: as) (b :: bs) = b :: reset as bs := by
  conv => lhs; unfold reset
theorem reset_nil {bs : List SV} : reset [] bs = bs := by unfold reset; rfl
def ownL (h : AH) (n : Nat) : Option (List SV) := match h[n]? with
  | some (some (.lst xs)) => some xs
  | _ => none
section
variable {h : AH} {n : Nat} {i : Int} {s t v : SV} {xs : List SV} {ss sl : List SV} {fo fi fe : FE}
theorem own_0 : ownL (some (.lst xs) :: h) 0 = some xs := (rfl)
theorem own_s {o : Option AO} : ownL (o :: h) (n + 1) = ownL h n := (rfl)
theorem own_get (e : ownL h n = some xs) : h[n]? = some (some (.lst xs)) := by
  unfold ownL at e
  split at e
  · rename_i z; cases e; exact z
  · cases e
theorem own_cs (h : AH) (n : Nat) : (h[n]? = none ∧ ownL h n = none) ∨ (h[n]? = some none ∧ ownL h n = none) ∨ (∃ xs, h[n]? = some (some (.lst xs)) ∧ ownL h n = some xs) ∨ (∃ kvs, h[n]? = some (some (.dct kvs)) ∧ ownL h n = none) ∨ ∃ ts, h[n]? = some (some (.tup ts)) ∧ ownL h n = none := by
  unfold ownL
  cases e : h[n]? with
  | none => exact .inl ⟨rfl, rfl⟩
  | some o => cases o with
    | none => exact .inr (.inl ⟨rfl, rfl⟩)
    | some o => cases o with
      | lst xs => exact .inr (.inr (.inl ⟨xs, rfl, rfl⟩))
      | dct kvs => exact .inr (.inr (.inr (.inl ⟨kvs, rfl, rfl⟩)))
      | tup ts => exact .inr (.inr (.inr (.inr ⟨ts, rfl, rfl⟩)))
theorem a_own {k : List SV → List SV → AH → Option (List SV × SV)} : gOwn k (.r n) ss h = opt (ownL h n) (fun xs => opt (k xs ss h) (fun p => .ok p.2 (h.set n (some (.lst p.1)))) .st) .st := by
  rcases own_cs h n with ⟨e, e2⟩ | ⟨e, e2⟩ | ⟨xs, e, e2⟩ | ⟨kvs, e, e2⟩ | ⟨ts, e, e2⟩ <;> simp only [gOwn, e, e2, opt]
  generalize k xs ss h = r
  cases r <;> rfl
theorem o_seq : seqI (.r n) h = opt (ownL h n) (fun _ => .ok (.ow n) h) .st := by
  rcases own_cs h n with ⟨e, e2⟩ | ⟨e, e2⟩ | ⟨xs, e, e2⟩ | ⟨kvs, e, e2⟩ | ⟨ts, e, e2⟩ <;> simp only [seqI, e, e2, opt]
theorem o_run {bd : Bd} {b : FS} : runS sl bd b (.ow n) h = opt (ownL h n) (fun xs => forR sl h.length bd b n xs.length 0 sl h) .st := by
  rcases own_cs h n with ⟨e, e2⟩ | ⟨e, e2⟩ | ⟨xs, e, e2⟩ | ⟨kvs, e, e2⟩ | ⟨ts, e, e2⟩ <;> simp only [runS, e, e2, opt]
def itT (h : AH) (n : Nat) (k : List SV → R SV) : R SV := match h[n]? with
  | some (some (.tup ts)) => k ts
  | _ => .st
theorem o_ix : gIx (.r n) (.d (.int i)) h = opt (ownL h n) (fun xs => opt (atI xs i) (fun u => .ok u h) .st) (itT h n fun xs => opt (atI xs i) (fun u => .ok u h) .st) := by
  rcases own_cs h n with ⟨e, e2⟩ | ⟨e, e2⟩ | ⟨xs, e, e2⟩ | ⟨kvs, e, e2⟩ | ⟨ts, e, e2⟩ <;> simp only [gIx, itemsOf, e, e2, opt, itT]
  · cases atI xs i <;> rfl
  · cases atI ts i <;> rfl
theorem o_len : gLen [.r n] h = opt (ownL h n) (fun xs => .ok (.d (.int xs.length)) h) (itT h n fun xs => .ok (.d (.int xs.length)) h) := by
  rcases own_cs h n with ⟨e, e2⟩ | ⟨e, e2⟩ | ⟨xs, e, e2⟩ | ⟨kvs, e, e2⟩ | ⟨ts, e, e2⟩ <;> simp only [gLen, itemsOf, e, e2, opt, itT]
theorem o_lstOf : lstOf h (.r n) = ownL h n := by
  rcases own_cs h n with ⟨e, e2⟩ | ⟨e, e2⟩ | ⟨xs, e, e2⟩ | ⟨kvs, e, e2⟩ | ⟨ts, e, e2⟩ <;> simp only [lstOf, e, e2, opt]
theorem o_put : putIx (.r n) (.d (.int i)) v h = opt (ownL h n) (fun xs => opt (ixN xs.length i) (fun j => some (h.set n (some (.lst (xs.set j v))))) none) none := by
  rcases own_cs h n with ⟨e, e2⟩ | ⟨e, e2⟩ | ⟨xs, e, e2⟩ | ⟨kvs, e, e2⟩ | ⟨ts, e, e2⟩ <;> simp only [putIx, e, e2, opt]
  cases ixN xs.length i <;> rfl
theorem o_kd : kdL h (.r n) = (ownL h n).isSome := by unfold kdL; rw [o_lstOf]
theorem o_ty : tyOf h (.r n) = opt (ownL h n) (fun _ => some "list") (match h[n]? with | some (some (.tup _)) => some "tuple" | _ => none) := by
  rcases own_cs h n with ⟨e, e2⟩ | ⟨e, e2⟩ | ⟨xs, e, e2⟩ | ⟨kvs, e, e2⟩ | ⟨ts, e, e2⟩ <;> simp only [tyOf, e, e2, opt]
theorem o_list : gList [.r n] h = opt (ownL h n) (fun xs => .ok (.r h.length) (h ++ [some (.lst xs)])) (itT h n fun xs => .ok (.r h.length) (h ++ [some (.lst xs)])) := by
  rcases own_cs h n with ⟨e, e2⟩ | ⟨e, e2⟩ | ⟨xs, e, e2⟩ | ⟨kvs, e, e2⟩ | ⟨ts, e, e2⟩ <;> simp only [gList, itemsOf, e, e2, opt, itT]
theorem l_list {ds : List PyData} : gList [.d (.list ds)] h = .ok (.r h.length) (h ++ [some (.lst (ds.map SV.d))]) := by
  simp only [gList, itemsOf]
theorem l_listv {ds : List PyData} : gList [.vw (.list ds)] h = .ok (.r h.length) (h ++ [some (.lst (ds.map mkv))]) := by
  simp only [gList, itemsOf]
theorem ixN_in {m : Nat} (h0 : 0 ≤ i) (h1 : i < m) : ixN m i = some i.toNat := by
  unfold ixN
  rw [if_pos h0, if_pos h1]
theorem atI_in {α : Type} {xs : List α} (h0 : 0 ≤ i) (h1 : i < xs.length) : atI xs i = some (xs[i.toNat]'(by omega)) := by
  rw [atI_0 h0, List.getElem?_eq_getElem]
theorem k_app (e : xs.length < lim) : kAppend xs [v] h = some (xs ++ [v], .d .none) := by
  unfold kAppend
  dsimp only
  rw [if_pos e]
theorem k_rev : kReverse xs [] h = some (xs.reverse, .d .none) := (rfl)
theorem k_clr : kClear xs [] h = some ([], .d .none) := (rfl)
end
theorem a_while {fuel : Nat} {t : FT} {b : FS} {sl : List SV} {h : AH} : sWhile fuel t b sl h = whL sl h.length t b fuel sl h := (rfl)
theorem rngI_get {lo : Int} {n k : Nat} {x : It1} (e : (rngI lo n)[k]? = some x) : k < n ∧ x = .one (.d (.int (lo + k))) := by
  unfold rngI at e
  rw [List.getElem?_map] at e
  by_cases hk : k < n
  · rw [List.getElem?_range hk] at e
    exact ⟨hk, (Option.some.inj e).symm⟩
  · rw [List.getElem?_eq_none (by rw [List.length_range]; omega)] at e
    cases e
def O.turn (sl0 : List SV) (L : Nat) : O → Option (List SV × AH)
  | .nx sl h => some (norm sl0 L sl h)
  | .ct sl h => some (norm sl0 L sl h)
  | _ => none
theorem aft_turn {sl0 : List SV} {L : Nat} {o : O} {k : List SV → AH → O} {sl : List SV} {h : AH} (e : o.turn sl0 L = some (sl, h)) : aft sl0 L o k = k sl h := by
  cases o with
  | nx a b => have e := Option.some.inj e; unfold aft; dsimp only; rw [e]
  | ct a b => have e := Option.some.inj e; unfold aft; dsimp only; rw [e]
  | bk _ _ => cases e
  | rt _ _ => cases e
  | rz _ _ _ => cases e
  | st => cases e
theorem turn_nx {sl0 sl : List SV} {L : Nat} {h : AH} : (O.nx sl h).turn sl0 L = some (norm sl0 L sl h) := (rfl)
theorem turn_ct {sl0 sl : List SV} {L : Nat} {h : AH} : (O.ct sl h).turn sl0 L = some (norm sl0 L sl h) := (rfl)
theorem i_mulL {i j : Int} {h : AH} (a : -1000000000000000000000000000000000000000000000000000000000000000000000000000000000000000000000000000000000000000000000000000000000000000000000000000000000000000000000000000000000000000000000000000000000000000000000000000000000000000000000000000000000000000000000000000000000000000000000000000000000000 < i) (b : i < 1000000000000000000000000000000000000000000000000000000000000000000000000000000000000000000000000000000000000000000000000000000000000000000000000000000000000000000000000000000000000000000000000000000000000000000000000000000000000000000000000000000000000000000000000000000000000000000000000000000000000) (c : -1000000000000000000000000000000000000000000000000000000000000000000000000000000000000000000000000000000000000000000000000000000000000000000000000000000000000000000000000000000000000000000000000000000000000000000000000000000000000000000000000000000000000000000000000000000000000000000000000000000000000 < j) (d : j < 1000000000000000000000000000000000000000000000000000000000000000000000000000000000000000000000000000000000000000000000000000000000000000000000000000000000000000000000000000000000000000000000000000000000000000000000000000000000000000000000000000000000000000000000000000000000000000000000000000000000000) : gMul (.d (.int i)) (.d (.int j)) h = .ok (.d (.int (i * j))) h := by
  have e : (1000000000000000000000000000000000000000000000000000000000000000000000000000000000000000000000000000000000000000000000000000000000000000000000000000000000000000000000000000000000000000000000000000000000000000000000000000000000000000000000000000000000000000000000000000000000000000000000000000000000000 : Nat) < 2 ^ 1000 := by decide
  exact i_mul (wide_mul 1000 1000 (by decide) (by decide) (Nat.lt_trans (by omega) e) (Nat.lt_trans (by omega) e) (by decide))
theorem for_inv {sl0 : List SV} {L : Nat} {bd : Bd} {body : FS} {P : Nat → List SV → AH → Prop} : ∀ (l : List It1) (m : Nat) (sl : List SV) (h : AH), (∀ k x sl h, l[k]? = some x → P (m + k) sl h → ∃ sl1, bd.go x sl = some sl1 ∧ ∃ sl2 h2, (body sl1 h).turn sl0 L = some (sl2, h2) ∧ P (m + k + 1) sl2 h2) → P m sl h →
    ∃ sl' h', forC sl0 L bd body l sl h = .nx sl' h' ∧ P (m + l.length) sl' h'
  | [], m, sl, h, _, p => ⟨sl, h, c_nil, p⟩
  | x :: l, m, sl, h, st, p => by
    obtain ⟨sl1, e1, sl2, h2, e2, p2⟩ := st 0 x sl h rfl p
    rw [c_cons, e1]
    obtain ⟨sl', h', e3, p3⟩ := for_inv (P := P) l (m + 1) sl2 h2 (fun k y sl h e q => by
      have := st (k + 1) y sl h e
      rw [show m + (k + 1) = m + 1 + k from by omega] at this
      exact this q) p2
    refine ⟨sl', h', ?_, ?_⟩
    · show aft sl0 L (body sl1 h) _ = _
      rw [aft_turn e2, e3]
    · rw [List.length_cons, show m + (l.length + 1) = m + 1 + l.length from by omega]
      exact p3
theorem norm_ok {sl0 sl : List SV} {L : Nat} {h : AH} (a : (h.take L).all (belowO L) = true) (b : (reset sl0 sl).all (below L) = true) : norm sl0 L sl h = (reset sl0 sl, h.take L) := by
  unfold norm trimOk
  rw [a, b]
  rfl
theorem for_inv' {sl0 : List SV} {L : Nat} {bd : Bd} {body : FS} {l : List It1} {sl : List SV} {h : AH} {o : O} (ef : forC sl0 L bd body l sl h = o) {P : Nat → List SV → AH → Prop} (p : P 0 sl h)
    (st : ∀ k x sl h, l[k]? = some x → P k sl h → ∃ sl1, bd.go x sl = some sl1 ∧ ∃ sl2 h2, (body sl1 h).turn sl0 L = some (sl2, h2) ∧ P (k + 1) sl2 h2) : ∃ sl' h', o = .nx sl' h' ∧ P l.length sl' h' := by
  obtain ⟨sl', h', e, q⟩ := for_inv (P := P) l 0 sl h (fun k x sl h e q => by
    rw [Nat.zero_add] at q ⊢
    exact st k x sl h e q) p
  rw [Nat.zero_add] at q
  exact ⟨sl', h', ef.symm.trans e, q⟩
def lrg1 (s : SV) (h : AH) : R SV := match s with
  | .d (.int j) => if (inB j && decide (j.toNat ≤ 1000000)) = true then .ok (.r h.length) (h ++ [some (.lst (rgS 0 j))]) else .st
  | _ => .st
theorem a_lrg1 {fa : FE} {sl : List SV} {h : AH} : fLstRg (fRg1 fa) sl h = (fa sl h).bind lrg1 := by
  unfold fLstRg fRg1
  generalize fa sl h = r
  cases r with
  | st => rfl
  | rz c h => rfl
  | ok s h1 =>
    show ((match s with | .d (.int n) => (.ok ((0 : Int), n) h1 : R (Int × Int)) | _ => .st).bind _) = lrg1 s h1
    unfold lrg1
    cases s with
    | d x =>
      cases x with
      | int j =>
        show (if (inB 0 && inB j && decide ((j - 0).toNat ≤ 1000000)) = true then _ else _) = _
        rw [Int.sub_zero]
        rfl
      | none => rfl
      | bool i => rfl
      | str i => rfl
      | list i => rfl
      | tuple i => rfl
      | dict i => rfl
    | un => rfl
    | vw x => rfl
    | r x => rfl
    | sc x => rfl
    | ex x => rfl
abbrev oI (xs : List Int) : Option AO := some (.lst ((xs.map PyData.int).map SV.d))
theorem fzv_nil {h : AH} {n : Nat} (e : ownL h n = some []) : fzv 9 h (.r n) = some (.list [], h.set n none) := fzv_r (ds := []) (own_get e)
theorem rb_own {h : AH} {n k : Nat} {ds : List PyData} (e : ownL h n = some (ds.map SV.d)) : rb h (k + 1) (.r n) = some (.list ds) := rb_r (own_get e)
theorem trim_g {L : Nat} {sl : List SV} {h : AH} (a : (h.take L).all (belowO L) = true) (b : sl.all (below L) = true) : trimE L sl h = h.take L := by
  unfold trimE trimOk
  rw [a, b]
  rfl
theorem bel_o {L : Nat} {xs : List SV} : belowO L (some (.lst xs)) = xs.all (below L) := (rfl)
theorem bel_n {L : Nat} : belowO L none = true := (rfl)
theorem bel_r {L n : Nat} : below L (.r n) = decide (n < L) := (rfl)
theorem bel_d {L : Nat} {x : PyData} : below L (.d x) = true := (rfl)
theorem bel_vw {L : Nat} {x : PyData} : below L (.vw x) = true := (rfl)
theorem bel_sc {L : Nat} {x : List Int} : below L (.sc x) = true := (rfl)
theorem bel_un {L : Nat} : below L .un = true := (rfl)
theorem mkv_ints (ns : List Int) : (ns.map PyData.int).map mkv = (ns.map PyData.int).map SV.d := by
  rw [List.map_map, List.map_map]
  exact List.map_congr_left fun i _ => mkv_int
def refs (L n : Nat) : List SV := (List.range n).map fun i => SV.r (L + 1 + i)
def OG (L : Nat) (g : List (List SV)) : AH := some (.lst (refs L g.length)) :: g.map fun r => some (.lst r)
abbrev dI (g : List (List Int)) : List (List SV) := g.map fun r => (r.map PyData.int).map SV.d
theorem refs_len {L n : Nat} : (refs L n).length = n := by unfold refs; rw [List.length_map, List.length_range]
theorem refs_get {L n i : Nat} (h : i < n) : (refs L n)[i]? = some (.r (L + 1 + i)) := by
  unfold refs
  rw [List.getElem?_map, List.getElem?_range h]
  rfl
theorem shh_OG {L : Nat} {g : List (List Int)} : shh L (OG 0 (dI g)) = OG L (dI g) := by
  unfold shh OG
  rw [List.map_cons, List.map_map]
  congr 1
  · show some (AO.lst ((refs 0 (dI g).length).map (shv L))) = _
    congr 2
    unfold refs
    rw [List.map_map]
    apply List.map_congr_left
    intro i _
    show SV.r (0 + 1 + i + L) = SV.r (L + 1 + i)
    congr 1
    omega
  · apply List.map_congr_left
    intro r hr
    obtain ⟨ns, _, rfl⟩ := List.mem_map.mp hr
    show some (AO.lst ((((ns.map PyData.int).map SV.d)).map (shv L))) = _
    congr 2
    rw [List.map_map]
    rfl
theorem own_og {h : AH} {L : Nat} (hL : h.length = L) {g : List (List SV)} {t : AH} : ownL (h ++ OG L g ++ t) L = some (refs L g.length) := by
  subst hL
  unfold ownL OG
  simp
theorem rbL_rows {k : Nat} : ∀ (g : List (List Int)) (pre t : AH), rbL (pre ++ (dI g).map (fun r => some (.lst r)) ++ t) (k + 1) ((List.range g.length).map fun i => SV.r (pre.length + i)) = some (g.map eI)
  | [], pre, t => by show rbL _ _ [] = _; unfold rbL; rfl
  | r :: g, pre, t => by
    have e : (List.range (r :: g).length).map (fun i => SV.r (pre.length + i)) = SV.r pre.length :: (List.range g.length).map fun i => SV.r ((pre ++ [oI r]).length + i) := by
      rw [List.length_cons, List.range_succ_eq_map, List.map_cons, List.map_map]
      congr 1
      apply List.map_congr_left
      intro i _
      show SV.r (pre.length + (i + 1)) = SV.r ((pre ++ [oI r]).length + i)
      rw [List.length_append, List.length_singleton]
      congr 1
      omega
    have e2 : pre ++ (dI (r :: g)).map (fun r => some (AO.lst r)) ++ t = (pre ++ [oI r]) ++ (dI g).map (fun r => some (AO.lst r)) ++ t := by
      show pre ++ (oI r :: (dI g).map (fun r => some (AO.lst r))) ++ t = _
      simp
    rw [e]
    unfold rbL
    have h1 : rb (pre ++ (dI (r :: g)).map (fun r => some (AO.lst r)) ++ t) (k + 1) (.r pre.length) = some (eI r) := by
      refine rb_own ?_
      rw [e2]
      unfold ownL
      rw [List.append_assoc, List.append_assoc, List.getElem?_append_right (Nat.le_refl _), Nat.sub_self]
      rfl
    rw [h1, e2, rbL_rows g (pre ++ [oI r]) t]
    rfl
theorem rb_og {h : AH} {L : Nat} (hL : h.length = L) {g : List (List Int)} {t : AH} {k : Nat} : rb (h ++ OG L (dI g) ++ t) (k + 2) (.r L) = some (eG g) := by
  subst hL
  unfold rb
  have e := own_get (own_og (h := h) rfl (g := dI g) (t := t))
  rw [e]
  dsimp only
  have := rbL_rows (k := k) g (h ++ [some (.lst (refs h.length (dI g).length))]) t
  have e2 : h ++ [some (AO.lst (refs h.length (dI g).length))] ++ (dI g).map (fun r => some (AO.lst r)) ++ t = h ++ OG h.length (dI g) ++ t := by unfold OG; simp
  rw [e2] at this
  have e3 : ((List.range g.length).map fun i => SV.r ((h ++ [some (AO.lst (refs h.length (dI g).length))]).length + i)) = refs h.length (dI g).length := by
    unfold refs
    rw [List.length_map]
    apply List.map_congr_left
    intro i _
    rw [List.length_append, List.length_singleton]
  rw [e3] at this
  rw [this]
  rfl
theorem reset_same {s : SV} {as bs : List SV} : reset (s :: as) (s :: bs) = s :: reset as bs := by
  conv => lhs; unfold reset
  cases s <;> rfl
structure Sq (n : Nat) (g : List (List Int)) : Prop where
  len : g.length = n
  row : ∀ r ∈ g, r.length = n
  nn : ∀ r ∈ g, ∀ e ∈ r, 0 ≤ e
def gsum (g : List (List Int)) : Int := (g.map List.sum).sum
theorem Sq.get {n : Nat} {g : List (List Int)} (s : Sq n g) {i : Nat} (h : i < n) : ∃ r, g[i]? = some r ∧ r ∈ g ∧ r.length = n := by
  have hi : i < g.length := by rw [s.len]; exact h
  exact ⟨g[i], List.getElem?_eq_getElem hi, List.getElem_mem hi, s.row _ (List.getElem_mem hi)⟩
theorem own_g0 {g : List (List SV)} {t : AH} : ownL (OG 0 g ++ t) 0 = some (refs 0 g.length) := (rfl)
theorem own_g1 {g : List (List SV)} : ownL (OG 0 g) 0 = some (refs 0 g.length) := (rfl)
theorem og_at {n : Nat} {i : Int} (h0 : 0 ≤ i) (h1 : i < n) : atI (refs 0 n) i = some (.r (1 + i.toNat)) := by
  rw [atI_0 h0, refs_get (by omega), Nat.zero_add]
theorem lst_d {h : AH} {ds : List PyData} : lstOf h (.d (.list ds)) = some (ds.map SV.d) := (rfl)
theorem shh_ds {L : Nat} {ds : List PyData} : shh L [some (.lst (ds.map SV.d))] = [some (.lst (ds.map SV.d))] := by
  unfold shh
  show [some (AO.lst ((ds.map SV.d).map (shv L)))] = _
  rw [List.map_map]
  rfl
theorem rb_g0 {g : List (List Int)} {t : AH} : rb (OG 0 (dI g) ++ t) 9 (.r 0) = some (eG g) := by
  have := rb_og (h := []) (L := 0) rfl (g := g) (t := t) (k := 7)
  exact this
theorem rb_g1 {g : List (List Int)} : rb (OG 0 (dI g)) 9 (.r 0) = some (eG g) := by
  have := rb_g0 (g := g) (t := [])
  rw [List.append_nil] at this
  exact this
theorem ty_int {h : AH} {i : Int} : tyOf h (.d (.int i)) = some "int" := (rfl)
theorem ty_bool {h : AH} {i : Bool} : tyOf h (.d (.bool i)) = some "bool" := (rfl)
theorem ty_tup {h : AH} {i : List PyData} : tyOf h (.d (.tuple i)) = some "tuple" := (rfl)
theorem ty_list {h : AH} {i : List PyData} : tyOf h (.d (.list i)) = some "list" := (rfl)
theorem ty_none {h : AH} : tyOf h (.d .none) = some "NoneType" := (rfl)
theorem ty_vtup {h : AH} {i : List PyData} : tyOf h (.vw (.tuple i)) = some "tuple" := (rfl)
theorem ty_vlist {h : AH} {i : List PyData} : tyOf h (.vw (.list i)) = some "list" := (rfl)
theorem is_ii : isTy "int" "int" = some true := by decide
theorem is_ib : isTy "int" "bool" = some false := by decide
theorem is_bb : isTy "bool" "bool" = some true := by decide
theorem is_bi : isTy "bool" "int" = some true := by decide
theorem is_ll : isTy "list" "list" = some true := by decide
theorem is_tt : isTy "tuple" "tuple" = some true := by decide
theorem is_lt : isTy "list" "tuple" = some false := by decide
theorem is_tl : isTy "tuple" "list" = some false := by decide
end Zx
namespace Zx
open PySem PySem.Spec L2
/-- a class over ValueError without an __init__ of its own -/
structure ExO (K : PySem.W.Frag) (mg : Str → Option Value) (n : Str) (C : Addr) : Prop where
  g : mg n = some (.ref C)
  x : PySem.W.excIn K C [.type "ValueError", .type "Exception", .type "BaseException", .type "object"] "ValueError.__new__" = true
  k : PySem.W.keepIn K (.ref C) = true
  b : PySem.W.subIn K (.ref C) (.type "BaseException") = some true
  t : PySem.W.typeIn K (.ref C) = some (.type "type")
theorem ss_raiseO {X : Cx} {W : WX} {cl m : Str} {j : Nat} {p p2 pos pos' : Pos} (hc : X.calm = true) (tk : L2N.Takes X W) (o : ∃ C, ExO X.K X.mg cl C) (hg : Gl X cl) (hdb : (cl == ("__debug__" : Str)) = false := by decide) : SS X W (.Raise (some (.Call (.Name cl p) [.Constant (.str m) j p2] [] pos')) none pos) (sRaise cl) := by
  obtain ⟨C, o⟩ := o
  exact ss_raise hc tk o.g (L2N.pmk_own PySem.F.excBase_ValueError o.x o.g o.k (raises_own o.b o.t) hg hdb)
end Zx
namespace Zx
open PySem PySem.Spec L2
def noEx : SV → Bool
  | .ex _ => false
  | _ => true
def noExO : Option AO → Bool
  | some (.lst xs) => xs.all noEx
  | some (.dct kvs) => (kvs.map Prod.snd).all noEx
  | some (.tup xs) => xs.all noEx
  | none => true
def ended (i : Nat) (o : O) : O := match o with
  | .nx sl h => if ((sl.set i .un).all noEx && h.all noExO) = true then .nx (sl.set i .un) h else .st
  | .bk sl h => if ((sl.set i .un).all noEx && h.all noExO) = true then .bk (sl.set i .un) h else .st
  | .ct sl h => if ((sl.set i .un).all noEx && h.all noExO) = true then .ct (sl.set i .un) h else .st
  | .rt s h => if (noEx s && h.all noExO) = true then .rt s h else .st
  | _ => .st
def sTryAs (i : Nat) (k : Str → Option Bool) (fb : FS) (fh : Str → FS) : FS := fun sl h => match fb sl h with
  | .rz c sl1 h1 => match k c with
    | some true => ended i (fh c (sl1.set i (.ex c)) h1)
    | some false => .rz c sl1 h1
    | none => .st
  | o => o
section
variable {X : Cx} {x n : Str} {cv : Value} {i : Nat} {body suite : List Stmt} {b₀ : Stmt} {np pos pos' : Pos} {fb : FS} {fh : Str → FS} {Wout : WX} {k : Str → Option Bool}
def endedO (o : O) : O := match o with
  | .nx sl h => if (sl.all noEx && h.all noExO) = true then .nx sl h else .st
  | .bk sl h => if (sl.all noEx && h.all noExO) = true then .bk sl h else .st
  | .ct sl h => if (sl.all noEx && h.all noExO) = true then .ct sl h else .st
  | .rt s h => if (noEx s && h.all noExO) = true then .rt s h else .st
  | _ => .st
def sTryO (k : Str → Option Bool) (fb : FS) (fh : Str → FS) : FS := fun sl h => match fb sl h with
  | .rz c sl1 h1 => match k c with
    | some true => endedO (fh c sl1 h1)
    | some false => .rz c sl1 h1
    | none => .st
  | o => o
end
def lk (c : Str) : List (Str × Bool) → Option Bool
  | [] => none
  | (n, b) :: r => if c = n then some b else lk c r
theorem kit_ref {K : PySem.W.Frag} {D C : Addr} {b : Bool} (hd : PySem.W.hasDictIn K C = true) (ht : PySem.W.typeIn K (.ref C) = some (.type "type")) (h : PySem.W.subIn K (.ref D) (.ref C) = some b) (hs : PySem.W.subIn K (.ref C) (.ref C) = some true) : PySem.W.kitOne K (.ref D) (.ref C) = some b := by
  unfold PySem.W.kitOne
  split
  · rename_i z
    have e : D = C := Value.ref.inj (beq_iff_eq.mp z)
    subst e
    rw [hs] at h
    exact h
  · unfold PySem.W.kitCls
    dsimp only
    obtain ⟨cd, hc, _⟩ := PySem.W.any_some hd
    rw [hc, ht]
    exact h
/-- a class of the program beside another: what an error of the one answers at the other -/
structure ExQ (K : PySem.W.Frag) (mg : Str → Option Value) (n y : Str) (b : Bool) : Prop where
  ex : ∃ D C, mg n = some (.ref D) ∧ mg y = some (.ref C) ∧ PySem.W.subIn K (.ref D) (.ref C) = some b ∧ PySem.W.hasDictIn K C = true ∧ PySem.W.typeIn K (.ref C) = some (.type "type") ∧ PySem.W.subIn K (.ref C) (.type "BaseException") = some true ∧ PySem.W.subIn K (.ref C) (.ref C) = some true
theorem ExQ.lk {K : PySem.W.Frag} {mg : Str → Option Value} {n y : Str} {b : Bool} (q : ExQ K mg n y b) {cv : Value} (hy : mg y = some cv) : ∀ u, mg n = some u → PySem.W.exmOne K u cv = some b ∧ PySem.W.kitOne K u cv = some b := by
  intro u hu
  obtain ⟨D, C, h1, h2, h3, h4, h5, h6, h7⟩ := q.ex
  cases h1.symm.trans hu
  cases h2.symm.trans hy
  exact ⟨PySem.W.exm_ref h6 h4 h5 h3, kit_ref h4 h5 h3 h7⟩
def fExI (ob : Option Bool) (fa : FE) : FE := fun sl h => (fa sl h).bind fun s h1 => match s with
  | .ex _ => match ob with
    | some b => .ok (.d (.bool b)) h1
    | none => .st
  | _ => .st
section
variable {X : Cx} {W : WX} {e : Expr} {fe : FE} {a D : Addr} {oe : Obj} {pn : List (Addr × Obj)} {y : Str} {p p2 pos : Pos} {ob : Option Bool} {cv : V} {cvv : Value}
end
def lkAny : List (Option Bool) → Option Bool
  | [] => some false
  | some true :: _ => some true
  | some false :: r => lkAny r
  | none :: _ => none
section
variable {X : Cx} {W : WX} {e : Expr} {es : List Expr} {fe : FE} {a D : Addr} {oe : Obj} {pn : List (Addr × Obj)} {p p2 pos : Pos} {obs : List (Option Bool)} {cs : List V} {us : List Value} {x1 : Nat}
end
end Zx
namespace Zx
open PySem PySem.Spec L2
def keyOf : SV → Option Key
  | .d (.int i) => some (.inl i)
  | .d (.str x) => some (.inr x)
  | _ => none
theorem keyOf_ok {en : En} {w : Wd} {s : SV} {v : V} {k : Key} (r : RS en w v s) (e : keyOf s = some k) : v = kV k := by
  unfold keyOf at e
  split at e
  · cases e; cases RS.int r; rfl
  · cases e; cases RS.str r; rfl
  · cases e
def valS : List (Key × SV) → Key → Option SV
  | [], _ => none
  | p :: r, k => if p.1 = k then some p.2 else valS r k
def setS : List (Key × SV) → Key → SV → List (Key × SV)
  | [], _, _ => []
  | p :: r, k, s => (if p.1 = k then (p.1, s) else p) :: setS r k s
def putS (kvs : List (Key × SV)) (k : Key) (s : SV) : List (Key × SV) := match valS kvs k with
  | some _ => setS kvs k s
  | none => kvs ++ [(k, s)]
def DR (en : En) (w : Wd) (kws : List (Key × V)) (kvs : List (Key × SV)) : Prop := kws.map Prod.fst = kvs.map Prod.fst ∧ RSL en w (kws.map Prod.snd) (kvs.map Prod.snd)
theorem DR.cons {en : En} {w : Wd} {p : Key × SV} {r : List (Key × SV)} {kws : List (Key × V)} (d : DR en w kws (p :: r)) : ∃ v q, kws = (p.1, v) :: q ∧ RS en w v p.2 ∧ DR en w q r := by
  obtain ⟨e, rl⟩ := d
  cases kws with
  | nil => cases e
  | cons z q =>
    rw [List.map_cons, List.map_cons] at e
    have e1 := (List.cons.inj e).1
    have e2 := (List.cons.inj e).2
    rw [List.map_cons, List.map_cons] at rl
    obtain ⟨v, vs, hv, a, b⟩ := rl
    have h1 := (List.cons.inj hv).1
    have h2 := (List.cons.inj hv).2
    obtain ⟨z1, z2⟩ := z
    dsimp only at e1 h1
    subst e1 h1
    rw [← h2] at b
    exact ⟨z2, q, rfl, a, e2, b⟩
theorem DR.mk {en : En} {w : Wd} {k : Key} {v : V} {s : SV} {q : List (Key × V)} {r : List (Key × SV)} (a : RS en w v s) (d : DR en w q r) : DR en w ((k, v) :: q) ((k, s) :: r) :=
  ⟨by rw [List.map_cons, List.map_cons, d.1], v, q.map Prod.snd, rfl, a, d.2⟩
theorem DR.nil {en : En} {w : Wd} {kws : List (Key × V)} (d : DR en w kws []) : kws = [] := by
  have := d.1
  cases kws with
  | nil => rfl
  | cons z q => cases this
theorem DR.len {en : En} {w : Wd} {kws : List (Key × V)} {kvs : List (Key × SV)} (d : DR en w kws kvs) : kws.length = kvs.length := by
  have := congrArg List.length d.1
  rw [List.length_map, List.length_map] at this
  exact this
theorem DR.val {en : En} {w : Wd} : ∀ {kvs : List (Key × SV)} {kws : List (Key × V)} (k : Key), DR en w kws kvs → (valV kws k = none ∧ valS kvs k = none) ∨ ∃ v s, valV kws k = some v ∧ valS kvs k = some s ∧ RS en w v s
  | [], kws, k, d => by rw [d.nil]; exact .inl ⟨rfl, rfl⟩
  | p :: r, kws, k, d => by
    obtain ⟨v, q, rfl, a, d2⟩ := d.cons
    unfold valS
    by_cases h : p.1 = k
    · rw [valV_pos h, if_pos h]
      exact .inr ⟨v, p.2, rfl, rfl, a⟩
    · rw [valV_neg h, if_neg h]
      exact DR.val k d2
theorem DR.set {en : En} {w : Wd} {v : V} {s : SV} (a : RS en w v s) : ∀ {kvs : List (Key × SV)} {kws : List (Key × V)} (k : Key), DR en w kws kvs → DR en w (kws.map (fun kv => if kv.1 = k then (kv.1, v) else kv)) (setS kvs k s)
  | [], kws, k, d => by rw [d.nil]; exact ⟨rfl, rfl⟩
  | p :: r, kws, k, d => by
    obtain ⟨u, q, rfl, b, d2⟩ := d.cons
    unfold setS
    rw [List.map_cons]
    by_cases h : p.1 = k
    · rw [if_pos h, if_pos h]
      exact DR.mk a (DR.set a k d2)
    · rw [if_neg h, if_neg h]
      exact DR.mk b (DR.set a k d2)
theorem DR.put {en : En} {w : Wd} {v : V} {s : SV} (a : RS en w v s) {kvs : List (Key × SV)} {kws : List (Key × V)} (k : Key) (d : DR en w kws kvs) : DR en w (putK kws k v) (putS kvs k s) := by
  unfold putK putS
  rw [valV_any]
  rcases DR.val k d with ⟨e1, e2⟩ | ⟨x, y, e1, e2, _⟩
  · rw [e1, e2]
    refine ⟨?_, ?_⟩
    · show (kws ++ [(k, v)]).map Prod.fst = _
      rw [List.map_append, List.map_append, d.1]; rfl
    · show RSL en w ((kws ++ [(k, v)]).map Prod.snd) _
      rw [List.map_append, List.map_append]
      exact RSL.app d.2 ⟨v, [], rfl, a, rfl⟩
  · rw [e1, e2]
    exact DR.set a k d
def dctOf (h : AH) : SV → Option (List (Key × SV))
  | .r n => match h[n]? with
    | some (some (.dct kvs)) => some kvs
    | _ => none
  | _ => none
theorem dct_ok {en : En} {w : Wd} {H : Hp} {h : AH} (S : SimH en w H h) {s : SV} {v : V} {kvs : List (Key × SV)} (r : RS en w v s) (e : dctOf h s = some kvs) : ∃ n a kws, s = .r n ∧ h[n]? = some (some (.dct kvs)) ∧ w.rho[n]? = some a ∧ v = .ref a ∧ H a = some (.dK kws) ∧ DR en w kws kvs := by
  unfold dctOf at e
  split at e
  · rename_i n
    split at e
    · rename_i kvs' hx
      cases e
      obtain ⟨a, e1, rfl⟩ := r
      obtain ⟨a', e2, ⟨kws, hv, ek, rl⟩, _, _⟩ := S.live n _ hx
      have ea : a' = a := Option.some.inj (e2.symm.trans e1)
      subst ea
      exact ⟨n, a', kws, rfl, hx, e1, rfl, hv, ek, rl⟩
    · cases e
  · cases e
theorem RS_mkv {en : En} {w : Wd} {H : Hp} {h : AH} (S : SimH en w H h) {v : V} {d : PyData} (r : Rp en.K en.G v d) : RS en w v (mkv d) := by
  have := RSL.ofVw S (ds := [d]) (vs := [v]) (by unfold RpL; exact ⟨v, [], rfl, r, by unfold RpL; rfl⟩)
  obtain ⟨x, r', e, a, _⟩ := this
  cases e
  exact a
def toKS (f : PyData → SV) : List (PyData × PyData) → Option (List (Key × SV))
  | [] => some []
  | (k, d) :: r => match k, toKS f r with
    | .none, q => q
    | .int i, some q => some ((.inl i, f d) :: q)
    | .str x, some q => some ((.inr x, f d) :: q)
    | _, _ => none
theorem toKS_ok {en : En} {w : Wd} {F : Hp} {f : PyData → SV} (hf : ∀ v d, Rp en.K F v d → RS en w v (f d)) : ∀ {kvs : List (PyData × PyData)} {kws : List (Key × V)} {ps : List (Key × SV)}, RpK en.K F kws kvs → toKS f kvs = some ps → DR en w kws ps
  | [], kws, ps, r, e => by
    unfold RpK at r
    unfold toKS at e
    cases e
    subst r
    exact ⟨rfl, rfl⟩
  | (k, d) :: q, kws, ps, r, e => by
    unfold RpK at r
    unfold toKS at e
    split at e
    · exact toKS_ok hf r e
    · rename_i i q' hq
      obtain ⟨⟨pk, pv⟩, b, rfl, r1, r2, r3⟩ := r
      cases e
      unfold Rp at r1
      cases pk with
      | inl j => cases r1; exact DR.mk (hf _ _ r2) (toKS_ok hf r3 hq)
      | inr j => cases r1
    · rename_i x q' hq
      obtain ⟨⟨pk, pv⟩, b, rfl, r1, r2, r3⟩ := r
      cases e
      unfold Rp at r1
      cases pk with
      | inl j => cases r1
      | inr j => cases r1; exact DR.mk (hf _ _ r2) (toKS_ok hf r3 hq)
    · cases e
def dctR (h : AH) : SV → Option (List (Key × SV))
  | .d (.dict kvs) => toKS SV.d kvs
  | .vw (.dict kvs) => toKS mkv kvs
  | s => dctOf h s
theorem dctR_ok {en : En} {w : Wd} {H : Hp} {h : AH} (S : SimH en w H h) {s : SV} {v : V} {kvs : List (Key × SV)} (r : RS en w v s) (e : dctR h s = some kvs) : ∃ a kws, v = .ref a ∧ Rd H a (.dK kws) ∧ DR en w kws kvs := by
  unfold dctR at e
  split at e
  · rename_i ps
    have r : Rp en.K w.F v (.dict ps) := r
    unfold Rp at r
    obtain ⟨a, kws, rfl, hv, rk⟩ := r
    exact ⟨a, kws, rfl, (hv.mono S.fh).rd, toKS_ok (F := w.F) (f := SV.d) (fun _ _ z => (show RS en w _ (.d _) from z)) rk e⟩
  · rename_i ps
    have r : Rp en.K en.G v (.dict ps) := r
    unfold Rp at r
    obtain ⟨a, kws, rfl, hv, rk⟩ := r
    exact ⟨a, kws, rfl, (hv.mono S.gh).rd, toKS_ok (F := en.G) (f := mkv) (fun _ _ z => RS_mkv S z) rk e⟩
  · obtain ⟨n, a, kws, rfl, hx, ha, rfl, hH, d⟩ := dct_ok S r e
    exact ⟨a, kws, rfl, .inl hH, d⟩
def fDct : FE := fun _ h => .ok (.r h.length) (h ++ [some (.dct [])])
section
variable {X : Cx} {W : WX} {a b i o e : Expr} {fa fb fi fo fe : FE} {pos tpos : Pos}
def dOne (n : Nat) (k v : SV) (h : AH) : R SV := match keyOf k, h[n]? with
  | some kk, some (some (.dct [])) => .ok (.r n) (h.set n (some (.dct [(kk, v)])))
  | _, _ => .st
def fDctO (fa fb : FE) : FE := fun sl h => (fa sl (h ++ [some (.dct [])])).bind fun k h1 => (fb sl h1).bind fun v h2 => dOne h.length k v h2
def dIn (neg : Bool) (y x : SV) (h : AH) : R SV := match keyOf y, dctR h x with
  | some k, some kvs => .ok (.d (.bool (neg ^^ (valS kvs k).isSome))) h
  | _, _ => .st
def fDIn (neg : Bool) (fa fb : FE) : FE := fun sl h => (fa sl h).bind fun y h1 => (fb sl h1).bind fun x h2 => dIn neg y x h2
theorem fTst_po {en : En} {w : Wd} {σ : St} {sl : List SV} {h : AH} {f : FE} {Q : Bool → Hp → Prop} (P : Po repB X W en w σ sl (fTst f sl h) Q) : Po RS X W en w σ sl (f sl h) (fun x H1 => ∃ c, x = .bl c ∧ Q c H1) := by
  refine Po.bind P fun s h1 v w1 H1 l1 S1 r1 P1 => ?_
  split at P1
  · rename_i k
    have r1 : Rp en.K w1.F v (.bool k) := r1
    unfold Rp at r1
    exact ⟨k, r1, P1 k w1 H1 (Wd.le.refl _) S1 rfl⟩
  · exact False.elim P1
def dGet (x y : SV) (h : AH) : R SV := match keyOf y, dctR h x with
  | some k, some kvs => match valS kvs k with
    | some s => .ok s h
    | none => .st
  | _, _ => .st
def fDGet (fo fi : FE) : FE := fun sl h => (fo sl h).bind fun x h1 => (fi sl h1).bind fun y h2 => dGet x y h2
def putD (x y v : SV) (h : AH) : Option AH := match keyOf y, dctOf h x, x with
  | some k, some kvs, .r n => if kvs.length < 1000 then some (h.set n (some (.dct (putS kvs k v)))) else none
  | _, _, _ => none
def sDStore (fo fi fe : FE) : FS := fun sl h => (fe sl h).thn sl fun v h1 => (fo sl h1).thn sl fun s h2 => (fi sl h2).thn sl fun t h3 => match putD s t v h3 with
  | some h4 => .nx sl h4
  | none => .st
end
def gLenD : List SV → AH → R SV := fun ss h => match ss with
  | [s] => match dctR h s with
    | some kvs => .ok (.d (.int kvs.length)) h
    | none => .st
  | _ => .st
end Zx
namespace Zx
open PySem PySem.Spec L2
end Zx
namespace Zx
open PySem PySem.Spec L2
def clnS : SV → SV
  | .ex _ => .un
  | s => s
theorem clnS_ok {s : SV} (c : noEx s = true) : clnS s = s := by cases s <;> first | rfl | cases c
def c1 (q : Bool) (s : SV) : SV := if q = true then clnS s else s
section
variable {X : Cx} {x n : Str} {cv : Value} {i : Nat} {body suite : List Stmt} {b₀ : Stmt} {np pos pos' : Pos} {fb : FS} {fh : Str → FS} {Wout : WX} {k : Str → Option Bool}
end
end Zx
namespace RT
open PySem PySem.Spec PyProof.Rows
section
variable {prog : Program} {w : World} {A : Around} {E : Value → Shared → Prop} {s : Shared}
end
section
open L2
variable {X : Cx}
end
end RT
namespace Zx
open PySem PySem.Spec L2 RT
def gLRev : SV → AH → R SV := fun s h => match lstOf h s with
  | some xs => .ok (.r h.length) (h ++ [some (.lst xs.reverse)])
  | none => .st
theorem RSL.append {en : En} {w : Wd} : ∀ {ss : List SV} {vs : List V} {tt : List SV} {us : List V}, RSL en w vs ss → RSL en w us tt → RSL en w (vs ++ us) (ss ++ tt)
  | [], vs, tt, us, r, q => by
    rw [show vs = [] from r]; exact q
  | s :: ss, vs, tt, us, ⟨x, r, e, a, b⟩, q => by
    subst e
    exact ⟨x, r ++ us, rfl, a, RSL.append b q⟩
theorem RSL.reverse {en : En} {w : Wd} : ∀ {ss : List SV} {vs : List V}, RSL en w vs ss → RSL en w vs.reverse ss.reverse
  | [], vs, r => by rw [show vs = [] from r]; exact rfl
  | s :: ss, vs, ⟨x, r, e, a, b⟩ => by
    subst e
    rw [List.reverse_cons, List.reverse_cons]
    exact RSL.append (RSL.reverse b) ⟨x, [], rfl, a, rfl⟩
section
variable {X : Cx} {W : WX} {e : Expr} {fa : FE}
end
end Zx
namespace Zx
open PySem PySem.Spec L2
section
variable {X : Cx} {W : WX} {es : List Expr} {fa : FA} {pos : Pos}
def allI (ss : List SV) : Option (List PyData) := match allD ss with
  | some ds => if immL ds = true then some ds else none
  | none => none
def fTupO (fa : FA) : FE := fun sl h => (fa sl h).bind fun ss h1 => if ss.length ≤ 1000 then match allI ss with
    | some ds => .ok (.d (.tuple ds)) h1
    | none => .ok (.r h1.length) (h1 ++ [some (.tup ss)])
  else .st
theorem se_tupO {x1} (ha : SA X W es fa) : SE X W (.Tuple es x1 pos) (fTupO fa) := PE.imp (pe_tup ha) (by
  rintro σ H Q ⟨en, w, sl, h, eK, S, P⟩
  refine ⟨en, w, sl, h, eK, S, Po.bind P fun ss h1 vs w1 H1 l1 S1 r1 P1 => ?_⟩
  split at P1
  · rename_i hl
    refine ⟨by rw [RSL.length r1]; exact Nat.le_trans hl line1000, fun p np => ?_⟩
    split at P1
    · rename_i ds hd
      have hd2 : allD ss = some ds := by
        unfold allI at hd
        split at hd
        · rename_i d2 hd2
          split at hd
          · cases hd; exact hd2
          · cases hd
        · cases hd
      have rl := allD_ok r1 hd2
      have l2 : w1.le (w1.fz p (.tup vs)) := le_fz (S1.F_none np)
      refine P1 (.ref p) (w1.fz p (.tup vs)) _ l2 (S1.newF np (fun _ _ z => by cases z)) ?_
      show Rp en.K (upd w1.F p (.tup vs)) (.ref p) (.tuple ds)
      unfold Rp
      exact ⟨p, vs, rfl, .inl (.inl upd_same), RpL.mono l2.2 ds vs rl⟩
    refine P1 (.ref p) ((w1.fz p (.tup vs)).ow p) _ ((le_fz (S1.F_none np)).trans le_ow) (S1.newT np r1) ⟨p, ?_, rfl⟩
    show (w1.rho ++ [p])[h1.length]? = some p
    rw [← S1.len, List.getElem?_append_right (Nat.le_refl _)]
    simp
  · exact False.elim P1)
end
end Zx
namespace Zx
open PySem PySem.Spec L2
open PyProof.Rows (envOfC)
def spR (K : PySem.W.Frag) (mg : Str → Option Value) (np N : Nat) (g : FS) : Sp := fun vs H Q E => ∃ en w h ss, en.K = K ∧ en.ex = none ∧ SimH en w H h ∧ RSL en w vs ss ∧ ss.length = np ∧ match g (ss ++ List.replicate (N - ss.length) .un) h with
  | .rt s h' => ∀ v w' H', w.le w' → SimH en w' H' h' → RS en w' v s → Q v H'
  | .nx _ h' => ∀ w' H', w.le w' → SimH en w' H' h' → Q .non H'
  | .rz c _ h' => ∀ w' H', w.le w' → SimH en w' H' h' → ∀ u, mg c = some u → E u none H'
  | _ => False
section
variable {P : Program} {w : World} {K : PySem.W.Frag} {mg : Str → Option Value} {base : Heap}
end
structure CalR (P : Program) (w : World) (K : PySem.W.Frag) (mg : Str → Option Value) (base : Heap) (x : Str) (k : Nat) (np N : Nat) (g : FS) : Prop where
  ex : ∃ f fd ps, FnOk P w K mg base (L2N.CX P w) k f fd ps (spR K mg np N g) ∧ mg x = some (.ref f) ∧ PySem.W.keepIn K (.ref f) = true ∧ Binds K fd ps []
section
variable {X : Cx} {W : WX} {a : Expr} {es : List Expr} {fa : FA} {pos p : Pos} {x : Str} {k : Nat} {np N : Nat} {g : FS}
end
end Zx
namespace Zx
open PySem PySem.Spec L2
open PyProof.Rows (floordiv_int mod_int')
section
variable {X : Cx} {W : WX} {o i o2 j : Expr} {es : List Expr} {fo fi fo2 fj : FE} {fa : FA} {pos tpos tpos2 p1 p2 : Pos} {k1 k2}
end
def divF (_ j : Int) : Bool := decide (j ≠ 0 ∧ j.natAbs.log2 < 9000)
def modF (_ j : Int) : Bool := decide (j ≠ 0)
end Zx
namespace Zx
open PySem PySem.Spec PyProof.Rows L2
section
variable {X : Cx} {W : WX} {e : Expr} {fa : FE}
end
end Zx
namespace Zx
open PySem PySem.Spec PyProof.Rows L2
structure HRoom (A : Around) : Prop where
  units : A.units + 64 < cLine
structure FnHE (P : Program) (w : World) (K : PySem.W.Frag) (mg : Str → Option Value) (base : Heap) (k : Nat) (f : Addr) (fd : FuncData) (p0 : Str) (T : Str → Option Bool) (ψ : Str → Option PyData) : Prop where
  go : ∀ (A : Around) (outer : List Env) (s : Shared) (H : Hp) (args : Args) (us : List Value) (Q : VK) (E : XK) (p : Addr × Obj) (cls : Value) (c : Str) (F : Hp) (x : PyData), L2H.RoomH k A → L2H.Hot1 A p → L2H.PinOk outer H s p → Env0 P w K mg base A outer s H →
    BindsTo s fd args ([p0].zip us) → Vals [.ref p.1] us → L2N.Zn cls none p.2 → mg c = some cls → T c = some true → Same F H → TupIn H F → ψ c = some x →
    (∀ v w2 H2, SimH ⟨K, H, F, none⟩ w2 H2 [] → RS ⟨K, H, F, none⟩ w2 v (.d x) → Q v H2) → codeAny (model P w) A (.call (.ref f) args) (CR (L2N.CX P w) outer P w H s Q E) s
section
variable {P : Program} {w : World} {K : PySem.W.Frag} {mg : Str → Option Value} {base : Heap}
end
/-- what is known of such a def where it is called -/
structure CalH (P : Program) (w : World) (K : PySem.W.Frag) (mg : Str → Option Value) (base : Heap) (x : Str) (k : Nat) (T : Str → Option Bool) (ψ : Str → Option PyData) : Prop where
  ex : ∃ f fd p0, FnHE P w K mg base k f fd p0 T ψ ∧ mg x = some (.ref f) ∧ PySem.W.keepIn K (.ref f) = true ∧ Binds K fd [p0] []
def fHot (ob : Option PyData) (fa : FE) : FE := fun sl h => (fa sl h).bind fun s h1 => match s with
  | .ex _ => match ob with
    | some x => .ok (.d x) h1
    | none => .st
  | _ => .st
theorem RS.ofD {en en2 : En} {rho : List Addr} {w2 : Wd} {v : V} {x : PyData} (hk : en.K = en2.K) (r : RS en w2 v (.d x)) : RS en2 ⟨rho, w2.F⟩ v (.d x) := by
  have r : Rp en.K w2.F v x := r
  show Rp en2.K w2.F v x
  rw [← hk]
  exact r
section
variable {X : Cx} {W : WX} {e : Expr} {fe : FE} {a : Addr} {oe : Obj} {pn : List (Addr × Obj)} {pos p : Pos} {x c : Str} {cls : Value} {k : Nat} {T : Str → Option Bool} {ψ : Str → Option PyData}
end
end Zx
namespace Zx
open PySem PySem.Spec L2
theorem se_gstr {X : Cx} {W : WX} {x z : Str} {p : Pos} (hg : Gl X x) (hm : ∃ u, X.mg x = some u ∧ RelV (.str z) u) (hd : (x == ("__debug__" : Str)) = false := by decide) : SE X W (.Name x p) (fC (.str z)) := by
  obtain ⟨u, h1, h2⟩ := hm
  exact se_c (pe_glob hg h1 h2 hd) fun F => by unfold Rp; rfl
def subS (a b : Str) : Bool := !(Builtin.Str.occurrences b a 0 b.length 1).isEmpty
def gInS (neg : Bool) : SV → SV → AH → R SV := fun s t h => match s, t with
  | .d (.str a), .d (.str b) => .ok (.d (.bool (neg ^^ subS a b))) h
  | _, _ => .st
theorem os_notInS {X : Cx} : OpS X (fun x y H Q => ∃ i j, x = .str i ∧ y = .str j ∧ Q (.bl (!(!(Builtin.Str.occurrences j i 0 j.length 1).isEmpty))) H) (gInS true) := by
  intro W en w σ H sl h x y s t Q eK S r1 r2 P
  unfold gInS at P
  split at P
  · rw [Bool.true_xor] at P
    exact ⟨_, _, RS.str r1, RS.str r2, P.bool S⟩
  · exact False.elim P
def repS (z : Str) (n : Int) : Str := if n < 1 then Str.empty else ⟨(List.replicate n.toNat z.cps).foldl (· ++ ·) #[]⟩
def repOk (z : Str) (n : Int) : Bool := decide (-1000 ≤ n) && decide (n ≤ 1000) && decide (z.length = 1)
def fSliceT (fe : FE) (fl fh : List SV → AH → R (Option Int)) : FE := fun sl h => (fe sl h).bind fun s h1 => (fl sl h1).bind fun lo h2 => (fh sl h2).bind fun hi h3 => match s with
  | .d (.str z) => if z.length ≤ sizeLine then .ok (.d (.str (cutS z lo hi))) h3 else .st
  | _ => .st
section
variable {X : Cx} {W : WX} {e tg : Expr} {fe : FE} {p2 pos : Pos}
theorem se_sliceT {lo hi : Option Expr} {fl fh : List SV → AH → R (Option Int)} (he : SE X W e fe) (hl : SO X W lo fl) (hu : SO X W hi fh) : SE X W (.Subscript e (.Slice lo hi none p2) pos) (fSliceT fe fl fh) := PE.imp (pe_slice sl_str he hl hu) (by
  rintro σ H Q ⟨en, w, sl, h, eK, S, P⟩
  refine ⟨en, w, sl, h, eK, S, Po.bind P fun s h1 v w1 H1 l1 S1 r1 P1 => ?_⟩
  refine ⟨en, w1, sl, h1, eK, S1, Po.bind P1 fun lo h2 lo' w2 H2 l2 S2 r2 P2 => ?_⟩
  refine ⟨en, w2, sl, h2, eK, S2, Po.bind P2 fun hi h3 hi' w3 H3 l3 S3 r3 P3 => ?_⟩
  have r2 : lo' = lo := r2
  have r3 : hi' = hi := r3
  subst r2; subst r3
  split at P3
  · split at P3
    · rename_i hz
      exact ⟨_, RS.str r1, hz, P3.str S3⟩
    · exact False.elim P3
  · exact False.elim P3)
def strI (z : Str) : List It1 := z.cps.toList.map fun c => .one (.d (.str ⟨#[c]⟩))
def iStr (fa : FE) : List SV → AH → R Src := fun sl h => (fa sl h).bind fun s h1 => match s with
  | .d (.str z) => .ok (.cn (strI z)) h1
  | _ => .st
theorem its_ok {en : En} {w0 : Wd} {z : Str} : ItOk en w0 (Its z) (strI z) where
  goes := fun i σ w H sl h le S hi => by
    unfold strI at hi
    rw [List.length_map, Array.length_toList] at hi
    exact hi
  stop := fun σ w H sl h le S => by
    unfold strI
    rw [List.length_map, Array.length_toList]
    exact Nat.le_refl _
  yld := fun i σ w H sl h x H' it le S e y => by
    obtain ⟨rfl, c, hc, rfl⟩ := y
    unfold strI at e
    rw [List.getElem?_map, Array.getElem?_toList, hc] at e
    cases e
    exact ⟨w, Wd.le.refl _, S, by show Rp en.K w.F _ _; exact Rp.str⟩
theorem si_str (he : SE X W e fe) : SI X W tg e (iStr fe) := PI.imp (pi_str he) (by
  rintro σ H R ⟨en, w, sl, h, eK, S, P⟩
  refine ⟨en, w, sl, h, eK, S, Po.bind P fun s h1 v w1 H1 l1 S1 r1 P1 => ?_⟩
  split at P1
  · exact ⟨_, RS.str r1, P1 _ w1 H1 (Wd.le.refl _) S1 its_ok⟩
  · exact False.elim P1)
end
end Zx
namespace Zx
open PySem PySem.Spec L2
section
variable {prog : Program} {wd : World} {A : Around} {R : PySem.Result → Shared → Prop} {I : Addr} {fp wr : List Addr} {G : Array GenState → Array GenState → Prop} {n : Nat} {P : Nat → Value → Prop} {St : Nat → Shared → Prop}
end
section
variable {prog : Program} {wd : World} {A : Around} {E : Value → Shared → Prop} {s : Shared}
end
section
variable {X : Cx} {W : WX} {e ke : Expr} {fe : FE} {d : Int} {p pos kp : Pos}
end
def gIsB : SV → SV → AH → R SV := fun s t h => match s, t with
  | .d (.bool a), .d (.bool b) => .ok (.d (.bool (decide (a = b)))) h
  | _, _ => .st
end Zx
namespace Zx
open PySem PySem.Spec L2
structure Tot {α : Type} (lt : α → α → Bool) : Prop where
  irr : ∀ x, lt x x = false
  tr : ∀ x y z, lt x y = true → lt y z = true → lt x z = true
  tri : ∀ x y, lt x y = true ∨ x = y ∨ lt y x = true
def lexT {α : Type} [DecidableEq α] (lt : α → α → Bool) : List α → List α → Bool
  | [], [] => false
  | [], _ :: _ => true
  | _ :: _, [] => false
  | x :: xs, y :: ys => if x = y then lexT lt xs ys else lt x y
inductive Sc where
  | i (n : Int) | s (z : Str)
  deriving DecidableEq
def ltSc : Sc → Sc → Bool
  | .i a, .i b => decide (a < b)
  | .i _, .s _ => true
  | .s _, .i _ => false
  | .s a, .s b => decide (a.cps.toList < b.cps.toList)
abbrev ltK : List Sc → List Sc → Bool := lexT ltSc
def Sc.ty : Sc → Bool
  | .i _ => true
  | .s _ => false
def Sc.of : Sc → Value → Prop
  | .i n, v => ∃ t, v = .int n t
  | .s z, v => ∃ t, v = .str z t
section
variable {prog : Program} {w : World} {A : Around} {s : Shared} {Q : Bool → Shared → Prop}
end
def Sc.v : Sc → V
  | .i n => .int n
  | .s z => .str z
section
variable {prog : Program} {w : World} {A : Around} {s : Shared} {Q : Bool → Shared → Prop}
end
open Classical in
def scD : PyData → Option Sc
  | .int i => some (.i i)
  | .str z => some (.s z)
  | _ => none
def scsD : List PyData → Option (List Sc)
  | [] => some []
  | x :: r => match scD x, scsD r with
    | some c, some k => some (c :: k)
    | _, _ => none
def keyD : PyData → Option (Bool × List Sc)
  | .tuple xs => (scsD xs).map fun k => (true, k)
  | x => (scD x).map fun c => (false, [c])
def kfD (x : PyData) : List Sc := match keyD x with
  | some (_, k) => k
  | none => []
def patD (x : PyData) : Option (Bool × List Bool) := (keyD x).map fun p => (p.1, p.2.map Sc.ty)
def patOk : List PyData → Bool
  | [] => true
  | x :: r => match patD x with
    | some (tp, b :: P) => r.all fun y => decide (patD y = some (tp, b :: P))
    | _ => false
def leD (x y : PyData) : Bool := !(ltK (kfD y) (kfD x))
def sortD (ds : List PyData) : Option (List PyData) := if patOk ds = true then some (ds.mergeSort leD) else none
def wrapS (b : Bool) (x : PyData) : SV := if b = true then .vw x else .d x
end Zx
namespace Zx
open PySem PySem.Spec PyProof.Rows L2
section
variable {prog : Program} {w : World} {A : Around} {E : Value → Shared → Prop} {s : Shared}
end
end Zx
namespace Zx
open PySem PySem.Spec PyProof.Rows L2
end Zx
namespace Zx
open PySem PySem.Spec L2
end Zx
namespace Zx
open PySem PySem.Spec L2
end Zx
namespace Zx
open PySem PySem.Spec L2
def unl (ns : List Int) : List Int := ns.foldl (fun σ k => if σ.any (· == k) then σ else σ ++ [k]) []
section
variable {X : Cx}
def fLenSet (fa : FE) : FE := fun sl h => (fa sl h).bind fun s h1 => match lstInts h1 s with
  | some ns => if ns.length < 64 then .ok (.d (.int ((unl ns).length : Nat))) h1 else .st
  | none => .st
end
end Zx
namespace Zx
open PySem PySem.Spec L2
def TupC (K : PySem.W.Frag) (mg : Str → Option Value) (x : Str) (zs : List Str) : Prop := ∃ (a : Addr) (o : Obj) (its : Array Value) (n : Nat), mg x = some (.ref a) ∧ K.lookup a = some o ∧ o.cls = .type "tuple" ∧ o.data = .seq its n ∧ its.size ≤ sizeLine ∧ Vals (zs.map V.str) its.toList
theorem rpL_strs {K : PySem.W.Frag} {F : Hp} : ∀ zs : List Str, RpL K F (zs.map V.str) (zs.map PyData.str)
  | [] => by unfold RpL; rfl
  | z :: zs => by
    rw [List.map_cons, List.map_cons]
    unfold RpL
    exact ⟨_, _, rfl, by unfold Rp; rfl, rpL_strs zs⟩
theorem se_gtup {X : Cx} {W : WX} {x : Str} {zs : List Str} {p : Pos} (hg : Gl X x) (hm : TupC X.K X.mg x zs) (hd : (x == ("__debug__" : Str)) = false := by decide) : SE X W (.Name x p) (fC (.tuple (zs.map PyData.str))) := by
  obtain ⟨a, o, its, n, h1, h2, h3, h4, h5, h6⟩ := hm
  exact se_c (v := V.ref a) (pe_glob hg h1 rfl hd) fun F => by
    unfold Rp
    exact ⟨a, zs.map V.str, rfl, .inr ⟨o, its, n, h2, h3, h4, h5, h6⟩, rpL_strs zs⟩
end Zx
namespace Zx
open PySem PySem.Spec L2
def lstItems : SV → Option (List SV)
  | .d (.list ds) => some (ds.map SV.d)
  | .vw (.list ds) => some (ds.map mkv)
  | _ => none
def sSetL (is : List Nat) (f : FE) : FS := fun sl h => (f sl h).thn sl fun s h1 => match lstItems s with
  | some xs => match setAll is xs sl with
    | some sl' => .nx sl' h1
    | none => .st
  | none => .st
section
variable {X : Cx} {W : WX} {e tg : Expr} {fe : FE} {pos : Pos}
end
end Zx
namespace Zx
open PySem PySem.Spec L2
def fTxM (g : Str → SV → AH → R SV) (fo fe : FE) : FE := fun sl h => (fo sl h).bind fun s h1 => match s with
  | .d (.str a) => (fe sl h1).bind fun t h2 => g a t h2
  | _ => .st
def TxS (X : Cx) (r : V → List V → Hp → VK → Prop) (g : Str → SV → AH → R SV) : Prop := ∀ (W : WX) (en : En) (w : Wd) (σ : St) (H : Hp) (sl : List SV) (h : AH) (a : Str) (y : V) (t : SV) (Q : VK), en.ok X → Sim en w σ H sl h → RS en w y t → Po RS X W en w σ sl (g a t h) Q → r (.str a) [y] H Q
section
variable {X : Cx} {W : WX} {o e e2 : Expr} {fo fe : FE} {pos : Pos}
theorem tM1_ok {r : V → List V → Hp → VK → Prop} {g : Str → SV → AH → R SV} (ms : TxS X r g) {σ : St} {H : Hp} {Q : VK} (q : tE X W (fTxM g fo fe) σ H Q) : tM1 r (tE X W fo) (tE X W fe) σ H Q := by
  obtain ⟨en, w, sl, h, eK, S, P⟩ := q
  refine ⟨en, w, sl, h, eK, S, Po.bind P fun s h1 v w1 H1 l1 S1 r1 P1 => ?_⟩
  split at P1
  · have e1 := RS.str r1
    subst e1
    refine ⟨⟨_, rfl⟩, en, w1, sl, h1, eK, S1, Po.bind P1 fun t h2 y w2 H2 l2 S2 r2 P2 => ?_⟩
    exact ms W en w2 σ H2 sl h2 _ y t Q eK S2 r2 P2
  · exact False.elim P1
def gSw (a : Str) : SV → AH → R SV := fun t h => match t with
  | .d (.str b) => .ok (.d (.bool (Txt.startswith a b))) h
  | _ => .st
def gSplit (a : Str) : SV → AH → R SV := fun t h => match t with
  | .d (.str b) => if b.length ≠ 0 ∧ a.length < lim then .ok (.r h.length) (h ++ [some (.lst ((Txt.split a b).map fun z => .d (.str z)))]) else .st
  | _ => .st
def strsD : List PyData → Option (List Str)
  | [] => some []
  | .str z :: ds => (strsD ds).map fun zs => z :: zs
  | _ :: _ => none
theorem strsD_ok : ∀ {ds : List PyData} {ys : List Str}, strsD ds = some ys → ds = ys.map PyData.str
  | [], ys, e => by cases e; rfl
  | d :: ds, ys, e => by
    unfold strsD at e
    split at e
    · rename_i h; cases h
    · rename_i z ds' h
      cases h
      cases q : strsD ds with
      | none => rw [q] at e; cases e
      | some zs =>
        rw [q] at e
        cases e
        rw [strsD_ok q, List.map_cons]
    · cases e
theorem strsD_map : ∀ {ys : List Str}, strsD (ys.map PyData.str) = some ys
  | [] => rfl
  | y :: ys => by
    rw [List.map_cons]
    unfold strsD
    rw [strsD_map]
    rfl
def joinOk (a : Str) (ys : List Str) : Bool := decide ((ys.map (·.length)).sum + ys.length * a.length ≤ 16777216)
def gJoin (a : Str) : SV → AH → R SV := fun t h => match t with
  | .d (.list ds) => match strsD ds with
    | some ys => if joinOk a ys = true then .ok (.d (.str (Txt.join a ys))) h else .st
    | none => .st
  | _ => .st
theorem rpL_str : ∀ {K : PySem.W.Frag} {F : Hp} {ys : List Str} {vs : List V}, RpL K F vs (ys.map PyData.str) → vs = ys.map V.str
  | K, F, [], vs, h => by rw [List.map_nil] at h; unfold RpL at h; exact h
  | K, F, y :: ys, vs, h => by
    rw [List.map_cons] at h
    unfold RpL at h
    obtain ⟨x, r, rfl, h1, h2⟩ := h
    unfold Rp at h1
    rw [h1, rpL_str h2]
    rfl
theorem ts_sw : TxS X (fun x xs H Q => ∃ a b, x = .str a ∧ xs = [.str b] ∧ Q (.bl (Txt.startswith a b)) H) gSw := by
  intro W en w σ H sl h a y t Q eK S r P
  unfold gSw at P
  split at P
  · have e1 := RS.str r
    subst e1
    exact ⟨_, _, rfl, rfl, P.bool S⟩
  · exact False.elim P
theorem ts_split : TxS X (fun x xs H Q => ∃ a b, x = .str a ∧ xs = [.str b] ∧ (b.length == 0) = false ∧ a.length + 2 ≤ sizeLine ∧ rNewStrs (Txt.split a b) H Q) gSplit := by
  intro W en w σ H sl h a y t Q eK S r P
  unfold gSplit at P
  split at P
  · rename_i b
    have e1 := RS.str r
    subst e1
    split at P
    · rename_i c
      refine ⟨_, _, rfl, rfl, by simpa using c.1, by have := c.2; unfold lim at this; rw [sizeLine_eq]; omega, fun p nl => ?_⟩
      have rl : RSL en w ((Txt.split a b).map V.str) ((Txt.split a b).map fun z => SV.d (.str z)) := by
        have := RSL.ofRp (en := en) (w := w) (rpL_strs (K := en.K) (F := w.F) (Txt.split a b))
        rwa [List.map_map] at this
      exact P _ (w.ow p) _ le_ow (S.newO nl rl) S.toSimH.rs_new
    · exact False.elim P
  · exact False.elim P
theorem ts_join : TxS X (fun x xs H Q => ∃ a p, ∃ ys : List Str, x = .str a ∧ xs = [.ref p] ∧ (SqL X.K H p (ys.map V.str) ∨ SqT X.K H p (ys.map V.str)) ∧ (ys.map (·.length)).sum + ys.length * a.length ≤ 16777216 ∧ Q (.str (Txt.join a ys)) H) gJoin := by
  intro W en w σ H sl h a y t Q eK S r P
  unfold gJoin at P
  split at P
  · rename_i ds
    split at P
    · rename_i ys hy
      split at P
      · rename_i hz
        have e1 := strsD_ok hy
        subst e1
        have r : Rp en.K w.F y (.list _) := r
        unfold Rp at r
        obtain ⟨p, vs, rfl, q, l⟩ := r
        have e2 := rpL_str l
        subst e2
        exact ⟨a, p, ys, rfl, rfl, .inl (.inl (.inl (S.fh p _ q))), of_decide_eq_true hz, P.str S⟩
      · exact False.elim P
    · exact False.elim P
  · exact False.elim P
variable {apos : Pos}
theorem se_sw (ho : SE X W o fo) (he : SE X W e fe) (hs : starEach [e] X.env = [(false, eval e X.env)] := by rfl) (hbase : attributeBase o "startswith" X.env (eval o X.env) = eval o X.env := by rfl) (hline : (apos.endLine == pos.line) = true := by rfl) : SE X W (.Call (.Attribute o "startswith" apos) [e] [] pos) (fTxM gSw fo fe) :=
  PE.imp (pe_m1 F.slot_str_startswith F.type_str_startswith mt_startswith ho he hs hbase hline) fun _ _ _ => tM1_ok ts_sw
theorem se_split (ho : SE X W o fo) (he : SE X W e fe) (hs : starEach [e] X.env = [(false, eval e X.env)] := by rfl) (hbase : attributeBase o "split" X.env (eval o X.env) = eval o X.env := by rfl) (hline : (apos.endLine == pos.line) = true := by rfl) : SE X W (.Call (.Attribute o "split" apos) [e] [] pos) (fTxM gSplit fo fe) :=
  PE.imp (pe_split ho he hs hbase hline) fun _ _ _ => tM1_ok ts_split
theorem se_join (ho : SE X W o fo) (he : SE X W e fe) (hs : starEach [e] X.env = [(false, eval e X.env)] := by rfl) (hbase : attributeBase o "join" X.env (eval o X.env) = eval o X.env := by rfl) (hline : (apos.endLine == pos.line) = true := by rfl) : SE X W (.Call (.Attribute o "join" apos) [e] [] pos) (fTxM gJoin fo fe) :=
  PE.imp (pe_join ho he hs hbase hline) fun _ _ _ => tM1_ok ts_join
def gStrI : List SV → AH → R SV := fun ss h => match ss with
  | [.d (.int i)] => if i.natAbs.log2 < 1920 then .ok (.d (.str (toString i))) h else .st
  | _ => .st
def gIntS : List SV → AH → R SV := fun ss h => match ss with
  | [.d (.str a)] => match PySem.intText? a with
    | some n => if a.length ≤ 640 then .ok (.d (.int n)) h else .st
    | none => .st
  | _ => .st
theorem cs_strI : CallS X (fun xs H Q => ∃ i, xs = [.int i] ∧ i.natAbs.log2 < 1920 ∧ Q (.str (toString i)) H) gStrI := by
  intro W en w σ H sl h xs ss Q eK S r P
  unfold gStrI at P
  split at P
  · obtain ⟨v, rfl, r1⟩ := r.one
    have e1 := RS.int r1
    subst e1
    split at P
    · rename_i hz
      exact ⟨_, rfl, hz, P.str S⟩
    · exact False.elim P
  · exact False.elim P
theorem cs_intS : CallS X (fun xs H Q => ∃ a n, xs = [.str a] ∧ PySem.intText? a = some n ∧ a.length ≤ 640 ∧ Q (.int n) H) gIntS := by
  intro W en w σ H sl h xs ss Q eK S r P
  unfold gIntS at P
  split at P
  · obtain ⟨v, rfl, r1⟩ := r.one
    have e1 := RS.str r1
    subst e1
    split at P
    · rename_i n hn
      split at P
      · rename_i hl
        exact ⟨_, n, rfl, hn, hl, P.int S⟩
      · exact False.elim P
    · exact False.elim P
  · exact False.elim P
end
end Zx
namespace Zx
open PySem PySem.Spec L2
def itemsT (h : AH) (s : SV) : Option (List SV) := match s with
  | .r n => match h[n]? with
    | some (some (.tup xs)) => some xs
    | _ => none
  | s => tupItems s
section
variable {X : Cx} {W : WX} {e tg : Expr} {fe : FE} {pos : Pos}
end
end Zx
namespace Zx
open PySem PySem.Spec L2
def fCnt (fa fe : FE) : FE := fun sl h => (fa sl h).bind fun s h1 => match lstInts h1 s with
  | some _ => (fe sl h1).bind fun t h2 => match lstInts h2 s, t with
    | some ns, .d (.int k) => .ok (.d (.int (ns.count k : Nat))) h2
    | _, _ => .st
  | none => .st
end Zx
namespace Zx
open PySem PySem.Spec L2
section
variable {en : En} {w : Wd} {σ : St} {H : Hp} {sl : List SV} {h : AH}
end
def keysD (ps : List (PyData × PyData)) : Option (List PyData) := if lkq ps = true then some ((ps.filter fun p => !isMk p.1).map Prod.fst) else none
def iDk (f : FE) : List SV → AH → R Src := fun sl h => (f sl h).bind fun s h1 => match s with
  | .d (.dict ps) => match keysD ps with
    | some ks => .ok (.cn (ks.map fun x => .one (.d x))) h1
    | none => .st
  | .vw (.dict ps) => match keysD ps with
    | some ks => .ok (.cn (ks.map fun x => .one (.d x))) h1
    | none => .st
  | _ => .st
end Zx
namespace Zx
open PySem PySem.Spec L2
end Zx
namespace Zx
open PySem PySem.Spec L2
def idxD (x y : PyData) : Option Nat := match x with
  | .list ds => if (nod (.list ds) && nod y && SeqAt.shaped (.list ds) && SeqAt.shaped y) = true then ds.findIdx? fun z => PyData.eqv z y else none
  | _ => none
def fIdx (fa fe : FE) : FE := fun sl h => (fa sl h).bind fun s h1 => match rb h1 9 s with
  | some (.list _) => (fe sl h1).bind fun t h2 => match rb h2 9 s, rb h2 9 t with
    | some x, some y => match idxD x y with
      | some j => .ok (.d (.int (j : Nat))) h2
      | none => .st
    | _, _ => .st
  | _ => .st
def forRE (sl0 : List SV) (L : Nat) (bd : Bd) (body : FS) (n : Nat) : Nat → Nat → List SV → AH → O
  | 0, i, sl, h => match h[n]? with
    | some (some (.lst xs)) => if xs.length ≤ i then .nx sl h else .st
    | _ => .st
  | k + 1, i, sl, h => match h[n]? with
    | some (some (.lst xs)) => match xs[i]? with
      | none => .nx sl h
      | some s => match bd.go (.two (.d (.int (i : Nat))) s) sl with
        | none => .st
        | some sl1 => aft sl0 L (body sl1 h) (forRE sl0 L bd body n k (i + 1))
    | _ => .st
def sForE (fa : FE) (bd : Bd) (body : FS) : FS := fun sl h => (fa sl h).thn sl fun s h1 => match s with
  | .r n => match h1[n]? with
    | some (some (.lst xs)) => forRE sl h1.length bd body n xs.length 0 sl h1
    | _ => .st
  | _ => .st
section
variable {X : Cx} {W : WX} {en : En} {w w0 : Wd} {D : Ends} {σ : St} {H : Hp} {sl sl0 : List SV} {h : AH}
end
end Zx
namespace L2N
open PySem PySem.Spec PyProof.Rows L2
inductive HdsAs (X : Cx) (n : Str) : List ExceptHandler → List (Value × (Addr → Value → Option Addr → TS)) → Prop
  | nil : HdsAs X n [] []
  | cons {x : Str} {c : Value} {ts : Addr → Value → Option Addr → TS} {b₀ : Stmt} {suite : List Stmt} {np pos' : Pos} {hds : List ExceptHandler} {l : List (Value × (Addr → Value → Option Addr → TS))} (hc : Names X x c)
      (hsu : ∀ (a : Addr) (oe : Obj) (cls : Value) (d : Option Addr) (pn : List (Addr × Obj)), Zn cls d oe → (∃ vs, oe.data = .fields vs) → PSs (X.suite a ((a, oe) :: pn)) (b₀ :: suite) (ts a cls d)) (r : HdsAs X n hds l) :
      HdsAs X n (.ExceptHandler (some (.Name x np)) (some n) (b₀ :: suite) pos' :: hds) ((c, ts) :: l)
section
variable {X : Cx} {n : Str} {i : Nat} {body : List Stmt} {h₀ : ExceptHandler} {hds : List ExceptHandler} {l : List (Value × (Addr → Value → Option Addr → TS))} {pos : Pos} {tb : WX → TS} {Wout : WX}
end
end L2N
namespace Zx
open PySem PySem.Spec L2
def orK : Option Bool → Option Bool → Option Bool
  | some true, _ => some true
  | some false, b => b
  | none, _ => none
def pickF (o : Option Bool) (f g : FS) : FS := match o with
  | some true => f
  | _ => g
section
variable {X : Cx} {x1 x2 n : Str} {cv1 cv2 : Value} {i : Nat} {body s1 s2 : List Stmt} {b1 b2 : Stmt} {np1 np2 pp1 pp2 pos : Pos} {fb : FS} {fh1 fh2 : Str → FS} {Wout : WX} {k1 k2 : Str → Option Bool}
end
end Zx
namespace Zx
open PySem PySem.Spec L2
end Zx
namespace Zx
open PySem PySem.Spec L2
open PyProof.Rows (envOfC)
structure FnG (P : Program) (w : World) (K : PySem.W.Frag) (mg : Str → Option Value) (base : Heap) (k : Nat) (f : Addr) (fd : FuncData) (ps : List Str) (sp : Sp) : Prop where
  len : ∀ vs H Q E, sp vs H Q E → vs.length = ps.length
  go : ∀ (A : Around) (outer : List Env) (s : Shared) (H : Hp) (args : Args) (us : List Value) (vs : List V) (Q : VK) (E : XK), Room k A → A.guards = some [] → Env0 P w K mg base A outer s H → BindsTo s fd args (ps.zip us) → Vals vs us → sp vs H Q E →
    codeAny (model P w) A (.call (.ref f) args) (CR (L2N.CX P w) outer P w H s Q E) s
section
variable {P : Program} {w : World} {K : PySem.W.Frag} {mg : Str → Option Value} {base : Heap}
end
/-- a def of that kind, by its name -/
structure CalG (P : Program) (w : World) (K : PySem.W.Frag) (mg : Str → Option Value) (base : Heap) (x : Str) (k : Nat) (ms : List Md) (φ : List PyData → R SV) : Prop where
  ex : ∃ f fd ps, FnG P w K mg base k f fd ps (spD K mg ms φ) ∧ mg x = some (.ref f) ∧ PySem.W.keepIn K (.ref f) = true ∧ Binds K fd ps []
section
variable {X : Cx} {W : WX} {a : Expr} {es : List Expr} {fa : FA} {pos p : Pos} {x : Str} {k : Nat} {ms : List Md} {φ : List PyData → R SV}
end
end Zx
namespace Zx
open PySem PySem.Spec L2
open PyProof.Rows
section
variable {P : Program} {w : World} {K : PySem.W.Frag} {mg mb : Str → Option Value} {k : Nat} {fa a : Addr} {fd : FuncData} {x : Str} {sp : Sp} {s₁ : Shared} {vs : List Value} {ns : List Int}
end
end Zx
namespace Zx
open PySem PySem.Spec L2
def okR (d : PyData) : Bool := nod d && d.showable && !d.hasDict && decide (d.depth ≤ 60) && decide (d.shown.length ≤ 16777216) && PyData.strOk d.shown
section
variable {X : Cx} {W : WX}
def dG2 (x y z : SV) (h : AH) : R SV := match keyOf y, dctR h x with
  | some k, some kvs => match valS kvs k with
    | some s => .ok s h
    | none => .ok z h
  | _, _ => .st
def fDG2 (fo fi fx : FE) : FE := fun sl h => (fo sl h).bind fun x h1 => if (dctR h1 x).isSome = true then (fi sl h1).bind fun y h2 => (fx sl h2).bind fun z h3 => dG2 x y z h3 else .st
theorem se_dg2 {o e f : Expr} {fo fi fx : FE} {apos cpos : Pos} (hu : X.A.units + 1 < cLine) (ho : SE X W o fo) (he : SE X W e fi) (hf : SE X W f fx) (m : M2 X o "get" apos e f cpos) : SE X W (.Call (.Attribute o "get" apos) [e, f] [] cpos) (fDG2 fo fi fx) := PE.imp (pe_dget2 hu ho he hf m) (by
  rintro σ H Q ⟨en, w, sl, h, eK, S, P⟩
  refine ⟨en, w, sl, h, eK, S, Po.bind P fun x h1 xv w1 H1 l1 S1 r1 P1 => ?_⟩
  split at P1
  · rename_i hs
    obtain ⟨kvs0, hd0⟩ := Option.isSome_iff_exists.mp hs
    obtain ⟨c, kws, rfl, hH, d⟩ := dctR_ok S1.toSimH r1 hd0
    refine ⟨c, rfl, .inl ⟨kws, hH⟩, ?_⟩
    refine ⟨en, w1, sl, h1, eK, S1, Po.bind P1 fun y h2 yv w2 H2 l2 S2 r2 P2 => ?_⟩
    refine ⟨en, w2, sl, h2, eK, S2, Po.bind P2 fun z h3 zv w3 H3 l3 S3 r3 P3 => ?_⟩
    unfold dG2 at P3
    split at P3
    · rename_i k kvs hk hd
      obtain ⟨c', kws', e', hH', d'⟩ := dctR_ok S3.toSimH (RS.mono (l2.trans l3) r1) hd
      cases e'
      cases keyOf_ok (RS.mono l3 r2) hk
      rcases DR.val k d' with ⟨e1, e2⟩ | ⟨v, s', e1, e2, r⟩
      · rw [e2] at P3
        exact ⟨none, .inl ⟨kws', k, hH', rfl, e1.symm⟩, P3 zv w3 H3 (Wd.le.refl _) S3 r3⟩
      · rw [e2] at P3
        exact ⟨some v, .inl ⟨kws', k, hH', rfl, e1.symm⟩, P3 v w3 H3 (Wd.le.refl _) S3 r⟩
    · exact False.elim P3
  · exact False.elim P1)
end
end Zx
namespace Zx
open PySem PySem.Spec L2
def dTwo (n : Nat) (k v k2 v2 : SV) (h : AH) : R SV := match keyOf k, keyOf k2, v, v2, h[n]? with
  | some a, some b, .d i, .d j, some (some (.dct [])) => if a = b then .st else .ok (.r n) (h.set n (some (.dct [(a, .d i), (b, .d j)])))
  | _, _, _, _, _ => .st
def fDctT (fa fb fc fd : FE) : FE := fun sl h => (fa sl (h ++ [some (.dct [])])).bind fun k h1 => (fb sl h1).bind fun v h2 => (fc sl h2).bind fun k2 h3 => (fd sl h3).bind fun v2 h4 => dTwo h.length k v k2 v2 h4
section
variable {X : Cx} {W : WX} {a b c d : Expr} {fa fb fc fd : FE} {pos : Pos}
theorem se_dct2 (ha : SE X W a fa) (hb : SE X W b fb) (hc : SE X W c fc) (hd : SE X W d fd) : SE X W (.Dict [some a, some c] [b, d] pos) (fDctT fa fb fc fd) := PE.imp (pe_disp (pps_cons ha hb (pps_cons hc hd pps_nil)) rfl rfl (by simp) (by simp)) (by
  rintro σ H Q ⟨en, w, sl, h, eK, S, P⟩
  intro p np
  have S0 : Sim en (w.ow p) σ (upd H p (.dK [])) sl (h ++ [some (.dct [])]) := ⟨S.toSimH.newAO np (fun _ z => by cases z) (fun _ _ z => by cases z) (fun _ e => ⟨[], e, rfl, rfl⟩), S.slots.mono le_ow⟩
  have hp0 : (w.ow p).rho[h.length]? = some p := by
    show (w.rho ++ [p])[h.length]? = some p
    rw [← S.len, List.getElem?_append_right (Nat.le_refl _)]
    simp
  unfold tPairs
  have P0 : Po RS X W en (w.ow p) σ sl (fDctT fa fb fc fd sl h) Q := Po.mono le_ow P
  refine ⟨en, w.ow p, sl, _, eK, S0, Po.bind P0 fun k h1 xv w1 H1 l1 S1 r1 P1 => ?_⟩
  refine ⟨en, w1, sl, h1, eK, S1, Po.bind P1 fun v h2 yv w2 H2 l2 S2 r2 P2 => ?_⟩
  unfold tPairs
  refine ⟨en, w2, sl, h2, eK, S2, Po.bind P2 fun k2 h3 xv2 w3 H3 l3 S3 r3 P3 => ?_⟩
  refine ⟨en, w3, sl, h3, eK, S3, Po.bind P3 fun v2 h4 yv2 w4 H4 l4 S4 r4 P4 => ?_⟩
  unfold tPairs
  unfold dTwo at P4
  split at P4
  · rename_i ka kb i j hk hk2 hd
    split at P4
    · exact False.elim P4
    rename_i hab
    cases keyOf_ok (RS.mono (l2.trans (l3.trans l4)) r1) hk
    cases keyOf_ok (RS.mono l4 r3) hk2
    obtain ⟨a', e2, ⟨kws, hv, ek, rl⟩, _, _⟩ := S4.live _ _ hd
    have e3 : w4.rho[h.length]? = some p := prefix_get (l1.trans (l2.trans (l3.trans l4))).1 hp0
    have ea : a' = p := Option.some.inj (e2.symm.trans e3)
    subst ea
    have kn : kws = [] := by
      cases kws with
      | nil => rfl
      | cons z q => cases ek
    subst kn
    refine ⟨hv, [(ka, yv), (kb, yv2)], rfl, by simp, ?_⟩
    have em : mergeK [] [(ka, yv), (kb, yv2)] = [(ka, yv), (kb, yv2)] := by
      show putK (putK [] ka yv) kb yv2 = _
      unfold putK
      simp [hab]
    rw [em]
    refine P4 _ w4 _ (Wd.le.refl _) ⟨S4.toSimH.writeAO hd e3 (fun _ z => by cases z) (fun _ _ z => by cases z) (fun _ e => ⟨_, e, rfl, yv, [yv2], rfl, RS.mono (l3.trans l4) r2, yv2, [], rfl, r4, rfl⟩), S4.slots⟩ ⟨a', e3, rfl⟩
  · exact False.elim P4)
end
end Zx
namespace Zx
open PySem PySem.Spec L2
def fmt1 (s : SV) (h : AH) : R SV := match s with
  | .d (.str x) => if x.length ≤ sizeLine then .ok (.d (.str x)) h else .st
  | .d (.int i) => if i.natAbs.log2 < 1920 then .ok (.d (.str (toString i))) h else .st
  | _ => .st
def fFmt (fa : FE) : FE := fun sl h => (fa sl h).bind fmt1
def js1 (acc : Str) (s : SV) (k : Str → R SV) : R SV := match s with
  | .d (.str y) => if (acc ++ y).length ≤ sizeLine then k (acc ++ y) else .st
  | _ => .st
def jsR : List FE → Str → List SV → AH → R SV
  | [], acc, _, h => .ok (.d (.str acc)) h
  | f :: fs, acc, sl, h => (f sl h).bind fun s h1 => js1 acc s fun a => jsR fs a sl h1
def fJs (fs : List FE) : FE := fun sl h => jsR fs Str.empty sl h
section
variable {X : Cx} {W : WX} {a : Expr} {fa : FE} {pos : Pos}
theorem se_fmt (ha : SE X W a fa) : SE X W (.FormattedValue a (-1) none pos) (fFmt fa) := PE.imp (pe_fmt ha) (by
  rintro σ H Q ⟨en, w, sl, h, eK, S, P⟩
  refine ⟨en, w, sl, h, eK, S, Po.bind P fun s h1 xv w1 H1 l1 S1 r1 P1 => ?_⟩
  unfold fmt1 at P1
  split at P1
  · rename_i x
    split at P1
    · rename_i hx
      exact .inl ⟨x, RS.str r1, hx, P1.str S1⟩
    · exact False.elim P1
  · rename_i i
    split at P1
    · rename_i hi
      exact .inr ⟨i, RS.int r1, hi, P1.str S1⟩
    · exact False.elim P1
  · exact False.elim P1)
inductive SJ (X : Cx) (W : WX) : List Expr → List FE → Prop where
  | nil : SJ X W [] []
  | cons {e : Expr} {f : FE} {es : List Expr} {fs : List FE} (h : SE X W e f) (r : SJ X W es fs) : SJ X W (e :: es) (f :: fs)
theorem SJ.pj {es : List Expr} {fs : List FE} (h : SJ X W es fs) : PJ X es (fs.map (tE X W)) := by
  induction h with
  | nil => exact .nil
  | cons h _ ih => exact .cons h ih
theorem js_ok {σ : St} {sl : List SV} {Q : VK} {en : En} (eK : en.ok X) : ∀ (fs : List FE) (acc : Str) (H : Hp) (h : AH) (w : Wd), Sim en w σ H sl h → Po RS X W en w σ sl (jsR fs acc sl h) Q → tJs (fs.map (tE X W)) acc σ H fun out H1 => Q (.str out) H1
  | [], acc, H, h, w, S, P => P.str S
  | f :: fs, acc, H, h, w, S, P => by
    show tE X W f σ H _
    refine ⟨en, w, sl, h, eK, S, Po.bind P fun s h1 xv w1 H1 l1 S1 r1 P1 => ?_⟩
    unfold js1 at P1
    split at P1
    · rename_i y
      split at P1
      · rename_i hy
        exact ⟨y, RS.str r1, hy, js_ok eK fs (acc ++ y) H1 h1 w1 S1 P1⟩
      · exact False.elim P1
    · exact False.elim P1
theorem se_js {v1 v2 : Expr} {rest : List Expr} {fs : List FE} (h : SJ X W (v1 :: v2 :: rest) fs) : SE X W (.JoinedStr (v1 :: v2 :: rest) pos) (fJs fs) := PE.imp (pe_joined h.pj) (by
  rintro σ H Q ⟨en, w, sl, h, eK, S, P⟩
  exact js_ok eK fs Str.empty H h w S P)
end
end Zx
namespace Zx
open PySem PySem.Spec L2
def DcE : List (Str × Str) → List DictEntry → Prop
  | [], [] => True
  | (k, v) :: t, e :: es => (∀ z, e.key.isStr z = (k == z)) ∧ (∃ tk, e.val = .str v tk) ∧ e.refKey = false ∧ DcE t es
  | _, _ => False
def lookS : List (Str × Str) → Str → Option Str
  | [], _ => none
  | (k, v) :: t, z => if (k == z) = true then some v else lookS t z
def DcC (K : PySem.W.Frag) (w : World) (mg : Str → Option Value) (x : Str) (tbl : List (Str × Str)) : Prop := ∃ d es n, mg x = some (.ref d) ∧ KDict K w d es n ∧ DcE tbl es.toList
theorem dcE_find : ∀ {tbl : List (Str × Str)} {es : List DictEntry}, DcE tbl es → ∀ z, (∀ v, lookS tbl z = some v → ∃ e tk, es.find? (·.key.isStr z) = some e ∧ e.val = .str v tk) ∧ (lookS tbl z = none → es.find? (·.key.isStr z) = none) ∧ es.any (·.refKey) = false
  | [], [], _, z => ⟨fun v h => (by cases h), fun _ => rfl, rfl⟩
  | (k, v) :: t, e :: es, ⟨h1, ⟨tk, h2⟩, h3, h4⟩, z => by
    obtain ⟨i1, i2, i3⟩ := dcE_find h4 z
    unfold lookS
    have hk := h1 z
    by_cases c : (k == z) = true
    · rw [if_pos c]
      rw [c] at hk
      refine ⟨fun v' hv => ⟨e, tk, (by rw [List.find?_cons, hk]), (by cases hv; exact h2)⟩, fun z => (by cases z), (by rw [List.any_cons, h3, i3]; rfl)⟩
    · rw [if_neg c]
      have c : (k == z) = false := by simpa using c
      rw [c] at hk
      refine ⟨fun v' hv => ?_, fun z => ?_, by rw [List.any_cons, h3, i3]; rfl⟩
      · obtain ⟨e', tk', e1, e2⟩ := i1 v' hv
        exact ⟨e', tk', by rw [List.find?_cons, hk]; exact e1, e2⟩
      · rw [List.find?_cons, hk]
        exact i2 z
  | [], _ :: _, h, _ => False.elim h
  | _ :: _, [], h, _ => False.elim (by cases ‹Str × Str›; exact h)
theorem dc_ns {K : PySem.W.Frag} {w : World} {d : Addr} {es : Array DictEntry} {n : Nat} {tbl : List (Str × Str)} (D : KDict K w d es n) (h : DcE tbl es.toList) (z : Str) : (∀ v, lookS tbl z = some v → ∃ tk, PySem.W.nsIn K d z = some (some (.str v tk))) ∧ (lookS tbl z = none → PySem.W.nsIn K d z = some none) := by
  obtain ⟨h1, h2, h3⟩ := dcE_find h z
  unfold PySem.W.nsIn
  rw [D.at_]
  dsimp only
  refine ⟨fun v hv => ?_, fun hv => ?_⟩
  · obtain ⟨e, tk, e1, e2⟩ := h1 v hv
    rw [e1]
    exact ⟨tk, by rw [← e2]⟩
  · rw [h2 hv, h3]
    rfl
def fKIn (neg : Bool) (tbl : List (Str × Str)) (fa : FE) : FE := fun sl h => (fa sl h).bind fun s h1 => match s with
  | .d (.str z) => .ok (.d (.bool (neg ^^ (lookS tbl z).isSome))) h1
  | _ => .st
def fKIx (tbl : List (Str × Str)) (fa : FE) : FE := fun sl h => (fa sl h).bind fun s h1 => match s with
  | .d (.str z) => match lookS tbl z with
    | some v => .ok (.d (.str v)) h1
    | none => .st
  | _ => .st
def fKGet (tbl : List (Str × Str)) (fa fb : FE) : FE := fun sl h => (fa sl h).bind fun s h1 => (fb sl h1).bind fun s2 h2 => match s with
  | .d (.str z) => match lookS tbl z with
    | some v => .ok (.d (.str v)) h2
    | none => .ok s2 h2
  | _ => .st
section
variable {X : Cx} {W : WX} {a b : Expr} {fa fb : FE} {pos p apos cpos : Pos} {x : Str} {tbl : List (Str × Str)}
theorem st_kin (ha : SE X W a fa) (hg : Gl X x) (hm : DcC X.K X.w X.mg x tbl) (hb : behindInMarks .In (.Name x p) = false) (hd : (x == ("__debug__" : Str)) = false := by decide) : STt X W (.Compare a [.In] [.Name x p] pos) (fTst (fKIn false tbl fa)) := by
  obtain ⟨d, es, n, h1, D, h2⟩ := hm
  refine PT.imp (pt_cmpR (op_in_kd D) ha (pe_glob (v := V.ref d) hg h1 rfl hd) hb) ?_
  rintro σ H Q ⟨en, w, sl, h, eK, S, P⟩
  have P := fTst_po P
  refine ⟨en, w, sl, h, eK, S, Po.bind P fun s h1 xv w1 H1 l1 S1 r1 P1 => ?_⟩
  split at P1
  · rename_i z
    obtain ⟨q1, q2⟩ := dc_ns D h2 z
    cases e : lookS tbl z with
    | some v =>
      obtain ⟨tk, e1⟩ := q1 v e
      rw [e] at P1
      obtain ⟨c, ec, q⟩ := P1.bool S1
      cases ec
      exact ⟨z, some _, RS.str r1, rfl, e1, _, rfl, q⟩
    | none =>
      rw [e] at P1
      obtain ⟨c, ec, q⟩ := P1.bool S1
      cases ec
      exact ⟨z, none, RS.str r1, rfl, q2 e, _, rfl, q⟩
  · exact False.elim P1
theorem se_kget (hg : Gl X x) (hm : DcC X.K X.w X.mg x tbl) (ha : SE X W a fa) (hb : SE X W b fb) (m : M2 X (.Name x p) "get" apos a b cpos) (hd : (x == ("__debug__" : Str)) = false := by decide) : SE X W (.Call (.Attribute (.Name x p) "get" apos) [a, b] [] cpos) (fKGet tbl fa fb) := by
  obtain ⟨d, es, n, h1, D, h2⟩ := hm
  have pe : PE X (.Call (.Attribute (.Name x p) "get" apos) [a, b] [] cpos) (fun σ H Q => tE X W fa σ H fun y H2 => tE X W fb σ H2 fun z H3 => ∃ k, y = .str k ∧ Q (match lookS tbl k with | some v => .str v | none => z) H3) := by
    refine ⟨fun pins s σ H Q I h => ?_⟩
    refine wpAny_Call_method m.base m.few m.line PySem.F.plainAttrs_dict PySem.F.slot_dict_get PySem.F.type_dict_get (thn ((pe_glob (v := V.ref d) hg h1 rfl hd).run pins s σ H (fun x H1 => x = .ref d ∧ tE X W fa σ H1 fun y H2 => tE X W fb σ H2 fun z H3 => ∃ k, y = .str k ∧ Q (match lookS tbl k with | some v => .str v | none => z) H3) I ⟨rfl, h⟩) fun u s1 ⟨x, H1, I1, rx, ex, q1⟩ => ?_)
    subst ex
    obtain rfl : u = Value.ref d := rx
    have md := PySem.W.mapOf_K (prog := X.prog) (w := X.w) I1.kIn D.at_ D.lit
    refine ⟨md.typeIs, fun b' q => ?_, ?_⟩
    · cases q
      exact ⟨_, I1.kIn _ _ D.at_, rfl⟩
    rw [m.trees]
    refine Calls.callWith_builtin rfl (Calls.evalArgs_plain (Calls.spliced_cons (thn (ha.run pins s1 σ H1 _ I1 q1) fun iv s2 ⟨y, H2, I2, ry, q2⟩ =>
      Calls.spliced_cons (thn (hb.run pins s2 σ H2 _ I2 q2) fun fv s3 ⟨z, H3, I3, rz, k, ey, q3⟩ => Calls.spliced_nil ?_))))
    subst ey
    obtain ⟨t, rfl⟩ := ry
    have md3 := PySem.W.mapOf_K (prog := X.prog) (w := X.w) I3.kIn D.at_ D.lit
    refine call_meetsIn PySem.F.slot_dict_get md3.typeIs PySem.F.entry_dict_get (PySem.F.args_dict_get_3 _ _ _) (meets_dict_get_default (PySem.strKind X.prog X.w) d (PySem.strKind_is X.prog X.w k t) D.low fv) ⟨_, md3, ?_⟩
    obtain ⟨q1, q2⟩ := dc_ns D h2 k
    cases e : lookS tbl k with
    | some v =>
      obtain ⟨tk, e1⟩ := q1 v e
      rw [e] at q3
      rw [PySem.W.find_K D.at_ e1]
      exact ⟨V.str v, H3, I3.tok _, (show RelV (.str v) (.str v tk) from ⟨tk, rfl⟩), q3⟩
    | none =>
      rw [e] at q3
      rw [PySem.W.find_K D.at_ (q2 e)]
      exact ⟨z, H3, I3.tok _, rz, q3⟩
  refine PE.imp pe ?_
  rintro σ H Q ⟨en, w, sl, h, eK, S, P⟩
  refine ⟨en, w, sl, h, eK, S, Po.bind P fun s h1 xv w1 H1 l1 S1 r1 P1 => ?_⟩
  refine ⟨en, w1, sl, h1, eK, S1, Po.bind P1 fun s2 h2 yv w2 H2 l2 S2 r2 P2 => ?_⟩
  split at P2
  · rename_i k
    refine ⟨k, RS.str r1, ?_⟩
    cases e : lookS tbl k with
    | some v =>
      rw [e] at P2
      exact P2.str S2
    | none =>
      rw [e] at P2
      exact P2 yv w2 H2 (Wd.le.refl _) S2 r2
  · exact False.elim P2
theorem se_kix (ha : SE X W a fa) (hg : Gl X x) (hm : DcC X.K X.w X.mg x tbl) (hs : PlainIx a) (hd : (x == ("__debug__" : Str)) = false := by decide) : SE X W (.Subscript (.Name x p) a pos) (fKIx tbl fa) := by
  obtain ⟨d, es, n, h1, D, h2⟩ := hm
  refine PE.imp (pe_ix ix_kdict (pe_glob (v := V.ref d) hg h1 rfl hd) ha hs) ?_
  rintro σ H Q ⟨en, w, sl, h, eK, S, P⟩
  show tE X W fa σ H _
  refine ⟨en, w, sl, h, eK, S, Po.bind P fun s h1 xv w1 H1 l1 S1 r1 P1 => ?_⟩
  split at P1
  · rename_i z
    obtain ⟨q1, q2⟩ := dc_ns D h2 z
    cases e : lookS tbl z with
    | some v =>
      obtain ⟨tk, e1⟩ := q1 v e
      rw [e] at P1
      exact ⟨d, z, .str v, rfl, RS.str r1, ⟨es, n, _, D.at_, D.lit, e1, ⟨tk, rfl⟩⟩, P1.str S1⟩
    | none =>
      rw [e] at P1
      exact False.elim P1
  · exact False.elim P1
end
end Zx
namespace Zx
open PySem PySem.Spec L2
def tupOf (h : AH) : SV → Option (List SV)
  | .d (.tuple ds) => some (ds.map SV.d)
  | .vw (.tuple ds) => some (ds.map mkv)
  | .r n => match h[n]? with
    | some (some (.tup xs)) => some xs
    | _ => none
  | _ => none
theorem tup_okU {en : En} {w : Wd} {H : Hp} {h : AH} (S : SimH en w H h) {s : SV} {v : V} {xs : List SV} (r : RS en w v s) (e : tupOf h s = some xs) : ∃ a vs, v = .ref a ∧ SqT en.K H a vs ∧ RSL en w vs xs ∧ ∀ σ w2 H2 sl h2, w.le w2 → Sim en w2 σ H2 sl h2 → SqT en.K H2 a vs := by
  unfold tupOf at e
  split at e
  · cases e
    have r : Rp en.K w.F v (.tuple _) := r
    unfold Rp at r
    obtain ⟨a, vs, rfl, q, l⟩ := r
    exact ⟨a, vs, rfl, sqT_mono (S.fh a) q, RSL.ofRp l, fun σ w2 H2 sl h2 le S2 => sqT_mono (fun o z => S2.fh _ _ (le.2 _ _ z)) q⟩
  · cases e
    have r : Rp en.K en.G v (.tuple _) := r
    unfold Rp at r
    obtain ⟨a, vs, rfl, q, l⟩ := r
    exact ⟨a, vs, rfl, sqT_mono (S.gh a) q, RSL.ofVw S l, fun σ w2 H2 sl h2 le S2 => sqT_mono (S2.gh a) q⟩
  · split at e
    · cases e
      rename_i n ys he
      obtain ⟨a, e1, rfl⟩ := r
      obtain ⟨a', e2, ⟨vs, hv, rv⟩, _, _⟩ := S.live n _ he
      have ea : a' = a := Option.some.inj (e2.symm.trans e1)
      subst ea
      exact ⟨a', vs, rfl, .inl (.inl hv), rv, fun σ w2 H2 sl h2 le S2 => .inl (.inl (S2.fh _ _ (le.2 _ _ (S.ti.1 _ _ hv))))⟩
    · cases e
  · cases e
def mkTp (ss : List SV) (h : AH) : R SV := match allD ss with
  | some ds => .ok (.d (.tuple ds)) h
  | none => .ok (.r h.length) (h ++ [some (.tup ss)])
theorem mkTp_ok {X : Cx} {W : WX} {en : En} {w : Wd} {σ : St} {H : Hp} {sl : List SV} {h : AH} {ss : List SV} {vs : List V} {Q : VK} (S : Sim en w σ H sl h) (r1 : RSL en w vs ss) (P1 : Po RS X W en w σ sl (mkTp ss h) Q) : ∀ p, H p = none → Q (.ref p) (upd H p (.tup vs)) := by
  intro p np
  unfold mkTp at P1
  split at P1
  · rename_i ds hd
    have rl := allD_ok r1 hd
    have l2 : w.le (w.fz p (.tup vs)) := le_fz (S.F_none np)
    refine P1 (.ref p) (w.fz p (.tup vs)) _ l2 (S.newF np (fun _ _ z => by cases z)) ?_
    show Rp en.K (upd w.F p (.tup vs)) (.ref p) (.tuple ds)
    unfold Rp
    exact ⟨p, vs, rfl, .inl (.inl upd_same), RpL.mono l2.2 ds vs rl⟩
  · refine P1 (.ref p) ((w.fz p (.tup vs)).ow p) _ ((le_fz (S.F_none np)).trans le_ow) (S.newT np r1) ⟨p, ?_, rfl⟩
    show (w.rho ++ [p])[h.length]? = some p
    rw [← S.len, List.getElem?_append_right (Nat.le_refl _)]
    simp
def fSlU (fe : FE) (fl fh : List SV → AH → R (Option Int)) : FE := fun sl h => (fe sl h).bind fun s h1 => (fl sl h1).bind fun lo h2 => (fh sl h2).bind fun hi h3 => match tupOf h3 s with
  | some xs => if (HT.sIx xs.length 0 lo = 0 ∧ HT.sIx xs.length xs.length hi = xs.length) then .st else mkTp (cutX xs lo hi) h3
  | none => .st
def gCatU : SV → SV → AH → R SV := fun s t h => match tupOf h s, tupOf h t with
  | some (x :: xs), some (y :: ys) => if (x :: xs).length + (y :: ys).length < lim then mkTp (x :: xs ++ y :: ys) h else .st
  | _, _ => .st
def iTupU (f : FE) : List SV → AH → R Src := fun sl h => (f sl h).bind fun s h1 => match tupOf h1 s with
  | some xs => .ok (.cn (xs.map It1.one)) h1
  | none => .st
section
variable {X : Cx} {W : WX} {e tg : Expr} {fe : FE} {p2 pos : Pos}
theorem se_slU {lo hi : Option Expr} {fl fh : List SV → AH → R (Option Int)} (he : SE X W e fe) (hl : SO X W lo fl) (hu : SO X W hi fh) : SE X W (.Subscript e (.Slice lo hi none p2) pos) (fSlU fe fl fh) := PE.imp (pe_slice sl_tup he hl hu) (by
  rintro σ H Q ⟨en, w, sl, h, eK, S, P⟩
  refine ⟨en, w, sl, h, eK, S, Po.bind P fun s h1 v w1 H1 l1 S1 r1 P1 => ?_⟩
  refine ⟨en, w1, sl, h1, eK, S1, Po.bind P1 fun lo h2 lo' w2 H2 l2 S2 r2 P2 => ?_⟩
  refine ⟨en, w2, sl, h2, eK, S2, Po.bind P2 fun hi h3 hi' w3 H3 l3 S3 r3 P3 => ?_⟩
  have r2 : lo' = lo := r2
  have r3 : hi' = hi := r3
  subst r2; subst r3
  split at P3
  · rename_i xs hx
    split at P3
    · exact False.elim P3
    · rename_i c
      obtain ⟨a, vs, rfl, q, rl, _⟩ := tup_okU S3.toSimH (RS.mono (l2.trans l3) r1) hx
      refine ⟨a, vs, rfl, by rw [← eK.1]; exact q, ?_, mkTp_ok S3 (RSL.cutX lo' hi' rl) P3⟩
      rw [RSL.length rl]
      exact c
  · exact False.elim P3)
theorem si_tupU (he : SE X W e fe) : SI X W tg e (iTupU fe) := PI.imp (pi_tup he) (by
  rintro σ H R ⟨en, w, sl, h, eK, S, P⟩
  refine ⟨en, w, sl, h, eK, S, Po.bind P fun s h1 v w1 H1 l1 S1 r1 P1 => ?_⟩
  split at P1
  · rename_i xs hx
    obtain ⟨a, vs, rfl, q, rl, al⟩ := tup_okU S1.toSimH r1 hx
    refine ⟨a, rfl, ⟨vs, by rw [← eK.1]; exact q⟩, P1 _ w1 H1 (Wd.le.refl _) S1 ?_⟩
    show ItOk en w1 (Itt X.K a) _
    rw [← eK.1]
    exact itt_ok al rl
  · exact False.elim P1)
end
theorem pi_anyS {X : Cx} {tg l : Expr} {tl : TE} (hl : PE X l tl) : PI X tg l (fun σ H R => tl σ H fun x H1 => ∃ a, x = .ref a ∧ ((∃ xs, SqL X.K H1 a xs) ∧ R (Itl X.K a) H1 ∨ (∃ xs, SqT X.K H1 a xs) ∧ R (Itt X.K a) H1)) := by
  refine ⟨fun pins s σ H R I h => ?_⟩
  refine thn (hl.run pins s σ H _ I h) fun v s1 ⟨x, H1, I1, r1, q1⟩ => ?_
  obtain ⟨a, e, ⟨⟨xs, hq⟩, q⟩ | ⟨⟨xs, hq⟩, q⟩⟩ := q1
  · subst e
    cases r1
    obtain ⟨its, rv, p, hz⟩ := I1.list hq
    refine wpAny_pyIter_list p.isList ?_
    refine ⟨s1.heap.objs.size, [s1.heap.objs.size], _, _, H1, rfl, I1.kept (t' := s1.toks) fun b o e => Heap.get?_push_of_some _ e, turn_list a _, ⟨_, Heap.get?_push_size _ rfl, rfl, rfl⟩, fun b hb => ?_, q⟩
    have e : b = s1.heap.objs.size := by simpa using hb
    subst e
    exact I1.fpOk (Nat.le_refl _) (I1.hok.fresh (Nat.le_refl _))
  · subst e
    cases r1
    obtain ⟨its, rv, p, hz⟩ := I1.tuple hq
    refine wpAny_pyIter_tuple (show s1.heap.IsTuple a its.toArray from p) ?_
    refine ⟨s1.heap.objs.size, [s1.heap.objs.size], _, _, H1, rfl, I1.kept (t' := s1.toks) fun b o e => Heap.get?_push_of_some _ e, turn_tuple a _, ⟨_, Heap.get?_push_size _ rfl, rfl, rfl⟩, fun b hb => ?_, q⟩
    have e : b = s1.heap.objs.size := by simpa using hb
    subst e
    exact I1.fpOk (Nat.le_refl _) (I1.hok.fresh (Nat.le_refl _))
def iAnyS (f : FE) : List SV → AH → R Src := fun sl h => (f sl h).bind fun s h1 => match tupOf h1 s with
  | some xs => .ok (.cn (xs.map It1.one)) h1
  | none => iSeq (fun _ _ => .ok s h1) sl h1
theorem si_anyS {X : Cx} {W : WX} {e tg : Expr} {fe : FE} (he : SE X W e fe) : SI X W tg e (iAnyS fe) := PI.imp (pi_anyS he) (by
  rintro σ H R ⟨en, w, sl, h, eK, S, P⟩
  refine ⟨en, w, sl, h, eK, S, Po.bind P fun s h1 v w1 H1 l1 S1 r1 P1 => ?_⟩
  split at P1
  · rename_i xs hx
    obtain ⟨a, vs, rfl, q, rl, al⟩ := tup_okU S1.toSimH r1 hx
    refine ⟨a, rfl, .inr ⟨⟨vs, by rw [← eK.1]; exact q⟩, P1 _ w1 H1 (Wd.le.refl _) S1 ?_⟩⟩
    show ItOk en w1 (Itt X.K a) _
    rw [← eK.1]
    exact itt_ok al rl
  · unfold iSeq at P1
    simp only [Zx.R.bind] at P1
    split at P1
    · rename_i ds _
      have r1 : Rp en.K w1.F v (.list ds) := r1
      unfold Rp at r1
      obtain ⟨a, vs, rfl, q, l⟩ := r1
      refine ⟨a, rfl, .inl ⟨⟨vs, .of (S1.fh _ _ q)⟩, P1 _ w1 H1 (Wd.le.refl _) S1 ?_⟩⟩
      show ItOk en w1 (Itl X.K a) _
      rw [map_one, ← eK.1]
      exact itl_ok (fun σ w H sl h le S => .of (S.fh _ _ (le.2 _ _ q))) (RSL.ofRp l)
    · rename_i ds _
      have r1 : Rp en.K en.G v (.list ds) := r1
      unfold Rp at r1
      obtain ⟨a, vs, rfl, q, l⟩ := r1
      refine ⟨a, rfl, .inl ⟨⟨vs, .of (S1.gh _ _ q)⟩, P1 _ w1 H1 (Wd.le.refl _) S1 ?_⟩⟩
      show ItOk en w1 (Itl X.K a) _
      rw [map_one, ← eK.1]
      exact itl_ok (fun σ w H sl h le S => .of (S.gh _ _ q)) (RSL.ofVw S1.toSimH l)
    · rename_i n _
      split at P1
      · rename_i xs hx
        obtain ⟨a, e1, rfl⟩ := r1
        obtain ⟨a', e2, ⟨vs, hv, rv⟩, _, _⟩ := S1.live n _ hx
        have ea : a' = a := Option.some.inj (e2.symm.trans e1)
        subst ea
        exact ⟨a', rfl, .inl ⟨⟨vs, .of hv⟩, P1 _ w1 H1 (Wd.le.refl _) S1 ⟨a', e1, by rw [eK.1]⟩⟩⟩
      · exact False.elim P1
    · exact False.elim P1)
theorem os_catU {X : Cx} : OpS X (rCatT X.K) gCatU := by
  intro W en w σ H sl h x y s t Q eK S r1 r2 P
  unfold gCatU at P
  split at P
  · rename_i a xs b ys hx hy
    split at P
    · rename_i hl
      obtain ⟨a', vs, rfl, qa, ra, _⟩ := tup_okU S.toSimH r1 hx
      obtain ⟨b', us, rfl, qb, rb', _⟩ := tup_okU S.toSimH r2 hy
      refine ⟨a', b', vs, us, rfl, rfl, by rw [← eK.1]; exact qa, by rw [← eK.1]; exact qb, ?_, Nat.le_of_lt (by rw [RSL.length ra, RSL.length rb']; exact lim_line hl), ?_, fun _ => mkTp_ok S (RSL.app ra rb') P⟩
      · rintro rfl
        have := RSL.length ra
        cases this
      · rintro rfl
        have := RSL.length rb'
        cases this
    · exact False.elim P
  · exact False.elim P
end Zx
namespace Gn
open PySem PySem.Spec L2 Zx
abbrev tb_JOINED : List (Str × Str) := [((PySem.Str.ofString "join-out"), (PySem.Str.ofString "join out")), ((PySem.Str.ofString "join-in"), (PySem.Str.ofString "join in"))]
abbrev tb_JOINS : List (Str × Str) := [((PySem.Str.ofString "join out"), (PySem.Str.ofString "join-out")), ((PySem.Str.ofString "join in"), (PySem.Str.ofString "join-in"))]
def e_are_figures_1 : FE :=
  (fLc (iStr (fVar 0)) (.nm 1) (fTst (fBin (gInS true) (fVar 1) (fC (.str (PySem.Str.ofString "0123456789"))))) (fVar 1) [1])
def m_are_figures : FS :=
  (sSeq (sIf (fOrT (fTst (fBin (gEq false) (fVar 0) (fC (.str (PySem.Str.ofString ""))))) (fAndT (fTst (fBin (gEq false) (fBin gIx (fVar 0) (fC (.int 0))) (fC (.str (PySem.Str.ofString "0"))))) (fTst (fBin (gEq true) (fVar 0) (fC (.str (PySem.Str.ofString "0"))))))) (sRet (fC (.bool false))) sNext)
    (sRet (fBin (gEq false) e_are_figures_1 (fFz (fLst fNil)))))
def v_are_figures : List PyData → Zx.R SV := phi [.vw] 2 m_are_figures
def e_numbers_shown_1 : FE :=
  (fFz (fLc (iAnyS (fVar 0)) (.nm 1) fYes (fCB gStrI (fCons (fVar 1) fNil)) [1]))
def m_numbers_shown : FS :=
  (sRet (fTxM gJoin (fC (.str (PySem.Str.ofString " "))) e_numbers_shown_1))
def v_numbers_shown : List PyData → Zx.R SV := phi [.vw] 2 m_numbers_shown
def m_arrow_shown : FS :=
  (sRet (fJs [(fFmt (fBin gIx (fVar 0) (fC (.int 0)))), (fC (.str (PySem.Str.ofString "-"))), (fFmt (fBin gIx (fVar 0) (fC (.int 1)))), (fC (.str (PySem.Str.ofString "-"))), (fFmt (fBin gIx (fVar 0) (fC (.int 2))))]))
def v_arrow_shown : List PyData → Zx.R SV := phi [.vw] 1 m_arrow_shown
def e_parted_1 : FE :=
  (fLc (iSeq (fVar 1)) (.nm 3) (fTst (fBin (gEq false) (fVar 3) (fFz (fLst fNil)))) (fVar 3) [3])
def l_parted_1 : FS :=
  (sFor (iSeq (fVar 0)) (.nm 2) (sIf (fTst (fBin (gEq false) (fVar 2) (fC (.str (PySem.Str.ofString "/"))))) (sExpr (fBM kdL (gOwn kAppend) (fVar 1) (fCons (fLst fNil) fNil))) (sIf (fTst (fBin (gEq false) (fVar 1) (fFz (fLst fNil)))) (sRaise (PySem.Str.ofString "NoText")) (sExpr (fBM kdL (gOwn kAppend) (fBin gIx (fVar 1) (fUn gNeg (fC (.int 1)))) (fCons (fFz (fVar 2)) fNil))))))
def m_parted : FS :=
  (sSeq (sSet 1 (fLst fNil))
    (sSeq l_parted_1
    (sSeq (sIf (fTst (fBin (gEq true) e_parted_1 (fFz (fLst fNil)))) (sRaise (PySem.Str.ofString "NoText")) sNext)
    (sRet (fFz (fVar 1))))))
def v_parted : List PyData → Zx.R SV := phi [.vw] 4 m_parted
def m_law_cell_at : FS :=
  (sSeq (sIf (fTst (fBin gLt (fVar 1) (fCB gLen (fCons (fVar 0) fNil)))) (sRet (fBin gIx (fVar 0) (fVar 1))) sNext)
    (sRet (fC (.int 0))))
def v_law_cell_at : List PyData → Zx.R SV := phi [.sc, .vw] 2 m_law_cell_at
def m_law_number : FS :=
  (sSeq (sSet 1 (fBin gIx (fTup (fCons (fC (.int 3)) (fCons (fC (.int 12)) (fCons (fC (.int 1000)) (fCons (fBin gPow (fC (.int 10)) (fC (.int 9))) (fCons (fBin gPow (fC (.int 10)) (fC (.int 30))) (fCons (fBin gMul (fBin gPow (fC (.int 10)) (fC (.int 50))) (fBin gPow (fC (.int 10)) (fC (.int 50)))) fNil))))))) (fBin gMod (fVar 0) (fC (.int 6)))))
    (sSeq (sSet 0 (fBin gDiv (fVar 0) (fC (.int 6))))
    (sRet (fTup (fCons (fBin gSub (fBin gMod (fVar 0) (fBin gSub (fBin gMul (fC (.int 2)) (fVar 1)) (fC (.int 1)))) (fBin gSub (fVar 1) (fC (.int 1)))) (fCons (fBin gDiv (fVar 0) (fBin gSub (fBin gMul (fC (.int 2)) (fVar 1)) (fC (.int 1)))) fNil))))))
def v_law_number : List PyData → Zx.R SV := phi [.vw] 2 m_law_number
def l_law_places_1 : FS :=
  (sFor (iRng (fCons (fVar 1) fNil)) (.nm 4) (sSeq (sExpr (fBM kdL (gOwn kAppend) (fVar 3) (fCons (fBin gMod (fVar 0) (fVar 2)) fNil)))
    (sSet 0 (fBin gDiv (fVar 0) (fVar 2)))))
def m_law_places : FS :=
  (sSeq (sSet 3 (fLst fNil))
    (sSeq l_law_places_1
    (sRet (fTup (fCons (fFz (fVar 3)) (fCons (fVar 0) fNil))))))
def v_law_places : List PyData → Zx.R SV := phi [.vw, .vw, .vw] 5 m_law_places
def l_law_spelled_1 : FS :=
  (sFor (iRng (fCons (fCB gLen (fCons (fVar 0) fNil)) fNil)) (.nm 2) (sSeq (sIf (fTst (fBin gGt (fVar 2) (fC (.int 0)))) (sSet 1 (fBin gAdd (fVar 1) (fC (.str (PySem.Str.ofString " "))))) sNext)
    (sSet 1 (fBin gAdd (fVar 1) (fCB gStrI (fCons (fBin gIx (fVar 0) (fVar 2)) fNil))))))
def m_law_spelled : FS :=
  (sSeq (sSet 1 (fC (.str (PySem.Str.ofString ""))))
    (sSeq l_law_spelled_1
    (sRet (fVar 1))))
def v_law_spelled : List PyData → Zx.R SV := phi [.vw] 3 m_law_spelled
def l_law_piece_text_1 : FS :=
  (sFor (iSeq (fVar 0)) (.tp [2, 3, 4]) (sSet 1 (fBin gAdd (fBin gAdd (fBin gAdd (fBin gAdd (fBin gAdd (fBin gAdd (fVar 1) (fC (.str (PySem.Str.ofString " ")))) (fCB gStrI (fCons (fVar 2) fNil))) (fC (.str (PySem.Str.ofString "-")))) (fCB gStrI (fCons (fVar 3) fNil))) (fC (.str (PySem.Str.ofString "-")))) (fCB gStrI (fCons (fVar 4) fNil)))))
def m_law_piece_text : FS :=
  (sSeq (sSet 1 (fC (.str (PySem.Str.ofString ""))))
    (sSeq l_law_piece_text_1
    (sRet (fVar 1))))
def v_law_piece_text : List PyData → Zx.R SV := phi [.vw] 5 m_law_piece_text
def e_law_copied_1 : FE :=
  (fFz (fLc (iSeq (fBin gIx (fVar 0) (fC (.int 2)))) (.nm 1) fYes (fFz (fCB gList (fCons (fVar 1) fNil))) [1]))
def m_law_copied : FS :=
  (sSeq (sIf (fTst (fBin (gIn false) (fBin gIx (fVar 0) (fC (.int 0))) (fTup (fCons (fC (.str (PySem.Str.ofString "out"))) (fCons (fC (.str (PySem.Str.ofString "in"))) fNil))))) (sRet (fTup (fCons (fBin gIx (fVar 0) (fC (.int 0))) (fCons (fBin gIx (fVar 0) (fC (.int 1))) (fCons e_law_copied_1 fNil))))) sNext)
    (sSeq (sIf (fTst (fBin (gEq false) (fBin gIx (fVar 0) (fC (.int 0))) (fC (.str (PySem.Str.ofString "lay"))))) (sRet (fTup (fCons (fBin gIx (fVar 0) (fC (.int 0))) (fCons (fBin gIx (fVar 0) (fC (.int 1))) (fCons (fFz (fCB gList (fCons (fBin gIx (fVar 0) (fC (.int 2))) fNil))) (fCons (fFz (fCB gList (fCons (fBin gIx (fVar 0) (fC (.int 3))) fNil))) fNil)))))) sNext)
    (sRet (fFz (fVar 0)))))
def v_law_copied : List PyData → Zx.R SV := phi [.vw] 2 m_law_copied
def e_law_is_move_1 : FE :=
  (fLc (iSeq (fBin gIx (fVar 0) (fC (.int 2)))) (.nm 3) (fNotT (fTst (fIsi "list" (fVar 3)))) (fVar 3) [3])
def e_law_is_move_2 : FE :=
  (fLc (iTupU (fVar 0)) (.nm 2) (fTst (fIsi "bool" (fVar 2))) (fVar 2) [2])
def m_law_is_move : FS :=
  (sSeq (sIf (fOrT (fNotT (fTst (fIsi "tuple" (fVar 0)))) (fOrT (fTst (fBin (gEq true) (fVar 0) (fVar 1))) (fTst (fBin (gEq true) e_law_is_move_2 (fFz (fLst fNil)))))) (sRet (fC (.bool false))) sNext)
    (sSeq (sIf (fTst (fBin (gIn false) (fBin gIx (fVar 1) (fC (.int 0))) (fTup (fCons (fC (.str (PySem.Str.ofString "out"))) (fCons (fC (.str (PySem.Str.ofString "in"))) fNil))))) (sRet (fBin (gEq false) e_law_is_move_1 (fFz (fLst fNil)))) sNext)
    (sSeq (sIf (fTst (fBin (gEq false) (fBin gIx (fVar 1) (fC (.int 0))) (fC (.str (PySem.Str.ofString "lay"))))) (sRet (fAndV (fIsi "list" (fBin gIx (fVar 0) (fC (.int 2)))) (fIsi "list" (fBin gIx (fVar 0) (fC (.int 3)))))) sNext)
    (sRet (fC (.bool true))))))
def v_law_is_move : List PyData → Zx.R SV := phi [.vw, .vw] 4 m_law_is_move
def m_number_read : FS :=
  (sSeq (sIf (fTst (fCall [.vw] v_are_figures (fCons (fVar 0) fNil))) (sRet (fCB gIntS (fCons (fVar 0) fNil))) sNext)
    (sSeq (sIf (fAndT (fTst (fTxM gSw (fVar 0) (fC (.str (PySem.Str.ofString "-"))))) (fAndT (fTst (fBin (gEq true) (fVar 0) (fC (.str (PySem.Str.ofString "-0"))))) (fTst (fCall [.vw] v_are_figures (fCons (fSliceT (fVar 0) (oSome (fC (.int 1))) oNo) fNil))))) (sRet (fCB gIntS (fCons (fVar 0) fNil))) sNext)
    (sRaise (PySem.Str.ofString "NoText"))))
def v_number_read : List PyData → Zx.R SV := phi [.vw] 1 m_number_read
def e_arrow_read_1 : FE :=
  (fFz (fLc (iSeq (fVar 1)) (.nm 2) fYes (fCall [.vw] v_are_figures (fCons (fVar 2) fNil)) [2]))
def m_arrow_read : FS :=
  (sSeq (sSet 1 (fFz (fTxM gSplit (fVar 0) (fC (.str (PySem.Str.ofString "-"))))))
    (sSeq (sIf (fOrT (fTst (fBin (gEq true) (fCB gLen (fCons (fVar 1) fNil)) (fC (.int 3)))) (fNotT (fTst (fCB (gBools fun bs => bs.all id) (fCons e_arrow_read_1 fNil))))) (sRaise (PySem.Str.ofString "NoText")) sNext)
    (sRet (fTup (fCons (fCB gIntS (fCons (fBin gIx (fVar 1) (fC (.int 0))) fNil)) (fCons (fCB gIntS (fCons (fBin gIx (fVar 1) (fC (.int 1))) fNil)) (fCons (fCB gIntS (fCons (fBin gIx (fVar 1) (fC (.int 2))) fNil)) fNil)))))))
def v_arrow_read : List PyData → Zx.R SV := phi [.vw] 3 m_arrow_read
def e_pieces_shown_1 : FE :=
  (fFz (fLc (iSeq (fVar 1)) (.nm 2) fYes (fCall [.vw] v_arrow_shown (fCons (fVar 2) fNil)) [2]))
def e_pieces_shown_2 : FE :=
  (fFz (fLc (iSeq (fVar 0)) (.nm 1) fYes (fBin gAdd (fC (.str (PySem.Str.ofString "/ "))) (fTxM gJoin (fC (.str (PySem.Str.ofString " "))) e_pieces_shown_1)) [1]))
def m_pieces_shown : FS :=
  (sRet (fTxM gJoin (fC (.str (PySem.Str.ofString " "))) e_pieces_shown_2))
def v_pieces_shown : List PyData → Zx.R SV := phi [.vw] 3 m_pieces_shown
def l_law_big_1 : FS :=
  (sFor (iRng (fCons (fC (.int 64)) fNil)) (.nm 5) (sSeq (sSet 6 (fBin gAdd (fBin gAdd (fBin gMod (fCall [.sc, .vw] v_law_cell_at (fCons (fVar 0) (fCons (fBin gAdd (fVar 1) (fBin gMod (fVar 5) (fC (.int 9)))) fNil))) (fBin gPow (fC (.int 10)) (fC (.int 18)))) (fBin gMul (fC (.int 7)) (fVar 5))) (fC (.int 1))))
    (sSet 4 (fBin gAdd (fBin gMul (fVar 4) (fC (.int 8191))) (fBin gMod (fBin gMul (fBin gMod (fBin gAdd (fBin gMul (fVar 6) (fVar 6)) (fBin gMul (fC (.int 31)) (fVar 5))) (fBin gIx (fVar 3) (fBin gMod (fVar 5) (fC (.int 9))))) (fBin gAdd (fVar 5) (fC (.int 3)))) (fC (.int 8191)))))))
def m_law_big : FS :=
  (sSeq (sSet 2 (fCall [.sc, .vw] v_law_cell_at (fCons (fVar 0) (fCons (fVar 1) fNil))))
    (sSeq (sIf (fTst (fBin gGe (fVar 2) (fBin gPow (fC (.int 10)) (fC (.int 18))))) (sRet (fVar 2)) sNext)
    (sSeq (sSet 3 (fTup (fCons (fC (.int 99989)) (fCons (fC (.int 99971)) (fCons (fC (.int 99961)) (fCons (fC (.int 99929)) (fCons (fC (.int 99923)) (fCons (fC (.int 99907)) (fCons (fC (.int 99901)) (fCons (fC (.int 99881)) (fCons (fC (.int 99877)) fNil)))))))))))
    (sSeq (sSet 4 (fC (.int 0)))
    (sSeq l_law_big_1
    (sRet (fVar 4)))))))
def v_law_big : List PyData → Zx.R SV := phi [.sc, .vw] 7 m_law_big
def l_law_pieces_1 : FS :=
  (sFor (iRng (fCons (fVar 6) fNil)) (.nm 7) (sSeq (sSetT [8, 0] (fCall [.vw, .vw, .vw] v_law_places (fCons (fVar 0) (fCons (fC (.int 3)) (fCons (fVar 2) fNil)))))
    (sExpr (fBM kdL (gOwn kAppend) (fVar 5) (fCons (fFz (fCB gTuple (fCons (fVar 8) fNil))) fNil)))))
def l_law_pieces_2 : FS :=
  (sFor (iRng (fCons (fVar 3) fNil)) (.nm 4) (sSeq (sSet 5 (fLst fNil))
    (sSeq (sSet 6 (fBin gAdd (fC (.int 1)) (fBin gMod (fVar 0) (fC (.int 3)))))
    (sSeq (sSet 0 (fBin gDiv (fVar 0) (fC (.int 3))))
    (sSeq l_law_pieces_1
    (sExpr (fBM kdL (gOwn kAppend) (fVar 1) (fCons (fFz (fVar 5)) fNil))))))))
def m_law_pieces : FS :=
  (sSeq (sSet 1 (fLst fNil))
    (sSeq (sSet 2 (fBin gIx (fTup (fCons (fC (.int 3)) (fCons (fC (.int 12)) (fCons (fBin gPow (fC (.int 10)) (fC (.int 30))) fNil)))) (fBin gMod (fVar 0) (fC (.int 3)))))
    (sSeq (sSet 3 (fBin gAdd (fC (.int 2)) (fBin gMod (fBin gDiv (fVar 0) (fC (.int 3))) (fC (.int 4)))))
    (sSeq (sSet 0 (fBin gDiv (fVar 0) (fC (.int 12))))
    (sSeq l_law_pieces_2
    (sRet (fFz (fVar 1))))))))
def v_law_pieces : List PyData → Zx.R SV := phi [.vw] 9 m_law_pieces
def l_law_some_1 : FS :=
  (sFor (iRng (fCons (fVar 2) fNil)) (.nm 3) (sSeq (sSetT [4, 0] (fCall [.vw] v_law_number (fCons (fVar 0) fNil)))
    (sExpr (fBM kdL (gOwn kAppend) (fVar 1) (fCons (fFz (fVar 4)) fNil)))))
def m_law_some : FS :=
  (sSeq (sSet 1 (fLst fNil))
    (sSeq (sSet 2 (fBin gAdd (fC (.int 1)) (fBin gMod (fVar 0) (fC (.int 6)))))
    (sSeq (sSet 0 (fBin gDiv (fVar 0) (fC (.int 6))))
    (sSeq l_law_some_1
    (sRet (fTup (fCons (fFz (fVar 1)) (fCons (fVar 0) fNil))))))))
def v_law_some : List PyData → Zx.R SV := phi [.vw] 5 m_law_some
def l_law_move_text_1 : FS :=
  (sFor (iSeq (fBin gIx (fVar 0) (fC (.int 2)))) (.nm 4) (sSet 3 (fBin gAdd (fBin gAdd (fVar 3) (fC (.str (PySem.Str.ofString " /")))) (fCall [.vw] v_law_piece_text (fCons (fVar 4) fNil)))))
def m_law_move_text : FS :=
  (sSeq (sSet 1 (fDctT (fC (.str (PySem.Str.ofString "join out"))) (fC (.str (PySem.Str.ofString "join-out"))) (fC (.str (PySem.Str.ofString "join in"))) (fC (.str (PySem.Str.ofString "join-in")))))
    (sSeq (sSet 2 (fBin gIx (fVar 0) (fC (.int 0))))
    (sSeq (sIf (fTst (fBin (gIn false) (fVar 2) (fTup (fCons (fC (.str (PySem.Str.ofString "out"))) (fCons (fC (.str (PySem.Str.ofString "in"))) fNil))))) (sSeq (sSet 3 (fBin gAdd (fBin gAdd (fVar 2) (fC (.str (PySem.Str.ofString " ")))) (fCB gStrI (fCons (fBin gIx (fVar 0) (fC (.int 1))) fNil))))
    (sSeq l_law_move_text_1
    (sRet (fVar 3)))) sNext)
    (sSeq (sIf (fTst (fBin (gEq false) (fVar 2) (fC (.str (PySem.Str.ofString "lay"))))) (sSeq (sSet 3 (fBin gAdd (fBin gAdd (fBin gAdd (fC (.str (PySem.Str.ofString "lay "))) (fCB gStrI (fCons (fBin gIx (fVar 0) (fC (.int 1))) fNil))) (fC (.str (PySem.Str.ofString " / ")))) (fCall [.vw] v_law_spelled (fCons (fBin gIx (fVar 0) (fC (.int 2))) fNil))))
    (sRet (fBin gAdd (fBin gAdd (fVar 3) (fC (.str (PySem.Str.ofString " / ")))) (fCall [.vw] v_law_spelled (fCons (fBin gIx (fVar 0) (fC (.int 3))) fNil))))) sNext)
    (sRet (fBin gAdd (fBin gAdd (fDG2 (fVar 1) (fVar 2) (fVar 2)) (fC (.str (PySem.Str.ofString " ")))) (fCall [.vw] v_law_spelled (fCons (fSlU (fVar 0) (oSome (fC (.int 1))) oNo) fNil))))))))
def v_law_move_text : List PyData → Zx.R SV := phi [.vw] 5 m_law_move_text
def e_numbers_read_1 : FE :=
  (fLc (iSeq (fVar 0)) (.nm 1) fYes (fCall [.vw] v_number_read (fCons (fVar 1) fNil)) [1])
def m_numbers_read : FS :=
  (sSeq (sIf (fTst (fBin (gEq false) (fVar 0) (fFz (fLst fNil)))) (sRaise (PySem.Str.ofString "NoText")) sNext)
    (sRet e_numbers_read_1))
def v_numbers_read : List PyData → Zx.R SV := phi [.vw] 2 m_numbers_read
def m_move_shown : FS :=
  (sSeq (sSet 1 (fBin gIx (fVar 0) (fC (.int 0))))
    (sSeq (sIf (fTst (fBin (gIn false) (fVar 1) (fC (.tuple [.str (PySem.Str.ofString "out"), .str (PySem.Str.ofString "in")])))) (sRet (fJs [(fFmt (fVar 1)), (fC (.str (PySem.Str.ofString " "))), (fFmt (fBin gIx (fVar 0) (fC (.int 1)))), (fC (.str (PySem.Str.ofString " "))), (fFmt (fCall [.vw] v_pieces_shown (fCons (fBin gIx (fVar 0) (fC (.int 2))) fNil)))])) sNext)
    (sSeq (sIf (fTst (fBin (gEq false) (fVar 1) (fC (.str (PySem.Str.ofString "lay"))))) (sRet (fJs [(fC (.str (PySem.Str.ofString "lay "))), (fFmt (fBin gIx (fVar 0) (fC (.int 1)))), (fC (.str (PySem.Str.ofString " / "))), (fFmt (fCall [.vw] v_numbers_shown (fCons (fBin gIx (fVar 0) (fC (.int 2))) fNil))), (fC (.str (PySem.Str.ofString " / "))), (fFmt (fCall [.vw] v_numbers_shown (fCons (fBin gIx (fVar 0) (fC (.int 3))) fNil)))])) sNext)
    (sRet (fBin gAdd (fBin gAdd (fKGet tb_JOINS (fVar 1) (fVar 1)) (fC (.str (PySem.Str.ofString " ")))) (fCall [.vw] v_numbers_shown (fCons (fSlU (fVar 0) (oSome (fC (.int 1))) oNo) fNil)))))))
def v_move_shown : List PyData → Zx.R SV := phi [.vw] 2 m_move_shown
def e_split_read_1 : FE :=
  (fFz (fLc (iSeq (fVar 3)) (.nm 4) fYes (fCall [.vw] v_arrow_read (fCons (fVar 4) fNil)) [4]))
def e_split_read_2 : FE :=
  (fLc (iSeq (fCall [.vw] v_parted (fCons (fFz (fSlice (fVar 0) (oSome (fC (.int 2))) oNo)) fNil))) (.nm 3) fYes e_split_read_1 [3])
def m_split_read : FS :=
  (sSeq (sSet 1 (fCall [.vw] v_number_read (fCons (fBin gIx (fVar 0) (fC (.int 1))) fNil)))
    (sSeq (sSet 2 e_split_read_2)
    (sSeq (sIf (fTst (fBin gLt (fCB gLen (fCons (fVar 2) fNil)) (fC (.int 2)))) (sRaise (PySem.Str.ofString "NoText")) sNext)
    (sRet (fTupO (fCons (fBin gIx (fVar 0) (fC (.int 0))) (fCons (fVar 1) (fCons (fVar 2) fNil))))))))
def v_split_read : List PyData → Zx.R SV := phi [.vw] 5 m_split_read
def m_law_move : FS :=
  (sSeq (sSet 2 (fCall [.sc, .vw] v_law_big (fCons (fVar 0) (fCons (fVar 1) fNil))))
    (sSeq (sSet 3 (fBin gIx (fTup (fCons (fC (.str (PySem.Str.ofString "swap"))) (fCons (fC (.str (PySem.Str.ofString "out"))) (fCons (fC (.str (PySem.Str.ofString "in"))) (fCons (fC (.str (PySem.Str.ofString "join out"))) (fCons (fC (.str (PySem.Str.ofString "join in"))) (fCons (fC (.str (PySem.Str.ofString "draw"))) (fCons (fC (.str (PySem.Str.ofString "lay"))) (fCons (fC (.str (PySem.Str.ofString "row"))) (fCons (fC (.str (PySem.Str.ofString "column"))) fNil)))))))))) (fBin gMod (fVar 2) (fC (.int 9)))))
    (sSeq (sSetT [4, 2] (fCall [.vw] v_law_number (fCons (fBin gDiv (fVar 2) (fC (.int 9))) fNil)))
    (sSeq (sSetT [5, 2] (fCall [.vw] v_law_number (fCons (fVar 2) fNil)))
    (sSeq (sSetT [6, 2] (fCall [.vw] v_law_number (fCons (fVar 2) fNil)))
    (sSeq (sIf (fTst (fBin (gIn false) (fVar 3) (fTup (fCons (fC (.str (PySem.Str.ofString "out"))) (fCons (fC (.str (PySem.Str.ofString "in"))) fNil))))) (sRet (fTup (fCons (fVar 3) (fCons (fVar 4) (fCons (fCall [.vw] v_law_pieces (fCons (fCall [.sc, .vw] v_law_big (fCons (fVar 0) (fCons (fBin gAdd (fVar 1) (fC (.int 1))) fNil))) fNil)) fNil))))) sNext)
    (sSeq (sIf (fTst (fBin (gEq false) (fVar 3) (fC (.str (PySem.Str.ofString "lay"))))) (sSeq (sSetT [7, 8] (fCall [.vw] v_law_some (fCons (fCall [.sc, .vw] v_law_big (fCons (fVar 0) (fCons (fBin gAdd (fVar 1) (fC (.int 1))) fNil))) fNil)))
    (sSeq (sSetT [9, 8] (fCall [.vw] v_law_some (fCons (fVar 8) fNil)))
    (sRet (fTup (fCons (fVar 3) (fCons (fVar 4) (fCons (fVar 7) (fCons (fVar 9) fNil)))))))) sNext)
    (sSeq (sIf (fTst (fBin (gEq false) (fVar 3) (fC (.str (PySem.Str.ofString "draw"))))) (sRet (fTup (fCons (fVar 3) (fCons (fVar 4) fNil)))) sNext)
    (sSeq (sIf (fTst (fBin (gIn false) (fVar 3) (fTup (fCons (fC (.str (PySem.Str.ofString "row"))) (fCons (fC (.str (PySem.Str.ofString "column"))) fNil))))) (sRet (fTup (fCons (fVar 3) (fCons (fVar 4) (fCons (fVar 5) (fCons (fVar 6) fNil)))))) sNext)
    (sRet (fTup (fCons (fVar 3) (fCons (fVar 4) (fCons (fVar 5) fNil))))))))))))))
def v_law_move : List PyData → Zx.R SV := phi [.sc, .vw] 10 m_law_move
def m_lay_read : FS :=
  (sSeq (sSet 1 (fCall [.vw] v_number_read (fCons (fBin gIx (fVar 0) (fC (.int 1))) fNil)))
    (sSeq (sSet 2 (fCall [.vw] v_parted (fCons (fFz (fSlice (fVar 0) (oSome (fC (.int 2))) oNo)) fNil)))
    (sSeq (sIf (fTst (fBin (gEq true) (fCB gLen (fCons (fVar 2) fNil)) (fC (.int 2)))) (sRaise (PySem.Str.ofString "NoText")) sNext)
    (sRet (fTupO (fCons (fC (.str (PySem.Str.ofString "lay"))) (fCons (fVar 1) (fCons (fCall [.vw] v_numbers_read (fCons (fBin gIx (fVar 2) (fC (.int 0))) fNil)) (fCons (fCall [.vw] v_numbers_read (fCons (fBin gIx (fVar 2) (fC (.int 1))) fNil)) fNil)))))))))
def v_lay_read : List PyData → Zx.R SV := phi [.vw] 3 m_lay_read
def m_plain_read : FS :=
  (sSeq (sSet 1 (fCB gTuple (fCons (fCall [.vw] v_numbers_read (fCons (fFz (fSlice (fVar 0) (oSome (fC (.int 1))) oNo)) fNil)) fNil)))
    (sSeq (sIf (fAndT (fTst (fBin (gEq false) (fBin gIx (fVar 0) (fC (.int 0))) (fC (.str (PySem.Str.ofString "draw"))))) (fTst (fBin (gEq false) (fCB gLen (fCons (fVar 1) fNil)) (fC (.int 1))))) (sRet (fBin gCatU (fTup (fCons (fC (.str (PySem.Str.ofString "draw"))) fNil)) (fVar 1))) sNext)
    (sSeq (sIf (fAndT (fTst (fBin (gEq false) (fBin gIx (fVar 0) (fC (.int 0))) (fC (.str (PySem.Str.ofString "swap"))))) (fTst (fBin (gEq false) (fCB gLen (fCons (fVar 1) fNil)) (fC (.int 2))))) (sRet (fBin gCatU (fTup (fCons (fC (.str (PySem.Str.ofString "swap"))) fNil)) (fVar 1))) sNext)
    (sSeq (sIf (fAndT (fTst (fKIn false tb_JOINED (fBin gIx (fVar 0) (fC (.int 0))))) (fTst (fBin (gEq false) (fCB gLen (fCons (fVar 1) fNil)) (fC (.int 2))))) (sRet (fBin gCatU (fTup (fCons (fKIx tb_JOINED (fBin gIx (fVar 0) (fC (.int 0)))) fNil)) (fVar 1))) sNext)
    (sSeq (sIf (fAndT (fTst (fBin (gIn false) (fBin gIx (fVar 0) (fC (.int 0))) (fC (.tuple [.str (PySem.Str.ofString "row"), .str (PySem.Str.ofString "column")])))) (fTst (fBin (gEq false) (fCB gLen (fCons (fVar 1) fNil)) (fC (.int 3))))) (sRet (fBin gCatU (fTup (fCons (fBin gIx (fVar 0) (fC (.int 0))) fNil)) (fVar 1))) sNext)
    (sRaise (PySem.Str.ofString "NoText")))))))
def v_plain_read : List PyData → Zx.R SV := phi [.vw] 2 m_plain_read
def m_move_read : FS :=
  (sSeq (sSet 1 (fFz (fTxM gSplit (fVar 0) (fC (.str (PySem.Str.ofString " "))))))
    (sSeq (sIf (fTst (fBin gLt (fCB gLen (fCons (fVar 1) fNil)) (fC (.int 2)))) (sRaise (PySem.Str.ofString "NoText")) sNext)
    (sSeq (sIf (fTst (fBin (gIn false) (fBin gIx (fVar 1) (fC (.int 0))) (fC (.tuple [.str (PySem.Str.ofString "out"), .str (PySem.Str.ofString "in")])))) (sRet (fCall [.vw] v_split_read (fCons (fVar 1) fNil))) sNext)
    (sSeq (sIf (fTst (fBin (gEq false) (fBin gIx (fVar 1) (fC (.int 0))) (fC (.str (PySem.Str.ofString "lay"))))) (sRet (fCall [.vw] v_lay_read (fCons (fVar 1) fNil))) sNext)
    (sRet (fCall [.vw] v_plain_read (fCons (fVar 1) fNil)))))))
def v_move_read : List PyData → Zx.R SV := phi [.vw] 2 m_move_read
def l_law_good_1 : FS :=
  (sFor (iTupU (fSlU (fVar 4) (oSome (fC (.int 2))) oNo)) (.nm 5) (sIf (fTst (fIsi "list" (fVar 5))) (sExpr (fBM kdL (gOwn kAppend) (fVar 5) (fCons (fC .none) fNil))) sNext))
def l_law_good_2 : FS :=
  (sFor (iRng (fCons (fC (.int 2)) fNil)) (.nm 3) (sSeq (sIf (fOrT (fTst (fBin (gEq true) (fCall [.vw] v_move_shown (fCons (fVar 1) fNil)) (fVar 2))) (fTst (fBin (gEq true) (fVar 1) (fVar 0)))) (sRet (fC (.bool false))) sNext)
    (sSeq (sSet 4 (fCall [.vw] v_move_read (fCons (fVar 2) fNil)))
    (sSeq (sIf (fNotT (fTst (fCall [.vw, .vw] v_law_is_move (fCons (fVar 4) (fCons (fVar 0) fNil))))) (sRet (fC (.bool false))) sNext)
    l_law_good_1))))
def m_law_good : FS :=
  (sSeq (sSet 1 (fCall [.vw] v_law_copied (fCons (fVar 0) fNil)))
    (sSeq (sSet 2 (fCall [.vw] v_law_move_text (fCons (fVar 0) fNil)))
    (sSeq l_law_good_2
    (sRet (fC (.bool true))))))
def v_law_good : List PyData → Zx.R SV := phi [.vw] 6 m_law_good
def m_law : FS :=
  (sSeq (sSet 1 (fCall [.sc, .vw] v_law_move (fCons (fVar 0) (fCons (fC (.int 0)) fNil))))
    (sSeq (sSet 2 (fCall [.sc, .vw] v_law_move (fCons (fVar 0) (fCons (fC (.int 2)) fNil))))
    (sRet (fAndV (fCall [.vw] v_law_good (fCons (fVar 1) fNil)) (fAndV (fCall [.vw] v_law_good (fCons (fVar 2) fNil)) (fCall [.vw] v_law_good (fCons (fVar 1) fNil)))))))
def v_law : List PyData → Zx.R SV := phi [.sc] 3 m_law
end Gn
namespace Gn
open PySem PySem.Spec L2 Zx
local macro_rules | `(tactic| walk_at "zd") => `(tactic| first | omega | with_unfolding_all (simp only [List.all_cons, List.all_nil, List.all_append, bel_o, bel_n, bel_r, bel_d, bel_vw, bel_sc, bel_un, below_d, List.take_succ_cons, List.take_zero, Bool.and_self, Bool.and_true, decide_eq_true_eq, List.length_cons, List.length_nil, List.length_map, Nat.reduceAdd, Nat.reduceLeDiff, Nat.le_refl, Nat.zero_le, own_0, own_s, reset_un, reset_d, reset_r, reset_vw, reset_sc, reset_nil, Nat.reduceLT, decide_true, decide_false]; done))
local macro_rules | `(tactic| walk_at "z") => `(tactic| simp (disch := walk_at "zd") only [phi_eq, q_nx, q_rt, q_bk, q_ct, q_rz, q_st, f_nx, f_rt, f_rz, f_st, b_ok, b_rz, b_st, t_ok, t_rz, t_st, o_some, o_none, a_seq, a_set, a_if, a_expr, a_ret, a_retN, a_next, a_break, a_cont, a_raise, a_var, p_d, p_vw, p_r, p_sc, p_ex, p_mkv, a_c, a_bin, a_un, a_tst, tst_b, a_andT, a_orT, a_notT, a_andV, a_orV, a_notV, a_chain, a_if', a_nil, a_cons, a_lst, a_tup, a_fz, a_cb, back_d, back_r, back_rz, back_st, a_call, g_nil, g_cons, g_fz, g_sc, g_vw, a_isi, a_bm, a_iseq, s_d, s_vw, a_itup, u_d, u_vw, a_irng, r1_ok, a_irng2, r2_ok, a_ienu, e_1, a_izip, z_2, l_d, l_vw, a_for, w_cn, c_nil, n_nx, n_ct, n_bk, n_rt, n_rz, n_st, a_setT, a_store, i_add, i_sub, i_div, i_mod, i_lt, i_le, i_gt, i_ge, i_eq, i_ne, i_neg, i_int, i_intb, i_abs, i_min, i_max, ix_d, ix_dt, ix_vw, ix_sc, n_d, n_dt, n_vw, n_sc, fzv_d, rb_d, rb_vw, rb_mkv, allD_map, d_nil, d_cons, Bd.go, setAll, tupItems, startS, argS, intsD_ok, List.replicate, List.getElem?_cons_zero, List.getElem?_cons_succ, List.set_cons_zero, List.set_cons_succ, List.length_cons, List.length_nil, List.length_map, List.map_nil, List.map_cons, if_true, if_false, reduceIte, Bool.false_eq_true, Bool.true_eq_false, decide_eq_true_eq, Bool.not_true, Bool.not_false, List.cons_append, List.nil_append, mkv_int, mkv_bool, mkv_none, mkv_str, mkv_lst, Int.reduceLT, Int.reduceLE, Int.reduceNeg, Nat.reduceAdd, Nat.reduceLeDiff, Int.reduceToNat, cl_nil, cl_d, cl_vw, cl_r, trim_len, trim_0, norm_nil, reset_un, reset_d, reset_r, reset_vw, reset_sc, reset_nil, Nat.le_refl, Nat.zero_le, Int.ofNat_eq_natCast, a_while, fzv_nil, trim_g, norm_ok, bel_o, bel_n, bel_r, bel_d, bel_vw, bel_sc, bel_un, below_d, List.take_succ_cons, List.take_zero, mkv_ints, a_lrg1, norm_len, own_0, own_s, a_own, o_seq, o_run, o_ix, o_len, o_lstOf, o_put, o_kd, o_ty, o_list, l_list, l_listv, k_rev, k_clr, Option.isSome_some, List.all_cons, List.all_nil, Bool.and_self, Bool.and_true, Bool.true_and, Nat.reduceLT, decide_true, decide_false, id_eq, ixN_in, shh_ds, shh_OG, List.append_nil, rb_g0, rb_g1, ty_int, ty_bool, ty_tup, ty_list, ty_none, ty_vtup, ty_vlist, is_ii, is_ib, is_bb, is_bi, is_ll, is_tt, is_lt, is_tl, k_app, Bool.or_false, Bool.or_true, Bool.and_false, Bool.false_or, Bool.true_or, Int.toNat_natCast, Option.map_some, Option.map_none, reset_same, own_g0, own_g1, og_at, refs_len, wipeS, turn_nx, turn_ct, i_mulL])
def cellAt (ns : List Int) (k : Int) : Int := (ns[k.toNat]?).getD 0
theorem cell_at_eq {ns : List Int} {k : Int} (h0 : 0 ≤ k) : v_law_cell_at [eI ns, .int k] = .ok (.d (.int (cellAt ns k))) [] := by
  unfold v_law_cell_at m_law_cell_at
  walk_at "z"
  by_cases c : k < (ns.length : Int)
  · rw [if_pos c, atI_0 h0]
    have hk : k.toNat < ns.length := by omega
    unfold cellAt
    rw [List.getElem?_eq_getElem hk]
    walk_at "z"
    rfl
  · rw [if_neg c]
    unfold cellAt
    rw [List.getElem?_eq_none (by omega)]
    walk_at "z"
    rfl
def p18 : Int := 10 ^ (18 : Int).toNat
theorem p18_pos : 0 < p18 := by decide
theorem pw18 {h : AH} : gPow (.d (.int 10)) (.d (.int 18)) h = .ok (.d (.int p18)) h := i_pow (by decide)
def primes : List Int := [99989, 99971, 99961, 99929, 99923, 99907, 99901, 99881, 99877]
theorem prime_at {j : Int} (h0 : 0 ≤ j) (h1 : j < 9) : ∃ p, atI (primes.map PyData.int) j = some (.int p) ∧ 0 < p ∧ p < 100000 := by
  have : j = 0 ∨ j = 1 ∨ j = 2 ∨ j = 3 ∨ j = 4 ∨ j = 5 ∨ j = 6 ∨ j = 7 ∨ j = 8 := by omega
  rcases this with e | e | e | e | e | e | e | e | e <;> subst e <;> exact ⟨_, rfl, by decide, by decide⟩
theorem pow_le {n : Nat} (hn : n ≤ 64) : (8191 : Int) ^ n ≤ 28638903918474961204418783933674838490721739172170652529441449702311064005352904159345284265824628375429359509218999720074396860757073376700445026041564579620512874307979212102266801261478978776245040008231745247475930553606737583615358787106474295296 := by
  have h1 : (8191 : Nat) ^ n ≤ (2 ^ 13) ^ 64 := Nat.le_trans (Nat.pow_le_pow_left (by decide) n) (Nat.pow_le_pow_right (by decide) hn)
  have h2 : ((8191 ^ n : Nat) : Int) ≤ ((28638903918474961204418783933674838490721739172170652529441449702311064005352904159345284265824628375429359509218999720074396860757073376700445026041564579620512874307979212102266801261478978776245040008231745247475930553606737583615358787106474295296 : Nat) : Int) := Int.ofNat_le.mpr h1
  rw [Int.natCast_pow] at h2
  exact h2
theorem big_eq {ns : List Int} {k : Int} (h0 : 0 ≤ k) : ∃ b, 0 ≤ b ∧ v_law_big [eI ns, .int k] = .ok (.d (.int b)) [] := by
  unfold v_law_big m_law_big
  walk_at "z"
  rw [cell_at_eq h0]
  walk_at "z"
  rw [pw18]
  walk_at "z"
  by_cases c : p18 ≤ cellAt ns k
  · refine ⟨cellAt ns k, Int.le_trans (Int.le_of_lt p18_pos) c, ?_⟩
    rw [if_pos c]
    walk_at "z"
  · rw [if_neg c]
    walk_at "z"
    unfold l_law_big_1
    walk_at "z"
    generalize ef : forC _ _ _ _ _ _ _ = o
    obtain ⟨sl', h', rfl, p⟩ := for_inv' ef (P := fun m sl h => h = [] ∧ ∃ acc : Int, 0 ≤ acc ∧ acc < 8191 ^ m ∧ sl = [.sc ns, .d (.int k), .d (.int (cellAt ns k)), .d (.tuple (primes.map PyData.int)), .d (.int acc), .un, .un]) ⟨rfl, 0, by decide, by decide, rfl⟩ (by
      rintro m x sl h e ⟨rfl, acc, a0, a1, rfl⟩
      obtain ⟨hm, rfl⟩ := rngI_get e
      refine ⟨_, rfl, ?_⟩
      have hm : m < 64 := hm
      have p9 : 0 ≤ (0 + (m : Int)) % 9 ∧ (0 + (m : Int)) % 9 < 9 := by omega
      walk_at "z"
      rw [cell_at_eq (by omega)]
      walk_at "z"
      rw [pw18]
      walk_at "z"
      have c0 := Int.emod_nonneg (cellAt ns (k + (0 + (m : Int)) % 9)) (Int.ne_of_gt p18_pos)
      have c1 := Int.emod_lt_of_pos (cellAt ns (k + (0 + (m : Int)) % 9)) p18_pos
      have e18 : p18 = 1000000000000000000 := by decide
      rw [i_mod p18_pos]
      generalize cellAt ns (k + (0 + (m : Int)) % 9) % p18 = z at c0 c1 ⊢
      have ha := pow_le (Nat.le_of_lt hm)
      walk_at "z"
      obtain ⟨q, eq, q0, q1⟩ := prime_at p9.1 p9.2
      rw [eq]
      walk_at "z"
      generalize ey : ((z + 7 * (0 + (m : Int)) + 1) * (z + 7 * (0 + (m : Int)) + 1) + 31 * (0 + (m : Int))) % q = y
      have y0 : 0 ≤ y := ey ▸ Int.emod_nonneg _ (Int.ne_of_gt q0)
      have y1 : y < q := ey ▸ Int.emod_lt_of_pos _ q0
      walk_at "z"
      refine ⟨_, _, rfl, rfl, _, ?_, ?_, rfl⟩
      · have := Int.emod_nonneg (y * (0 + (m : Int) + 3)) (show (8191 : Int) ≠ 0 by decide)
        omega
      · have := Int.emod_lt_of_pos (y * (0 + (m : Int) + 3)) (show (0 : Int) < 8191 by decide)
        rw [Int.pow_succ]
        omega)
    obtain ⟨rfl, acc, a0, a1, rfl⟩ := p
    refine ⟨acc, a0, ?_⟩
    walk_at "z"
def getI (v : List Int) (k : Nat) : Int := v[k]?.getD 0
def getR (g : List (List Int)) (k : Nat) : List Int := g[k]?.getD []
theorem at_I {v : List Int} {k : Nat} (h : k < v.length) : atI (v.map PyData.int) (0 + (k : Int)) = some (.int (getI v k)) := by
  rw [atI_0 (by omega), List.getElem?_map, show (0 + (k : Int)).toNat = k from by omega, List.getElem?_eq_getElem h]
  unfold getI
  rw [List.getElem?_eq_getElem h]; rfl
theorem at_R {g : List (List Int)} {k : Nat} (h : k < g.length) : atI (g.map eI) (0 + (k : Int)) = some (eI (getR g k)) := by
  rw [atI_0 (by omega), List.getElem?_map, show (0 + (k : Int)).toNat = k from by omega, List.getElem?_eq_getElem h]
  unfold getR
  rw [List.getElem?_eq_getElem h]; rfl
theorem at_I0 {v : List Int} (h : 0 < v.length) : atI (v.map PyData.int) 0 = some (.int (getI v 0)) := by
  have := at_I (k := 0) h
  exact this
theorem at_R0 {g : List (List Int)} (h : 0 < g.length) : atI (g.map eI) 0 = some (eI (getR g 0)) := by
  have := at_R (k := 0) h
  exact this
theorem sum_ok {h : AH} {ns : List Int} : gSum [.d (eI ns)] h = .ok (.d (.int ns.sum)) h := by
  have : ∀ ns : List Int, intsOf ((ns.map PyData.int).map SV.d) = some ns := fun ns => by
    induction ns with
    | nil => rfl
    | cons n ns ih =>
      show (intsOf ((ns.map PyData.int).map SV.d)).map (n :: ·) = _
      rw [ih]; rfl
  unfold gSum lstInts
  dsimp only
  rw [lst_d]
  dsimp only
  rw [this]
local macro_rules | `(tactic| walk_at "y") => `(tactic| simp (disch := walk_at "zd") only [phi_eq, q_nx, q_rt, q_bk, q_ct, q_rz, q_st, f_nx, f_rt, f_rz, f_st, b_ok, b_rz, b_st, t_ok, t_rz, t_st, o_some, o_none, a_seq, a_set, a_if, a_expr, a_ret, a_retN, a_next, a_break, a_cont, a_raise, a_var, p_d, p_vw, p_r, p_sc, p_ex, p_mkv, a_c, a_bin, a_un, a_tst, tst_b, a_andT, a_orT, a_notT, a_andV, a_orV, a_notV, a_chain, a_if', a_nil, a_cons, a_lst, a_tup, a_fz, a_cb, back_d, back_r, back_rz, back_st, a_call, g_nil, g_cons, g_fz, g_sc, g_vw, a_isi, a_bm, a_iseq, s_d, s_vw, a_itup, u_d, u_vw, a_irng, r1_ok, a_irng2, r2_ok, a_ienu, e_1, a_izip, z_2, l_d, l_vw, a_for, w_cn, c_nil, n_nx, n_ct, n_bk, n_rt, n_rz, n_st, a_setT, a_store, i_add, i_sub, i_div, i_mod, i_lt, i_le, i_gt, i_ge, i_eq, i_ne, i_neg, i_int, i_intb, i_abs, i_min, i_max, ix_d, ix_dt, ix_vw, ix_sc, n_d, n_dt, n_vw, n_sc, fzv_d, rb_d, rb_vw, rb_mkv, allD_map, d_nil, d_cons, Bd.go, setAll, tupItems, startS, argS, intsD_ok, List.replicate, List.getElem?_cons_zero, List.getElem?_cons_succ, List.set_cons_zero, List.set_cons_succ, List.length_cons, List.length_nil, List.length_map, List.map_nil, List.map_cons, if_true, if_false, reduceIte, Bool.false_eq_true, Bool.true_eq_false, decide_eq_true_eq, Bool.not_true, Bool.not_false, List.cons_append, List.nil_append, mkv_int, mkv_bool, mkv_none, mkv_str, mkv_lst, Int.reduceLT, Int.reduceLE, Int.reduceNeg, Nat.reduceAdd, Nat.reduceLeDiff, Int.reduceToNat, cl_nil, cl_d, cl_vw, cl_r, trim_len, trim_0, norm_nil, reset_un, reset_d, reset_r, reset_vw, reset_sc, reset_nil, Nat.le_refl, Nat.zero_le, Int.ofNat_eq_natCast, a_while, fzv_nil, trim_g, norm_ok, bel_o, bel_n, bel_r, bel_d, bel_vw, bel_sc, bel_un, below_d, List.take_succ_cons, List.take_zero, mkv_ints, a_lrg1, norm_len, own_0, own_s, a_own, o_seq, o_run, o_ix, o_len, o_lstOf, o_put, o_kd, o_ty, o_list, l_list, l_listv, k_rev, k_clr, Option.isSome_some, List.all_cons, List.all_nil, Bool.and_self, Bool.and_true, Bool.true_and, Nat.reduceLT, decide_true, decide_false, id_eq, ixN_in, shh_ds, shh_OG, List.append_nil, rb_g0, rb_g1, ty_int, ty_bool, ty_tup, ty_list, ty_none, ty_vtup, ty_vlist, is_ii, is_ib, is_bb, is_bi, is_ll, is_tt, is_lt, is_tl, k_app, Bool.or_false, Bool.or_true, Bool.and_false, Bool.false_or, Bool.true_or, Int.toNat_natCast, Option.map_some, Option.map_none, reset_same, own_g0, own_g1, og_at, refs_len, wipeS, at_I, at_R, at_I0, at_R0, sum_ok, turn_nx, turn_ct, i_mulL])
end Gn
namespace Zx.V
open PySem PySem.Spec L2
def Fa3 {α β γ : Type} (P : α → β → γ → Prop) : List α → List β → List γ → Prop
  | [], [], [] => True
  | a :: as, b :: bs, c :: cs => P a b c ∧ Fa3 P as bs cs
  | _, _, _ => False
section
variable {α β γ : Type} {P Q : α → β → γ → Prop}
theorem Fa3.len : ∀ {as : List α} {bs : List β} {cs : List γ}, Fa3 P as bs cs → as.length = bs.length ∧ cs.length = bs.length
  | [], [], [], _ => ⟨rfl, rfl⟩
  | a :: as, b :: bs, c :: cs, ⟨_, r⟩ => by
    have := Fa3.len r
    rw [List.length_cons, List.length_cons, List.length_cons]
    omega
  | [], [], c :: cs, h => h.elim
  | [], b :: bs, [], h => h.elim
  | [], b :: bs, c :: cs, h => h.elim
  | a :: as, [], [], h => h.elim
  | a :: as, [], c :: cs, h => h.elim
  | a :: as, b :: bs, [], h => h.elim
theorem Fa3.imp {cs0 : List γ} (k : ∀ a b c, c ∈ cs0 → P a b c → Q a b c) : ∀ {as : List α} {bs : List β} {cs : List γ}, (∀ c ∈ cs, c ∈ cs0) → Fa3 P as bs cs → Fa3 Q as bs cs
  | [], [], [], _, _ => trivial
  | a :: as, b :: bs, c :: cs, m, ⟨h, r⟩ => ⟨k a b c (m c List.mem_cons_self) h, Fa3.imp k (fun c' hc => m c' (List.mem_cons_of_mem _ hc)) r⟩
  | [], [], c :: cs, _, h => h.elim
  | [], b :: bs, [], _, h => h.elim
  | [], b :: bs, c :: cs, _, h => h.elim
  | a :: as, [], [], _, h => h.elim
  | a :: as, [], c :: cs, _, h => h.elim
  | a :: as, b :: bs, [], _, h => h.elim
theorem Fa3.get : ∀ {as : List α} {bs : List β} {cs : List γ} {i : Nat} {b : β}, Fa3 P as bs cs → bs[i]? = some b → ∃ a c, as[i]? = some a ∧ cs[i]? = some c ∧ P a b c
  | a :: as, b :: bs, c :: cs, 0, b', ⟨h, r⟩, e => by
    cases e
    exact ⟨a, c, rfl, rfl, h⟩
  | a :: as, b :: bs, c :: cs, i + 1, b', ⟨h, r⟩, e => by
    have e : bs[i]? = some b' := e
    obtain ⟨x, y, e1, e2, p⟩ := Fa3.get r e
    exact ⟨x, y, e1, e2, p⟩
  | [], [], [], i, b', _, e => by simp at e
  | [], [], c :: cs, _, _, h, _ => h.elim
  | [], b :: bs, [], _, _, h, _ => h.elim
  | [], b :: bs, c :: cs, _, _, h, _ => h.elim
  | a :: as, [], [], _, _, h, _ => h.elim
  | a :: as, [], c :: cs, _, _, h, _ => h.elim
  | a :: as, b :: bs, [], _, _, h, _ => h.elim
theorem Fa3.set {a' : α} {b' : β} {c' : γ} (p : P a' b' c') : ∀ {as : List α} {bs : List β} {cs : List γ} (i : Nat), Fa3 P as bs cs → Fa3 P (as.set i a') (bs.set i b') (cs.set i c')
  | a :: as, b :: bs, c :: cs, 0, ⟨h, r⟩ => ⟨p, r⟩
  | a :: as, b :: bs, c :: cs, i + 1, ⟨h, r⟩ => ⟨h, Fa3.set p i r⟩
  | [], [], [], i, h => h
  | [], [], c :: cs, _, h => h.elim
  | [], b :: bs, [], _, h => h.elim
  | [], b :: bs, c :: cs, _, h => h.elim
  | a :: as, [], [], _, h => h.elim
  | a :: as, [], c :: cs, _, h => h.elim
  | a :: as, b :: bs, [], _, h => h.elim
theorem Fa3.app {as' : List α} {bs' : List β} {cs' : List γ} (r' : Fa3 P as' bs' cs') : ∀ {as : List α} {bs : List β} {cs : List γ}, Fa3 P as bs cs → Fa3 P (as ++ as') (bs ++ bs') (cs ++ cs')
  | a :: as, b :: bs, c :: cs, ⟨h, r⟩ => ⟨h, Fa3.app r' r⟩
  | [], [], [], h => r'
  | [], [], c :: cs, h => h.elim
  | [], b :: bs, [], h => h.elim
  | [], b :: bs, c :: cs, h => h.elim
  | a :: as, [], [], h => h.elim
  | a :: as, [], c :: cs, h => h.elim
  | a :: as, b :: bs, [], h => h.elim
theorem Fa3.mem : ∀ {as : List α} {bs : List β} {cs : List γ} {c : γ}, Fa3 P as bs cs → c ∈ cs → ∃ a b, a ∈ as ∧ b ∈ bs ∧ P a b c
  | a :: as, b :: bs, c :: cs, c', ⟨h, r⟩, m => by
    rcases List.mem_cons.mp m with rfl | m
    · exact ⟨a, b, List.mem_cons_self, List.mem_cons_self, h⟩
    · obtain ⟨x, y, h1, h2, p⟩ := Fa3.mem r m
      exact ⟨x, y, List.mem_cons_of_mem _ h1, List.mem_cons_of_mem _ h2, p⟩
  | [], [], [], _, h, m => by cases m
  | [], [], c :: cs, _, h, _ => h.elim
  | [], b :: bs, [], _, h, _ => h.elim
  | [], b :: bs, c :: cs, _, h, _ => h.elim
  | a :: as, [], [], _, h, _ => h.elim
  | a :: as, [], c :: cs, _, h, _ => h.elim
  | a :: as, b :: bs, [], _, h, _ => h.elim
end
theorem nd_set : ∀ {fs : List (List Nat)} {i : Nat} {f : List Nat}, fs.flatten.Nodup → f.Nodup → (∀ n ∈ f, n ∉ (fs.set i []).flatten) → (fs.set i f).flatten.Nodup
  | [], i, f, h, _, _ => by simpa using h
  | g :: fs, 0, f, h, hf, d => by
    rw [List.flatten_cons, List.nodup_append] at h
    show (f :: fs).flatten.Nodup
    rw [List.flatten_cons, List.nodup_append]
    refine ⟨hf, h.2.1, fun a ha b hb e => d a ha ?_⟩
    show a ∈ ([] :: fs).flatten
    rw [List.flatten_cons, List.nil_append, e]
    exact hb
  | g :: fs, i + 1, f, h, hf, d => by
    rw [List.flatten_cons, List.nodup_append] at h
    show (g :: fs.set i f).flatten.Nodup
    have d' : ∀ n ∈ f, n ∉ g ∧ n ∉ (fs.set i []).flatten := fun n hn => by
      have := d n hn
      rw [show (g :: fs).set (i + 1) [] = g :: fs.set i [] from rfl, List.flatten_cons, List.mem_append, not_or] at this
      exact this
    rw [List.flatten_cons, List.nodup_append]
    refine ⟨h.1, nd_set h.2.1 hf fun n hn => (d' n hn).2, fun a ha b hb e => ?_⟩
    subst e
    have : ∀ (fs : List (List Nat)) (i : Nat) (f : List Nat) (a : Nat), a ∈ (fs.set i f).flatten → a ∈ f ∨ a ∈ fs.flatten := by
      intro fs i f a m
      obtain ⟨l, hl, hm⟩ := List.mem_flatten.mp m
      rcases List.mem_or_eq_of_mem_set hl with h | h
      · exact .inr (List.mem_flatten.mpr ⟨l, h, hm⟩)
      · exact .inl (h ▸ hm)
    rcases this _ _ _ _ hb with z | z
    · exact (d' a z).1 ha
    · exact h.2.2 a ha a z rfl
theorem mem_set {fs : List (List Nat)} {i : Nat} {f : List Nat} {a : Nat} (m : a ∈ (fs.set i f).flatten) : a ∈ f ∨ a ∈ (fs.set i []).flatten := by
  obtain ⟨l, hl, hm⟩ := List.mem_flatten.mp m
  obtain ⟨j, hj⟩ := List.getElem?_of_mem hl
  by_cases e : i = j
  · subst e
    have hlt : i < fs.length := by
      have := (List.getElem?_eq_some_iff.mp hj).1
      rw [List.length_set] at this
      exact this
    rw [List.getElem?_set_self hlt] at hj
    cases hj
    exact .inl hm
  · rw [List.getElem?_set_ne e] at hj
    refine .inr (List.mem_flatten.mpr ⟨l, ?_, hm⟩)
    refine List.mem_of_getElem? (i := j) ?_
    rw [List.getElem?_set_ne e]; exact hj
theorem mem_rest {fs : List (List Nat)} {i : Nat} {a : Nat} (m : a ∈ (fs.set i []).flatten) : a ∈ fs.flatten := by
  obtain ⟨l, hl, hm⟩ := List.mem_flatten.mp m
  rcases List.mem_or_eq_of_mem_set hl with h | h
  · exact List.mem_flatten.mpr ⟨l, h, hm⟩
  · rw [h] at hm; cases hm
theorem mem_at {fs : List (List Nat)} {i : Nat} {f : List Nat} {a : Nat} (e : fs[i]? = some f) (m : a ∈ f) : a ∈ fs.flatten := List.mem_flatten.mpr ⟨f, List.mem_of_getElem? e, m⟩
theorem nd_at : ∀ {fs : List (List Nat)} {i : Nat} {f : List Nat}, fs.flatten.Nodup → fs[i]? = some f → f.Nodup ∧ ∀ a ∈ f, a ∉ (fs.set i []).flatten
  | g :: fs, 0, f, h, e => by
    cases e
    rw [List.flatten_cons, List.nodup_append] at h
    refine ⟨h.1, fun a ha m => ?_⟩
    have m : a ∈ ([] :: fs).flatten := m
    rw [List.flatten_cons, List.nil_append] at m
    exact h.2.2 a ha a m rfl
  | g :: fs, i + 1, f, h, e => by
    have e : fs[i]? = some f := e
    rw [List.flatten_cons, List.nodup_append] at h
    obtain ⟨h1, h2⟩ := nd_at h.2.1 e
    refine ⟨h1, fun a ha m => ?_⟩
    have m : a ∈ (g :: fs.set i []).flatten := m
    rw [List.flatten_cons, List.mem_append] at m
    rcases m with m | m
    · exact h.2.2 a m a (mem_at e ha) rfl
    · exact h2 a ha m
  | [], i, f, h, e => by simp at e
theorem nd_rest {fs : List (List Nat)} {i : Nat} (h : fs.flatten.Nodup) : (fs.set i []).flatten.Nodup := nd_set h List.nodup_nil (by simp)
def isLD : PyData → Bool
  | .list _ => true
  | .dict _ => true
  | .tuple ds => !immL ds
  | _ => false
def leaf (b : Bool) (s : SV) (x : PyData) : Prop := s = .d x ∨ (b = true ∧ s = mkv x)
def RV (h : AH) (b : Bool) : Nat → SV → PyData → List Nat → Prop
  | 0, s, x, f => f = [] ∧ leaf b s x
  | k + 1, s, x, f => (f = [] ∧ leaf b s x ∧ isLD x = false) ∨ (∃ n xs ds fs, s = .r n ∧ h[n]? = some (some (.lst xs)) ∧ x = .list ds ∧ f = n :: fs.flatten ∧ Fa3 (RV h b k) xs ds fs)
    ∨ (∃ n kvs ds fs, s = .r n ∧ h[n]? = some (some (.dct kvs)) ∧ x = .dict (zipD (kvs.map Prod.fst) ds) ∧ f = n :: fs.flatten ∧ Fa3 (RV h b k) (kvs.map Prod.snd) ds fs)
    ∨ (∃ n xs ds fs, s = .r n ∧ (h[n]? = some (some (.tup xs)) ∧ immL ds = false) ∧ x = .tuple ds ∧ f = n :: fs.flatten ∧ Fa3 (RV h b k) xs ds fs)
theorem RV.frame {h h' : AH} {b : Bool} : ∀ {k : Nat} {s : SV} {x : PyData} {f : List Nat}, (∀ n ∈ f, h'[n]? = h[n]?) → RV h b k s x f → RV h' b k s x f
  | 0, s, x, f, _, r => r
  | k + 1, s, x, f, e, r => by
    unfold RV at r ⊢
    rcases r with r | ⟨n, xs, ds, fs, rfl, hn, rfl, rfl, r⟩ | ⟨n, xs, ds, fs, rfl, hn, rfl, rfl, r⟩ | ⟨n, xs, ds, fs, rfl, hn, rfl, rfl, r⟩
    · exact .inl r
    · refine .inr (.inl ⟨n, xs, ds, fs, rfl, (e n List.mem_cons_self).trans hn, rfl, rfl, ?_⟩)
      exact Fa3.imp (cs0 := fs) (fun a b' c hc p => RV.frame (fun m hm => e m (List.mem_cons_of_mem _ (List.mem_flatten.mpr ⟨c, hc, hm⟩))) p) (fun c hc => hc) r
    · refine .inr (.inr (.inl ⟨n, xs, ds, fs, rfl, (e n List.mem_cons_self).trans hn, rfl, rfl, ?_⟩))
      exact Fa3.imp (cs0 := fs) (fun a b' c hc p => RV.frame (fun m hm => e m (List.mem_cons_of_mem _ (List.mem_flatten.mpr ⟨c, hc, hm⟩))) p) (fun c hc => hc) r
    · refine .inr (.inr (.inr ⟨n, xs, ds, fs, rfl, ⟨(e n List.mem_cons_self).trans hn.1, hn.2⟩, rfl, rfl, ?_⟩))
      exact Fa3.imp (cs0 := fs) (fun a b' c hc p => RV.frame (fun m hm => e m (List.mem_cons_of_mem _ (List.mem_flatten.mpr ⟨c, hc, hm⟩))) p) (fun c hc => hc) r
theorem RV.lt {h : AH} {b : Bool} : ∀ {k : Nat} {s : SV} {x : PyData} {f : List Nat}, RV h b k s x f → ∀ n ∈ f, n < h.length
  | 0, s, x, f, r, n, m => by rw [r.1] at m; cases m
  | k + 1, s, x, f, r, n, m => by
    unfold RV at r
    rcases r with r | ⟨n', xs, ds, fs, rfl, hn, rfl, rfl, r⟩ | ⟨n', xs, ds, fs, rfl, hn, rfl, rfl, r⟩ | ⟨n', xs, ds, fs, rfl, hn, rfl, rfl, r⟩
    · rw [r.1] at m; cases m
    · rcases List.mem_cons.mp m with rfl | m
      · exact (List.getElem?_eq_some_iff.mp hn).1
      · obtain ⟨l, hl, hm⟩ := List.mem_flatten.mp m
        obtain ⟨a, d, _, _, p⟩ := Fa3.mem r hl
        exact RV.lt p n hm
    · rcases List.mem_cons.mp m with rfl | m
      · exact (List.getElem?_eq_some_iff.mp hn).1
      · obtain ⟨l, hl, hm⟩ := List.mem_flatten.mp m
        obtain ⟨a, d, _, _, p⟩ := Fa3.mem r hl
        exact RV.lt p n hm
    · rcases List.mem_cons.mp m with rfl | m
      · exact (List.getElem?_eq_some_iff.mp hn.1).1
      · obtain ⟨l, hl, hm⟩ := List.mem_flatten.mp m
        obtain ⟨a, d, _, _, p⟩ := Fa3.mem r hl
        exact RV.lt p n hm
theorem RV.app {h t : AH} {b : Bool} {k : Nat} {s : SV} {x : PyData} {f : List Nat} (r : RV h b k s x f) : RV (h ++ t) b k s x f := r.frame fun n m => by
  rw [List.getElem?_append_left (r.lt n m)]
theorem leaf_rb {h : AH} {b : Bool} {s : SV} {x : PyData} {j : Nat} (l : leaf b s x) : rb h j s = some x := by
  rcases l with rfl | ⟨_, rfl⟩
  · exact rb_d
  · exact rb_mkv
theorem RV.rb {h : AH} {b : Bool} : ∀ {k : Nat} {s : SV} {x : PyData} {f : List Nat} {j : Nat}, RV h b k s x f → k ≤ j → rb h j s = some x
  | 0, s, x, f, j, r, _ => leaf_rb r.2
  | k + 1, s, x, f, 0, r, hj => by omega
  | k + 1, s, x, f, j + 1, r, hj => by
    unfold RV at r
    have lst : ∀ (xs : List SV) (ds : List PyData) (fs : List (List Nat)), Fa3 (RV h b k) xs ds fs → rbL h j xs = some ds := by
      intro xs
      induction xs with
      | nil =>
        intro ds fs r
        cases ds with
        | nil => unfold rbL; rfl
        | cons d ds => cases fs <;> exact r.elim
      | cons a xs ih =>
        intro ds fs r
        cases ds with
        | nil => cases fs <;> exact r.elim
        | cons d ds =>
          cases fs with
          | nil => exact r.elim
          | cons f fs =>
            unfold rbL
            rw [RV.rb r.1 (by omega : k ≤ j)]
            dsimp only
            rw [ih ds fs r.2]
    rcases r with r | ⟨n', xs, ds, fs, rfl, hn, rfl, rfl, r⟩ | ⟨n', xs, ds, fs, rfl, hn, rfl, rfl, r⟩ | ⟨n', xs, ds, fs, rfl, hn, rfl, rfl, r⟩
    · exact leaf_rb r.2.1
    · unfold Zx.rb
      rw [hn]
      dsimp only
      rw [lst xs ds fs r]; rfl
    · unfold Zx.rb
      rw [hn]
      dsimp only
      rw [lst _ ds fs r]; rfl
    · unfold Zx.rb
      rw [hn.1]
      dsimp only
      rw [lst _ ds fs r]; rfl
theorem RV.below {h : AH} {b : Bool} {L : Nat} (hL : (h.take L).all (belowO L) = true) : ∀ {k : Nat} {s : SV} {x : PyData} {f : List Nat}, RV h b k s x f → below L s = true → ∀ n ∈ f, n < L
  | 0, s, x, f, r, _, n, m => by rw [r.1] at m; cases m
  | k + 1, s, x, f, r, hs, n, m => by
    unfold RV at r
    have lst : ∀ (xs : List SV) (ds : List PyData) (fs : List (List Nat)), Fa3 (RV h b k) xs ds fs → xs.all (Zx.below L) = true → ∀ n ∈ fs.flatten, n < L := by
      intro xs
      induction xs with
      | nil =>
        intro ds fs r
        cases ds with
        | nil => cases fs with
          | nil => intro _ n m; cases m
          | cons f fs => exact r.elim
        | cons d ds => cases fs <;> exact r.elim
      | cons a xs ih =>
        intro ds fs r
        cases ds with
        | nil => cases fs <;> exact r.elim
        | cons d ds =>
          cases fs with
          | nil => exact r.elim
          | cons f fs =>
            intro hx n m
            rw [List.all_cons, Bool.and_eq_true] at hx
            rw [List.flatten_cons, List.mem_append] at m
            rcases m with m | m
            · exact RV.below hL r.1 hx.1 n m
            · exact ih ds fs r.2 hx.2 n m
    have cell : ∀ n' o, Zx.below L (.r n') = true → h[n']? = some o → n' < L ∧ belowO L o = true := fun n' o hb hn => by
      have hlt : n' < L := of_decide_eq_true hb
      refine ⟨hlt, ?_⟩
      rw [List.all_eq_true] at hL
      refine hL o (List.mem_of_getElem? (i := n') ?_)
      rw [List.getElem?_take_of_lt hlt]; exact hn
    rcases r with r | ⟨n', xs, ds, fs, rfl, hn, rfl, rfl, r⟩ | ⟨n', xs, ds, fs, rfl, hn, rfl, rfl, r⟩ | ⟨n', xs, ds, fs, rfl, hn, rfl, rfl, r⟩
    · rw [r.1] at m; cases m
    · obtain ⟨h1, h2⟩ := cell n' _ hs hn
      rcases List.mem_cons.mp m with rfl | m
      · exact h1
      · exact lst xs ds fs r h2 n m
    · obtain ⟨h1, h2⟩ := cell n' _ hs hn
      rcases List.mem_cons.mp m with rfl | m
      · exact h1
      · exact lst _ ds fs r h2 n m
    · obtain ⟨h1, h2⟩ := cell n' _ hs hn.1
      rcases List.mem_cons.mp m with rfl | m
      · exact h1
      · exact lst _ ds fs r h2 n m
theorem RV.cut {h : AH} {b : Bool} {L : Nat} {k : Nat} {s : SV} {x : PyData} {f : List Nat} (r : RV h b k s x f) (d : ∀ n ∈ f, n < L) : RV (h.take L) b k s x f := r.frame fun n m => List.getElem?_take_of_lt (d n m)
theorem RV.fz {b : Bool} (hb : b = false) : ∀ {k : Nat} {h : AH} {s : SV} {x : PyData} {f : List Nat} {j : Nat}, RV h b k s x f → f.Nodup → k ≤ j → ∃ h', fzv j h s = some (x, h') ∧ h'.length = h.length ∧ ∀ m, m ∉ f → h'[m]? = h[m]?
  | 0, h, s, x, f, j, r, _, _ => by
    rcases r.2 with rfl | ⟨e, _⟩
    · refine ⟨h, ?_, rfl, fun _ _ => rfl⟩
      cases j <;> (unfold fzv; rfl)
    · rw [hb] at e; cases e
  | k + 1, h, s, x, f, 0, r, _, hj => by omega
  | k + 1, h, s, x, f, j + 1, r, nd, hj => by
    unfold RV at r
    have lst : ∀ (xs : List SV) (h : AH) (ds : List PyData) (fs : List (List Nat)), Fa3 (RV h b k) xs ds fs → fs.flatten.Nodup → ∃ h', fzL j h xs = some (ds, h') ∧ h'.length = h.length ∧ ∀ m, m ∉ fs.flatten → h'[m]? = h[m]? := by
      intro xs
      induction xs with
      | nil =>
        intro h ds fs r _
        cases ds with
        | nil => exact ⟨h, by unfold fzL; rfl, rfl, fun _ _ => rfl⟩
        | cons d ds => cases fs <;> exact r.elim
      | cons a xs ih =>
        intro h ds fs r nd
        cases ds with
        | nil => cases fs <;> exact r.elim
        | cons d ds =>
          cases fs with
          | nil => exact r.elim
          | cons f fs =>
            rw [List.flatten_cons, List.nodup_append] at nd
            obtain ⟨h1, e1, l1, k1⟩ := RV.fz hb r.1 nd.1 (by omega : k ≤ j)
            have r2 : Fa3 (RV h1 b k) xs ds fs := Fa3.imp (cs0 := fs) (fun a b' c hc p => RV.frame (fun m hm => k1 m fun z => nd.2.2 m z m (List.mem_flatten.mpr ⟨c, hc, hm⟩) rfl) p) (fun c hc => hc) r.2
            obtain ⟨h2, e2, l2, k2⟩ := ih h1 ds fs r2 nd.2.1
            refine ⟨h2, ?_, l2.trans l1, fun m hm => ?_⟩
            · unfold fzL
              rw [e1]
              dsimp only
              rw [e2]
            · rw [List.flatten_cons, List.mem_append, not_or] at hm
              rw [k2 m hm.2, k1 m hm.1]
    rcases r with r | ⟨n', xs, ds, fs, rfl, hn, rfl, rfl, r⟩ | ⟨n', xs, ds, fs, rfl, hn, rfl, rfl, r⟩ | ⟨n', xs, ds, fs, rfl, hn, rfl, rfl, r⟩
    · rcases r.2.1 with rfl | ⟨e, _⟩
      · refine ⟨h, ?_, rfl, fun _ _ => rfl⟩
        unfold fzv; rfl
      · rw [hb] at e; cases e
    · rw [List.nodup_cons] at nd
      obtain ⟨h1, e1, l1, k1⟩ := lst xs h ds fs r nd.2
      refine ⟨h1.set n' none, ?_, by rw [List.length_set]; exact l1, fun m hm => ?_⟩
      · unfold fzv
        rw [hn]
        dsimp only
        rw [e1]
        dsimp only
        rw [k1 n' nd.1, hn]
        dsimp only
        rw [if_pos ⟨rfl, l1⟩]
      · rw [List.mem_cons, not_or] at hm
        rw [List.getElem?_set_ne (Ne.symm hm.1), k1 m hm.2]
    · rw [List.nodup_cons] at nd
      obtain ⟨h1, e1, l1, k1⟩ := lst _ h ds fs r nd.2
      refine ⟨h1.set n' none, ?_, by rw [List.length_set]; exact l1, fun m hm => ?_⟩
      · unfold fzv
        rw [hn]
        dsimp only
        rw [e1]
        dsimp only
        rw [k1 n' nd.1, hn]
        dsimp only
        rw [if_pos ⟨rfl, l1⟩]
      · rw [List.mem_cons, not_or] at hm
        rw [List.getElem?_set_ne (Ne.symm hm.1), k1 m hm.2]
    · rw [List.nodup_cons] at nd
      obtain ⟨h1, e1, l1, k1⟩ := lst _ h ds fs r nd.2
      refine ⟨h1.set n' none, ?_, by rw [List.length_set]; exact l1, fun m hm => ?_⟩
      · unfold fzv
        rw [hn.1]
        dsimp only
        rw [e1]
        dsimp only
        rw [k1 n' nd.1, hn.1]
        dsimp only
        rw [if_pos ⟨rfl, l1⟩]
      · rw [List.mem_cons, not_or] at hm
        rw [List.getElem?_set_ne (Ne.symm hm.1), k1 m hm.2]
theorem RV.shift {h hn : AH} : ∀ {k : Nat} {s : SV} {x : PyData} {f : List Nat}, RV hn false k s x f → RV (h ++ shh h.length hn) false k (shv h.length s) x (f.map (· + h.length))
  | 0, s, x, f, r => by
    rcases r with ⟨rfl, rfl | ⟨e, _⟩⟩
    · exact ⟨rfl, .inl rfl⟩
    · cases e
  | k + 1, s, x, f, r => by
    unfold RV at r ⊢
    have lst : ∀ (xs : List SV) (ds : List PyData) (fs : List (List Nat)), Fa3 (RV hn false k) xs ds fs → Fa3 (RV (h ++ shh h.length hn) false k) (xs.map (shv h.length)) ds (fs.map (List.map (· + h.length))) := by
      intro xs
      induction xs with
      | nil =>
        intro ds fs r
        cases ds with
        | nil => cases fs with
          | nil => exact trivial
          | cons f fs => exact r.elim
        | cons d ds => cases fs <;> exact r.elim
      | cons a xs ih =>
        intro ds fs r
        cases ds with
        | nil => cases fs <;> exact r.elim
        | cons d ds =>
          cases fs with
          | nil => exact r.elim
          | cons f fs => exact ⟨RV.shift r.1, ih ds fs r.2⟩
    have cell : ∀ n o, hn[n]? = some (some o) → (h ++ shh h.length hn)[n + h.length]? = some (some (sho h.length o)) := fun n o e => by
      rw [List.getElem?_append_right (by omega), Nat.add_sub_cancel]
      unfold shh
      rw [List.getElem?_map, e]; rfl
    rcases r with ⟨rfl, l, hl⟩ | ⟨n', xs, ds, fs, rfl, hn, rfl, rfl, r⟩ | ⟨n', xs, ds, fs, rfl, hn, rfl, rfl, r⟩ | ⟨n', xs, ds, fs, rfl, hn, rfl, rfl, r⟩
    · rcases l with rfl | ⟨e, _⟩
      · exact .inl ⟨rfl, .inl rfl, hl⟩
      · cases e
    · refine .inr (.inl ⟨n' + h.length, xs.map (shv h.length), ds, fs.map (List.map (· + h.length)), rfl, cell _ _ hn, rfl, ?_, lst xs ds fs r⟩)
      rw [List.map_cons, List.map_flatten]
    · refine .inr (.inr (.inl ⟨n' + h.length, xs.map fun p => (p.1, shv h.length p.2), ds, fs.map (List.map (· + h.length)), rfl, cell _ _ hn, ?_, ?_, ?_⟩))
      · rw [List.map_map]; rfl
      · rw [List.map_cons, List.map_flatten]
      · have := lst _ ds fs r
        rw [List.map_map] at this ⊢
        exact this
    · refine .inr (.inr (.inr ⟨n' + h.length, xs.map (shv h.length), ds, fs.map (List.map (· + h.length)), rfl, ⟨cell _ _ hn.1, hn.2⟩, rfl, ?_, lst xs ds fs r⟩))
      rw [List.map_cons, List.map_flatten]
end Zx.V
namespace Zx.V
open PySem PySem.Spec L2
inductive VS where | un | v (x : PyData) | sc (ns : List Int) | ex (c : Str)
abbrev KD := Bool × Nat
def RS1 (h : AH) (k : KD) (s : SV) : VS → List Nat → Prop
  | .un, f => f = []
  | .v x, f => RV h k.1 k.2 s x f
  | .sc ns, f => s = .sc ns ∧ f = []
  | .ex c, f => s = .ex c ∧ f = []
def RSt (h : AH) : List KD → List SV → List VS → List (List Nat) → Prop
  | [], sl, vs, fs => sl = [] ∧ vs = [] ∧ fs = []
  | k :: D, sl, vs, fs => ∃ s sl' v vs' f fs', sl = s :: sl' ∧ vs = v :: vs' ∧ fs = f :: fs' ∧ RS1 h k s v f ∧ RSt h D sl' vs' fs'
theorem RS1.frame {h h' : AH} {k : KD} {s : SV} {v : VS} {f : List Nat} (e : ∀ n ∈ f, h'[n]? = h[n]?) (r : RS1 h k s v f) : RS1 h' k s v f := by
  cases v with
  | un => exact r
  | v x => exact RV.frame e r
  | sc x => exact r
  | ex x => exact r
theorem RS1.lt {h : AH} {k : KD} {s : SV} {v : VS} {f : List Nat} (r : RS1 h k s v f) : ∀ n ∈ f, n < h.length := by
  cases v with
  | un => intro n m; rw [show f = [] from r] at m; cases m
  | v x => exact RV.lt r
  | sc x => intro n m; rw [r.2] at m; cases m
  | ex x => intro n m; rw [r.2] at m; cases m
theorem RSt.frame {h h' : AH} : ∀ {D : List KD} {sl : List SV} {vs : List VS} {fs : List (List Nat)}, (∀ n ∈ fs.flatten, h'[n]? = h[n]?) → RSt h D sl vs fs → RSt h' D sl vs fs
  | [], sl, vs, fs, _, r => r
  | k :: D, sl, vs, fs, e, ⟨s, sl', v, vs', f, fs', h1, h2, h3, r1, r2⟩ => by
    subst h3
    exact ⟨s, sl', v, vs', f, fs', h1, h2, rfl, r1.frame fun n m => e n (List.mem_append.mpr (.inl m)), RSt.frame (fun n m => e n (List.mem_append.mpr (.inr m))) r2⟩
theorem RSt.lt {h : AH} : ∀ {D : List KD} {sl : List SV} {vs : List VS} {fs : List (List Nat)}, RSt h D sl vs fs → ∀ n ∈ fs.flatten, n < h.length
  | [], sl, vs, fs, r, n, m => by rw [r.2.2] at m; cases m
  | k :: D, sl, vs, fs, ⟨s, sl', v, vs', f, fs', h1, h2, h3, r1, r2⟩, n, m => by
    subst h3
    rcases List.mem_append.mp m with m | m
    · exact r1.lt n m
    · exact RSt.lt r2 n m
theorem RSt.app {h t : AH} {D : List KD} {sl : List SV} {vs : List VS} {fs : List (List Nat)} (r : RSt h D sl vs fs) : RSt (h ++ t) D sl vs fs := r.frame fun n m => by
  rw [List.getElem?_append_left (r.lt n m)]
theorem RSt.len {h : AH} : ∀ {D : List KD} {sl : List SV} {vs : List VS} {fs : List (List Nat)}, RSt h D sl vs fs → sl.length = D.length ∧ vs.length = D.length ∧ fs.length = D.length
  | [], sl, vs, fs, r => by rw [r.1, r.2.1, r.2.2]; exact ⟨rfl, rfl, rfl⟩
  | k :: D, sl, vs, fs, ⟨s, sl', v, vs', f, fs', h1, h2, h3, r1, r2⟩ => by
    have := RSt.len r2
    rw [h1, h2, h3, List.length_cons, List.length_cons, List.length_cons, List.length_cons]
    omega
theorem RSt.get {h : AH} : ∀ {D : List KD} {sl : List SV} {vs : List VS} {fs : List (List Nat)} {i : Nat} {k : KD}, RSt h D sl vs fs → D[i]? = some k → ∃ s v f, sl[i]? = some s ∧ vs[i]? = some v ∧ fs[i]? = some f ∧ RS1 h k s v f
  | [], sl, vs, fs, i, k, r, e => by simp at e
  | k :: D, sl, vs, fs, 0, k', ⟨s, sl', v, vs', f, fs', h1, h2, h3, r1, r2⟩, e => by
    cases e
    exact ⟨s, v, f, by rw [h1]; rfl, by rw [h2]; rfl, by rw [h3]; rfl, r1⟩
  | k :: D, sl, vs, fs, i + 1, k', ⟨s, sl', v, vs', f, fs', h1, h2, h3, r1, r2⟩, e => by
    have e : D[i]? = some k' := e
    obtain ⟨s', v', f', e1, e2, e3, r⟩ := RSt.get r2 e
    exact ⟨s', v', f', by rw [h1]; exact e1, by rw [h2]; exact e2, by rw [h3]; exact e3, r⟩
theorem RSt.set {h : AH} {s' : SV} {v' : VS} {f' : List Nat} : ∀ {D : List KD} {sl : List SV} {vs : List VS} {fs : List (List Nat)} {i : Nat} {k : KD}, RSt h D sl vs fs → D[i]? = some k → RS1 h k s' v' f' → RSt h D (sl.set i s') (vs.set i v') (fs.set i f')
  | [], sl, vs, fs, i, k, r, e, _ => by simp at e
  | k :: D, sl, vs, fs, 0, k', ⟨s, sl', v, vs', f, fs', h1, h2, h3, r1, r2⟩, e, r => by
    cases e
    exact ⟨s', sl', v', vs', f', fs', by rw [h1]; rfl, by rw [h2]; rfl, by rw [h3]; rfl, r, r2⟩
  | k :: D, sl, vs, fs, i + 1, k', ⟨s, sl', v, vs', f, fs', h1, h2, h3, r1, r2⟩, e, r => by
    have e : D[i]? = some k' := e
    exact ⟨s, sl'.set i s', v, vs'.set i v', f, fs'.set i f', by rw [h1]; rfl, by rw [h2]; rfl, by rw [h3]; rfl, r1, RSt.set r2 e r⟩
theorem RSt.drop {h : AH} : ∀ {D : List KD} {sl : List SV} {vs : List VS} {fs : List (List Nat)} (i : Nat), RSt h D sl vs fs → RSt h D sl (vs.set i .un) (fs.set i [])
  | [], sl, vs, fs, i, r => by rw [r.1, r.2.1, r.2.2]; cases i <;> exact ⟨rfl, rfl, rfl⟩
  | k :: D, sl, vs, fs, 0, ⟨s, sl', v, vs', f, fs', h1, h2, h3, r1, r2⟩ => ⟨s, sl', .un, vs', [], fs', h1, by rw [h2]; rfl, by rw [h3]; rfl, rfl, r2⟩
  | k :: D, sl, vs, fs, i + 1, ⟨s, sl', v, vs', f, fs', h1, h2, h3, r1, r2⟩ => ⟨s, sl', v, vs'.set i .un, f, fs'.set i [], h1, by rw [h2]; rfl, by rw [h3]; rfl, r1, RSt.drop i r2⟩
theorem leaf_imm {b : Bool} {s : SV} {x : PyData} (l : leaf b s x) (c : imm x = true) : s = .d x := by
  rcases l with rfl | ⟨_, rfl⟩
  · rfl
  · unfold mkv; rw [if_pos c]
theorem RV.imm {h : AH} {b : Bool} {k : Nat} {s : SV} {x : PyData} {f : List Nat} (r : RV h b k s x f) (c : Zx.imm x = true) : s = .d x ∧ f = [] := by
  cases k with
  | zero => exact ⟨leaf_imm r.2 c, r.1⟩
  | succ k =>
    unfold RV at r
    rcases r with r | ⟨n', xs, ds, fs, rfl, hn, rfl, rfl, r⟩ | ⟨n', xs, ds, fs, rfl, hn, rfl, rfl, r⟩ | ⟨n', xs, ds, fs, rfl, hn, rfl, rfl, r⟩
    · exact ⟨leaf_imm r.2.1 c, r.1⟩
    · cases c
    · cases c
    · unfold Zx.imm at c
      rw [hn.2] at c; cases c
theorem RV.d {h : AH} {b : Bool} {x : PyData} : RV h b 0 (.d x) x [] := ⟨rfl, .inl rfl⟩
theorem RV.dk {h : AH} {b : Bool} {x : PyData} (c : isLD x = false) : ∀ {k : Nat}, RV h b k (.d x) x []
  | 0 => RV.d
  | k + 1 => .inl ⟨rfl, .inl rfl, c⟩
theorem RV.bm {h : AH} {b b' : Bool} (hb : (!b || b') = true) : ∀ {k : Nat} {s : SV} {x : PyData} {f : List Nat}, RV h b k s x f → RV h b' k s x f
  | 0, s, x, f, r => ⟨r.1, r.2.imp_right fun z => ⟨by rw [z.1] at hb; simpa using hb, z.2⟩⟩
  | k + 1, s, x, f, r => by
    unfold RV at r ⊢
    rcases r with r | ⟨n', xs, ds, fs, rfl, hn, rfl, rfl, r⟩ | ⟨n', xs, ds, fs, rfl, hn, rfl, rfl, r⟩ | ⟨n', xs, ds, fs, rfl, hn, rfl, rfl, r⟩
    · exact .inl ⟨r.1, r.2.1.imp_right fun z => ⟨by rw [z.1] at hb; simpa using hb, z.2⟩, r.2.2⟩
    · exact .inr (.inl ⟨n', xs, ds, fs, rfl, hn, rfl, rfl, Fa3.imp (cs0 := fs) (fun _ _ _ _ p => RV.bm hb p) (fun _ m => m) r⟩)
    · exact .inr (.inr (.inl ⟨n', xs, ds, fs, rfl, hn, rfl, rfl, Fa3.imp (cs0 := fs) (fun _ _ _ _ p => RV.bm hb p) (fun _ m => m) r⟩))
    · exact .inr (.inr (.inr ⟨n', xs, ds, fs, rfl, hn, rfl, rfl, Fa3.imp (cs0 := fs) (fun _ _ _ _ p => RV.bm hb p) (fun _ m => m) r⟩))
inductive VR (α : Type) where
  | ok (a : α) (vs : List VS) | rz (c : Str) | st
def VR.bind {α β : Type} (r : VR α) (k : α → List VS → VR β) : VR β := match r with
  | .ok a vs => k a vs
  | .rz c => .rz c
  | .st => .st
abbrev VE := List VS → VR PyData
abbrev VA := List VS → VR (List PyData)
abbrev VT := List VS → VR Bool
def OutE (b : Bool) (k : Nat) (fr : Bool) (L : Nat) (h : AH) (vs : List VS) (r : VR PyData) (q : R SV) : Prop := match r with
  | .ok x vs' => vs' = vs ∧ ∃ s t fp, q = .ok s (h ++ t) ∧ RV (h ++ t) b k s x fp ∧ fp.Nodup ∧ (fr = true → ∀ n ∈ fp, L ≤ n)
  | .rz c => ∃ t, q = .rz c (h ++ t)
  | .st => True
def OutP {α β : Type} (rep : AH → β → α → Prop) (h : AH) (vs : List VS) (r : VR β) (q : R α) : Prop := match r with
  | .ok x vs' => vs' = vs ∧ ∃ a t, q = .ok a (h ++ t) ∧ rep (h ++ t) x a
  | .rz c => ∃ t, q = .rz c (h ++ t)
  | .st => True
theorem OutE.pre {b : Bool} {k : Nat} {fr : Bool} {L : Nat} {h t : AH} {vs : List VS} {r : VR PyData} {q : R SV} (o : OutE b k fr L (h ++ t) vs r q) : OutE b k fr L h vs r q := by
  cases r with
  | ok x vs' =>
    obtain ⟨e, s, t', fp, h1, h2, h3, h4⟩ := o
    rw [List.append_assoc] at h1 h2
    exact ⟨e, s, t ++ t', fp, h1, h2, h3, h4⟩
  | rz c =>
    obtain ⟨t', e⟩ := o
    rw [List.append_assoc] at e
    exact ⟨t ++ t', e⟩
  | st => trivial
theorem OutP.pre {α β : Type} {rep : AH → β → α → Prop} {h t : AH} {vs : List VS} {r : VR β} {q : R α} (o : OutP rep (h ++ t) vs r q) : OutP rep h vs r q := by
  cases r with
  | ok x vs' =>
    obtain ⟨e, a, t', h1, h2⟩ := o
    rw [List.append_assoc] at h1 h2
    exact ⟨e, a, t ++ t', h1, h2⟩
  | rz c =>
    obtain ⟨t', e⟩ := o
    rw [List.append_assoc] at e
    exact ⟨t ++ t', e⟩
  | st => trivial
theorem OutE.up {b : Bool} {k : Nat} {fr : Bool} {L M : Nat} (hl : L ≤ M) {h : AH} {vs : List VS} {r : VR PyData} {q : R SV} (o : OutE b k fr M h vs r q) : OutE b k fr L h vs r q := by
  cases r with
  | ok x vs' =>
    obtain ⟨e, s, t', fp, h1, h2, h3, h4⟩ := o
    exact ⟨e, s, t', fp, h1, h2, h3, fun z n m => Nat.le_trans hl (h4 z n m)⟩
  | rz c => exact o
  | st => trivial
theorem OutE.ee {b : Bool} {k : Nat} {fr : Bool} {L : Nat} {h : AH} {vs : List VS} {r : VR PyData} {q : R SV} (o : OutE b k fr L h vs r q) {b2 : Bool} {k2 : Nat} {fr2 : Bool} {L2 : Nat} {K : PyData → List VS → VR PyData} {K' : SV → AH → R SV}
    (c : ∀ x s t fp, RV (h ++ t) b k s x fp → fp.Nodup → (fr = true → ∀ n ∈ fp, L ≤ n) → OutE b2 k2 fr2 L2 (h ++ t) vs (K x vs) (K' s (h ++ t))) : OutE b2 k2 fr2 L2 h vs (r.bind K) (q.bind K') := by
  cases r with
  | ok x vs' =>
    obtain ⟨rfl, s, t, fp, rfl, h2, h3, h4⟩ := o
    exact (c x s t fp h2 h3 h4).pre
  | rz cc =>
    obtain ⟨t, rfl⟩ := o
    exact ⟨t, rfl⟩
  | st => trivial
theorem OutE.ep {b : Bool} {k : Nat} {fr : Bool} {L : Nat} {h : AH} {vs : List VS} {r : VR PyData} {q : R SV} (o : OutE b k fr L h vs r q) {α β : Type} {rep : AH → β → α → Prop} {K : PyData → List VS → VR β} {K' : SV → AH → R α}
    (c : ∀ x s t fp, RV (h ++ t) b k s x fp → fp.Nodup → (fr = true → ∀ n ∈ fp, L ≤ n) → OutP rep (h ++ t) vs (K x vs) (K' s (h ++ t))) : OutP rep h vs (r.bind K) (q.bind K') := by
  cases r with
  | ok x vs' =>
    obtain ⟨rfl, s, t, fp, rfl, h2, h3, h4⟩ := o
    exact (c x s t fp h2 h3 h4).pre
  | rz cc =>
    obtain ⟨t, rfl⟩ := o
    exact ⟨t, rfl⟩
  | st => trivial
theorem OutP.pe {α β : Type} {rep : AH → β → α → Prop} {h : AH} {vs : List VS} {r : VR β} {q : R α} (o : OutP rep h vs r q) {b2 : Bool} {k2 : Nat} {fr2 : Bool} {L2 : Nat} {K : β → List VS → VR PyData} {K' : α → AH → R SV}
    (c : ∀ x a t, rep (h ++ t) x a → OutE b2 k2 fr2 L2 (h ++ t) vs (K x vs) (K' a (h ++ t))) : OutE b2 k2 fr2 L2 h vs (r.bind K) (q.bind K') := by
  cases r with
  | ok x vs' =>
    obtain ⟨rfl, a, t, rfl, h2⟩ := o
    exact (c x a t h2).pre
  | rz cc =>
    obtain ⟨t, rfl⟩ := o
    exact ⟨t, rfl⟩
  | st => trivial
theorem OutP.pp {α β : Type} {rep : AH → β → α → Prop} {h : AH} {vs : List VS} {r : VR β} {q : R α} (o : OutP rep h vs r q) {α' β' : Type} {rep' : AH → β' → α' → Prop} {K : β → List VS → VR β'} {K' : α → AH → R α'}
    (c : ∀ x a t, rep (h ++ t) x a → OutP rep' (h ++ t) vs (K x vs) (K' a (h ++ t))) : OutP rep' h vs (r.bind K) (q.bind K') := by
  cases r with
  | ok x vs' =>
    obtain ⟨rfl, a, t, rfl, h2⟩ := o
    exact (c x a t h2).pre
  | rz cc =>
    obtain ⟨t, rfl⟩ := o
    exact ⟨t, rfl⟩
  | st => trivial
theorem OutE.dd {b : Bool} {k L : Nat} {fr : Bool} {h : AH} {vs : List VS} {x : PyData} (c : isLD x = false) : OutE b k fr L h vs (.ok x vs) (.ok (.d x) h) :=
  ⟨rfl, .d x, [], [], by rw [List.append_nil], RV.dk c, List.nodup_nil, fun _ _ m => by cases m⟩
theorem OutE.d0 {b : Bool} {L : Nat} {fr : Bool} {h : AH} {vs : List VS} {x : PyData} : OutE b 0 fr L h vs (.ok x vs) (.ok (.d x) h) :=
  ⟨rfl, .d x, [], [], by rw [List.append_nil], RV.d, List.nodup_nil, fun _ _ m => by cases m⟩
def EV (D : List KD) (b : Bool) (k : Nat) (fr : Bool) (f : FE) (g : VE) : Prop := ∀ (h : AH) (sl : List SV) (vs : List VS) (fs : List (List Nat)), RSt h D sl vs fs → fs.flatten.Nodup → OutE b k fr h.length h vs (g vs) (f sl h)
def TV (D : List KD) (f : FT) (g : VT) : Prop := ∀ (h : AH) (sl : List SV) (vs : List VS) (fs : List (List Nat)), RSt h D sl vs fs → fs.flatten.Nodup → OutP (fun _ x a => a = x) h vs (g vs) (f sl h)
def RA (h : AH) : List KD → List SV → List PyData → Prop
  | [], ss, ds => ss = [] ∧ ds = []
  | k :: KL, ss, ds => ∃ s ss' d ds' f, ss = s :: ss' ∧ ds = d :: ds' ∧ RV h k.1 k.2 s d f ∧ RA h KL ss' ds'
def AV (D : List KD) (KL : List KD) (f : FA) (g : VA) : Prop := ∀ (h : AH) (sl : List SV) (vs : List VS) (fs : List (List Nat)), RSt h D sl vs fs → fs.flatten.Nodup → OutP (fun h ds ss => RA h KL ss ds) h vs (g vs) (f sl h)
def AF (D : List KD) (b : Bool) (k : Nat) (f : FA) (g : VA) : Prop := ∀ (h : AH) (sl : List SV) (vs : List VS) (fs : List (List Nat)), RSt h D sl vs fs → fs.flatten.Nodup → OutP (fun h' ds ss => ∃ fps, Fa3 (RV h' b k) ss ds fps ∧ fps.flatten.Nodup ∧ ∀ n ∈ fps.flatten, h.length ≤ n) h vs (g vs) (f sl h)
theorem RA.app {h t : AH} : ∀ {KL : List KD} {ss : List SV} {ds : List PyData}, RA h KL ss ds → RA (h ++ t) KL ss ds
  | [], ss, ds, r => r
  | k :: KL, ss, ds, ⟨s, ss', d, ds', f, h1, h2, r1, r2⟩ => ⟨s, ss', d, ds', f, h1, h2, r1.app, RA.app r2⟩
def fVar (i : Nat) : VE := fun vs => match vs[i]? with
  | some (.v x) => .ok x vs
  | _ => .st
def fC (x : PyData) : VE := fun vs => .ok x vs
def fBin (g : PyData → PyData → List VS → VR PyData) (ga gb : VE) : VE := fun vs => (ga vs).bind fun x vs => (gb vs).bind fun y vs => g x y vs
def fUn (g : PyData → List VS → VR PyData) (ga : VE) : VE := fun vs => (ga vs).bind fun x vs => g x vs
def tst (x : PyData) (vs : List VS) : VR Bool := match x with
  | .bool b => .ok b vs
  | _ => .st
def fTst (g : VE) : VT := fun vs => (g vs).bind tst
def fAndT (ga gb : VT) : VT := fun vs => (ga vs).bind fun k vs => if k = true then gb vs else .ok false vs
def fOrT (ga gb : VT) : VT := fun vs => (ga vs).bind fun k vs => if k = true then .ok true vs else gb vs
def fNotT (ga : VT) : VT := fun vs => (ga vs).bind fun k vs => .ok (!k) vs
def fAndV (ga gb : VE) : VE := fun vs => (ga vs).bind fun x vs => (tst x vs).bind fun k vs => if k = true then gb vs else .ok (.bool false) vs
def fOrV (ga gb : VE) : VE := fun vs => (ga vs).bind fun x vs => (tst x vs).bind fun k vs => if k = true then .ok (.bool true) vs else gb vs
def fNotV (ga : VE) : VE := fun vs => (ga vs).bind fun x vs => (tst x vs).bind fun k vs => .ok (.bool (!k)) vs
def fIf (gt : VT) (ga gb : VE) : VE := fun vs => (gt vs).bind fun k vs => if k = true then ga vs else gb vs
def fChain (g g' : PyData → PyData → List VS → VR PyData) (ga gb gc : VE) : VE := fun vs => (ga vs).bind fun x vs => (gb vs).bind fun y vs => (g x y vs).bind fun z vs => (tst z vs).bind fun k vs => if k = true then (gc vs).bind fun u vs => g' y u vs else .ok (.bool false) vs
def fNil : VA := fun vs => .ok [] vs
def fCons (ga : VE) (gr : VA) : VA := fun vs => (ga vs).bind fun x vs => (gr vs).bind fun xs vs => .ok (x :: xs) vs
def fLst (b : Bool) (k : Nat) (ga : VA) : VE := fun vs => (ga vs).bind fun xs vs => if xs.length ≤ 1000 then .ok (.list xs) vs else .st
def fTup (ga : VA) : VE := fun vs => (ga vs).bind fun xs vs => if xs.length ≤ 1000 then .ok (.tuple xs) vs else .st
def fImm (ga : VE) : VE := fun vs => (ga vs).bind fun x vs => if imm x = true then .ok x vs else .st
def fFz (ga : VE) : VE := ga
def fCB (g : List PyData → List VS → VR PyData) (ga : VA) : VE := fun vs => (ga vs).bind fun xs vs => g xs vs
section
variable {D : List KD} {b b1 b2 b3 fr fr1 fr2 fr3 : Bool} {k k1 k2 k3 i : Nat} {fa fb fc : FE} {ga gb gc : VE} {ta tb : FT} {ua ub : VT} {ra : FA} {qa : VA} {KL : List KD}
theorem ev_var (e : D[i]? = some (b, k)) : EV D b k false (Zx.fVar i) (fVar i) := by
  intro h sl vs fs R nd
  obtain ⟨s, v, f, e1, e2, e3, r⟩ := R.get e
  unfold fVar
  rw [e2]
  cases v with
  | un => trivial
  | sc x => trivial
  | ex x => trivial
  | v x =>
    refine ⟨rfl, s, [], f, ?_, by rw [List.append_nil]; exact r, (nd_at nd e3).1, fun z => by cases z⟩
    have r : RV h b k s x f := r
    have hs : s ≠ .un := fun z => by
      subst z
      have := RV.rb (j := k) r (Nat.le_refl _)
      cases k <;> (unfold Zx.rb at this; cases this)
    rw [List.append_nil]
    unfold Zx.fVar
    rw [e1]
    cases s <;> first | rfl | exact absurd rfl hs
theorem EV.z (e : EV D b 0 fr1 fa ga) : EV D b 0 fr fa ga := by
  intro h sl vs fs R nd
  have o := e h sl vs fs R nd
  generalize ga vs = r at o ⊢
  generalize fa sl h = q at o ⊢
  cases r with
  | ok x vs' =>
    obtain ⟨h1, s, t, fp, h2, h3, h4, _⟩ := o
    refine ⟨h1, s, t, fp, h2, h3, h4, fun _ n m => ?_⟩
    rw [h3.1] at m; cases m
  | rz c => exact o
  | st => trivial
theorem ev_var0 (e : D[i]? = some (b, 0)) : EV D b 0 fr (Zx.fVar i) (fVar i) := (ev_var e).z
theorem ev_c {x : PyData} (c : isLD x = false := by rfl) : EV D b k fr (Zx.fC x) (fC x) := fun h sl vs fs R nd => OutE.dd c
theorem ev_imm (e : EV D b1 k fr1 fa ga) : EV D b 0 fr fa (fImm ga) := by
  intro h sl vs fs R nd
  have o := e h sl vs fs R nd
  unfold fImm
  generalize ga vs = r at o ⊢
  generalize fa sl h = q at o ⊢
  cases r with
  | ok x vs' =>
    obtain ⟨rfl, s, t, fp, rfl, h3, h4, _⟩ := o
    show OutE _ _ _ _ _ _ (if imm x = true then .ok x vs' else .st) _
    split
    · rename_i c
      obtain ⟨rfl, rfl⟩ := h3.imm c
      exact ⟨rfl, .d x, t, [], rfl, RV.d, List.nodup_nil, fun _ _ m => by cases m⟩
    · trivial
  | rz c => exact o
  | st => trivial
def OpV (b1 : Bool) (k1 : Nat) (b2 : Bool) (k2 : Nat) (b : Bool) (k : Nat) (fr : Bool) (f : SV → SV → AH → R SV) (g : PyData → PyData → List VS → VR PyData) : Prop := ∀ (h : AH) (vs : List VS) (s t : SV) (x y : PyData) (f1 f2 : List Nat), RV h b1 k1 s x f1 → f1.Nodup → RV h b2 k2 t y f2 → OutE b k fr h.length h vs (g x y vs) (f s t h)
theorem ev_bin {f : SV → SV → AH → R SV} {g : PyData → PyData → List VS → VR PyData} (ho : OpV b1 k1 b2 k2 b k fr f g) (ha : EV D b1 k1 fr1 fa ga) (hb : EV D b2 k2 fr2 fb gb) : EV D b k fr (Zx.fBin f fa fb) (fBin g ga gb) := by
  intro h sl vs fs R nd
  refine (ha h sl vs fs R nd).ee fun x s t f1 r1 n1 _ => ?_
  refine ((hb (h ++ t) sl vs fs R.app nd).ee fun y s2 t2 f2 r2 n2 _ => ?_)
  exact (ho (h ++ t ++ t2) vs s s2 x y f1 f2 r1.app n1 r2).up (by rw [List.length_append, List.length_append]; omega)
def UnV (b1 : Bool) (k1 : Nat) (b : Bool) (k : Nat) (fr : Bool) (f : SV → AH → R SV) (g : PyData → List VS → VR PyData) : Prop := ∀ (h : AH) (vs : List VS) (s : SV) (x : PyData) (f1 : List Nat), RV h b1 k1 s x f1 → OutE b k fr h.length h vs (g x vs) (f s h)
theorem ev_un {f : SV → AH → R SV} {g : PyData → List VS → VR PyData} (ho : UnV b1 k1 b k fr f g) (ha : EV D b1 k1 fr1 fa ga) : EV D b k fr (Zx.fUn f fa) (fUn g ga) := by
  intro h sl vs fs R nd
  refine (ha h sl vs fs R nd).ee fun x s t f1 r1 n1 _ => ?_
  exact (ho (h ++ t) vs s x f1 r1).up (by rw [List.length_append]; omega)
theorem tst_ok {h : AH} {vs : List VS} {s : SV} {x : PyData} {f : List Nat} (r : RV h b k s x f) : OutP (fun _ x a => a = x) h vs (tst x vs) (Zx.tst s h) := by
  unfold tst
  split
  · obtain ⟨rfl, _⟩ := r.imm rfl
    exact ⟨rfl, _, [], by rw [List.append_nil]; rfl, rfl⟩
  · trivial
theorem tv_tst (ha : EV D b k fr fa ga) : TV D (Zx.fTst fa) (fTst ga) := by
  intro h sl vs fs R nd
  rw [a_tst]
  exact (ha h sl vs fs R nd).ep fun x s t f1 r1 n1 _ => tst_ok r1
theorem tv_and (ha : TV D ta ua) (hb : TV D tb ub) : TV D (Zx.fAndT ta tb) (fAndT ua ub) := by
  intro h sl vs fs R nd
  refine (ha h sl vs fs R nd).pp fun x a t e => ?_
  subst e
  cases a with
  | true => exact hb (h ++ t) sl vs fs R.app nd
  | false => exact ⟨rfl, false, [], by rw [List.append_nil]; rfl, rfl⟩
theorem tv_or (ha : TV D ta ua) (hb : TV D tb ub) : TV D (Zx.fOrT ta tb) (fOrT ua ub) := by
  intro h sl vs fs R nd
  refine (ha h sl vs fs R nd).pp fun x a t e => ?_
  subst e
  cases a with
  | false => exact hb (h ++ t) sl vs fs R.app nd
  | true => exact ⟨rfl, true, [], by rw [List.append_nil]; rfl, rfl⟩
theorem tv_not (ha : TV D ta ua) : TV D (Zx.fNotT ta) (fNotT ua) := by
  intro h sl vs fs R nd
  refine (ha h sl vs fs R nd).pp fun x a t e => ?_
  subst e
  exact ⟨rfl, !a, [], by rw [List.append_nil], rfl⟩
theorem tv_yes : TV D Zx.fYes (fun vs => .ok true vs) := fun h sl vs fs R nd => ⟨rfl, true, [], by rw [List.append_nil]; rfl, rfl⟩
theorem ev_and (ha : EV D b1 k1 fr1 fa ga) (hb : EV D b2 0 fr2 fb gb) : EV D b2 0 fr (Zx.fAndV fa fb) (fAndV ga gb) := by
  refine EV.z (fr1 := false) ?_
  intro h sl vs fs R nd
  rw [a_andV]
  refine (ha h sl vs fs R nd).ee fun x s t f1 r1 n1 _ => ?_
  refine (tst_ok r1).pe fun c a t2 e => ?_
  subst e
  cases a with
  | true =>
    have := (EV.z (fr := false) hb) (h ++ t ++ t2) sl vs fs (RSt.app (RSt.app R)) nd
    exact this.up (by rw [List.length_append, List.length_append]; omega)
  | false => exact OutE.dd rfl
theorem av_nil : AV D [] Zx.fNil fNil := fun h sl vs fs R nd => ⟨rfl, [], [], by rw [List.append_nil]; rfl, rfl, rfl⟩
theorem av_cons (ha : EV D b k fr fa ga) (hr : AV D KL ra qa) : AV D ((b, k) :: KL) (Zx.fCons fa ra) (fCons ga qa) := by
  intro h sl vs fs R nd
  refine (ha h sl vs fs R nd).ep fun x s t f1 r1 n1 _ => ?_
  refine (hr (h ++ t) sl vs fs R.app nd).pp fun xs ss t2 r2 => ?_
  exact ⟨rfl, s :: ss, [], by rw [List.append_nil], s, ss, x, xs, f1, rfl, rfl, r1.app.app, r2.app⟩
theorem af_nil : AF D b k Zx.fNil fNil := fun h sl vs fs R nd => ⟨rfl, [], [], by rw [List.append_nil]; rfl, [], trivial, List.nodup_nil, fun _ m => by cases m⟩
theorem af_cons (ha : EV D b1 k true fa ga) (hr : AF D b k ra qa) (hb : (!b1 || b) = true := by decide) : AF D b k (Zx.fCons fa ra) (fCons ga qa) := by
  intro h sl vs fs R nd
  have := (ha h sl vs fs R nd).ep (rep := fun h' ds ss => ∃ fps, Fa3 (RV h' b k) ss ds fps ∧ fps.flatten.Nodup ∧ ∀ n ∈ fps.flatten, h.length ≤ n) (K := fun x vs => (qa vs).bind fun xs vs => .ok (x :: xs) vs) (K' := fun s h1 => (ra sl h1).bind fun ss h2 => .ok (s :: ss) h2) fun x s t f1 r1 n1 z1 => ?_
  · exact this
  refine (hr (h ++ t) sl vs fs R.app nd).pp fun xs ss t2 r2 => ?_
  obtain ⟨fps, r2, n2, z2⟩ := r2
  refine ⟨rfl, s :: ss, [], by rw [List.append_nil], f1 :: fps, ⟨(r1.app.app).bm hb, ?_⟩, ?_, ?_⟩
  · exact Fa3.imp (cs0 := fps) (fun _ _ _ _ p => RV.app p) (fun _ m => m) r2
  · rw [List.flatten_cons, List.nodup_append]
    refine ⟨n1, n2, fun a ha b hb e => ?_⟩
    have h1 := r1.lt a ha
    have h2 := z2 b hb
    omega
  · intro n m
    rw [List.flatten_cons, List.mem_append] at m
    rcases m with m | m
    · exact z1 rfl n m
    · have := z2 n m
      rw [List.length_append] at this
      omega
theorem ev_lst (ha : AF D b k ra qa) : EV D b (k + 1) fr (Zx.fLst ra) (fLst b (k + 1) qa) := by
  intro h sl vs fs R nd
  refine (ha h sl vs fs R nd).pe fun xs ss t r => ?_
  obtain ⟨fps, r, n, z⟩ := r
  show OutE _ _ _ _ _ _ (if xs.length ≤ 1000 then .ok (.list xs) vs else .st) (if ss.length ≤ 1000 then .ok (.r (h ++ t).length) (h ++ t ++ [some (.lst ss)]) else .st)
  have hl := r.len.1
  rw [hl]
  split
  · refine ⟨rfl, _, [some (.lst ss)], (h ++ t).length :: fps.flatten, rfl, ?_, ?_, fun _ n m => ?_⟩
    · unfold RV
      refine .inr (.inl ⟨_, ss, xs, fps, rfl, ?_, rfl, rfl, Fa3.imp (cs0 := fps) (fun _ _ _ _ p => RV.app p) (fun _ m => m) r⟩)
      rw [List.getElem?_append_right (Nat.le_refl _), Nat.sub_self]; rfl
    · rw [List.nodup_cons]
      refine ⟨fun m => ?_, n⟩
      obtain ⟨l, hl, hm⟩ := List.mem_flatten.mp m
      obtain ⟨a, d, _, _, p⟩ := Fa3.mem r hl
      exact Nat.lt_irrefl _ (p.lt _ hm)
    · rcases List.mem_cons.mp m with rfl | m
      · rw [List.length_append]; omega
      · exact z n m
  · trivial
theorem ra_allD {h : AH} : ∀ {n : Nat} {ss : List SV} {ds : List PyData}, RA h (List.replicate n (false, 0)) ss ds → allD ss = some ds
  | 0, ss, ds, r => by rw [r.1, r.2]; rfl
  | n + 1, ss, ds, r => by
    rw [List.replicate_succ] at r
    obtain ⟨s, ss', d, ds', f, rfl, rfl, r1, r2⟩ := r
    rcases r1.2 with rfl | ⟨e, _⟩
    · unfold allD
      rw [ra_allD r2]; rfl
    · cases e
theorem ev_tup {n : Nat} (ha : AV D KL ra qa) (hk : KL = List.replicate n (false, 0) := by rfl) : EV D false 0 fr (Zx.fTup ra) (fTup qa) := by
  subst hk
  intro h sl vs fs R nd
  refine (ha h sl vs fs R nd).pe fun xs ss t r => ?_
  show OutE _ _ _ _ _ _ (if xs.length ≤ 1000 then .ok (.tuple xs) vs else .st) (match allD ss with | some ds => if ds.length ≤ 1000 then .ok (.d (.tuple ds)) (h ++ t) else .st | none => .st)
  rw [ra_allD r]
  dsimp only
  split
  · exact OutE.d0
  · trivial
theorem ev_fz (ha : EV D false k true fa ga) (hk : k ≤ 9 := by decide) : EV D false 0 fr (Zx.fFz fa) (fFz ga) := by
  intro h sl vs fs R nd
  have o := ha h sl vs fs R nd
  rw [a_fz]
  unfold fFz
  generalize ga vs = r at o ⊢
  generalize fa sl h = q at o ⊢
  cases r with
  | ok x vs' =>
    obtain ⟨rfl, s, t, fp, rfl, h2, h3, h4⟩ := o
    obtain ⟨h', e1, l1, k1⟩ := RV.fz rfl h2 h3 hk
    show OutE _ _ _ _ _ _ _ (opt (fzv 9 (h ++ t) s) (fun p => .ok (.d p.1) (trimE h.length sl p.2)) .st)
    rw [e1]
    have hp : h'.take h.length = h := by
      apply List.ext_getElem?
      intro m
      by_cases hm : m < h.length
      · rw [List.getElem?_take_of_lt hm, k1 m fun z => absurd (h4 rfl m z) (by omega), List.getElem?_append_left hm]
      · rw [List.getElem?_eq_none (by rw [List.length_take]; omega), List.getElem?_eq_none (by omega)]
    show OutE _ _ _ _ _ _ _ (.ok (.d x) (trimE h.length sl h'))
    unfold trimE
    split
    · rw [hp]; exact OutE.d0
    · have : h' = h ++ h'.drop h.length := by
        conv => lhs; rw [← List.take_append_drop h.length h', hp]
      rw [this]
      exact OutE.pre OutE.d0
  | rz c =>
    obtain ⟨t, rfl⟩ := o
    exact ⟨t, rfl⟩
  | st => trivial
def CbV (KL : List KD) (b : Bool) (k : Nat) (fr : Bool) (f : List SV → AH → R SV) (g : List PyData → List VS → VR PyData) : Prop := ∀ (h : AH) (vs : List VS) (ss : List SV) (ds : List PyData), RA h KL ss ds → OutE b k fr h.length h vs (g ds vs) (f ss h)
theorem ev_cb {f : List SV → AH → R SV} {g : List PyData → List VS → VR PyData} (hc : CbV KL b k fr f g) (ha : AV D KL ra qa) : EV D b k fr (Zx.fCB f ra) (fCB g qa) := by
  intro h sl vs fs R nd
  refine (ha h sl vs fs R nd).pe fun xs ss t r => ?_
  exact (hc (h ++ t) vs ss xs r).up (by rw [List.length_append]; omega)
end
end Zx.V
namespace Zx.V
open PySem PySem.Spec L2
def gI (C : Int → Int → Bool) (kk : Int → Int → PyData) : PyData → PyData → List VS → VR PyData := fun x y vs => match x, y with
  | .int i, .int j => if C i j = true then .ok (kk i j) vs else .st
  | _, _ => .st
def gSub := gI (fun _ _ => true) fun i j => .int (i - j)
def gMul := gI mulB fun i j => .int (i * j)
def gDiv := gI divB fun i j => .int (i / j)
def gMod := gI modB fun i j => .int (i % j)
def gPow := gI powB fun i j => .int (i ^ j.toNat)
def gLt := gI (fun _ _ => true) fun i j => .bool (decide (i < j))
def gLe := gI (fun _ _ => true) fun i j => .bool (decide (i ≤ j))
def gGt := gI (fun _ _ => true) fun i j => .bool (decide (j < i))
def gGe := gI (fun _ _ => true) fun i j => .bool (decide (j ≤ i))
def gAdd : PyData → PyData → List VS → VR PyData := fun x y vs => match x, y with
  | .int i, .int j => .ok (.int (i + j)) vs
  | .str a, .str b => if a.length + b.length < lim then .ok (.str (a ++ b)) vs else .st
  | _, _ => .st
def gCat (b : Bool) : PyData → PyData → List VS → VR PyData := fun x y vs => match x, y with
  | .list xs, .list ys => if xs.length + ys.length < lim then .ok (.list (xs ++ ys)) vs else .st
  | _, _ => .st
def gEq (neg : Bool) : PyData → PyData → List VS → VR PyData := fun d e vs => if (nod d && nod e && SeqAt.shaped d && SeqAt.shaped e) = true then .ok (.bool (neg ^^ PyData.eqv d e)) vs else .st
def itemsP : PyData → Option (List PyData)
  | .list ds => some ds
  | .tuple ds => some ds
  | _ => none
def gIx : PyData → PyData → List VS → VR PyData := fun x y vs => match y with
  | .int i => match x with
    | .str z => if z.length ≤ sizeLine then match atI z.cps.toList i with
        | some c => .ok (.str ⟨#[c]⟩) vs
        | none => .st
      else .st
    | x => match itemsP x with
      | some ds => match atI ds i with
        | some u => .ok u vs
        | none => .st
      | none => .st
  | _ => .st
def gIxO : PyData → PyData → List VS → VR PyData := fun x y vs => match x, y with
  | .list ds, .int i => match atI ds i with
    | some u => .ok u vs
    | none => .st
  | .tuple ds, .int i => match atI ds i with
    | some u => .ok u vs
    | none => .st
  | _, _ => .st
def gIn (neg : Bool) : PyData → PyData → List VS → VR PyData := fun x y vs => match flatD (.d x) with
  | some v => match itemsP y with
    | some ds => match flatL (ds.map SV.d) with
      | some us => .ok (.bool (if neg then !inV v us else inV v us)) vs
      | none => .st
    | none => .st
  | none => .st
def isNo : PyData → Bool
  | .none => true
  | _ => false
def gIsN : PyData → PyData → List VS → VR PyData := fun x y vs => match y with
  | .none => .ok (.bool (isNo x)) vs
  | _ => .st
def gNotN : PyData → PyData → List VS → VR PyData := fun x y vs => match y with
  | .none => .ok (.bool (!isNo x)) vs
  | _ => .st
def gNeg : PyData → List VS → VR PyData := fun x vs => match x with
  | .int i => .ok (.int (-i)) vs
  | _ => .st
section
variable {D : List KD} {b b1 b2 b3 fr fr1 fr2 fr3 : Bool} {k k1 k2 k3 i : Nat} {fa fb fc : FE} {ga gb gc : VE} {ta tb : FT} {ua ub : VT} {ra : FA} {qa : VA} {KL : List KD}
theorem ov_I {C : Int → Int → Bool} {kk : Int → Int → PyData} (hk : ∀ i j, isLD (kk i j) = false) : OpV b1 k1 b2 k2 b k fr (Zx.gI C kk) (gI C kk) := by
  intro h vs s t x y f1 f2 r1 n1 r2
  unfold gI
  split
  · obtain ⟨rfl, -⟩ := r1.imm rfl
    obtain ⟨rfl, -⟩ := r2.imm rfl
    rename_i i j
    show OutE _ _ _ _ _ _ _ (if C i j then .ok (.d (kk i j)) h else .st)
    split
    · exact OutE.dd (hk _ _)
    · trivial
  · trivial
theorem ov_sub : OpV b1 k1 b2 k2 b k fr Zx.gSub gSub := ov_I fun _ _ => rfl
theorem ov_mul : OpV b1 k1 b2 k2 b k fr Zx.gMul gMul := ov_I fun _ _ => rfl
theorem ov_div : OpV b1 k1 b2 k2 b k fr Zx.gDiv gDiv := ov_I fun _ _ => rfl
theorem ov_mod : OpV b1 k1 b2 k2 b k fr Zx.gMod gMod := ov_I fun _ _ => rfl
theorem ov_pow : OpV b1 k1 b2 k2 b k fr Zx.gPow gPow := ov_I fun _ _ => rfl
theorem ov_lt : OpV b1 k1 b2 k2 b k fr Zx.gLt gLt := ov_I fun _ _ => rfl
theorem ov_gt : OpV b1 k1 b2 k2 b k fr Zx.gGt gGt := ov_I fun _ _ => rfl
theorem ov_add : OpV b1 k1 b2 k2 b k fr Zx.gAdd gAdd := by
  intro h vs s t x y f1 f2 r1 n1 r2
  unfold gAdd
  split
  · obtain ⟨rfl, -⟩ := r1.imm rfl
    obtain ⟨rfl, -⟩ := r2.imm rfl
    exact OutE.dd rfl
  · obtain ⟨rfl, -⟩ := r1.imm rfl
    obtain ⟨rfl, -⟩ := r2.imm rfl
    rename_i a c
    show OutE _ _ _ _ _ _ _ (if a.length + c.length < lim then .ok (.d (.str (a ++ c))) h else .st)
    split
    · exact OutE.dd rfl
    · trivial
  · trivial
theorem fa_leaf {h : AH} : ∀ (ds : List PyData), Fa3 (RV h b 0) (ds.map SV.d) ds (ds.map fun _ => [])
  | [] => trivial
  | d :: ds => ⟨⟨rfl, .inl rfl⟩, fa_leaf ds⟩
theorem fa_view {h : AH} : ∀ (ds : List PyData), Fa3 (RV h true 0) (ds.map mkv) ds (ds.map fun _ => [])
  | [] => trivial
  | d :: ds => ⟨⟨rfl, .inr ⟨rfl, rfl⟩⟩, fa_view ds⟩
theorem fa_flat0 {h : AH} : ∀ {ss : List SV} {ds : List PyData} {fs : List (List Nat)}, Fa3 (RV h b 0) ss ds fs → fs.flatten = []
  | [], [], [], _ => rfl
  | s :: ss, d :: ds, f :: fs, ⟨r, q⟩ => by rw [List.flatten_cons, fa_flat0 q, r.1]; rfl
  | [], [], c :: cs, h => h.elim
  | [], b :: bs, [], h => h.elim
  | [], b :: bs, c :: cs, h => h.elim
  | a :: as, [], [], h => h.elim
  | a :: as, [], c :: cs, h => h.elim
  | a :: as, b :: bs, [], h => h.elim
theorem lst_of {h : AH} {s : SV} {ds : List PyData} {f : List Nat} (r : RV h b k s (.list ds) f) (hk : k ≤ 1) : ∃ ss fs, lstOf h s = some ss ∧ Fa3 (RV h b 0) ss ds fs := by
  match k, hk, r with
  | 0, _, r =>
    rcases r.2 with rfl | ⟨rfl, rfl⟩
    · exact ⟨_, _, rfl, fa_leaf ds⟩
    · exact ⟨_, _, rfl, fa_view ds⟩
  | 1, _, r =>
    unfold RV at r
    rcases r with r | ⟨n', xs, ds', fs, rfl, hn, e, rfl, r⟩ | ⟨n', xs, ds', fs, rfl, hn, e, rfl, r⟩ | ⟨n', xs, ds', fs, rfl, hn, e, rfl, r⟩
    · cases r.2.2
    · cases e
      exact ⟨xs, fs, by unfold lstOf; dsimp only; rw [hn], r⟩
    · cases e
    · cases e
theorem items_of {h : AH} {s : SV} {x : PyData} {ds : List PyData} {f : List Nat} (r : RV h b k s x f) (hk : k ≤ 1) (e : itemsP x = some ds) : ∃ ss fs, itemsOf h s = some ss ∧ Fa3 (RV h b 0) ss ds fs := by
  unfold itemsP at e
  split at e
  · cases e
    match k, hk, r with
    | 0, _, r =>
      rcases r.2 with rfl | ⟨rfl, rfl⟩
      · exact ⟨_, _, rfl, fa_leaf ds⟩
      · exact ⟨_, _, rfl, fa_view ds⟩
    | 1, _, r =>
      unfold RV at r
      rcases r with r | ⟨n', xs, ds', fs, rfl, hn, e, rfl, r⟩ | ⟨n', xs, ds', fs, rfl, hn, e, rfl, r⟩ | ⟨n', xs, ds', fs, rfl, hn, e, rfl, r⟩
      · cases r.2.2
      · cases e
        exact ⟨xs, fs, by unfold itemsOf; dsimp only; rw [hn], r⟩
      · cases e
      · cases e
  · cases e
    have l : leaf b s (.tuple ds) ∨ ∃ ss fs, itemsOf h s = some ss ∧ Fa3 (RV h b 0) ss ds fs := by
      match k, hk, r with
      | 0, _, r => exact .inl r.2
      | 1, _, r =>
        unfold RV at r
        rcases r with r | ⟨n', xs, ds', fs, rfl, hn, e, rfl, r⟩ | ⟨n', xs, ds', fs, rfl, hn, e, rfl, r⟩ | ⟨n', xs, ds', fs, rfl, hn, e, rfl, r⟩
        · exact .inl r.2.1
        · cases e
        · cases e
        · cases e
          exact .inr ⟨xs, fs, by unfold itemsOf; dsimp only; rw [hn.1], r⟩
    rcases l with (rfl | ⟨rfl, rfl⟩) | l
    · exact ⟨_, _, rfl, fa_leaf ds⟩
    · refine ⟨ds.map mkv, _, ?_, fa_view ds⟩
      unfold mkv
      split
      · rename_i c
        unfold itemsOf
        dsimp only
        congr 1
        apply List.map_congr_left
        intro d hd
        have : ∀ ds : List PyData, immL ds = true → ∀ d ∈ ds, imm d = true := by
          intro ds
          induction ds with
          | nil => intro _ d m; cases m
          | cons a ds ih =>
            intro c d m
            unfold immL at c
            rw [Bool.and_eq_true] at c
            rcases List.mem_cons.mp m with rfl | m
            · exact c.1
            · exact ih c.2 d m
        rw [if_pos (this ds (by unfold imm at c; exact c) d hd)]
      · rfl
    · exact l
  · cases e
theorem fa_at {h : AH} {ss : List SV} {ds : List PyData} {fs : List (List Nat)} {i : Int} {u : PyData} (r : Fa3 (RV h b k) ss ds fs) (e : atI ds i = some u) : ∃ (s : SV) (f : List Nat) (j : Nat), atI ss i = some s ∧ fs[j]? = some f ∧ RV h b k s u f := by
  unfold atI at e ⊢
  rw [r.len.1]
  cases c : ixN ds.length i with
  | none => rw [c] at e; cases e
  | some j =>
    rw [c] at e
    have e : ds[j]? = some u := e
    obtain ⟨s, f, h1, h2, h3⟩ := r.get e
    exact ⟨s, f, j, h1, h2, h3⟩
theorem ov_ix (hk : k1 ≤ 1 := by decide) : OpV b1 k1 b2 k2 b1 0 fr Zx.gIx gIx := by
  intro h vs s t x y f1 f2 r1 n1 r2
  unfold gIx
  split
  · obtain ⟨rfl, -⟩ := r2.imm rfl
    rename_i i
    split
    · obtain ⟨rfl, -⟩ := r1.imm rfl
      rename_i z
      show OutE _ _ _ _ _ _ _ (if z.length ≤ sizeLine then match atI z.cps.toList i with | some c => .ok (.d (.str ⟨#[c]⟩)) h | none => .st else .st)
      split
      · split
        · exact OutE.d0
        · trivial
      · trivial
    · rename_i x hx
      split
      · rename_i ds hd
        split
        · rename_i u hu
          obtain ⟨ss, fs, e1, r⟩ := items_of r1 hk hd
          obtain ⟨s', f, j, e2, _, r3⟩ := fa_at r hu
          have hs : ∀ z, s ≠ .d (.str z) := fun z e => by
            subst e
            cases e1
          have : Zx.gIx s (.d (.int i)) h = .ok s' h := by
            unfold Zx.gIx
            dsimp only
            split
            · rename_i z; exact absurd rfl (hs z)
            · rw [e1]
              dsimp only
              rw [e2]
          rw [this]
          exact ⟨rfl, s', [], [], by rw [List.append_nil], by rw [List.append_nil]; exact ⟨rfl, r3.2⟩, List.nodup_nil, fun _ _ m => by cases m⟩
        · trivial
      · trivial
  · trivial
theorem ov_eq {neg : Bool} (h1 : k1 ≤ 9 := by decide) (h2 : k2 ≤ 9 := by decide) : OpV b1 k1 b2 k2 b k fr (Zx.gEq neg) (gEq neg) := by
  intro h vs s t x y f1 f2 r1 n1 r2
  unfold gEq Zx.gEq
  rw [r1.rb h1, r2.rb h2]
  dsimp only
  split
  · exact OutE.dd rfl
  · trivial
theorem flat_rv {h : AH} {s : SV} {x : PyData} {f : List Nat} (r : RV h b k s x f) : flatD s = flatD (.d x) := by
  have l : leaf b s x ∨ (∃ n, s = .r n ∧ isLD x = true) := by
    cases k with
    | zero => exact .inl r.2
    | succ k =>
      unfold RV at r
      rcases r with r | ⟨n', xs, ds', fs, rfl, hn, rfl, rfl, r⟩ | ⟨n', xs, ds', fs, rfl, hn, rfl, rfl, r⟩ | ⟨n', xs, ds', fs, rfl, hn, rfl, rfl, r⟩
      · exact .inl r.2.1
      · exact .inr ⟨n', rfl, rfl⟩
      · exact .inr ⟨n', rfl, rfl⟩
      · exact .inr ⟨n', rfl, by show (!immL ds') = true; rw [hn.2]; rfl⟩
  rcases l with (rfl | ⟨_, rfl⟩) | ⟨n, rfl, e⟩
  · rfl
  · unfold mkv
    split
    · rfl
    · rename_i c
      cases x <;> first | rfl | exact absurd rfl c
  · cases x <;> first | rfl | cases e
theorem flat_fa {h : AH} : ∀ {ss : List SV} {ds : List PyData} {fs : List (List Nat)}, Fa3 (RV h b k) ss ds fs → flatL ss = flatL (ds.map SV.d)
  | [], [], [], _ => rfl
  | s :: ss, d :: ds, f :: fs, ⟨r, q⟩ => by
    rw [List.map_cons]
    unfold flatL
    rw [flat_rv r, flat_fa q]
  | [], [], c :: cs, h => h.elim
  | [], b :: bs, [], h => h.elim
  | [], b :: bs, c :: cs, h => h.elim
  | a :: as, [], [], h => h.elim
  | a :: as, [], c :: cs, h => h.elim
  | a :: as, b :: bs, [], h => h.elim
theorem ov_in {neg : Bool} (h2 : k2 ≤ 1 := by decide) : OpV b1 k1 b2 k2 b k fr (Zx.gIn neg) (gIn neg) := by
  intro h vs s t x y f1 f2 r1 n1 r2
  unfold gIn Zx.gIn
  rw [flat_rv r1]
  split
  · rename_i v hv
    try rw [hv]
    try dsimp only
    split
    · rename_i ds hd
      obtain ⟨ss, fs, e1, q⟩ := items_of r2 h2 hd
      split
      · rename_i us hu
        rw [e1]
        dsimp only
        rw [flat_fa q, hu]
        exact OutE.dd (x := .bool _) rfl
      · trivial
    · trivial
  · trivial
theorem uv_neg : UnV b1 k1 b k fr Zx.gNeg gNeg := by
  intro h vs s x f1 r
  unfold gNeg
  split
  · obtain ⟨rfl, -⟩ := r.imm rfl
    exact OutE.dd rfl
  · trivial
end
def gLen : List PyData → List VS → VR PyData := fun ds vs => match ds with
  | [.str z] => if z.length ≤ sizeLine then .ok (.int z.length) vs else .st
  | [.list xs] => .ok (.int xs.length) vs
  | [.tuple xs] => .ok (.int xs.length) vs
  | _ => .st
def gI2 (kk : Int → Int → Int) : List PyData → List VS → VR PyData := fun ds vs => match ds with
  | [.int i, .int j] => .ok (.int (kk i j)) vs
  | _ => .st
def gI1 (kk : Int → Int) : List PyData → List VS → VR PyData := fun ds vs => match ds with
  | [.int i] => .ok (.int (kk i)) vs
  | _ => .st
def gAbs := gI1 fun i => if i < 0 then -i else i
def gMin2 := gI2 fun i j => if j < i then j else i
def gMax2 := gI2 fun i j => if j > i then j else i
def gInt : List PyData → List VS → VR PyData := fun ds vs => match ds with
  | [.int i] => .ok (.int i) vs
  | [.bool c] => .ok (.int (if c = true then 1 else 0)) vs
  | _ => .st
def gSum : List PyData → List VS → VR PyData := fun ds vs => match ds with
  | [.list xs] => match intsD xs with
    | some ns => .ok (.int ns.sum) vs
    | none => .st
  | _ => .st
def boolsD : List PyData → Option (List Bool)
  | [] => some []
  | .bool i :: r => (boolsD r).map (i :: ·)
  | _ => none
def gBools (kk : List Bool → Bool) : List PyData → List VS → VR PyData := fun ds vs => match ds with
  | [.list xs] => match boolsD xs with
    | some bs => .ok (.bool (kk bs)) vs
    | none => .st
  | _ => .st
def gList : List PyData → List VS → VR PyData := fun ds vs => match ds with
  | [x] => match itemsP x with
    | some xs => .ok (.list xs) vs
    | none => .st
  | _ => .st
def gTuple : List PyData → List VS → VR PyData := fun ds vs => match ds with
  | [.list xs] => .ok (.tuple xs) vs
  | _ => .st
def tyP : PyData → Option String
  | .none => some "NoneType"
  | .bool _ => some "bool"
  | .int _ => some "int"
  | .str _ => some "str"
  | .list _ => some "list"
  | .tuple _ => some "tuple"
  | .dict _ => none
def fIsi (T : String) (ga : VE) : VE := fun vs => (ga vs).bind fun x vs => match tyP x with
  | some t => match isTy t T with
    | some c => .ok (.bool c) vs
    | none => .st
  | none => .st
section
variable {D : List KD} {b b1 b2 b3 fr fr1 fr2 fr3 : Bool} {k k1 k2 k3 i : Nat} {fa fb fc : FE} {ga gb gc : VE} {ta tb : FT} {ua ub : VT} {ra : FA} {qa : VA} {KL : List KD}
theorem ra_one {h : AH} {p : KD} {ss : List SV} {ds : List PyData} (r : RA h [p] ss ds) : ∃ s x f, ss = [s] ∧ ds = [x] ∧ RV h p.1 p.2 s x f := by
  obtain ⟨s, ss', d, ds', f, rfl, rfl, r1, rfl, rfl⟩ := r
  exact ⟨s, d, f, rfl, rfl, r1⟩
theorem cv_len : CbV [(b1, k1)] b k fr Zx.gLen gLen := by
  intro h vs ss ds r
  obtain ⟨s, x, f, rfl, rfl, r1⟩ := ra_one r
  clear r
  have r : RV h b1 k1 s x f := r1
  clear r1
  have it : ∀ xs, itemsP x = some xs → ∃ ss, itemsOf h s = some ss ∧ ss.length = xs.length ∧ ∀ z, s ≠ .d (.str z) := fun xs e => by
    by_cases hk : k1 ≤ 1
    · obtain ⟨ss, fs, e1, q⟩ := items_of r hk e
      exact ⟨ss, e1, q.len.1, fun z e => by subst e; cases e1⟩
    · obtain ⟨j, rfl⟩ : ∃ j, k1 = j + 1 := ⟨k1 - 1, by omega⟩
      have r : RV h b1 (j + 1) s x f := r
      unfold RV at r
      rcases r with q | ⟨n', xs', ds', fs, rfl, hn, rfl, rfl, q⟩ | ⟨n', xs', ds', fs, rfl, hn, rfl, rfl, q⟩ | ⟨n', xs', ds', fs, rfl, hn, rfl, rfl, q⟩
      · have := items_of (k := 0) (b := b1) (h := h) (s := s) (x := x) (f := []) ⟨rfl, q.2.1⟩ (by decide) e
        obtain ⟨ss, fs, e1, q⟩ := this
        exact ⟨ss, e1, q.len.1, fun z e => by subst e; cases e1⟩
      · cases e
        exact ⟨xs', by unfold itemsOf; dsimp only; rw [hn], q.len.1, fun z e => by cases e⟩
      · cases e
      · cases e
        exact ⟨xs', by unfold itemsOf; dsimp only; rw [hn.1], q.len.1, fun z e => by cases e⟩
  unfold gLen
  split
  · rename_i z e
    cases e
    obtain ⟨rfl, -⟩ := RV.imm r rfl
    show OutE _ _ _ _ _ _ _ (if z.length ≤ sizeLine then .ok (.d (.int z.length)) h else .st)
    split
    · exact OutE.dd rfl
    · trivial
  · rename_i xs e
    cases e
    obtain ⟨ss, e1, e2, e3⟩ := it xs rfl
    have : Zx.gLen [s] h = .ok (.d (.int xs.length)) h := by
      unfold Zx.gLen
      dsimp only
      split
      · exact absurd rfl (e3 _)
      · rw [e1]; dsimp only; rw [e2]
    rw [this]
    exact OutE.dd rfl
  · rename_i xs e
    cases e
    obtain ⟨ss, e1, e2, e3⟩ := it xs rfl
    have : Zx.gLen [s] h = .ok (.d (.int xs.length)) h := by
      unfold Zx.gLen
      dsimp only
      split
      · exact absurd rfl (e3 _)
      · rw [e1]; dsimp only; rw [e2]
    rw [this]
    exact OutE.dd rfl
  · trivial
theorem bools_fa {h : AH} : ∀ {ss : List SV} {ds : List PyData} {fs : List (List Nat)}, Fa3 (RV h b k) ss ds fs → ∀ ns, boolsD ds = some ns → bolsOf ss = some ns
  | [], [], [], _, ns, e => e
  | s :: ss, .bool i :: ds, f :: fs, ⟨r, q⟩, ns, e => by
    obtain ⟨rfl, -⟩ := r.imm rfl
    have e : (boolsD ds).map (i :: ·) = some ns := e
    cases c : boolsD ds with
    | none => rw [c] at e; cases e
    | some m =>
      rw [c] at e
      cases e
      show (bolsOf ss).map (i :: ·) = _
      rw [bools_fa q m c]; rfl
  | s :: ss, .none :: ds, f :: fs, _, ns, e => by cases e
  | s :: ss, .int _ :: ds, f :: fs, _, ns, e => by cases e
  | s :: ss, .str _ :: ds, f :: fs, _, ns, e => by cases e
  | s :: ss, .list _ :: ds, f :: fs, _, ns, e => by cases e
  | s :: ss, .tuple _ :: ds, f :: fs, _, ns, e => by cases e
  | s :: ss, .dict _ :: ds, f :: fs, _, ns, e => by cases e
  | [], [], c :: cs, h, _, _ => h.elim
  | [], b :: bs, [], h, _, _ => h.elim
  | [], b :: bs, c :: cs, h, _, _ => h.elim
  | a :: as, [], [], h, _, _ => h.elim
  | a :: as, [], c :: cs, h, _, _ => h.elim
  | a :: as, b :: bs, [], h, _, _ => h.elim
theorem cv_bools {kk : List Bool → Bool} {p : KD} (hk : p.2 ≤ 1 := by decide) : CbV [p] b k fr (Zx.gBools kk) (gBools kk) := by
  intro h vs ss ds r
  obtain ⟨s, x, f, rfl, rfl, r1⟩ := ra_one r
  unfold gBools
  split
  · rename_i xs e
    cases e
    split
    · rename_i bs hb
      obtain ⟨ss, fs, e1, q⟩ := lst_of r1 hk
      unfold Zx.gBools
      dsimp only
      rw [e1]
      dsimp only
      rw [bools_fa q bs hb]
      exact OutE.dd rfl
    · trivial
  · trivial
theorem fresh_lst {h : AH} {vs : List VS} {ss : List SV} {ds : List PyData} {fs : List (List Nat)} (q : Fa3 (RV h b 0) ss ds fs) : OutE b 1 fr h.length h vs (.ok (.list ds) vs) (.ok (.r h.length) (h ++ [some (.lst ss)])) := by
  refine ⟨rfl, _, _, [h.length], rfl, ?_, by simp, fun _ n m => by rw [List.mem_singleton.mp m]; exact Nat.le_refl _⟩
  unfold RV
  refine .inr (.inl ⟨_, ss, ds, fs, rfl, ?_, rfl, ?_, ?_⟩)
  · rw [List.getElem?_append_right (Nat.le_refl _), Nat.sub_self]; rfl
  · rw [fa_flat0 q]
  · exact Fa3.imp (cs0 := fs) (fun _ _ _ _ p => RV.app p) (fun _ m => m) q
theorem cv_list {p : KD} (hk : p.2 ≤ 1 := by decide) : CbV [p] p.1 1 fr Zx.gList gList := by
  intro h vs ss ds r
  obtain ⟨s, x, f, rfl, rfl, r1⟩ := ra_one r
  unfold gList
  dsimp only
  split
  · rename_i xs e
    obtain ⟨ss, fs, e1, q⟩ := items_of r1 hk e
    unfold Zx.gList
    dsimp only
    rw [e1]
    exact fresh_lst q
  · trivial
theorem fa_allD {h : AH} : ∀ {ss : List SV} {ds : List PyData} {fs : List (List Nat)}, Fa3 (RV h false 0) ss ds fs → allD ss = some ds
  | [], [], [], _ => rfl
  | s :: ss, d :: ds, f :: fs, ⟨r, q⟩ => by
    rcases r.2 with rfl | ⟨e, _⟩
    · unfold allD
      rw [fa_allD q]; rfl
    · cases e
  | [], [], c :: cs, h => h.elim
  | [], b :: bs, [], h => h.elim
  | [], b :: bs, c :: cs, h => h.elim
  | a :: as, [], [], h => h.elim
  | a :: as, [], c :: cs, h => h.elim
  | a :: as, b :: bs, [], h => h.elim
theorem cv_tuple (hk : k1 ≤ 1 := by decide) : CbV [(false, k1)] b 0 fr Zx.gTuple gTuple := by
  intro h vs ss ds r
  obtain ⟨s, x, f, rfl, rfl, r1⟩ := ra_one r
  unfold gTuple
  split
  · rename_i xs e
    cases e
    obtain ⟨ss, fs, e1, q⟩ := lst_of r1 hk
    unfold Zx.gTuple
    dsimp only
    rw [e1]
    dsimp only
    rw [fa_allD q]
    exact OutE.d0
  · trivial
theorem ty_rv {h : AH} {s : SV} {x : PyData} {f : List Nat} {t : String} (r : RV h b k s x f) (e : tyP x = some t) : tyOf h s = some t := by
  have l : leaf b s x ∨ (∃ n xs ds, s = .r n ∧ h[n]? = some (some (.lst xs)) ∧ x = .list ds) ∨ (∃ ds, x = .dict ds) ∨ (∃ n xs ds, s = .r n ∧ h[n]? = some (some (.tup xs)) ∧ x = .tuple ds) := by
    cases k with
    | zero => exact .inl r.2
    | succ k =>
      unfold RV at r
      rcases r with r | ⟨n', xs, ds', fs, rfl, hn, rfl, rfl, r⟩ | ⟨n', xs, ds', fs, rfl, hn, rfl, rfl, r⟩ | ⟨n', xs, ds', fs, rfl, hn, rfl, rfl, r⟩
      · exact .inl r.2.1
      · exact .inr (.inl ⟨n', _, _, rfl, hn, rfl⟩)
      · exact .inr (.inr (.inl ⟨_, rfl⟩))
      · exact .inr (.inr (.inr ⟨n', _, _, rfl, hn.1, rfl⟩))
  rcases l with (rfl | ⟨_, rfl⟩) | ⟨n, xs, ds, rfl, hn, rfl⟩ | ⟨ds, rfl⟩ | ⟨n, xs, ds, rfl, hn, rfl⟩
  · cases x <;> first | exact e | cases e
  · unfold mkv
    cases x with
    | none => exact e
    | bool _ => exact e
    | int _ => exact e
    | str _ => exact e
    | list _ => exact e
    | tuple _ => split <;> exact e
    | dict _ => cases e
  · unfold tyOf
    dsimp only
    rw [hn]
    exact e
  · cases e
  · unfold tyOf
    dsimp only
    rw [hn]
    exact e
theorem ev_isi {T : String} (ha : EV D b1 k1 fr1 fa ga) : EV D b k fr (Zx.fIsi T fa) (fIsi T ga) := by
  intro h sl vs fs R nd
  refine (ha h sl vs fs R nd).ee fun x s t f1 r1 n1 _ => ?_
  split
  · rename_i t' ht
    rw [ty_rv r1 ht]
    dsimp only
    split
    · rename_i c hc
      try rw [hc]
      exact OutE.dd (x := .bool _) rfl
    · trivial
  · trivial
end
abbrev VOo := List VS → VR (Option Int)
def oNo : VOo := fun vs => .ok none vs
def oSome (ga : VE) : VOo := fun vs => (ga vs).bind fun x vs => match x with
  | .int i => .ok (some i) vs
  | _ => .st
def fSlice (ga : VE) (gl gh : VOo) : VE := fun vs => (ga vs).bind fun x vs => (gl vs).bind fun lo vs => (gh vs).bind fun hi vs => match x with
  | .list ds => .ok (.list (cutX ds lo hi)) vs
  | _ => .st
section
variable {D : List KD} {b b1 b2 b3 fr fr1 fr2 fr3 : Bool} {k k1 k2 k3 i : Nat} {fa fb fc : FE} {ga gb gc : VE} {fl fh : List SV → AH → R (Option Int)} {gl gh : VOo}
def OV (D : List KD) (f : List SV → AH → R (Option Int)) (g : VOo) : Prop := ∀ (h : AH) (sl : List SV) (vs : List VS) (fs : List (List Nat)), RSt h D sl vs fs → fs.flatten.Nodup → OutP (fun _ x a => a = x) h vs (g vs) (f sl h)
theorem ov_no : OV D Zx.oNo oNo := fun h sl vs fs R nd => ⟨rfl, none, [], by rw [List.append_nil]; rfl, rfl⟩
theorem ov_some (ha : EV D b k fr fa ga) : OV D (Zx.oSome fa) (oSome ga) := by
  intro h sl vs fs R nd
  refine (ha h sl vs fs R nd).ep fun x s t f1 r1 n1 _ => ?_
  split
  · obtain ⟨rfl, -⟩ := r1.imm rfl
    exact ⟨rfl, _, [], by rw [List.append_nil], rfl⟩
  · trivial
theorem fa_take {h : AH} : ∀ {ss : List SV} {ds : List PyData} {fs : List (List Nat)} (n : Nat), Fa3 (RV h b k) ss ds fs → Fa3 (RV h b k) (ss.take n) (ds.take n) (fs.take n)
  | s :: ss, d :: ds, f :: fs, n + 1, ⟨r, q⟩ => ⟨r, fa_take n q⟩
  | s :: ss, d :: ds, f :: fs, 0, _ => trivial
  | [], [], [], n, _ => by rw [List.take_nil, List.take_nil, List.take_nil]; trivial
  | [], [], c :: cs, _, h => h.elim
  | [], b :: bs, [], _, h => h.elim
  | [], b :: bs, c :: cs, _, h => h.elim
  | a :: as, [], [], _, h => h.elim
  | a :: as, [], c :: cs, _, h => h.elim
  | a :: as, b :: bs, [], _, h => h.elim
theorem fa_drop {h : AH} : ∀ {ss : List SV} {ds : List PyData} {fs : List (List Nat)} (n : Nat), Fa3 (RV h b k) ss ds fs → Fa3 (RV h b k) (ss.drop n) (ds.drop n) (fs.drop n)
  | s :: ss, d :: ds, f :: fs, n + 1, ⟨r, q⟩ => fa_drop n q
  | s :: ss, d :: ds, f :: fs, 0, r => r
  | [], [], [], n, _ => by rw [List.drop_nil, List.drop_nil, List.drop_nil]; trivial
  | [], [], c :: cs, _, h => h.elim
  | [], b :: bs, [], _, h => h.elim
  | [], b :: bs, c :: cs, _, h => h.elim
  | a :: as, [], [], _, h => h.elim
  | a :: as, [], c :: cs, _, h => h.elim
  | a :: as, b :: bs, [], _, h => h.elim
theorem ev_slice (ha : EV D b k fr1 fa ga) (hl : OV D fl gl) (hh : OV D fh gh) (hk : k ≤ 1 := by decide) : EV D b 1 fr (Zx.fSlice fa fl fh) (fSlice ga gl gh) := by
  intro h sl vs fs R nd
  refine (ha h sl vs fs R nd).ee fun x s t f1 r1 n1 _ => ?_
  refine (hl (h ++ t) sl vs fs R.app nd).pe fun lo lo' t2 e => ?_
  subst e
  refine (hh (h ++ t ++ t2) sl vs fs (RSt.app (RSt.app R)) nd).pe fun hi hi' t3 e => ?_
  subst e
  split
  · rename_i ds
    obtain ⟨ss, gs, e1, q⟩ := lst_of (RV.app (t := t3) (RV.app (t := t2) r1)) hk
    rw [e1]
    dsimp only
    unfold cutX
    rw [q.len.1]
    exact (fresh_lst (fa_take _ (fa_drop _ q))).up (by simp only [List.length_append]; omega)
  · trivial
end
end Zx.V
namespace Zx.V
open PySem PySem.Spec L2
def keyP : PyData → Option Key
  | .int i => some (.inl i)
  | .str x => some (.inr x)
  | _ => none
def toL : List (PyData × PyData) → Option (List (Key × PyData))
  | [] => some []
  | p :: r => match keyP p.1 with
    | some k => match toL r with
      | some q => some ((k, p.2) :: q)
      | none => none
    | none => none
def dK (l : List (Key × PyData)) : List (PyData × PyData) := l.map fun p => (kD p.1, p.2)
def valL : List (Key × PyData) → Key → Option PyData
  | [], _ => none
  | p :: r, k => if p.1 = k then some p.2 else valL r k
def setL : List (Key × PyData) → Key → PyData → List (Key × PyData)
  | [], _, _ => []
  | p :: r, k, s => (if p.1 = k then (p.1, s) else p) :: setL r k s
def putL (l : List (Key × PyData)) (k : Key) (x : PyData) : List (Key × PyData) := match valL l k with
  | some _ => setL l k x
  | none => l ++ [(k, x)]
theorem keyP_kD {k : Key} : keyP (kD k) = some k := by cases k <;> rfl
theorem toL_dK : ∀ (l : List (Key × PyData)), toL (dK l) = some l
  | [] => rfl
  | p :: r => by
    unfold dK
    rw [List.map_cons]
    unfold toL
    rw [keyP_kD]
    dsimp only
    rw [show toL (r.map fun p => (kD p.1, p.2)) = some r from toL_dK r]
theorem dK_toL : ∀ {ps : List (PyData × PyData)} {l : List (Key × PyData)}, toL ps = some l → ps = dK l
  | [], l, e => by cases e; rfl
  | p :: r, l, e => by
    unfold toL at e
    split at e
    · rename_i k hk
      split at e
      · rename_i q hq
        cases e
        have : p.1 = kD k := by
          unfold keyP at hk
          split at hk
          · rename_i z; cases hk; exact z
          · rename_i z; cases hk; exact z
          · cases hk
        show p :: r = (kD k, p.2) :: dK q
        rw [← dK_toL hq, ← this]
      · cases e
    · cases e
def toM (ps : List (PyData × PyData)) : Option (List (Key × PyData)) := if lkq ps = true then toL ps.tail else toL ps
theorem dK_lk : ∀ (l : List (Key × PyData)), lkq (dK l) = false
  | [] => rfl
  | p :: r => kD_mk p.1
theorem toM_dK (l : List (Key × PyData)) : toM (dK l) = some l := by
  unfold toM
  rw [dK_lk]
  exact toL_dK l
theorem toM_lk (l : List (Key × PyData)) : toM ((.none, .none) :: dK l) = some l := toL_dK l
theorem keyOf_d {x : PyData} : keyOf (.d x) = keyP x := by cases x <;> rfl
def DV (h : AH) (b : Bool) (k : Nat) (kvs : List (Key × SV)) (l : List (Key × PyData)) (fs : List (List Nat)) : Prop := kvs.map Prod.fst = l.map Prod.fst ∧ Fa3 (RV h b k) (kvs.map Prod.snd) (l.map Prod.snd) fs
theorem zip_dK : ∀ {ks : List Key} {ds : List PyData}, ks.length = ds.length → zipD ks ds = dK (ks.zip ds)
  | [], [], _ => rfl
  | k :: ks, d :: ds, h => by
    show (kD k, d) :: zipD ks ds = (kD k, d) :: dK (ks.zip ds)
    rw [zip_dK (Nat.succ.inj h)]
  | [], d :: ds, h => by cases h
  | k :: ks, [], h => by cases h
theorem toKS_dK {f : PyData → SV} : ∀ (l : List (Key × PyData)), toKS f (dK l) = some (l.map fun p => (p.1, f p.2))
  | [] => rfl
  | (.inl i, d) :: r => by
    show toKS f ((.int i, d) :: dK r) = _
    unfold toKS
    rw [toKS_dK r]
    rfl
  | (.inr i, d) :: r => by
    show toKS f ((.str i, d) :: dK r) = _
    unfold toKS
    rw [toKS_dK r]
    rfl
section
variable {D : List KD} {b b1 b2 b3 fr fr1 fr2 fr3 : Bool} {k k1 k2 k3 i : Nat} {fa fb fc : FE} {ga gb gc : VE} {ta tb : FT} {ua ub : VT} {ra : FA} {qa : VA} {KL : List KD}
theorem dct_of {h : AH} {s : SV} {l : List (Key × PyData)} {f : List Nat} (r : RV h b k s (.dict (dK l)) f) : ∃ kvs fs k', dctR h s = some kvs ∧ DV h b k' kvs l fs ∧ k' = k - 1 := by
  have hd : (l.map fun p => (p.1, SV.d p.2)).map Prod.fst = l.map Prod.fst := by rw [List.map_map]; rfl
  have hv : (l.map fun p => (p.1, mkv p.2)).map Prod.fst = l.map Prod.fst := by rw [List.map_map]; rfl
  match k, r with
  | 0, r =>
    rcases r.2 with rfl | ⟨rfl, rfl⟩
    · refine ⟨_, (l.map Prod.snd).map fun _ => [], 0, toKS_dK l, ⟨hd, ?_⟩, rfl⟩
      have := fa_leaf (b := b) (h := h) (l.map Prod.snd)
      rw [List.map_map] at this ⊢
      exact this
    · refine ⟨_, (l.map Prod.snd).map fun _ => [], 0, toKS_dK l, ⟨hv, ?_⟩, rfl⟩
      have := fa_view (h := h) (l.map Prod.snd)
      rw [List.map_map] at this ⊢
      exact this
  | k + 1, r =>
    unfold RV at r
    rcases r with q | ⟨n', xs, ds', fs, rfl, hn, e, rfl, q⟩ | ⟨n', kvs, ds', fs, rfl, hn, e, rfl, q⟩ | ⟨n', xs, ds', fs, rfl, hn, e, rfl, q⟩
    · cases q.2.2
    · cases e
    rotate_left
    · cases e
    · have e := PyData.dict.inj e
      have hl := q.len.1
      rw [zip_dK (by rw [List.length_map] at hl ⊢; exact hl)] at e
      have e2 : l = (kvs.map Prod.fst).zip ds' := by
        have := congrArg toL e
        rw [toL_dK, toL_dK] at this
        exact Option.some.inj this
      refine ⟨kvs, fs, k, by show dctOf h (.r n') = _; unfold dctOf; dsimp only; rw [hn], ⟨?_, ?_⟩, rfl⟩
      · rw [e2, List.map_fst_zip (by rw [List.length_map] at hl ⊢; omega)]
      · rw [e2, List.map_snd_zip (by rw [List.length_map] at hl ⊢; omega)]
        exact q
theorem DV.val {h : AH} : ∀ {kvs : List (Key × SV)} {l : List (Key × PyData)} {fs : List (List Nat)} (key : Key), DV h b k kvs l fs → (valS kvs key = none ∧ valL l key = none) ∨ ∃ (s : SV) (x : PyData) (f : List Nat) (j : Nat), valS kvs key = some s ∧ valL l key = some x ∧ fs[j]? = some f ∧ RV h b k s x f
  | [], [], fs, key, d => .inl ⟨rfl, rfl⟩
  | p :: kvs, [], fs, key, d => by cases d.1
  | [], p :: l, fs, key, d => by cases d.1
  | p :: kvs, q :: l, [], key, d => d.2.elim
  | p :: kvs, q :: l, f :: fs, key, ⟨d1, d2, d3⟩ => by
    have e1 : p.1 = q.1 := (List.cons.inj d1).1
    have e2 : kvs.map Prod.fst = l.map Prod.fst := (List.cons.inj d1).2
    unfold valS valL
    rw [e1]
    by_cases h : q.1 = key
    · rw [if_pos h, if_pos h]
      exact .inr ⟨p.2, q.2, f, 0, rfl, rfl, rfl, d2⟩
    · rw [if_neg h, if_neg h]
      rcases DV.val key ⟨e2, d3⟩ with z | ⟨s, x, f', j, h1, h2, h3, h4⟩
      · exact .inl z
      · exact .inr ⟨s, x, f', j + 1, h1, h2, h3, h4⟩
def fDct (b : Bool) (k : Nat) : VE := fun vs => .ok (.dict []) vs
def dIn (neg : Bool) : PyData → PyData → List VS → VR PyData := fun y x vs => match keyP y, x with
  | some key, .dict ps => match toM ps with
    | some l => .ok (.bool (neg ^^ (valL l key).isSome)) vs
    | none => .st
  | _, _ => .st
def dGet : PyData → PyData → List VS → VR PyData := fun x y vs => match keyP y, x with
  | some key, .dict ps => match toM ps with
    | some l => match valL l key with
      | some u => .ok u vs
      | none => .st
    | none => .st
  | _, _ => .st
def fDIn (neg : Bool) (ga gb : VE) : VE := fBin (dIn neg) ga gb
def fDGet (ga gb : VE) : VE := fBin dGet ga gb
def gLenD : List PyData → List VS → VR PyData := fun ds vs => match ds with
  | [.dict ps] => match toM ps with
    | some l => .ok (.int l.length) vs
    | none => .st
  | _ => .st
theorem key_rv {h : AH} {s : SV} {x : PyData} {f : List Nat} {key : Key} (r : RV h b k s x f) (e : keyP x = some key) : keyOf s = some key := by
  have c : imm x = true := by
    cases x <;> first | rfl | cases e
  obtain ⟨rfl, _⟩ := r.imm c
  rw [keyOf_d]; exact e
end
inductive VI where
  | one (x : PyData) | two (x y : PyData)
def RI (b : Bool) : It1 → VI → Prop
  | .one s, .one x => leaf b s x
  | .two s t, .two x y => leaf b s x ∧ leaf b t y
  | _, _ => False
def FI (b : Bool) : List It1 → List VI → Prop
  | [], [] => True
  | i :: is, j :: js => RI b i j ∧ FI b is js
  | _, _ => False
abbrev VSr := List VS → VR (List VI)
def IV (D : List KD) (b : Bool) (f : List SV → AH → R Src) (g : VSr) : Prop := ∀ (h : AH) (sl : List SV) (vs : List VS) (fs : List (List Nat)), RSt h D sl vs fs → fs.flatten.Nodup → OutP (fun _ l s => ∃ its, s = .cn its ∧ FI b its l) h vs (g vs) (f sl h)
def iSeq (ga : VE) : VSr := fun vs => (ga vs).bind fun x vs => match x with
  | .list ds => .ok (ds.map .one) vs
  | _ => .st
def iTupl (ga : VE) : VSr := fun vs => (ga vs).bind fun x vs => match x with
  | .tuple ds => .ok (ds.map .one) vs
  | _ => .st
def rngV (lo : Int) (n : Nat) : List VI := (List.range n).map fun i => .one (.int (lo + (i : Nat)))
def iRng (ga : VA) : VSr := fun vs => (ga vs).bind fun ds vs => match ds with
  | [.int j] => if inB j = true then .ok (rngV 0 j.toNat) vs else .st
  | _ => .st
def iRng2 (ga : VA) : VSr := fun vs => (ga vs).bind fun ds vs => match ds with
  | [.int i, .int j] => if (inB i && inB j) = true then .ok (rngV i (j - i).toNat) vs else .st
  | _ => .st
def enumV : Nat → List PyData → List VI
  | _, [] => []
  | k, x :: xs => .two (.int (k : Nat)) x :: enumV (k + 1) xs
def zipV : List PyData → List PyData → List VI
  | x :: xs, y :: ys => .two x y :: zipV xs ys
  | _, _ => []
def iEnu (ga : VA) : VSr := fun vs => (ga vs).bind fun ds vs => match ds with
  | [.list xs] => .ok (enumV 0 xs) vs
  | _ => .st
def iZip (ga : VA) : VSr := fun vs => (ga vs).bind fun ds vs => match ds with
  | [.list xs, .list ys] => .ok (zipV xs ys) vs
  | _ => .st
section
variable {D : List KD} {b b1 b2 b3 fr fr1 fr2 fr3 : Bool} {k k1 k2 k3 i : Nat} {fa fb fc : FE} {ga gb gc : VE} {ta tb : FT} {ua ub : VT} {ra : FA} {qa : VA} {KL : List KD}
theorem fi_d : ∀ (ds : List PyData), FI b (ds.map fun x => .one (.d x)) (ds.map .one)
  | [] => trivial
  | d :: ds => ⟨.inl rfl, fi_d ds⟩
theorem fi_v : ∀ (ds : List PyData), FI true (ds.map fun x => .one (mkv x)) (ds.map .one)
  | [] => trivial
  | d :: ds => ⟨.inr ⟨rfl, rfl⟩, fi_v ds⟩
theorem iv_seq (ha : EV D b 0 fr fa ga) : IV D b (Zx.iSeq fa) (iSeq ga) := by
  intro h sl vs fs R nd
  refine (ha h sl vs fs R nd).ep fun x s t f1 r1 n1 _ => ?_
  split
  · rename_i ds
    rcases r1.2 with rfl | ⟨rfl, rfl⟩
    · exact ⟨rfl, _, [], by rw [List.append_nil], _, rfl, fi_d ds⟩
    · exact ⟨rfl, _, [], by rw [List.append_nil]; rfl, _, rfl, fi_v ds⟩
  · trivial
theorem fi_rng {lo : Int} : ∀ l : List Nat, FI b (l.map fun i => .one (.d (.int (lo + (i : Nat))))) (l.map fun i => .one (.int (lo + (i : Nat))))
  | [] => trivial
  | d :: ds => ⟨.inl rfl, fi_rng ds⟩
theorem iv_rng {p : KD} (ha : AV D [p] ra qa) : IV D b (Zx.iRng ra) (iRng qa) := by
  intro h sl vs fs R nd
  refine (ha h sl vs fs R nd).pp fun xs ss t r => ?_
  obtain ⟨s, x, f, rfl, rfl, r1⟩ := ra_one r
  split
  · rename_i j e
    cases e
    obtain ⟨rfl, -⟩ := r1.imm rfl
    dsimp only
    split
    · exact ⟨rfl, _, [], by rw [List.append_nil]; rfl, _, rfl, fi_rng _⟩
    · trivial
  · trivial
theorem leaf_bm {s : SV} {x : PyData} (hb : (!b1 || b) = true) (l : leaf b1 s x) : leaf b s x := l.imp_right fun z => ⟨by rw [z.1] at hb; simpa using hb, z.2⟩
end
def setAllV : List Nat → List PyData → List VS → Option (List VS)
  | [], [], vs => some vs
  | i :: is, x :: xs, vs => setAllV is xs (vs.set i (.v x))
  | _, _, _ => none
def goV : Bd → VI → List VS → Option (List VS)
  | .nm i, .one x, vs => some (vs.set i (.v x))
  | .tp is, .one (.tuple ds), vs => setAllV is ds vs
  | .tp is, .two x y, vs => setAllV is [x, y] vs
  | _, _, _ => none
def kdOk (D : List KD) (b : Bool) (i : Nat) : Bool := match D[i]? with
  | some (b', 0) => !b || b'
  | _ => false
def bdOk (D : List KD) (b : Bool) (bd : Bd) : Bool := bd.is.all (kdOk D b)
section
variable {D : List KD} {b : Bool}
theorem kd_set {h : AH} {sl : List SV} {vs : List VS} {fs : List (List Nat)} {i : Nat} {s : SV} {x : PyData} (c : kdOk D b i = true) (R : RSt h D sl vs fs) (nd : fs.flatten.Nodup) (l : leaf b s x) :
    ∃ fs', RSt h D (sl.set i s) (vs.set i (.v x)) fs' ∧ fs'.flatten.Nodup ∧ ∀ n ∈ fs'.flatten, n ∈ fs.flatten := by
  unfold kdOk at c
  split at c
  · rename_i b' e
    exact ⟨fs.set i [], R.set e ⟨rfl, leaf_bm c l⟩, nd_rest nd, fun n m => mem_rest m⟩
  · cases c
theorem setAll_ok {h : AH} : ∀ {is : List Nat} {xs : List SV} {ds : List PyData} {sl : List SV} {vs vs' : List VS} {fs : List (List Nat)}, is.all (kdOk D b) = true → RSt h D sl vs fs → fs.flatten.Nodup → (xs.length = ds.length ∧ ∀ (j : Nat) (s : SV) (x : PyData), xs[j]? = some s → ds[j]? = some x → leaf b s x) → setAllV is ds vs = some vs' →
    ∃ sl' fs', setAll is xs sl = some sl' ∧ RSt h D sl' vs' fs' ∧ fs'.flatten.Nodup ∧ ∀ n ∈ fs'.flatten, n ∈ fs.flatten
  | [], xs, [], sl, vs, vs', fs, c, R, nd, l, e => by
    cases e
    cases xs with
    | nil => exact ⟨sl, fs, rfl, R, nd, fun n m => m⟩
    | cons a xs => cases l.1
  | [], xs, d :: ds, sl, vs, vs', fs, c, R, nd, l, e => by cases e
  | i :: is, xs, [], sl, vs, vs', fs, c, R, nd, l, e => by cases e
  | i :: is, [], d :: ds, sl, vs, vs', fs, c, R, nd, l, e => by cases l.1
  | i :: is, a :: xs, d :: ds, sl, vs, vs', fs, c, R, nd, l, e => by
    rw [List.all_cons, Bool.and_eq_true] at c
    obtain ⟨fs1, R1, n1, m1⟩ := kd_set c.1 R nd (l.2 0 a d rfl rfl)
    obtain ⟨sl2, fs2, e2, R2, n2, m2⟩ := setAll_ok c.2 R1 n1 ⟨Nat.succ.inj l.1, fun j s x h1 h2 => l.2 (j + 1) s x h1 h2⟩ e
    exact ⟨sl2, fs2, e2, R2, n2, fun n m => m1 n (m2 n m)⟩
theorem go_ok {h : AH} {bd : Bd} {it : It1} {vi : VI} {sl : List SV} {vs vs' : List VS} {fs : List (List Nat)} (c : bdOk D b bd = true) (R : RSt h D sl vs fs) (nd : fs.flatten.Nodup) (r : RI b it vi) (e : goV bd vi vs = some vs') :
    ∃ sl' fs', bd.go it sl = some sl' ∧ RSt h D sl' vs' fs' ∧ fs'.flatten.Nodup ∧ ∀ n ∈ fs'.flatten, n ∈ fs.flatten := by
  unfold goV at e
  split at e
  · rename_i i x
    cases e
    cases it with
    | two s t => exact r.elim
    | one s =>
      unfold bdOk at c
      have c : [i].all (kdOk D b) = true := c
      rw [List.all_cons, List.all_nil, Bool.and_true] at c
      obtain ⟨fs', R', n', m'⟩ := kd_set c R nd r
      exact ⟨_, fs', rfl, R', n', m'⟩
  · rename_i is ds
    cases it with
    | two s t => exact r.elim
    | one s =>
      have r : leaf b s (.tuple ds) := r
      have gt : ∀ {α : Type} (l : List α) (f : α → SV) (j : Nat) (s : SV) (d : α), (l.map f)[j]? = some s → l[j]? = some d → s = f d := fun l f j s d h1 h2 => by
        rw [List.getElem?_map, h2] at h1; exact (Option.some.inj h1).symm
      have : ∃ xs, tupItems s = some xs ∧ xs.length = ds.length ∧ ∀ (j : Nat) (s : SV) (x : PyData), xs[j]? = some s → ds[j]? = some x → leaf b s x := by
        rcases r with rfl | ⟨rfl, rfl⟩
        · exact ⟨_, rfl, List.length_map .., fun j s x h1 h2 => .inl (gt _ _ _ _ _ h1 h2)⟩
        · unfold mkv
          split
          · exact ⟨_, rfl, List.length_map .., fun j s x h1 h2 => .inl (gt _ _ _ _ _ h1 h2)⟩
          · exact ⟨_, rfl, List.length_map .., fun j s x h1 h2 => .inr ⟨rfl, gt _ _ _ _ _ h1 h2⟩⟩
      obtain ⟨xs, e1, l⟩ := this
      obtain ⟨sl', fs', e2, rest⟩ := setAll_ok (D := D) c R nd l e
      exact ⟨sl', fs', by show (match tupItems s with | some xs => setAll is xs sl | none => none) = _; rw [e1]; exact e2, rest⟩
  · rename_i is x y
    cases it with
    | one s => exact r.elim
    | two s t =>
      have r : leaf b s x ∧ leaf b t y := r
      obtain ⟨sl', fs', e2, rest⟩ := setAll_ok (D := D) (xs := [s, t]) c R nd ⟨rfl, fun j s' x' h1 h2 => by
        match j with
        | 0 => cases h1; cases h2; exact r.1
        | 1 => cases h1; cases h2; exact r.2
        | j + 2 => cases h1⟩ e
      exact ⟨sl', fs', e2, rest⟩
  · cases e
end
end Zx.V
namespace Zx.V
open PySem PySem.Spec L2
def wipeV (vs : List VS) : List Nat → List VS
  | [] => vs
  | v :: r => (wipeV vs r).set v .un
def lcV (bd : Bd) (gt : VT) (ge : VE) (vw : List VS) : List VI → Option (List PyData)
  | [] => some []
  | it :: its => match goV bd it vw with
    | none => none
    | some vs1 => match gt vs1 with
      | .ok true _ => match ge vs1 with
        | .ok x _ => match lcV bd gt ge vw its with
          | some r => some (x :: r)
          | none => none
        | _ => none
      | .ok false _ => lcV bd gt ge vw its
      | _ => none
def lcEnd (vs : List VS) (o : Option (List PyData)) : VR PyData := match o with
  | some out => if out.length ≤ 1000000 then .ok (.list out) vs else .st
  | none => .st
def fLc (b : Bool) (k : Nat) (gi : VSr) (bd : Bd) (gt : VT) (ge : VE) (vx : List Nat) : VE := fun vs => (gi vs).bind fun its vs => lcEnd vs (lcV bd gt ge (wipeV vs vx) its)
def fYes : VT := fun vs => .ok true vs
section
variable {D : List KD} {b b1 b2 b3 fr fr1 fr2 fr3 : Bool} {k k1 k2 k3 i : Nat} {fa fb fc : FE} {ga gb gc : VE} {ta tb : FT} {ua ub : VT} {ra : FA} {qa : VA} {KL : List KD}
theorem RSt.wipe {h : AH} {sl : List SV} {vs : List VS} {fs : List (List Nat)} (R : RSt h D sl vs fs) (nd : fs.flatten.Nodup) : ∀ (vx : List Nat), ∃ fs', RSt h D (wipeS sl vx) (wipeV vs vx) fs' ∧ fs'.flatten.Nodup ∧ ∀ n ∈ fs'.flatten, n ∈ fs.flatten
  | [] => ⟨fs, R, nd, fun _ m => m⟩
  | v :: r => by
    obtain ⟨fs', R', n', m'⟩ := RSt.wipe R nd r
    unfold wipeS wipeV
    refine ⟨fs'.set v [], ?_, nd_rest n', fun n m => m' n (mem_rest m)⟩
    cases e : D[v]? with
    | none =>
      have hl := R'.len
      have hv : D.length ≤ v := List.getElem?_eq_none_iff.mp e
      rw [List.set_eq_of_length_le (by omega), List.set_eq_of_length_le (by omega), List.set_eq_of_length_le (by omega)]
      exact R'
    | some kd => exact R'.set e (show RS1 h kd .un .un [] from rfl)
theorem norm_cs {M : Nat} {slw : List SV} {h : AH} : (norm [] M slw h).2 = h ∨ ((norm [] M slw h).2 = h.take M ∧ (h.take M).all (belowO M) = true) := by
  unfold Zx.norm
  split
  · rename_i c
    unfold trimOk at c
    rw [Bool.and_eq_true] at c
    exact .inr ⟨rfl, c.1⟩
  · exact .inl rfl
theorem fa_cut {h : AH} {M : Nat} (hL : (h.take M).all (belowO M) = true) : ∀ {ss : List SV} {ds : List PyData} {fs : List (List Nat)}, ss.all (Zx.below M) = true → Fa3 (RV h b k) ss ds fs → Fa3 (RV (h.take M) b k) ss ds fs
  | [], [], [], _, _ => trivial
  | s :: ss, d :: ds, f :: fs, c, ⟨r, q⟩ => by
    rw [List.all_cons, Bool.and_eq_true] at c
    exact ⟨r.cut (RV.below hL r c.1), fa_cut hL c.2 q⟩
  | [], [], c :: cs, _, h => h.elim
  | [], b :: bs, [], _, h => h.elim
  | [], b :: bs, c :: cs, _, h => h.elim
  | a :: as, [], [], _, h => h.elim
  | a :: as, [], c :: cs, _, h => h.elim
  | a :: as, b :: bs, [], _, h => h.elim
theorem lc_turn {h0 : AH} {slw : List SV} {acc : List SV} {accv : List PyData} {fps : List (List Nat)} {t : AH} (q : Fa3 (RV (h0 ++ [some (.lst acc)] ++ t) b k) acc accv fps) :
    ∃ t', (norm [] (h0.length + 1) slw (h0 ++ [some (.lst acc)] ++ t)).2 = h0 ++ [some (.lst acc)] ++ t' ∧ Fa3 (RV (h0 ++ [some (.lst acc)] ++ t') b k) acc accv fps := by
  rcases norm_cs (M := h0.length + 1) (slw := slw) (h := h0 ++ [some (.lst acc)] ++ t) with e | ⟨e, c⟩
  · exact ⟨t, e, q⟩
  · have ht : (h0 ++ [some (AO.lst acc)] ++ t).take (h0.length + 1) = h0 ++ [some (.lst acc)] ++ [] := by
      rw [List.append_nil, List.take_left' (by rw [List.length_append]; rfl)]
    refine ⟨[], by rw [e, ht], ?_⟩
    rw [← ht]
    refine fa_cut c ?_ q
    rw [ht, List.append_nil, List.all_append, Bool.and_eq_true] at c
    have c2 := c.2
    rw [List.all_cons, Bool.and_eq_true] at c2
    exact c2.1
theorem lcC_ok {bd : Bd} {slw : List SV} {vw : List VS} {fsw : List (List Nat)} {h0 : AH} (hbd : bdOk D b1 bd = true) (ht : TV D ta ua) (he : EV D b2 k true fa ga) (hb : (!b2 || b) = true) (R : RSt h0 D slw vw fsw) (nd : fsw.flatten.Nodup) :
    ∀ {its : List It1} {vis : List VI} {acc : List SV} {accv out : List PyData} {fps : List (List Nat)} {t : AH}, FI b1 its vis → Fa3 (RV (h0 ++ [some (.lst acc)] ++ t) b k) acc accv fps → fps.flatten.Nodup → (∀ n ∈ fps.flatten, h0.length + 1 ≤ n) → lcV bd ua ga vw vis = some out → accv.length + out.length ≤ 1000000 →
      ∃ acc' fps' t', lcC h0.length bd ta fa slw its (h0 ++ [some (.lst acc)] ++ t) = .ok () (h0 ++ [some (.lst acc')] ++ t') ∧ Fa3 (RV (h0 ++ [some (.lst acc')] ++ t') b k) acc' (accv ++ out) fps' ∧ fps'.flatten.Nodup ∧ ∀ n ∈ fps'.flatten, h0.length + 1 ≤ n
  | [], [], acc, accv, out, fps, t, fi, q, n, z, e, hl => by
    cases e
    exact ⟨acc, fps, t, rfl, by rw [List.append_nil]; exact q, n, z⟩
  | [], j :: js, acc, accv, out, fps, t, fi, q, n, z, e, hl => fi.elim
  | i :: is, [], acc, accv, out, fps, t, fi, q, n, z, e, hl => fi.elim
  | i :: is, j :: js, acc, accv, out, fps, t, ⟨f1, f2⟩, q, n, z, e, hl => by
    unfold lcV at e
    split at e
    · cases e
    · rename_i vs1 hg
      obtain ⟨sl1, fs1, e1, R1, nd1, m1⟩ := go_ok hbd R nd f1 hg
      have o1 := ht (h0 ++ [some (.lst acc)] ++ t) sl1 vs1 fs1 (RSt.app (RSt.app R1)) nd1
      unfold lcC
      unfold lcOne
      rw [e1]
      dsimp only
      split at e
      · rename_i vs2 ht1
        rw [ht1] at o1
        obtain ⟨rfl, a, t1, ea, e3⟩ := o1
        subst e3
        rw [ea]
        split at e
        · rename_i x vs3 hx
          have o2 := he (h0 ++ [some (.lst acc)] ++ t ++ t1) sl1 vs2 fs1 (RSt.app (RSt.app (RSt.app R1))) nd1
          rw [hx] at o2
          obtain ⟨rfl, s, t2, fp, es, r2, n2, z2⟩ := o2
          split at e
          · rename_i r hr
            cases e
            show ∃ acc' fps' t', ((nrz (fa sl1 (h0 ++ [some (.lst acc)] ++ t ++ t1))).bind fun s h2 => lcPut h0.length slw s h2 (lcC h0.length bd ta fa slw is)) = _ ∧ _
            rw [es]
            have hL : (h0 ++ [some (AO.lst acc)] ++ t ++ t1 ++ t2)[h0.length]? = some (some (.lst acc)) := by
              rw [List.append_assoc, List.append_assoc, List.append_assoc, List.getElem?_append_right (Nat.le_refl _), Nat.sub_self]; rfl
            have la := q.len.1
            rw [List.length_cons] at hl
            show ∃ acc' fps' t', lcPut h0.length slw s (h0 ++ [some (.lst acc)] ++ t ++ t1 ++ t2) (lcC h0.length bd ta fa slw is) = _ ∧ _
            unfold lcPut
            rw [hL]
            dsimp only
            rw [if_pos (by omega)]
            have hs : (h0 ++ [some (AO.lst acc)] ++ t ++ t1 ++ t2).set h0.length (some (.lst (acc ++ [s]))) = h0 ++ [some (.lst (acc ++ [s]))] ++ (t ++ t1 ++ t2) := by
              rw [List.append_assoc, List.append_assoc, List.append_assoc, List.set_append_right _ _ (Nat.le_refl _), Nat.sub_self]
              simp
            rw [hs]
            have fz1 : ∀ m, h0.length + 1 ≤ m → (h0 ++ [some (AO.lst (acc ++ [s]))] ++ (t ++ t1 ++ t2))[m]? = (h0 ++ [some (AO.lst acc)] ++ t ++ t1 ++ t2)[m]? := fun m hm => by
              rw [← hs, List.getElem?_set_ne (by omega)]
            have q2 : Fa3 (RV (h0 ++ [some (.lst (acc ++ [s]))] ++ (t ++ t1 ++ t2)) b k) (acc ++ [s]) (accv ++ [x]) (fps ++ [fp]) := by
              have qa : Fa3 (RV (h0 ++ [some (.lst (acc ++ [s]))] ++ (t ++ t1 ++ t2)) b k) acc accv fps := Fa3.imp (cs0 := fps) (fun a0 b0 c hc p => by
                have p2 : RV (h0 ++ [some (AO.lst acc)] ++ t ++ t1 ++ t2) b k a0 b0 c := RV.app (RV.app p)
                exact p2.frame fun m hm => fz1 m (z m (List.mem_flatten.mpr ⟨c, hc, hm⟩))) (fun _ m => m) q
              have qb : Fa3 (RV (h0 ++ [some (.lst (acc ++ [s]))] ++ (t ++ t1 ++ t2)) b k) [s] [x] [fp] := by
                refine ⟨RV.bm hb (r2.frame fun m hm => fz1 m ?_), trivial⟩
                have := z2 rfl m hm
                simp only [List.length_append, List.length_cons, List.length_nil] at this
                omega
              exact Fa3.app qb qa
            have n3 : (fps ++ [fp]).flatten.Nodup := by
              rw [List.flatten_append, List.nodup_append]
              refine ⟨n, by simpa using n2, fun a ha b' hb' e => ?_⟩
              have hb'' : b' ∈ fp := by simpa using hb'
              obtain ⟨c, hc, hm⟩ := List.mem_flatten.mp ha
              obtain ⟨_, _, _, _, p⟩ := Fa3.mem q hc
              have h1 := p.lt a hm
              have h2 := z2 rfl b' hb''
              rw [List.length_append] at h2
              omega
            have z3 : ∀ m ∈ (fps ++ [fp]).flatten, h0.length + 1 ≤ m := fun m hm => by
              rw [List.flatten_append, List.mem_append] at hm
              rcases hm with hm | hm
              · exact z m hm
              · have := z2 rfl m (by simpa using hm)
                simp only [List.length_append, List.length_cons, List.length_nil] at this
                omega
            obtain ⟨t', et, q3⟩ := lc_turn (slw := slw) q2
            rw [et]
            obtain ⟨acc', fps', t'', h1, h2, h3, h4⟩ := lcC_ok hbd ht he hb R nd f2 q3 n3 z3 hr (by rw [List.length_append, List.length_singleton]; omega)
            refine ⟨acc', fps', t'', h1, ?_, h3, h4⟩
            rw [List.append_assoc accv] at h2
            exact h2
          · cases e
        · cases e
      · rename_i vs2 ht1
        rw [ht1] at o1
        obtain ⟨rfl, a, t1, ea, e3⟩ := o1
        subst e3
        rw [ea]
        have q2 : Fa3 (RV (h0 ++ [some (.lst acc)] ++ (t ++ t1)) b k) acc accv fps := by
          rw [← List.append_assoc]
          exact Fa3.imp (cs0 := fps) (fun _ _ _ _ p => RV.app p) (fun _ m => m) q
        obtain ⟨t', et, q3⟩ := lc_turn (slw := slw) q2
        show ∃ acc' fps' t', lcC h0.length bd ta fa slw is (norm [] (h0.length + 1) slw (h0 ++ [some (.lst acc)] ++ t ++ t1)).2 = _ ∧ _
        rw [List.append_assoc (h0 ++ [some (AO.lst acc)]), et]
        exact lcC_ok hbd ht he hb R nd f2 q3 n z e hl
      · cases e
theorem ev_lc {fi : List SV → AH → R Src} {gi : VSr} {bd : Bd} {vx : List Nat} (hi : IV D b1 fi gi) (ht : TV D ta ua) (he : EV D b2 k true fa ga) (hbd : bdOk D b1 bd = true := by decide) (hb : (!b2 || b) = true := by decide) : EV D b (k + 1) fr (Zx.fLc fi bd ta fa vx) (fLc b (k + 1) gi bd ua ga vx) := by
  intro h sl vs fs R nd
  refine (hi h sl vs fs R nd).pe fun vis s t r => ?_
  obtain ⟨its, rfl, fi⟩ := r
  obtain ⟨fsw, Rw, nw, _⟩ := RSt.wipe (R.app (t := t)) nd vx
  cases e : lcV bd ua ga (wipeV vs vx) vis with
  | none => trivial
  | some out =>
    show OutE _ _ _ _ _ _ (if out.length ≤ 1000000 then .ok (.list out) vs else .st) _
    split
    · rename_i hl
      obtain ⟨acc', fps', t', h1, h2, h3, h4⟩ := lcC_ok (h0 := h ++ t) (acc := []) (accv := []) (fps := []) (t := []) hbd ht he hb Rw nw fi trivial List.nodup_nil (fun _ m => by cases m) e (by simpa using hl)
      rw [List.append_nil] at h1
      show OutE _ _ _ _ _ _ _ ((lcC (h ++ t).length bd ta fa (wipeS sl vx) its (h ++ t ++ [some (.lst [])])).bind fun _ h2 => .ok (.r (h ++ t).length) h2)
      rw [h1]
      refine ⟨rfl, .r (h ++ t).length, [some (.lst acc')] ++ t', (h ++ t).length :: fps'.flatten, by rw [← List.append_assoc]; rfl, ?_, ?_, fun _ n m => ?_⟩
      · rw [← List.append_assoc]
        unfold RV
        refine .inr (.inl ⟨_, acc', out, fps', rfl, ?_, rfl, rfl, h2⟩)
        rw [List.append_assoc (h ++ t), List.getElem?_append_right (Nat.le_refl _), Nat.sub_self]; rfl
      · rw [List.nodup_cons]
        exact ⟨fun m => absurd (h4 _ m) (by omega), h3⟩
      · rcases List.mem_cons.mp m with rfl | m
        · rw [List.length_append]; omega
        · have := h4 n m
          rw [List.length_append] at this
          omega
    · trivial
end
inductive VC where
  | ok (x : PyData) | rz (c : Str) | st
def CalV (φ : List PyData → R SV) (k : Nat) (u : List PyData → VC) : Prop := ∀ ds, match u ds with
  | .ok x => ∃ s hn fp, φ ds = .ok s hn ∧ RV hn false k s x fp ∧ fp.Nodup
  | .rz c => ∃ hn, φ ds = .rz c hn
  | .st => True
def VC.back (r : VC) (vs : List VS) : VR PyData := match r with
  | .ok x => .ok x vs
  | .rz c => .rz c
  | .st => .st
def fCall (u : List PyData → VC) (qa : VA) : VE := fun vs => (qa vs).bind fun ds vs => (u ds).back vs
def fSc (i : Nat) : VE := fun vs => match vs[i]? with
  | some (.sc ns) => .ok (.list (ns.map PyData.int)) vs
  | _ => .st
def AM (D : List KD) (ms : List Md) (f : FA) (g : VA) : Prop := ∀ (h : AH) (sl : List SV) (vs : List VS) (fs : List (List Nat)), RSt h D sl vs fs → fs.flatten.Nodup → OutP (fun h' ds ss => ∀ t, argsD (h' ++ t) ms ss = some ds) h vs (g vs) (f sl h)
section
variable {D : List KD} {b b1 b2 b3 fr fr1 fr2 fr3 : Bool} {k k1 k2 k3 i : Nat} {fa fb fc : FE} {ga gb gc : VE} {ta tb : FT} {ua ub : VT} {ra : FA} {qa : VA} {KL : List KD} {ms : List Md}
theorem am_nil : AM D [] Zx.fNil fNil := fun h sl vs fs R nd => ⟨rfl, [], [], by rw [List.append_nil]; rfl, fun _ => rfl⟩
theorem am_vw (ha : EV D b k fr fa ga) (hr : AM D ms ra qa) (hk : k ≤ 9 := by decide) : AM D (.vw :: ms) (Zx.fCons fa ra) (fCons ga qa) := by
  intro h sl vs fs R nd
  refine (ha h sl vs fs R nd).ep fun x s t f1 r1 n1 _ => ?_
  refine (hr (h ++ t) sl vs fs R.app nd).pp fun xs ss t2 r2 => ?_
  refine ⟨rfl, s :: ss, [], by rw [List.append_nil], fun t3 => ?_⟩
  rw [g_cons, g_vw, List.append_nil, RV.rb (RV.app (t := t3) (RV.app (t := t2) r1)) hk, o_some, r2 t3]
  rfl
theorem am_sc (hr : AM D ms ra qa) (hi : i < D.length := by decide) : AM D (.sc :: ms) (Zx.fCons (Zx.fVar i) ra) (fCons (fSc i) qa) := by
  intro h sl vs fs R nd
  obtain ⟨s, v, f, e1, e2, e3, r⟩ := R.get (List.getElem?_eq_getElem hi)
  unfold fCons fSc
  show OutP _ _ _ ((match vs[i]? with | some (.sc ns) => VR.ok (PyData.list (ns.map PyData.int)) vs | _ => .st).bind _) _
  rw [e2]
  cases v with
  | un => trivial
  | v x => trivial
  | ex x => trivial
  | sc ns =>
    obtain ⟨rfl, rfl⟩ := r
    have : Zx.fVar i sl h = .ok (.sc ns) h := by unfold Zx.fVar; rw [e1]
    show OutP _ _ _ ((qa vs).bind _) ((Zx.fVar i sl h).bind _)
    rw [this]
    refine (hr h sl vs fs R nd).pp fun xs ss t2 r2 => ?_
    refine ⟨rfl, .sc ns :: ss, [], by rw [List.append_nil], fun t3 => ?_⟩
    rw [g_cons, g_sc, o_some, List.append_nil, r2 t3]; rfl
theorem ev_call {φ : List PyData → R SV} {u : List PyData → VC} (hc : CalV φ k u) (ha : AM D ms ra qa) : EV D false k fr (Zx.fCall ms φ ra) (fCall u qa) := by
  intro h sl vs fs R nd
  rw [a_call]
  refine (ha h sl vs fs R nd).pe fun ds ss t r => ?_
  have r := r []
  rw [List.append_nil] at r
  rw [r, o_some]
  have c := hc ds
  cases e : u ds with
  | st => trivial
  | rz cc =>
    rw [e] at c
    obtain ⟨hn, c⟩ := c
    rw [c]
    exact ⟨[], by rw [List.append_nil]; rfl⟩
  | ok x =>
    rw [e] at c
    obtain ⟨s, hn, fp, c, r1, n1⟩ := c
    rw [c]
    refine ⟨rfl, shv (h ++ t).length s, shh (h ++ t).length hn, fp.map (· + (h ++ t).length), rfl, r1.shift, ?_, fun _ n m => ?_⟩
    · exact List.Pairwise.map _ (fun a b e z => e (by omega)) n1
    · obtain ⟨m', _, rfl⟩ := List.mem_map.mp m
      rw [List.length_append]; omega
def Knows (φ : List PyData → R SV) (k : Nat) (ds : List PyData) (x : PyData) : Prop := ∃ s hn fp, φ ds = .ok s hn ∧ RV hn false k s x fp ∧ fp.Nodup
open Classical in
noncomputable def lift (φ : List PyData → R SV) (k : Nat) : List PyData → VC := fun ds => if h : ∃ x, Knows φ k ds x then .ok h.choose else match φ ds with
  | .rz c _ => .rz c
  | _ => .st
theorem cal_lift {φ : List PyData → R SV} : CalV φ k (lift φ k) := by
  intro ds
  unfold lift
  by_cases h : ∃ x, Knows φ k ds x
  · rw [dif_pos h]
    exact h.choose_spec
  · rw [dif_neg h]
    cases e : φ ds with
    | ok a hn => trivial
    | rz c hn => exact ⟨hn, rfl⟩
    | st => trivial
theorem lift_ok {φ : List PyData → R SV} {ds : List PyData} {x : PyData} (h : Knows φ k ds x) : lift φ k ds = .ok x := by
  unfold lift
  have hx : ∃ x, Knows φ k ds x := ⟨x, h⟩
  rw [dif_pos hx]
  obtain ⟨s, hn, fp, e1, r1, _⟩ := h
  obtain ⟨s', hn', fp', e2, r2, _⟩ := hx.choose_spec
  rw [e1] at e2
  cases e2
  have := (r2.rb (Nat.le_refl _)).symm.trans (r1.rb (Nat.le_refl _))
  rw [Option.some.inj this]
theorem knows_d {φ : List PyData → R SV} {ds : List PyData} {x : PyData} {hn : AH} (e : φ ds = .ok (.d x) hn) : Knows φ 0 ds x := ⟨_, hn, [], e, RV.d, List.nodup_nil⟩
theorem lift_d {φ : List PyData → R SV} {ds : List PyData} {x : PyData} {hn : AH} (e : φ ds = .ok (.d x) hn) : lift φ 0 ds = .ok x := lift_ok (knows_d e)
end
end Zx.V
namespace Zx.V
open PySem PySem.Spec L2
inductive VO where
  | nx (vs : List VS) | rt (x : PyData) | bk (vs : List VS) | ct (vs : List VS) | rz (c : Str) (vs : List VS) | st
abbrev VF := List VS → VO
structure Good (D : List KD) (h0 : AH) (fs0 : List (List Nat)) (h : AH) (sl : List SV) (vs : List VS) (fs : List (List Nat)) : Prop where
  R : RSt h D sl vs fs
  nd : fs.flatten.Nodup
  old : ∀ n ∈ fs.flatten, n ∈ fs0.flatten ∨ h0.length ≤ n
  fr : ∀ n, n < h0.length → n ∉ fs0.flatten → h[n]? = h0[n]?
  le : h0.length ≤ h.length
abbrev Keep (A : List Nat) (sl sl' : List SV) : Prop := ∀ i, i ∉ A → sl'[i]? = sl[i]?
section
variable {D : List KD} {h0 h1 h2 h t : AH} {fs0 fs1 fs2 fs : List (List Nat)} {sl sl0 sl1 sl2 : List SV} {vs vs0 vs1 vs2 : List VS} {A A1 A2 : List Nat}
theorem Good.trans (a : Good D h0 fs0 h1 sl1 vs1 fs1) (b : Good D h1 fs1 h2 sl2 vs2 fs2) : Good D h0 fs0 h2 sl2 vs2 fs2 where
  R := b.R
  nd := b.nd
  old n m := (b.old n m).elim (fun z => a.old n z) fun z => .inr (Nat.le_trans a.le z)
  fr n hn hm := (b.fr n (Nat.lt_of_lt_of_le hn a.le) fun z => (a.old n z).elim hm fun z => absurd hn (by omega)).trans (a.fr n hn hm)
  le := Nat.le_trans a.le b.le
theorem Good.refl (R : RSt h D sl vs fs) (nd : fs.flatten.Nodup) : Good D h fs h sl vs fs := ⟨R, nd, fun _ m => .inl m, fun _ _ _ => rfl, Nat.le_refl _⟩
theorem Good.ext (R : RSt h D sl vs fs) (nd : fs.flatten.Nodup) : Good D h fs (h ++ t) sl vs fs := ⟨R.app, nd, fun _ m => .inl m, fun n hn _ => by rw [List.getElem?_append_left hn], by rw [List.length_append]; omega⟩
theorem Good.app (a : Good D h0 fs0 h sl vs fs) : Good D h0 fs0 (h ++ t) sl vs fs := a.trans (Good.ext a.R a.nd)
theorem Good.sub (a : Good D h0 fs0 h sl vs fs) (R : RSt h D sl1 vs1 fs1) (nd : fs1.flatten.Nodup) (m : ∀ n ∈ fs1.flatten, n ∈ fs.flatten) : Good D h0 fs0 h sl1 vs1 fs1 := ⟨R, nd, fun n z => a.old n (m n z), a.fr, a.le⟩
theorem Keep.same : Keep A sl sl := fun _ _ => Eq.refl _
theorem Keep.trans (a : Keep A sl sl1) (b : Keep A sl1 sl2) : Keep A sl sl2 := fun i hi => (b i hi).trans (a i hi)
theorem Keep.l (a : Keep A1 sl sl1) : Keep (A1 ++ A2) sl sl1 := fun i hi => a i fun z => hi (List.mem_append_left _ z)
theorem Keep.r (a : Keep A2 sl sl1) : Keep (A1 ++ A2) sl sl1 := fun i hi => a i fun z => hi (List.mem_append_right _ z)
theorem Keep.set {i : Nat} {s : SV} : Keep [i] sl (sl.set i s) := fun j hj => by rw [List.getElem?_set_ne fun e => hj (by rw [e]; exact List.mem_singleton.mpr rfl)]
end
/-- what an answer leaves: what it holds was handed in or is new; all else stands -/
structure RtG (h : AH) (fs : List (List Nat)) (h' : AH) (fp : List Nat) : Prop where
  old : ∀ n ∈ fp, n ∈ fs.flatten ∨ h.length ≤ n
  fr : ∀ n, n < h.length → n ∉ fs.flatten → h'[n]? = h[n]?
  le : h.length ≤ h'.length
theorem RtG.pre {D : List KD} {h h1 h' : AH} {sl1 : List SV} {vs1 : List VS} {fs fs1 : List (List Nat)} {fp : List Nat} (G : Good D h fs h1 sl1 vs1 fs1) (r : RtG h1 fs1 h' fp) : RtG h fs h' fp where
  old n m := (r.old n m).elim (fun z => G.old n z) fun z => .inr (Nat.le_trans G.le z)
  fr n hn hm := (r.fr n (Nat.lt_of_lt_of_le hn G.le) fun z => (G.old n z).elim hm fun z => absurd hn (by omega)).trans (G.fr n hn hm)
  le := Nat.le_trans G.le r.le
def OutS (D : List KD) (A : List Nat) (rb : Bool) (rk : Nat) (h : AH) (sl : List SV) (fs : List (List Nat)) (r : VO) (q : O) : Prop := match r with
  | .nx vs' => ∃ sl' h' fs', q = .nx sl' h' ∧ Good D h fs h' sl' vs' fs' ∧ Keep A sl sl'
  | .bk vs' => ∃ sl' h' fs', q = .bk sl' h' ∧ Good D h fs h' sl' vs' fs' ∧ Keep A sl sl'
  | .ct vs' => ∃ sl' h' fs', q = .ct sl' h' ∧ Good D h fs h' sl' vs' fs' ∧ Keep A sl sl'
  | .rz c vs' => ∃ sl' h' fs', q = .rz c sl' h' ∧ Good D h fs h' sl' vs' fs' ∧ Keep A sl sl'
  | .rt x => ∃ s h' fp, q = .rt s h' ∧ RV h' rb rk s x fp ∧ fp.Nodup ∧ RtG h fs h' fp
  | .st => True
def SVp (D : List KD) (A : List Nat) (rb : Bool) (rk : Nat) (f : FS) (g : VF) : Prop := ∀ (h : AH) (sl : List SV) (vs : List VS) (fs : List (List Nat)), RSt h D sl vs fs → fs.flatten.Nodup → OutS D A rb rk h sl fs (g vs) (f sl h)
def OutX (D : List KD) (b : Bool) (k : Nat) (h : AH) (sl : List SV) (fs : List (List Nat)) (r : VR PyData) (q : R SV) : Prop := match r with
  | .ok x vs' => ∃ s h' fs' fp, q = .ok s h' ∧ Good D h fs h' sl vs' fs' ∧ RV h' b k s x fp ∧ fp.Nodup ∧ (∀ n ∈ fp, n ∉ fs'.flatten) ∧ ∀ n ∈ fp, n ∈ fs.flatten ∨ h.length ≤ n
  | .rz c => ∃ t, q = .rz c (h ++ t)
  | .st => True
def XV (D : List KD) (b : Bool) (k : Nat) (f : FE) (g : VE) : Prop := ∀ (h : AH) (sl : List SV) (vs : List VS) (fs : List (List Nat)), RSt h D sl vs fs → fs.flatten.Nodup → OutX D b k h sl fs (g vs) (f sl h)
theorem OutS.pre {D : List KD} {A A' : List Nat} {rb : Bool} {rk : Nat} {h h1 : AH} {sl sl1 : List SV} {vs1 : List VS} {fs fs1 : List (List Nat)} {r : VO} {q : O} (G : Good D h fs h1 sl1 vs1 fs1) (K : Keep A sl sl1) (hA : ∀ i, i ∉ A → i ∉ A') (o : OutS D A' rb rk h1 sl1 fs1 r q) : OutS D A rb rk h sl fs r q := by
  have kt : ∀ {sl2}, Keep A' sl1 sl2 → Keep A sl sl2 := fun k => K.trans fun i hi => k i (hA i hi)
  cases r with
  | nx vs' => obtain ⟨a, b, c, e, g, k⟩ := o; exact ⟨a, b, c, e, G.trans g, kt k⟩
  | bk vs' => obtain ⟨a, b, c, e, g, k⟩ := o; exact ⟨a, b, c, e, G.trans g, kt k⟩
  | ct vs' => obtain ⟨a, b, c, e, g, k⟩ := o; exact ⟨a, b, c, e, G.trans g, kt k⟩
  | rz cc vs' => obtain ⟨a, b, c, e, g, k⟩ := o; exact ⟨a, b, c, e, G.trans g, kt k⟩
  | rt x =>
    obtain ⟨a, b, c, e, r, n, z⟩ := o
    exact ⟨a, b, c, e, r, n, RtG.pre G z⟩
  | st => trivial
def VR.thn {α : Type} (r : VR α) (vs : List VS) (k : α → List VS → VO) : VO := match r with
  | .ok a vs' => k a vs'
  | .rz c => .rz c vs
  | .st => .st
section
variable {D : List KD} {A A1 A2 : List Nat} {rb : Bool} {rk : Nat} {b b1 b2 fr fr1 : Bool} {k k1 k2 i j : Nat} {fa fb : FE} {ga gb : VE} {f f1 f2 : FS} {g g1 g2 : VF} {ft : FT} {gt : VT}
theorem xv_ev (ha : EV D b k true fa ga) : XV D b k fa ga := by
  intro h sl vs fs R nd
  have o := ha h sl vs fs R nd
  generalize ga vs = r at o ⊢
  generalize fa sl h = q at o ⊢
  cases r with
  | ok x vs' =>
    obtain ⟨rfl, s, t, fp, rfl, h2, h3, h4⟩ := o
    exact ⟨s, h ++ t, fs, fp, rfl, Good.ext R nd, h2, h3, fun n m z => absurd (R.lt n z) (by have := h4 rfl n m; omega), fun n m => .inr (h4 rfl n m)⟩
  | rz c => exact o
  | st => trivial
def fMv (i : Nat) : VE := fun vs => match vs[i]? with
  | some (.v x) => .ok x (vs.set i .un)
  | _ => .st
theorem xv_mv (e : D[i]? = some (b, k)) : XV D b k (Zx.fVar i) (fMv i) := by
  intro h sl vs fs R nd
  have o := ev_var e h sl vs fs R nd
  obtain ⟨s, v, f, e1, e2, e3, r⟩ := R.get e
  unfold fMv
  unfold fVar at o
  rw [e2] at o ⊢
  cases v with
  | un => trivial
  | sc x => trivial
  | ex x => trivial
  | v x =>
    have r : RV h b k s x f := r
    have hq : Zx.fVar i sl h = .ok s h := by
      obtain ⟨_, s', t, fp, h2, _⟩ := o
      unfold Zx.fVar at h2 ⊢
      rw [e1] at h2 ⊢
      revert h2
      split <;> intro h2
      · cases h2
      · cases h2
      · rename_i s1 hs hu
        cases hu; rfl
    obtain ⟨n1, n2⟩ := nd_at nd e3
    exact ⟨s, h, fs.set i [], f, hq, (Good.refl R nd).sub (R.drop i) (nd_rest nd) (fun n m => mem_rest m), r, n1, n2, fun n m => .inl (mem_at e3 m)⟩
theorem XV.bm (hx : XV D b1 k fa ga) (hb : (!b1 || b) = true := by decide) : XV D b k fa ga := by
  intro h sl vs fs R nd
  have o := hx h sl vs fs R nd
  generalize ga vs = r at o ⊢
  cases r with
  | ok x vs' =>
    obtain ⟨s, h', fs', fp, h1, h2, h3, h4, h5, h6⟩ := o
    exact ⟨s, h', fs', fp, h1, h2, h3.bm hb, h4, h5, h6⟩
  | rz c => exact o
  | st => trivial
theorem OutX.thn {h : AH} {sl : List SV} {vs : List VS} {fs : List (List Nat)} {r : VR PyData} {q : R SV} {K : PyData → List VS → VO} {K' : SV → AH → O} (R : RSt h D sl vs fs) (nd : fs.flatten.Nodup) (o : OutX D b k h sl fs r q)
    (c : ∀ x vs' s h' fs' fp, Good D h fs h' sl vs' fs' → RV h' b k s x fp → fp.Nodup → (∀ n ∈ fp, n ∉ fs'.flatten) → (∀ n ∈ fp, n ∈ fs.flatten ∨ h.length ≤ n) → OutS D A rb rk h sl fs (K x vs') (K' s h')) : OutS D A rb rk h sl fs (r.thn vs K) (q.thn sl K') := by
  cases r with
  | ok x vs' =>
    obtain ⟨s, h', fs', fp, rfl, h2, h3, h4, h5, h6⟩ := o
    exact c x vs' s h' fs' fp h2 h3 h4 h5 h6
  | rz cc =>
    obtain ⟨t, rfl⟩ := o
    exact ⟨sl, h ++ t, fs, rfl, Good.ext R nd, Keep.same⟩
  | st => trivial
theorem OutE.thn {L : Nat} {h : AH} {sl : List SV} {vs : List VS} {fs : List (List Nat)} {r : VR PyData} {q : R SV} {K : PyData → List VS → VO} {K' : SV → AH → O} (R : RSt h D sl vs fs) (nd : fs.flatten.Nodup) (o : OutE b k fr L h vs r q)
    (c : ∀ x s t fp, RV (h ++ t) b k s x fp → fp.Nodup → OutS D A rb rk h sl fs (K x vs) (K' s (h ++ t))) : OutS D A rb rk h sl fs (r.thn vs K) (q.thn sl K') := by
  cases r with
  | ok x vs' =>
    obtain ⟨rfl, s, t, fp, rfl, h2, h3, h4⟩ := o
    exact c x s t fp h2 h3
  | rz cc =>
    obtain ⟨t, rfl⟩ := o
    exact ⟨sl, h ++ t, fs, rfl, Good.ext R nd, Keep.same⟩
  | st => trivial
theorem OutP.thn {α β : Type} {rep : AH → β → α → Prop} {h : AH} {sl : List SV} {vs : List VS} {fs : List (List Nat)} {r : VR β} {q : R α} {K : β → List VS → VO} {K' : α → AH → O} (R : RSt h D sl vs fs) (nd : fs.flatten.Nodup) (o : OutP rep h vs r q)
    (c : ∀ x a t, rep (h ++ t) x a → OutS D A rb rk h sl fs (K x vs) (K' a (h ++ t))) : OutS D A rb rk h sl fs (r.thn vs K) (q.thn sl K') := by
  cases r with
  | ok x vs' =>
    obtain ⟨rfl, a, t, rfl, h2⟩ := o
    exact c x a t h2
  | rz cc =>
    obtain ⟨t, rfl⟩ := o
    exact ⟨sl, h ++ t, fs, rfl, Good.ext R nd, Keep.same⟩
  | st => trivial
def sNext : VF := fun vs => .nx vs
def sSeq (a b : VF) : VF := fun vs => match a vs with
  | .nx vs' => b vs'
  | o => o
def sExpr (ga : VE) : VF := fun vs => (ga vs).thn vs fun _ vs => .nx vs
def sRet (ga : VE) : VF := fun vs => (ga vs).thn vs fun x _ => .rt x
def sRetN : VF := fun _ => .rt .none
def sSet (i : Nat) (ga : VE) : VF := fun vs => (ga vs).thn vs fun x vs => .nx (vs.set i (.v x))
def sIf (gt : VT) (a b : VF) : VF := fun vs => (gt vs).thn vs fun k vs => if k = true then a vs else b vs
def sBreak : VF := fun vs => .bk vs
def sCont : VF := fun vs => .ct vs
def sRaise (c : Str) : VF := fun vs => .rz c vs
theorem sv_next : SVp D [] rb rk Zx.sNext sNext := fun h sl vs fs R nd => ⟨sl, h, fs, rfl, Good.refl R nd, Keep.same⟩
theorem sv_raise {c : Str} : SVp D [] rb rk (Zx.sRaise c) (sRaise c) := fun h sl vs fs R nd => ⟨sl, h, fs, rfl, Good.refl R nd, Keep.same⟩
theorem sv_seq (h1 : SVp D A1 rb rk f1 g1) (h2 : SVp D A2 rb rk f2 g2) : SVp D (A1 ++ A2) rb rk (Zx.sSeq f1 f2) (sSeq g1 g2) := by
  intro h sl vs fs R nd
  have o := h1 h sl vs fs R nd
  unfold Zx.sSeq sSeq
  generalize g1 vs = r at o ⊢
  generalize f1 sl h = q at o ⊢
  cases r with
  | nx vs' =>
    obtain ⟨sl', h', fs', rfl, G, K⟩ := o
    exact OutS.pre G K.l (fun i hi z => hi (List.mem_append_right _ z)) (h2 h' sl' vs' fs' G.R G.nd)
  | bk vs' => obtain ⟨a, b, c, rfl, g, k⟩ := o; exact ⟨a, b, c, rfl, g, k.l⟩
  | ct vs' => obtain ⟨a, b, c, rfl, g, k⟩ := o; exact ⟨a, b, c, rfl, g, k.l⟩
  | rz cc vs' => obtain ⟨a, b, c, rfl, g, k⟩ := o; exact ⟨a, b, c, rfl, g, k.l⟩
  | rt x => obtain ⟨a, b, c, rfl, g, k⟩ := o; exact ⟨a, b, c, rfl, g, k⟩
  | st => trivial
theorem sv_if (ht : TV D ft gt) (h1 : SVp D A1 rb rk f1 g1) (h2 : SVp D A2 rb rk f2 g2) : SVp D (A1 ++ A2) rb rk (Zx.sIf ft f1 f2) (sIf gt g1 g2) := by
  intro h sl vs fs R nd
  refine (ht h sl vs fs R nd).thn R nd fun x a t e => ?_
  subst e
  cases a with
  | true => exact OutS.pre (Good.ext R nd) Keep.same (fun i hi z => hi (List.mem_append_left _ z)) (h1 (h ++ t) sl vs fs R.app nd)
  | false => exact OutS.pre (Good.ext R nd) Keep.same (fun i hi z => hi (List.mem_append_right _ z)) (h2 (h ++ t) sl vs fs R.app nd)
theorem sv_expr (ha : XV D b k fa ga) : SVp D [] rb rk (Zx.sExpr fa) (sExpr ga) := by
  intro h sl vs fs R nd
  exact (ha h sl vs fs R nd).thn R nd fun x vs' s h' fs' fp G _ _ _ _ => ⟨sl, h', fs', rfl, G, Keep.same⟩
theorem sv_retX (ha : XV D b rk fa ga) (hb : (!b || rb) = true := by decide) : SVp D [] rb rk (Zx.sRet fa) (sRet ga) := by
  intro h sl vs fs R nd
  exact (ha h sl vs fs R nd).thn R nd fun x vs' s h' fs' fp G r n _ o => ⟨s, h', fp, rfl, r.bm hb, n, ⟨o, G.fr, G.le⟩⟩
theorem sv_ret (ha : EV D b rk true fa ga) (hb : (!b || rb) = true := by decide) : SVp D [] rb rk (Zx.sRet fa) (sRet ga) := sv_retX (xv_ev ha) hb
theorem Good.put {h0 h : AH} {fs0 fs : List (List Nat)} {sl : List SV} {vs : List VS} (G : Good D h0 fs0 h sl vs fs) (e : D[i]? = some (b, k)) {s : SV} {x : PyData} {fp : List Nat} (r : RV h b k s x fp) (n : fp.Nodup) (d : ∀ n ∈ fp, n ∉ fs.flatten) (o : ∀ n ∈ fp, n ∈ fs0.flatten ∨ h0.length ≤ n) : Good D h0 fs0 h (sl.set i s) (vs.set i (.v x)) (fs.set i fp) := by
  refine ⟨G.R.set e r, nd_set G.nd n fun a m z => d a m (mem_rest z), fun a m => ?_, G.fr, G.le⟩
  rcases mem_set m with z | z
  · exact o a z
  · exact G.old a (mem_rest z)
theorem sv_set (ha : XV D b1 k fa ga) (e : D[i]? = some (b, k) := by rfl) (hb : (!b1 || b) = true := by decide) : SVp D [i] rb rk (Zx.sSet i fa) (sSet i ga) := by
  intro h sl vs fs R nd
  exact (ha h sl vs fs R nd).thn R nd fun x vs' s h' fs' fp G r n d o => ⟨_, h', _, rfl, G.put e (r.bm hb) n d o, Keep.set⟩
theorem keep_all : ∀ {is : List Nat} {xs : List SV} {sl sl' : List SV}, setAll is xs sl = some sl' → Keep is sl sl'
  | [], [], sl, sl', e => by cases e; exact Keep.same
  | [], x :: xs, sl, sl', e => by cases e
  | i :: is, [], sl, sl', e => by cases e
  | i :: is, x :: xs, sl, sl', e => by
    have := keep_all (is := is) (xs := xs) (sl := sl.set i x) e
    intro j hj
    rw [List.mem_cons, not_or] at hj
    rw [this j hj.2, List.getElem?_set_ne (Ne.symm hj.1)]
theorem keep_go {bd : Bd} {it : It1} {sl sl' : List SV} (e : bd.go it sl = some sl') : Keep bd.is sl sl' := by
  cases bd with
  | nm i =>
    cases it with
    | one s => cases e; exact Keep.set
    | two s t => cases e
  | tp is =>
    cases it with
    | one s =>
      unfold Bd.go at e
      dsimp only at e
      split at e
      · exact keep_all e
      · cases e
    | two s t =>
      unfold Bd.go at e
      exact keep_all e
def sSetT (is : List Nat) (ga : VE) : VF := fun vs => (ga vs).thn vs fun x vs => match goV (.tp is) (.one x) vs with
  | some vs' => .nx vs'
  | none => .st
theorem sv_setT {is : List Nat} (ha : EV D b 0 fr fa ga) (c : bdOk D b (.tp is) = true := by decide) : SVp D is rb rk (Zx.sSetT is fa) (sSetT is ga) := by
  intro h sl vs fs R nd
  refine (ha h sl vs fs R nd).thn R nd fun x s t fp r n => ?_
  split
  · rename_i vs' e
    obtain ⟨sl', fs', e1, R', n', m'⟩ := go_ok (it := .one s) c (R.app (t := t)) nd (show RI b (.one s) (.one x) from r.2) e
    rw [e1]
    exact ⟨sl', h ++ t, fs', rfl, (Good.ext R nd).sub R' n' m', keep_go e1⟩
  · trivial
def sPar (i j : Nat) (qa : VA) : VF := fun vs => (qa vs).thn vs fun xs vs => match xs with
  | [x, y] => .nx ((vs.set i (.v x)).set j (.v y))
  | _ => .st
def sAug (j : Nat) (gv : PyData → PyData → List VS → VR PyData) (ga : VE) : VF := fun vs => match vs[j]? with
  | some (.v x) => (ga vs).thn vs fun y vs => match gv x y vs with
    | .ok z vs => .nx (vs.set j (.v z))
    | _ => .st
  | _ => .st
end
def argV : Md → PyData → VS
  | .sc, .list ds => match intsD ds with
    | some ns => .sc ns
    | none => .un
  | .sc, _ => .un
  | _, d => .v d
def startV : List Md → List PyData → Nat → List VS
  | m :: ms, d :: ds, n + 1 => argV m d :: startV ms ds n
  | _, _, n => List.replicate n .un
def phiV (ms : List Md) (n : Nat) (g : VF) : List PyData → VC := fun ds => match g (startV ms ds n) with
  | .rt x => .ok x
  | .nx _ => .ok .none
  | .rz c _ => .rz c
  | _ => .st
def stOk : List Md → List KD → Bool
  | [], _ => true
  | .sc :: ms, _ :: D => stOk ms D
  | .fz :: ms, k :: D => k.2 == 0 && stOk ms D
  | .vw :: ms, k :: D => k.1 && k.2 == 0 && stOk ms D
  | _, [] => false
theorem rst_un : ∀ {D : List KD}, RSt [] D (List.replicate D.length .un) (List.replicate D.length .un) (List.replicate D.length [])
  | [] => ⟨rfl, rfl, rfl⟩
  | k :: D => ⟨_, _, _, _, _, _, rfl, rfl, rfl, rfl, rst_un⟩
theorem rst_start : ∀ {ms : List Md} {ds : List PyData} {D : List KD}, stOk ms D = true → RSt [] D (startS ms ds D.length) (startV ms ds D.length) (List.replicate D.length [])
  | [], ds, D, _ => by unfold startS startV; exact rst_un
  | m :: ms, [], D, _ => by unfold startS startV; exact rst_un
  | m :: ms, d :: ds, [], c => by cases m <;> cases c
  | m :: ms, d :: ds, k :: D, c => by
    show RSt [] (k :: D) (argS m d :: startS ms ds D.length) (argV m d :: startV ms ds D.length) ([] :: List.replicate D.length [])
    cases m with
    | sc =>
      refine ⟨_, _, _, _, _, _, rfl, rfl, rfl, ?_, rst_start (ms := ms) c⟩
      unfold argS argV
      cases d <;> try exact rfl
      rename_i xs
      show RS1 [] k (match intsD xs with | some ns => SV.sc ns | none => .un) (match intsD xs with | some ns => VS.sc ns | none => .un) []
      cases e : intsD xs with
      | none => exact (show ([] : List Nat) = [] from rfl)
      | some ns => exact ⟨rfl, rfl⟩
    | fz =>
      unfold stOk at c
      rw [Bool.and_eq_true] at c
      refine ⟨_, _, _, _, _, _, rfl, rfl, rfl, ?_, rst_start (ms := ms) c.2⟩
      show RV [] k.1 k.2 (.d d) d []
      rw [eq_of_beq c.1]
      exact RV.d
    | vw =>
      unfold stOk at c
      rw [Bool.and_eq_true, Bool.and_eq_true] at c
      refine ⟨_, _, _, _, _, _, rfl, rfl, rfl, ?_, rst_start (ms := ms) c.2⟩
      show RV [] k.1 k.2 (mkv d) d []
      rw [eq_of_beq c.1.2]
      exact ⟨rfl, .inr ⟨c.1.1, rfl⟩⟩
theorem fl_rep : ∀ n : Nat, (List.replicate n ([] : List Nat)).flatten = []
  | 0 => rfl
  | n + 1 => by rw [List.replicate_succ, List.flatten_cons, fl_rep n]; rfl
theorem cal_phi {ms : List Md} {D : List KD} {A : List Nat} {n k : Nat} {f : FS} {g : VF} (hs : SVp D A false k f g) (hn : n = D.length := by rfl) (hm : stOk ms D = true := by decide) : CalV (phi ms n f) k (phiV ms n g) := by
  subst hn
  intro ds
  have o := hs [] _ _ _ (rst_start (ms := ms) (ds := ds) hm) (by rw [fl_rep]; exact List.nodup_nil)
  unfold phiV phi
  generalize g (startV ms ds D.length) = r at o ⊢
  generalize f (startS ms ds D.length) [] = q at o ⊢
  cases r with
  | nx vs' =>
    obtain ⟨sl', h', fs', rfl, G, K⟩ := o
    exact ⟨.d .none, [], [], rfl, RV.dk rfl, List.nodup_nil⟩
  | bk vs' => trivial
  | ct vs' => trivial
  | rz cc vs' =>
    obtain ⟨sl', h', fs', rfl, G, K⟩ := o
    exact ⟨h', rfl⟩
  | rt x =>
    obtain ⟨s, h', fp, rfl, r, n⟩ := o
    refine ⟨s, _, fp, rfl, ?_, n.1⟩
    unfold cl
    split
    · rename_i c
      refine r.frame fun m hm => ?_
      have := RV.below (L := 0) (h := h') (by simp) r c m hm
      omega
    · exact r
  | st => trivial
end Zx.V
namespace Zx.V
open PySem PySem.Spec L2
def getAt : List Int → PyData → Option PyData
  | [], x => some x
  | j :: js, x => match x with
    | .list ds => match atI ds j with
      | some d => getAt js d
      | none => none
    | .tuple ds => if immL ds = false then match atI ds j with
        | some d => getAt js d
        | none => none
      else none
    | _ => none
def putAt : List Int → PyData → PyData → PyData
  | [], y, _ => y
  | j :: js, y, x => match x with
    | .list ds => match ixN ds.length j with
      | some p => match ds[p]? with
        | some d => .list (ds.set p (putAt js y d))
        | none => x
      | none => x
    | .tuple ds => match ixN ds.length j with
      | some p => match ds[p]? with
        | some d => .tuple (ds.set p (putAt js y d))
        | none => x
      | none => x
    | _ => x
def walkR (h : AH) : List Int → SV → Option SV
  | [], s => some s
  | j :: js, .r n => match h[n]? with
    | some (some (.lst xs)) => match atI xs j with
      | some s => walkR h js s
      | none => none
    | some (some (.tup xs)) => match atI xs j with
      | some s => walkR h js s
      | none => none
    | _ => none
  | _ :: _, _ => none
theorem putAt_t {j : Int} {js : List Int} {y d : PyData} {ds : List PyData} {p : Nat} (e1 : ixN ds.length j = some p) (e2 : ds[p]? = some d) : putAt (j :: js) y (.tuple ds) = .tuple (ds.set p (putAt js y d)) := by
  have : putAt (j :: js) y (.tuple ds) = (match ixN ds.length j with
      | some p => match ds[p]? with
        | some d => .tuple (ds.set p (putAt js y d))
        | none => .tuple ds
      | none => .tuple ds) := rfl
  rw [this, e1]
  dsimp only
  rw [e2]
theorem immL_set {z : PyData} (hz : imm z = false) : ∀ {ds : List PyData} {p : Nat} {d : PyData}, ds[p]? = some d → immL (ds.set p z) = false
  | a :: ds, 0, d, _ => by
    show immL (z :: ds) = false
    unfold immL
    rw [hz]; rfl
  | a :: ds, p + 1, d, e => by
    show immL (a :: ds.set p z) = false
    unfold immL
    rw [immL_set hz (d := d) (by simpa using e), Bool.and_false]
  | [], p, d, e => by simp at e
theorem putAt_imm {y : PyData} (hy : imm y = false) : ∀ {js : List Int} {x x' : PyData}, getAt js x = some x' → imm (putAt js y x) = false
  | [], x, x', _ => hy
  | j :: js, x, x', e => by
    unfold getAt at e
    split at e
    · rename_i ds
      unfold putAt
      dsimp only
      split
      · split
        · unfold imm; rfl
        · unfold imm; rfl
      · unfold imm; rfl
    · rename_i ds
      split at e
      · rename_i hi
        split at e
        · rename_i d hd
          unfold atI at hd
          cases q : ixN ds.length j with
          | none => rw [q] at hd; cases hd
          | some p =>
            rw [q] at hd
            have hd : ds[p]? = some d := hd
            rw [putAt_t q hd]
            unfold imm
            exact immL_set (putAt_imm hy e) hd
        · cases e
      · cases e
    · cases e
theorem putAt_c {j : Int} {js : List Int} {y d : PyData} {ds : List PyData} {p : Nat} (e1 : ixN ds.length j = some p) (e2 : ds[p]? = some d) : putAt (j :: js) y (.list ds) = .list (ds.set p (putAt js y d)) := by
  have : putAt (j :: js) y (.list ds) = (match ixN ds.length j with
      | some p => match ds[p]? with
        | some d => .list (ds.set p (putAt js y d))
        | none => .list ds
      | none => .list ds) := rfl
  rw [this, e1]
  dsimp only
  rw [e2]
def okP : List Int → PyData → PyData → Prop
  | [], _, _ => True
  | j :: js, y, x => match x with
    | .list ds => ∀ d, atI ds j = some d → okP js y d
    | .tuple _ => imm y = false
    | _ => True
theorem okP_imm {y : PyData} (h : imm y = false) : ∀ {js : List Int} {x : PyData}, okP js y x
  | [], _ => trivial
  | j :: js, x => by
    unfold okP
    split
    · exact fun d _ => okP_imm h
    · exact h
    · trivial
theorem walkR_app {h t : AH} : ∀ {js : List Int} {s s' : SV}, walkR h js s = some s' → walkR (h ++ t) js s = some s'
  | [], s, s', e => e
  | j :: js, s, s', e => by
    cases s with
    | r n =>
      unfold walkR at e ⊢
      split at e
      · rename_i xs hx
        rw [List.getElem?_append_left (List.getElem?_eq_some_iff.mp hx).1, hx]
        dsimp only
        split at e
        · rename_i s1 h1
          exact walkR_app e
        · cases e
      · rename_i xs hx
        rw [List.getElem?_append_left (List.getElem?_eq_some_iff.mp hx).1, hx]
        dsimp only
        split at e
        · rename_i s1 h1
          exact walkR_app e
        · cases e
      · cases e
    | un => cases e
    | d x => cases e
    | vw x => cases e
    | sc x => cases e
    | ex x => cases e
theorem fa_ix {α β γ : Type} {P : α → β → γ → Prop} {as : List α} {bs : List β} {cs : List γ} {i : Int} {u : β} (r : Fa3 P as bs cs) (e : atI bs i = some u) : ∃ (p : Nat) (a : α) (c : γ), ixN bs.length i = some p ∧ bs[p]? = some u ∧ as[p]? = some a ∧ cs[p]? = some c ∧ atI as i = some a ∧ P a u c := by
  unfold atI at e ⊢
  rw [r.len.1]
  cases q : ixN bs.length i with
  | none => rw [q] at e; cases e
  | some p =>
    rw [q] at e
    have e : bs[p]? = some u := e
    obtain ⟨a, c, h1, h2, h3⟩ := r.get e
    exact ⟨p, a, c, rfl, e, h1, h2, h1, h3⟩
theorem fa_put {α β : Type} {P Q : α → β → List Nat → Prop} {f1 f2 F : List Nat} {a1 : α} {b2 : β} (k : ∀ a b c, P a b c → (∀ n ∈ c, n ∉ f1 ∧ n ∈ F) → Q a b c) (q : Q a1 b2 f2) :
    ∀ {as : List α} {bs : List β} {cs : List (List Nat)} {p : Nat}, Fa3 P as bs cs → cs.flatten.Nodup → (∀ n ∈ cs.flatten, n ∈ F) → cs[p]? = some f1 → as[p]? = some a1 → Fa3 Q as (bs.set p b2) (cs.set p f2)
  | a :: as, b :: bs, c :: cs, 0, ⟨r1, r2⟩, nd, hF, e, ea => by
    cases e
    cases ea
    rw [List.flatten_cons, List.nodup_append] at nd
    exact ⟨q, Fa3.imp (cs0 := cs) (fun a b c' hc z => k a b c' z fun n m => ⟨fun w => nd.2.2 n w n (List.mem_flatten.mpr ⟨c', hc, m⟩) rfl, hF n (by rw [List.flatten_cons, List.mem_append]; exact .inr (List.mem_flatten.mpr ⟨c', hc, m⟩))⟩) (fun _ m => m) r2⟩
  | a :: as, b :: bs, c :: cs, p + 1, ⟨r1, r2⟩, nd, hF, e, ea => by
    rw [List.flatten_cons, List.nodup_append] at nd
    have e : cs[p]? = some f1 := e
    have ea : as[p]? = some a1 := ea
    exact ⟨k a b c r1 fun n m => ⟨fun w => nd.2.2 n m n (mem_at e w) rfl, hF n (by rw [List.flatten_cons, List.mem_append]; exact .inl m)⟩, fa_put k q r2 nd.2.1 (fun n m => hF n (by rw [List.flatten_cons, List.mem_append]; exact .inr m)) e ea⟩
  | [], [], [], p, _, _, _, e, _ => by simp at e
  | [], [], c :: cs, _, h, _, _, _, _ => h.elim
  | [], b :: bs, [], _, h, _, _, _, _ => h.elim
  | [], b :: bs, c :: cs, _, h, _, _, _, _ => h.elim
  | a :: as, [], [], _, h, _, _, _, _ => h.elim
  | a :: as, [], c :: cs, _, h, _, _, _, _ => h.elim
  | a :: as, b :: bs, [], _, h, _, _, _, _ => h.elim
theorem RV.isL {h : AH} {b : Bool} {k : Nat} {s : SV} {ds : List PyData} {f : List Nat} (r : RV h b (k + 1) s (.list ds) f) : ∃ n xs fl, s = .r n ∧ h[n]? = some (some (.lst xs)) ∧ f = n :: fl.flatten ∧ Fa3 (RV h b k) xs ds fl := by
  unfold RV at r
  rcases r with r | ⟨n', xs, ds', fs, rfl, hn, e, rfl, r⟩ | ⟨n', xs, ds', fs, rfl, hn, e, rfl, r⟩ | ⟨n', xs, ds', fs, rfl, hn, e, rfl, r⟩
  · cases r.2.2
  · cases e
    exact ⟨n', xs, fs, rfl, hn, rfl, r⟩
  · cases e
  · cases e
theorem RV.isT {h : AH} {b : Bool} {k : Nat} {s : SV} {ds : List PyData} {f : List Nat} (r : RV h b (k + 1) s (.tuple ds) f) (c : immL ds = false) : ∃ n xs fl, s = .r n ∧ h[n]? = some (some (.tup xs)) ∧ f = n :: fl.flatten ∧ Fa3 (RV h b k) xs ds fl := by
  unfold RV at r
  rcases r with r | ⟨n', xs, ds', fs, rfl, hn, e, rfl, r⟩ | ⟨n', xs, ds', fs, rfl, hn, e, rfl, r⟩ | ⟨n', xs, ds', fs, rfl, hn, e, rfl, r⟩
  · have := r.2.2
    have : (!immL ds) = false := this
    rw [c] at this; cases this
  · cases e
  · cases e
  · cases e
    exact ⟨n', xs, fs, rfl, hn.1, rfl, r⟩
theorem RV.ofT {h : AH} {b : Bool} {k : Nat} {n : Nat} {xs : List SV} {ds : List PyData} {fl : List (List Nat)} (hn : h[n]? = some (some (.tup xs))) (c : immL ds = false) (r : Fa3 (RV h b k) xs ds fl) : RV h b (k + 1) (.r n) (.tuple ds) (n :: fl.flatten) := by
  unfold RV
  exact .inr (.inr (.inr ⟨n, xs, ds, fl, rfl, ⟨hn, c⟩, rfl, rfl, r⟩))
theorem RV.ofL {h : AH} {b : Bool} {k : Nat} {n : Nat} {xs : List SV} {ds : List PyData} {fl : List (List Nat)} (hn : h[n]? = some (some (.lst xs))) (r : Fa3 (RV h b k) xs ds fl) : RV h b (k + 1) (.r n) (.list ds) (n :: fl.flatten) := by
  unfold RV
  exact .inr (.inl ⟨n, xs, ds, fl, rfl, hn, rfl, rfl, r⟩)
theorem foc {h : AH} {b : Bool} {k : Nat} : ∀ {js : List Int} {K : Nat} {s : SV} {x x' : PyData} {f : List Nat}, RV h b K s x f → K = js.length + k → f.Nodup → getAt js x = some x' →
    ∃ s' f', walkR h js s = some s' ∧ RV h b k s' x' f' ∧ f'.Nodup ∧ (∀ n ∈ f', n ∈ f) ∧
      ∀ (h2 : AH) (x2 : PyData) (f2 : List Nat), (∀ n ∈ f, n ∉ f' → h2[n]? = h[n]?) → okP js x2 x → RV h2 b k s' x2 f2 → f2.Nodup → (∀ n ∈ f2, n ∈ f' ∨ n ∉ f) →
        ∃ f3, RV h2 b K s (putAt js x2 x) f3 ∧ f3.Nodup ∧ ∀ n ∈ f3, n ∈ f2 ∨ (n ∈ f ∧ n ∉ f')
  | [], K, s, x, x', f, r, hK, nd, e => by
    cases e
    have hK : K = k := by rw [hK]; exact Nat.zero_add k
    subst hK
    exact ⟨s, f, rfl, r, nd, fun _ m => m, fun h2 x2 f2 _ _ r2 n2 _ => ⟨f2, r2, n2, fun n m => .inl m⟩⟩
  | j :: js, K, s, x, x', f, r, hK, nd, e => by
    obtain ⟨K', rfl⟩ : ∃ K', K = K' + 1 := ⟨js.length + k, by rw [hK, List.length_cons]; omega⟩
    have hK' : K' = js.length + k := by rw [List.length_cons] at hK; omega
    unfold getAt at e
    split at e
    · rename_i ds
      split at e
      · rename_i d hd
        obtain ⟨n, xs, fl, rfl, hn, rfl, q⟩ := r.isL
        obtain ⟨p, s1, f1, e1, e2, e3, e4, e5, r1⟩ := fa_ix q hd
        rw [List.nodup_cons] at nd
        obtain ⟨nf, dj⟩ := nd_at nd.2 e4
        obtain ⟨s', f', w, r', n', m', put⟩ := foc r1 hK' nf e
        have inf : ∀ a ∈ f', a ∈ fl.flatten := fun a m => mem_at e4 (m' a m)
        refine ⟨s', f', ?_, r', n', fun a m => List.mem_cons_of_mem _ (inf a m), fun h2 x2 f2 ag i2 r2 n2 m2 => ?_⟩
        · unfold walkR
          rw [hn]
          dsimp only
          rw [e5]
          exact w
        · obtain ⟨f3, r3, n3, m3⟩ := put h2 x2 f2 (fun a m z => ag a (List.mem_cons_of_mem _ (mem_at e4 m)) z) (i2 d hd) r2 n2 fun a m => (m2 a m).imp_right fun z w => z (List.mem_cons_of_mem _ (mem_at e4 w))
          refine ⟨n :: (fl.set p f3).flatten, ?_, ?_, fun a m => ?_⟩
          · rw [putAt_c e1 e2]
            refine RV.ofL ((ag n List.mem_cons_self fun z => nd.1 (inf n z)).trans hn) ?_
            exact fa_put (P := RV h b K') (f1 := f1) (F := fl.flatten) (fun a' b' c' z dz => z.frame fun m hm => ag m (List.mem_cons_of_mem _ (dz m hm).2) fun w => (dz m hm).1 (m' m w)) r3 q nd.2 (fun _ m => m) e4 e3
          · rw [List.nodup_cons]
            refine ⟨fun m => ?_, nd_set nd.2 n3 fun a m z => ?_⟩
            · rcases mem_set m with z | z
              · rcases m3 n z with z | z
                · rcases m2 n z with z | z
                  · exact nd.1 (inf n z)
                  · exact z List.mem_cons_self
                · exact nd.1 (mem_at e4 z.1)
              · exact nd.1 (mem_rest z)
            · rcases m3 a m with w | w
              · rcases m2 a w with w | w
                · exact dj a (m' a w) z
                · exact w (List.mem_cons_of_mem _ (mem_rest z))
              · exact dj a w.1 z
          · rcases List.mem_cons.mp m with rfl | m
            · exact .inr ⟨List.mem_cons_self, fun z => nd.1 (inf _ z)⟩
            · rcases mem_set m with z | z
              · exact (m3 a z).imp_right fun w => ⟨List.mem_cons_of_mem _ (mem_at e4 w.1), w.2⟩
              · exact .inr ⟨List.mem_cons_of_mem _ (mem_rest z), fun w => dj a (m' a w) z⟩
      · cases e
    · rename_i ds
      split at e
      rotate_left
      · cases e
      rename_i cimm
      split at e
      · rename_i d hd
        obtain ⟨n, xs, fl, rfl, hn, rfl, q⟩ := r.isT cimm
        obtain ⟨p, s1, f1, e1, e2, e3, e4, e5, r1⟩ := fa_ix q hd
        rw [List.nodup_cons] at nd
        obtain ⟨nf, dj⟩ := nd_at nd.2 e4
        obtain ⟨s', f', w, r', n', m', put⟩ := foc r1 hK' nf e
        have inf : ∀ a ∈ f', a ∈ fl.flatten := fun a m => mem_at e4 (m' a m)
        refine ⟨s', f', ?_, r', n', fun a m => List.mem_cons_of_mem _ (inf a m), fun h2 x2 f2 ag i2 r2 n2 m2 => ?_⟩
        · unfold walkR
          rw [hn]
          dsimp only
          rw [e5]
          exact w
        · obtain ⟨f3, r3, n3, m3⟩ := put h2 x2 f2 (fun a m z => ag a (List.mem_cons_of_mem _ (mem_at e4 m)) z) (okP_imm i2) r2 n2 fun a m => (m2 a m).imp_right fun z w => z (List.mem_cons_of_mem _ (mem_at e4 w))
          refine ⟨n :: (fl.set p f3).flatten, ?_, ?_, fun a m => ?_⟩
          · rw [putAt_t e1 e2]
            refine RV.ofT ((ag n List.mem_cons_self fun z => nd.1 (inf n z)).trans hn) (immL_set (putAt_imm i2 e) e2) ?_
            exact fa_put (P := RV h b K') (f1 := f1) (F := fl.flatten) (fun a' b' c' z dz => z.frame fun m hm => ag m (List.mem_cons_of_mem _ (dz m hm).2) fun w => (dz m hm).1 (m' m w)) r3 q nd.2 (fun _ m => m) e4 e3
          · rw [List.nodup_cons]
            refine ⟨fun m => ?_, nd_set nd.2 n3 fun a m z => ?_⟩
            · rcases mem_set m with z | z
              · rcases m3 n z with z | z
                · rcases m2 n z with z | z
                  · exact nd.1 (inf n z)
                  · exact z List.mem_cons_self
                · exact nd.1 (mem_at e4 z.1)
              · exact nd.1 (mem_rest z)
            · rcases m3 a m with w | w
              · rcases m2 a w with w | w
                · exact dj a (m' a w) z
                · exact w (List.mem_cons_of_mem _ (mem_rest z))
              · exact dj a w.1 z
          · rcases List.mem_cons.mp m with rfl | m
            · exact .inr ⟨List.mem_cons_self, fun z => nd.1 (inf _ z)⟩
            · rcases mem_set m with z | z
              · exact (m3 a z).imp_right fun w => ⟨List.mem_cons_of_mem _ (mem_at e4 w.1), w.2⟩
              · exact .inr ⟨List.mem_cons_of_mem _ (mem_rest z), fun w => dj a (m' a w) z⟩
      · cases e
    · cases e
section
variable {D : List KD} {A A1 A2 : List Nat} {rb : Bool} {rk : Nat} {b b1 b2 bi fr fr1 fr2 : Bool} {k k1 k2 ki i j n m : Nat} {fa fb fo fi fe : FE} {ga gb gi ge : VE} {ra : FA} {qa : VA} {h0 h : AH} {fs0 fs : List (List Nat)} {sl : List SV} {vs : List VS}
theorem Good.mut (G : Good D h0 fs0 h sl vs fs) {js : List Int} {x : PyData} {ds : List PyData} (e : D[i]? = some (b, js.length + (m + 1))) (ev : vs[i]? = some (.v x)) (eg : getAt js x = some (.list ds)) :
    ∃ s0 n xs fl, sl[i]? = some s0 ∧ walkR h js s0 = some (.r n) ∧ h[n]? = some (some (.lst xs)) ∧ Fa3 (RV h b m) xs ds fl ∧ fl.flatten.Nodup ∧ (∀ a ∈ fl.flatten, a ∈ fs.flatten) ∧ n ∉ fl.flatten ∧ n ∈ fs.flatten ∧
      ∀ xs2 ds2 fl2, Fa3 (RV h b m) xs2 ds2 fl2 → fl2.flatten.Nodup → (∀ a ∈ fl2.flatten, a ∈ fl.flatten ∨ (a ∉ fs.flatten ∧ (a ∈ fs0.flatten ∨ h0.length ≤ a))) →
        ∃ fs', Good D h0 fs0 (h.set n (some (.lst xs2))) sl (vs.set i (.v (putAt js (.list ds2) x))) fs' ∧ ∀ a ∈ fs'.flatten, a ∈ fl2.flatten ∨ (a ∈ fs.flatten ∧ a ∉ fl.flatten) := by
  obtain ⟨s0, v, f, e1, e2, e3, r⟩ := G.R.get e
  rw [ev] at e2
  cases e2
  have r : RV h b (js.length + (m + 1)) s0 x f := r
  obtain ⟨nf, dj⟩ := nd_at G.nd e3
  obtain ⟨s', f', w, r', n', m', put⟩ := foc r rfl nf eg
  obtain ⟨n, xs, fl, rfl, hn, rfl, q⟩ := r'.isL
  rw [List.nodup_cons] at n'
  have inf : ∀ a ∈ fl.flatten, a ∈ f := fun a z => m' a (List.mem_cons_of_mem _ z)
  have nfs : n ∈ fs.flatten := mem_at e3 (m' n List.mem_cons_self)
  refine ⟨s0, n, xs, fl, e1, w, hn, q, n'.2, fun a z => mem_at e3 (inf a z), n'.1, nfs, fun xs2 ds2 fl2 q2 n2 m2 => ?_⟩
  have hlt := (List.getElem?_eq_some_iff.mp hn).1
  have ne : ∀ a ∈ fl2.flatten, a ≠ n := fun a z w => by
    subst w
    rcases m2 a z with w | w
    · exact n'.1 w
    · exact w.1 nfs
  have rl : RV (h.set n (some (.lst xs2))) b (m + 1) (.r n) (.list ds2) (n :: fl2.flatten) := by
    refine RV.ofL (by rw [List.getElem?_set_self hlt]) ?_
    exact Fa3.imp (cs0 := fl2) (fun _ _ c hc z => z.frame fun a ha => List.getElem?_set_ne (Ne.symm (ne a (List.mem_flatten.mpr ⟨c, hc, ha⟩)))) (fun _ z => z) q2
  obtain ⟨f3, r3, n3, m3⟩ := put (h.set n (some (.lst xs2))) (.list ds2) (n :: fl2.flatten) (fun a ha z => List.getElem?_set_ne fun (e : n = a) => z (e ▸ List.mem_cons_self)) (okP_imm (by unfold imm; rfl)) rl (by rw [List.nodup_cons]; exact ⟨fun z => ne n z rfl, n2⟩) fun a ha => by
    rcases List.mem_cons.mp ha with rfl | ha
    · exact .inl List.mem_cons_self
    · rcases m2 a ha with z | z
      · exact .inl (List.mem_cons_of_mem _ z)
      · exact .inr fun w => z.1 (mem_at e3 w)
  have m4 : ∀ a ∈ f3, a ∈ fl2.flatten ∨ (a ∈ f ∧ a ∉ fl.flatten) := fun a ha => by
    rcases m3 a ha with z | z
    · rcases List.mem_cons.mp z with rfl | z
      · exact .inr ⟨m' a List.mem_cons_self, n'.1⟩
      · exact .inl z
    · exact .inr ⟨z.1, fun w => z.2 (List.mem_cons_of_mem _ w)⟩
  have ndr : ∀ a ∈ f3, a ∉ (fs.set i []).flatten := fun a ha z => by
    rcases m4 a ha with w | w
    · rcases m2 a w with u | u
      · exact dj a (inf a u) z
      · exact u.1 (mem_rest z)
    · exact dj a w.1 z
  have R1 : RSt (h.set n (some (.lst xs2))) D sl (vs.set i .un) (fs.set i []) := (G.R.drop i).frame fun a ha => List.getElem?_set_ne fun (e : n = a) => dj n (m' n List.mem_cons_self) (e ▸ ha)
  have R2 := R1.set (s' := s0) (v' := .v (putAt js (.list ds2) x)) (f' := f3) e r3
  have es : sl.set i s0 = sl := by
    obtain ⟨hi, e1⟩ := List.getElem?_eq_some_iff.mp e1
    rw [← e1]; exact List.set_getElem_self hi
  rw [es, List.set_set, List.set_set] at R2
  refine ⟨fs.set i f3, ⟨R2, nd_set G.nd n3 ndr, fun a ha => ?_, fun a ha hz => ?_, by rw [List.length_set]; exact G.le⟩, fun a ha => ?_⟩
  · rcases mem_set ha with z | z
    · rcases m4 a z with w | w
      · rcases m2 a w with u | u
        · exact G.old a (mem_at e3 (inf a u))
        · exact u.2
      · exact G.old a (mem_at e3 w.1)
    · exact G.old a (mem_rest z)
  · rw [List.getElem?_set_ne fun e => ?_, G.fr a ha hz]
    subst e
    rcases G.old n nfs with z | z
    · exact hz z
    · omega
  · rcases mem_set ha with z | z
    · exact (m4 a z).imp_right fun w => ⟨mem_at e3 w.1, w.2⟩
    · exact .inr ⟨mem_rest z, fun w => dj a (inf a w) z⟩
abbrev VP := List VS → Option (List Int)
def PV (D : List KD) (i n : Nat) (fo : FE) (gp : VP) : Prop := ∀ (h : AH) (sl : List SV) (vs : List VS) (fs : List (List Nat)), RSt h D sl vs fs → fs.flatten.Nodup → ∀ js, gp vs = some js → js.length = n ∧ ∀ x y, vs[i]? = some (.v x) → getAt js x = some y →
  ∃ s0 s t, sl[i]? = some s0 ∧ fo sl h = .ok s (h ++ t) ∧ walkR (h ++ t) js s0 = some s
def pVar : VP := fun _ => some []
def pIx (gp : VP) (ge : VE) : VP := fun vs => match gp vs with
  | some js => match ge vs with
    | .ok (.int j) _ => some (js ++ [j])
    | _ => none
  | none => none
theorem pv_var (e : D[i]? = some (b, k)) : PV D i 0 (Zx.fVar i) pVar := by
  intro h sl vs fs R nd js ej
  cases ej
  refine ⟨rfl, fun x y ev eg => ?_⟩
  obtain ⟨s, v, f, e1, e2, e3, r⟩ := R.get e
  rw [ev] at e2
  cases e2
  have r : RV h b k s x f := r
  refine ⟨s, s, [], e1, ?_, rfl⟩
  have hs : s ≠ .un := fun z => by
    subst z
    have := RV.rb (j := k) r (Nat.le_refl _)
    cases k <;> (unfold Zx.rb at this; cases this)
  rw [List.append_nil]
  unfold Zx.fVar
  rw [e1]
  cases s <;> first | rfl | exact absurd rfl hs
theorem getAt_snoc : ∀ {js : List Int} {j : Int} {x y : PyData}, getAt (js ++ [j]) x = some y → ∃ ds, (getAt js x = some (.list ds) ∨ (getAt js x = some (.tuple ds) ∧ immL ds = false)) ∧ atI ds j = some y
  | [], j, x, y, e => by
    have e : getAt [j] x = some y := e
    cases x with
    | list ds =>
      unfold getAt at e
      dsimp only at e
      split at e
      · rename_i d hd
        cases e
        exact ⟨ds, .inl rfl, hd⟩
      · cases e
    | tuple ds =>
      unfold getAt at e
      dsimp only at e
      split at e
      · rename_i c
        split at e
        · rename_i d hd
          cases e
          exact ⟨ds, .inr ⟨rfl, c⟩, hd⟩
        · cases e
      · cases e
    | none => cases e
    | bool _ => cases e
    | int _ => cases e
    | str _ => cases e
    | dict _ => cases e
  | a :: js, j, x, y, e => by
    have e : getAt (a :: (js ++ [j])) x = some y := e
    unfold getAt at e
    split at e
    · rename_i ds
      split at e
      · rename_i d hd
        obtain ⟨ds', h1, h2⟩ := getAt_snoc e
        refine ⟨ds', ?_, h2⟩
        unfold getAt
        dsimp only
        rw [hd]
        exact h1
      · cases e
    · rename_i ds
      split at e
      · rename_i c
        split at e
        · rename_i d hd
          obtain ⟨ds', h1, h2⟩ := getAt_snoc e
          refine ⟨ds', ?_, h2⟩
          unfold getAt
          dsimp only
          rw [if_pos c, hd]
          exact h1
        · cases e
      · cases e
    · cases e
theorem walkR_snoc {h : AH} : ∀ {js : List Int} {j : Int} {s s1 : SV} {n : Nat} {xs : List SV}, walkR h js s = some (.r n) → (h[n]? = some (some (.lst xs)) ∨ h[n]? = some (some (.tup xs))) → atI xs j = some s1 → walkR h (js ++ [j]) s = some s1
  | [], j, s, s1, n, xs, w, hn, e => by
    cases w
    show walkR h [j] (.r n) = some s1
    unfold walkR
    rcases hn with hn | hn <;> (rw [hn]; dsimp only; rw [e]; rfl)
  | a :: js, j, s, s1, n, xs, w, hn, e => by
    show walkR h (a :: (js ++ [j])) s = some s1
    unfold walkR at w ⊢
    cases s with
    | r m =>
      dsimp only at w ⊢
      split at w
      · rename_i ys hy
        split at w
        · rename_i s2 h2
          exact walkR_snoc w hn e
        · cases w
      · rename_i ys hy
        split at w
        · rename_i s2 h2
          exact walkR_snoc w hn e
        · cases w
      · cases w
    | un => cases w
    | d x => cases w
    | vw x => cases w
    | sc x => cases w
    | ex x => cases w
theorem pv_ix (hp : PV D i n fo gp) (he : EV D b1 k1 fr1 fe ge) (e : D[i]? = some (b, n + (m + 1))) : PV D i (n + 1) (Zx.fBin Zx.gIx fo fe) (pIx gp ge) := by
  intro h sl vs fs R nd js ej
  unfold pIx at ej
  split at ej
  · rename_i js' hj
    split at ej
    · rename_i j vs' hje
      cases ej
      obtain ⟨hl, c⟩ := hp h sl vs fs R nd js' hj
      refine ⟨by rw [List.length_append, hl]; rfl, fun x y ev eg => ?_⟩
      obtain ⟨ds, g1, g2⟩ := getAt_snoc eg
      obtain ⟨y', gy⟩ : ∃ y', getAt js' x = some y' := by
        rcases g1 with g | ⟨g, _⟩ <;> exact ⟨_, g⟩
      obtain ⟨s0, s, t, e1, e2, e3⟩ := c x y' ev gy
      have o := he (h ++ t) sl vs fs R.app nd
      rw [hje] at o
      obtain ⟨rfl, sj, t2, fp, e4, r4, _, _⟩ := o
      obtain ⟨rfl, _⟩ := r4.imm rfl
      have G : Good D h fs (h ++ t ++ t2) sl vs' fs := (Good.ext (t := t) R nd).app
      obtain ⟨s0', v, f, f1, fv, f3, rr⟩ := G.R.get e
      rw [ev] at fv
      cases fv
      have rr : RV (h ++ t ++ t2) b (n + (m + 1)) s0' x f := rr
      rw [e1] at f1
      cases f1
      obtain ⟨nf, _⟩ := nd_at G.nd f3
      obtain ⟨s', f', w, r', _⟩ := foc rr (by rw [hl]) nf gy
      have e5 := walkR_app (t := t2) e3
      rw [w] at e5
      cases e5
      have cell : ∃ n' xs fl, s = .r n' ∧ ((h ++ t ++ t2)[n']? = some (some (.lst xs)) ∨ (h ++ t ++ t2)[n']? = some (some (.tup xs))) ∧ Fa3 (RV (h ++ t ++ t2) b m) xs ds fl := by
        rcases g1 with g | ⟨g, ci⟩
        · cases gy.symm.trans g
          obtain ⟨n', xs, fl, rfl, hn, _, q⟩ := r'.isL
          exact ⟨n', xs, fl, rfl, .inl hn, q⟩
        · cases gy.symm.trans g
          obtain ⟨n', xs, fl, rfl, hn, _, q⟩ := r'.isT ci
          exact ⟨n', xs, fl, rfl, .inr hn, q⟩
      obtain ⟨n', xs, fl, rfl, hn, f4⟩ := cell
      obtain ⟨p, s1, c1, _, _, _, _, i5, _⟩ := fa_ix f4 g2
      refine ⟨s0, s1, t ++ t2, e1, ?_, ?_⟩
      · unfold Zx.fBin
        rw [e2]
        show ((fe sl (h ++ t)).bind fun y h2 => Zx.gIx (.r n') y h2) = _
        rw [e4]
        show Zx.gIx (.r n') (.d (.int j)) (h ++ t ++ t2) = _
        rw [List.append_assoc] at hn ⊢
        unfold Zx.gIx itemsOf
        dsimp only
        rcases hn with hn | hn <;> (rw [hn]; dsimp only; rw [i5])
      · rw [← List.append_assoc]
        exact walkR_snoc w hn i5
    · cases ej
  · cases ej
def KV (b : Bool) (m : Nat) (ba : Bool) (ka : Nat) (bo : Bool) (ko : Nat) (k : List SV → List SV → AH → Option (List SV × SV)) (kV : List PyData → List PyData → Option (List PyData × PyData)) : Prop :=
  ∀ (h : AH) (xs : List SV) (ds : List PyData) (fl : List (List Nat)) (ss : List SV) (as : List PyData) (fa : List (List Nat)) (ds2 : List PyData) (y : PyData), Fa3 (RV h b m) xs ds fl → Fa3 (RV h ba ka) ss as fa → (fl.flatten ++ fa.flatten).Nodup → kV ds as = some (ds2, y) →
    ∃ xs2 sy fl2 fy, k xs ss h = some (xs2, sy) ∧ Fa3 (RV h b m) xs2 ds2 fl2 ∧ RV h bo ko sy y fy ∧ (fl2.flatten ++ fy).Nodup ∧ ∀ a ∈ fl2.flatten ++ fy, a ∈ fl.flatten ++ fa.flatten
def fMt (i : Nat) (gp : VP) (kV : List PyData → List PyData → Option (List PyData × PyData)) (qa : VA) : VE := fun vs => match vs[i]?, gp vs with
  | some (.v x), some js => match getAt js x with
    | some (.list ds) => (qa vs).bind fun as vs => match kV ds as with
      | some p => .ok p.2 (vs.set i (.v (putAt js (.list p.1) x)))
      | none => .st
    | _ => .st
  | _, _ => .st
theorem xv_mt {ba bo : Bool} {ka ko : Nat} {kk : List SV → List SV → AH → Option (List SV × SV)} {kV : List PyData → List PyData → Option (List PyData × PyData)} {gp : VP} (hk : KV b m ba ka bo ko kk kV) (hp : PV D i n fo gp) (ha : AF D ba ka ra qa) (e : D[i]? = some (b, n + (m + 1))) :
    XV D bo ko (Zx.fBM Zx.kdL (Zx.gOwn kk) fo ra) (fMt i gp kV qa) := by
  intro h sl vs fs R nd
  unfold fMt
  split
  · rename_i x js ev ej
    split
    · rename_i ds eg
      obtain ⟨hl, c⟩ := hp h sl vs fs R nd js ej
      obtain ⟨s0, s, t, e1, e2, e3⟩ := c x _ ev eg
      obtain ⟨s0', n', xs, fl, f1, f2, f3, f4, f5, f6, f7, f8, _⟩ := (Good.ext (t := t) R nd).mut (js := js) (m := m) (by rw [hl]; exact e) ev eg
      rw [e1] at f1
      cases f1
      rw [e3] at f2
      cases f2
      have hkd : Zx.kdL (h ++ t) (.r n') = true := by
        unfold Zx.kdL lstOf
        dsimp only
        rw [f3]; rfl
      unfold Zx.fBM
      rw [e2]
      show OutX _ _ _ _ _ _ _ (if Zx.kdL (h ++ t) (.r n') = true then (ra sl (h ++ t)).bind fun ss h2 => Zx.gOwn kk (.r n') ss h2 else .st)
      rw [if_pos hkd]
      have o := ha (h ++ t) sl vs fs R.app nd
      generalize qa vs = rr at o ⊢
      generalize ra sl (h ++ t) = qq at o ⊢
      cases rr with
      | st => trivial
      | rz cc =>
        obtain ⟨t2, rfl⟩ := o
        exact ⟨t ++ t2, by rw [← List.append_assoc]; rfl⟩
      | ok as vs' =>
        obtain ⟨rfl, ss, t2, rfl, fa, q2, n2, z2⟩ := o
        show OutX _ _ _ _ _ _ (match kV ds as with | some p => .ok p.2 (vs'.set i (.v (putAt js (.list p.1) x))) | none => .st) (Zx.gOwn kk (.r n') ss (h ++ t ++ t2))
        cases ek : kV ds as with
        | none => trivial
        | some p =>
          obtain ⟨s0', n'', xs', fl', g1, g2, g3, g4, g5, g6, g7, g8, put⟩ := ((Good.ext (t := t) R nd).app (t := t2)).mut (js := js) (m := m) (by rw [hl]; exact e) ev eg
          rw [e1] at g1
          cases g1
          rw [walkR_app e3] at g2
          cases g2
          have fresh : ∀ a ∈ fa.flatten, h.length ≤ a ∧ a ∉ fs.flatten := fun a hm => by
            have h1 := z2 a hm
            rw [List.length_append] at h1
            exact ⟨by omega, fun z => absurd (R.lt a z) (by omega)⟩
          have dj : (fl'.flatten ++ fa.flatten).Nodup := by
            rw [List.nodup_append]
            exact ⟨g5, n2, fun a h1 b' h2 e => by subst e; exact (fresh a h2).2 (g6 a h1)⟩
          obtain ⟨xs2, sy, fl2, fy, k1, k2, k3, k4, k5⟩ := hk _ xs' ds fl' ss as fa p.1 p.2 g4 q2 dj ek
          rw [List.nodup_append] at k4
          have mm : ∀ a ∈ fl2.flatten ++ fy, a ∈ fl'.flatten ∨ (a ∉ fs.flatten ∧ h.length ≤ a) := fun a hm => by
            rcases List.mem_append.mp (k5 a hm) with z | z
            · exact .inl z
            · exact .inr ⟨(fresh a z).2, (fresh a z).1⟩
          obtain ⟨fs', G', m'⟩ := put xs2 p.1 fl2 k2 k4.1 fun a hm => (mm a (List.mem_append_left _ hm)).imp_right fun z => ⟨z.1, .inr z.2⟩
          have hgo : Zx.gOwn kk (.r n') ss (h ++ t ++ t2) = .ok sy ((h ++ t ++ t2).set n' (some (.lst xs2))) := by
            unfold Zx.gOwn
            dsimp only
            rw [g3]
            dsimp only
            rw [k1]
          rw [hgo]
          refine ⟨sy, _, fs', fy, rfl, G', k3.frame fun a hm => List.getElem?_set_ne fun (e : n' = a) => ?_, k4.2.1, fun a hm z => ?_, fun a hm => ?_⟩
          · subst e
            rcases mm n' (List.mem_append_right _ hm) with z | z
            · exact g7 z
            · exact z.1 g8
          · rcases m' a z with z | z
            · exact k4.2.2 a z a hm rfl
            · rcases mm a (List.mem_append_right _ hm) with w | w
              · exact z.2 w
              · exact w.1 z.1
          · rcases mm a (List.mem_append_right _ hm) with w | w
            · exact .inl (g6 a w)
            · exact .inr w.2
    · trivial
  · trivial
def kApp : List PyData → List PyData → Option (List PyData × PyData) := fun ds as => match as with
  | [x] => if ds.length < lim then some (ds ++ [x], .none) else none
  | _ => none
theorem kv_app (hb : (!b1 || b) = true := by decide) : KV b m b1 m b2 k2 Zx.kAppend kApp := by
  intro h xs ds fl ss as fa ds2 y r q nd e
  unfold kApp at e
  split at e
  · rename_i x
    split at e
    · rename_i hlt
      cases e
      match ss, fa, q with
      | [s], [f], ⟨q1, _⟩ =>
        have hl := r.len.1
        refine ⟨xs ++ [s], .d .none, fl ++ [f], [], ?_, Fa3.app (show Fa3 (RV h b m) [s] [x] [f] from ⟨q1.bm hb, trivial⟩) r, RV.dk rfl, ?_, fun a m => ?_⟩
        · unfold Zx.kAppend
          dsimp only
          rw [if_pos (by omega)]
        · rw [List.append_nil, List.flatten_append]; exact nd
        · rw [List.append_nil, List.flatten_append] at m; exact m
      | [], [], q => exact q.elim
      | [], f :: fa, q => exact q.elim
      | s :: s2 :: ss, f :: f2 :: fa, q => exact q.2.elim
      | [s], f :: f2 :: fa, q => exact q.2.elim
      | s :: s2 :: ss, [f], q => exact q.2.elim
      | s :: ss, [], q => exact q.elim
    · cases e
  · cases e
def fApp (i : Nat) (ga : VE) : VE := fun vs => match vs[i]? with
  | some (.v (.list _)) => (ga vs).bind fun x vs1 => match vs1[i]? with
    | some (.v (.list ds)) => if ds.length < lim then .ok .none (vs1.set i (.v (.list (ds ++ [x])))) else .st
    | _ => .st
  | _ => .st
theorem xv_app (ha : XV D b1 m fa ga) (e : D[i]? = some (b, m + 1) := by rfl) (hb : (!b1 || b) = true := by decide) : XV D bi ki (Zx.fBM Zx.kdL (Zx.gOwn Zx.kAppend) (Zx.fVar i) (Zx.fCons fa Zx.fNil)) (fApp i ga) := by
  intro h sl vs fs R nd
  unfold fApp
  split
  · rename_i ds0 ev
    obtain ⟨_, c⟩ := pv_var e h sl vs fs R nd [] rfl
    obtain ⟨s0, s, t, e1, e2, e3⟩ := c _ _ ev rfl
    cases e3
    obtain ⟨s0', n', xs, fl, f1, f2, f3, _⟩ := (Good.ext (t := t) R nd).mut (js := []) (m := m) (b := b) (by rw [e]; show some (b, m + 1) = some (b, 0 + (m + 1)); rw [Nat.zero_add]) ev rfl
    rw [e1] at f1
    cases f1
    cases f2
    have hkd : Zx.kdL (h ++ t) (.r n') = true := by
      unfold Zx.kdL lstOf
      dsimp only
      rw [f3]; rfl
    unfold Zx.fBM
    rw [e2]
    show OutX _ _ _ _ _ _ _ (if Zx.kdL (h ++ t) (.r n') = true then (Zx.fCons fa Zx.fNil sl (h ++ t)).bind fun ss h2 => Zx.gOwn Zx.kAppend (.r n') ss h2 else .st)
    rw [if_pos hkd]
    show OutX _ _ _ _ _ _ _ (((fa sl (h ++ t)).bind fun s h1 => .ok [s] h1).bind fun ss h2 => Zx.gOwn Zx.kAppend (.r n') ss h2)
    have o := ha (h ++ t) sl vs fs R.app nd
    generalize ga vs = rr at o ⊢
    generalize fa sl (h ++ t) = qq at o ⊢
    cases rr with
    | st => trivial
    | rz cc =>
      obtain ⟨t2, rfl⟩ := o
      exact ⟨t ++ t2, by rw [← List.append_assoc]; rfl⟩
    | ok x vs1 =>
      obtain ⟨sx, h1, fs1, fp, rfl, G1, r1, n1, d1, o1⟩ := o
      show OutX _ _ _ _ _ _ (match vs1[i]? with | some (.v (.list ds)) => if ds.length < lim then .ok .none (vs1.set i (.v (.list (ds ++ [x])))) else .st | _ => .st) (Zx.gOwn Zx.kAppend (.r n') [sx] h1)
      split
      · rename_i ds ev1
        split
        · rename_i hlt
          have G2 := (Good.ext (t := t) R nd).trans G1
          obtain ⟨s0', n'', xs', fl', g1, g2, g3, g4, g5, g6, g7, g8, put⟩ := G2.mut (js := []) (m := m) (b := b) (by rw [e]; show some (b, m + 1) = some (b, 0 + (m + 1)); rw [Nat.zero_add]) ev1 rfl
          rw [e1] at g1
          cases g1
          cases g2
          obtain ⟨fs', G', m'⟩ := put (xs' ++ [sx]) (ds ++ [x]) (fl' ++ [fp]) (Fa3.app (show Fa3 (RV h1 b m) [sx] [x] [fp] from ⟨r1.bm hb, trivial⟩) g4) (by
              rw [List.flatten_append, List.nodup_append]
              refine ⟨g5, by simpa using n1, fun a ha c hc e => ?_⟩
              subst e
              exact d1 a (by simpa using hc) (g6 a ha)) (fun a hm => by
              rw [List.flatten_append, List.mem_append] at hm
              refine hm.imp_right fun z => ?_
              have z : a ∈ fp := by simpa using z
              refine ⟨d1 a z, (o1 a z).imp_right fun w => ?_⟩
              rw [List.length_append] at w; omega)
          have hgo : Zx.gOwn Zx.kAppend (.r n') [sx] h1 = .ok (.d .none) (h1.set n' (some (.lst (xs' ++ [sx])))) := by
            have hl := g4.len.1
            unfold Zx.gOwn
            dsimp only
            rw [g3]
            show (match (if xs'.length < lim then some (xs' ++ [sx], SV.d .none) else none) with | some (ys, v) => Zx.R.ok v (h1.set n' (some (.lst ys))) | none => Zx.R.st) = _
            rw [if_pos (by omega)]
          rw [hgo]
          exact ⟨_, _, fs', [], rfl, G', RV.dk rfl, List.nodup_nil, (fun a m => by cases m), (fun a m => by cases m)⟩
        · trivial
      · trivial
  · trivial
def sStore (i : Nat) (gp : VP) (gi ge : VE) : VF := fun vs => (ge vs).thn vs fun x vs => match gp vs with
  | some js => match gi vs with
    | .ok (.int j) _ => match vs[i]? with
      | some (.v y) => match getAt js y with
        | some (.list ds) => match ixN ds.length j with
          | some p => .nx (vs.set i (.v (putAt js (.list (ds.set p x)) y)))
          | none => .st
        | _ => .st
      | _ => .st
    | _ => .st
  | none => .st
def sAugS (kk : Int → Int → Int) (i : Nat) (gp : VP) (gi ge : VE) : VF := fun vs => match gp vs with
  | some js => match gi vs with
    | .ok (.int j) _ => match vs[i]? with
      | some (.v y) => match getAt js y with
        | some (.list ds) => match ixN ds.length j with
          | some p => match ds[p]? with
            | some (.int a) => match ge vs with
              | .ok (.int c) _ => .nx (vs.set i (.v (putAt js (.list (ds.set p (.int (kk a c)))) y)))
              | _ => .st
            | _ => .st
          | none => .st
        | _ => .st
      | _ => .st
    | _ => .st
  | none => .st
end
end Zx.V
namespace Zx.V
open PySem PySem.Spec L2
def resetV : List VS → List VS → List VS
  | a :: as, b :: bs => (match a with | .un => .un | _ => b) :: resetV as bs
  | _, bs => bs
theorem rv_un {h : AH} {b : Bool} {k : Nat} {x : PyData} {f : List Nat} (r : RV h b k .un x f) : False := by
  have := RV.rb (j := k) r (Nat.le_refl _)
  cases k <;> (unfold Zx.rb at this; cases this)
theorem reset_rst {h0 h : AH} : ∀ {D : List KD} {sl0 sl : List SV} {vs0 vs : List VS} {fs0 fs : List (List Nat)}, RSt h0 D sl0 vs0 fs0 → RSt h D sl vs fs → ∃ fs', RSt h D (reset sl0 sl) (resetV vs0 vs) fs' ∧ fs'.flatten.Sublist fs.flatten
  | [], sl0, sl, vs0, vs, fs0, fs, r0, r => by
    rw [r0.1, r0.2.1, r.1, r.2.1, r.2.2]
    exact ⟨[], ⟨rfl, rfl, rfl⟩, List.Sublist.refl _⟩
  | k :: D, sl0, sl, vs0, vs, fs0, fs, ⟨s0, sl0', v0, vs0', f0, fs0', a1, a2, a3, q1, q2⟩, ⟨s, sl', v, vs', f, fs', b1, b2, b3, r1, r2⟩ => by
    subst a1 a2 a3 b1 b2 b3
    obtain ⟨fs2, R2, m2⟩ := reset_rst q2 r2
    cases v0 with
    | un => exact ⟨[] :: fs2, ⟨_, _, .un, _, _, _, rfl, rfl, rfl, rfl, R2⟩, by rw [List.flatten_cons, List.flatten_cons]; exact List.Sublist.append (List.nil_sublist _) m2⟩
    | v x =>
      have hs : s0 ≠ .un := fun z => by subst z; exact rv_un q1
      refine ⟨f :: fs2, ⟨s, _, v, _, f, _, ?_, rfl, rfl, r1, R2⟩, by rw [List.flatten_cons, List.flatten_cons]; exact List.Sublist.append (List.Sublist.refl _) m2⟩
      cases s0 <;> first | rfl | exact absurd rfl hs
    | sc x =>
      obtain ⟨rfl, rfl⟩ := q1
      exact ⟨f :: fs2, ⟨s, _, v, _, f, _, rfl, rfl, rfl, r1, R2⟩, by rw [List.flatten_cons, List.flatten_cons]; exact List.Sublist.append (List.Sublist.refl _) m2⟩
    | ex x =>
      obtain ⟨rfl, rfl⟩ := q1
      exact ⟨f :: fs2, ⟨s, _, v, _, f, _, rfl, rfl, rfl, r1, R2⟩, by rw [List.flatten_cons, List.flatten_cons]; exact List.Sublist.append (List.Sublist.refl _) m2⟩
theorem RSt.below {h : AH} {L : Nat} (hL : (h.take L).all (belowO L) = true) : ∀ {D : List KD} {sl : List SV} {vs : List VS} {fs : List (List Nat)}, sl.all (Zx.below L) = true → RSt h D sl vs fs → ∀ n ∈ fs.flatten, n < L
  | [], sl, vs, fs, _, r, n, m => by rw [r.2.2] at m; cases m
  | k :: D, sl, vs, fs, c, ⟨s, sl', v, vs', f, fs', h1, h2, h3, r1, r2⟩, n, m => by
    subst h1 h2 h3
    rw [List.all_cons, Bool.and_eq_true] at c
    rcases List.mem_append.mp m with m | m
    · cases v with
      | un => rw [show f = [] from r1] at m; cases m
      | v x => exact RV.below hL r1 c.1 n m
      | sc x => rw [r1.2] at m; cases m
      | ex x => rw [r1.2] at m; cases m
    · exact RSt.below hL c.2 r2 n m
theorem norm_1 {sl0 : List SV} {L : Nat} {sl : List SV} {h : AH} : (norm sl0 L sl h).1 = reset sl0 sl := by
  unfold Zx.norm
  split <;> rfl
theorem norm_2 {sl0 : List SV} {L : Nat} {sl : List SV} {h : AH} : (norm sl0 L sl h).2 = h ∨ ((norm sl0 L sl h).2 = h.take L ∧ (h.take L).all (belowO L) = true ∧ (reset sl0 sl).all (Zx.below L) = true) := by
  unfold Zx.norm
  split
  · rename_i c
    unfold trimOk at c
    rw [Bool.and_eq_true] at c
    exact .inr ⟨rfl, c.1, c.2⟩
  · exact .inl rfl
theorem reset_keep {sl0 sl : List SV} {i : Nat} (e : sl[i]? = sl0[i]?) : (reset sl0 sl)[i]? = sl0[i]? := by
  induction sl0 generalizing sl i with
  | nil => unfold reset; exact e
  | cons a as ih =>
    cases sl with
    | nil => unfold reset; exact e
    | cons b bs =>
      unfold reset
      cases i with
      | zero =>
        have e' : b = a := Option.some.inj e
        subst e'
        cases b <;> rfl
      | succ i => exact ih (sl := bs) (i := i) e
section
variable {D : List KD} {A A1 A2 : List Nat} {rb : Bool} {rk : Nat} {b b1 b2 bi fr fr1 fr2 : Bool} {k k1 k2 ki i j n m : Nat} {fa fb fo fe : FE} {ga gb ge : VE} {ra : FA} {qa : VA} {h0 h : AH} {fs0 fs : List (List Nat)} {sl sl0 : List SV} {vs vs0 : List VS} {f f1 f2 : FS} {g g1 g2 : VF} {ft : FT} {gt : VT} {bd : Bd}
theorem Good.norm' {fs00 : List (List Nat)} (R0 : RSt h0 D sl0 vs0 fs00) (G : Good D h0 fs0 h sl vs fs) : ∃ fs', Good D h0 fs0 (norm sl0 h0.length sl h).2 (norm sl0 h0.length sl h).1 (resetV vs0 vs) fs' ∧ (∀ a ∈ fs'.flatten, a ∈ fs.flatten) ∧ ∀ (b : Bool) (k : Nat) (s : SV) (x : PyData) (F : List Nat), RV h b k s x F → Zx.below h0.length s = true → RV (norm sl0 h0.length sl h).2 b k s x F := by
  obtain ⟨fs', R, sb⟩ := reset_rst R0 G.R
  have G1 : Good D h0 fs0 h (reset sl0 sl) (resetV vs0 vs) fs' := G.sub R (sb.nodup G.nd) fun n m => sb.subset m
  rw [norm_1]
  rcases norm_2 (sl0 := sl0) (L := h0.length) (sl := sl) (h := h) with e | ⟨e, c1, c2⟩
  · rw [e]; exact ⟨fs', G1, fun n m => sb.subset m, fun b k s x F r _ => r⟩
  · rw [e]
    have hb := RSt.below c1 c2 R
    refine ⟨fs', ⟨R.frame fun n m => List.getElem?_take_of_lt (hb n m), G1.nd, G1.old, fun n hn hm => ?_, ?_⟩, fun n m => sb.subset m, fun b k s x F r c => r.cut (RV.below c1 r c)⟩
    · rw [List.getElem?_take_of_lt hn]; exact G1.fr n hn hm
    · rw [List.length_take]; have := G1.le; omega
theorem Good.norm {fs00 : List (List Nat)} (R0 : RSt h0 D sl0 vs0 fs00) (G : Good D h0 fs0 h sl vs fs) : ∃ fs', Good D h0 fs0 (norm sl0 h0.length sl h).2 (norm sl0 h0.length sl h).1 (resetV vs0 vs) fs' := (Good.norm' R0 G).imp fun _ z => z.1
def aftV (vs0 : List VS) (o : VO) (k : List VS → VO) : VO := match o with
  | .nx vs => k (resetV vs0 vs)
  | .ct vs => k (resetV vs0 vs)
  | .bk vs => .nx (resetV vs0 vs)
  | .rt x => .rt x
  | .rz c vs => .rz c vs
  | .st => .st
theorem aft_out {q : O} {r : VO} {K : List VS → VO} {K' : List SV → AH → O} (R0 : RSt h0 D sl0 vs0 fs0) (o : OutS D A rb rk h0 sl0 fs0 r q)
    (c : ∀ sl vs h fs, Good D h0 fs0 h sl vs fs → Keep A sl0 sl → OutS D A rb rk h0 sl0 fs0 (K vs) (K' sl h)) : OutS D A rb rk h0 sl0 fs0 (aftV vs0 r K) (aft sl0 h0.length q K') := by
  have kk : ∀ {sl' : List SV} {h' : AH}, Keep A sl0 sl' → Keep A sl0 (norm sl0 h0.length sl' h').1 := fun k => by
    rw [norm_1]
    exact fun i hi => reset_keep (k i hi)
  cases r with
  | nx vs' =>
    obtain ⟨sl', h', fs', rfl, G, K⟩ := o
    obtain ⟨fs'', G'⟩ := Good.norm R0 G
    exact c _ _ _ _ G' (kk K)
  | ct vs' =>
    obtain ⟨sl', h', fs', rfl, G, K⟩ := o
    obtain ⟨fs'', G'⟩ := Good.norm R0 G
    exact c _ _ _ _ G' (kk K)
  | bk vs' =>
    obtain ⟨sl', h', fs', rfl, G, K⟩ := o
    obtain ⟨fs'', G'⟩ := Good.norm R0 G
    exact ⟨_, _, _, rfl, G', kk K⟩
  | rz cc vs' =>
    obtain ⟨sl', h', fs', rfl, G, K⟩ := o
    exact ⟨_, _, _, rfl, G, K⟩
  | rt x =>
    obtain ⟨s, h', fp, rfl, r, n⟩ := o
    exact ⟨s, h', fp, rfl, r, n⟩
  | st => trivial
def forV (vs0 : List VS) (bd : Bd) (body : VF) : List VI → List VS → VO
  | [], vs => .nx vs
  | x :: xs, vs => match goV bd x vs with
    | none => .st
    | some vs1 => aftV vs0 (body vs1) (forV vs0 bd body xs)
def sFor (gi : VSr) (bd : Bd) (body : VF) : VF := fun vs => (gi vs).thn vs fun l vs => forV vs bd body l vs
theorem forC_out (R0 : RSt h0 D sl0 vs0 fs0) (hb : SVp D A rb rk f g) (hbd : bdOk D b bd = true) : ∀ {its : List It1} {vis : List VI} {sl : List SV} {vs : List VS} {h : AH} {fs : List (List Nat)}, FI b its vis → Good D h0 fs0 h sl vs fs → Keep (bd.is ++ A) sl0 sl →
    OutS D (bd.is ++ A) rb rk h0 sl0 fs0 (forV vs0 bd g vis vs) (forC sl0 h0.length bd f its sl h)
  | [], [], sl, vs, h, fs, _, G, K => ⟨sl, h, fs, rfl, G, K⟩
  | [], y :: ys, sl, vs, h, fs, r, G, K => r.elim
  | x :: xs, [], sl, vs, h, fs, r, G, K => r.elim
  | x :: xs, y :: ys, sl, vs, h, fs, ⟨r1, r2⟩, G, K => by
    unfold forV
    split
    · trivial
    · rename_i vs1 e
      obtain ⟨sl1, fs1, e1, R1, n1, m1⟩ := go_ok hbd G.R G.nd r1 e
      unfold forC
      rw [e1]
      dsimp only
      have G1 := G.sub R1 n1 m1
      exact aft_out R0 (OutS.pre G1 (K.trans (keep_go e1).l) (fun i hi z => hi (List.mem_append_right _ z)) (hb h sl1 vs1 fs1 R1 n1)) fun sl2 vs2 h2 fs2 G2 K2 => forC_out R0 hb hbd r2 G2 K2
theorem sv_for {fi : List SV → AH → Zx.R Src} {gi : VSr} (hi : IV D b fi gi) (hb : SVp D A rb rk f g) (hbd : bdOk D b bd = true := by decide) : SVp D (bd.is ++ A) rb rk (Zx.sFor fi bd f) (sFor gi bd g) := by
  intro h sl vs fs R nd
  refine (hi h sl vs fs R nd).thn R nd fun l s t r => ?_
  obtain ⟨its, rfl, fi⟩ := r
  have G := Good.ext (t := t) R nd
  exact OutS.pre G Keep.same (fun _ hi => hi) (forC_out R.app hb hbd fi (Good.refl R.app nd) Keep.same)
def forVarV (vs0 : List VS) (l : Nat) (bd : Bd) (body : VF) : Nat → Nat → List VS → VO
  | 0, j, vs => match vs[l]? with
    | some (.v (.list ds)) => if ds.length ≤ j then .nx vs else .st
    | _ => .st
  | c + 1, j, vs => match vs[l]? with
    | some (.v (.list ds)) => match ds[j]? with
      | none => .nx vs
      | some x => match goV bd (.one x) vs with
        | none => .st
        | some vs1 => aftV vs0 (body vs1) (forVarV vs0 l bd body c (j + 1))
    | _ => .st
def sForVar (l : Nat) (bd : Bd) (body : VF) : VF := fun vs => match vs[l]? with
  | some (.v (.list ds)) => forVarV vs l bd body ds.length 0 vs
  | _ => .st
theorem slotL (e : D[i]? = some (b, m + 1)) (R : RSt h D sl vs fs) {ds : List PyData} (ev : vs[i]? = some (.v (.list ds))) : ∃ n xs fl, sl[i]? = some (.r n) ∧ fs[i]? = some (n :: fl.flatten) ∧ h[n]? = some (some (.lst xs)) ∧ Fa3 (RV h b m) xs ds fl := by
  obtain ⟨s, v, f, e1, e2, e3, r⟩ := R.get e
  rw [ev] at e2
  cases e2
  obtain ⟨n, xs, fl, rfl, hn, rfl, q⟩ := RV.isL r
  exact ⟨n, xs, fl, e1, e3, hn, q⟩
def forOwnV (vs0 : List VS) (l i : Nat) (body : VF) : Nat → Nat → PyData → List VS → VO
  | 0, j, y, vs => match y with
    | .list ds => if ds.length ≤ j then .nx (vs.set l (.v y)) else .st
    | _ => .st
  | c + 1, j, y, vs => match getAt [(j : Int)] y with
    | none => .st
    | some x => match body (vs.set i (.v x)) with
      | .nx vs' => match vs'[i]? with
        | some (.v x') => forOwnV vs0 l i body c (j + 1) (putAt [(j : Int)] x' y) (resetV vs0 (vs'.set i .un))
        | _ => .st
      | .ct vs' => match vs'[i]? with
        | some (.v x') => forOwnV vs0 l i body c (j + 1) (putAt [(j : Int)] x' y) (resetV vs0 (vs'.set i .un))
        | _ => .st
      | .bk vs' => match vs'[i]? with
        | some (.v x') => .nx ((resetV vs0 (vs'.set i .un)).set l (.v (putAt [(j : Int)] x' y)))
        | _ => .st
      | .rt x => .rt x
      | _ => .st
def sForOwn (l i : Nat) (body : VF) : VF := fun vs => match vs[l]? with
  | some (.v (.list ds)) => forOwnV (vs.set l .un) l i body ds.length 0 (.list ds) (vs.set l .un)
  | _ => .st
def sForF (ge : VE) (bd : Bd) (body : VF) : VF := fun vs => (ge vs).thn vs fun x vs => match x with
  | .list ds => forV vs bd body (ds.map .one) vs
  | _ => .st
def whV (vs0 : List VS) (gt : VT) (body : VF) : Nat → List VS → VO
  | 0, _ => .st
  | k + 1, vs => (gt vs).thn vs fun c vs => if c = true then aftV vs0 (body vs) (whV vs0 gt body k) else .nx vs
def sWhile (fuel : Nat) (gt : VT) (body : VF) : VF := fun vs => whV vs gt body fuel vs
def sDStore (i : Nat) (gi ge : VE) : VF := fun vs => (ge vs).thn vs fun x vs => match gi vs with
  | .ok y _ => match keyP y with
    | some key => match vs[i]? with
      | some (.v (.dict ps)) => match toL ps with
        | some l => if l.length < 1000 then .nx (vs.set i (.v (.dict (dK (putL l key x))))) else .st
        | none => .st
      | _ => .st
    | none => .st
  | _ => .st
theorem DV.len {kvs : List (Key × SV)} {l : List (Key × PyData)} {fs : List (List Nat)} (d : DV h b k kvs l fs) : kvs.length = l.length := by
  have := congrArg List.length d.1
  rwa [List.length_map, List.length_map] at this
theorem DV.put0 {s : SV} {x : PyData} (lf : leaf b s x) : ∀ {kvs : List (Key × SV)} {l : List (Key × PyData)} {fs : List (List Nat)} (key : Key), DV h b 0 kvs l fs → DV h b 0 (setS kvs key s) (setL l key x) fs
  | [], [], fs, key, d => d
  | p :: kvs, [], fs, key, d => by cases d.1
  | [], p :: l, fs, key, d => by cases d.1
  | p :: kvs, q :: l, [], key, d => d.2.elim
  | p :: kvs, q :: l, f :: fs, key, ⟨d1, d2, d3⟩ => by
    have e1 : p.1 = q.1 := (List.cons.inj d1).1
    have e2 : kvs.map Prod.fst = l.map Prod.fst := (List.cons.inj d1).2
    obtain ⟨z1, z2⟩ := DV.put0 lf key ⟨e2, d3⟩
    unfold setS setL
    rw [e1]
    by_cases h : q.1 = key
    · rw [if_pos h, if_pos h]
      refine ⟨?_, ⟨d2.1, lf⟩, z2⟩
      rw [List.map_cons, List.map_cons, z1]
    · rw [if_neg h, if_neg h]
      refine ⟨?_, d2, z2⟩
      rw [List.map_cons, List.map_cons, z1, e1]
theorem DV.put {s : SV} {x : PyData} (lf : leaf b s x) {kvs : List (Key × SV)} {l : List (Key × PyData)} {fs : List (List Nat)} (key : Key) (d : DV h b 0 kvs l fs) : ∃ fs', DV h b 0 (putS kvs key s) (putL l key x) fs' := by
  unfold putS putL
  rcases DV.val key d with ⟨z1, z2⟩ | ⟨s', x', f, j, z1, z2, _, _⟩
  · rw [z1, z2]
    refine ⟨fs ++ [[]], ?_, ?_⟩
    · rw [List.map_append, List.map_append, d.1]; rfl
    · rw [List.map_append, List.map_append]
      exact Fa3.app (show Fa3 (RV h b 0) [s] [x] [[]] from ⟨⟨rfl, lf⟩, trivial⟩) d.2
  · rw [z1, z2]
    exact ⟨fs, DV.put0 lf key d⟩
theorem RV.ofD {kvs : List (Key × SV)} {l : List (Key × PyData)} {fl : List (List Nat)} {n : Nat} (hn : h[n]? = some (some (.dct kvs))) (d : DV h b k kvs l fl) : RV h b (k + 1) (.r n) (.dict (dK l)) (n :: fl.flatten) := by
  unfold RV
  refine .inr (.inr (.inl ⟨n, kvs, l.map Prod.snd, fl, rfl, hn, ?_, rfl, d.2⟩))
  rw [d.1, zip_dK (by rw [List.length_map, List.length_map])]
  congr 1
  have : (l.map Prod.fst).zip (l.map Prod.snd) = l := by
    clear hn d
    induction l with
    | nil => rfl
    | cons p l ih => rw [List.map_cons, List.map_cons, List.zip_cons_cons, ih]
  rw [this]
end
end Zx.V
namespace Zx.V
open PySem PySem.Spec L2
section
variable {D : List KD} {A : List Nat} {b b1 b2 b3 fr fr1 : Bool} {k k1 m i l a : Nat} {fa fb : FE} {ga gb : VE} {ta : FT} {ua : VT} {bd : Bd} {slw sl1 sl : List SV} {vw vs1 vs2 vs3 vs : List VS} {fs1 fs : List (List Nat)} {h0 : AH} {vx : List Nat}
theorem lcOne_ok {it : It1} {bb : Bool} {x : PyData} (ego : bd.go it slw = some sl1) (R1 : RSt h0 D sl1 vs1 fs1) (nd1 : fs1.flatten.Nodup) (ht : TV D ta ua) (he : EV D b2 k true fa ga) (hb : (!b2 || b) = true) {acc : List SV} {accv : List PyData} {fps : List (List Nat)} {t : AH}
    (q : Fa3 (RV (h0 ++ [some (.lst acc)] ++ t) b k) acc accv fps) (n : fps.flatten.Nodup) (z : ∀ n ∈ fps.flatten, h0.length + 1 ≤ n) (hl : bb = true → accv.length < 1000000) (e1 : ua vs1 = .ok bb vs2) (e2 : bb = true → ga vs1 = .ok x vs3) :
    ∃ acc' fps' t', (∀ kk, lcOne h0.length bd ta fa slw it (h0 ++ [some (.lst acc)] ++ t) kk = kk (h0 ++ [some (.lst acc')] ++ t')) ∧ Fa3 (RV (h0 ++ [some (.lst acc')] ++ t') b k) acc' (if bb = true then accv ++ [x] else accv) fps' ∧ fps'.flatten.Nodup ∧ ∀ n ∈ fps'.flatten, h0.length + 1 ≤ n := by
  have o1 := ht (h0 ++ [some (.lst acc)] ++ t) sl1 vs1 fs1 (RSt.app (RSt.app R1)) nd1
  rw [e1] at o1
  obtain ⟨rfl, a, t1, ea, e3⟩ := o1
  subst e3
  cases a with
  | false =>
    have q2 : Fa3 (RV (h0 ++ [some (.lst acc)] ++ (t ++ t1)) b k) acc accv fps := by
      rw [← List.append_assoc]
      exact Fa3.imp (cs0 := fps) (fun _ _ _ _ p => RV.app p) (fun _ m => m) q
    obtain ⟨t', et, q3⟩ := lc_turn (slw := slw) q2
    refine ⟨acc, fps, t', fun kk => ?_, by rw [if_neg (by decide)]; exact q3, n, z⟩
    unfold lcOne
    rw [ego]
    dsimp only
    rw [ea]
    show kk (norm [] (h0.length + 1) slw (h0 ++ [some (.lst acc)] ++ t ++ t1)).2 = _
    rw [List.append_assoc (h0 ++ [some (AO.lst acc)]), et]
  | true =>
    have o2 := he (h0 ++ [some (.lst acc)] ++ t ++ t1) sl1 vs2 fs1 (RSt.app (RSt.app (RSt.app R1))) nd1
    rw [e2 rfl] at o2
    obtain ⟨rfl, s, t2, fp, es, r2, n2, z2⟩ := o2
    have hL : (h0 ++ [some (AO.lst acc)] ++ t ++ t1 ++ t2)[h0.length]? = some (some (.lst acc)) := by
      rw [List.append_assoc, List.append_assoc, List.append_assoc, List.getElem?_append_right (Nat.le_refl _), Nat.sub_self]; rfl
    have la := q.len.1
    have hs : (h0 ++ [some (AO.lst acc)] ++ t ++ t1 ++ t2).set h0.length (some (.lst (acc ++ [s]))) = h0 ++ [some (.lst (acc ++ [s]))] ++ (t ++ t1 ++ t2) := by
      rw [List.append_assoc, List.append_assoc, List.append_assoc, List.set_append_right _ _ (Nat.le_refl _), Nat.sub_self]
      simp
    have fz1 : ∀ m, h0.length + 1 ≤ m → (h0 ++ [some (AO.lst (acc ++ [s]))] ++ (t ++ t1 ++ t2))[m]? = (h0 ++ [some (AO.lst acc)] ++ t ++ t1 ++ t2)[m]? := fun m hm => by
      rw [← hs, List.getElem?_set_ne (by omega)]
    have q2 : Fa3 (RV (h0 ++ [some (.lst (acc ++ [s]))] ++ (t ++ t1 ++ t2)) b k) (acc ++ [s]) (accv ++ [x]) (fps ++ [fp]) := by
      have qa : Fa3 (RV (h0 ++ [some (.lst (acc ++ [s]))] ++ (t ++ t1 ++ t2)) b k) acc accv fps := Fa3.imp (cs0 := fps) (fun a0 b0 c hc p => by
        have p2 : RV (h0 ++ [some (AO.lst acc)] ++ t ++ t1 ++ t2) b k a0 b0 c := RV.app (RV.app p)
        exact p2.frame fun m hm => fz1 m (z m (List.mem_flatten.mpr ⟨c, hc, hm⟩))) (fun _ m => m) q
      have qb : Fa3 (RV (h0 ++ [some (.lst (acc ++ [s]))] ++ (t ++ t1 ++ t2)) b k) [s] [x] [fp] := by
        refine ⟨RV.bm hb (r2.frame fun m hm => fz1 m ?_), trivial⟩
        have := z2 rfl m hm
        simp only [List.length_append, List.length_cons, List.length_nil] at this
        omega
      exact Fa3.app qb qa
    have n3 : (fps ++ [fp]).flatten.Nodup := by
      rw [List.flatten_append, List.nodup_append]
      refine ⟨n, by simpa using n2, fun a ha b' hb' e => ?_⟩
      have hb'' : b' ∈ fp := by simpa using hb'
      obtain ⟨c, hc, hm⟩ := List.mem_flatten.mp ha
      obtain ⟨_, _, _, _, p⟩ := Fa3.mem q hc
      have h1 := p.lt a hm
      have h2 := z2 rfl b' hb''
      rw [List.length_append] at h2
      omega
    have z3 : ∀ m ∈ (fps ++ [fp]).flatten, h0.length + 1 ≤ m := fun m hm => by
      rw [List.flatten_append, List.mem_append] at hm
      rcases hm with hm | hm
      · exact z m hm
      · have := z2 rfl m (by simpa using hm)
        simp only [List.length_append, List.length_cons, List.length_nil] at this
        omega
    obtain ⟨t', et, q3⟩ := lc_turn (slw := slw) q2
    refine ⟨acc ++ [s], fps ++ [fp], t', fun kk => ?_, by rw [if_pos rfl]; exact q3, n3, z3⟩
    unfold lcOne
    rw [ego]
    dsimp only
    rw [ea]
    show ((nrz (fa sl1 (h0 ++ [some (.lst acc)] ++ t ++ t1))).bind fun s h2 => lcPut h0.length slw s h2 kk) = _
    rw [es]
    show lcPut h0.length slw s (h0 ++ [some (.lst acc)] ++ t ++ t1 ++ t2) kk = _
    unfold lcPut
    rw [hL]
    dsimp only
    have hl := hl rfl
    rw [if_pos (by omega), hs, et]
def fLcVar (b : Bool) (k : Nat) (l : Nat) (bd : Bd) (gt : VT) (ge : VE) (vx : List Nat) : VE := fun vs => match vs[l]? with
  | some (.v (.list ds)) => lcEnd vs (lcV bd gt ge (wipeV vs vx) (ds.map .one))
  | _ => .st
def fLcEV (b : Bool) (k : Nat) (l : Nat) (bd : Bd) (gt : VT) (ge : VE) (vx : List Nat) : VE := fun vs => match vs[l]? with
  | some (.v (.list ds)) => lcEnd vs (lcV bd gt ge (wipeV vs vx) (enumV 0 ds))
  | _ => .st
def fLcOwn (b : Bool) (k : Nat) (l i : Nat) (gt : VT) (ge : VE) (vx : List Nat) : VE := fun vs => match vs[l]? with
  | some (.v (.list ds)) => lcEnd vs (lcV (.nm i) gt ge (wipeV (vs.set l .un) vx) (ds.map .one))
  | _ => .st
def fLcMv (l a i : Nat) (gt : VT) (vx : List Nat) : VE := fun vs => match vs[l]? with
  | some (.v (.list ds)) => lcEnd (vs.set l .un) (lcV (.tp [a, i]) gt (fVar i) (wipeV (vs.set l .un) vx) (enumV 0 ds))
  | _ => .st
end
end Zx.V
namespace Zx.V
open PySem PySem.Spec L2
mutual
def pureK : Nat → PyData → Bool
  | 0, x => imm x
  | k + 1, .list ds => pureL k ds
  | k + 1, .dict ps => pureD k ps
  | k + 1, .tuple ds => pureL k ds
  | _ + 1, x => imm x
def pureL : Nat → List PyData → Bool
  | _, [] => true
  | k, d :: ds => pureK k d && pureL k ds
def pureD : Nat → List (PyData × PyData) → Bool
  | _, [] => true
  | k, p :: ps => pureK k p.2 && pureD k ps
end
theorem pureD_zip {k : Nat} : ∀ {ks : List Key} {ds : List PyData}, ks.length = ds.length → pureD k (zipD ks ds) = true → pureL k ds = true
  | [], [], _, _ => by unfold pureL; rfl
  | key :: ks, d :: ds, h, e => by
    have e : pureD k ((kD key, d) :: zipD ks ds) = true := e
    unfold pureD at e
    rw [Bool.and_eq_true] at e
    unfold pureL
    rw [e.1, pureD_zip (Nat.succ.inj h) e.2]; rfl
  | [], d :: ds, h, _ => by cases h
  | k :: ks, [], h, _ => by cases h
theorem RV.pure {h : AH} {b : Bool} : ∀ {k : Nat} {s : SV} {x : PyData} {f : List Nat}, RV h b k s x f → pureK k x = true → RV h false k s x f
  | 0, s, x, f, r, c => ⟨r.1, .inl (leaf_imm r.2 (by unfold pureK at c; exact c))⟩
  | k + 1, s, x, f, r, c => by
    have lst : ∀ {xs : List SV} {ds : List PyData} {fs : List (List Nat)}, Fa3 (RV h b k) xs ds fs → pureL k ds = true → Fa3 (RV h false k) xs ds fs := by
      intro xs
      induction xs with
      | nil =>
        intro ds fs q c
        cases ds with
        | nil => cases fs with
          | nil => exact trivial
          | cons f fs => exact q.elim
        | cons d ds => cases fs <;> exact q.elim
      | cons a xs ih =>
        intro ds fs q c
        cases ds with
        | nil => cases fs <;> exact q.elim
        | cons d ds =>
          cases fs with
          | nil => exact q.elim
          | cons f fs =>
            unfold pureL at c
            rw [Bool.and_eq_true] at c
            exact ⟨RV.pure q.1 c.1, ih q.2 c.2⟩
    unfold RV at r ⊢
    rcases r with r | ⟨n, xs, ds, fs, rfl, hn, rfl, rfl, r⟩ | ⟨n, xs, ds, fs, rfl, hn, rfl, rfl, r⟩ | ⟨n, xs, ds, fs, rfl, hn, rfl, rfl, r⟩
    · refine .inl ⟨r.1, .inl (leaf_imm r.2.1 ?_), r.2.2⟩
      cases x with
      | tuple ds =>
        have q : (!immL ds) = false := r.2.2
        unfold Zx.imm
        simpa using q
      | list _ => cases r.2.2
      | dict _ => cases r.2.2
      | _ => exact c
    · exact .inr (.inl ⟨n, xs, ds, fs, rfl, hn, rfl, rfl, lst r (by unfold pureK at c; exact c)⟩)
    · exact .inr (.inr (.inl ⟨n, xs, ds, fs, rfl, hn, rfl, rfl, lst r (pureD_zip (ks := xs.map Prod.fst) (by have := r.len.1; simpa using this) (by unfold pureK at c; exact c))⟩))
    · exact .inr (.inr (.inr ⟨n, xs, ds, fs, rfl, hn, rfl, rfl, lst r (by unfold pureK at c; exact c)⟩))
def fPure (k : Nat) (ga : VE) : VE := fun vs => (ga vs).bind fun x vs => if pureK k x = true then .ok x vs else .st
section
variable {D : List KD} {b b1 b2 fr fr1 : Bool} {k k1 k2 i : Nat} {fa fb : FE} {ga gb : VE} {ra : FA} {qa : VA} {ms : List Md}
theorem ev_pure (ha : EV D b k fr fa ga) : EV D false k fr fa (fPure k ga) := by
  intro h sl vs fs R nd
  have o := ha h sl vs fs R nd
  unfold fPure
  generalize ga vs = r at o ⊢
  generalize fa sl h = q at o ⊢
  cases r with
  | ok x vs' =>
    obtain ⟨rfl, s, t, fp, rfl, h3, h4⟩ := o
    show OutE _ _ _ _ _ _ (if pureK k x = true then .ok x vs' else .st) _
    split
    · rename_i c
      exact ⟨rfl, s, t, fp, rfl, h3.pure c, h4⟩
    · trivial
  | rz c => exact o
  | st => trivial
theorem xv_pure (ha : XV D b k fa ga) : XV D false k fa (fPure k ga) := by
  intro h sl vs fs R nd
  have o := ha h sl vs fs R nd
  unfold fPure
  generalize ga vs = r at o ⊢
  generalize fa sl h = q at o ⊢
  cases r with
  | ok x vs' =>
    obtain ⟨s, h', fs', fp, h1, h2, h3, h4, h5, h6⟩ := o
    show OutX _ _ _ _ _ _ (if pureK k x = true then .ok x vs' else .st) _
    split
    · rename_i c
      exact ⟨s, h', fs', fp, h1, h2, h3.pure c, h4, h5, h6⟩
    · trivial
  | rz c => exact o
  | st => trivial
theorem ev_fz0 (ha : EV D false k true fa ga) (hk : k ≤ 9 := by decide) : EV D false 0 fr (Zx.fFz fa) ga := ev_fz ha hk
theorem xv_fz (ha : XV D false k fa ga) (hk : k ≤ 9 := by decide) : XV D false 0 (Zx.fFz fa) ga := by
  intro h sl vs fs R nd
  have o := ha h sl vs fs R nd
  rw [a_fz]
  generalize ga vs = r at o ⊢
  generalize fa sl h = q at o ⊢
  cases r with
  | ok x vs' =>
    obtain ⟨s, h', fs', fp, rfl, G, r3, n4, d5, o6⟩ := o
    obtain ⟨h2, e1, l1, k1⟩ := RV.fz rfl r3 n4 hk
    show OutX _ _ _ _ _ _ _ (opt (fzv 9 h' s) (fun p => .ok (.d p.1) (trimE h.length sl p.2)) .st)
    rw [e1]
    show OutX _ _ _ _ _ _ _ (.ok (.d x) (trimE h.length sl h2))
    have G2 : Good D h fs h2 sl vs' fs' := by
      refine ⟨G.R.frame fun n m => k1 n fun z => d5 n z m, G.nd, G.old, fun n hn hm => ?_, by rw [l1]; exact G.le⟩
      rw [k1 n fun z => (o6 n z).elim hm fun w => by omega]
      exact G.fr n hn hm
    have fin : ∀ h3, Good D h fs h3 sl vs' fs' → OutX D false 0 h sl fs (.ok x vs') (.ok (.d x) h3) := fun h3 G3 => ⟨.d x, h3, fs', [], rfl, G3, RV.d, List.nodup_nil, (fun n m => by cases m), (fun n m => by cases m)⟩
    unfold trimE
    split
    · rename_i c
      unfold trimOk at c
      rw [Bool.and_eq_true] at c
      have hb := RSt.below c.1 c.2 G2.R
      refine fin _ ⟨G2.R.frame fun n m => List.getElem?_take_of_lt (hb n m), G2.nd, G2.old, fun n hn hm => ?_, ?_⟩
      · rw [List.getElem?_take_of_lt hn]; exact G2.fr n hn hm
      · rw [List.length_take]; have := G2.le; omega
    · exact fin _ G2
  | rz c =>
    obtain ⟨t, rfl⟩ := o
    exact ⟨t, rfl⟩
  | st => trivial
def fDctO (ga gb : VE) : VE := fun vs => (ga vs).bind fun x vs => (gb vs).bind fun y vs => match keyP x with
  | some key => .ok (.dict [(kD key, y)]) vs
  | none => .st
end
theorem law_by {φ : List PyData → Zx.R SV} {u : List PyData → VC} (c : CalV φ 0 u) {ds : List PyData} (e : u ds = .ok (.bool true)) : ∃ h, φ ds = .ok (.d (.bool true)) h := by
  have := c ds
  rw [e] at this
  obtain ⟨s, hn, fp, h1, h2, _⟩ := this
  obtain ⟨rfl, _⟩ := h2.imm rfl
  exact ⟨hn, h1⟩
end Zx.V
namespace Zx.V
open PySem PySem.Spec L2
section
variable {α β : Type}
def gv (o : Option VS) (k : PyData → β) (z : β) : β := match o with
  | some (.v x) => k x
  | _ => z
def gl (x : PyData) (k : List PyData → β) (z : β) : β := match x with
  | .list ds => k ds
  | _ => z
def gn (x : PyData) (k : Int → β) (z : β) : β := match x with
  | .int i => k i
  | _ => z
def rv (r : VR PyData) (k : PyData → β) (z : β) : β := match r with
  | .ok x _ => k x
  | _ => z
theorem gv_v {x : PyData} {k : PyData → β} {z : β} : gv (some (.v x)) k z = k x := (rfl)
theorem gl_l {ds : List PyData} {k : List PyData → β} {z : β} : gl (.list ds) k z = k ds := (rfl)
theorem gn_i {i : Int} {k : Int → β} {z : β} : gn (.int i) k z = k i := (rfl)
theorem rv_k {x : PyData} {vs : List VS} {k : PyData → β} {z : β} : rv (.ok x vs) k z = k x := (rfl)
end
def capp {β : Type} (n : Nat) (x z : β) : β := if n < lim then x else z
theorem capp_ok {β : Type} {n : Nat} {x z : β} (h : n < 1000000) : capp n x z = x := if_pos h
def VO.sq (o : VO) (b : VF) : VO := match o with
  | .nx vs => b vs
  | .rt x => .rt x
  | .bk vs => .bk vs
  | .ct vs => .ct vs
  | .rz c vs => .rz c vs
  | .st => .st
def VO.fin (o : VO) : VC := match o with
  | .rt x => .ok x
  | .nx _ => .ok .none
  | .rz c _ => .rz c
  | _ => .st
section
variable {α β : Type} {a b : VF} {ga gb gc : VE} {ta tb : VT} {qa : VA} {vs vs' : List VS} {x y : PyData} {i j : Nat} {m n : Int} {c : Str} {k : α → List VS → VR β} {ko : α → List VS → VO} {xs ys : List PyData} {u : List PyData → VC} {ms : List Md} {N : Nat} {gt : VT} {bd : Bd} {kk : Nat} {bb : Bool}
theorem t_nx : (VO.nx vs).sq b = b vs := (rfl)
theorem t_rt : (VO.rt x).sq b = .rt x := (rfl)
theorem t_bk : (VO.bk vs).sq b = .bk vs := (rfl)
theorem t_ct : (VO.ct vs).sq b = .ct vs := (rfl)
theorem t_rz : (VO.rz c vs).sq b = .rz c vs := (rfl)
theorem h_rt : (VO.rt x).fin = .ok x := (rfl)
theorem h_nx : (VO.nx vs).fin = .ok .none := (rfl)
theorem h_rz : (VO.rz c vs).fin = .rz c := (rfl)
theorem d_ok {a : α} : (VR.ok a vs).bind k = k a vs := (rfl)
theorem d_rz : (VR.rz c : VR α).bind k = .rz c := (rfl)
theorem d_st : (VR.st : VR α).bind k = .st := (rfl)
theorem e_ok {a : α} : (VR.ok a vs').thn vs ko = ko a vs' := (rfl)
theorem e_rz : (VR.rz c : VR α).thn vs ko = .rz c vs := (rfl)
theorem e_st : (VR.st : VR α).thn vs ko = .st := (rfl)
theorem u_phi {g : VF} {ds : List PyData} : phiV ms N g ds = (g (startV ms ds N)).fin := (rfl)
theorem u_seq : sSeq a b vs = (a vs).sq b := by unfold sSeq VO.sq; cases a vs <;> rfl
theorem u_set : sSet i ga vs = (ga vs).thn vs fun x vs => .nx (vs.set i (.v x)) := (rfl)
theorem u_if : sIf gt a b vs = (gt vs).thn vs fun k vs => if k = true then a vs else b vs := (rfl)
theorem u_expr : sExpr ga vs = (ga vs).thn vs fun _ vs => .nx vs := (rfl)
theorem u_ret : sRet ga vs = (ga vs).thn vs fun x _ => .rt x := (rfl)
theorem u_retN : sRetN vs = .rt .none := (rfl)
theorem u_next : sNext vs = .nx vs := (rfl)
theorem u_break : sBreak vs = .bk vs := (rfl)
theorem u_cont : sCont vs = .ct vs := (rfl)
theorem u_raise : sRaise c vs = .rz c vs := (rfl)
theorem u_setT {is : List Nat} : sSetT is ga vs = (ga vs).thn vs fun x vs => opt (goV (.tp is) (.one x) vs) (fun vs' => .nx vs') .st := by
  unfold sSetT opt
  congr 1
  funext x vs
  cases goV (.tp is) (.one x) vs <;> rfl
theorem u_par : sPar i j qa vs = (qa vs).thn vs fun xs vs => match xs with | [x, y] => .nx ((vs.set i (.v x)).set j (.v y)) | _ => .st := (rfl)
theorem u_var : fVar i vs = gv vs[i]? (fun x => .ok x vs) .st := by
  unfold fVar gv
  rcases vs[i]? with _ | (_ | _ | _ | _) <;> rfl
theorem u_mv : fMv i vs = gv vs[i]? (fun x => .ok x (vs.set i .un)) .st := by
  unfold fMv gv
  rcases vs[i]? with _ | (_ | _ | _ | _) <;> rfl
theorem u_c : fC x vs = .ok x vs := (rfl)
theorem u_bin {g : PyData → PyData → List VS → VR PyData} : fBin g ga gb vs = (ga vs).bind fun x vs => (gb vs).bind fun y vs => g x y vs := (rfl)
theorem u_un {g : PyData → List VS → VR PyData} : fUn g ga vs = (ga vs).bind fun x vs => g x vs := (rfl)
theorem u_tst : fTst ga vs = (ga vs).bind tst := (rfl)
theorem tst_b : tst (.bool bb) vs = .ok bb vs := (rfl)
theorem u_andT : fAndT ta tb vs = (ta vs).bind fun k vs => if k = true then tb vs else .ok false vs := (rfl)
theorem u_orT : fOrT ta tb vs = (ta vs).bind fun k vs => if k = true then .ok true vs else tb vs := (rfl)
theorem u_notT : fNotT ta vs = (ta vs).bind fun k vs => .ok (!k) vs := (rfl)
theorem u_yes : fYes vs = .ok true vs := (rfl)
theorem u_andV : fAndV ga gb vs = (ga vs).bind fun x vs => (tst x vs).bind fun k vs => if k = true then gb vs else .ok (.bool false) vs := (rfl)
theorem u_orV : fOrV ga gb vs = (ga vs).bind fun x vs => (tst x vs).bind fun k vs => if k = true then .ok (.bool true) vs else gb vs := (rfl)
theorem u_notV : fNotV ga vs = (ga vs).bind fun x vs => (tst x vs).bind fun k vs => .ok (.bool (!k)) vs := (rfl)
theorem u_if' : fIf ta ga gb vs = (ta vs).bind fun k vs => if k = true then ga vs else gb vs := (rfl)
theorem u_chain {g g' : PyData → PyData → List VS → VR PyData} : fChain g g' ga gb gc vs = (ga vs).bind fun x vs => (gb vs).bind fun y vs => (g x y vs).bind fun z vs => (tst z vs).bind fun k vs => if k = true then (gc vs).bind fun u vs => g' y u vs else .ok (.bool false) vs := (rfl)
theorem u_nil : fNil vs = .ok [] vs := (rfl)
theorem u_cons : fCons ga qa vs = (ga vs).bind fun x vs => (qa vs).bind fun xs vs => .ok (x :: xs) vs := (rfl)
theorem u_lst : fLst bb kk qa vs = (qa vs).bind fun xs vs => if xs.length ≤ 1000 then .ok (.list xs) vs else .st := (rfl)
theorem u_tup : fTup qa vs = (qa vs).bind fun xs vs => if xs.length ≤ 1000 then .ok (.tuple xs) vs else .st := (rfl)
theorem u_imm : fImm ga vs = (ga vs).bind fun x vs => if imm x = true then .ok x vs else .st := (rfl)
theorem u_pure : fPure kk ga vs = (ga vs).bind fun x vs => if pureK kk x = true then .ok x vs else .st := (rfl)
theorem u_cb {g : List PyData → List VS → VR PyData} : fCB g qa vs = (qa vs).bind fun xs vs => g xs vs := (rfl)
theorem u_call : fCall u qa vs = (qa vs).bind fun ds vs => (u ds).back vs := (rfl)
theorem bk_ok : (VC.ok x).back vs = .ok x vs := (rfl)
theorem bk_rz : (VC.rz c).back vs = .rz c := (rfl)
theorem u_sc : fSc i vs = match vs[i]? with | some (.sc ns) => .ok (.list (ns.map PyData.int)) vs | _ => .st := (rfl)
theorem u_isi {T : String} : fIsi T ga vs = (ga vs).bind fun x vs => opt (tyP x) (fun t => opt (isTy t T) (fun c => .ok (.bool c) vs) .st) .st := by
  unfold fIsi opt
  congr 1
  funext x vs
  cases tyP x with
  | none => rfl
  | some t =>
    dsimp only
    cases isTy t T <;> rfl
theorem o_add : gAdd (.int m) (.int n) vs = .ok (.int (m + n)) vs := (rfl)
theorem o_sub : gSub (.int m) (.int n) vs = .ok (.int (m - n)) vs := (rfl)
theorem o_mul (h : mulB m n = true) : gMul (.int m) (.int n) vs = .ok (.int (m * n)) vs := by
  show (if mulB m n = true then _ else _) = _
  rw [if_pos h]
theorem o_div (h0 : 0 < n) (h1 : n < 340282366920938463463374607431768211456) : gDiv (.int m) (.int n) vs = .ok (.int (m / n)) vs := by
  show (if divB m n = true then _ else _) = _
  rw [if_pos (divB_ok h0 h1)]
theorem o_mod (h0 : 0 < n) : gMod (.int m) (.int n) vs = .ok (.int (m % n)) vs := by
  show (if modB m n = true then _ else _) = _
  rw [if_pos (by unfold modB; exact decide_eq_true h0)]
theorem o_lt : gLt (.int m) (.int n) vs = .ok (.bool (decide (m < n))) vs := (rfl)
theorem o_le : gLe (.int m) (.int n) vs = .ok (.bool (decide (m ≤ n))) vs := (rfl)
theorem o_gt : gGt (.int m) (.int n) vs = .ok (.bool (decide (n < m))) vs := (rfl)
theorem o_ge : gGe (.int m) (.int n) vs = .ok (.bool (decide (n ≤ m))) vs := (rfl)
theorem o_eq : gEq false (.int m) (.int n) vs = .ok (.bool (decide (m = n))) vs := by
  unfold gEq
  simp [nod, shaped_int, PyData.eqv]
  by_cases e : m = n <;> simp [e]
theorem o_ne : gEq true (.int m) (.int n) vs = .ok (.bool (!decide (m = n))) vs := by
  unfold gEq
  simp [nod, shaped_int, PyData.eqv]
  by_cases e : m = n <;> simp [e]
theorem eq_fn {neg : Bool} (fx : Fn 64 x) (fy : Fn 64 y) : gEq neg x y vs = .ok (.bool (neg ^^ PyData.eqv x y)) vs := by
  unfold gEq
  rw [fx.n, fy.n, fx.shaped, fy.shaped]; rfl
theorem eq_same {neg : Bool} (fx : Fn 64 x) : gEq neg x x vs = .ok (.bool (!neg)) vs := by
  rw [eq_fn fx fx, eqv_refl x fx.n]
  cases neg <;> rfl
theorem o_neg : gNeg (.int m) vs = .ok (.int (-m)) vs := (rfl)
theorem o_len : gLen [.list xs] vs = .ok (.int xs.length) vs := (rfl)
theorem o_lent : gLen [.tuple xs] vs = .ok (.int xs.length) vs := (rfl)
theorem o_ix : gIx (.list xs) (.int m) vs = opt (atI xs m) (fun u => .ok u vs) .st := by
  show (match atI xs m with | some u => VR.ok u vs | none => .st) = _
  unfold opt
  cases atI xs m <;> rfl
theorem o_ixt : gIx (.tuple xs) (.int m) vs = opt (atI xs m) (fun u => .ok u vs) .st := by
  show (match atI xs m with | some u => VR.ok u vs | none => .st) = _
  unfold opt
  cases atI xs m <;> rfl
theorem o_ixO : gIxO (.list xs) (.int m) vs = opt (atI xs m) (fun u => .ok u vs) .st := by
  show (match atI xs m with | some u => VR.ok u vs | none => .st) = _
  unfold opt
  cases atI xs m <;> rfl
theorem o_cat (h : xs.length + ys.length < lim) : gCat bb (.list xs) (.list ys) vs = .ok (.list (xs ++ ys)) vs := by
  unfold gCat
  dsimp only
  rw [if_pos h]
theorem o_isN : gIsN x .none vs = .ok (.bool (isNo x)) vs := (rfl)
theorem o_notN : gNotN x .none vs = .ok (.bool (!isNo x)) vs := (rfl)
theorem o_min : gMin2 [.int m, .int n] vs = .ok (.int (if n < m then n else m)) vs := (rfl)
theorem o_max : gMax2 [.int m, .int n] vs = .ok (.int (if n > m then n else m)) vs := (rfl)
theorem o_abs : gAbs [.int m] vs = .ok (.int (if m < 0 then -m else m)) vs := (rfl)
theorem o_int : gInt [.int m] vs = .ok (.int m) vs := (rfl)
theorem o_intb : gInt [.bool bb] vs = .ok (.int (if bb = true then 1 else 0)) vs := (rfl)
theorem o_list : gList [.list xs] vs = .ok (.list xs) vs := (rfl)
theorem o_listt : gList [.tuple xs] vs = .ok (.list xs) vs := (rfl)
theorem o_tuple : gTuple [.list xs] vs = .ok (.tuple xs) vs := (rfl)
theorem o_sum {ns : List Int} : gSum [.list (ns.map PyData.int)] vs = .ok (.int ns.sum) vs := by
  unfold gSum
  dsimp only
  rw [intsD_ok]
theorem boolsD_ok : ∀ bs : List Bool, boolsD (bs.map PyData.bool) = some bs
  | [] => rfl
  | b :: bs => by
    show (boolsD (bs.map PyData.bool)).map (b :: ·) = _
    rw [boolsD_ok bs]; rfl
theorem o_bools {kb : List Bool → Bool} {bs : List Bool} : gBools kb [.list (bs.map PyData.bool)] vs = .ok (.bool (kb bs)) vs := by
  unfold gBools
  dsimp only
  rw [boolsD_ok]
theorem u_dct : fDct bb kk vs = .ok (.dict []) vs := (rfl)
theorem u_din {neg : Bool} : fDIn neg ga gb vs = (ga vs).bind fun x vs => (gb vs).bind fun y vs => dIn neg x y vs := (rfl)
theorem u_dget : fDGet ga gb vs = (ga vs).bind fun x vs => (gb vs).bind fun y vs => dGet x y vs := (rfl)
theorem o_din {neg : Bool} {key : Key} {l : List (Key × PyData)} : dIn neg (kD key) (.dict (dK l)) vs = .ok (.bool (neg ^^ (valL l key).isSome)) vs := by
  unfold dIn
  rw [keyP_kD]
  dsimp only
  rw [toM_dK]
theorem o_lenD {l : List (Key × PyData)} : gLenD [.dict (dK l)] vs = .ok (.int l.length) vs := by
  unfold gLenD
  dsimp only
  rw [toM_dK]
theorem o_dinL {neg : Bool} {key : Key} {l : List (Key × PyData)} : dIn neg (kD key) (lkd (dK l)) vs = .ok (.bool (neg ^^ (valL l key).isSome)) vs := by
  unfold dIn lkd
  rw [keyP_kD]
  dsimp only
  rw [toM_lk]
theorem o_lenDL {l : List (Key × PyData)} : gLenD [lkd (dK l)] vs = .ok (.int l.length) vs := by
  unfold gLenD lkd
  dsimp only
  rw [toM_lk]
theorem p_var : pVar vs = some [] := (rfl)
theorem p_ix {gp : VP} : pIx gp ga vs = opt (gp vs) (fun js => rv (ga vs) (fun x => gn x (fun j => some (js ++ [j])) none) none) none := by
  unfold pIx opt rv gn
  cases gp vs with
  | none => rfl
  | some js =>
    cases ga vs with
    | ok x vs' => cases x <;> rfl
    | rz c => rfl
    | st => rfl
theorem u_store {gp : VP} {gi ge : VE} : sStore i gp gi ge vs = (ge vs).thn vs fun x vs => opt (gp vs) (fun js => rv (gi vs) (fun w => gn w (fun j => gv vs[i]? (fun y => opt (getAt js y) (fun z => gl z (fun ds => opt (ixN ds.length j) (fun p => .nx (vs.set i (.v (putAt js (.list (ds.set p x)) y)))) .st) .st) .st) .st) .st) .st) .st := by
  unfold sStore opt rv gn gv gl
  congr 1
  funext x vs
  cases gp vs with
  | none => rfl
  | some js =>
    cases gi vs with
    | rz c => rfl
    | st => rfl
    | ok w vs' =>
      cases w <;> try rfl
      rename_i j
      rcases vs[i]? with _ | (_ | y | _ | _) <;> try rfl
      dsimp only
      cases getAt js y with
      | none => rfl
      | some z =>
        cases z <;> try rfl
        rename_i ds
        dsimp only
        cases ixN ds.length j <;> rfl
theorem u_augS {f : Int → Int → Int} {gp : VP} {gi ge : VE} : sAugS f i gp gi ge vs = opt (gp vs) (fun js => rv (gi vs) (fun w => gn w (fun j => gv vs[i]? (fun y => opt (getAt js y) (fun z => gl z (fun ds => opt (ixN ds.length j) (fun p => opt ds[p]? (fun d => gn d (fun a => rv (ge vs) (fun e => gn e (fun c => .nx (vs.set i (.v (putAt js (.list (ds.set p (.int (f a c)))) y)))) .st) .st) .st) .st) .st) .st) .st) .st) .st) .st) .st := by
  unfold sAugS opt rv gn gv gl
  cases gp vs with
  | none => rfl
  | some js =>
    cases gi vs with
    | rz c => rfl
    | st => rfl
    | ok w vs' =>
      cases w <;> try rfl
      rename_i j
      rcases vs[i]? with _ | (_ | y | _ | _) <;> try rfl
      dsimp only
      cases getAt js y with
      | none => rfl
      | some z =>
        cases z <;> try rfl
        rename_i ds
        dsimp only
        cases ixN ds.length j with
        | none => rfl
        | some p =>
          dsimp only
          cases ds[p]? with
          | none => rfl
          | some d =>
            cases d <;> try rfl
            dsimp only
            cases ge vs with
            | rz c => rfl
            | st => rfl
            | ok e vs2 => cases e <;> rfl
theorem u_app : fApp i ga vs = gv vs[i]? (fun y => gl y (fun _ => (ga vs).bind fun x vs1 => gv vs1[i]? (fun y => gl y (fun ds => capp ds.length (.ok .none (vs1.set i (.v (.list (ds ++ [x]))))) .st) .st) .st) .st) .st := by
  unfold fApp gv gl capp
  rcases vs[i]? with _ | (_ | y | _ | _) <;> try rfl
  cases y <;> try rfl
  dsimp only
  congr 1
  funext x vs1
  rcases vs1[i]? with _ | (_ | z | _ | _) <;> try rfl
  cases z <;> rfl
theorem u_mt {gp : VP} {kV : List PyData → List PyData → Option (List PyData × PyData)} : fMt i gp kV qa vs = gv vs[i]? (fun x => opt (gp vs) (fun js => opt (getAt js x) (fun z => gl z (fun ds => (qa vs).bind fun as vs => opt (kV ds as) (fun p => .ok p.2 (vs.set i (.v (putAt js (.list p.1) x)))) .st) .st) .st) .st) .st := by
  unfold fMt gv gl opt
  rcases vs[i]? with _ | (_ | y | _ | _) <;> try rfl
  cases gp vs with
  | none => rfl
  | some js =>
    dsimp only
    cases getAt js y with
    | none => rfl
    | some z =>
      cases z <;> try rfl
      dsimp only
      congr 1
      funext as vs
      cases kV _ as <;> rfl
theorem ge_nil : getAt [] x = some x := (rfl)
theorem ge_c {js : List Int} : getAt (m :: js) (.list xs) = opt (atI xs m) (getAt js) none := by
  show (match atI xs m with | some d => getAt js d | none => none) = _
  unfold opt
  cases atI xs m <;> rfl
theorem pt_nil : putAt [] y x = y := (rfl)
theorem u_dstore {gi ge : VE} : sDStore i gi ge vs = (ge vs).thn vs fun x vs => rv (gi vs) (fun y => opt (keyP y) (fun key => gv vs[i]? (fun z => match z with | .dict ps => opt (toL ps) (fun l => if l.length < 1000 then .nx (vs.set i (.v (.dict (dK (putL l key x))))) else .st) .st | _ => .st) .st) .st) .st := by
  unfold sDStore opt rv gv
  congr 1
  funext x vs
  cases gi vs with
  | rz c => rfl
  | st => rfl
  | ok y vs' =>
    dsimp only
    cases keyP y with
    | none => rfl
    | some key =>
      dsimp only
      rcases vs[i]? with _ | (_ | z | _ | _) <;> try rfl
      cases z <;> try rfl
      dsimp only
      cases toL _ <;> rfl
theorem u_aug {g : PyData → PyData → List VS → VR PyData} : sAug i g ga vs = gv vs[i]? (fun x => (ga vs).thn vs fun y vs => match g x y vs with | .ok z vs => .nx (vs.set i (.v z)) | _ => .st) .st := by
  unfold sAug gv
  rcases vs[i]? with _ | (_ | y | _ | _) <;> rfl
def rngq (ds : List PyData) (vs : List VS) : VR (List VI) := match ds with
  | [.int j] => if inB j = true then .ok (rngV 0 j.toNat) vs else .st
  | _ => .st
def rngq2 (ds : List PyData) (vs : List VS) : VR (List VI) := match ds with
  | [.int i, .int j] => if (inB i && inB j) = true then .ok (rngV i (j - i).toNat) vs else .st
  | _ => .st
theorem u_irng : iRng qa vs = (qa vs).bind rngq := (rfl)
theorem u_irng2 : iRng2 qa vs = (qa vs).bind rngq2 := (rfl)
theorem g1_ok (h0 : -1000000000 ≤ m) (h1 : m ≤ 1000000000) : rngq [.int m] vs = .ok (rngV 0 m.toNat) vs := by
  unfold rngq
  simp only [inB_lt h0 h1, if_true]
theorem g2_ok (h0 : -1000000000 ≤ m) (h1 : m ≤ 1000000000) (h2 : -1000000000 ≤ n) (h3 : n ≤ 1000000000) : rngq2 [.int m, .int n] vs = .ok (rngV m (n - m).toNat) vs := by
  unfold rngq2
  simp only [inB_lt h0 h1, inB_lt h2 h3, Bool.and_self, if_true]
theorem u_iseq : iSeq ga vs = (ga vs).bind fun x vs => gl x (fun ds => .ok (ds.map .one) vs) .st := by
  unfold iSeq gl
  congr 1
theorem u_itup : iTupl ga vs = (ga vs).bind fun x vs => match x with | .tuple ds => .ok (ds.map .one) vs | _ => .st := (rfl)
theorem u_ienu : iEnu qa vs = (qa vs).bind fun ds vs => match ds with | [.list xs] => .ok (enumV 0 xs) vs | _ => .st := (rfl)
theorem u_izip : iZip qa vs = (qa vs).bind fun ds vs => match ds with | [.list xs, .list ys] => .ok (zipV xs ys) vs | _ => .st := (rfl)
theorem rng_len {lo : Int} {n : Nat} : (rngV lo n).length = n := by unfold rngV; rw [List.length_map, List.length_range]
theorem u_for {gi : VSr} : sFor gi bd a vs = (gi vs).thn vs fun l vs => forV vs bd a l vs := (rfl)
theorem u_forVar : sForVar i bd a vs = gv vs[i]? (fun y => gl y (fun ds => forVarV vs i bd a ds.length 0 vs) .st) .st := by
  unfold sForVar gv gl
  rcases vs[i]? with _ | (_ | y | _ | _) <;> try rfl
  cases y <;> rfl
theorem u_forOwn : sForOwn i j a vs = gv vs[i]? (fun y => gl y (fun ds => forOwnV (vs.set i .un) i j a ds.length 0 (.list ds) (vs.set i .un)) .st) .st := by
  unfold sForOwn gv gl
  rcases vs[i]? with _ | (_ | y | _ | _) <;> try rfl
  cases y <;> rfl
theorem u_forF : sForF ga bd a vs = (ga vs).thn vs fun x vs => gl x (fun ds => forV vs bd a (ds.map .one) vs) .st := by
  unfold sForF gl
  congr 1
theorem u_while {fuel : Nat} : sWhile fuel gt a vs = whV vs gt a fuel vs := (rfl)
theorem u_lc {gi : VSr} {vx : List Nat} : fLc bb kk gi bd gt ga vx vs = (gi vs).bind fun its vs => lcEnd vs (lcV bd gt ga (wipeV vs vx) its) := (rfl)
theorem u_lcVar {vx : List Nat} : fLcVar bb kk i bd gt ga vx vs = gv vs[i]? (fun y => gl y (fun ds => lcEnd vs (lcV bd gt ga (wipeV vs vx) (ds.map .one))) .st) .st := by
  unfold fLcVar gv gl
  rcases vs[i]? with _ | (_ | y | _ | _) <;> try rfl
  cases y <;> rfl
theorem u_lcEV {vx : List Nat} : fLcEV bb kk i bd gt ga vx vs = gv vs[i]? (fun y => gl y (fun ds => lcEnd vs (lcV bd gt ga (wipeV vs vx) (enumV 0 ds))) .st) .st := by
  unfold fLcEV gv gl
  rcases vs[i]? with _ | (_ | y | _ | _) <;> try rfl
  cases y <;> rfl
theorem u_lcOwn {vx : List Nat} : fLcOwn bb kk i j gt ga vx vs = gv vs[i]? (fun y => gl y (fun ds => lcEnd vs (lcV (.nm j) gt ga (wipeV (vs.set i .un) vx) (ds.map .one))) .st) .st := by
  unfold fLcOwn gv gl
  rcases vs[i]? with _ | (_ | y | _ | _) <;> try rfl
  cases y <;> rfl
theorem u_lcMv {l p q : Nat} {vx : List Nat} : fLcMv l p q gt vx vs = gv vs[l]? (fun y => gl y (fun ds => lcEnd (vs.set l .un) (lcV (.tp [p, q]) gt (fVar q) (wipeV (vs.set l .un) vx) (enumV 0 ds))) .st) .st := by
  unfold fLcMv gv gl
  rcases vs[l]? with _ | (_ | y | _ | _) <;> try rfl
  cases y <;> rfl
theorem lcEnd_some {out : List PyData} (h : out.length ≤ 1000000) : lcEnd vs (some out) = .ok (.list out) vs := by
  unfold lcEnd
  dsimp only
  rw [if_pos h]
theorem f_nx {vs0 : List VS} {K : List VS → VO} : aftV vs0 (.nx vs) K = K (resetV vs0 vs) := (rfl)
theorem f_ct {vs0 : List VS} {K : List VS → VO} : aftV vs0 (.ct vs) K = K (resetV vs0 vs) := (rfl)
theorem f_bk {vs0 : List VS} {K : List VS → VO} : aftV vs0 (.bk vs) K = .nx (resetV vs0 vs) := (rfl)
theorem f_rt {vs0 : List VS} {K : List VS → VO} : aftV vs0 (.rt x) K = .rt x := (rfl)
theorem f_rz {vs0 : List VS} {K : List VS → VO} : aftV vs0 (.rz c vs) K = .rz c vs := (rfl)
theorem rs_un {v : VS} : resetV (.un :: vs) (v :: vs') = .un :: resetV vs vs' := (rfl)
theorem rs_v {v : VS} : resetV (.v x :: vs) (v :: vs') = v :: resetV vs vs' := (rfl)
theorem rs_sc {v : VS} {ns : List Int} : resetV (.sc ns :: vs) (v :: vs') = v :: resetV vs vs' := (rfl)
theorem rs_nil : resetV [] vs = vs := by unfold resetV; rfl
end
section
variable {bd : Bd} {body : VF} {vs0 : List VS} {gt : VT} {ge : VE} {vw : List VS}
def turnV (vs0 : List VS) (bd : Bd) (body : VF) (it : VI) (vs : List VS) (K : List VS → VO) : VO := match goV bd it vs with
  | none => .st
  | some vs1 => aftV vs0 (body vs1) K
theorem for_c {it : VI} {its : List VI} {vs : List VS} : forV vs0 bd body (it :: its) vs = turnV vs0 bd body it vs (forV vs0 bd body its) := (rfl)
theorem for_run {f : Nat → List VS} : ∀ {its : List VI} {i : Nat}, (∀ (j : Nat) (it : VI), its[j]? = some it → ∀ K, turnV vs0 bd body it (f (i + j)) K = K (f (i + j + 1))) → forV vs0 bd body its (f i) = .nx (f (i + its.length))
  | [], i, _ => rfl
  | it :: its, i, h => by
    have h0 := h 0 it rfl
    rw [Nat.add_zero] at h0
    rw [for_c, h0, for_run (i := i + 1) fun j it e K => by
      have := h (j + 1) it e K
      rw [show i + (j + 1) = i + 1 + j from by omega] at this
      exact this]
    congr 2
    rw [List.length_cons]; omega
theorem for_rng {f : Nat → List VS} {lo : Int} {n : Nat} (h : ∀ i, i < n → ∀ K, turnV vs0 bd body (.one (.int (lo + (i : Nat)))) (f i) K = K (f (i + 1))) : forV vs0 bd body (rngV lo n) (f 0) = .nx (f n) := by
  rw [for_run (i := 0) fun j it e K => ?_, rng_len, Nat.zero_add]
  unfold rngV at e
  rw [List.getElem?_map] at e
  cases q : (List.range n)[j]? with
  | none => rw [q] at e; cases e
  | some m =>
    rw [q] at e
    cases e
    obtain ⟨hj, hm⟩ := List.getElem?_eq_some_iff.mp q
    rw [List.length_range] at hj
    rw [List.getElem_range] at hm
    subst hm
    rw [Nat.zero_add]
    exact h j hj K
theorem for_inv {P : Nat → List VS → Prop} : ∀ {its : List VI} {i : Nat} {vs : List VS}, P i vs → (∀ (j : Nat) (it : VI) (vs : List VS), its[j]? = some it → P (i + j) vs → ∃ vs', P (i + j + 1) vs' ∧ ∀ K, turnV vs0 bd body it vs K = K vs') → ∃ vs', P (i + its.length) vs' ∧ forV vs0 bd body its vs = .nx vs'
  | [], i, vs, p, _ => ⟨vs, p, rfl⟩
  | it :: its, i, vs, p, h => by
    obtain ⟨vs1, p1, e1⟩ := h 0 it vs rfl p
    obtain ⟨vs2, p2, e2⟩ := for_inv (i := i + 1) p1 fun j it vs e q => by
      obtain ⟨vs', q', e'⟩ := h (j + 1) it vs e (by rw [show i + (j + 1) = i + 1 + j from by omega]; exact q)
      exact ⟨vs', by rw [show i + 1 + j + 1 = i + (j + 1) + 1 from by omega]; exact q', e'⟩
    refine ⟨vs2, by rw [List.length_cons, show i + (its.length + 1) = i + 1 + its.length from by omega]; exact p2, ?_⟩
    rw [for_c, e1, e2]
def lc1 (bd : Bd) (gt : VT) (ge : VE) (vw : List VS) (it : VI) : Option (Option PyData) := match goV bd it vw with
  | none => none
  | some vs1 => match gt vs1 with
    | .ok true _ => rv (ge vs1) (fun x => some (some x)) none
    | .ok false _ => some none
    | _ => none
theorem fm_some {α γ : Type} {f : α → γ} : ∀ l : List α, l.filterMap (fun x => some (f x)) = l.map f
  | [] => rfl
  | a :: l => by rw [List.filterMap_cons, List.map_cons, fm_some l]
def rt {β : Type} (r : VR Bool) (k : Bool → β) (z : β) : β := match r with
  | .ok b _ => k b
  | _ => z
theorem rt_k {β : Type} {b : Bool} {vs : List VS} {k : Bool → β} {z : β} : rt (.ok b vs) k z = k b := (rfl)
theorem lc1_eq {it : VI} : lc1 bd gt ge vw it = opt (goV bd it vw) (fun vs1 => rt (gt vs1) (fun b => if b = true then rv (ge vs1) (fun x => some (some x)) none else some none) none) none := by
  unfold lc1 opt rt
  cases goV bd it vw with
  | none => rfl
  | some vs1 =>
    dsimp only
    cases gt vs1 with
    | ok b v => cases b <;> rfl
    | rz c => rfl
    | st => rfl
theorem turn_eq {it : VI} {vs : List VS} {K : List VS → VO} : turnV vs0 bd body it vs K = opt (goV bd it vs) (fun vs1 => aftV vs0 (body vs1) K) .st := by
  unfold turnV opt
  cases goV bd it vs <;> rfl
theorem fm_filter {α γ : Type} {t : α → Bool} {g : α → γ} : ∀ l : List α, l.filterMap (fun x => if t x = true then some (g x) else none) = (l.filter t).map g
  | [] => rfl
  | a :: l => by
    rw [List.filterMap_cons, List.filter_cons]
    by_cases h : t a = true
    · rw [if_pos h, if_pos h, List.map_cons, fm_filter l]
    · rw [if_neg h, if_neg h, fm_filter l]
theorem lc_list {α : Type} {w : α → VI} {o : α → Option PyData} : ∀ (l : List α), (∀ a ∈ l, lc1 bd gt ge vw (w a) = some (o a)) → lcV bd gt ge vw (l.map w) = some (l.filterMap o)
  | [], _ => rfl
  | a :: l, h => by
    have r := lc_list l fun a m => h a (List.mem_cons_of_mem _ m)
    have e := h a List.mem_cons_self
    rw [List.map_cons, List.filterMap_cons]
    unfold lcV
    unfold lc1 at e
    split at e
    · cases e
    · rename_i vs1 hg
      try rw [hg]
      try dsimp only
      split at e
      · rename_i v2 ht
        try rw [ht]
        try dsimp only
        unfold rv at e
        split at e
        · rename_i x v3 hx
          try rw [hx]
          try dsimp only
          rw [r]
          try dsimp only
          have e := Option.some.inj e
          rw [← e]
        · cases e
      · rename_i v2 ht
        try rw [ht]
        try dsimp only
        rw [r]
        have e := Option.some.inj e
        rw [← e]
      · cases e
theorem lc_lflt {α : Type} {w : α → VI} {t : α → Bool} {o : α → PyData} {l : List α} (h : ∀ a ∈ l, lc1 bd gt ge vw (w a) = some (if t a = true then some (o a) else none)) : lcV bd gt ge vw (l.map w) = some ((l.filter t).map o) := by
  rw [lc_list l (o := fun a => if t a = true then some (o a) else none) h, fm_filter]
theorem lc_lmap {α : Type} {w : α → VI} {o : α → PyData} {l : List α} (h : ∀ a ∈ l, lc1 bd gt ge vw (w a) = some (some (o a))) : lcV bd gt ge vw (l.map w) = some (l.map o) := by
  rw [lc_list l (o := fun a => some (o a)) h, fm_some]
theorem at_rng {α : Type} {F : Nat → α} {p n : Nat} (h : p < n) : atI ((List.range n).map F) (p : Int) = some (F p) := by
  rw [atI_0 (by omega), List.getElem?_map, Int.toNat_natCast, List.getElem?_range h]; rfl
theorem o_dini {neg : Bool} {m : Int} {l : List (Key × PyData)} {vs : List VS} : dIn neg (.int m) (.dict (dK l)) vs = .ok (.bool (neg ^^ (valL l (.inl m)).isSome)) vs := o_din (key := .inl m)
theorem for_rngE {f : Nat → List VS} {lo : Int} {n : Nat} {vs : List VS} (h0 : f 0 = vs) (h : ∀ i, i < n → ∀ K, turnV vs0 bd body (.one (.int (lo + (i : Nat)))) (f i) K = K (f (i + 1))) : forV vs0 bd body (rngV lo n) vs = .nx (f n) := by
  subst h0
  exact for_rng h
theorem for_runE {f : Nat → List VS} {its : List VI} {vs : List VS} (h0 : f 0 = vs) (h : ∀ (j : Nat) (it : VI), its[j]? = some it → ∀ K, turnV vs0 bd body it (f j) K = K (f (j + 1))) : forV vs0 bd body its vs = .nx (f its.length) := by
  subst h0
  have := for_run (i := 0) (f := f) (its := its) (vs0 := vs0) (bd := bd) (body := body) fun j it e K => by rw [Nat.zero_add]; exact h j it e K
  rw [Nat.zero_add] at this
  exact this
theorem rng_mem {lo : Int} {n : Nat} {it : VI} (h : it ∈ rngV lo n) : ∃ i, i < n ∧ it = .one (.int (lo + (i : Nat))) := by
  obtain ⟨i, hi, rfl⟩ := List.mem_map.mp h
  exact ⟨i, List.mem_range.mp hi, rfl⟩
end
end Zx.V
namespace Zx.V
open PySem PySem.Spec L2
theorem leaf_noEx {b : Bool} {s : SV} {x : PyData} (l : leaf b s x) : noEx s = true := by
  rcases l with rfl | ⟨_, rfl⟩
  · rfl
  · unfold mkv; split <;> rfl
theorem RV.noEx {h : AH} {b : Bool} {k : Nat} {s : SV} {x : PyData} {f : List Nat} (r : RV h b k s x f) : Zx.noEx s = true := by
  cases k with
  | zero => exact leaf_noEx r.2
  | succ k =>
    unfold RV at r
    rcases r with r | ⟨n, xs, ds, fs, rfl, _⟩ | ⟨n, xs, ds, fs, rfl, _⟩ | ⟨n, xs, ds, fs, rfl, _⟩
    · exact leaf_noEx r.2.1
    · rfl
    · rfl
    · rfl
theorem fa3_noEx {h : AH} {b : Bool} {k : Nat} : ∀ {xs : List SV} {ds : List PyData} {fs : List (List Nat)}, Fa3 (RV h b k) xs ds fs → xs.all Zx.noEx = true
  | [], [], [], _ => rfl
  | a :: as, d :: ds, f :: fs, ⟨r, q⟩ => by rw [List.all_cons, RV.noEx r, fa3_noEx q]; rfl
  | [], [], c :: cs, h => h.elim
  | [], b :: bs, [], h => h.elim
  | [], b :: bs, c :: cs, h => h.elim
  | a :: as, [], [], h => h.elim
  | a :: as, [], c :: cs, h => h.elim
  | a :: as, b :: bs, [], h => h.elim
theorem RV.cell {h : AH} {b : Bool} : ∀ {k : Nat} {s : SV} {x : PyData} {f : List Nat}, RV h b k s x f → ∀ n ∈ f, ∃ o, h[n]? = some o ∧ noExO o = true
  | 0, s, x, f, r, n, m => by rw [r.1] at m; cases m
  | k + 1, s, x, f, r, n, m => by
    unfold RV at r
    rcases r with r | ⟨n', xs, ds, fs, rfl, hn, rfl, rfl, r⟩ | ⟨n', xs, ds, fs, rfl, hn, rfl, rfl, r⟩ | ⟨n', xs, ds, fs, rfl, hn, rfl, rfl, r⟩
    · rw [r.1] at m; cases m
    · rcases List.mem_cons.mp m with rfl | m
      · exact ⟨_, hn, fa3_noEx r⟩
      · obtain ⟨l, hl, hm⟩ := List.mem_flatten.mp m
        obtain ⟨a, d, _, _, p⟩ := Fa3.mem r hl
        exact RV.cell p n hm
    · rcases List.mem_cons.mp m with rfl | m
      · exact ⟨_, hn, fa3_noEx r⟩
      · obtain ⟨l, hl, hm⟩ := List.mem_flatten.mp m
        obtain ⟨a, d, _, _, p⟩ := Fa3.mem r hl
        exact RV.cell p n hm
    · rcases List.mem_cons.mp m with rfl | m
      · exact ⟨_, hn.1, fa3_noEx r⟩
      · obtain ⟨l, hl, hm⟩ := List.mem_flatten.mp m
        obtain ⟨a, d, _, _, p⟩ := Fa3.mem r hl
        exact RV.cell p n hm
theorem RV.c1 {h : AH} {b q : Bool} {k : Nat} {s : SV} {x : PyData} {f : List Nat} (r : RV h b k s x f) : Zx.c1 q s = s := by
  unfold Zx.c1; split
  · exact clnS_ok r.noEx
  · rfl
def clnV : VS → VS
  | .ex _ => .un
  | v => v
def endedAs (i : Nat) (o : VO) : VO := match o with
  | .nx vs => .nx ((vs.set i .un).map clnV)
  | .bk vs => .bk ((vs.set i .un).map clnV)
  | .ct vs => .ct ((vs.set i .un).map clnV)
  | .rt x => .rt x
  | _ => .st
def endedO (o : VO) : VO := match o with
  | .nx vs => .nx (vs.map clnV)
  | .bk vs => .bk (vs.map clnV)
  | .ct vs => .ct (vs.map clnV)
  | .rt x => .rt x
  | _ => .st
def sTryAs (i : Nat) (k : Str → Option Bool) (gb : VF) (gh : Str → VF) : VF := fun vs => match gb vs with
  | .rz c vs1 => match k c with
    | some true => endedAs i (gh c (vs1.set i (.ex c)))
    | some false => .rz c vs1
    | none => .st
  | o => o
def sTryO (k : Str → Option Bool) (gb : VF) (gh : Str → VF) : VF := fun vs => match gb vs with
  | .rz c vs1 => match k c with
    | some true => endedO (gh c vs1)
    | some false => .rz c vs1
    | none => .st
  | o => o
section
variable {D : List KD} {A A1 A2 : List Nat} {rb : Bool} {rk : Nat} {i : Nat} {kd : KD} {fb : FS} {gb : VF} {fh : Str → FS} {gh : Str → VF} {kk : Str → Option Bool}
def fExI (ob : Option Bool) (i : Nat) : VE := fun vs => match vs[i]? with
  | some (.ex _) => match ob with
    | some b => .ok (.bool b) vs
    | none => .st
  | _ => .st
def gLRev : PyData → List VS → VR PyData := fun x vs => match x with
  | .list ds => .ok (.list ds.reverse) vs
  | _ => .st
end
section
variable {i : Nat} {k : Str → Option Bool} {gb : VF} {gh : Str → VF} {vs : List VS} {c : Str} {b : Bool} {x : PyData} {ds : List PyData}
def VO.tryA (i : Nat) (k : Str → Option Bool) (gh : Str → VF) (o : VO) : VO := match o with
  | .rz c vs1 => match k c with
    | some true => endedAs i (gh c (vs1.set i (.ex c)))
    | some false => .rz c vs1
    | none => .st
  | o => o
def VO.tryO (k : Str → Option Bool) (gh : Str → VF) (o : VO) : VO := match o with
  | .rz c vs1 => match k c with
    | some true => endedO (gh c vs1)
    | some false => .rz c vs1
    | none => .st
  | o => o
theorem u_tryAs : sTryAs i k gb gh vs = VO.tryA i k gh (gb vs) := by
  unfold sTryAs VO.tryA
  generalize gb vs = o
  cases o <;> rfl
theorem u_tryO : sTryO k gb gh vs = VO.tryO k gh (gb vs) := by
  unfold sTryO VO.tryO
  generalize gb vs = o
  cases o <;> rfl
theorem tA_nx : VO.tryA i k gh (.nx vs) = .nx vs := (rfl)
theorem tA_bk : VO.tryA i k gh (.bk vs) = .bk vs := (rfl)
theorem tA_ct : VO.tryA i k gh (.ct vs) = .ct vs := (rfl)
theorem tA_rt : VO.tryA i k gh (.rt x) = .rt x := (rfl)
theorem tO_nx : VO.tryO k gh (.nx vs) = .nx vs := (rfl)
theorem tO_bk : VO.tryO k gh (.bk vs) = .bk vs := (rfl)
theorem tO_ct : VO.tryO k gh (.ct vs) = .ct vs := (rfl)
theorem tO_rt : VO.tryO k gh (.rt x) = .rt x := (rfl)
theorem eA_rt : endedAs i (.rt x) = .rt x := (rfl)
theorem eO_rt : endedO (.rt x) = .rt x := (rfl)
theorem vk_1 {r : List (Str × Bool)} : lk c ((c, b) :: r) = some b := by unfold lk; rw [if_pos rfl]
def exv (b : Bool) (vs : List VS) (o : Option VS) : VR PyData := match o with
  | some (.ex _) => .ok (.bool b) vs
  | _ => .st
theorem u_exi : fExI (some b) i vs = exv b vs vs[i]? := (rfl)
theorem exv_ex : exv b vs (some (.ex c)) = .ok (.bool b) vs := (rfl)
theorem vAny_0 : lkAny [] = some false := (rfl)
theorem vAny_t {r : List (Option Bool)} : lkAny (some true :: r) = some true := (rfl)
theorem vAny_f {r : List (Option Bool)} : lkAny (some false :: r) = lkAny r := by
  conv => lhs; unfold lkAny
theorem o_lrev : gLRev (.list ds) vs = .ok (.list ds.reverse) vs := (rfl)
end
end Zx.V
namespace Zx.V
open PySem PySem.Spec L2
open Zx (SV AO AH FE FA FT FS Md Bd It1 Src O RpS En Wd inB iAdd iSub imm immL nod mulB divB modB powB lim flatD flatL isTy cutX kD opt eI eG Fn FnL Fn_int Fn_lst FnL_nil FnL_map eqv_nil)
section
variable {bd : Bd} {body : VF} {vs0 vs : List VS} {gt : VT} {o : VO}
theorem for_inv' {its : List VI} (e : forV vs0 bd body its vs = o) {P : Nat → List VS → Prop} (p : P 0 vs) (h : ∀ (j : Nat) (it : VI) (vs : List VS), its[j]? = some it → P j vs → ∃ vs', P (j + 1) vs' ∧ ∀ K, turnV vs0 bd body it vs K = K vs') : ∃ vs', o = .nx vs' ∧ P its.length vs' := by
  obtain ⟨v, r, q⟩ := for_inv (vs0 := vs0) (bd := bd) (body := body) (i := 0) (its := its) (P := P) p fun j it vs e q => by
    rw [Nat.zero_add] at q ⊢
    exact h j it vs e q
  rw [Nat.zero_add] at r
  exact ⟨v, e.symm.trans q, r⟩
end
theorem pureL_imm : ∀ {ds : List PyData}, (∀ d ∈ ds, imm d = true) → pureL 0 ds = true
  | [], _ => by unfold pureL; rfl
  | d :: ds, h => by
    unfold pureL pureK
    rw [h d List.mem_cons_self, pureL_imm fun x m => h x (List.mem_cons_of_mem _ m)]; rfl
theorem pure_lst {ds : List PyData} (h : ∀ d ∈ ds, imm d = true) : pureK 1 (.list ds) = true := by
  unfold pureK
  exact pureL_imm h
theorem keyP_i {i : Int} : keyP (.int i) = some (.inl i) := (rfl)
theorem at_c0 {α : Type} {x : α} {xs : List α} : atI (x :: xs) 0 = some x := by
  unfold atI ixN
  rw [if_pos (by decide), if_pos (by rw [List.length_cons]; omega)]; rfl
theorem at_c1 {α : Type} {x y : α} {xs : List α} : atI (x :: y :: xs) 1 = some y := by
  unfold atI ixN
  rw [if_pos (by decide), if_pos (by rw [List.length_cons, List.length_cons]; omega)]; rfl
theorem at_c2 {α : Type} {x y z : α} {xs : List α} : atI (x :: y :: z :: xs) 2 = some z := by
  unfold atI ixN
  rw [if_pos (by decide), if_pos (by rw [List.length_cons, List.length_cons, List.length_cons]; omega)]; rfl
theorem imm_int {i : Int} : imm (.int i) = true := by unfold imm; rfl
end Zx.V
namespace Zx.V
open PySem PySem.Spec L2
open Zx (SV AO AH FE FA FT FS Md Bd It1 Src O RpS En Wd inB iAdd iSub imm immL nod mulB divB modB powB lim flatD flatL isTy cutX kD opt allD allI)
theorem rv_d {h : AH} {b : Bool} {k : Nat} {y x : PyData} {f : List Nat} (r : RV h b k (.d y) x f) : x = y := by
  have l : leaf b (.d y) x := by
    cases k with
    | zero => exact r.2
    | succ k =>
      unfold RV at r
      rcases r with r | ⟨_, _, _, _, e, _⟩ | ⟨_, _, _, _, e, _⟩ | ⟨_, _, _, _, e, _⟩
      · exact r.2.1
      · cases e
      · cases e
      · cases e
  rcases l with e | ⟨_, e⟩
  · exact (SV.d.inj e).symm
  · unfold mkv at e
    split at e
    · exact (SV.d.inj e).symm
    · cases e
theorem fa_allD_eq {h : AH} {b : Bool} {k : Nat} : ∀ {ss : List SV} {xs : List PyData} {fs : List (List Nat)} {ds : List PyData}, Fa3 (RV h b k) ss xs fs → allD ss = some ds → ds = xs
  | [], [], [], ds, _, e => by cases e; rfl
  | s :: ss, x :: xs, f :: fs, ds, ⟨r, q⟩, e => by
    cases s with
    | d y =>
      unfold allD at e
      cases e2 : allD ss with
      | none => rw [e2] at e; cases e
      | some d2 =>
        rw [e2] at e
        cases e
        rw [rv_d r, fa_allD_eq q e2]
    | un => cases e
    | vw y => cases e
    | r n => cases e
    | sc n => cases e
    | ex n => cases e
  | [], [], c :: cs, _, h, _ => h.elim
  | [], b :: bs, [], _, h, _ => h.elim
  | [], b :: bs, c :: cs, _, h, _ => h.elim
  | a :: as, [], [], _, h, _ => h.elim
  | a :: as, [], c :: cs, _, h, _ => h.elim
  | a :: as, b :: bs, [], _, h, _ => h.elim
theorem fa_imm {h : AH} {b : Bool} {k : Nat} : ∀ {ss : List SV} {xs : List PyData} {fs : List (List Nat)}, Fa3 (RV h b k) ss xs fs → immL xs = true → allD ss = some xs
  | [], [], [], _, _ => rfl
  | s :: ss, x :: xs, f :: fs, ⟨r, q⟩, e => by
    unfold immL at e
    rw [Bool.and_eq_true] at e
    obtain ⟨rfl, _⟩ := r.imm e.1
    unfold allD
    rw [fa_imm q e.2]; rfl
  | [], [], c :: cs, h, _ => h.elim
  | [], b :: bs, [], h, _ => h.elim
  | [], b :: bs, c :: cs, h, _ => h.elim
  | a :: as, [], [], h, _ => h.elim
  | a :: as, [], c :: cs, h, _ => h.elim
  | a :: as, b :: bs, [], h, _ => h.elim
section
variable {D : List KD} {b b1 fr fr1 : Bool} {k k1 : Nat} {fa : FE} {ga : VE} {ra : FA} {qa : VA}
theorem ev_tupO (ha : AF D b k ra qa) : EV D b (k + 1) fr (Zx.fTupO ra) (fTup qa) := by
  intro h sl vs fs R nd
  refine (ha h sl vs fs R nd).pe fun xs ss t r => ?_
  obtain ⟨fps, r, n, z⟩ := r
  show OutE _ _ _ _ _ _ (if xs.length ≤ 1000 then .ok (.tuple xs) vs else .st) (if ss.length ≤ 1000 then (match allI ss with | some ds => .ok (.d (.tuple ds)) (h ++ t) | none => .ok (.r (h ++ t).length) (h ++ t ++ [some (.tup ss)])) else .st)
  have hl := r.len.1
  rw [hl]
  split
  · cases ei : allI ss with
    | some ds =>
      dsimp only
      unfold allI at ei
      split at ei
      · rename_i d2 hd
        split at ei
        · rename_i hi
          cases ei
          have := fa_allD_eq r hd
          rw [this] at hi ⊢
          exact OutE.dd (by show (!immL xs) = false; rw [hi]; rfl)
        · cases ei
      · cases ei
    | none =>
      dsimp only
      have hi : immL xs = false := by
        cases c : immL xs with
        | false => rfl
        | true =>
          unfold allI at ei
          rw [fa_imm r c] at ei
          dsimp only at ei
          rw [if_pos c] at ei
          cases ei
      refine ⟨rfl, _, [some (.tup ss)], (h ++ t).length :: fps.flatten, rfl, ?_, ?_, fun _ n m => ?_⟩
      · refine RV.ofT ?_ hi (Fa3.imp (cs0 := fps) (fun _ _ _ _ p => RV.app p) (fun _ m => m) r)
        rw [List.getElem?_append_right (Nat.le_refl _), Nat.sub_self]; rfl
      · rw [List.nodup_cons]
        refine ⟨fun m => ?_, n⟩
        obtain ⟨l, hl, hm⟩ := List.mem_flatten.mp m
        obtain ⟨a, d, _, _, p⟩ := Fa3.mem r hl
        exact Nat.lt_irrefl _ (p.lt _ hm)
      · rcases List.mem_cons.mp m with rfl | m
        · rw [List.length_append]; omega
        · exact z n m
  · trivial
theorem u_dctO {gb : VE} {vs : List VS} : fDctO ga gb vs = (ga vs).bind fun x vs => (gb vs).bind fun y vs => opt (keyP x) (fun key => .ok (.dict [(kD key, y)]) vs) .st := by
  unfold fDctO opt
  congr 1
  funext x vs
  congr 1
  funext y vs
  cases keyP x <;> rfl
theorem o_ixOt {xs : List PyData} {m : Int} {vs : List VS} : gIxO (.tuple xs) (.int m) vs = opt (atI xs m) (fun u => .ok u vs) .st := by
  show (match atI xs m with | some u => VR.ok u vs | none => .st) = _
  unfold opt
  cases atI xs m <;> rfl
theorem ge_t {js : List Int} {xs : List PyData} {m : Int} (h : immL xs = false) : getAt (m :: js) (.tuple xs) = opt (atI xs m) (getAt js) none := by
  show (if immL xs = false then (match atI xs m with | some d => getAt js d | none => none) else none) = _
  rw [if_pos h]
  unfold opt
  cases atI xs m <;> rfl
theorem ev_immK (e : EV D b1 k1 fr1 fa ga) : EV D b k fr fa (fImm ga) := by
  intro h sl vs fs R nd
  have o := e h sl vs fs R nd
  unfold fImm
  generalize ga vs = r at o ⊢
  generalize fa sl h = q at o ⊢
  cases r with
  | ok x vs' =>
    obtain ⟨rfl, s, t, fp, rfl, h3, h4, _⟩ := o
    show OutE _ _ _ _ _ _ (if imm x = true then .ok x vs' else .st) _
    split
    · rename_i c
      obtain ⟨rfl, rfl⟩ := h3.imm c
      refine ⟨rfl, .d x, t, [], rfl, RV.dk ?_, List.nodup_nil, fun _ _ m => by cases m⟩
      cases x with
      | tuple ds =>
        unfold Zx.imm at c
        show (!immL ds) = false
        rw [c]; rfl
      | list _ => unfold Zx.imm at c; cases c
      | dict _ => unfold Zx.imm at c; cases c
      | _ => rfl
    · trivial
  | rz c => exact o
  | st => trivial
end
def forOwnPV (vs0 : List VS) (l i : Nat) (js : List Int) (body : VF) : Nat → Nat → PyData → List VS → VO
  | 0, j, y, vs => match getAt js y with
    | some (.list ds) => if ds.length ≤ j then .nx (vs.set l (.v y)) else .st
    | _ => .st
  | c + 1, j, y, vs => match getAt js y with
    | some (.list ds) => match atI ds (j : Int) with
      | none => .st
      | some x => match body (vs.set i (.v x)) with
        | .nx vs' => match vs'[i]? with
          | some (.v x') => forOwnPV vs0 l i js body c (j + 1) (putAt js (.list (ds.set j x')) y) (resetV vs0 (vs'.set i .un))
          | _ => .st
        | .ct vs' => match vs'[i]? with
          | some (.v x') => forOwnPV vs0 l i js body c (j + 1) (putAt js (.list (ds.set j x')) y) (resetV vs0 (vs'.set i .un))
          | _ => .st
        | .bk vs' => match vs'[i]? with
          | some (.v x') => .nx ((resetV vs0 (vs'.set i .un)).set l (.v (putAt js (.list (ds.set j x')) y)))
          | _ => .st
        | .rt x => .rt x
        | _ => .st
    | _ => .st
def sForOwnP (l i : Nat) (js : List Int) (body : VF) : VF := fun vs => match vs[l]? with
  | some (.v y) => match getAt js y with
    | some (.list ds) => forOwnPV (vs.set l .un) l i js body ds.length 0 y (vs.set l .un)
    | _ => .st
  | _ => .st
section
variable {D : List KD} {A : List Nat} {rb : Bool} {rk : Nat} {b : Bool} {k i j n m : Nat} {h0 h : AH} {fs0 fs : List (List Nat)} {sl sl0 : List SV} {vs vs0 : List VS} {f : FS} {g : VF} {js : List Int}
end
theorem u_forOwnP {l i : Nat} {js : List Int} {a : VF} {vs : List VS} : sForOwnP l i js a vs = gv vs[l]? (fun y => opt (getAt js y) (fun z => gl z (fun ds => forOwnPV (vs.set l .un) l i js a ds.length 0 y (vs.set l .un)) .st) .st) .st := by
  unfold sForOwnP gv gl opt
  rcases vs[l]? with _ | (_ | y | _ | _) <;> try rfl
  dsimp only
  cases getAt js y with
  | none => rfl
  | some z => cases z <;> rfl
end Zx.V
namespace Zx.V
open PySem PySem.Spec L2
open Zx (SV AO AH FE FA FT FS Md Bd It1 Src O RpS En Wd inB iAdd iSub imm immL nod mulB divB modB powB lim flatD flatL isTy cutX kD opt allD allI lstOf)
def AX (D KL : List KD) (f : FA) (g : VA) : Prop := ∀ (h : AH) (sl : List SV) (vs : List VS) (fs : List (List Nat)), RSt h D sl vs fs → fs.flatten.Nodup → match g vs with
  | .ok ds vs' => ∃ ss h' fs' fps, f sl h = .ok ss h' ∧ Good D h fs h' sl vs' fs' ∧ RSt h' KL ss (ds.map VS.v) fps ∧ fps.flatten.Nodup ∧ (∀ n ∈ fps.flatten, n ∉ fs'.flatten) ∧ ∀ n ∈ fps.flatten, n ∈ fs.flatten ∨ h.length ≤ n
  | .rz c => ∃ t, f sl h = .rz c (h ++ t)
  | .st => True
def fConsX (ga : VE) (gr : VA) : VA := fun vs => (ga vs).bind fun x vs => match gr vs with
  | .ok xs vs => .ok (x :: xs) vs
  | _ => .st
def fCallRV (N : Nat) (g : VF) (qa : VA) : VE := fun vs => (qa vs).bind fun ds vs => match g (ds.map VS.v ++ List.replicate (N - ds.length) .un) with
  | .rt x => .ok x vs
  | .nx _ => .ok .none vs
  | _ => .st
section
variable {D K KL KR : List KD} {A : List Nat} {b b1 fr : Bool} {k rk np N : Nat} {fa : FE} {ga : VE} {ra : FA} {qa : VA} {f : FS} {g : VF}
theorem ax_nil : AX D [] Zx.fNil fNil := fun h sl vs fs R nd => ⟨[], h, fs, [], rfl, Good.refl R nd, ⟨rfl, rfl, rfl⟩, List.nodup_nil, fun _ m => (by cases m), fun _ m => (by cases m)⟩
theorem ax_cons (ha : XV D b1 k fa ga) (hr : AX D KL ra qa) (hb : (!b1 || b) = true := by decide) : AX D ((b, k) :: KL) (Zx.fCons fa ra) (fConsX ga qa) := by
  intro h sl vs fs R nd
  have o := ha h sl vs fs R nd
  unfold fConsX Zx.fCons
  generalize ga vs = r at o ⊢
  generalize fa sl h = q at o ⊢
  cases r with
  | st => trivial
  | rz c =>
    obtain ⟨t, rfl⟩ := o
    exact ⟨t, rfl⟩
  | ok x vs1 =>
    obtain ⟨s, h1, fs1, fp, rfl, G, r, n, d, od⟩ := o
    have o2 := hr h1 sl vs1 fs1 G.R G.nd
    dsimp only [VR.bind, Zx.R.bind]
    generalize qa vs1 = r2 at o2 ⊢
    generalize ra sl h1 = q2 at o2 ⊢
    cases r2 with
    | st => trivial
    | rz c => trivial
    | ok xs vs2 =>
      obtain ⟨ss, h2, fs2, fps, rfl, G2, R2, n2, d2, od2⟩ := o2
      dsimp only
      have lt : ∀ a ∈ fp, a < h1.length := fun a m => r.lt a m
      refine ⟨s :: ss, h2, fs2, fp :: fps, rfl, G.trans G2, ⟨s, ss, .v x, xs.map VS.v, fp, fps, rfl, rfl, rfl, ?_, R2⟩, ?_, fun a m => ?_, fun a m => ?_⟩
      · exact (r.bm hb).frame fun a m => G2.fr a (lt a m) (d a m)
      · rw [List.flatten_cons, List.nodup_append]
        refine ⟨n, n2, fun a ha c hc e => ?_⟩
        subst e
        rcases od2 a hc with z | z
        · exact d a ha z
        · exact absurd (lt a ha) (by omega)
      · rcases List.mem_append.mp m with m | m
        · intro z
          rcases G2.old a z with z | z
          · exact d a m z
          · exact absurd (lt a m) (by omega)
        · exact d2 a m
      · rcases List.mem_append.mp m with m | m
        · exact od a m
        · rcases od2 a m with z | z
          · exact G.old a z
          · exact .inr (Nat.le_trans G.le z)
end
theorem cut_lo {α : Type} {xs : List α} {a : Int} (h : 0 ≤ a) : cutX xs none (some a) = xs.take a.toNat := by
  unfold cutX HT.sIx
  simp only [List.drop_zero, Nat.sub_zero]
  have : ¬ a < 0 := by omega
  simp only [this, if_false]
  rw [List.take_eq_take_iff]
  omega
theorem cut_hi {α : Type} {xs : List α} {a : Int} (h : 0 ≤ a) : cutX xs (some a) none = xs.drop a.toNat := by
  unfold cutX HT.sIx
  have : ¬ a < 0 := by omega
  simp only [this, if_false]
  by_cases hl : a.toNat ≤ xs.length
  · rw [Nat.min_eq_left hl, List.take_of_length_le (by rw [List.length_drop]; omega)]
  · rw [Nat.min_eq_right (by omega), List.drop_of_length_le (Nat.le_refl _), List.drop_of_length_le (by omega), List.take_nil]
section
variable {β : Type}
end
def fCut (i : Nat) (g1 g2 : VE) : VE := fun vs => gv vs[i]? (fun y => gl y (fun ds => rv (g1 vs) (fun x => gn x (fun a => rv (g2 vs) (fun y => gn y (fun c => if 0 ≤ a ∧ a ≤ c ∧ ds.length < lim then .ok (.list (ds.take a.toNat ++ ds.drop c.toNat)) (vs.set i .un) else .st) .st) .st) .st) .st) .st) .st
theorem u_cut {i : Nat} {g1 g2 : VE} {vs : List VS} : fCut i g1 g2 vs = gv vs[i]? (fun y => gl y (fun ds => rv (g1 vs) (fun x => gn x (fun a => rv (g2 vs) (fun y => gn y (fun c => if 0 ≤ a ∧ a ≤ c ∧ ds.length < lim then .ok (.list (ds.take a.toNat ++ ds.drop c.toNat)) (vs.set i .un) else .st) .st) .st) .st) .st) .st) .st := (rfl)
section
variable {D : List KD} {b b1 b2 fr1 fr2 : Bool} {k1 k2 m i : Nat} {f1 f2 : FE} {g1 g2 : VE}
def fPut (i j : Nat) (g1 g2 : VE) : VE := fun vs => gv vs[i]? (fun y => gl y (fun ds => gv vs[j]? (fun x => rv (g1 vs) (fun w => gn w (fun a => rv (g2 vs) (fun u => gn u (fun c => if 0 ≤ a ∧ a ≤ c ∧ ds.length < lim - 1 then .ok (.list (ds.take a.toNat ++ [x] ++ ds.drop c.toNat)) ((vs.set j .un).set i .un) else .st) .st) .st) .st) .st) .st) .st) .st
theorem u_put {i j : Nat} {g1 g2 : VE} {vs : List VS} : fPut i j g1 g2 vs = gv vs[i]? (fun y => gl y (fun ds => gv vs[j]? (fun x => rv (g1 vs) (fun w => gn w (fun a => rv (g2 vs) (fun u => gn u (fun c => if 0 ≤ a ∧ a ≤ c ∧ ds.length < lim - 1 then .ok (.list (ds.take a.toNat ++ [x] ++ ds.drop c.toNat)) ((vs.set j .un).set i .un) else .st) .st) .st) .st) .st) .st) .st) .st := (rfl)
end
def VO.cb (o : VO) (vs : List VS) : VR PyData := match o with
  | .rt x => .ok x vs
  | .nx _ => .ok .none vs
  | _ => .st
def VR.ac (r : VR (List PyData)) (x : PyData) : VR (List PyData) := match r with
  | .ok xs vs => .ok (x :: xs) vs
  | _ => .st
section
variable {vs vs' : List VS} {ga : VE} {qa : VA} {N : Nat} {g : VF} {x : PyData} {xs : List PyData}
theorem u_callR : fCallRV N g qa vs = (qa vs).bind fun ds vs => (g (ds.map VS.v ++ List.replicate (N - ds.length) .un)).cb vs := (rfl)
theorem cb_ok : (VO.rt x).cb vs = .ok x vs := (rfl)
theorem cb_nx : (VO.nx vs').cb vs = .ok .none vs := (rfl)
theorem u_consX : fConsX ga qa vs = (ga vs).bind fun x vs => (qa vs).ac x := (rfl)
theorem ac_ok : (VR.ok xs vs).ac x = .ok (x :: xs) vs := (rfl)
end
end Zx.V
namespace Zx.V
open PySem PySem.Spec L2
open Zx (SV AO AH FE FA FT FS Md Bd It1 Src O RpS En Wd inB iAdd iSub imm immL nod mulB divB modB powB lim flatD flatL isTy cutX kD opt o_some allD allI lstOf divF modF putIx)
section
variable {D : List KD} {rb : Bool} {rk : Nat} {b b1 b2 b3 fr1 fr2 fr3 : Bool} {k1 k2 k3 m l : Nat} {fi fj : FE} {gi gj : VE}
end
end Zx.V
namespace Zx.V
open PySem PySem.Spec L2
open Zx (SV AO AH FE FA FT FS Md Bd It1 Src O RpS En Wd inB iAdd iSub imm immL nod mulB divB modB powB lim flatD flatL isTy cutX kD opt o_some allD allI lstOf divF modF putIx wipeS lcR)
section
variable {D : List KD} {b b1 b2 fr : Bool} {k : Nat} {fs fa : FE} {gs ga : VE} {ta : FT} {ua : VT} {bd : Bd} {vx : List Nat}
end
end Zx.V
namespace Zx.V
open PySem PySem.Spec L2
open Zx (SV AO AH FE FA FT FS Md Bd It1 Src O RpS En Wd inB iAdd iSub imm immL nod mulB divB modB powB lim flatD flatL isTy cutX kD opt o_some allD allI lstOf divF modF putIx wipeS lcR argsD a_call g_cons g_fz g_vw g_nil shv shh)
def VC.bk (r : VC) (vs : List VS) : VR PyData := match r with
  | .ok y => .ok y vs
  | _ => .st
def only (r : VR PyData) (k : PyData → VR PyData) : VR PyData := match r with
  | .ok z _ => k z
  | _ => .st
def fCallX1 (u : List PyData → VC) (ga : VE) : VE := fun vs => (ga vs).bind fun x vs => (u [x]).bk vs
def fCallX2 (u : List PyData → VC) (ga gb : VE) : VE := fun vs => (ga vs).bind fun x vs => only (gb vs) fun z => (u [x, z]).bk vs
theorem u_callX1 {u : List PyData → VC} {ga : VE} {vs : List VS} : fCallX1 u ga vs = (ga vs).bind fun x vs => (u [x]).bk vs := (rfl)
theorem u_callX2 {u : List PyData → VC} {ga gb : VE} {vs : List VS} : fCallX2 u ga gb vs = (ga vs).bind fun x vs => only (gb vs) fun z => (u [x, z]).bk vs := (rfl)
theorem bk1_ok {y : PyData} {vs : List VS} : VC.bk (.ok y) vs = .ok y vs := (rfl)
theorem only_ok {z : PyData} {vs : List VS} {k : PyData → VR PyData} : only (.ok z vs) k = k z := (rfl)
section
variable {D : List KD} {b b2 fr2 : Bool} {k k1 k2 : Nat} {fa fb : FE} {ga gb : VE} {φ : List PyData → R SV} {u : List PyData → VC}
end
end Zx.V
namespace Zx.V
open PySem PySem.Spec L2
open Zx (wipeS lcR lcC R SV AO AH FE FA FT FS Md Bd It1 Src O RpS En Wd inB iAdd iSub imm immL nod mulB divB modB powB lim flatD flatL isTy cutX kD opt o_some)
def hotv (x : PyData) (vs : List VS) (o : Option VS) : VR PyData := match o with
  | some (.ex _) => .ok x vs
  | _ => .st
def fHot (ob : Option PyData) (i : Nat) : VE := fun vs => match ob with
  | some x => hotv x vs vs[i]?
  | none => .st
section
variable {D : List KD} {b fr : Bool} {k : Nat} {kd : KD} {i : Nat} {vs : List VS} {x : PyData} {c : Str}
theorem u_hot : fHot (some x) i vs = hotv x vs vs[i]? := (rfl)
theorem hot_ex : hotv x vs (some (.ex c)) = .ok x vs := (rfl)
end
theorem RSt.rekind {h : AH} : ∀ {D D2 : List KD} {sl : List SV} {vs : List VS} {fs : List (List Nat)}, RSt h D sl vs fs → D2.length = D.length → (∀ (i : Nat) (kd : KD), D2[i]? = some kd → D[i]? = some kd ∨ vs[i]? = some VS.un) → RSt h D2 sl vs fs
  | [], [], sl, vs, fs, r, _, _ => r
  | [], k :: D2, sl, vs, fs, _, e, _ => by simp at e
  | k :: D, [], sl, vs, fs, _, e, _ => by simp at e
  | k :: D, k2 :: D2, sl, vs, fs, ⟨s, sl', v, vs', f, fs', h1, h2, h3, r1, r2⟩, e, c => by
    refine ⟨s, sl', v, vs', f, fs', h1, h2, h3, ?_, RSt.rekind r2 (by simpa using e) fun i kd q => ?_⟩
    · rcases c 0 k2 rfl with z | z
      · have z : k = k2 := Option.some.inj z
        rw [← z]; exact r1
      · rw [h2] at z
        have z : v = .un := Option.some.inj z
        subst z
        exact r1
    · have := c (i + 1) kd q
      rw [h2] at this
      exact this
theorem wipe_un {vs : List VS} {i : Nat} : ∀ {vx : List Nat}, i ∈ vx → i < vs.length → (wipeV vs vx)[i]? = some .un
  | [], m, _ => by cases m
  | v :: r, m, hl => by
    have hlen : ∀ vx : List Nat, (wipeV vs vx).length = vs.length := by
      intro vx
      induction vx with
      | nil => rfl
      | cons v r ih => unfold wipeV; rw [List.length_set]; exact ih
    unfold wipeV
    by_cases e : v = i
    · subst e
      rw [List.getElem?_set_self (by rw [hlen]; exact hl)]
    · rw [List.getElem?_set_ne e]
      rcases List.mem_cons.mp m with z | z
      · exact absurd z.symm e
      · exact wipe_un z hl
def otherOk (vx : List Nat) (D D2 : List KD) : Bool := decide (D2.length = D.length) && (List.range D2.length).all fun i => vx.contains i || decide (D2[i]? = D[i]?)
theorem RSt.other {h : AH} {D D2 : List KD} {sl : List SV} {vs : List VS} {fs : List (List Nat)} {vx : List Nat} (o : otherOk vx D D2 = true) (r : RSt h D sl (wipeV vs vx) fs) (hv : vs.length = D.length) : RSt h D2 sl (wipeV vs vx) fs := by
  unfold otherOk at o
  rw [Bool.and_eq_true] at o
  have o1 := of_decide_eq_true o.1
  refine RSt.rekind r o1 fun i kd e => ?_
  have hi : i < D2.length := (List.getElem?_eq_some_iff.mp e).1
  have := List.all_eq_true.mp o.2 i (List.mem_range.mpr hi)
  rcases Bool.or_eq_true_iff.mp this with z | z
  · exact .inr (wipe_un (List.contains_iff_mem.mp z) (by omega))
  · exact .inl ((of_decide_eq_true z).symm.trans e)
section
variable {D D2 : List KD} {b b1 b2 fr : Bool} {k : Nat} {fa : FE} {ga : VE} {ta : FT} {ua : VT}
end
end Zx.V
namespace Zx.V
open PySem PySem.Spec L2
open Zx (R SV AO AH FE FA FT FS Md Bd It1 Src O RpS En Wd subS repS repOk lmax)
def gInS (neg : Bool) : PyData → PyData → List VS → VR PyData := fun x y vs => match x, y with
  | .str a, .str b => .ok (.bool (neg ^^ subS a b)) vs
  | _, _ => .st
def gIsB : PyData → PyData → List VS → VR PyData := fun x y vs => match x, y with
  | .bool a, .bool b => .ok (.bool (decide (a = b))) vs
  | _, _ => .st
def fSliceT (ga : VE) (gl gh : VOo) : VE := fun vs => (ga vs).bind fun x vs => (gl vs).bind fun lo vs => (gh vs).bind fun hi vs => match x with
  | .str z => if z.length ≤ sizeLine then .ok (.str (cutS z lo hi)) vs else .st
  | _ => .st
def gtx {α : Type} (x : PyData) (f : Str → α) (d : α) : α := match x with
  | .str z => f z
  | _ => d
def strV (z : Str) : List VI := z.cps.toList.map fun c => .one (.str ⟨#[c]⟩)
def iStr (ga : VE) : VSr := fun vs => (ga vs).bind fun x vs => match x with
  | .str z => .ok (strV z) vs
  | _ => .st
section
variable {D : List KD} {b b1 b2 b3 fr fr1 fr2 fr3 : Bool} {k k1 k2 k3 i : Nat} {fa fb fc : FE} {ga gb gc : VE} {fl fh : List SV → AH → R (Option Int)} {gl gh : VOo}
theorem ov_inS {neg : Bool} : OpV b1 k1 b2 k2 b k fr (Zx.gInS neg) (gInS neg) := by
  intro h vs s t x y f1 f2 r1 n1 r2
  unfold gInS
  split
  · obtain ⟨rfl, -⟩ := r1.imm rfl
    obtain ⟨rfl, -⟩ := r2.imm rfl
    exact OutE.dd rfl
  · trivial
theorem ev_sliceT (ha : EV D b k fr1 fa ga) (hl : OV D fl gl) (hh : OV D fh gh) : EV D b2 k2 fr (Zx.fSliceT fa fl fh) (fSliceT ga gl gh) := by
  intro h sl vs fs R nd
  refine (ha h sl vs fs R nd).ee fun x s t f1 r1 n1 _ => ?_
  refine (hl (h ++ t) sl vs fs R.app nd).pe fun lo lo' t2 e => ?_
  subst e
  refine (hh (h ++ t ++ t2) sl vs fs (RSt.app (RSt.app R)) nd).pe fun hi hi' t3 e => ?_
  subst e
  split
  · rename_i z
    obtain ⟨rfl, -⟩ := r1.imm rfl
    split
    · rename_i c
      dsimp only
      rw [if_pos c]
      exact OutE.dd rfl
    · trivial
  · trivial
theorem iv_str (ha : EV D b k fr fa ga) : IV D b2 (Zx.iStr fa) (iStr ga) := by
  intro h sl vs fs R nd
  refine (ha h sl vs fs R nd).ep fun x s t f1 r1 n1 _ => ?_
  split
  · rename_i z
    obtain ⟨rfl, -⟩ := r1.imm rfl
    refine ⟨rfl, _, [], by rw [List.append_nil], _, rfl, ?_⟩
    unfold Zx.strI strV
    generalize z.cps.toList = l
    induction l with
    | nil => trivial
    | cons c l ih => exact ⟨.inl rfl, ih⟩
  · trivial
end
section
variable {vs : List VS} {a c z : Str} {n d : Int} {ga : VE} {gl gh : VOo} {neg : Bool} {ns : List Int}
theorem o_inS : gInS neg (.str a) (.str c) vs = .ok (.bool (neg ^^ subS a c)) vs := (rfl)
theorem o_isB {p q : Bool} : gIsB (.bool p) (.bool q) vs = .ok (.bool (decide (p = q))) vs := (rfl)
theorem gtx_s {α : Type} {f : Str → α} {d : α} : gtx (.str z) f d = f z := (rfl)
theorem u_sliceT : fSliceT ga gl gh vs = (ga vs).bind fun x vs => (gl vs).bind fun lo vs => (gh vs).bind fun hi vs => gtx x (fun z => if z.length ≤ sizeLine then .ok (.str (cutS z lo hi)) vs else .st) .st := by
  unfold fSliceT gtx
  rfl
theorem u_istr : iStr ga vs = (ga vs).bind fun x vs => gtx x (fun z => .ok (strV z) vs) .st := by
  unfold iStr gtx
  rfl
end
theorem rst_d {h : AH} : ∀ {n : Nat} {ss : List SV} {ds : List PyData} {fps : List (List Nat)}, RSt h (List.replicate n (false, 0)) ss (ds.map VS.v) fps → ss = ds.map SV.d
  | 0, ss, ds, fps, r => by
    have e1 : ss = [] := r.1
    have e2 : ds.map VS.v = [] := r.2.1
    rw [e1, List.map_eq_nil_iff.mp e2]; rfl
  | n + 1, ss, ds, fps, r => by
    rw [List.replicate_succ] at r
    obtain ⟨s, sl', v, vs', f, fs', h1, h2, h3, r1, r2⟩ := r
    cases ds with
    | nil => cases h2
    | cons d ds =>
      rw [List.map_cons] at h2
      injection h2 with e1 e2
      subst e1 e2
      rcases (show f = [] ∧ leaf false s d from r1).2 with rfl | ⟨c, _⟩
      · rw [h1, rst_d r2]; rfl
      · cases c
theorem xv_tupX {D : List KD} {ra : FA} {qa : VA} {n : Nat} (ha : AX D (List.replicate n (false, 0)) ra qa) : XV D false 0 (Zx.fTup ra) (fTup qa) := by
  intro h sl vs fs R nd
  have o := ha h sl vs fs R nd
  unfold fTup Zx.fTup
  generalize qa vs = r at o ⊢
  generalize ra sl h = q at o ⊢
  cases r with
  | st => trivial
  | rz c =>
    obtain ⟨t, rfl⟩ := o
    exact ⟨t, rfl⟩
  | ok ds vs1 =>
    obtain ⟨ss, h1, fs1, fps, rfl, G, R1, n1, d1, od1⟩ := o
    have e := rst_d R1
    subst e
    dsimp only [VR.bind, Zx.R.bind]
    rw [Zx.allD_map]
    dsimp only
    split
    · exact ⟨_, h1, fs1, [], rfl, G, ⟨rfl, .inl rfl⟩, List.nodup_nil, fun _ m => (by cases m), fun _ m => (by cases m)⟩
    · trivial
end Zx.V
namespace Zx.V
open PySem PySem.Spec L2
open Zx (R SV AO AH FE FA FT FS Md Bd It1 Src O RpS En Wd sortD leD patOk wrapS)
end Zx.V
namespace Zx.V
open PySem PySem.Spec L2
open Zx (R SV AO AH FE FA FT FS Md Bd It1 Src O RpS En Wd lim)
end Zx.V
namespace Zx.V
open PySem PySem.Spec L2
open Zx (R SV AO AH FE FA FT FS Md Bd It1 Src O RpS En Wd inB)
end Zx.V
namespace Zx.V
open PySem PySem.Spec L2
open Zx (R SV AO AH FE FA FT FS Md Bd It1 Src O RpS En Wd inB nod Fn imm opt o_some)
def sSt2 (l : Nat) (gi gj ga gb : VE) : VF := fun vs => rv (ga vs) (fun x => rv (gb vs) (fun y => gv vs[l]? (fun z => gl z (fun ds => rv (gi vs) (fun a => gn a (fun i => rv (gj (vs.set l .un)) (fun c => gn c (fun j => opt (ixN ds.length i) (fun p => opt (ixN ds.length j) (fun q => if (imm x && imm y) = true then .nx (vs.set l (.v (.list ((ds.set p x).set q y)))) else .st) .st) .st) .st) .st) .st) .st) .st) .st) .st) .st
theorem u_st2 {l : Nat} {gi gj ga gb : VE} {vs : List VS} : sSt2 l gi gj ga gb vs = rv (ga vs) (fun x => rv (gb vs) (fun y => gv vs[l]? (fun z => gl z (fun ds => rv (gi vs) (fun a => gn a (fun i => rv (gj (vs.set l .un)) (fun c => gn c (fun j => opt (ixN ds.length i) (fun p => opt (ixN ds.length j) (fun q => if (imm x && imm y) = true then .nx (vs.set l (.v (.list ((ds.set p x).set q y)))) else .st) .st) .st) .st) .st) .st) .st) .st) .st) .st) .st := (rfl)
end Zx.V
namespace Zx.V
open PySem PySem.Spec L2
open Zx (R SV AO AH FE FA FT FS Md Bd It1 Src O RpS En Wd intsD unl lstInts intsD_ok)
def fLenSet (ga : VE) : VE := fun vs => (ga vs).bind fun x vs => match x with
  | .list ds => match intsD ds with
    | some ns => if ns.length < 64 then .ok (.int ((unl ns).length : Nat)) vs else .st
    | none => .st
  | _ => .st
theorem u_lenSet {ga : VE} {vs : List VS} : fLenSet ga vs = (ga vs).bind fun x vs => gl x (fun ds => opt (intsD ds) (fun ns => if ns.length < 64 then .ok (.int ((unl ns).length : Nat)) vs else .st) .st) .st := by
  unfold fLenSet gl opt
  congr 1
  funext x vs
  cases x
  case list ds =>
    dsimp only
    cases intsD ds <;> rfl
  all_goals rfl
end Zx.V
namespace Zx.V
open PySem PySem.Spec L2
open Zx (R SV AO AH FE FA FT FS Md Bd It1 Src O RpS En Wd lim)
def fMvCat (i : Nat) (gb : VE) : VE := fun vs => match vs[i]? with
  | some (.v (.list xs)) => (gb vs).bind fun y vs' => match y with
    | .list ys => if xs.length + ys.length < lim then .ok (.list (xs ++ ys)) (vs'.set i .un) else .st
    | _ => .st
  | _ => .st
theorem u_mvCat {i : Nat} {gb : VE} {vs : List VS} : fMvCat i gb vs = gv vs[i]? (fun x => gl x (fun xs => (gb vs).bind fun y vs' => gl y (fun ys => if xs.length + ys.length < lim then .ok (.list (xs ++ ys)) (vs'.set i .un) else .st) .st) .st) .st := by
  unfold fMvCat gv gl
  cases vs[i]? with
  | none => rfl
  | some z =>
    cases z with
    | v x =>
      cases x
      case list xs =>
        first
          | rfl
          | (dsimp only; congr 1)
      all_goals rfl
    | _ => rfl
end Zx.V
namespace Zx.V
open PySem PySem.Spec L2
open Zx (R SV AO AH FE FA FT FS Md Bd It1 Src O RpS En Wd lim lstItems setAll mkv)
def sSetL (is : List Nat) (ga : VE) : VF := fun vs => (ga vs).thn vs fun x vs => match x with
  | .list ds => match setAllV is ds vs with
    | some vs' => .nx vs'
    | none => .st
  | _ => .st
theorem u_setL {is : List Nat} {ga : VE} {vs : List VS} : sSetL is ga vs = (ga vs).thn vs fun x vs => gl x (fun ds => opt (setAllV is ds vs) (fun vs' => .nx vs') .st) .st := by
  unfold sSetL opt gl
  congr 1
  funext x vs
  cases x <;> try rfl
  rename_i ds
  dsimp only
  cases setAllV is ds vs <;> rfl
variable {D : List KD} {b : Bool} {rb : Bool} {rk : Nat} {fr : Bool} {fa : FE} {ga : VE}
end Zx.V
namespace Zx.V
open PySem PySem.Spec L2
open Zx (R SV AO AH FE FA FT FS Md Bd It1 Src O RpS En Wd lim strsD joinOk)
def fTxM (g : Str → PyData → List VS → VR PyData) (ga gb : VE) : VE := fun vs => (ga vs).bind fun x vs => match x with
  | .str a => (gb vs).bind fun y vs => g a y vs
  | _ => .st
theorem u_txM {g : Str → PyData → List VS → VR PyData} {ga gb : VE} {vs : List VS} : fTxM g ga gb vs = (ga vs).bind fun x vs => gtx x (fun a => (gb vs).bind fun y vs => g a y vs) .st := (rfl)
def TxV (b2 : Bool) (k2 : Nat) (b : Bool) (k : Nat) (fr : Bool) (f : Str → SV → AH → R SV) (g : Str → PyData → List VS → VR PyData) : Prop := ∀ (h : AH) (vs : List VS) (a : Str) (t : SV) (y : PyData) (f2 : List Nat), RV h b2 k2 t y f2 → OutE b k fr h.length h vs (g a y vs) (f a t h)
section
variable {D : List KD} {b b1 b2 fr fr1 fr2 : Bool} {k k1 k2 : Nat} {fa fb : FE} {ga gb : VE}
theorem ev_txM {f : Str → SV → AH → R SV} {g : Str → PyData → List VS → VR PyData} (ho : TxV b2 k2 b k fr f g) (ha : EV D b1 k1 fr1 fa ga) (hb : EV D b2 k2 fr2 fb gb) : EV D b k fr (Zx.fTxM f fa fb) (fTxM g ga gb) := by
  intro h sl vs fs R nd
  refine (ha h sl vs fs R nd).ee fun x s t f1 r1 n1 _ => ?_
  split
  · rename_i a
    obtain ⟨rfl, -⟩ := r1.imm rfl
    refine ((hb (h ++ t) sl vs fs R.app nd).ee fun y s2 t2 f2 r2 n2 _ => ?_)
    exact (ho (h ++ t ++ t2) vs a s2 y f2 r2).up (by rw [List.length_append, List.length_append]; omega)
  · trivial
def gSw (a : Str) : PyData → List VS → VR PyData := fun y vs => match y with
  | .str c => .ok (.bool (Txt.startswith a c)) vs
  | _ => .st
def gSplit (a : Str) : PyData → List VS → VR PyData := fun y vs => match y with
  | .str c => if c.length ≠ 0 ∧ a.length < lim then .ok (.list ((Txt.split a c).map PyData.str)) vs else .st
  | _ => .st
def gJoin (a : Str) : PyData → List VS → VR PyData := fun y vs => match y with
  | .list ds => match strsD ds with
    | some ys => if joinOk a ys = true then .ok (.str (Txt.join a ys)) vs else .st
    | none => .st
  | _ => .st
theorem tv_sw : TxV b2 k2 b k fr Zx.gSw gSw := by
  intro h vs a t y f2 r2
  unfold gSw
  split
  · obtain ⟨rfl, -⟩ := r2.imm rfl
    exact OutE.dd rfl
  · trivial
theorem tv_split : TxV b2 k2 b 1 fr Zx.gSplit gSplit := by
  intro h vs a t y f2 r2
  unfold gSplit
  split
  · rename_i c
    obtain ⟨rfl, -⟩ := r2.imm rfl
    split
    · rename_i hc
      show OutE _ _ _ _ _ _ _ (if c.length ≠ 0 ∧ a.length < lim then Zx.R.ok (.r h.length) (h ++ [some (.lst ((Txt.split a c).map fun z => SV.d (.str z)))]) else .st)
      rw [if_pos hc]
      have e : ((Txt.split a c).map fun z => SV.d (.str z)) = ((Txt.split a c).map PyData.str).map SV.d := by rw [List.map_map]; rfl
      rw [e]
      exact fresh_lst (fa_leaf _)
    · trivial
  · trivial
theorem tv_join : TxV false 0 b k fr Zx.gJoin gJoin := by
  intro h vs a t y f2 r2
  unfold gJoin
  split
  · rename_i ds
    have r2 : leaf false t (.list ds) := r2.2
    rcases r2 with rfl | ⟨z, _⟩
    · split
      · rename_i ys hy
        split
        · rename_i hj
          show OutE _ _ _ _ _ _ _ (match strsD ds with | some ys => if joinOk a ys = true then Zx.R.ok (.d (.str (Txt.join a ys))) h else .st | none => .st)
          rw [hy]
          dsimp only
          rw [if_pos hj]
          exact OutE.dd rfl
        · trivial
      · trivial
    · cases z
  · trivial
def gStrI : List PyData → List VS → VR PyData := fun ds vs => match ds with
  | [.int i] => if i.natAbs.log2 < 1920 then .ok (.str (toString i)) vs else .st
  | _ => .st
def gIntS : List PyData → List VS → VR PyData := fun ds vs => match ds with
  | [.str a] => match PySem.intText? a with
    | some n => if a.length ≤ 640 then .ok (.int n) vs else .st
    | none => .st
  | _ => .st
theorem cv_strI {p : KD} : CbV [p] b k fr Zx.gStrI gStrI := by
  intro h vs ss ds r
  obtain ⟨s, x, f, rfl, rfl, r1⟩ := ra_one r
  unfold gStrI
  split
  · rename_i i e
    cases e
    obtain ⟨rfl, -⟩ := r1.imm rfl
    split
    · rename_i c
      show OutE _ _ _ _ _ _ _ (if i.natAbs.log2 < 1920 then Zx.R.ok (.d (.str (toString i))) h else .st)
      rw [if_pos c]
      exact OutE.dd rfl
    · trivial
  · trivial
theorem cv_intS {p : KD} : CbV [p] b k fr Zx.gIntS gIntS := by
  intro h vs ss ds r
  obtain ⟨s, x, f, rfl, rfl, r1⟩ := ra_one r
  unfold gIntS
  split
  · rename_i a e
    cases e
    obtain ⟨rfl, -⟩ := r1.imm rfl
    split
    · rename_i n hn
      split
      · rename_i c
        show OutE _ _ _ _ _ _ _ (match PySem.intText? a with | some n => if a.length ≤ 640 then Zx.R.ok (.d (.int n)) h else .st | none => .st)
        rw [hn]
        dsimp only
        rw [if_pos c]
        exact OutE.dd rfl
      · trivial
    · trivial
  · trivial
theorem o_sw {a c : Str} {vs : List VS} : gSw a (.str c) vs = .ok (.bool (Txt.startswith a c)) vs := (rfl)
theorem o_split {a c : Str} {vs : List VS} (h1 : c.length ≠ 0) (h2 : a.length < 1000000) : gSplit a (.str c) vs = .ok (.list ((Txt.split a c).map PyData.str)) vs := if_pos ⟨h1, h2⟩
theorem o_join {a : Str} {ys : List Str} {vs : List VS} (h : (ys.map (·.length)).sum + ys.length * a.length ≤ 16777216) : gJoin a (.list (ys.map PyData.str)) vs = .ok (.str (Txt.join a ys)) vs := by
  unfold gJoin
  dsimp only
  rw [Zx.strsD_map]
  exact if_pos (decide_eq_true h)
theorem o_strI {i : Int} {vs : List VS} (h : i.natAbs.log2 < 1920) : gStrI [.int i] vs = .ok (.str (toString i)) vs := if_pos h
theorem o_intS {a : Str} {n : Int} {vs : List VS} (h : PySem.intText? a = some n) (hl : a.length ≤ 640) : gIntS [.str a] vs = .ok (.int n) vs := by
  unfold gIntS
  dsimp only
  rw [h]
  exact if_pos hl
end
end Zx.V
namespace Zx.V
open PySem PySem.Spec L2
open Zx (R SV AO AH FE FA FT FS Md Bd It1 Src O RpS En Wd lim mkv tupItems itemsT)
variable {D : List KD} {b b1 b2 : Bool} {rb : Bool} {rk k i j : Nat} {fa : FE} {ga : VE}
def fTupM (i : Nat) (gb : VE) : VE := fun vs => match vs[i]? with
  | some (.v (.list xs)) => (gb vs).bind fun y vs' => match y with
    | .int m => .ok (.tuple [.list xs, .int m]) (vs'.set i .un)
    | _ => .st
  | _ => .st
theorem u_tupM {gb : VE} {vs : List VS} : fTupM i gb vs = gv vs[i]? (fun x => gl x (fun xs => (gb vs).bind fun y vs' => gn y (fun m => .ok (.tuple [.list xs, .int m]) (vs'.set i .un)) .st) .st) .st := by
  unfold fTupM gv gl gn
  cases vs[i]? with
  | none => rfl
  | some z =>
    cases z with
    | v x => cases x <;> rfl
    | _ => rfl
end Zx.V
namespace Zx.V
open PySem PySem.Spec L2
open Zx (R SV AO AH FE FA FT FS Md Bd It1 Src O RpS En Wd intsD lstInts intsD_ok)
def fCnt (ga gb : VE) : VE := fun vs => (ga vs).bind fun x vs => match x with
  | .list ds => match intsD ds with
    | some ns => (gb vs).bind fun y vs => match y with
      | .int k => .ok (.int (ns.count k : Nat)) vs
      | _ => .st
    | none => .st
  | _ => .st
theorem u_cnt {ga gb : VE} {vs : List VS} : fCnt ga gb vs = (ga vs).bind fun x vs => gl x (fun ds => opt (intsD ds) (fun ns => (gb vs).bind fun y vs => gn y (fun k => .ok (.int (ns.count k : Nat)) vs) .st) .st) .st := by
  unfold fCnt gl opt
  congr 1
  funext x vs
  cases x
  case list ds =>
    dsimp only
    cases intsD ds <;> rfl
  all_goals rfl
def fNld (ga : VE) : VE := fun vs => (ga vs).bind fun x vs => if isLD x = true then .st else .ok x vs
theorem u_nld {ga : VE} {vs : List VS} : fNld ga vs = (ga vs).bind fun x vs => if isLD x = true then .st else .ok x vs := (rfl)
end Zx.V
namespace Zx.V
open PySem PySem.Spec L2
section
variable {D : List KD} {b b1 b2 fr fr1 : Bool} {k k1 i : Nat} {fa : FE} {ga : VE}
def fLk (ga : VE) : VE := fun vs => (ga vs).bind fun x vs => match x with
  | .dict ps => match toL ps with
    | some l => .ok (lkd (dK l)) vs
    | none => .st
  | _ => .st
def iDk (ga : VE) : VSr := fun vs => (ga vs).bind fun x vs => match x with
  | .dict ps => match keysD ps with
    | some ks => .ok (ks.map VI.one) vs
    | none => .st
  | _ => .st
theorem keys_lk (l : List (Key × PyData)) : keysD ((.none, .none) :: dK l) = some (l.map fun p => kD p.1) := by
  have e : keysD ((.none, .none) :: dK l) = some (((dK l).filter fun p => !isMk p.1).map Prod.fst) := rfl
  rw [e]
  congr 1
  clear e
  induction l with
  | nil => rfl
  | cons p l ih =>
    show (((kD p.1, p.2) :: dK l).filter _).map Prod.fst = _
    rw [List.filter_cons, if_pos (by show (!isMk (kD p.1)) = true; rw [kD_mk]; rfl), List.map_cons, ih, List.map_cons]
def gdk {α : Type} (x : PyData) (f : List (Key × PyData) → α) (d : α) : α := match x with
  | .dict ps => match toL ps with
    | some l => f l
    | none => d
  | _ => d
def gks {α : Type} (x : PyData) (f : List PyData → α) (d : α) : α := match x with
  | .dict ps => match keysD ps with
    | some l => f l
    | none => d
  | _ => d
theorem gdk_ok {α : Type} {f : List (Key × PyData) → α} {d : α} {l : List (Key × PyData)} : gdk (.dict (dK l)) f d = f l := by
  unfold gdk
  dsimp only
  rw [toL_dK]
theorem gks_ok {α : Type} {f : List PyData → α} {d : α} {l : List (Key × PyData)} : gks (lkd (dK l)) f d = f (l.map fun p => kD p.1) := by
  unfold gks lkd
  dsimp only
  rw [keys_lk]
theorem u_fzd {vs : List VS} : fLk ga vs = (ga vs).bind fun x vs => gdk x (fun l => .ok (lkd (dK l)) vs) .st := (rfl)
theorem u_idk {vs : List VS} : iDk ga vs = (ga vs).bind fun x vs => gks x (fun ks => .ok (ks.map VI.one) vs) .st := (rfl)
theorem o_dinT {neg : Bool} {x : Str} {l : List (Key × PyData)} {vs : List VS} : dIn neg (.str x) (.dict (dK l)) vs = .ok (.bool (neg ^^ (valL l (.inr x)).isSome)) vs := o_din (key := .inr x)
theorem o_dinTL {neg : Bool} {x : Str} {l : List (Key × PyData)} {vs : List VS} : dIn neg (.str x) (lkd (dK l)) vs = .ok (.bool (neg ^^ (valL l (.inr x)).isSome)) vs := o_dinL (key := .inr x)
theorem o_dinIL {neg : Bool} {x : Int} {l : List (Key × PyData)} {vs : List VS} : dIn neg (.int x) (lkd (dK l)) vs = .ok (.bool (neg ^^ (valL l (.inl x)).isSome)) vs := o_dinL (key := .inl x)
theorem keyP_s {x : Str} : keyP (.str x) = some (.inr x) := (rfl)
section
variable {α : Type} [DecidableEq α] {κ : α → Key} {f : α → PyData}
end
section
variable {vs0 vs : List VS} {bd : Bd} {body : VF}
end
end
end Zx.V
namespace Zx.V
open PySem PySem.Spec L2
open Zx (R SV AO AH FE FA FT FS Md Bd It1 Src O RpS En Wd Fn opt nod)
def fIdx (ga gb : VE) : VE := fun vs => (ga vs).bind fun x vs => gl x (fun ds => (gb vs).bind fun y vs => opt (idxD (.list ds) y) (fun j => .ok (.int (j : Nat)) vs) .st) .st
theorem u_idx {ga gb : VE} {vs : List VS} : fIdx ga gb vs = (ga vs).bind fun x vs => gl x (fun ds => (gb vs).bind fun y vs => opt (idxD (.list ds) y) (fun j => .ok (.int (j : Nat)) vs) .st) .st := (rfl)
def forVarEV (vs0 : List VS) (l : Nat) (bd : Bd) (body : VF) : Nat → Nat → List VS → VO
  | 0, j, vs => match vs[l]? with
    | some (.v (.list ds)) => if ds.length ≤ j then .nx vs else .st
    | _ => .st
  | c + 1, j, vs => match vs[l]? with
    | some (.v (.list ds)) => match ds[j]? with
      | none => .nx vs
      | some x => match goV bd (.two (.int (j : Nat)) x) vs with
        | none => .st
        | some vs1 => aftV vs0 (body vs1) (forVarEV vs0 l bd body c (j + 1))
    | _ => .st
def sForE (l : Nat) (bd : Bd) (body : VF) : VF := fun vs => match vs[l]? with
  | some (.v (.list ds)) => forVarEV vs l bd body ds.length 0 vs
  | _ => .st
section
variable {D : List KD} {A : List Nat} {b rb : Bool} {rk : Nat} {f : FS} {g : VF} {bd : Bd} {h0 : AH} {sl0 : List SV} {vs0 : List VS} {fs0 : List (List Nat)}
end
theorem u_forE {i : Nat} {bd : Bd} {a : VF} {vs : List VS} : sForE i bd a vs = gv vs[i]? (fun y => gl y (fun ds => forVarEV vs i bd a ds.length 0 vs) .st) .st := by
  unfold sForE gv gl
  rcases vs[i]? with _ | (_ | y | _ | _) <;> try rfl
  cases y <;> rfl
section
variable {vs0 vs : List VS} {bd : Bd} {body : VF}
end
def rzK (j k : Nat) (x : PyData) : Bool := decide (j = k) || (decide (j = 0) && !isLD x) || (decide (1 ≤ j ∧ 1 ≤ k) && match x with
  | .list ds => ds.all fun d => !isLD d
  | _ => !isLD x)
def rzL (k : Nat) : List Nat → List PyData → Bool
  | [], [] => true
  | j :: js, d :: ds => rzK j k d && rzL k js ds
  | _, _ => false
theorem rv_nld {h : AH} {b : Bool} {x : PyData} (c : isLD x = false) : ∀ {j k : Nat} {s : SV} {f : List Nat}, RV h b j s x f → RV h b k s x f
  | 0, 0, s, f, r => r
  | 0, k + 1, s, f, r => by unfold RV; exact .inl ⟨r.1, r.2, c⟩
  | j + 1, k, s, f, r => by
    have l : f = [] ∧ leaf b s x := by
      unfold RV at r
      rcases r with r | ⟨_, _, _, _, _, _, e, _⟩ | ⟨_, _, _, _, _, _, e, _⟩ | ⟨_, _, ds, _, _, q, e, _⟩
      · exact ⟨r.1, r.2.1⟩
      · subst e; cases c
      · subst e; cases c
      · subst e
        have c : (!immL ds) = false := c
        rw [q.2] at c; cases c
    cases k with
    | zero => exact l
    | succ k => unfold RV; exact .inl ⟨l.1, l.2, c⟩
theorem rv_rz {h : AH} {b : Bool} {j k : Nat} {s : SV} {x : PyData} {f : List Nat} (r : RV h b j s x f) (e : rzK j k x = true) : RV h b k s x f := by
  unfold rzK at e
  rw [Bool.or_eq_true, Bool.or_eq_true] at e
  rcases e with (e | e) | e
  · rw [← of_decide_eq_true e]; exact r
  · rw [Bool.and_eq_true] at e
    exact rv_nld (by simpa using e.2) r
  · rw [Bool.and_eq_true] at e
    obtain ⟨h1, h2⟩ := of_decide_eq_true e.1
    have e := e.2
    split at e
    · rename_i ds
      obtain ⟨j, rfl⟩ : ∃ i, j = i + 1 := ⟨j - 1, by omega⟩
      obtain ⟨k, rfl⟩ : ∃ i, k = i + 1 := ⟨k - 1, by omega⟩
      obtain ⟨n, xs, fl, rfl, hn, rfl, q⟩ := RV.isL r
      refine RV.ofL hn ?_
      have go : ∀ {xs : List SV} {ds : List PyData} {fl : List (List Nat)}, (ds.all fun d => !isLD d) = true → Fa3 (RV h b j) xs ds fl → Fa3 (RV h b k) xs ds fl := by
        intro xs
        induction xs with
        | nil =>
          intro ds fl _ q
          cases ds with
          | nil => cases fl with
            | nil => exact trivial
            | cons _ _ => exact q.elim
          | cons _ _ => cases fl <;> exact q.elim
        | cons a xs ih =>
          intro ds fl e q
          cases ds with
          | nil => cases fl <;> exact q.elim
          | cons d ds => cases fl with
            | nil => exact q.elim
            | cons f fl =>
              rw [List.all_cons, Bool.and_eq_true] at e
              exact ⟨rv_nld (by simpa using e.1) q.1, ih e.2 q.2⟩
      exact go e q
    · exact rv_nld (by simpa using e) r
theorem rst_fa {h : AH} {b : Bool} {k : Nat} : ∀ {js : List Nat} {ss : List SV} {ds : List PyData} {fps : List (List Nat)}, RSt h (js.map fun j => (b, j)) ss (ds.map VS.v) fps → rzL k js ds = true → Fa3 (RV h b k) ss ds fps
  | [], ss, ds, fps, r, e => by
    obtain ⟨h1, h2, h3⟩ := (show ss = [] ∧ ds.map VS.v = [] ∧ fps = [] from r)
    have : ds = [] := List.map_eq_nil_iff.mp h2
    subst this h1 h3
    exact trivial
  | j :: js, ss, ds, fps, r, e => by
    obtain ⟨s, sl', v, vs', f, fs', h1, h2, h3, r1, r2⟩ := r
    cases ds with
    | nil => cases h2
    | cons d ds =>
      rw [List.map_cons] at h2
      injection h2 with e1 e2
      subst e1 e2 h1 h3
      unfold rzL at e
      rw [Bool.and_eq_true] at e
      exact ⟨rv_rz r1 e.1, rst_fa r2 e.2⟩
def fTupX (k : Nat) (js : List Nat) (qa : VA) : VE := fun vs => (qa vs).bind fun ds vs => if (decide (ds.length ≤ 1000) && rzL k js ds && !immL ds) = true then .ok (.tuple ds) vs else .st
theorem xv_tupOX {D : List KD} {b : Bool} {k : Nat} {js : List Nat} {ra : FA} {qa : VA} (ha : AX D (js.map fun j => (b, j)) ra qa) : XV D b (k + 1) (Zx.fTupO ra) (fTupX k js qa) := by
  intro h sl vs fs R nd
  have o := ha h sl vs fs R nd
  unfold fTupX Zx.fTupO
  generalize qa vs = r at o ⊢
  generalize ra sl h = q at o ⊢
  cases r with
  | st => trivial
  | rz c =>
    obtain ⟨t, rfl⟩ := o
    exact ⟨t, rfl⟩
  | ok ds vs1 =>
    obtain ⟨ss, h1, fs1, fps, rfl, G, R1, n1, d1, od1⟩ := o
    dsimp only [VR.bind, Zx.R.bind]
    split
    · rename_i c
      rw [Bool.and_eq_true, Bool.and_eq_true] at c
      obtain ⟨⟨c1, c2⟩, c3⟩ := c
      have c1 := of_decide_eq_true c1
      have c3 : immL ds = false := by simpa using c3
      have q := rst_fa R1 c2
      rw [if_pos (by rw [q.len.1]; exact c1)]
      have ei : Zx.allI ss = none := by
        unfold Zx.allI
        cases e : Zx.allD ss with
        | none => rfl
        | some d2 =>
          dsimp only
          rw [fa_allD_eq q e, c3]; rfl
      rw [ei]
      have q2 : Fa3 (RV (h1 ++ [some (.tup ss)]) b k) ss ds fps := Fa3.imp (cs0 := fps) (fun _ _ _ _ p => RV.app p) (fun _ m => m) q
      have lt : ∀ a ∈ fps.flatten, a < h1.length := fun a m => by
        obtain ⟨l, hl, hm⟩ := List.mem_flatten.mp m
        obtain ⟨_, _, _, _, p⟩ := Fa3.mem q hl
        exact p.lt _ hm
      refine ⟨_, _, fs1, h1.length :: fps.flatten, rfl, G.app, RV.ofT (by rw [List.getElem?_append_right (Nat.le_refl _), Nat.sub_self]; rfl) c3 q2, List.nodup_cons.mpr ⟨fun m => Nat.lt_irrefl _ (lt _ m), n1⟩, fun a m => ?_, fun a m => ?_⟩
      · rcases List.mem_cons.mp m with rfl | m
        · exact fun z => Nat.lt_irrefl _ (G.R.lt _ z)
        · exact d1 a m
      · rcases List.mem_cons.mp m with rfl | m
        · exact .inr G.le
        · exact od1 a m
    · trivial
theorem u_tupX {k : Nat} {js : List Nat} {qa : VA} {vs : List VS} : fTupX k js qa vs = (qa vs).bind fun ds vs => if (decide (ds.length ≤ 1000) && rzL k js ds && !immL ds) = true then .ok (.tuple ds) vs else .st := (rfl)
def fTupM2 (k j1 j2 i : Nat) (gb : VE) : VE := fun vs => match vs[i]? with
  | some (.v x) => (gb vs).bind fun y vs' => if (rzK j1 k x && rzK j2 k y && !immL [x, y]) = true then .ok (.tuple [x, y]) (vs'.set i .un) else .st
  | _ => .st
theorem u_tupM2 {k j1 j2 i : Nat} {gb : VE} {vs : List VS} : fTupM2 k j1 j2 i gb vs = gv vs[i]? (fun x => (gb vs).bind fun y vs' => if (rzK j1 k x && rzK j2 k y && !immL [x, y]) = true then .ok (.tuple [x, y]) (vs'.set i .un) else .st) .st := by
  unfold fTupM2 gv
  rcases vs[i]? with _ | (_ | y | _ | _) <;> rfl
end Zx.V
namespace Zx.V
open PySem PySem.Spec L2
open Zx (R SV AO AH FE FA FT FS Md Bd It1 Src O RpS En Wd Fn opt nod orK pickF)
section
variable {D : List KD} {A1 A2 : List Nat} {rb : Bool} {rk : Nat} {f1 f2 : FS} {g1 g2 : VF} {o : Option Bool}
end
section
variable {b b1 b2 fr : Bool} {k k1 k2 : Nat}
end
end Zx.V
namespace Zx.V
open PySem PySem.Spec L2
open Zx (R SV AO AH FE FA FT FS Md Bd It1 Src O RpS En Wd Fn opt nod)
end Zx.V
namespace Zx.V
open PySem PySem.Spec L2
open Zx (R SV AO AH FE FA FT FS Md Bd It1 Src O RpS En Wd Fn opt nod imm immL mkv patOk leD)
end Zx.V
namespace Zx.V
open PySem PySem.Spec L2
open Zx (R SV AO AH FE FA FT FS Md Bd It1 Src O RpS En Wd Fn opt nod okR keyOf valS dctR)
theorem gdk_cases {α : Type} {x : PyData} {f : List (Key × PyData) → α} {d : α} : (∃ l, x = .dict (dK l) ∧ gdk x f d = f l) ∨ gdk x f d = d := by
  cases x with
  | dict ps =>
    unfold gdk
    dsimp only
    cases e : toL ps with
    | some l => exact .inl ⟨l, by rw [dK_toL e], rfl⟩
    | none => exact .inr rfl
  | _ => exact .inr rfl
section
variable {D : List KD} {b1 b2 fr fr1 fr2 : Bool} {k1 k2 : Nat} {fa fb fc : FE} {ga gb gc : VE}
def fDG2 (ga gb gc : VE) : VE := fun vs => (ga vs).bind fun x vs => gdk x (fun l => (gb vs).bind fun y vs => opt (keyP y) (fun key => (gc vs).bind fun z vs => match valL l key with | some u => .ok u vs | none => .ok z vs) .st) .st
theorem u_dg2 {vs : List VS} : fDG2 ga gb gc vs = (ga vs).bind fun x vs => gdk x (fun l => (gb vs).bind fun y vs => opt (keyP y) (fun key => (gc vs).bind fun z vs => match valL l key with | some u => .ok u vs | none => .ok z vs) .st) .st := (rfl)
end
end Zx.V
namespace Zx.V
open PySem PySem.Spec L2
open Zx (R SV AO AH FE FA FT FS Md Bd It1 Src O RpS En Wd Fn opt nod okR keyOf valS dctR dTwo)
section
variable {D : List KD} {b b1 b2 b3 b4 fr fr1 fr2 fr3 fr4 : Bool} {k k1 k2 k3 k4 : Nat} {fa fb fc fd : FE} {ga gb gc gd : VE}
theorem ev_dg2 (ha : EV D b1 k1 fr1 fa ga) (hb : EV D b2 k2 fr2 fb gb) (hc : EV D b3 k3 fr3 fc gc) (hk : k1 ≤ 1 := by decide) (hk3 : k3 = 0 := by decide) (hbb : (!b1 || b) = true := by decide) (hb3 : (!b3 || b) = true := by decide) : EV D b 0 fr (Zx.fDG2 fa fb fc) (fDG2 ga gb gc) := by
  subst hk3
  intro h sl vs fs R nd
  refine (ha h sl vs fs R nd).ee fun x s t f1 r1 n1 _ => ?_
  show OutE _ _ _ _ _ _ (gdk x (fun l => (gb vs).bind fun y vs => opt (keyP y) (fun key => (gc vs).bind fun z vs => match valL l key with | some u => VR.ok u vs | none => .ok z vs) .st) .st) _
  rcases gdk_cases (x := x) (f := fun l => (gb vs).bind fun y vs => opt (keyP y) (fun key => (gc vs).bind fun z vs => match valL l key with | some u => VR.ok u vs | none => .ok z vs) .st) (d := VR.st) with ⟨l, rfl, e⟩ | e
  · rw [e]
    obtain ⟨kvs0, fs0, k0, e0, _, _⟩ := dct_of r1
    rw [if_pos (by rw [e0]; rfl)]
    refine (hb (h ++ t) sl vs fs R.app nd).ee fun y s2 t2 f2 r2 n2 _ => ?_
    cases hk' : keyP y with
    | none => trivial
    | some key =>
      refine (hc (h ++ t ++ t2) sl vs fs R.app.app nd).ee fun z s3 t3 f3 r3 n3 _ => ?_
      obtain ⟨kvs, fs, k', e1, d, hk2⟩ := dct_of ((r1.app (t := t2)).app (t := t3))
      have e00 : k' = 0 := by omega
      subst e00
      show OutE _ _ _ _ _ _ (match valL l key with | some u => VR.ok u vs | none => .ok z vs) (Zx.dG2 s s2 s3 (h ++ t ++ t2 ++ t3))
      unfold Zx.dG2
      rw [key_rv (r2.app (t := t3)) hk', e1]
      dsimp only
      rcases DV.val key d with ⟨z1, z2⟩ | ⟨s', x', f, j, z1, z2, _, r4⟩
      · rw [z1, z2]
        exact ⟨rfl, s3, [], [], by rw [List.append_nil], by rw [List.append_nil]; exact RV.bm hb3 (show RV _ _ 0 _ _ _ from ⟨rfl, r3.2⟩), List.nodup_nil, fun _ _ m => by cases m⟩
      · rw [z1, z2]
        exact ⟨rfl, s', [], [], by rw [List.append_nil], by rw [List.append_nil]; exact RV.bm hbb (show RV _ _ 0 _ _ _ from ⟨rfl, r4.2⟩), List.nodup_nil, fun _ _ m => by cases m⟩
  · rw [e]
    trivial
def twoD (x y x2 y2 : PyData) (vs : List VS) : VR PyData := match keyP x, keyP x2 with
  | some a, some b => if a = b then .st else if (Zx.imm y && Zx.imm y2) = true then .ok (.dict (dK [(a, y), (b, y2)])) vs else .st
  | _, _ => .st
def fDctT (ga gb gc gd : VE) : VE := fun vs => (ga vs).bind fun x vs => (gb vs).bind fun y vs => (gc vs).bind fun x2 vs => (gd vs).bind fun y2 vs => twoD x y x2 y2 vs
theorem u_dct2 {vs : List VS} : fDctT ga gb gc gd vs = (ga vs).bind fun x vs => (gb vs).bind fun y vs => (gc vs).bind fun x2 vs => (gd vs).bind fun y2 vs => twoD x y x2 y2 vs := (rfl)
theorem imm_isld {x : PyData} (c : Zx.imm x = true) : isLD x = false := by
  cases x with
  | list _ => cases c
  | dict _ => cases c
  | tuple ds => show (!Zx.immL ds) = false; rw [show Zx.immL ds = true from c]; rfl
  | _ => rfl
theorem ee_h {b : Bool} {k : Nat} {fr : Bool} {L : Nat} {h h0 u : AH} {vs : List VS} {r : VR PyData} {q : R SV} (eh : h0 = h ++ u) (o : OutE b k fr L h0 vs r q) {b2 : Bool} {k2 : Nat} {fr2 : Bool} {L2 : Nat} {K : PyData → List VS → VR PyData} {K' : SV → AH → R SV}
    (c : ∀ x s t fp, RV (h0 ++ t) b k s x fp → OutE b2 k2 fr2 L2 h vs (K x vs) (K' s (h0 ++ t))) : OutE b2 k2 fr2 L2 h vs (r.bind K) (q.bind K') := by
  cases r with
  | ok x vs' =>
    obtain ⟨rfl, s, t, fp, rfl, h2, h3, h4⟩ := o
    exact c x s t fp h2
  | rz cc =>
    obtain ⟨t, rfl⟩ := o
    exact ⟨u ++ t, by rw [eh, List.append_assoc]; rfl⟩
  | st => trivial
theorem ev_dct2 (ha : EV D b1 k1 fr1 fa ga) (hb : EV D b2 k2 fr2 fb gb) (hc : EV D b3 k3 fr3 fc gc) (hd : EV D b4 k4 fr4 fd gd) : EV D false (k + 1) fr (Zx.fDctT fa fb fc fd) (fDctT ga gb gc gd) := by
  intro h sl vs fs R nd
  unfold fDctT Zx.fDctT
  refine ee_h rfl (ha (h ++ [some (.dct [])]) sl vs fs R.app nd) fun x s t f1 r1 => ?_
  refine ee_h (u := [some (.dct [])] ++ t) (by simp only [List.append_assoc]) (hb _ sl vs fs R.app.app nd) fun y s2 t2 f2 r2 => ?_
  refine ee_h (u := [some (.dct [])] ++ t ++ t2) (by simp only [List.append_assoc]) (hc _ sl vs fs R.app.app.app nd) fun x2 s3 t3 f3 r3 => ?_
  refine ee_h (u := [some (.dct [])] ++ t ++ t2 ++ t3) (by simp only [List.append_assoc]) (hd _ sl vs fs R.app.app.app.app nd) fun y2 s4 t4 f4 r4 => ?_
  unfold twoD
  split
  · rename_i a b hka hkb
    split
    · trivial
    rename_i hab
    by_cases him : (Zx.imm y && Zx.imm y2) = true
    case neg =>
      rw [if_neg him]
      trivial
    rw [if_pos him]
    obtain ⟨i1, i2⟩ := (Bool.and_eq_true _ _).mp him
    obtain ⟨rfl, _⟩ := r2.imm i1
    obtain ⟨rfl, _⟩ := r4.imm i2
    have hL : (h ++ [some (AO.dct [])] ++ t ++ t2 ++ t3 ++ t4)[h.length]? = some (some (.dct [])) := by
      simp only [List.append_assoc]
      rw [List.getElem?_append_right (Nat.le_refl _), Nat.sub_self]; rfl
    have hst : (h ++ [some (AO.dct [])] ++ t ++ t2 ++ t3 ++ t4).set h.length (some (.dct [(a, .d y), (b, .d y2)])) = h ++ ([some (.dct [(a, .d y), (b, .d y2)])] ++ (t ++ t2 ++ t3 ++ t4)) := by
      simp only [List.append_assoc]
      rw [List.set_append_right _ _ (Nat.le_refl _), Nat.sub_self]
      rfl
    unfold dTwo
    rw [key_rv (((r1.app (t := t2)).app (t := t3)).app (t := t4)) hka, key_rv (r3.app (t := t4)) hkb, hL]
    dsimp only
    rw [if_neg hab, hst]
    refine ⟨rfl, .r h.length, _, h.length :: ([[], []] : List (List Nat)).flatten, rfl, ?_, by simp, fun _ a m => ?_⟩
    · refine RV.ofD (l := [(a, y), (b, y2)]) (kvs := [(a, .d y), (b, .d y2)]) (fl := [[], []]) ?_ ⟨rfl, RV.dk (imm_isld i1), RV.dk (imm_isld i2), trivial⟩
      rw [List.getElem?_append_right (Nat.le_refl _), Nat.sub_self]; rfl
    · rcases List.mem_cons.mp m with rfl | m
      · exact Nat.le_refl _
      · cases m
  · trivial
end
end Zx.V
namespace Zx.V
open PySem PySem.Spec L2
open Zx (R SV AO AH FE FA FT FS Md Bd It1 Src O RpS En Wd Fn opt nod okR keyOf valS dctR dTwo)
def fmt1 (x : PyData) (vs : List VS) : VR PyData := match x with
  | .str y => if y.length ≤ sizeLine then .ok (.str y) vs else .st
  | .int i => if i.natAbs.log2 < 1920 then .ok (.str (toString i)) vs else .st
  | _ => .st
def fFmt (ga : VE) : VE := fun vs => (ga vs).bind fmt1
theorem u_fmt {ga : VE} {vs : List VS} : fFmt ga vs = (ga vs).bind fmt1 := (rfl)
theorem fmt_s {y : Str} {vs : List VS} (h : y.length ≤ sizeLine) : fmt1 (.str y) vs = .ok (.str y) vs := if_pos h
theorem fmt_i {i : Int} {vs : List VS} (h : i.natAbs.log2 < 1920) : fmt1 (.int i) vs = .ok (.str (toString i)) vs := if_pos h
def js1 (acc : Str) (x : PyData) (k : Str → VR PyData) : VR PyData := match x with
  | .str y => if (acc ++ y).length ≤ sizeLine then k (acc ++ y) else .st
  | _ => .st
def jsV : List VE → Str → VE
  | [], acc, vs => .ok (.str acc) vs
  | g :: gs, acc, vs => (g vs).bind fun x vs => js1 acc x fun a => jsV gs a vs
def fJs (gs : List VE) : VE := fun vs => jsV gs Str.empty vs
theorem u_js {gs : List VE} {vs : List VS} : fJs gs vs = jsV gs Str.empty vs := (rfl)
theorem js_n {acc : Str} {vs : List VS} : jsV [] acc vs = .ok (.str acc) vs := (rfl)
theorem js_c {g : VE} {gs : List VE} {acc : Str} {vs : List VS} : jsV (g :: gs) acc vs = (g vs).bind fun x vs => js1 acc x fun a => jsV gs a vs := (rfl)
theorem js_s {acc y : Str} {k : Str → VR PyData} (h : (acc ++ y).length ≤ sizeLine) : js1 acc (.str y) k = k (acc ++ y) := if_pos h
section
variable {D : List KD} {b b1 fr fr1 : Bool} {k k1 : Nat} {fa : FE} {ga : VE}
theorem ev_fmt (ha : EV D b1 k1 fr1 fa ga) : EV D b k fr (Zx.fFmt fa) (fFmt ga) := by
  intro h sl vs fs R nd
  refine (ha h sl vs fs R nd).ee fun x s t f1 r1 n1 _ => ?_
  cases x with
  | str y =>
    obtain ⟨rfl, _⟩ := r1.imm rfl
    show OutE _ _ _ _ _ _ (if y.length ≤ sizeLine then VR.ok (.str y) vs else .st) (if y.length ≤ sizeLine then Zx.R.ok (.d (.str y)) (h ++ t) else .st)
    split
    · exact OutE.dd (x := .str y) rfl
    · trivial
  | int i =>
    obtain ⟨rfl, _⟩ := r1.imm rfl
    show OutE _ _ _ _ _ _ (if i.natAbs.log2 < 1920 then VR.ok (.str (toString i)) vs else .st) (if i.natAbs.log2 < 1920 then Zx.R.ok (.d (.str (toString i))) (h ++ t) else .st)
    split
    · exact OutE.dd (x := .str _) rfl
    · trivial
  | _ => trivial
inductive EJ (D : List KD) : List FE → List VE → Prop where
  | nil : EJ D [] []
  | cons {f : FE} {g : VE} {fs : List FE} {gs : List VE} {b : Bool} {k : Nat} {fr : Bool} (h : EV D b k fr f g) (r : EJ D fs gs) : EJ D (f :: fs) (g :: gs)
theorem js_e {fs : List FE} {gs : List VE} (e : EJ D fs gs) : ∀ acc : Str, EV D b k fr (Zx.jsR fs acc) (jsV gs acc) := by
  induction e with
  | nil =>
    intro acc h sl vs fs R nd
    exact OutE.dd (x := .str acc) rfl
  | @cons f g fs gs b1 k1 fr1 he _ ih =>
    intro acc h sl vs fs' R nd
    refine (he h sl vs fs' R nd).ee fun x s t f1 r1 n1 _ => ?_
    cases x with
    | str y =>
      obtain ⟨rfl, _⟩ := r1.imm rfl
      show OutE _ _ _ _ _ _ (if (acc ++ y).length ≤ sizeLine then jsV gs (acc ++ y) vs else .st) (if (acc ++ y).length ≤ sizeLine then Zx.jsR fs (acc ++ y) sl (h ++ t) else .st)
      split
      · exact (ih (acc ++ y) (h ++ t) sl vs fs' R.app nd).up (by rw [List.length_append]; omega)
      · trivial
    | _ => trivial
theorem ev_js {fs : List FE} {gs : List VE} (e : EJ D fs gs) : EV D b k fr (Zx.fJs fs) (fJs gs) := fun h sl vs fs' R nd => js_e e Str.empty h sl vs fs' R nd
end
end Zx.V
namespace Zx.V
open PySem PySem.Spec L2
open Zx (R SV AO AH FE FA FT FS Md Bd It1 Src O RpS En Wd Fn opt nod okR keyOf valS dctR dTwo lookS)
def kin1 (neg : Bool) (tbl : List (Str × Str)) (x : PyData) (vs : List VS) : VR PyData := match x with
  | .str z => .ok (.bool (neg ^^ (lookS tbl z).isSome)) vs
  | _ => .st
def kix1 (tbl : List (Str × Str)) (x : PyData) (vs : List VS) : VR PyData := match x with
  | .str z => opt (lookS tbl z) (fun v => .ok (.str v) vs) .st
  | _ => .st
def kget1 (tbl : List (Str × Str)) (x y : PyData) (vs : List VS) : VR PyData := match x with
  | .str z => opt (lookS tbl z) (fun v => .ok (.str v) vs) (.ok y vs)
  | _ => .st
def fKIn (neg : Bool) (tbl : List (Str × Str)) (ga : VE) : VE := fun vs => (ga vs).bind fun x vs => kin1 neg tbl x vs
def fKIx (tbl : List (Str × Str)) (ga : VE) : VE := fun vs => (ga vs).bind fun x vs => kix1 tbl x vs
def fKGet (tbl : List (Str × Str)) (ga gb : VE) : VE := fun vs => (ga vs).bind fun x vs => (gb vs).bind fun y vs => kget1 tbl x y vs
theorem u_kin {neg : Bool} {tbl : List (Str × Str)} {ga : VE} {vs : List VS} : fKIn neg tbl ga vs = (ga vs).bind fun x vs => kin1 neg tbl x vs := (rfl)
theorem u_kix {tbl : List (Str × Str)} {ga : VE} {vs : List VS} : fKIx tbl ga vs = (ga vs).bind fun x vs => kix1 tbl x vs := (rfl)
theorem u_kget {tbl : List (Str × Str)} {ga gb : VE} {vs : List VS} : fKGet tbl ga gb vs = (ga vs).bind fun x vs => (gb vs).bind fun y vs => kget1 tbl x y vs := (rfl)
section
variable {D : List KD} {b b1 b2 fr fr1 fr2 : Bool} {k k1 k2 : Nat} {fa fb : FE} {ga gb : VE} {neg : Bool} {tbl : List (Str × Str)}
theorem ev_kin (ha : EV D b1 k1 fr1 fa ga) : EV D b k fr (Zx.fKIn neg tbl fa) (fKIn neg tbl ga) := by
  intro h sl vs fs R nd
  refine (ha h sl vs fs R nd).ee fun x s t f1 r1 n1 _ => ?_
  cases x with
  | str y =>
    obtain ⟨rfl, _⟩ := r1.imm rfl
    exact OutE.dd (x := .bool _) rfl
  | _ => trivial
theorem ev_kix (ha : EV D b1 k1 fr1 fa ga) : EV D b k fr (Zx.fKIx tbl fa) (fKIx tbl ga) := by
  intro h sl vs fs R nd
  refine (ha h sl vs fs R nd).ee fun x s t f1 r1 n1 _ => ?_
  cases x with
  | str y =>
    obtain ⟨rfl, _⟩ := r1.imm rfl
    show OutE _ _ _ _ _ _ (opt (lookS tbl y) (fun v => VR.ok (.str v) vs) .st) (match lookS tbl y with | some v => Zx.R.ok (.d (.str v)) (h ++ t) | none => .st)
    cases lookS tbl y with
    | some v => exact OutE.dd (x := .str v) rfl
    | none => trivial
  | _ => trivial
theorem ev_kget (ha : EV D b1 k1 fr1 fa ga) (hb : EV D b2 0 fr2 fb gb) : EV D b2 0 fr (Zx.fKGet tbl fa fb) (fKGet tbl ga gb) := by
  intro h sl vs fs R nd
  refine (ha h sl vs fs R nd).ee fun x s t f1 r1 n1 _ => ?_
  refine (hb (h ++ t) sl vs fs R.app nd).ee fun y s2 t2 f2 r2 n2 _ => ?_
  cases x with
  | str z =>
    obtain ⟨rfl, _⟩ := r1.imm rfl
    show OutE _ _ _ _ _ _ (opt (lookS tbl z) (fun v => VR.ok (.str v) vs) (.ok y vs)) (match lookS tbl z with | some v => Zx.R.ok (.d (.str v)) (h ++ t ++ t2) | none => .ok s2 (h ++ t ++ t2))
    cases lookS tbl z with
    | some v => exact OutE.dd (x := .str v) rfl
    | none => exact ⟨rfl, s2, [], [], by rw [List.append_nil], by rw [List.append_nil]; exact ⟨rfl, r2.2⟩, List.nodup_nil, fun _ _ m => by cases m⟩
  | _ => trivial
end
end Zx.V
namespace Zx.V
open PySem PySem.Spec L2
open Zx (R SV AO AH FE FA FT FS Md Bd It1 Src O RpS En Wd Fn opt nod okR keyOf valS dctR dTwo lookS rb rbL lcR lcOne lcPut nrz norm wipeS fzv fzL trimE)
def hnV : List PyData → Option (List PyData)
  | [] => some []
  | d :: r => if (nod d && nod (.list []) && SeqAt.shaped d && SeqAt.shaped (.list [])) = true then (hnV r).map fun l => if PyData.eqv d (.list []) = true then d :: l else l else none
def fHasNil (i : Nat) : VE := fun vs => match vs[i]? with
  | some (.v (.list ds)) => if ds.length < 1000000 then (match hnV ds with | some l => gEq true (.list l) (.list []) vs | none => .st) else .st
  | _ => .st
def nilX : FE := Zx.fFz (Zx.fLst Zx.fNil)
theorem nilX_ok {sl : List SV} {h : AH} : ∃ t, nilX sl h = .ok (.d (.list [])) (h ++ t) := by
  have g : (h ++ [some (AO.lst [])])[h.length]? = some (some (.lst [])) := by
    rw [List.getElem?_append_right (Nat.le_refl _), Nat.sub_self]; rfl
  have hs : (h ++ [some (AO.lst [])]).set h.length none = h ++ [none] := by
    rw [List.set_append_right _ _ (Nat.le_refl _), Nat.sub_self]; rfl
  have e2 : fzv 9 (h ++ [some (AO.lst [])]) (SV.r h.length) = some (.list [], h ++ [none]) := by
    unfold fzv
    rw [g]
    dsimp only
    unfold fzL
    dsimp only
    rw [g]
    dsimp only
    rw [hs, if_pos ⟨rfl, rfl⟩]
  have e : nilX sl h = .ok (.d (.list [])) (trimE h.length sl (h ++ [none])) := by
    unfold nilX Zx.fFz Zx.fLst Zx.fNil
    show (match fzv 9 (h ++ [some (AO.lst [])]) (SV.r h.length) with | some (x, h2) => Zx.R.ok (SV.d x) (trimE h.length sl h2) | none => .st) = _
    rw [e2]
  rw [e]
  unfold trimE
  split
  · exact ⟨[], by rw [List.take_left', List.append_nil]; rfl⟩
  · exact ⟨[none], rfl⟩
theorem rbL_snoc {h : AH} {k : Nat} {s : SV} {d : PyData} (hs : rb h k s = some d) : ∀ {acc : List SV} {ds : List PyData}, rbL h k acc = some ds → rbL h k (acc ++ [s]) = some (ds ++ [d])
  | [], ds, e => by
    unfold rbL at e
    cases e
    show rbL h k [s] = some [d]
    unfold rbL
    rw [hs]
    unfold rbL
    rfl
  | a :: acc, ds, e => by
    unfold rbL at e
    cases ea : rb h k a with
    | none => rw [ea] at e; cases e
    | some x =>
      rw [ea] at e
      cases er : rbL h k acc with
      | none => rw [er] at e; cases e
      | some l =>
        rw [er] at e
        cases e
        show rbL h k (a :: (acc ++ [s])) = some (x :: (l ++ [d]))
        unfold rbL
        rw [ea, rbL_snoc hs er]
theorem hn_test {j : Nat} {sl : List SV} {h : AH} {s : SV} {d : PyData} (hs : sl[j]? = some s) (hu : s ≠ .un) (hr : ∀ t, rb (h ++ t) 9 s = some d) (hc : (nod d && nod (.list []) && SeqAt.shaped d && SeqAt.shaped (.list [])) = true) : ∃ t, Zx.fTst (Zx.fBin (Zx.gEq false) (Zx.fVar j) nilX) sl h = .ok (PyData.eqv d (.list [])) (h ++ t) := by
  have e1 : Zx.fVar j sl h = .ok s h := by
    unfold Zx.fVar
    rw [hs]
    cases s <;> first | rfl | exact absurd rfl hu
  obtain ⟨t, e2⟩ := nilX_ok (sl := sl) (h := h)
  refine ⟨t, ?_⟩
  unfold Zx.fTst Zx.fBin
  rw [e1]
  show (((nilX sl h).bind fun y h2 => Zx.gEq false s y h2).bind _) = _
  rw [e2]
  show ((Zx.gEq false s (.d (.list [])) (h ++ t)).bind _) = _
  unfold Zx.gEq
  rw [hr t, show rb (h ++ t) 9 (SV.d (.list [])) = some (.list []) from by unfold rb; rfl]
  dsimp only
  rw [if_pos hc]
  show Zx.R.ok _ _ = _
  rw [Bool.false_xor]
theorem hn_norm {slw : List SV} {h h2 t : AH} {a : Option AO} (e : h2 = h ++ a :: t) : ∃ t', (norm [] (h.length + 1) slw h2).2 = h ++ a :: t' := by
  unfold norm
  split
  · refine ⟨[], ?_⟩
    show h2.take (h.length + 1) = _
    rw [e, List.take_append, List.take_of_length_le (by omega), show h.length + 1 - h.length = 1 by omega]
    rfl
  · exact ⟨t, e⟩
theorem hn_loop {h : AH} {n j : Nat} {slw : List SV} {xs : List SV} {ds : List PyData} (hn : h[n]? = some (some (.lst xs))) (hj : j < slw.length) (hr : ∀ (i : Nat) (s : SV), xs[i]? = some s → ∃ d, ds[i]? = some d ∧ s ≠ .un ∧ ∀ t k, 8 ≤ k → rb (h ++ t) k s = some d) (hl : xs.length = ds.length) (hx : xs.length < 1000000) :
    ∀ (c i : Nat) (acc : List SV) (dacc : List PyData) (t : AH) (l : List PyData), i + c = xs.length → acc.length ≤ i → (∀ t, rbL (h ++ t) 8 acc = some dacc) → hnV (ds.drop i) = some l →
      ∃ acc' t', lcR h.length (.nm j) (Zx.fTst (Zx.fBin (Zx.gEq false) (Zx.fVar j) nilX)) (Zx.fVar j) slw n c i (h ++ some (.lst acc) :: t) = .ok () (h ++ some (.lst acc') :: t') ∧ ∀ t, rbL (h ++ t) 8 acc' = some (dacc ++ l)
  | 0, i, acc, dacc, t, l, hi, ha, hd, hv => by
    have hnn : n < h.length := (List.getElem?_eq_some_iff.mp hn).1
    have e : (h ++ some (AO.lst acc) :: t)[n]? = some (some (.lst xs)) := by rw [List.getElem?_append_left hnn, hn]
    rw [List.drop_of_length_le (by omega)] at hv
    cases hv
    refine ⟨acc, t, ?_, fun t => by rw [hd t, List.append_nil]⟩
    unfold lcR
    rw [e]
    dsimp only
    rw [if_pos (by omega)]
  | c + 1, i, acc, dacc, t, l, hi, ha, hd, hv => by
    have hnn : n < h.length := (List.getElem?_eq_some_iff.mp hn).1
    have e : (h ++ some (AO.lst acc) :: t)[n]? = some (some (.lst xs)) := by rw [List.getElem?_append_left hnn, hn]
    obtain ⟨s, es⟩ : ∃ s, xs[i]? = some s := ⟨_, List.getElem?_eq_getElem (by omega)⟩
    obtain ⟨d, ed, hu, hrb⟩ := hr i s es
    have edr : ds.drop i = d :: ds.drop (i + 1) := by
      have hlt : i < ds.length := (List.getElem?_eq_some_iff.mp ed).1
      rw [List.drop_eq_getElem_cons hlt, (List.getElem?_eq_some_iff.mp ed).2]
    rw [edr] at hv
    unfold hnV at hv
    split at hv
    · rename_i hc
      obtain ⟨l2, hv2, el⟩ := Option.map_eq_some_iff.mp hv
      have hst : (slw.set j s)[j]? = some s := List.getElem?_set_self hj
      obtain ⟨t1, e1⟩ := hn_test (h := h ++ some (.lst acc) :: t) hst hu (fun t' => by rw [List.append_assoc]; exact hrb _ 9 (by decide)) hc
      unfold lcR
      rw [e]
      dsimp only
      rw [es]
      dsimp only
      unfold lcOne
      rw [show Bd.go (.nm j) (.one s) slw = some (slw.set j s) from rfl]
      dsimp only
      rw [e1]
      have h1e : (h ++ some (AO.lst acc) :: t) ++ t1 = h ++ some (AO.lst acc) :: (t ++ t1) := by rw [List.append_assoc]; rfl
      rw [h1e]
      show ∃ acc' t', (if PyData.eqv d (.list []) = true then (nrz (Zx.fVar j (slw.set j s) (h ++ some (AO.lst acc) :: (t ++ t1)))).bind fun s h2 => lcPut h.length slw s h2 (lcR h.length (.nm j) (Zx.fTst (Zx.fBin (Zx.gEq false) (Zx.fVar j) nilX)) (Zx.fVar j) slw n c (i + 1)) else lcR h.length (.nm j) (Zx.fTst (Zx.fBin (Zx.gEq false) (Zx.fVar j) nilX)) (Zx.fVar j) slw n c (i + 1) (norm [] (h.length + 1) slw (h ++ some (AO.lst acc) :: (t ++ t1))).snd) = .ok () (h ++ some (.lst acc') :: t') ∧ ∀ t, rbL (h ++ t) 8 acc' = some (dacc ++ l)
      by_cases hb : PyData.eqv d (.list []) = true
      · rw [if_pos hb]
        rw [if_pos hb] at el
        have e2 : Zx.fVar j (slw.set j s) (h ++ some (AO.lst acc) :: (t ++ t1)) = .ok s (h ++ some (AO.lst acc) :: (t ++ t1)) := by
          unfold Zx.fVar
          rw [hst]
          cases s <;> first | rfl | exact absurd rfl hu
        rw [e2]
        show ∃ acc' t', lcPut h.length slw s (h ++ some (AO.lst acc) :: (t ++ t1)) _ = _ ∧ _
        unfold lcPut
        have g : (h ++ some (AO.lst acc) :: (t ++ t1))[h.length]? = some (some (.lst acc)) := by
          rw [List.getElem?_append_right (Nat.le_refl _), Nat.sub_self]; rfl
        rw [g]
        dsimp only
        rw [if_pos (by omega)]
        have hset : (h ++ some (AO.lst acc) :: (t ++ t1)).set h.length (some (.lst (acc ++ [s]))) = h ++ some (AO.lst (acc ++ [s])) :: (t ++ t1) := by
          rw [List.set_append_right _ _ (Nat.le_refl _), Nat.sub_self]; rfl
        rw [hset]
        obtain ⟨t2, e3⟩ := hn_norm (slw := slw) (h := h) (t := t ++ t1) (a := some (.lst (acc ++ [s]))) rfl
        rw [e3]
        obtain ⟨acc', t', q1, q2⟩ := hn_loop hn hj hr hl hx c (i + 1) (acc ++ [s]) (dacc ++ [d]) t2 l2 (by omega) (by rw [List.length_append, List.length_singleton]; omega) (fun t => rbL_snoc (hrb t 8 (by decide)) (hd t)) hv2
        refine ⟨acc', t', q1, fun t => ?_⟩
        rw [q2 t, ← el, List.append_assoc]
        rfl
      · rw [if_neg hb]
        rw [if_neg hb] at el
        obtain ⟨t2, e3⟩ := hn_norm (slw := slw) (h := h) (t := t ++ t1) (a := some (.lst acc)) rfl
        rw [e3]
        obtain ⟨acc', t', q1, q2⟩ := hn_loop hn hj hr hl hx c (i + 1) acc dacc t2 l2 (by omega) (by omega) hd hv2
        exact ⟨acc', t', q1, fun t => by rw [q2 t, el]⟩
    · cases hv
theorem ev_hasnil {D : List KD} {b fr : Bool} {k i j : Nat} (e : D[i]? = some (false, 2) := by rfl) (hj : j < D.length := by decide) : EV D b k fr (Zx.fBin (Zx.gEq true) (Zx.fLc (Zx.iSeq (Zx.fVar i)) (.nm j) (Zx.fTst (Zx.fBin (Zx.gEq false) (Zx.fVar j) (Zx.fFz (Zx.fLst Zx.fNil)))) (Zx.fVar j) [j]) (Zx.fFz (Zx.fLst Zx.fNil))) (fHasNil i) := by
  intro h sl vs fs R nd
  unfold fHasNil
  split
  case h_2 => trivial
  rename_i ds ev
  split
  case isFalse => trivial
  rename_i hlen
  split
  case h_2 => trivial
  rename_i l hv
  obtain ⟨n, xs, fl, e1, e2, hn, q⟩ := slotL e R ev
  have hql := q.len.1
  have hsl : j < (wipeS sl [j]).length := by
    show j < (sl.set j .un).length
    rw [List.length_set, R.len.1]
    exact hj
  have hr : ∀ (i : Nat) (s : SV), xs[i]? = some s → ∃ d, ds[i]? = some d ∧ s ≠ .un ∧ ∀ t k, 8 ≤ k → rb (h ++ t) k s = some d := fun i s es => by
    have hi : i < ds.length := by
      have := (List.getElem?_eq_some_iff.mp es).1
      omega
    obtain ⟨s', f, es', _, r⟩ := q.get (List.getElem?_eq_getElem hi)
    cases es.symm.trans es'
    have r1 : ∀ t k, 8 ≤ k → rb (h ++ t) k s = some ds[i] := fun t k hk => (RV.app (t := t) r).rb (by omega)
    refine ⟨ds[i], List.getElem?_eq_getElem hi, fun z => ?_, r1⟩
    have := r1 [] 8 (by decide)
    rw [z] at this
    unfold rb at this
    cases this
  have h0 : (h ++ [some (AO.lst [])])[n]? = some (some (.lst xs)) := by
    rw [List.getElem?_append_left (List.getElem?_eq_some_iff.mp hn).1, hn]
  obtain ⟨acc', t', q1, q2⟩ := hn_loop (j := j) (slw := wipeS sl [j]) hn hsl hr hql (by omega) xs.length 0 [] [] [] l (by omega) (Nat.le_refl _) (fun t => by unfold rbL; rfl) hv
  have ef : Zx.fLc (Zx.iSeq (Zx.fVar i)) (.nm j) (Zx.fTst (Zx.fBin (Zx.gEq false) (Zx.fVar j) nilX)) (Zx.fVar j) [j] sl h = .ok (.r h.length) (h ++ some (.lst acc') :: t') := by
    have ev0 : Zx.fVar i sl h = .ok (.r n) h := by
      unfold Zx.fVar
      rw [e1]
    have es : Zx.iSeq (Zx.fVar i) sl h = .ok (.ow n) h := by
      unfold Zx.iSeq
      rw [ev0]
      show (match h[n]? with | some (some (.lst _)) => Zx.R.ok (Src.ow n) h | _ => .st) = _
      rw [hn]
    unfold Zx.fLc
    rw [es]
    show (match h[n]? with | some (some (.lst xs)) => (lcR h.length (.nm j) (Zx.fTst (Zx.fBin (Zx.gEq false) (Zx.fVar j) nilX)) (Zx.fVar j) (wipeS sl [j]) n xs.length 0 (h ++ [some (AO.lst [])])).bind fun _ h2 => Zx.R.ok (SV.r h.length) h2 | _ => .st) = _
    rw [hn]
    show (lcR h.length (.nm j) _ _ (wipeS sl [j]) n xs.length 0 (h ++ [some (AO.lst [])])).bind _ = _
    rw [q1]
    rfl
  obtain ⟨t2, e3⟩ := nilX_ok (sl := sl) (h := h ++ some (.lst acc') :: t')
  have eb : Zx.fBin (Zx.gEq true) (Zx.fLc (Zx.iSeq (Zx.fVar i)) (.nm j) (Zx.fTst (Zx.fBin (Zx.gEq false) (Zx.fVar j) nilX)) (Zx.fVar j) [j]) nilX sl h = Zx.gEq true (.r h.length) (.d (.list [])) (h ++ (some (.lst acc') :: t' ++ t2)) := by
    show ((Zx.fLc (Zx.iSeq (Zx.fVar i)) (.nm j) (Zx.fTst (Zx.fBin (Zx.gEq false) (Zx.fVar j) nilX)) (Zx.fVar j) [j] sl h).bind fun x h1 => (nilX sl h1).bind fun y h2 => Zx.gEq true x y h2) = _
    rw [ef]
    show (nilX sl (h ++ some (AO.lst acc') :: t')).bind _ = _
    rw [e3, List.append_assoc]
    rfl
  show OutE b k fr h.length h vs (gEq true (.list l) (.list []) vs) (Zx.fBin (Zx.gEq true) (Zx.fLc (Zx.iSeq (Zx.fVar i)) (.nm j) (Zx.fTst (Zx.fBin (Zx.gEq false) (Zx.fVar j) nilX)) (Zx.fVar j) [j]) nilX sl h)
  rw [eb]
  unfold gEq Zx.gEq
  have er : rb (h ++ (some (AO.lst acc') :: t' ++ t2)) 9 (SV.r h.length) = some (.list l) := by
    unfold rb
    rw [List.getElem?_append_right (Nat.le_refl _), Nat.sub_self]
    show (rbL _ 8 acc').map PyData.list = _
    rw [q2 _]
    rfl
  rw [er, show rb (h ++ (some (AO.lst acc') :: t' ++ t2)) 9 (SV.d (.list [])) = some (.list []) from by unfold rb; rfl]
  dsimp only
  split
  · exact ⟨rfl, _, some (AO.lst acc') :: t' ++ t2, [], rfl, RV.dk rfl, List.nodup_nil, fun _ _ m => by cases m⟩
  · trivial
end Zx.V
namespace Zx.V
open PySem PySem.Spec L2
open Zx (R SV AO AH FE FA FT FS Md Bd It1 Src O RpS En Wd Fn opt nod)
mutual
def upK : Nat → PyData → Bool
  | 0, x => !isLD x
  | k + 1, .list ds => upL k ds
  | k + 1, .dict ps => upD k ps
  | k + 1, .tuple ds => immL ds || upL k ds
  | _ + 1, x => true
def upL : Nat → List PyData → Bool
  | _, [] => true
  | k, d :: ds => upK k d && upL k ds
def upD : Nat → List (PyData × PyData) → Bool
  | _, [] => true
  | k, p :: ps => upK k p.2 && upD k ps
end
theorem upD_zip {k : Nat} : ∀ {ks : List Key} {ds : List PyData}, ks.length = ds.length → upD k (zipD ks ds) = true → upL k ds = true
  | [], [], _, _ => by unfold upL; rfl
  | key :: ks, d :: ds, h, e => by
    have e : upD k ((kD key, d) :: zipD ks ds) = true := e
    unfold upD at e
    rw [Bool.and_eq_true] at e
    unfold upL
    rw [e.1, upD_zip (Nat.succ.inj h) e.2]; rfl
  | [], d :: ds, h, _ => by cases h
  | k :: ks, [], h, _ => by cases h
theorem RV.up {h : AH} {b : Bool} : ∀ {k : Nat} {s : SV} {x : PyData} {f : List Nat}, RV h b k s x f → upK k x = true → RV h b (k + 1) s x f
  | 0, s, x, f, r, c => by
    unfold upK at c
    unfold RV
    exact .inl ⟨r.1, r.2, by simpa using c⟩
  | k + 1, s, x, f, r, c => by
    have lst : ∀ {xs : List SV} {ds : List PyData} {fs : List (List Nat)}, Fa3 (RV h b k) xs ds fs → upL k ds = true → Fa3 (RV h b (k + 1)) xs ds fs := by
      intro xs
      induction xs with
      | nil =>
        intro ds fs q c
        cases ds with
        | nil => cases fs with
          | nil => exact trivial
          | cons f fs => exact q.elim
        | cons d ds => cases fs <;> exact q.elim
      | cons a xs ih =>
        intro ds fs q c
        cases ds with
        | nil => cases fs <;> exact q.elim
        | cons d ds =>
          cases fs with
          | nil => exact q.elim
          | cons f fs =>
            unfold upL at c
            rw [Bool.and_eq_true] at c
            exact ⟨RV.up q.1 c.1, ih q.2 c.2⟩
    unfold RV at r
    unfold RV
    rcases r with r | ⟨n, xs, ds, fs, rfl, hn, rfl, rfl, r⟩ | ⟨n, xs, ds, fs, rfl, hn, rfl, rfl, r⟩ | ⟨n, xs, ds, fs, rfl, hn, rfl, rfl, r⟩
    · exact .inl r
    · exact .inr (.inl ⟨n, xs, ds, fs, rfl, hn, rfl, rfl, lst r (by unfold upK at c; exact c)⟩)
    · exact .inr (.inr (.inl ⟨n, xs, ds, fs, rfl, hn, rfl, rfl, lst r (upD_zip (ks := xs.map Prod.fst) (by have := r.len.1; simpa using this) (by unfold upK at c; exact c))⟩))
    · exact .inr (.inr (.inr ⟨n, xs, ds, fs, rfl, hn, rfl, rfl, lst r (by unfold upK at c; rw [hn.2, Bool.false_or] at c; exact c)⟩))
def fUp (k : Nat) (ga : VE) : VE := fun vs => (ga vs).bind fun x vs => if upK k x = true then .ok x vs else .st
section
variable {D : List KD} {b fr : Bool} {k : Nat} {fa : FE} {ga : VE}
theorem ev_up (ha : EV D b k fr fa ga) : EV D b (k + 1) fr fa (fUp k ga) := by
  intro h sl vs fs R nd
  have o := ha h sl vs fs R nd
  unfold fUp
  generalize ga vs = r at o ⊢
  generalize fa sl h = q at o ⊢
  cases r with
  | ok x vs' =>
    obtain ⟨rfl, s, t, fp, rfl, h3, h4⟩ := o
    show OutE _ _ _ _ _ _ (if upK k x = true then .ok x vs' else .st) _
    split
    · rename_i c
      exact ⟨rfl, s, t, fp, rfl, h3.up c, h4⟩
    · trivial
  | rz c => exact o
  | st => trivial
end
end Zx.V
namespace Zx.V
open PySem PySem.Spec L2
open Zx (R SV AO AH FE FA FT FS Md Bd It1 Src O RpS En Wd Fn opt nod imm immL lim cutX allD)
theorem allD_map (ds : List PyData) : allD (ds.map SV.d) = some ds := by
  induction ds with
  | nil => rfl
  | cons d ds ih => rw [List.map_cons]; unfold allD; rw [ih]; rfl
theorem immL_take : ∀ {ds : List PyData} (n : Nat), immL ds = true → immL (ds.take n) = true
  | [], n, h => by rw [List.take_nil]; exact h
  | d :: ds, 0, h => by rw [List.take_zero]; unfold immL; rfl
  | d :: ds, n + 1, h => by
    unfold immL at h
    rw [Bool.and_eq_true] at h
    rw [List.take_succ_cons]
    unfold immL
    rw [h.1, immL_take n h.2]; rfl
theorem immL_drop : ∀ {ds : List PyData} (n : Nat), immL ds = true → immL (ds.drop n) = true
  | [], n, h => by rw [List.drop_nil]; exact h
  | d :: ds, 0, h => h
  | d :: ds, n + 1, h => by
    unfold immL at h
    rw [Bool.and_eq_true] at h
    exact immL_drop n h.2
theorem immL_app : ∀ {ds es : List PyData}, immL ds = true → immL es = true → immL (ds ++ es) = true
  | [], es, h, k => k
  | d :: ds, es, h, k => by
    unfold immL at h
    rw [Bool.and_eq_true] at h
    rw [List.cons_append]
    unfold immL
    rw [h.1, immL_app h.2 k]; rfl
theorem tup_ld {ds : List PyData} (h : immL ds = true) : isLD (.tuple ds) = false := by show (!immL ds) = false; rw [h]; rfl
theorem tup_imm {ds : List PyData} (h : immL ds = true) : imm (.tuple ds) = true := by unfold imm; exact h
theorem cutX_map {α β : Type} (f : α → β) (xs : List α) (lo hi : Option Int) : cutX (xs.map f) lo hi = (cutX xs lo hi).map f := by
  unfold cutX
  rw [List.length_map, List.map_take, List.map_drop]
abbrev whole (n : Nat) (lo hi : Option Int) : Prop := HT.sIx n 0 lo = 0 ∧ HT.sIx n n hi = n
def fSlU (ga : VE) (gl gh : VOo) : VE := fun vs => (ga vs).bind fun x vs => (gl vs).bind fun lo vs => (gh vs).bind fun hi vs => match x with
  | .tuple ds => if immL ds = true ∧ ¬ whole ds.length lo hi then .ok (.tuple (cutX ds lo hi)) vs else .st
  | _ => .st
def gCatU : PyData → PyData → List VS → VR PyData := fun x y vs => match x, y with
  | .tuple (a :: xs), .tuple (b :: ys) => if (immL (a :: xs) = true ∧ immL (b :: ys) = true) ∧ (a :: xs).length + (b :: ys).length < lim then .ok (.tuple (a :: xs ++ b :: ys)) vs else .st
  | _, _ => .st
def iTupU (ga : VE) : VSr := iTupl ga
def iAnyS (ga : VE) : VSr := fun vs => (ga vs).bind fun x vs => match x with
  | .tuple ds => .ok (ds.map .one) vs
  | .list ds => .ok (ds.map .one) vs
  | _ => .st
section
variable {D : List KD} {b b1 b2 fr fr1 : Bool} {k k1 k2 : Nat} {fa : FE} {ga : VE} {fl fh : List SV → AH → R (Option Int)} {gl gh : VOo}
theorem ev_slU (ha : EV D b k fr1 fa ga) (hl : OV D fl gl) (hh : OV D fh gh) : EV D b2 k2 fr (Zx.fSlU fa fl fh) (fSlU ga gl gh) := by
  intro h sl vs fs R nd
  refine (ha h sl vs fs R nd).ee fun x s t f1 r1 n1 _ => ?_
  refine (hl (h ++ t) sl vs fs R.app nd).pe fun lo lo' t2 e => ?_
  subst e
  refine (hh (h ++ t ++ t2) sl vs fs (RSt.app (RSt.app R)) nd).pe fun hi hi' t3 e => ?_
  subst e
  split
  · rename_i ds
    split
    · rename_i c
      obtain ⟨c1, c2⟩ := c
      obtain ⟨rfl, -⟩ := r1.imm (tup_imm c1)
      unfold Zx.tupOf
      dsimp only
      rw [List.length_map, if_neg c2, cutX_map]
      unfold Zx.mkTp
      rw [allD_map]
      exact OutE.dd (tup_ld (immL_take _ (immL_drop _ c1)))
    · trivial
  · trivial
theorem ov_catU : OpV b1 k1 b2 k2 b k fr Zx.gCatU gCatU := by
  intro h vs s t x y f1 f2 r1 n1 r2
  unfold gCatU
  split
  · rename_i a xs c ys
    split
    · rename_i q
      obtain ⟨⟨q1, q2⟩, q3⟩ := q
      obtain ⟨rfl, -⟩ := r1.imm (tup_imm q1)
      obtain ⟨rfl, -⟩ := r2.imm (tup_imm q2)
      unfold Zx.gCatU Zx.tupOf
      simp only [List.map_cons]
      have q4 : (SV.d a :: xs.map SV.d).length + (SV.d c :: ys.map SV.d).length < lim := by simpa using q3
      rw [if_pos q4]
      unfold Zx.mkTp
      rw [show SV.d a :: xs.map SV.d ++ SV.d c :: ys.map SV.d = (a :: xs ++ c :: ys).map SV.d from by simp, allD_map]
      exact OutE.dd (tup_ld (immL_app q1 q2))
    · trivial
  · trivial
theorem iv_tupU (ha : EV D b 0 fr fa ga) : IV D b (Zx.iTupU fa) (iTupU ga) := by
  intro h sl vs fs R nd
  refine (ha h sl vs fs R nd).ep fun x s t f1 r1 n1 _ => ?_
  split
  · rename_i ds
    rcases r1.2 with rfl | ⟨rfl, rfl⟩
    · exact ⟨rfl, _, [], by rw [List.append_nil]; rfl, _, rfl, by rw [List.map_map]; exact fi_d ds⟩
    · by_cases c : imm (.tuple ds) = true
      · rw [show mkv (.tuple ds) = .d (.tuple ds) from by unfold mkv; rw [if_pos c]]
        exact ⟨rfl, _, [], by rw [List.append_nil]; rfl, _, rfl, by rw [List.map_map]; exact fi_d ds⟩
      · rw [show mkv (.tuple ds) = .vw (.tuple ds) from by unfold mkv; rw [if_neg c]]
        exact ⟨rfl, _, [], by rw [List.append_nil]; rfl, _, rfl, by rw [List.map_map]; exact fi_v ds⟩
  · trivial
theorem iv_anyS (ha : EV D b 0 fr fa ga) : IV D b (Zx.iAnyS fa) (iAnyS ga) := by
  intro h sl vs fs R nd
  refine (ha h sl vs fs R nd).ep fun x s t f1 r1 n1 _ => ?_
  split
  · rename_i ds
    rcases r1.2 with rfl | ⟨rfl, rfl⟩
    · exact ⟨rfl, _, [], by rw [List.append_nil]; rfl, _, rfl, by rw [List.map_map]; exact fi_d ds⟩
    · by_cases c : imm (.tuple ds) = true
      · rw [show mkv (.tuple ds) = .d (.tuple ds) from by unfold mkv; rw [if_pos c]]
        exact ⟨rfl, _, [], by rw [List.append_nil]; rfl, _, rfl, by rw [List.map_map]; exact fi_d ds⟩
      · rw [show mkv (.tuple ds) = .vw (.tuple ds) from by unfold mkv; rw [if_neg c]]
        exact ⟨rfl, _, [], by rw [List.append_nil]; rfl, _, rfl, by rw [List.map_map]; exact fi_v ds⟩
  · rename_i ds
    rcases r1.2 with rfl | ⟨rfl, rfl⟩
    · exact ⟨rfl, _, [], by rw [List.append_nil]; rfl, _, rfl, fi_d ds⟩
    · exact ⟨rfl, _, [], by rw [List.append_nil]; rfl, _, rfl, fi_v ds⟩
  · trivial
end
abbrev appB (j : Nat) : FS := Zx.sIf (Zx.fTst (Zx.fIsi "list" (Zx.fVar j))) (Zx.sExpr (Zx.fBM Zx.kdL (Zx.gOwn Zx.kAppend) (Zx.fVar j) (Zx.fCons (Zx.fC .none) Zx.fNil))) Zx.sNext
def okA : PyData → Bool
  | .list ds => decide (ds.length < lim)
  | x => imm x
def okAL : List PyData → Bool
  | [] => true
  | x :: xs => okA x && okAL xs
def sAppN (i j : Nat) : VF := fun vs => match vs[i]? with
  | some (.v (.tuple ds)) => if okAL (cutX ds (some 2) none) = true ∧ ¬ whole ds.length (some 2) none then .nx ((vs.set i .un).set j .un) else .st
  | _ => .st
theorem body_ok {h : AH} {k j : Nat} {s : SV} {x : PyData} {g : List Nat} {sl : List SV} (jl : j < sl.length) (r : RV h false (k + 1) s x g) (o : okA x = true) : ∃ h1, appB j (sl.set j s) h = .nx (sl.set j s) h1 ∧ h1.length = h.length ∧ ∀ n, n ∉ g → h1[n]? = h[n]? := by
  have im : ∀ y : PyData, s = .d y → imm y = true → ∃ h1, appB j (sl.set j s) h = .nx (sl.set j s) h1 ∧ h1.length = h.length ∧ ∀ n, n ∉ g → h1[n]? = h[n]? := by
    rintro y rfl c
    refine ⟨h, ?_, rfl, fun n _ => rfl⟩
    have v : Zx.fVar j (sl.set j (.d y)) h = .ok (.d y) h := by
      unfold Zx.fVar
      rw [List.getElem?_set_self jl]
    have q : Zx.fIsi "list" (Zx.fVar j) (sl.set j (.d y)) h = .ok (.d (.bool false)) h := by
      unfold Zx.fIsi
      rw [v]
      cases y with
      | list ds => cases c
      | dict ps => cases c
      | _ => rfl
    unfold appB Zx.sIf Zx.fTst
    rw [q]
    rfl
  cases x with
  | list ds =>
    unfold RV at r
    rcases r with r | ⟨n, xs, ds', fs, rfl, hn, e, rfl, q⟩ | ⟨_, _, _, _, _, _, e, _⟩ | ⟨_, _, _, _, _, _, e, _⟩
    · cases r.2.2
    · cases e
      have hl : xs.length < lim := by
        have := q.len.1
        unfold okA at o
        have := of_decide_eq_true o
        omega
      refine ⟨h.set n (some (.lst (xs ++ [.d .none]))), ?_, List.length_set, fun m hm => List.getElem?_set_ne (fun z => hm (by rw [← z]; exact List.mem_cons_self))⟩
      have v : Zx.fVar j (sl.set j (.r n)) h = .ok (.r n) h := by
        unfold Zx.fVar
        rw [List.getElem?_set_self jl]
      have q1 : Zx.fIsi "list" (Zx.fVar j) (sl.set j (.r n)) h = .ok (.d (.bool true)) h := by
        unfold Zx.fIsi
        rw [v]
        show (match Zx.tyOf h (.r n) with | some t => _ | none => _) = _
        unfold Zx.tyOf
        dsimp only
        rw [hn]
        rfl
      have q2 : Zx.fBM Zx.kdL (Zx.gOwn Zx.kAppend) (Zx.fVar j) (Zx.fCons (Zx.fC .none) Zx.fNil) (sl.set j (.r n)) h = .ok (.d .none) (h.set n (some (.lst (xs ++ [.d .none])))) := by
        unfold Zx.fBM
        rw [v]
        show (if Zx.kdL h (.r n) = true then Zx.gOwn Zx.kAppend (.r n) [.d .none] h else .st) = _
        have k1 : Zx.kdL h (.r n) = true := by
          unfold Zx.kdL Zx.lstOf
          dsimp only
          rw [hn]; rfl
        rw [if_pos k1]
        unfold Zx.gOwn
        dsimp only
        rw [hn]
        unfold Zx.kAppend
        dsimp only
        rw [if_pos hl]
      unfold appB Zx.sIf Zx.fTst
      rw [q1]
      show Zx.sExpr _ (sl.set j (.r n)) h = _
      unfold Zx.sExpr
      rw [q2]
      rfl
    · cases e
    · cases e
  | dict ps => cases o
  | tuple ds => exact im _ (r.imm o).1 o
  | none => exact im _ (r.imm rfl).1 rfl
  | bool q => exact im _ (r.imm rfl).1 rfl
  | int q => exact im _ (r.imm rfl).1 rfl
  | str q => exact im _ (r.imm rfl).1 rfl
theorem reset_at : ∀ (as bs : List SV) (i : Nat), bs[i]? = as[i]? → (Zx.reset as bs)[i]? = as[i]?
  | [], bs, i, e => by unfold Zx.reset; exact e
  | a :: as, [], i, e => by unfold Zx.reset; exact e
  | a :: as, b :: bs, 0, e => by
    unfold Zx.reset
    cases e
    cases a <;> rfl
  | a :: as, b :: bs, i + 1, e => by
    unfold Zx.reset
    exact reset_at as bs i e
theorem norm_id {sl0 sl : List SV} {L : Nat} {h : AH} (e : h.length = L) : Zx.norm sl0 L sl h = (Zx.reset sl0 sl, h) := by
  unfold Zx.norm
  split
  · rw [← e, List.take_length]
  · rfl
theorem app_loop {sl0 : List SV} {L k j : Nat} (jl : j < sl0.length) : ∀ {ss : List SV} {xs : List PyData} {gs : List (List Nat)} {sl : List SV} {h : AH}, Fa3 (RV h false (k + 1)) ss xs gs → gs.flatten.Nodup → okAL xs = true → h.length = L → (∀ a, a ≠ j → sl[a]? = sl0[a]?) → sl.length = sl0.length →
    ∃ sl' h', Zx.forC sl0 L (.nm j) (appB j) (ss.map It1.one) sl h = .nx sl' h' ∧ h'.length = L ∧ (∀ n, n ∉ gs.flatten → h'[n]? = h[n]?) ∧ (∀ a, a ≠ j → sl'[a]? = sl0[a]?) ∧ sl'.length = sl0.length
  | [], [], [], sl, h, _, _, _, hL, ha, hs => ⟨sl, h, rfl, hL, fun _ _ => rfl, ha, hs⟩
  | s :: ss, x :: xs, g :: gs, sl, h, ⟨r, q⟩, nd, ok, hL, ha, hs => by
    unfold okAL at ok
    rw [Bool.and_eq_true] at ok
    rw [List.flatten_cons, List.nodup_append] at nd
    obtain ⟨h1, e1, e2, e3⟩ := body_ok (sl := sl) (j := j) (by omega) r ok.1
    have q1 : Fa3 (RV h1 false (k + 1)) ss xs gs := Fa3.imp (cs0 := gs) (fun a b c hc p => p.frame fun m hm => e3 m fun z => nd.2.2 m z m (List.mem_flatten.mpr ⟨c, hc, hm⟩) rfl) (fun c hc => hc) q
    have l1 : (Zx.reset sl0 (sl.set j s)).length = sl0.length := by rw [Zx.reset_len, List.length_set, hs]
    obtain ⟨sl', h', f1, f2, f3, f4, f5⟩ := app_loop jl (sl := Zx.reset sl0 (sl.set j s)) q1 nd.2.1 ok.2 (e2.trans hL) (fun a z => reset_at _ _ _ (by rw [List.getElem?_set_ne (Ne.symm z)]; exact ha a z)) l1
    refine ⟨sl', h', ?_, f2, fun n hn => ?_, f4, f5⟩
    · show (match (Bd.nm j).go (.one s) sl with | none => Zx.O.st | some sl1 => Zx.aft sl0 L (appB j sl1 h) (Zx.forC sl0 L (.nm j) (appB j) (ss.map It1.one))) = _
      show Zx.aft sl0 L (appB j (sl.set j s) h) _ = _
      rw [e1]
      show Zx.forC sl0 L (.nm j) (appB j) (ss.map It1.one) (Zx.norm sl0 L (sl.set j s) h1).1 (Zx.norm sl0 L (sl.set j s) h1).2 = _
      rw [norm_id (e2.trans hL)]
      exact f1
    · rw [List.flatten_cons, List.mem_append, not_or] at hn
      exact (f3 n hn.2).trans (e3 n hn.1)
  | [], [], c :: cs, _, _, h, _, _, _, _, _ => h.elim
  | [], b :: bs, [], _, _, h, _, _, _, _, _ => h.elim
  | [], b :: bs, c :: cs, _, _, h, _, _, _, _, _ => h.elim
  | a :: as, [], [], _, _, h, _, _, _, _, _ => h.elim
  | a :: as, [], c :: cs, _, _, h, _, _, _, _, _ => h.elim
  | a :: as, b :: bs, [], _, _, h, _, _, _, _, _ => h.elim
theorem imm_nld {x : PyData} (c : imm x = true) : isLD x = false := by
  cases x with
  | list _ => cases c
  | dict _ => cases c
  | tuple ds => exact tup_ld c
  | _ => rfl
theorem fa_dimm {h : AH} {b : Bool} {k : Nat} : ∀ {xs : List PyData}, immL xs = true → Fa3 (RV h b k) (xs.map SV.d) xs (xs.map fun _ => [])
  | [], _ => trivial
  | x :: xs, c => by
    unfold immL at c
    rw [Bool.and_eq_true] at c
    exact ⟨RV.dk (imm_nld c.1), fa_dimm c.2⟩
theorem nil_flat {α : Type} : ∀ (xs : List α), (xs.map fun _ => ([] : List Nat)).flatten = []
  | [] => rfl
  | x :: xs => by rw [List.map_cons, List.flatten_cons, nil_flat xs]; rfl
theorem allD_inv : ∀ {ss : List SV} {ds : List PyData}, allD ss = some ds → ss = ds.map SV.d
  | [], ds, e => by cases e; rfl
  | s :: ss, ds, e => by
    cases s with
    | d y =>
      unfold allD at e
      cases e2 : allD ss with
      | none => rw [e2] at e; cases e
      | some d2 =>
        rw [e2] at e
        cases e
        rw [List.map_cons, ← allD_inv e2]
    | un => cases e
    | vw y => cases e
    | r n => cases e
    | sc n => cases e
    | ex n => cases e
theorem mem_set_nil {L : List (List Nat)} {j n : Nat} (h : n ∈ (L.set j []).flatten) : n ∈ L.flatten := by
  obtain ⟨l, hl, hn⟩ := List.mem_flatten.mp h
  rcases List.mem_or_eq_of_mem_set hl with m | rfl
  · exact List.mem_flatten.mpr ⟨l, m, hn⟩
  · cases hn
theorem sub_flat {a b : List (List Nat)} (h : a.Sublist b) : a.flatten.Sublist b.flatten := by
  induction h with
  | slnil => exact List.Sublist.refl _
  | cons x h ih => rw [List.flatten_cons]; exact ih.trans (List.sublist_append_right _ _)
  | cons_cons x h ih => rw [List.flatten_cons, List.flatten_cons]; exact (List.Sublist.refl _).append ih
theorem sub_take {gs : List (List Nat)} {n m : Nat} : ((gs.drop n).take m).flatten.Sublist gs.flatten := sub_flat ((List.take_sublist _ _).trans (List.drop_sublist _ _))
theorem sv_appN {D : List KD} {rb : Bool} {rk i j k : Nat} {kj : KD} (e : D[i]? = some (false, k + 2) := by rfl) (e2 : D[j]? = some kj := by rfl) : SVp D [j] rb rk (Zx.sFor (Zx.iTupU (Zx.fSlU (Zx.fVar i) (Zx.oSome (Zx.fC (.int 2))) Zx.oNo)) (.nm j) (appB j)) (sAppN i j) := by
  intro h sl vs fs R nd
  unfold sAppN
  split
  · rename_i ds ev
    split
    · rename_i c
      obtain ⟨c1, c2⟩ := c
      obtain ⟨s, v, f, g1, g2, g3, g4⟩ := R.get e
      cases g2.symm.trans ev
      obtain ⟨sj, vj, fj, j1, j2, j3, j4⟩ := R.get e2
      have jl : j < sl.length := (List.getElem?_eq_some_iff.mp j1).1
      obtain ⟨n1, d1⟩ := nd_at nd g3
      have fsub : ∀ n ∈ f, n ∈ fs.flatten := fun n hn => List.mem_flatten.mpr ⟨f, List.mem_of_getElem? g3, hn⟩
      have src : ∃ t ss gs, Zx.iTupU (Zx.fSlU (Zx.fVar i) (Zx.oSome (Zx.fC (.int 2))) Zx.oNo) sl h = .ok (.cn (ss.map It1.one)) (h ++ t) ∧ Fa3 (RV (h ++ t) false (k + 1)) ss (cutX ds (some 2) none) gs ∧ gs.flatten.Nodup ∧ ∀ n ∈ gs.flatten, n ∈ f := by
        have run : ∀ {s : SV} {xs : List SV}, sl[i]? = some s → s ≠ .un → Zx.tupOf h s = some xs → xs.length = ds.length → Zx.fSlU (Zx.fVar i) (Zx.oSome (Zx.fC (.int 2))) Zx.oNo sl h = Zx.mkTp (cutX xs (some 2) none) h := by
          intro s xs h1 h2 h3 h4
          have v : Zx.fVar i sl h = .ok s h := by
            unfold Zx.fVar
            rw [h1]
            cases s <;> first | rfl | exact absurd rfl h2
          unfold Zx.fSlU
          rw [v]
          show (match Zx.tupOf h s with | some xs => _ | none => _) = _
          rw [h3]
          show (if whole xs.length (some 2) none then Zx.R.st else _) = _
          rw [h4, if_neg c2]
        have g4 : RV h false (k + 2) s (.tuple ds) f := g4
        unfold RV at g4
        rcases g4 with ⟨rfl, l, ld⟩ | ⟨_, _, _, _, _, _, z, _⟩ | ⟨_, _, _, _, _, _, z, _⟩ | ⟨n, xs, ds', gs, rfl, ⟨hn, hi⟩, z, rfl, q⟩
        · have im : immL ds = true := by
            have : (!immL ds) = false := ld
            simpa using this
          have hs : s = .d (.tuple ds) := by
            rcases l with rfl | ⟨z, _⟩
            · rfl
            · cases z
          subst hs
          have im2 : immL (cutX ds (some 2) none) = true := immL_take _ (immL_drop _ im)
          refine ⟨[], (cutX ds (some 2) none).map SV.d, _, ?_, fa_dimm im2, by rw [nil_flat]; exact List.nodup_nil, fun n m => by rw [nil_flat] at m; cases m⟩
          unfold Zx.iTupU
          rw [run g1 (by intro z; cases z) rfl (List.length_map _), cutX_map]
          unfold Zx.mkTp
          rw [allD_map, List.append_nil]
          rfl
        · cases z
        · cases z
        · cases z
          have q1 : Fa3 (RV h false (k + 1)) (cutX xs (some 2) none) (cutX ds (some 2) none) ((gs.drop (HT.sIx ds.length 0 (some 2))).take (HT.sIx ds.length ds.length none - HT.sIx ds.length 0 (some 2))) := by
            unfold cutX
            rw [q.len.1]
            exact fa_take _ (fa_drop _ q)
          have hsub := sub_take (gs := gs) (n := HT.sIx ds.length 0 (some 2)) (m := HT.sIx ds.length ds.length none - HT.sIx ds.length 0 (some 2))
          have r0 := run g1 (by intro z; cases z) (by unfold Zx.tupOf; dsimp only; rw [hn]) q.len.1
          rw [List.nodup_cons] at n1
          cases ea : allD (cutX xs (some 2) none) with
          | some d2 =>
            have es := allD_inv ea
            refine ⟨[], cutX xs (some 2) none, _, ?_, by rw [List.append_nil]; exact q1, hsub.nodup n1.2, fun n hm => List.mem_cons_of_mem _ (hsub.subset hm)⟩
            unfold Zx.iTupU
            rw [r0]
            unfold Zx.mkTp
            rw [ea, List.append_nil, es]
            rfl
          | none =>
            refine ⟨[some (.tup (cutX xs (some 2) none))], cutX xs (some 2) none, _, ?_, Fa3.imp (cs0 := _) (fun a b c hc p => RV.app p) (fun c hc => hc) q1, hsub.nodup n1.2, fun n hm => List.mem_cons_of_mem _ (hsub.subset hm)⟩
            unfold Zx.iTupU
            rw [r0]
            unfold Zx.mkTp
            rw [ea]
            show (match Zx.tupOf (h ++ [some (AO.tup (cutX xs (some 2) none))]) (.r h.length) with | some xs => _ | none => _) = _
            unfold Zx.tupOf
            dsimp only
            rw [List.getElem?_append_right (Nat.le_refl _), Nat.sub_self]
            rfl
      obtain ⟨t, ss, gs, a1, a2, a3, a4⟩ := src
      obtain ⟨sl', h', b1, b2, b3, b4, b5⟩ := app_loop (sl0 := sl) (L := (h ++ t).length) (sl := sl) jl a2 a3 c1 rfl (fun _ _ => rfl) rfl
      have old : ∀ n, n < h.length → n ∉ gs.flatten → h'[n]? = h[n]? := fun n hn hm => (b3 n hm).trans (List.getElem?_append_left hn)
      refine ⟨sl', h', (fs.set i []).set j [], ?_, ⟨?_, nd_rest (nd_rest nd), fun n m => .inl (mem_set_nil (mem_set_nil m)), fun n hn hm => old n hn fun z => hm (fsub n (a4 n z)), ?_⟩, ?_⟩
      · unfold Zx.sFor
        rw [a1]
        exact b1
      · have R3 := (R.drop i).drop j
        have R4 : RSt h' D sl ((vs.set i .un).set j .un) ((fs.set i []).set j []) := R3.frame fun n hn => old n (R3.lt n hn) fun z => d1 n (a4 n z) (mem_set_nil hn)
        have jl' : j < sl'.length := by omega
        have R5 := R4.set (s' := sl'[j]) (v' := .un) (f' := []) e2 rfl
        rw [List.set_set, List.set_set] at R5
        have es : sl.set j sl'[j] = sl' := by
          apply List.ext_getElem?
          intro a
          by_cases z : a = j
          · subst z
            rw [List.getElem?_set_self jl, List.getElem?_eq_getElem jl']
          · rw [List.getElem?_set_ne (Ne.symm z)]
            exact (b4 a z).symm
        rw [es] at R5
        exact R5
      · rw [b2, List.length_append]; omega
      · intro a ha
        exact b4 a fun z => ha (by rw [z]; exact List.mem_singleton_self _)
    · trivial
  · trivial
end Zx.V
namespace Zx.V
open PySem PySem.Spec L2
open Zx (R SV AO AH FE FA FT FS Md Bd It1 Src O RpS En Wd Fn opt nod imm immL lim cutX allD)
def any1 (x : PyData) (vs : List VS) : VR (List VI) := match x with
  | .tuple ds => .ok (ds.map .one) vs
  | .list ds => .ok (ds.map .one) vs
  | _ => .st
theorem u_anyS {ga : VE} {vs : List VS} : iAnyS ga vs = (ga vs).bind any1 := (rfl)
theorem any_l {ds : List PyData} {vs : List VS} : any1 (.list ds) vs = .ok (ds.map .one) vs := (rfl)
theorem any_t {ds : List PyData} {vs : List VS} : any1 (.tuple ds) vs = .ok (ds.map .one) vs := (rfl)
theorem u_tupU {ga : VE} {vs : List VS} : iTupU ga vs = iTupl ga vs := (rfl)
def slU1 (lo hi : Option Int) (x : PyData) (vs : List VS) : VR PyData := match x with
  | .tuple ds => if immL ds = true ∧ ¬ whole ds.length lo hi then .ok (.tuple (cutX ds lo hi)) vs else .st
  | _ => .st
theorem u_slU {ga : VE} {gl gh : VOo} {vs : List VS} : fSlU ga gl gh vs = (ga vs).bind fun x vs => (gl vs).bind fun lo vs => (gh vs).bind fun hi vs => slU1 lo hi x vs := (rfl)
theorem cut_n {α : Type} {xs : List α} {k : Nat} : cutX xs (some (k : Int)) none = xs.drop k := by
  unfold cutX
  rw [HT.sIx_none, HT.sIx_nat]
  by_cases h : k ≤ xs.length
  · rw [Nat.min_eq_left h, List.take_of_length_le (by rw [List.length_drop]; omega)]
  · rw [Nat.min_eq_right (by omega), List.drop_eq_nil_of_le (Nat.le_refl _), List.take_nil, List.drop_eq_nil_of_le (by omega)]
theorem whole_n {k n : Nat} (h : 0 < k) (h2 : 0 < n) : ¬ whole n (some (k : Int)) none := fun z => by
  have := z.1
  rw [HT.sIx_nat] at this
  omega
theorem slU_ok {ds : List PyData} {d : PyData} {vs : List VS} (h : immL (d :: ds) = true) : slU1 (some 1) none (.tuple (d :: ds)) vs = .ok (.tuple ds) vs := by
  have c : ¬ whole (d :: ds).length (some 1) none := whole_n (k := 1) (by decide) (by rw [List.length_cons]; omega)
  show (if _ then _ else _) = _
  rw [if_pos ⟨h, c⟩]
  have e : cutX (d :: ds) (some 1) none = ds := by
    exact cut_n (k := 1)
  rw [e]
theorem catU_ok {a b : PyData} {xs ys : List PyData} {vs : List VS} (h1 : immL (a :: xs) = true) (h2 : immL (b :: ys) = true) (h3 : (a :: xs).length + (b :: ys).length < lim) : gCatU (.tuple (a :: xs)) (.tuple (b :: ys)) vs = .ok (.tuple (a :: xs ++ b :: ys)) vs := if_pos ⟨⟨h1, h2⟩, h3⟩
def up1 (k : Nat) (x : PyData) (vs : List VS) : VR PyData := if upK k x = true then .ok x vs else .st
theorem u_fUp {k : Nat} {ga : VE} {vs : List VS} : fUp k ga vs = (ga vs).bind (up1 k) := (rfl)
theorem up_ok {k : Nat} {x : PyData} {vs : List VS} (h : upK k x = true) : up1 k x vs = .ok x vs := if_pos h
theorem u_appN {i j : Nat} {vs : List VS} {ds : List PyData} (e : vs[i]? = some (.v (.tuple ds))) (h1 : okAL (ds.drop 2) = true) (h2 : 1 < ds.length) : sAppN i j vs = .nx ((vs.set i .un).set j .un) := by
  have c : ¬ whole ds.length (some 2) none := whole_n (k := 2) (by decide) (by omega)
  have ec : cutX ds (some 2) none = ds.drop 2 := by
    exact cut_n (k := 2)
  unfold sAppN
  rw [e]
  dsimp only
  rw [ec, if_pos ⟨h1, c⟩]
end Zx.V
namespace Gn.V
open PySem PySem.Spec L2 Zx.V
open Zx (SV AO AH FE FA FT FS Md Bd It1 Src O RpS En Wd inB iAdd iSub imm nod mulB divB modB powB lim flatD flatL isTy cutX lk lkAny orK)
noncomputable def ee_are_figures_1 : VE :=
  (fLc false 1 (iStr (fVar 0)) (.nm 1) (fTst (fBin (gInS true) (fVar 1) (fC (.str (PySem.Str.ofString "0123456789"))))) (fVar 1) [1])
noncomputable def em_are_figures : VF :=
  (sSeq (sIf (fOrT (fTst (fBin (gEq false) (fVar 0) (fC (.str (PySem.Str.ofString ""))))) (fAndT (fTst (fBin (gEq false) (fBin gIx (fVar 0) (fC (.int 0))) (fC (.str (PySem.Str.ofString "0"))))) (fTst (fBin (gEq true) (fVar 0) (fC (.str (PySem.Str.ofString "0"))))))) (sRet (fC (.bool false))) sNext)
    (sRet (fBin (gEq false) ee_are_figures_1 (fLst false 1 fNil))))
noncomputable def w_are_figures : List PyData → VC := phiV [.vw] 2 em_are_figures
abbrev K_are_figures : List KD := [(true, 0), (false, 0)]
theorem k_are_figures : CalV v_are_figures 0 w_are_figures := by
  have s : ∃ A, SVp K_are_figures A false 0 m_are_figures em_are_figures := by
    delta m_are_figures em_are_figures e_are_figures_1 ee_are_figures_1
    exact ⟨_, (sv_seq (sv_if (tv_or (tv_tst (ev_bin (b := false) (k := 0) (fr := true) ov_eq (ev_var0 (b := true) (fr := true) (i := 0) rfl) (ev_c (x := (.str (PySem.Str.ofString ""))) (b := false) (k := 0) (fr := true)))) (tv_and (tv_tst (ev_bin (b := false) (k := 0) (fr := true) ov_eq (ev_bin (b := true) (k := 0) (fr := true) (ov_ix (k1 := 0)) (ev_var0 (b := true) (fr := true) (i := 0) rfl) (ev_c (x := (.int 0)) (b := false) (k := 0) (fr := true))) (ev_c (x := (.str (PySem.Str.ofString "0"))) (b := false) (k := 0) (fr := true)))) (tv_tst (ev_bin (b := false) (k := 0) (fr := true) ov_eq (ev_var0 (b := true) (fr := true) (i := 0) rfl) (ev_c (x := (.str (PySem.Str.ofString "0"))) (b := false) (k := 0) (fr := true)))))) (sv_ret (ev_c (x := (.bool false)) (b := false) (k := 0) (fr := true))) sv_next)
    (sv_ret (ev_bin (b := false) (k := 0) (fr := true) ov_eq (ev_lc (b := false) (fr := true) (iv_str (b2 := false) (ev_var0 (b := true) (fr := true) (i := 0) rfl)) (tv_tst (ev_bin (b := false) (k := 0) (fr := true) ov_inS (ev_var0 (b := false) (fr := true) (i := 1) rfl) (ev_c (x := (.str (PySem.Str.ofString "0123456789"))) (b := false) (k := 0) (fr := true)))) (ev_var0 (b := false) (fr := true) (i := 1) rfl)) (ev_fz0 (k := 1) (fr := true) (ev_lst (fr := true) (af_nil (b := false) (k := 0)))))))⟩
  exact s.elim fun _ s => cal_phi s
noncomputable def ee_numbers_shown_1 : VE :=
  (fLc false 1 (iAnyS (fVar 0)) (.nm 1) fYes (fCB gStrI (fCons (fVar 1) fNil)) [1])
noncomputable def em_numbers_shown : VF :=
  (sRet (fTxM gJoin (fC (.str (PySem.Str.ofString " "))) ee_numbers_shown_1))
noncomputable def w_numbers_shown : List PyData → VC := phiV [.vw] 2 em_numbers_shown
abbrev K_numbers_shown : List KD := [(true, 0), (true, 0)]
theorem k_numbers_shown : CalV v_numbers_shown 0 w_numbers_shown := by
  have s : ∃ A, SVp K_numbers_shown A false 0 m_numbers_shown em_numbers_shown := by
    delta m_numbers_shown em_numbers_shown e_numbers_shown_1 ee_numbers_shown_1
    exact ⟨_, (sv_ret (ev_txM (b := false) (k := 0) (fr := true) tv_join (ev_c (x := (.str (PySem.Str.ofString " "))) (b := false) (k := 0) (fr := true)) (ev_fz0 (k := 1) (fr := true) (ev_lc (b := false) (fr := true) (iv_anyS (ev_var0 (b := true) (fr := true) (i := 0) rfl)) tv_yes (ev_cb (b := false) (k := 0) (fr := true) cv_strI (av_cons (ev_var0 (b := true) (fr := true) (i := 1) rfl) av_nil))))))⟩
  exact s.elim fun _ s => cal_phi s
noncomputable def em_arrow_shown : VF :=
  (sRet (fJs [(fFmt (fBin gIx (fVar 0) (fC (.int 0)))), (fC (.str (PySem.Str.ofString "-"))), (fFmt (fBin gIx (fVar 0) (fC (.int 1)))), (fC (.str (PySem.Str.ofString "-"))), (fFmt (fBin gIx (fVar 0) (fC (.int 2))))]))
noncomputable def w_arrow_shown : List PyData → VC := phiV [.vw] 1 em_arrow_shown
abbrev K_arrow_shown : List KD := [(true, 0)]
theorem k_arrow_shown : CalV v_arrow_shown 0 w_arrow_shown := by
  have s : ∃ A, SVp K_arrow_shown A false 0 m_arrow_shown em_arrow_shown := by
    delta m_arrow_shown em_arrow_shown
    exact ⟨_, (sv_ret (ev_js (b := false) (k := 0) (fr := true) (.cons (ev_fmt (b := false) (k := 0) (fr := true) (ev_bin (b := true) (k := 0) (fr := true) (ov_ix (k1 := 0)) (ev_var0 (b := true) (fr := true) (i := 0) rfl) (ev_c (x := (.int 0)) (b := false) (k := 0) (fr := true)))) (.cons (ev_c (x := (.str (PySem.Str.ofString "-"))) (b := false) (k := 0) (fr := true)) (.cons (ev_fmt (b := false) (k := 0) (fr := true) (ev_bin (b := true) (k := 0) (fr := true) (ov_ix (k1 := 0)) (ev_var0 (b := true) (fr := true) (i := 0) rfl) (ev_c (x := (.int 1)) (b := false) (k := 0) (fr := true)))) (.cons (ev_c (x := (.str (PySem.Str.ofString "-"))) (b := false) (k := 0) (fr := true)) (.cons (ev_fmt (b := false) (k := 0) (fr := true) (ev_bin (b := true) (k := 0) (fr := true) (ov_ix (k1 := 0)) (ev_var0 (b := true) (fr := true) (i := 0) rfl) (ev_c (x := (.int 2)) (b := false) (k := 0) (fr := true)))) .nil)))))))⟩
  exact s.elim fun _ s => cal_phi s
noncomputable def el_parted_1 : VF :=
  (sFor (iSeq (fVar 0)) (.nm 2) (sIf (fTst (fBin (gEq false) (fVar 2) (fC (.str (PySem.Str.ofString "/"))))) (sExpr (fApp 1 (fLst false 1 fNil))) (sIf (fTst (fBin (gEq false) (fVar 1) (fLst false 1 fNil))) (sRaise (PySem.Str.ofString "NoText")) (sExpr (fMt 1 (pIx pVar (fUn gNeg (fC (.int 1)))) kApp (fCons (fImm (fVar 2)) fNil))))))
noncomputable def em_parted : VF :=
  (sSeq (sSet 1 (fLst false 2 fNil))
    (sSeq el_parted_1
    (sSeq (sIf (fTst (fHasNil 1)) (sRaise (PySem.Str.ofString "NoText")) sNext)
    (sRet (fMv 1)))))
noncomputable def w_parted : List PyData → VC := phiV [.vw] 4 em_parted
abbrev K_parted : List KD := [(true, 0), (false, 2), (true, 0), (false, 1)]
theorem k_parted : CalV v_parted 0 w_parted := by
  have s : ∃ A, SVp K_parted A false 0 m_parted em_parted := by
    delta m_parted em_parted l_parted_1 el_parted_1
    exact ⟨_, (sv_seq (sv_set (i := 1) (xv_ev (ev_lst (fr := true) (af_nil (b := false) (k := 1)))))
    (sv_seq (sv_for (iv_seq (ev_var0 (b := true) (fr := true) (i := 0) rfl)) (sv_if (tv_tst (ev_bin (b := false) (k := 0) (fr := true) ov_eq (ev_var0 (b := true) (fr := true) (i := 2) rfl) (ev_c (x := (.str (PySem.Str.ofString "/"))) (b := false) (k := 0) (fr := true)))) (sv_expr (xv_app (bi := false) (ki := 0) (i := 1) (m := 1) (xv_ev (ev_lst (fr := true) (af_nil (b := false) (k := 0)))))) (sv_if (tv_tst (ev_bin (b := false) (k := 0) (fr := true) ov_eq (ev_var (b := false) (k := 2) (i := 1) rfl) (ev_fz0 (k := 1) (fr := true) (ev_lst (fr := true) (af_nil (b := false) (k := 0)))))) sv_raise (sv_expr (xv_mt (m := 0) (bo := false) (ko := 0) kv_app (pv_ix (b := false) (i := 1) (n := 0) (m := 1) (pv_var (i := 1) rfl) (ev_un (b := false) (k := 0) (fr := true) uv_neg (ev_c (x := (.int 1)) (b := false) (k := 0) (fr := true))) rfl) (af_cons (ev_fz0 (k := 0) (fr := true) (ev_imm (b := false) (fr := true) (ev_var0 (b := true) (fr := true) (i := 2) rfl))) (af_nil (b := false) (k := 0))) rfl)))))
    (sv_seq (sv_if (tv_tst (ev_hasnil (b := false) (k := 0) (fr := true) (i := 1) (j := 3))) sv_raise sv_next)
    (sv_retX (xv_fz (k := 2) (xv_mv (b := false) (k := 2) (i := 1) rfl))))))⟩
  exact s.elim fun _ s => cal_phi s
noncomputable def em_law_number : VF :=
  (sSeq (sSet 1 (fBin gIx (fTup (fCons (fC (.int 3)) (fCons (fC (.int 12)) (fCons (fC (.int 1000)) (fCons (fBin gPow (fC (.int 10)) (fC (.int 9))) (fCons (fBin gPow (fC (.int 10)) (fC (.int 30))) (fCons (fBin gMul (fBin gPow (fC (.int 10)) (fC (.int 50))) (fBin gPow (fC (.int 10)) (fC (.int 50)))) fNil))))))) (fBin gMod (fVar 0) (fC (.int 6)))))
    (sSeq (sSet 0 (fBin gDiv (fVar 0) (fC (.int 6))))
    (sRet (fTup (fCons (fBin gSub (fBin gMod (fVar 0) (fBin gSub (fBin gMul (fC (.int 2)) (fVar 1)) (fC (.int 1)))) (fBin gSub (fVar 1) (fC (.int 1)))) (fCons (fBin gDiv (fVar 0) (fBin gSub (fBin gMul (fC (.int 2)) (fVar 1)) (fC (.int 1)))) fNil))))))
noncomputable def w_law_number : List PyData → VC := phiV [.vw] 2 em_law_number
abbrev K_law_number : List KD := [(true, 0), (false, 0)]
theorem k_law_number : CalV v_law_number 0 w_law_number := by
  have s : ∃ A, SVp K_law_number A false 0 m_law_number em_law_number := by
    delta m_law_number em_law_number
    exact ⟨_, (sv_seq (sv_set (i := 1) (xv_ev (ev_bin (b := false) (k := 0) (fr := true) (ov_ix (k1 := 0)) (ev_tup (fr := true) (n := 6) (av_cons (ev_c (x := (.int 3)) (b := false) (k := 0) (fr := true)) (av_cons (ev_c (x := (.int 12)) (b := false) (k := 0) (fr := true)) (av_cons (ev_c (x := (.int 1000)) (b := false) (k := 0) (fr := true)) (av_cons (ev_bin (b := false) (k := 0) (fr := true) ov_pow (ev_c (x := (.int 10)) (b := false) (k := 0) (fr := true)) (ev_c (x := (.int 9)) (b := false) (k := 0) (fr := true))) (av_cons (ev_bin (b := false) (k := 0) (fr := true) ov_pow (ev_c (x := (.int 10)) (b := false) (k := 0) (fr := true)) (ev_c (x := (.int 30)) (b := false) (k := 0) (fr := true))) (av_cons (ev_bin (b := false) (k := 0) (fr := true) ov_mul (ev_bin (b := false) (k := 0) (fr := true) ov_pow (ev_c (x := (.int 10)) (b := false) (k := 0) (fr := true)) (ev_c (x := (.int 50)) (b := false) (k := 0) (fr := true))) (ev_bin (b := false) (k := 0) (fr := true) ov_pow (ev_c (x := (.int 10)) (b := false) (k := 0) (fr := true)) (ev_c (x := (.int 50)) (b := false) (k := 0) (fr := true)))) av_nil))))))) (ev_bin (b := false) (k := 0) (fr := true) ov_mod (ev_var0 (b := true) (fr := true) (i := 0) rfl) (ev_c (x := (.int 6)) (b := false) (k := 0) (fr := true))))))
    (sv_seq (sv_set (i := 0) (xv_ev (ev_bin (b := false) (k := 0) (fr := true) ov_div (ev_var0 (b := true) (fr := true) (i := 0) rfl) (ev_c (x := (.int 6)) (b := false) (k := 0) (fr := true)))))
    (sv_ret (ev_tup (fr := true) (n := 2) (av_cons (ev_bin (b := false) (k := 0) (fr := true) ov_sub (ev_bin (b := false) (k := 0) (fr := true) ov_mod (ev_var0 (b := true) (fr := true) (i := 0) rfl) (ev_bin (b := false) (k := 0) (fr := true) ov_sub (ev_bin (b := false) (k := 0) (fr := true) ov_mul (ev_c (x := (.int 2)) (b := false) (k := 0) (fr := true)) (ev_var0 (b := false) (fr := true) (i := 1) rfl)) (ev_c (x := (.int 1)) (b := false) (k := 0) (fr := true)))) (ev_bin (b := false) (k := 0) (fr := true) ov_sub (ev_var0 (b := false) (fr := true) (i := 1) rfl) (ev_c (x := (.int 1)) (b := false) (k := 0) (fr := true)))) (av_cons (ev_bin (b := false) (k := 0) (fr := true) ov_div (ev_var0 (b := true) (fr := true) (i := 0) rfl) (ev_bin (b := false) (k := 0) (fr := true) ov_sub (ev_bin (b := false) (k := 0) (fr := true) ov_mul (ev_c (x := (.int 2)) (b := false) (k := 0) (fr := true)) (ev_var0 (b := false) (fr := true) (i := 1) rfl)) (ev_c (x := (.int 1)) (b := false) (k := 0) (fr := true)))) av_nil))))))⟩
  exact s.elim fun _ s => cal_phi s
noncomputable def el_law_places_1 : VF :=
  (sFor (iRng (fCons (fVar 1) fNil)) (.nm 4) (sSeq (sExpr (fApp 3 (fBin gMod (fVar 0) (fVar 2))))
    (sSet 0 (fBin gDiv (fVar 0) (fVar 2)))))
noncomputable def em_law_places : VF :=
  (sSeq (sSet 3 (fLst false 1 fNil))
    (sSeq el_law_places_1
    (sRet (fTup (fConsX (fMv 3) (fConsX (fImm (fVar 0)) fNil))))))
noncomputable def w_law_places : List PyData → VC := phiV [.vw, .vw, .vw] 5 em_law_places
abbrev K_law_places : List KD := [(true, 0), (true, 0), (true, 0), (false, 1), (false, 0)]
theorem k_law_places : CalV v_law_places 0 w_law_places := by
  have s : ∃ A, SVp K_law_places A false 0 m_law_places em_law_places := by
    delta m_law_places em_law_places l_law_places_1 el_law_places_1
    exact ⟨_, (sv_seq (sv_set (i := 3) (xv_ev (ev_lst (fr := true) (af_nil (b := false) (k := 0)))))
    (sv_seq (sv_for (iv_rng (b := false) (av_cons (ev_var0 (b := true) (fr := true) (i := 1) rfl) av_nil)) (sv_seq (sv_expr (xv_app (bi := false) (ki := 0) (i := 3) (m := 0) (xv_ev (ev_bin (b := false) (k := 0) (fr := true) ov_mod (ev_var0 (b := true) (fr := true) (i := 0) rfl) (ev_var0 (b := true) (fr := true) (i := 2) rfl)))))
    (sv_set (i := 0) (xv_ev (ev_bin (b := false) (k := 0) (fr := true) ov_div (ev_var0 (b := true) (fr := true) (i := 0) rfl) (ev_var0 (b := true) (fr := true) (i := 2) rfl))))))
    (sv_retX (xv_tupX (n := 2) (ax_cons (b := false) (xv_fz (k := 1) (xv_mv (b := false) (k := 1) (i := 3) rfl)) (ax_cons (b := false) (xv_ev (ev_imm (b := false) (fr := true) (ev_var0 (b := true) (fr := true) (i := 0) rfl))) ax_nil))))))⟩
  exact s.elim fun _ s => cal_phi s
noncomputable def el_law_spelled_1 : VF :=
  (sFor (iRng (fCons (fCB gLen (fCons (fVar 0) fNil)) fNil)) (.nm 2) (sSeq (sIf (fTst (fBin gGt (fVar 2) (fC (.int 0)))) (sSet 1 (fBin gAdd (fVar 1) (fC (.str (PySem.Str.ofString " "))))) sNext)
    (sSet 1 (fBin gAdd (fVar 1) (fCB gStrI (fCons (fBin gIx (fVar 0) (fVar 2)) fNil))))))
noncomputable def em_law_spelled : VF :=
  (sSeq (sSet 1 (fC (.str (PySem.Str.ofString ""))))
    (sSeq el_law_spelled_1
    (sRet (fVar 1))))
noncomputable def w_law_spelled : List PyData → VC := phiV [.vw] 3 em_law_spelled
abbrev K_law_spelled : List KD := [(true, 0), (false, 0), (false, 0)]
theorem k_law_spelled : CalV v_law_spelled 0 w_law_spelled := by
  have s : ∃ A, SVp K_law_spelled A false 0 m_law_spelled em_law_spelled := by
    delta m_law_spelled em_law_spelled l_law_spelled_1 el_law_spelled_1
    exact ⟨_, (sv_seq (sv_set (i := 1) (xv_ev (ev_c (x := (.str (PySem.Str.ofString ""))) (b := false) (k := 0) (fr := true))))
    (sv_seq (sv_for (iv_rng (b := false) (av_cons (ev_cb (b := false) (k := 0) (fr := true) cv_len (av_cons (ev_var0 (b := true) (fr := true) (i := 0) rfl) av_nil)) av_nil)) (sv_seq (sv_if (tv_tst (ev_bin (b := false) (k := 0) (fr := true) ov_gt (ev_var0 (b := false) (fr := true) (i := 2) rfl) (ev_c (x := (.int 0)) (b := false) (k := 0) (fr := true)))) (sv_set (i := 1) (xv_ev (ev_bin (b := false) (k := 0) (fr := true) ov_add (ev_var0 (b := false) (fr := true) (i := 1) rfl) (ev_c (x := (.str (PySem.Str.ofString " "))) (b := false) (k := 0) (fr := true))))) sv_next)
    (sv_set (i := 1) (xv_ev (ev_bin (b := false) (k := 0) (fr := true) ov_add (ev_var0 (b := false) (fr := true) (i := 1) rfl) (ev_cb (b := false) (k := 0) (fr := true) cv_strI (av_cons (ev_bin (b := true) (k := 0) (fr := true) (ov_ix (k1 := 0)) (ev_var0 (b := true) (fr := true) (i := 0) rfl) (ev_var0 (b := false) (fr := true) (i := 2) rfl)) av_nil)))))))
    (sv_ret (ev_var0 (b := false) (fr := true) (i := 1) rfl))))⟩
  exact s.elim fun _ s => cal_phi s
noncomputable def el_law_piece_text_1 : VF :=
  (sFor (iSeq (fVar 0)) (.tp [2, 3, 4]) (sSet 1 (fBin gAdd (fBin gAdd (fBin gAdd (fBin gAdd (fBin gAdd (fBin gAdd (fVar 1) (fC (.str (PySem.Str.ofString " ")))) (fCB gStrI (fCons (fVar 2) fNil))) (fC (.str (PySem.Str.ofString "-")))) (fCB gStrI (fCons (fVar 3) fNil))) (fC (.str (PySem.Str.ofString "-")))) (fCB gStrI (fCons (fVar 4) fNil)))))
noncomputable def em_law_piece_text : VF :=
  (sSeq (sSet 1 (fC (.str (PySem.Str.ofString ""))))
    (sSeq el_law_piece_text_1
    (sRet (fVar 1))))
noncomputable def w_law_piece_text : List PyData → VC := phiV [.vw] 5 em_law_piece_text
abbrev K_law_piece_text : List KD := [(true, 0), (false, 0), (true, 0), (true, 0), (true, 0)]
theorem k_law_piece_text : CalV v_law_piece_text 0 w_law_piece_text := by
  have s : ∃ A, SVp K_law_piece_text A false 0 m_law_piece_text em_law_piece_text := by
    delta m_law_piece_text em_law_piece_text l_law_piece_text_1 el_law_piece_text_1
    exact ⟨_, (sv_seq (sv_set (i := 1) (xv_ev (ev_c (x := (.str (PySem.Str.ofString ""))) (b := false) (k := 0) (fr := true))))
    (sv_seq (sv_for (iv_seq (ev_var0 (b := true) (fr := true) (i := 0) rfl)) (sv_set (i := 1) (xv_ev (ev_bin (b := false) (k := 0) (fr := true) ov_add (ev_bin (b := false) (k := 0) (fr := true) ov_add (ev_bin (b := false) (k := 0) (fr := true) ov_add (ev_bin (b := false) (k := 0) (fr := true) ov_add (ev_bin (b := false) (k := 0) (fr := true) ov_add (ev_bin (b := false) (k := 0) (fr := true) ov_add (ev_var0 (b := false) (fr := true) (i := 1) rfl) (ev_c (x := (.str (PySem.Str.ofString " "))) (b := false) (k := 0) (fr := true))) (ev_cb (b := false) (k := 0) (fr := true) cv_strI (av_cons (ev_var0 (b := true) (fr := true) (i := 2) rfl) av_nil))) (ev_c (x := (.str (PySem.Str.ofString "-"))) (b := false) (k := 0) (fr := true))) (ev_cb (b := false) (k := 0) (fr := true) cv_strI (av_cons (ev_var0 (b := true) (fr := true) (i := 3) rfl) av_nil))) (ev_c (x := (.str (PySem.Str.ofString "-"))) (b := false) (k := 0) (fr := true))) (ev_cb (b := false) (k := 0) (fr := true) cv_strI (av_cons (ev_var0 (b := true) (fr := true) (i := 4) rfl) av_nil))))))
    (sv_ret (ev_var0 (b := false) (fr := true) (i := 1) rfl))))⟩
  exact s.elim fun _ s => cal_phi s
noncomputable def ee_law_copied_1 : VE :=
  (fLc false 1 (iSeq (fBin gIx (fVar 0) (fC (.int 2)))) (.nm 1) fYes (fPure 1 (fCB gList (fCons (fVar 1) fNil))) [1])
noncomputable def em_law_copied : VF :=
  (sSeq (sIf (fTst (fBin (gIn false) (fBin gIx (fVar 0) (fC (.int 0))) (fTup (fCons (fC (.str (PySem.Str.ofString "out"))) (fCons (fC (.str (PySem.Str.ofString "in"))) fNil))))) (sRet (fTup (fCons (fImm (fBin gIx (fVar 0) (fC (.int 0)))) (fCons (fImm (fBin gIx (fVar 0) (fC (.int 1)))) (fCons ee_law_copied_1 fNil))))) sNext)
    (sSeq (sIf (fTst (fBin (gEq false) (fBin gIx (fVar 0) (fC (.int 0))) (fC (.str (PySem.Str.ofString "lay"))))) (sRet (fTup (fCons (fImm (fBin gIx (fVar 0) (fC (.int 0)))) (fCons (fImm (fBin gIx (fVar 0) (fC (.int 1)))) (fCons (fPure 1 (fCB gList (fCons (fBin gIx (fVar 0) (fC (.int 2))) fNil))) (fCons (fPure 1 (fCB gList (fCons (fBin gIx (fVar 0) (fC (.int 3))) fNil))) fNil)))))) sNext)
    (sRet (fImm (fVar 0)))))
noncomputable def w_law_copied : List PyData → VC := phiV [.vw] 2 em_law_copied
abbrev K_law_copied : List KD := [(true, 0), (true, 0)]
theorem k_law_copied : CalV v_law_copied 0 w_law_copied := by
  have s : ∃ A, SVp K_law_copied A false 0 m_law_copied em_law_copied := by
    delta m_law_copied em_law_copied e_law_copied_1 ee_law_copied_1
    exact ⟨_, (sv_seq (sv_if (tv_tst (ev_bin (b := false) (k := 0) (fr := true) ov_in (ev_bin (b := true) (k := 0) (fr := true) (ov_ix (k1 := 0)) (ev_var0 (b := true) (fr := true) (i := 0) rfl) (ev_c (x := (.int 0)) (b := false) (k := 0) (fr := true))) (ev_tup (fr := true) (n := 2) (av_cons (ev_c (x := (.str (PySem.Str.ofString "out"))) (b := false) (k := 0) (fr := true)) (av_cons (ev_c (x := (.str (PySem.Str.ofString "in"))) (b := false) (k := 0) (fr := true)) av_nil))))) (sv_ret (ev_tup (fr := true) (n := 3) (av_cons (ev_imm (b := false) (fr := true) (ev_bin (b := true) (k := 0) (fr := true) (ov_ix (k1 := 0)) (ev_var0 (b := true) (fr := true) (i := 0) rfl) (ev_c (x := (.int 0)) (b := false) (k := 0) (fr := true)))) (av_cons (ev_imm (b := false) (fr := true) (ev_bin (b := true) (k := 0) (fr := true) (ov_ix (k1 := 0)) (ev_var0 (b := true) (fr := true) (i := 0) rfl) (ev_c (x := (.int 1)) (b := false) (k := 0) (fr := true)))) (av_cons (ev_fz0 (k := 1) (fr := true) (ev_lc (b := false) (fr := true) (iv_seq (ev_bin (b := true) (k := 0) (fr := true) (ov_ix (k1 := 0)) (ev_var0 (b := true) (fr := true) (i := 0) rfl) (ev_c (x := (.int 2)) (b := false) (k := 0) (fr := true)))) tv_yes (ev_fz0 (k := 1) (fr := true) (ev_pure (ev_cb (fr := true) cv_list (av_cons (ev_var0 (b := true) (fr := true) (i := 1) rfl) av_nil)))))) av_nil))))) sv_next)
    (sv_seq (sv_if (tv_tst (ev_bin (b := false) (k := 0) (fr := true) ov_eq (ev_bin (b := true) (k := 0) (fr := true) (ov_ix (k1 := 0)) (ev_var0 (b := true) (fr := true) (i := 0) rfl) (ev_c (x := (.int 0)) (b := false) (k := 0) (fr := true))) (ev_c (x := (.str (PySem.Str.ofString "lay"))) (b := false) (k := 0) (fr := true)))) (sv_ret (ev_tup (fr := true) (n := 4) (av_cons (ev_imm (b := false) (fr := true) (ev_bin (b := true) (k := 0) (fr := true) (ov_ix (k1 := 0)) (ev_var0 (b := true) (fr := true) (i := 0) rfl) (ev_c (x := (.int 0)) (b := false) (k := 0) (fr := true)))) (av_cons (ev_imm (b := false) (fr := true) (ev_bin (b := true) (k := 0) (fr := true) (ov_ix (k1 := 0)) (ev_var0 (b := true) (fr := true) (i := 0) rfl) (ev_c (x := (.int 1)) (b := false) (k := 0) (fr := true)))) (av_cons (ev_fz0 (k := 1) (fr := true) (ev_pure (ev_cb (fr := true) cv_list (av_cons (ev_bin (b := true) (k := 0) (fr := true) (ov_ix (k1 := 0)) (ev_var0 (b := true) (fr := true) (i := 0) rfl) (ev_c (x := (.int 2)) (b := false) (k := 0) (fr := true))) av_nil)))) (av_cons (ev_fz0 (k := 1) (fr := true) (ev_pure (ev_cb (fr := true) cv_list (av_cons (ev_bin (b := true) (k := 0) (fr := true) (ov_ix (k1 := 0)) (ev_var0 (b := true) (fr := true) (i := 0) rfl) (ev_c (x := (.int 3)) (b := false) (k := 0) (fr := true))) av_nil)))) av_nil)))))) sv_next)
    (sv_ret (ev_fz0 (k := 0) (fr := true) (ev_imm (b := false) (fr := true) (ev_var0 (b := true) (fr := true) (i := 0) rfl))))))⟩
  exact s.elim fun _ s => cal_phi s
noncomputable def ee_law_is_move_2 : VE :=
  (fLc true 1 (iTupU (fVar 0)) (.nm 2) (fTst (fIsi "bool" (fVar 2))) (fVar 2) [2])
noncomputable def ee_law_is_move_1 : VE :=
  (fLc true 1 (iSeq (fBin gIx (fVar 0) (fC (.int 2)))) (.nm 3) (fNotT (fTst (fIsi "list" (fVar 3)))) (fVar 3) [3])
noncomputable def em_law_is_move : VF :=
  (sSeq (sIf (fOrT (fNotT (fTst (fIsi "tuple" (fVar 0)))) (fOrT (fTst (fBin (gEq true) (fVar 0) (fVar 1))) (fTst (fBin (gEq true) ee_law_is_move_2 (fLst false 1 fNil))))) (sRet (fC (.bool false))) sNext)
    (sSeq (sIf (fTst (fBin (gIn false) (fBin gIx (fVar 1) (fC (.int 0))) (fTup (fCons (fC (.str (PySem.Str.ofString "out"))) (fCons (fC (.str (PySem.Str.ofString "in"))) fNil))))) (sRet (fBin (gEq false) ee_law_is_move_1 (fLst false 1 fNil))) sNext)
    (sSeq (sIf (fTst (fBin (gEq false) (fBin gIx (fVar 1) (fC (.int 0))) (fC (.str (PySem.Str.ofString "lay"))))) (sRet (fAndV (fIsi "list" (fBin gIx (fVar 0) (fC (.int 2)))) (fIsi "list" (fBin gIx (fVar 0) (fC (.int 3)))))) sNext)
    (sRet (fC (.bool true))))))
noncomputable def w_law_is_move : List PyData → VC := phiV [.vw, .vw] 4 em_law_is_move
abbrev K_law_is_move : List KD := [(true, 0), (true, 0), (true, 0), (true, 0)]
theorem k_law_is_move : CalV v_law_is_move 0 w_law_is_move := by
  have s : ∃ A, SVp K_law_is_move A false 0 m_law_is_move em_law_is_move := by
    delta m_law_is_move em_law_is_move e_law_is_move_2 e_law_is_move_1 ee_law_is_move_1 ee_law_is_move_2
    exact ⟨_, (sv_seq (sv_if (tv_or (tv_not (tv_tst (ev_isi (b := false) (k := 0) (fr := true) (ev_var0 (b := true) (fr := true) (i := 0) rfl)))) (tv_or (tv_tst (ev_bin (b := false) (k := 0) (fr := true) ov_eq (ev_var0 (b := true) (fr := true) (i := 0) rfl) (ev_var0 (b := true) (fr := true) (i := 1) rfl))) (tv_tst (ev_bin (b := false) (k := 0) (fr := true) ov_eq (ev_lc (b := true) (fr := true) (iv_tupU (ev_var0 (b := true) (fr := true) (i := 0) rfl)) (tv_tst (ev_isi (b := false) (k := 0) (fr := true) (ev_var0 (b := true) (fr := true) (i := 2) rfl))) (ev_var0 (b := true) (fr := true) (i := 2) rfl)) (ev_fz0 (k := 1) (fr := true) (ev_lst (fr := true) (af_nil (b := false) (k := 0)))))))) (sv_ret (ev_c (x := (.bool false)) (b := false) (k := 0) (fr := true))) sv_next)
    (sv_seq (sv_if (tv_tst (ev_bin (b := false) (k := 0) (fr := true) ov_in (ev_bin (b := true) (k := 0) (fr := true) (ov_ix (k1 := 0)) (ev_var0 (b := true) (fr := true) (i := 1) rfl) (ev_c (x := (.int 0)) (b := false) (k := 0) (fr := true))) (ev_tup (fr := true) (n := 2) (av_cons (ev_c (x := (.str (PySem.Str.ofString "out"))) (b := false) (k := 0) (fr := true)) (av_cons (ev_c (x := (.str (PySem.Str.ofString "in"))) (b := false) (k := 0) (fr := true)) av_nil))))) (sv_ret (ev_bin (b := false) (k := 0) (fr := true) ov_eq (ev_lc (b := true) (fr := true) (iv_seq (ev_bin (b := true) (k := 0) (fr := true) (ov_ix (k1 := 0)) (ev_var0 (b := true) (fr := true) (i := 0) rfl) (ev_c (x := (.int 2)) (b := false) (k := 0) (fr := true)))) (tv_not (tv_tst (ev_isi (b := false) (k := 0) (fr := true) (ev_var0 (b := true) (fr := true) (i := 3) rfl)))) (ev_var0 (b := true) (fr := true) (i := 3) rfl)) (ev_fz0 (k := 1) (fr := true) (ev_lst (fr := true) (af_nil (b := false) (k := 0)))))) sv_next)
    (sv_seq (sv_if (tv_tst (ev_bin (b := false) (k := 0) (fr := true) ov_eq (ev_bin (b := true) (k := 0) (fr := true) (ov_ix (k1 := 0)) (ev_var0 (b := true) (fr := true) (i := 1) rfl) (ev_c (x := (.int 0)) (b := false) (k := 0) (fr := true))) (ev_c (x := (.str (PySem.Str.ofString "lay"))) (b := false) (k := 0) (fr := true)))) (sv_ret (ev_and (fr := true) (ev_isi (b := false) (k := 0) (fr := true) (ev_bin (b := true) (k := 0) (fr := true) (ov_ix (k1 := 0)) (ev_var0 (b := true) (fr := true) (i := 0) rfl) (ev_c (x := (.int 2)) (b := false) (k := 0) (fr := true)))) (ev_isi (b := false) (k := 0) (fr := true) (ev_bin (b := true) (k := 0) (fr := true) (ov_ix (k1 := 0)) (ev_var0 (b := true) (fr := true) (i := 0) rfl) (ev_c (x := (.int 3)) (b := false) (k := 0) (fr := true)))))) sv_next)
    (sv_ret (ev_c (x := (.bool true)) (b := false) (k := 0) (fr := true))))))⟩
  exact s.elim fun _ s => cal_phi s
noncomputable def em_number_read : VF :=
  (sSeq (sIf (fTst (fCall w_are_figures (fCons (fVar 0) fNil))) (sRet (fCB gIntS (fCons (fVar 0) fNil))) sNext)
    (sSeq (sIf (fAndT (fTst (fTxM gSw (fVar 0) (fC (.str (PySem.Str.ofString "-"))))) (fAndT (fTst (fBin (gEq true) (fVar 0) (fC (.str (PySem.Str.ofString "-0"))))) (fTst (fCall w_are_figures (fCons (fSliceT (fVar 0) (oSome (fC (.int 1))) oNo) fNil))))) (sRet (fCB gIntS (fCons (fVar 0) fNil))) sNext)
    (sRaise (PySem.Str.ofString "NoText"))))
noncomputable def w_number_read : List PyData → VC := phiV [.vw] 1 em_number_read
abbrev K_number_read : List KD := [(true, 0)]
theorem k_number_read : CalV v_number_read 0 w_number_read := by
  have s : ∃ A, SVp K_number_read A false 0 m_number_read em_number_read := by
    delta m_number_read em_number_read
    exact ⟨_, (sv_seq (sv_if (tv_tst (ev_call (k := 0) (fr := true) k_are_figures (am_vw (ev_var0 (b := true) (fr := true) (i := 0) rfl) am_nil))) (sv_ret (ev_cb (b := false) (k := 0) (fr := true) cv_intS (av_cons (ev_var0 (b := true) (fr := true) (i := 0) rfl) av_nil))) sv_next)
    (sv_seq (sv_if (tv_and (tv_tst (ev_txM (b := false) (k := 0) (fr := true) tv_sw (ev_var0 (b := true) (fr := true) (i := 0) rfl) (ev_c (x := (.str (PySem.Str.ofString "-"))) (b := false) (k := 0) (fr := true)))) (tv_and (tv_tst (ev_bin (b := false) (k := 0) (fr := true) ov_eq (ev_var0 (b := true) (fr := true) (i := 0) rfl) (ev_c (x := (.str (PySem.Str.ofString "-0"))) (b := false) (k := 0) (fr := true)))) (tv_tst (ev_call (k := 0) (fr := true) k_are_figures (am_vw (ev_sliceT (b2 := false) (k2 := 0) (fr := true) (ev_var0 (b := true) (fr := true) (i := 0) rfl) (ov_some (ev_c (x := (.int 1)) (b := false) (k := 0) (fr := true))) ov_no) am_nil))))) (sv_ret (ev_cb (b := false) (k := 0) (fr := true) cv_intS (av_cons (ev_var0 (b := true) (fr := true) (i := 0) rfl) av_nil))) sv_next)
    sv_raise))⟩
  exact s.elim fun _ s => cal_phi s
noncomputable def ee_arrow_read_1 : VE :=
  (fLc false 1 (iSeq (fVar 1)) (.nm 2) fYes (fCall w_are_figures (fCons (fVar 2) fNil)) [2])
noncomputable def em_arrow_read : VF :=
  (sSeq (sSet 1 (fTxM gSplit (fVar 0) (fC (.str (PySem.Str.ofString "-")))))
    (sSeq (sIf (fOrT (fTst (fBin (gEq true) (fCB gLen (fCons (fVar 1) fNil)) (fC (.int 3)))) (fNotT (fTst (fCB (gBools fun bs => bs.all id) (fCons ee_arrow_read_1 fNil))))) (sRaise (PySem.Str.ofString "NoText")) sNext)
    (sRet (fTup (fCons (fCB gIntS (fCons (fBin gIx (fVar 1) (fC (.int 0))) fNil)) (fCons (fCB gIntS (fCons (fBin gIx (fVar 1) (fC (.int 1))) fNil)) (fCons (fCB gIntS (fCons (fBin gIx (fVar 1) (fC (.int 2))) fNil)) fNil)))))))
noncomputable def w_arrow_read : List PyData → VC := phiV [.vw] 3 em_arrow_read
abbrev K_arrow_read : List KD := [(true, 0), (false, 0), (false, 0)]
theorem k_arrow_read : CalV v_arrow_read 0 w_arrow_read := by
  have s : ∃ A, SVp K_arrow_read A false 0 m_arrow_read em_arrow_read := by
    delta m_arrow_read em_arrow_read e_arrow_read_1 ee_arrow_read_1
    exact ⟨_, (sv_seq (sv_set (i := 1) (xv_ev (ev_fz0 (k := 1) (fr := true) (ev_txM (b := false) (k := 1) (fr := true) tv_split (ev_var0 (b := true) (fr := true) (i := 0) rfl) (ev_c (x := (.str (PySem.Str.ofString "-"))) (b := false) (k := 0) (fr := true))))))
    (sv_seq (sv_if (tv_or (tv_tst (ev_bin (b := false) (k := 0) (fr := true) ov_eq (ev_cb (b := false) (k := 0) (fr := true) cv_len (av_cons (ev_var0 (b := false) (fr := true) (i := 1) rfl) av_nil)) (ev_c (x := (.int 3)) (b := false) (k := 0) (fr := true)))) (tv_not (tv_tst (ev_cb (b := false) (k := 0) (fr := true) cv_bools (av_cons (ev_fz0 (k := 1) (fr := true) (ev_lc (b := false) (fr := true) (iv_seq (ev_var0 (b := false) (fr := true) (i := 1) rfl)) tv_yes (ev_call (k := 0) (fr := true) k_are_figures (am_vw (ev_var0 (b := false) (fr := true) (i := 2) rfl) am_nil)))) av_nil))))) sv_raise sv_next)
    (sv_ret (ev_tup (fr := true) (n := 3) (av_cons (ev_cb (b := false) (k := 0) (fr := true) cv_intS (av_cons (ev_bin (b := false) (k := 0) (fr := true) (ov_ix (k1 := 0)) (ev_var0 (b := false) (fr := true) (i := 1) rfl) (ev_c (x := (.int 0)) (b := false) (k := 0) (fr := true))) av_nil)) (av_cons (ev_cb (b := false) (k := 0) (fr := true) cv_intS (av_cons (ev_bin (b := false) (k := 0) (fr := true) (ov_ix (k1 := 0)) (ev_var0 (b := false) (fr := true) (i := 1) rfl) (ev_c (x := (.int 1)) (b := false) (k := 0) (fr := true))) av_nil)) (av_cons (ev_cb (b := false) (k := 0) (fr := true) cv_intS (av_cons (ev_bin (b := false) (k := 0) (fr := true) (ov_ix (k1 := 0)) (ev_var0 (b := false) (fr := true) (i := 1) rfl) (ev_c (x := (.int 2)) (b := false) (k := 0) (fr := true))) av_nil)) av_nil)))))))⟩
  exact s.elim fun _ s => cal_phi s
noncomputable def ee_pieces_shown_1 : VE :=
  (fLc false 1 (iSeq (fVar 1)) (.nm 2) fYes (fCall w_arrow_shown (fCons (fVar 2) fNil)) [2])
noncomputable def ee_pieces_shown_2 : VE :=
  (fLc false 1 (iSeq (fVar 0)) (.nm 1) fYes (fBin gAdd (fC (.str (PySem.Str.ofString "/ "))) (fTxM gJoin (fC (.str (PySem.Str.ofString " "))) ee_pieces_shown_1)) [1])
noncomputable def em_pieces_shown : VF :=
  (sRet (fTxM gJoin (fC (.str (PySem.Str.ofString " "))) ee_pieces_shown_2))
noncomputable def w_pieces_shown : List PyData → VC := phiV [.vw] 3 em_pieces_shown
abbrev K_pieces_shown : List KD := [(true, 0), (true, 0), (true, 0)]
theorem k_pieces_shown : CalV v_pieces_shown 0 w_pieces_shown := by
  have s : ∃ A, SVp K_pieces_shown A false 0 m_pieces_shown em_pieces_shown := by
    delta m_pieces_shown em_pieces_shown e_pieces_shown_2 e_pieces_shown_1 ee_pieces_shown_2 ee_pieces_shown_1
    exact ⟨_, (sv_ret (ev_txM (b := false) (k := 0) (fr := true) tv_join (ev_c (x := (.str (PySem.Str.ofString " "))) (b := false) (k := 0) (fr := true)) (ev_fz0 (k := 1) (fr := true) (ev_lc (b := false) (fr := true) (iv_seq (ev_var0 (b := true) (fr := true) (i := 0) rfl)) tv_yes (ev_bin (b := false) (k := 0) (fr := true) ov_add (ev_c (x := (.str (PySem.Str.ofString "/ "))) (b := false) (k := 0) (fr := true)) (ev_txM (b := false) (k := 0) (fr := true) tv_join (ev_c (x := (.str (PySem.Str.ofString " "))) (b := false) (k := 0) (fr := true)) (ev_fz0 (k := 1) (fr := true) (ev_lc (b := false) (fr := true) (iv_seq (ev_var0 (b := true) (fr := true) (i := 1) rfl)) tv_yes (ev_call (k := 0) (fr := true) k_arrow_shown (am_vw (ev_var0 (b := true) (fr := true) (i := 2) rfl) am_nil))))))))))⟩
  exact s.elim fun _ s => cal_phi s
noncomputable def w_law_big : List PyData → VC := lift v_law_big 0
theorem k_law_big : CalV v_law_big 0 w_law_big := cal_lift
noncomputable def el_law_pieces_1 : VF :=
  (sFor (iRng (fCons (fVar 6) fNil)) (.nm 7) (sSeq (sSetT [8, 0] (fCall w_law_places (fCons (fVar 0) (fCons (fC (.int 3)) (fCons (fVar 2) fNil)))))
    (sExpr (fApp 5 (fCB gTuple (fCons (fVar 8) fNil))))))
noncomputable def el_law_pieces_2 : VF :=
  (sFor (iRng (fCons (fVar 3) fNil)) (.nm 4) (sSeq (sSet 5 (fLst false 1 fNil))
    (sSeq (sSet 6 (fBin gAdd (fC (.int 1)) (fBin gMod (fVar 0) (fC (.int 3)))))
    (sSeq (sSet 0 (fBin gDiv (fVar 0) (fC (.int 3))))
    (sSeq el_law_pieces_1
    (sExpr (fApp 1 (fMv 5))))))))
noncomputable def em_law_pieces : VF :=
  (sSeq (sSet 1 (fLst false 1 fNil))
    (sSeq (sSet 2 (fBin gIx (fTup (fCons (fC (.int 3)) (fCons (fC (.int 12)) (fCons (fBin gPow (fC (.int 10)) (fC (.int 30))) fNil)))) (fBin gMod (fVar 0) (fC (.int 3)))))
    (sSeq (sSet 3 (fBin gAdd (fC (.int 2)) (fBin gMod (fBin gDiv (fVar 0) (fC (.int 3))) (fC (.int 4)))))
    (sSeq (sSet 0 (fBin gDiv (fVar 0) (fC (.int 12))))
    (sSeq el_law_pieces_2
    (sRet (fMv 1)))))))
noncomputable def w_law_pieces : List PyData → VC := phiV [.vw] 9 em_law_pieces
abbrev K_law_pieces : List KD := [(true, 0), (false, 1), (false, 0), (false, 0), (false, 0), (false, 1), (false, 0), (false, 0), (false, 0)]
theorem k_law_pieces : CalV v_law_pieces 0 w_law_pieces := by
  have s : ∃ A, SVp K_law_pieces A false 0 m_law_pieces em_law_pieces := by
    delta m_law_pieces em_law_pieces l_law_pieces_2 l_law_pieces_1 el_law_pieces_2 el_law_pieces_1
    exact ⟨_, (sv_seq (sv_set (i := 1) (xv_ev (ev_lst (fr := true) (af_nil (b := false) (k := 0)))))
    (sv_seq (sv_set (i := 2) (xv_ev (ev_bin (b := false) (k := 0) (fr := true) (ov_ix (k1 := 0)) (ev_tup (fr := true) (n := 3) (av_cons (ev_c (x := (.int 3)) (b := false) (k := 0) (fr := true)) (av_cons (ev_c (x := (.int 12)) (b := false) (k := 0) (fr := true)) (av_cons (ev_bin (b := false) (k := 0) (fr := true) ov_pow (ev_c (x := (.int 10)) (b := false) (k := 0) (fr := true)) (ev_c (x := (.int 30)) (b := false) (k := 0) (fr := true))) av_nil)))) (ev_bin (b := false) (k := 0) (fr := true) ov_mod (ev_var0 (b := true) (fr := true) (i := 0) rfl) (ev_c (x := (.int 3)) (b := false) (k := 0) (fr := true))))))
    (sv_seq (sv_set (i := 3) (xv_ev (ev_bin (b := false) (k := 0) (fr := true) ov_add (ev_c (x := (.int 2)) (b := false) (k := 0) (fr := true)) (ev_bin (b := false) (k := 0) (fr := true) ov_mod (ev_bin (b := false) (k := 0) (fr := true) ov_div (ev_var0 (b := true) (fr := true) (i := 0) rfl) (ev_c (x := (.int 3)) (b := false) (k := 0) (fr := true))) (ev_c (x := (.int 4)) (b := false) (k := 0) (fr := true))))))
    (sv_seq (sv_set (i := 0) (xv_ev (ev_bin (b := false) (k := 0) (fr := true) ov_div (ev_var0 (b := true) (fr := true) (i := 0) rfl) (ev_c (x := (.int 12)) (b := false) (k := 0) (fr := true)))))
    (sv_seq (sv_for (iv_rng (b := false) (av_cons (ev_var0 (b := false) (fr := true) (i := 3) rfl) av_nil)) (sv_seq (sv_set (i := 5) (xv_ev (ev_lst (fr := true) (af_nil (b := false) (k := 0)))))
    (sv_seq (sv_set (i := 6) (xv_ev (ev_bin (b := false) (k := 0) (fr := true) ov_add (ev_c (x := (.int 1)) (b := false) (k := 0) (fr := true)) (ev_bin (b := false) (k := 0) (fr := true) ov_mod (ev_var0 (b := true) (fr := true) (i := 0) rfl) (ev_c (x := (.int 3)) (b := false) (k := 0) (fr := true))))))
    (sv_seq (sv_set (i := 0) (xv_ev (ev_bin (b := false) (k := 0) (fr := true) ov_div (ev_var0 (b := true) (fr := true) (i := 0) rfl) (ev_c (x := (.int 3)) (b := false) (k := 0) (fr := true)))))
    (sv_seq (sv_for (iv_rng (b := false) (av_cons (ev_var0 (b := false) (fr := true) (i := 6) rfl) av_nil)) (sv_seq (sv_setT (is := [8, 0]) (ev_call (k := 0) (fr := true) k_law_places (am_vw (ev_var0 (b := true) (fr := true) (i := 0) rfl) (am_vw (ev_c (x := (.int 3)) (b := false) (k := 0) (fr := true)) (am_vw (ev_var0 (b := false) (fr := true) (i := 2) rfl) am_nil)))))
    (sv_expr (xv_app (bi := false) (ki := 0) (i := 5) (m := 0) (xv_ev (ev_fz0 (k := 0) (fr := true) (ev_cb (b := false) (fr := true) cv_tuple (av_cons (ev_var0 (b := false) (fr := true) (i := 8) rfl) av_nil))))))))
    (sv_expr (xv_app (bi := false) (ki := 0) (i := 1) (m := 0) (xv_fz (k := 1) (xv_mv (b := false) (k := 1) (i := 5) rfl)))))))))
    (sv_retX (xv_fz (k := 1) (xv_mv (b := false) (k := 1) (i := 1) rfl))))))))⟩
  exact s.elim fun _ s => cal_phi s
noncomputable def el_law_some_1 : VF :=
  (sFor (iRng (fCons (fVar 2) fNil)) (.nm 3) (sSeq (sSetT [4, 0] (fCall w_law_number (fCons (fVar 0) fNil)))
    (sExpr (fApp 1 (fVar 4)))))
noncomputable def em_law_some : VF :=
  (sSeq (sSet 1 (fLst false 1 fNil))
    (sSeq (sSet 2 (fBin gAdd (fC (.int 1)) (fBin gMod (fVar 0) (fC (.int 6)))))
    (sSeq (sSet 0 (fBin gDiv (fVar 0) (fC (.int 6))))
    (sSeq el_law_some_1
    (sRet (fTup (fConsX (fMv 1) (fConsX (fImm (fVar 0)) fNil))))))))
noncomputable def w_law_some : List PyData → VC := phiV [.vw] 5 em_law_some
abbrev K_law_some : List KD := [(true, 0), (false, 1), (false, 0), (false, 0), (false, 0)]
theorem k_law_some : CalV v_law_some 0 w_law_some := by
  have s : ∃ A, SVp K_law_some A false 0 m_law_some em_law_some := by
    delta m_law_some em_law_some l_law_some_1 el_law_some_1
    exact ⟨_, (sv_seq (sv_set (i := 1) (xv_ev (ev_lst (fr := true) (af_nil (b := false) (k := 0)))))
    (sv_seq (sv_set (i := 2) (xv_ev (ev_bin (b := false) (k := 0) (fr := true) ov_add (ev_c (x := (.int 1)) (b := false) (k := 0) (fr := true)) (ev_bin (b := false) (k := 0) (fr := true) ov_mod (ev_var0 (b := true) (fr := true) (i := 0) rfl) (ev_c (x := (.int 6)) (b := false) (k := 0) (fr := true))))))
    (sv_seq (sv_set (i := 0) (xv_ev (ev_bin (b := false) (k := 0) (fr := true) ov_div (ev_var0 (b := true) (fr := true) (i := 0) rfl) (ev_c (x := (.int 6)) (b := false) (k := 0) (fr := true)))))
    (sv_seq (sv_for (iv_rng (b := false) (av_cons (ev_var0 (b := false) (fr := true) (i := 2) rfl) av_nil)) (sv_seq (sv_setT (is := [4, 0]) (ev_call (k := 0) (fr := true) k_law_number (am_vw (ev_var0 (b := true) (fr := true) (i := 0) rfl) am_nil)))
    (sv_expr (xv_app (bi := false) (ki := 0) (i := 1) (m := 0) (xv_ev (ev_fz0 (k := 0) (fr := true) (ev_var0 (b := false) (fr := true) (i := 4) rfl)))))))
    (sv_retX (xv_tupX (n := 2) (ax_cons (b := false) (xv_fz (k := 1) (xv_mv (b := false) (k := 1) (i := 1) rfl)) (ax_cons (b := false) (xv_ev (ev_imm (b := false) (fr := true) (ev_var0 (b := true) (fr := true) (i := 0) rfl))) ax_nil))))))))⟩
  exact s.elim fun _ s => cal_phi s
noncomputable def el_law_move_text_1 : VF :=
  (sFor (iSeq (fBin gIx (fVar 0) (fC (.int 2)))) (.nm 4) (sSet 3 (fBin gAdd (fBin gAdd (fVar 3) (fC (.str (PySem.Str.ofString " /")))) (fCall w_law_piece_text (fCons (fVar 4) fNil)))))
noncomputable def em_law_move_text : VF :=
  (sSeq (sSet 1 (fDctT (fC (.str (PySem.Str.ofString "join out"))) (fC (.str (PySem.Str.ofString "join-out"))) (fC (.str (PySem.Str.ofString "join in"))) (fC (.str (PySem.Str.ofString "join-in")))))
    (sSeq (sSet 2 (fBin gIx (fVar 0) (fC (.int 0))))
    (sSeq (sIf (fTst (fBin (gIn false) (fVar 2) (fTup (fCons (fC (.str (PySem.Str.ofString "out"))) (fCons (fC (.str (PySem.Str.ofString "in"))) fNil))))) (sSeq (sSet 3 (fBin gAdd (fBin gAdd (fVar 2) (fC (.str (PySem.Str.ofString " ")))) (fCB gStrI (fCons (fBin gIx (fVar 0) (fC (.int 1))) fNil))))
    (sSeq el_law_move_text_1
    (sRet (fVar 3)))) sNext)
    (sSeq (sIf (fTst (fBin (gEq false) (fVar 2) (fC (.str (PySem.Str.ofString "lay"))))) (sSeq (sSet 3 (fBin gAdd (fBin gAdd (fBin gAdd (fC (.str (PySem.Str.ofString "lay "))) (fCB gStrI (fCons (fBin gIx (fVar 0) (fC (.int 1))) fNil))) (fC (.str (PySem.Str.ofString " / ")))) (fCall w_law_spelled (fCons (fBin gIx (fVar 0) (fC (.int 2))) fNil))))
    (sRet (fBin gAdd (fBin gAdd (fVar 3) (fC (.str (PySem.Str.ofString " / ")))) (fCall w_law_spelled (fCons (fBin gIx (fVar 0) (fC (.int 3))) fNil))))) sNext)
    (sRet (fBin gAdd (fBin gAdd (fDG2 (fVar 1) (fVar 2) (fVar 2)) (fC (.str (PySem.Str.ofString " ")))) (fCall w_law_spelled (fCons (fSlU (fVar 0) (oSome (fC (.int 1))) oNo) fNil))))))))
noncomputable def w_law_move_text : List PyData → VC := phiV [.vw] 5 em_law_move_text
abbrev K_law_move_text : List KD := [(true, 0), (false, 1), (true, 0), (false, 0), (true, 0)]
theorem k_law_move_text : CalV v_law_move_text 0 w_law_move_text := by
  have s : ∃ A, SVp K_law_move_text A false 0 m_law_move_text em_law_move_text := by
    delta m_law_move_text em_law_move_text l_law_move_text_1 el_law_move_text_1
    exact ⟨_, (sv_seq (sv_set (i := 1) (xv_ev (ev_dct2 (k := 0) (fr := true) (ev_c (x := (.str (PySem.Str.ofString "join out"))) (b := false) (k := 0) (fr := true)) (ev_c (x := (.str (PySem.Str.ofString "join-out"))) (b := false) (k := 0) (fr := true)) (ev_c (x := (.str (PySem.Str.ofString "join in"))) (b := false) (k := 0) (fr := true)) (ev_c (x := (.str (PySem.Str.ofString "join-in"))) (b := false) (k := 0) (fr := true)))))
    (sv_seq (sv_set (i := 2) (xv_ev (ev_bin (b := true) (k := 0) (fr := true) (ov_ix (k1 := 0)) (ev_var0 (b := true) (fr := true) (i := 0) rfl) (ev_c (x := (.int 0)) (b := false) (k := 0) (fr := true)))))
    (sv_seq (sv_if (tv_tst (ev_bin (b := false) (k := 0) (fr := true) ov_in (ev_var0 (b := true) (fr := true) (i := 2) rfl) (ev_tup (fr := true) (n := 2) (av_cons (ev_c (x := (.str (PySem.Str.ofString "out"))) (b := false) (k := 0) (fr := true)) (av_cons (ev_c (x := (.str (PySem.Str.ofString "in"))) (b := false) (k := 0) (fr := true)) av_nil))))) (sv_seq (sv_set (i := 3) (xv_ev (ev_bin (b := false) (k := 0) (fr := true) ov_add (ev_bin (b := false) (k := 0) (fr := true) ov_add (ev_var0 (b := true) (fr := true) (i := 2) rfl) (ev_c (x := (.str (PySem.Str.ofString " "))) (b := false) (k := 0) (fr := true))) (ev_cb (b := false) (k := 0) (fr := true) cv_strI (av_cons (ev_bin (b := true) (k := 0) (fr := true) (ov_ix (k1 := 0)) (ev_var0 (b := true) (fr := true) (i := 0) rfl) (ev_c (x := (.int 1)) (b := false) (k := 0) (fr := true))) av_nil)))))
    (sv_seq (sv_for (iv_seq (ev_bin (b := true) (k := 0) (fr := true) (ov_ix (k1 := 0)) (ev_var0 (b := true) (fr := true) (i := 0) rfl) (ev_c (x := (.int 2)) (b := false) (k := 0) (fr := true)))) (sv_set (i := 3) (xv_ev (ev_bin (b := false) (k := 0) (fr := true) ov_add (ev_bin (b := false) (k := 0) (fr := true) ov_add (ev_var0 (b := false) (fr := true) (i := 3) rfl) (ev_c (x := (.str (PySem.Str.ofString " /"))) (b := false) (k := 0) (fr := true))) (ev_call (k := 0) (fr := true) k_law_piece_text (am_vw (ev_var0 (b := true) (fr := true) (i := 4) rfl) am_nil))))))
    (sv_ret (ev_var0 (b := false) (fr := true) (i := 3) rfl)))) sv_next)
    (sv_seq (sv_if (tv_tst (ev_bin (b := false) (k := 0) (fr := true) ov_eq (ev_var0 (b := true) (fr := true) (i := 2) rfl) (ev_c (x := (.str (PySem.Str.ofString "lay"))) (b := false) (k := 0) (fr := true)))) (sv_seq (sv_set (i := 3) (xv_ev (ev_bin (b := false) (k := 0) (fr := true) ov_add (ev_bin (b := false) (k := 0) (fr := true) ov_add (ev_bin (b := false) (k := 0) (fr := true) ov_add (ev_c (x := (.str (PySem.Str.ofString "lay "))) (b := false) (k := 0) (fr := true)) (ev_cb (b := false) (k := 0) (fr := true) cv_strI (av_cons (ev_bin (b := true) (k := 0) (fr := true) (ov_ix (k1 := 0)) (ev_var0 (b := true) (fr := true) (i := 0) rfl) (ev_c (x := (.int 1)) (b := false) (k := 0) (fr := true))) av_nil))) (ev_c (x := (.str (PySem.Str.ofString " / "))) (b := false) (k := 0) (fr := true))) (ev_call (k := 0) (fr := true) k_law_spelled (am_vw (ev_bin (b := true) (k := 0) (fr := true) (ov_ix (k1 := 0)) (ev_var0 (b := true) (fr := true) (i := 0) rfl) (ev_c (x := (.int 2)) (b := false) (k := 0) (fr := true))) am_nil)))))
    (sv_ret (ev_bin (b := false) (k := 0) (fr := true) ov_add (ev_bin (b := false) (k := 0) (fr := true) ov_add (ev_var0 (b := false) (fr := true) (i := 3) rfl) (ev_c (x := (.str (PySem.Str.ofString " / "))) (b := false) (k := 0) (fr := true))) (ev_call (k := 0) (fr := true) k_law_spelled (am_vw (ev_bin (b := true) (k := 0) (fr := true) (ov_ix (k1 := 0)) (ev_var0 (b := true) (fr := true) (i := 0) rfl) (ev_c (x := (.int 3)) (b := false) (k := 0) (fr := true))) am_nil))))) sv_next)
    (sv_ret (ev_bin (b := false) (k := 0) (fr := true) ov_add (ev_bin (b := false) (k := 0) (fr := true) ov_add (ev_dg2 (b := true) (fr := true) (ev_var (b := false) (k := 1) (i := 1) rfl) (ev_var0 (b := true) (fr := true) (i := 2) rfl) (ev_var0 (b := true) (fr := true) (i := 2) rfl)) (ev_c (x := (.str (PySem.Str.ofString " "))) (b := false) (k := 0) (fr := true))) (ev_call (k := 0) (fr := true) k_law_spelled (am_vw (ev_slU (b2 := false) (k2 := 0) (fr := true) (ev_var0 (b := true) (fr := true) (i := 0) rfl) (ov_some (ev_c (x := (.int 1)) (b := false) (k := 0) (fr := true))) ov_no) am_nil))))))))⟩
  exact s.elim fun _ s => cal_phi s
noncomputable def ee_numbers_read_1 : VE :=
  (fLc false 1 (iSeq (fVar 0)) (.nm 1) fYes (fCall w_number_read (fCons (fVar 1) fNil)) [1])
noncomputable def em_numbers_read : VF :=
  (sSeq (sIf (fTst (fBin (gEq false) (fVar 0) (fLst false 1 fNil))) (sRaise (PySem.Str.ofString "NoText")) sNext)
    (sRet ee_numbers_read_1))
noncomputable def w_numbers_read : List PyData → VC := phiV [.vw] 2 em_numbers_read
abbrev K_numbers_read : List KD := [(true, 0), (true, 0)]
theorem k_numbers_read : CalV v_numbers_read 1 w_numbers_read := by
  have s : ∃ A, SVp K_numbers_read A false 1 m_numbers_read em_numbers_read := by
    delta m_numbers_read em_numbers_read e_numbers_read_1 ee_numbers_read_1
    exact ⟨_, (sv_seq (sv_if (tv_tst (ev_bin (b := false) (k := 0) (fr := true) ov_eq (ev_var0 (b := true) (fr := true) (i := 0) rfl) (ev_fz0 (k := 1) (fr := true) (ev_lst (fr := true) (af_nil (b := false) (k := 0)))))) sv_raise sv_next)
    (sv_ret (ev_lc (b := false) (fr := true) (iv_seq (ev_var0 (b := true) (fr := true) (i := 0) rfl)) tv_yes (ev_call (k := 0) (fr := true) k_number_read (am_vw (ev_var0 (b := true) (fr := true) (i := 1) rfl) am_nil)))))⟩
  exact s.elim fun _ s => cal_phi s
noncomputable def em_move_shown : VF :=
  (sSeq (sSet 1 (fBin gIx (fVar 0) (fC (.int 0))))
    (sSeq (sIf (fTst (fBin (gIn false) (fVar 1) (fC (.tuple [.str (PySem.Str.ofString "out"), .str (PySem.Str.ofString "in")])))) (sRet (fJs [(fFmt (fVar 1)), (fC (.str (PySem.Str.ofString " "))), (fFmt (fBin gIx (fVar 0) (fC (.int 1)))), (fC (.str (PySem.Str.ofString " "))), (fFmt (fCall w_pieces_shown (fCons (fBin gIx (fVar 0) (fC (.int 2))) fNil)))])) sNext)
    (sSeq (sIf (fTst (fBin (gEq false) (fVar 1) (fC (.str (PySem.Str.ofString "lay"))))) (sRet (fJs [(fC (.str (PySem.Str.ofString "lay "))), (fFmt (fBin gIx (fVar 0) (fC (.int 1)))), (fC (.str (PySem.Str.ofString " / "))), (fFmt (fCall w_numbers_shown (fCons (fBin gIx (fVar 0) (fC (.int 2))) fNil))), (fC (.str (PySem.Str.ofString " / "))), (fFmt (fCall w_numbers_shown (fCons (fBin gIx (fVar 0) (fC (.int 3))) fNil)))])) sNext)
    (sRet (fBin gAdd (fBin gAdd (fKGet tb_JOINS (fVar 1) (fImm (fVar 1))) (fC (.str (PySem.Str.ofString " ")))) (fCall w_numbers_shown (fCons (fSlU (fVar 0) (oSome (fC (.int 1))) oNo) fNil)))))))
noncomputable def w_move_shown : List PyData → VC := phiV [.vw] 2 em_move_shown
abbrev K_move_shown : List KD := [(true, 0), (true, 0)]
theorem k_move_shown : CalV v_move_shown 0 w_move_shown := by
  have s : ∃ A, SVp K_move_shown A false 0 m_move_shown em_move_shown := by
    delta m_move_shown em_move_shown
    exact ⟨_, (sv_seq (sv_set (i := 1) (xv_ev (ev_bin (b := true) (k := 0) (fr := true) (ov_ix (k1 := 0)) (ev_var0 (b := true) (fr := true) (i := 0) rfl) (ev_c (x := (.int 0)) (b := false) (k := 0) (fr := true)))))
    (sv_seq (sv_if (tv_tst (ev_bin (b := false) (k := 0) (fr := true) ov_in (ev_var0 (b := true) (fr := true) (i := 1) rfl) (ev_c (x := (.tuple [.str (PySem.Str.ofString "out"), .str (PySem.Str.ofString "in")])) (b := false) (k := 0) (fr := true)))) (sv_ret (ev_js (b := false) (k := 0) (fr := true) (.cons (ev_fmt (b := false) (k := 0) (fr := true) (ev_var0 (b := true) (fr := true) (i := 1) rfl)) (.cons (ev_c (x := (.str (PySem.Str.ofString " "))) (b := false) (k := 0) (fr := true)) (.cons (ev_fmt (b := false) (k := 0) (fr := true) (ev_bin (b := true) (k := 0) (fr := true) (ov_ix (k1 := 0)) (ev_var0 (b := true) (fr := true) (i := 0) rfl) (ev_c (x := (.int 1)) (b := false) (k := 0) (fr := true)))) (.cons (ev_c (x := (.str (PySem.Str.ofString " "))) (b := false) (k := 0) (fr := true)) (.cons (ev_fmt (b := false) (k := 0) (fr := true) (ev_call (k := 0) (fr := true) k_pieces_shown (am_vw (ev_bin (b := true) (k := 0) (fr := true) (ov_ix (k1 := 0)) (ev_var0 (b := true) (fr := true) (i := 0) rfl) (ev_c (x := (.int 2)) (b := false) (k := 0) (fr := true))) am_nil))) .nil))))))) sv_next)
    (sv_seq (sv_if (tv_tst (ev_bin (b := false) (k := 0) (fr := true) ov_eq (ev_var0 (b := true) (fr := true) (i := 1) rfl) (ev_c (x := (.str (PySem.Str.ofString "lay"))) (b := false) (k := 0) (fr := true)))) (sv_ret (ev_js (b := false) (k := 0) (fr := true) (.cons (ev_c (x := (.str (PySem.Str.ofString "lay "))) (b := false) (k := 0) (fr := true)) (.cons (ev_fmt (b := false) (k := 0) (fr := true) (ev_bin (b := true) (k := 0) (fr := true) (ov_ix (k1 := 0)) (ev_var0 (b := true) (fr := true) (i := 0) rfl) (ev_c (x := (.int 1)) (b := false) (k := 0) (fr := true)))) (.cons (ev_c (x := (.str (PySem.Str.ofString " / "))) (b := false) (k := 0) (fr := true)) (.cons (ev_fmt (b := false) (k := 0) (fr := true) (ev_call (k := 0) (fr := true) k_numbers_shown (am_vw (ev_bin (b := true) (k := 0) (fr := true) (ov_ix (k1 := 0)) (ev_var0 (b := true) (fr := true) (i := 0) rfl) (ev_c (x := (.int 2)) (b := false) (k := 0) (fr := true))) am_nil))) (.cons (ev_c (x := (.str (PySem.Str.ofString " / "))) (b := false) (k := 0) (fr := true)) (.cons (ev_fmt (b := false) (k := 0) (fr := true) (ev_call (k := 0) (fr := true) k_numbers_shown (am_vw (ev_bin (b := true) (k := 0) (fr := true) (ov_ix (k1 := 0)) (ev_var0 (b := true) (fr := true) (i := 0) rfl) (ev_c (x := (.int 3)) (b := false) (k := 0) (fr := true))) am_nil))) .nil)))))))) sv_next)
    (sv_ret (ev_bin (b := false) (k := 0) (fr := true) ov_add (ev_bin (b := false) (k := 0) (fr := true) ov_add (ev_kget (fr := true) (ev_var0 (b := true) (fr := true) (i := 1) rfl) (ev_imm (b := false) (fr := true) (ev_var0 (b := true) (fr := true) (i := 1) rfl))) (ev_c (x := (.str (PySem.Str.ofString " "))) (b := false) (k := 0) (fr := true))) (ev_call (k := 0) (fr := true) k_numbers_shown (am_vw (ev_slU (b2 := false) (k2 := 0) (fr := true) (ev_var0 (b := true) (fr := true) (i := 0) rfl) (ov_some (ev_c (x := (.int 1)) (b := false) (k := 0) (fr := true))) ov_no) am_nil)))))))⟩
  exact s.elim fun _ s => cal_phi s
noncomputable def ee_split_read_1 : VE :=
  (fLc false 1 (iSeq (fVar 3)) (.nm 4) fYes (fCall w_arrow_read (fCons (fVar 4) fNil)) [4])
noncomputable def ee_split_read_2 : VE :=
  (fLc false 1 (iSeq (fCall w_parted (fCons (fPure 1 (fSlice (fVar 0) (oSome (fC (.int 2))) oNo)) fNil))) (.nm 3) fYes ee_split_read_1 [3])
noncomputable def em_split_read : VF :=
  (sSeq (sSet 1 (fCall w_number_read (fCons (fBin gIx (fVar 0) (fC (.int 1))) fNil)))
    (sSeq (sSet 2 ee_split_read_2)
    (sSeq (sIf (fTst (fBin gLt (fCB gLen (fCons (fVar 2) fNil)) (fC (.int 2)))) (sRaise (PySem.Str.ofString "NoText")) sNext)
    (sRet (fTupX 1 [0, 0, 1] (fConsX (fPure 0 (fBin gIx (fVar 0) (fC (.int 0)))) (fConsX (fVar 1) (fConsX (fMv 2) fNil))))))))
noncomputable def w_split_read : List PyData → VC := phiV [.vw] 5 em_split_read
abbrev K_split_read : List KD := [(true, 0), (false, 0), (false, 1), (false, 0), (false, 0)]
theorem k_split_read : CalV v_split_read 2 w_split_read := by
  have s : ∃ A, SVp K_split_read A false 2 m_split_read em_split_read := by
    delta m_split_read em_split_read e_split_read_2 e_split_read_1 ee_split_read_2 ee_split_read_1
    exact ⟨_, (sv_seq (sv_set (i := 1) (xv_ev (ev_call (k := 0) (fr := true) k_number_read (am_vw (ev_bin (b := true) (k := 0) (fr := true) (ov_ix (k1 := 0)) (ev_var0 (b := true) (fr := true) (i := 0) rfl) (ev_c (x := (.int 1)) (b := false) (k := 0) (fr := true))) am_nil))))
    (sv_seq (sv_set (i := 2) (xv_ev (ev_lc (b := false) (fr := true) (iv_seq (ev_call (k := 0) (fr := true) k_parted (am_vw (ev_fz0 (k := 1) (fr := true) (ev_pure (ev_slice (fr := true) (ev_var0 (b := true) (fr := true) (i := 0) rfl) (ov_some (ev_c (x := (.int 2)) (b := false) (k := 0) (fr := true))) ov_no))) am_nil))) tv_yes (ev_fz0 (k := 1) (fr := true) (ev_lc (b := false) (fr := true) (iv_seq (ev_var0 (b := false) (fr := true) (i := 3) rfl)) tv_yes (ev_call (k := 0) (fr := true) k_arrow_read (am_vw (ev_var0 (b := false) (fr := true) (i := 4) rfl) am_nil)))))))
    (sv_seq (sv_if (tv_tst (ev_bin (b := false) (k := 0) (fr := true) ov_lt (ev_cb (b := false) (k := 0) (fr := true) cv_len (av_cons (ev_var (b := false) (k := 1) (i := 2) rfl) av_nil)) (ev_c (x := (.int 2)) (b := false) (k := 0) (fr := true)))) sv_raise sv_next)
    (sv_retX (xv_tupOX (b := false) (k := 1) (js := [0, 0, 1]) (ax_cons (b := false) (xv_pure (xv_ev (ev_bin (b := true) (k := 0) (fr := true) (ov_ix (k1 := 0)) (ev_var0 (b := true) (fr := true) (i := 0) rfl) (ev_c (x := (.int 0)) (b := false) (k := 0) (fr := true))))) (ax_cons (b := false) (xv_ev (ev_var0 (b := false) (fr := true) (i := 1) rfl)) (ax_cons (b := false) (xv_mv (b := false) (k := 1) (i := 2) rfl) ax_nil))))))))⟩
  exact s.elim fun _ s => cal_phi s
noncomputable def em_law_move : VF :=
  (sSeq (sSet 2 (fCall w_law_big (fCons (fSc 0) (fCons (fVar 1) fNil))))
    (sSeq (sSet 3 (fBin gIx (fTup (fCons (fC (.str (PySem.Str.ofString "swap"))) (fCons (fC (.str (PySem.Str.ofString "out"))) (fCons (fC (.str (PySem.Str.ofString "in"))) (fCons (fC (.str (PySem.Str.ofString "join out"))) (fCons (fC (.str (PySem.Str.ofString "join in"))) (fCons (fC (.str (PySem.Str.ofString "draw"))) (fCons (fC (.str (PySem.Str.ofString "lay"))) (fCons (fC (.str (PySem.Str.ofString "row"))) (fCons (fC (.str (PySem.Str.ofString "column"))) fNil)))))))))) (fBin gMod (fVar 2) (fC (.int 9)))))
    (sSeq (sSetT [4, 2] (fCall w_law_number (fCons (fBin gDiv (fVar 2) (fC (.int 9))) fNil)))
    (sSeq (sSetT [5, 2] (fCall w_law_number (fCons (fVar 2) fNil)))
    (sSeq (sSetT [6, 2] (fCall w_law_number (fCons (fVar 2) fNil)))
    (sSeq (sIf (fTst (fBin (gIn false) (fVar 3) (fTup (fCons (fC (.str (PySem.Str.ofString "out"))) (fCons (fC (.str (PySem.Str.ofString "in"))) fNil))))) (sRet (fTup (fCons (fVar 3) (fCons (fVar 4) (fCons (fCall w_law_pieces (fCons (fCall w_law_big (fCons (fSc 0) (fCons (fBin gAdd (fVar 1) (fC (.int 1))) fNil))) fNil)) fNil))))) sNext)
    (sSeq (sIf (fTst (fBin (gEq false) (fVar 3) (fC (.str (PySem.Str.ofString "lay"))))) (sSeq (sSetT [7, 8] (fCall w_law_some (fCons (fCall w_law_big (fCons (fSc 0) (fCons (fBin gAdd (fVar 1) (fC (.int 1))) fNil))) fNil)))
    (sSeq (sSetT [9, 8] (fCall w_law_some (fCons (fVar 8) fNil)))
    (sRet (fTup (fCons (fVar 3) (fCons (fVar 4) (fCons (fVar 7) (fCons (fVar 9) fNil)))))))) sNext)
    (sSeq (sIf (fTst (fBin (gEq false) (fVar 3) (fC (.str (PySem.Str.ofString "draw"))))) (sRet (fTup (fCons (fVar 3) (fCons (fVar 4) fNil)))) sNext)
    (sSeq (sIf (fTst (fBin (gIn false) (fVar 3) (fTup (fCons (fC (.str (PySem.Str.ofString "row"))) (fCons (fC (.str (PySem.Str.ofString "column"))) fNil))))) (sRet (fTup (fCons (fVar 3) (fCons (fVar 4) (fCons (fVar 5) (fCons (fVar 6) fNil)))))) sNext)
    (sRet (fTup (fCons (fVar 3) (fCons (fVar 4) (fCons (fVar 5) fNil))))))))))))))
noncomputable def w_law_move : List PyData → VC := phiV [.sc, .vw] 10 em_law_move
abbrev K_law_move : List KD := [(false, 0), (true, 0), (false, 0), (false, 0), (false, 0), (false, 0), (false, 0), (false, 0), (false, 0), (false, 0)]
theorem k_law_move : CalV v_law_move 0 w_law_move := by
  have s : ∃ A, SVp K_law_move A false 0 m_law_move em_law_move := by
    delta m_law_move em_law_move
    exact ⟨_, (sv_seq (sv_set (i := 2) (xv_ev (ev_call (k := 0) (fr := true) k_law_big (am_sc (i := 0) (am_vw (ev_var0 (b := true) (fr := true) (i := 1) rfl) am_nil)))))
    (sv_seq (sv_set (i := 3) (xv_ev (ev_bin (b := false) (k := 0) (fr := true) (ov_ix (k1 := 0)) (ev_tup (fr := true) (n := 9) (av_cons (ev_c (x := (.str (PySem.Str.ofString "swap"))) (b := false) (k := 0) (fr := true)) (av_cons (ev_c (x := (.str (PySem.Str.ofString "out"))) (b := false) (k := 0) (fr := true)) (av_cons (ev_c (x := (.str (PySem.Str.ofString "in"))) (b := false) (k := 0) (fr := true)) (av_cons (ev_c (x := (.str (PySem.Str.ofString "join out"))) (b := false) (k := 0) (fr := true)) (av_cons (ev_c (x := (.str (PySem.Str.ofString "join in"))) (b := false) (k := 0) (fr := true)) (av_cons (ev_c (x := (.str (PySem.Str.ofString "draw"))) (b := false) (k := 0) (fr := true)) (av_cons (ev_c (x := (.str (PySem.Str.ofString "lay"))) (b := false) (k := 0) (fr := true)) (av_cons (ev_c (x := (.str (PySem.Str.ofString "row"))) (b := false) (k := 0) (fr := true)) (av_cons (ev_c (x := (.str (PySem.Str.ofString "column"))) (b := false) (k := 0) (fr := true)) av_nil)))))))))) (ev_bin (b := false) (k := 0) (fr := true) ov_mod (ev_var0 (b := false) (fr := true) (i := 2) rfl) (ev_c (x := (.int 9)) (b := false) (k := 0) (fr := true))))))
    (sv_seq (sv_setT (is := [4, 2]) (ev_call (k := 0) (fr := true) k_law_number (am_vw (ev_bin (b := false) (k := 0) (fr := true) ov_div (ev_var0 (b := false) (fr := true) (i := 2) rfl) (ev_c (x := (.int 9)) (b := false) (k := 0) (fr := true))) am_nil)))
    (sv_seq (sv_setT (is := [5, 2]) (ev_call (k := 0) (fr := true) k_law_number (am_vw (ev_var0 (b := false) (fr := true) (i := 2) rfl) am_nil)))
    (sv_seq (sv_setT (is := [6, 2]) (ev_call (k := 0) (fr := true) k_law_number (am_vw (ev_var0 (b := false) (fr := true) (i := 2) rfl) am_nil)))
    (sv_seq (sv_if (tv_tst (ev_bin (b := false) (k := 0) (fr := true) ov_in (ev_var0 (b := false) (fr := true) (i := 3) rfl) (ev_tup (fr := true) (n := 2) (av_cons (ev_c (x := (.str (PySem.Str.ofString "out"))) (b := false) (k := 0) (fr := true)) (av_cons (ev_c (x := (.str (PySem.Str.ofString "in"))) (b := false) (k := 0) (fr := true)) av_nil))))) (sv_ret (ev_tup (fr := true) (n := 3) (av_cons (ev_var0 (b := false) (fr := true) (i := 3) rfl) (av_cons (ev_var0 (b := false) (fr := true) (i := 4) rfl) (av_cons (ev_call (k := 0) (fr := true) k_law_pieces (am_vw (ev_call (k := 0) (fr := true) k_law_big (am_sc (i := 0) (am_vw (ev_bin (b := false) (k := 0) (fr := true) ov_add (ev_var0 (b := true) (fr := true) (i := 1) rfl) (ev_c (x := (.int 1)) (b := false) (k := 0) (fr := true))) am_nil))) am_nil)) av_nil))))) sv_next)
    (sv_seq (sv_if (tv_tst (ev_bin (b := false) (k := 0) (fr := true) ov_eq (ev_var0 (b := false) (fr := true) (i := 3) rfl) (ev_c (x := (.str (PySem.Str.ofString "lay"))) (b := false) (k := 0) (fr := true)))) (sv_seq (sv_setT (is := [7, 8]) (ev_call (k := 0) (fr := true) k_law_some (am_vw (ev_call (k := 0) (fr := true) k_law_big (am_sc (i := 0) (am_vw (ev_bin (b := false) (k := 0) (fr := true) ov_add (ev_var0 (b := true) (fr := true) (i := 1) rfl) (ev_c (x := (.int 1)) (b := false) (k := 0) (fr := true))) am_nil))) am_nil)))
    (sv_seq (sv_setT (is := [9, 8]) (ev_call (k := 0) (fr := true) k_law_some (am_vw (ev_var0 (b := false) (fr := true) (i := 8) rfl) am_nil)))
    (sv_ret (ev_tup (fr := true) (n := 4) (av_cons (ev_var0 (b := false) (fr := true) (i := 3) rfl) (av_cons (ev_var0 (b := false) (fr := true) (i := 4) rfl) (av_cons (ev_var0 (b := false) (fr := true) (i := 7) rfl) (av_cons (ev_var0 (b := false) (fr := true) (i := 9) rfl) av_nil)))))))) sv_next)
    (sv_seq (sv_if (tv_tst (ev_bin (b := false) (k := 0) (fr := true) ov_eq (ev_var0 (b := false) (fr := true) (i := 3) rfl) (ev_c (x := (.str (PySem.Str.ofString "draw"))) (b := false) (k := 0) (fr := true)))) (sv_ret (ev_tup (fr := true) (n := 2) (av_cons (ev_var0 (b := false) (fr := true) (i := 3) rfl) (av_cons (ev_var0 (b := false) (fr := true) (i := 4) rfl) av_nil)))) sv_next)
    (sv_seq (sv_if (tv_tst (ev_bin (b := false) (k := 0) (fr := true) ov_in (ev_var0 (b := false) (fr := true) (i := 3) rfl) (ev_tup (fr := true) (n := 2) (av_cons (ev_c (x := (.str (PySem.Str.ofString "row"))) (b := false) (k := 0) (fr := true)) (av_cons (ev_c (x := (.str (PySem.Str.ofString "column"))) (b := false) (k := 0) (fr := true)) av_nil))))) (sv_ret (ev_tup (fr := true) (n := 4) (av_cons (ev_var0 (b := false) (fr := true) (i := 3) rfl) (av_cons (ev_var0 (b := false) (fr := true) (i := 4) rfl) (av_cons (ev_var0 (b := false) (fr := true) (i := 5) rfl) (av_cons (ev_var0 (b := false) (fr := true) (i := 6) rfl) av_nil)))))) sv_next)
    (sv_ret (ev_tup (fr := true) (n := 3) (av_cons (ev_var0 (b := false) (fr := true) (i := 3) rfl) (av_cons (ev_var0 (b := false) (fr := true) (i := 4) rfl) (av_cons (ev_var0 (b := false) (fr := true) (i := 5) rfl) av_nil))))))))))))))⟩
  exact s.elim fun _ s => cal_phi s
noncomputable def em_lay_read : VF :=
  (sSeq (sSet 1 (fCall w_number_read (fCons (fBin gIx (fVar 0) (fC (.int 1))) fNil)))
    (sSeq (sSet 2 (fCall w_parted (fCons (fPure 1 (fSlice (fVar 0) (oSome (fC (.int 2))) oNo)) fNil)))
    (sSeq (sIf (fTst (fBin (gEq true) (fCB gLen (fCons (fVar 2) fNil)) (fC (.int 2)))) (sRaise (PySem.Str.ofString "NoText")) sNext)
    (sRet (fTup (fCons (fC (.str (PySem.Str.ofString "lay"))) (fCons (fImm (fVar 1)) (fCons (fCall w_numbers_read (fCons (fBin gIx (fVar 2) (fC (.int 0))) fNil)) (fCons (fCall w_numbers_read (fCons (fBin gIx (fVar 2) (fC (.int 1))) fNil)) fNil)))))))))
noncomputable def w_lay_read : List PyData → VC := phiV [.vw] 3 em_lay_read
abbrev K_lay_read : List KD := [(true, 0), (false, 0), (false, 0)]
theorem k_lay_read : CalV v_lay_read 2 w_lay_read := by
  have s : ∃ A, SVp K_lay_read A false 2 m_lay_read em_lay_read := by
    delta m_lay_read em_lay_read
    exact ⟨_, (sv_seq (sv_set (i := 1) (xv_ev (ev_call (k := 0) (fr := true) k_number_read (am_vw (ev_bin (b := true) (k := 0) (fr := true) (ov_ix (k1 := 0)) (ev_var0 (b := true) (fr := true) (i := 0) rfl) (ev_c (x := (.int 1)) (b := false) (k := 0) (fr := true))) am_nil))))
    (sv_seq (sv_set (i := 2) (xv_ev (ev_call (k := 0) (fr := true) k_parted (am_vw (ev_fz0 (k := 1) (fr := true) (ev_pure (ev_slice (fr := true) (ev_var0 (b := true) (fr := true) (i := 0) rfl) (ov_some (ev_c (x := (.int 2)) (b := false) (k := 0) (fr := true))) ov_no))) am_nil))))
    (sv_seq (sv_if (tv_tst (ev_bin (b := false) (k := 0) (fr := true) ov_eq (ev_cb (b := false) (k := 0) (fr := true) cv_len (av_cons (ev_var0 (b := false) (fr := true) (i := 2) rfl) av_nil)) (ev_c (x := (.int 2)) (b := false) (k := 0) (fr := true)))) sv_raise sv_next)
    (sv_ret (ev_tupO (b := false) (fr := true) (af_cons (ev_c (x := (.str (PySem.Str.ofString "lay"))) (b := false) (k := 1) (fr := true)) (af_cons (ev_immK (b := false) (k := 1) (fr := true) (ev_var0 (b := false) (fr := true) (i := 1) rfl)) (af_cons (ev_call (k := 1) (fr := true) k_numbers_read (am_vw (ev_bin (b := false) (k := 0) (fr := true) (ov_ix (k1 := 0)) (ev_var0 (b := false) (fr := true) (i := 2) rfl) (ev_c (x := (.int 0)) (b := false) (k := 0) (fr := true))) am_nil)) (af_cons (ev_call (k := 1) (fr := true) k_numbers_read (am_vw (ev_bin (b := false) (k := 0) (fr := true) (ov_ix (k1 := 0)) (ev_var0 (b := false) (fr := true) (i := 2) rfl) (ev_c (x := (.int 1)) (b := false) (k := 0) (fr := true))) am_nil)) (af_nil (b := false) (k := 1)))))))))))⟩
  exact s.elim fun _ s => cal_phi s
noncomputable def em_plain_read : VF :=
  (sSeq (sSet 1 (fCB gTuple (fCons (fCall w_numbers_read (fCons (fPure 1 (fSlice (fVar 0) (oSome (fC (.int 1))) oNo)) fNil)) fNil)))
    (sSeq (sIf (fAndT (fTst (fBin (gEq false) (fBin gIx (fVar 0) (fC (.int 0))) (fC (.str (PySem.Str.ofString "draw"))))) (fTst (fBin (gEq false) (fCB gLen (fCons (fVar 1) fNil)) (fC (.int 1))))) (sRet (fBin gCatU (fTup (fCons (fC (.str (PySem.Str.ofString "draw"))) fNil)) (fVar 1))) sNext)
    (sSeq (sIf (fAndT (fTst (fBin (gEq false) (fBin gIx (fVar 0) (fC (.int 0))) (fC (.str (PySem.Str.ofString "swap"))))) (fTst (fBin (gEq false) (fCB gLen (fCons (fVar 1) fNil)) (fC (.int 2))))) (sRet (fBin gCatU (fTup (fCons (fC (.str (PySem.Str.ofString "swap"))) fNil)) (fVar 1))) sNext)
    (sSeq (sIf (fAndT (fTst (fKIn false tb_JOINED (fBin gIx (fVar 0) (fC (.int 0))))) (fTst (fBin (gEq false) (fCB gLen (fCons (fVar 1) fNil)) (fC (.int 2))))) (sRet (fBin gCatU (fTup (fCons (fKIx tb_JOINED (fBin gIx (fVar 0) (fC (.int 0)))) fNil)) (fVar 1))) sNext)
    (sSeq (sIf (fAndT (fTst (fBin (gIn false) (fBin gIx (fVar 0) (fC (.int 0))) (fC (.tuple [.str (PySem.Str.ofString "row"), .str (PySem.Str.ofString "column")])))) (fTst (fBin (gEq false) (fCB gLen (fCons (fVar 1) fNil)) (fC (.int 3))))) (sRet (fBin gCatU (fTup (fCons (fImm (fBin gIx (fVar 0) (fC (.int 0)))) fNil)) (fVar 1))) sNext)
    (sRaise (PySem.Str.ofString "NoText")))))))
noncomputable def w_plain_read : List PyData → VC := phiV [.vw] 2 em_plain_read
abbrev K_plain_read : List KD := [(true, 0), (false, 0)]
theorem k_plain_read : CalV v_plain_read 0 w_plain_read := by
  have s : ∃ A, SVp K_plain_read A false 0 m_plain_read em_plain_read := by
    delta m_plain_read em_plain_read
    exact ⟨_, (sv_seq (sv_set (i := 1) (xv_ev (ev_cb (b := false) (fr := true) cv_tuple (av_cons (ev_call (k := 1) (fr := true) k_numbers_read (am_vw (ev_fz0 (k := 1) (fr := true) (ev_pure (ev_slice (fr := true) (ev_var0 (b := true) (fr := true) (i := 0) rfl) (ov_some (ev_c (x := (.int 1)) (b := false) (k := 0) (fr := true))) ov_no))) am_nil)) av_nil))))
    (sv_seq (sv_if (tv_and (tv_tst (ev_bin (b := false) (k := 0) (fr := true) ov_eq (ev_bin (b := true) (k := 0) (fr := true) (ov_ix (k1 := 0)) (ev_var0 (b := true) (fr := true) (i := 0) rfl) (ev_c (x := (.int 0)) (b := false) (k := 0) (fr := true))) (ev_c (x := (.str (PySem.Str.ofString "draw"))) (b := false) (k := 0) (fr := true)))) (tv_tst (ev_bin (b := false) (k := 0) (fr := true) ov_eq (ev_cb (b := false) (k := 0) (fr := true) cv_len (av_cons (ev_var0 (b := false) (fr := true) (i := 1) rfl) av_nil)) (ev_c (x := (.int 1)) (b := false) (k := 0) (fr := true))))) (sv_ret (ev_bin (b := false) (k := 0) (fr := true) ov_catU (ev_tup (fr := true) (n := 1) (av_cons (ev_c (x := (.str (PySem.Str.ofString "draw"))) (b := false) (k := 0) (fr := true)) av_nil)) (ev_var0 (b := false) (fr := true) (i := 1) rfl))) sv_next)
    (sv_seq (sv_if (tv_and (tv_tst (ev_bin (b := false) (k := 0) (fr := true) ov_eq (ev_bin (b := true) (k := 0) (fr := true) (ov_ix (k1 := 0)) (ev_var0 (b := true) (fr := true) (i := 0) rfl) (ev_c (x := (.int 0)) (b := false) (k := 0) (fr := true))) (ev_c (x := (.str (PySem.Str.ofString "swap"))) (b := false) (k := 0) (fr := true)))) (tv_tst (ev_bin (b := false) (k := 0) (fr := true) ov_eq (ev_cb (b := false) (k := 0) (fr := true) cv_len (av_cons (ev_var0 (b := false) (fr := true) (i := 1) rfl) av_nil)) (ev_c (x := (.int 2)) (b := false) (k := 0) (fr := true))))) (sv_ret (ev_bin (b := false) (k := 0) (fr := true) ov_catU (ev_tup (fr := true) (n := 1) (av_cons (ev_c (x := (.str (PySem.Str.ofString "swap"))) (b := false) (k := 0) (fr := true)) av_nil)) (ev_var0 (b := false) (fr := true) (i := 1) rfl))) sv_next)
    (sv_seq (sv_if (tv_and (tv_tst (ev_kin (b := false) (k := 0) (fr := true) (ev_bin (b := true) (k := 0) (fr := true) (ov_ix (k1 := 0)) (ev_var0 (b := true) (fr := true) (i := 0) rfl) (ev_c (x := (.int 0)) (b := false) (k := 0) (fr := true))))) (tv_tst (ev_bin (b := false) (k := 0) (fr := true) ov_eq (ev_cb (b := false) (k := 0) (fr := true) cv_len (av_cons (ev_var0 (b := false) (fr := true) (i := 1) rfl) av_nil)) (ev_c (x := (.int 2)) (b := false) (k := 0) (fr := true))))) (sv_ret (ev_bin (b := false) (k := 0) (fr := true) ov_catU (ev_tup (fr := true) (n := 1) (av_cons (ev_kix (b := false) (k := 0) (fr := true) (ev_bin (b := true) (k := 0) (fr := true) (ov_ix (k1 := 0)) (ev_var0 (b := true) (fr := true) (i := 0) rfl) (ev_c (x := (.int 0)) (b := false) (k := 0) (fr := true)))) av_nil)) (ev_var0 (b := false) (fr := true) (i := 1) rfl))) sv_next)
    (sv_seq (sv_if (tv_and (tv_tst (ev_bin (b := false) (k := 0) (fr := true) ov_in (ev_bin (b := true) (k := 0) (fr := true) (ov_ix (k1 := 0)) (ev_var0 (b := true) (fr := true) (i := 0) rfl) (ev_c (x := (.int 0)) (b := false) (k := 0) (fr := true))) (ev_c (x := (.tuple [.str (PySem.Str.ofString "row"), .str (PySem.Str.ofString "column")])) (b := false) (k := 0) (fr := true)))) (tv_tst (ev_bin (b := false) (k := 0) (fr := true) ov_eq (ev_cb (b := false) (k := 0) (fr := true) cv_len (av_cons (ev_var0 (b := false) (fr := true) (i := 1) rfl) av_nil)) (ev_c (x := (.int 3)) (b := false) (k := 0) (fr := true))))) (sv_ret (ev_bin (b := false) (k := 0) (fr := true) ov_catU (ev_tup (fr := true) (n := 1) (av_cons (ev_imm (b := false) (fr := true) (ev_bin (b := true) (k := 0) (fr := true) (ov_ix (k1 := 0)) (ev_var0 (b := true) (fr := true) (i := 0) rfl) (ev_c (x := (.int 0)) (b := false) (k := 0) (fr := true)))) av_nil)) (ev_var0 (b := false) (fr := true) (i := 1) rfl))) sv_next)
    sv_raise)))))⟩
  exact s.elim fun _ s => cal_phi s
noncomputable def em_move_read : VF :=
  (sSeq (sSet 1 (fTxM gSplit (fVar 0) (fC (.str (PySem.Str.ofString " ")))))
    (sSeq (sIf (fTst (fBin gLt (fCB gLen (fCons (fVar 1) fNil)) (fC (.int 2)))) (sRaise (PySem.Str.ofString "NoText")) sNext)
    (sSeq (sIf (fTst (fBin (gIn false) (fBin gIx (fVar 1) (fC (.int 0))) (fC (.tuple [.str (PySem.Str.ofString "out"), .str (PySem.Str.ofString "in")])))) (sRet (fCall w_split_read (fCons (fVar 1) fNil))) sNext)
    (sSeq (sIf (fTst (fBin (gEq false) (fBin gIx (fVar 1) (fC (.int 0))) (fC (.str (PySem.Str.ofString "lay"))))) (sRet (fCall w_lay_read (fCons (fVar 1) fNil))) sNext)
    (sRet (fUp 1 (fUp 0 (fCall w_plain_read (fCons (fVar 1) fNil)))))))))
noncomputable def w_move_read : List PyData → VC := phiV [.vw] 2 em_move_read
abbrev K_move_read : List KD := [(true, 0), (false, 0)]
theorem k_move_read : CalV v_move_read 2 w_move_read := by
  have s : ∃ A, SVp K_move_read A false 2 m_move_read em_move_read := by
    delta m_move_read em_move_read
    exact ⟨_, (sv_seq (sv_set (i := 1) (xv_ev (ev_fz0 (k := 1) (fr := true) (ev_txM (b := false) (k := 1) (fr := true) tv_split (ev_var0 (b := true) (fr := true) (i := 0) rfl) (ev_c (x := (.str (PySem.Str.ofString " "))) (b := false) (k := 0) (fr := true))))))
    (sv_seq (sv_if (tv_tst (ev_bin (b := false) (k := 0) (fr := true) ov_lt (ev_cb (b := false) (k := 0) (fr := true) cv_len (av_cons (ev_var0 (b := false) (fr := true) (i := 1) rfl) av_nil)) (ev_c (x := (.int 2)) (b := false) (k := 0) (fr := true)))) sv_raise sv_next)
    (sv_seq (sv_if (tv_tst (ev_bin (b := false) (k := 0) (fr := true) ov_in (ev_bin (b := false) (k := 0) (fr := true) (ov_ix (k1 := 0)) (ev_var0 (b := false) (fr := true) (i := 1) rfl) (ev_c (x := (.int 0)) (b := false) (k := 0) (fr := true))) (ev_c (x := (.tuple [.str (PySem.Str.ofString "out"), .str (PySem.Str.ofString "in")])) (b := false) (k := 0) (fr := true)))) (sv_ret (ev_call (k := 2) (fr := true) k_split_read (am_vw (ev_var0 (b := false) (fr := true) (i := 1) rfl) am_nil))) sv_next)
    (sv_seq (sv_if (tv_tst (ev_bin (b := false) (k := 0) (fr := true) ov_eq (ev_bin (b := false) (k := 0) (fr := true) (ov_ix (k1 := 0)) (ev_var0 (b := false) (fr := true) (i := 1) rfl) (ev_c (x := (.int 0)) (b := false) (k := 0) (fr := true))) (ev_c (x := (.str (PySem.Str.ofString "lay"))) (b := false) (k := 0) (fr := true)))) (sv_ret (ev_call (k := 2) (fr := true) k_lay_read (am_vw (ev_var0 (b := false) (fr := true) (i := 1) rfl) am_nil))) sv_next)
    (sv_ret (ev_up (b := false) (k := 1) (ev_up (b := false) (k := 0) (ev_call (k := 0) (fr := true) k_plain_read (am_vw (ev_var0 (b := false) (fr := true) (i := 1) rfl) am_nil)))))))))⟩
  exact s.elim fun _ s => cal_phi s
noncomputable def el_law_good_1 : VF :=
  (sAppN 4 5)
noncomputable def el_law_good_2 : VF :=
  (sFor (iRng (fCons (fC (.int 2)) fNil)) (.nm 3) (sSeq (sIf (fOrT (fTst (fBin (gEq true) (fCall w_move_shown (fCons (fVar 1) fNil)) (fVar 2))) (fTst (fBin (gEq true) (fVar 1) (fVar 0)))) (sRet (fC (.bool false))) sNext)
    (sSeq (sSet 4 (fCall w_move_read (fCons (fVar 2) fNil)))
    (sSeq (sIf (fNotT (fTst (fCall w_law_is_move (fCons (fVar 4) (fCons (fVar 0) fNil))))) (sRet (fC (.bool false))) sNext)
    el_law_good_1))))
noncomputable def em_law_good : VF :=
  (sSeq (sSet 1 (fCall w_law_copied (fCons (fVar 0) fNil)))
    (sSeq (sSet 2 (fCall w_law_move_text (fCons (fVar 0) fNil)))
    (sSeq el_law_good_2
    (sRet (fC (.bool true))))))
noncomputable def w_law_good : List PyData → VC := phiV [.vw] 6 em_law_good
abbrev K_law_good : List KD := [(true, 0), (false, 0), (false, 0), (false, 0), (false, 2), (false, 0)]
theorem k_law_good : CalV v_law_good 0 w_law_good := by
  have s : ∃ A, SVp K_law_good A false 0 m_law_good em_law_good := by
    delta m_law_good em_law_good l_law_good_2 l_law_good_1 el_law_good_2 el_law_good_1
    exact ⟨_, (sv_seq (sv_set (i := 1) (xv_ev (ev_call (k := 0) (fr := true) k_law_copied (am_vw (ev_var0 (b := true) (fr := true) (i := 0) rfl) am_nil))))
    (sv_seq (sv_set (i := 2) (xv_ev (ev_call (k := 0) (fr := true) k_law_move_text (am_vw (ev_var0 (b := true) (fr := true) (i := 0) rfl) am_nil))))
    (sv_seq (sv_for (iv_rng (b := false) (av_cons (ev_c (x := (.int 2)) (b := false) (k := 0) (fr := true)) av_nil)) (sv_seq (sv_if (tv_or (tv_tst (ev_bin (b := false) (k := 0) (fr := true) ov_eq (ev_call (k := 0) (fr := true) k_move_shown (am_vw (ev_var0 (b := false) (fr := true) (i := 1) rfl) am_nil)) (ev_var0 (b := false) (fr := true) (i := 2) rfl))) (tv_tst (ev_bin (b := false) (k := 0) (fr := true) ov_eq (ev_var0 (b := false) (fr := true) (i := 1) rfl) (ev_var0 (b := true) (fr := true) (i := 0) rfl)))) (sv_ret (ev_c (x := (.bool false)) (b := false) (k := 0) (fr := true))) sv_next)
    (sv_seq (sv_set (i := 4) (xv_ev (ev_call (k := 2) (fr := true) k_move_read (am_vw (ev_var0 (b := false) (fr := true) (i := 2) rfl) am_nil))))
    (sv_seq (sv_if (tv_not (tv_tst (ev_call (k := 0) (fr := true) k_law_is_move (am_vw (ev_var (b := false) (k := 2) (i := 4) rfl) (am_vw (ev_var0 (b := true) (fr := true) (i := 0) rfl) am_nil))))) (sv_ret (ev_c (x := (.bool false)) (b := false) (k := 0) (fr := true))) sv_next)
    (sv_appN (i := 4) (j := 5) (k := 0))))))
    (sv_ret (ev_c (x := (.bool true)) (b := false) (k := 0) (fr := true))))))⟩
  exact s.elim fun _ s => cal_phi s
noncomputable def em_law : VF :=
  (sSeq (sSet 1 (fCall w_law_move (fCons (fSc 0) (fCons (fC (.int 0)) fNil))))
    (sSeq (sSet 2 (fCall w_law_move (fCons (fSc 0) (fCons (fC (.int 2)) fNil))))
    (sRet (fAndV (fCall w_law_good (fCons (fVar 1) fNil)) (fAndV (fCall w_law_good (fCons (fVar 2) fNil)) (fCall w_law_good (fCons (fVar 1) fNil)))))))
noncomputable def w_law : List PyData → VC := phiV [.sc] 3 em_law
abbrev K_law : List KD := [(false, 0), (false, 0), (false, 0)]
theorem k_law : CalV v_law 0 w_law := by
  have s : ∃ A, SVp K_law A false 0 m_law em_law := by
    delta m_law em_law
    exact ⟨_, (sv_seq (sv_set (i := 1) (xv_ev (ev_call (k := 0) (fr := true) k_law_move (am_sc (i := 0) (am_vw (ev_c (x := (.int 0)) (b := false) (k := 0) (fr := true)) am_nil)))))
    (sv_seq (sv_set (i := 2) (xv_ev (ev_call (k := 0) (fr := true) k_law_move (am_sc (i := 0) (am_vw (ev_c (x := (.int 2)) (b := false) (k := 0) (fr := true)) am_nil)))))
    (sv_ret (ev_and (fr := true) (ev_call (k := 0) (fr := true) k_law_good (am_vw (ev_var0 (b := false) (fr := true) (i := 1) rfl) am_nil)) (ev_and (fr := true) (ev_call (k := 0) (fr := true) k_law_good (am_vw (ev_var0 (b := false) (fr := true) (i := 2) rfl) am_nil)) (ev_call (k := 0) (fr := true) k_law_good (am_vw (ev_var0 (b := false) (fr := true) (i := 1) rfl) am_nil)))))))⟩
  exact s.elim fun _ s => cal_phi s
end Gn.V
namespace Gn.V
open PySem PySem.Spec L2 Zx.V
open Zx (SV AO AH FE FA FT FS Md Bd It1 Src O RpS En Wd inB iAdd iSub imm immL nod mulB divB modB powB lim flatD flatL isTy cutX kD opt o_some o_none eI eG Fn FnL Fn_int Fn_bool Fn_none Fn_lst Fn_eI Fn_eG FnL_map FnL_of FnL_nil FnL_cons Fn_tup eqv_refl intsD intsD_ok is_ii is_ib is_bb is_bi is_ll is_tt is_lt is_tl Sq gsum atI_0 atI_in ixN_in atI_map inB_lt wide_mul eqvAll_ints shaped_int)
local macro_rules | `(tactic| walk_at "wd") => `(tactic| first | omega | assumption | with_unfolding_all (simp only [List.length_cons, List.length_nil, List.length_map, List.length_range, List.length_append, Nat.reduceAdd, Nat.reduceLeDiff, Nat.le_refl, Nat.zero_le, decide_true]; done) | (simp only [List.length_cons, List.length_nil, List.length_map, List.length_range, List.length_append] <;> omega))
local macro_rules | `(tactic| walk_at "w") => `(tactic| simp (disch := walk_at "wd") only [u_phi, t_nx, t_rt, t_bk, t_ct, t_rz, h_rt, h_nx, h_rz, d_ok, d_rz, d_st, e_ok, e_rz, e_st, u_seq, u_set, u_if, u_expr, u_ret, u_retN, u_next, u_break, u_cont, u_raise, u_setT, u_setL, u_txM, u_tupM, u_par, u_var, u_mv, u_c, u_bin, u_un, u_tst, tst_b, u_andT, u_orT, u_notT, u_yes, u_andV, u_orV, u_notV, u_if', u_chain, u_nil, u_cons, u_lst, u_tup, u_imm, u_pure, u_cb, u_call, bk_ok, bk_rz, u_sc, u_isi, o_add, o_sub, o_div, o_mod, o_lt, o_le, o_gt, o_ge, o_eq, o_ne, o_neg, o_len, o_lent, o_ix, o_ixt, o_ixO, o_isN, o_notN, o_min, o_max, o_abs, o_int, o_intb, o_list, o_listt, o_tuple, o_sum, o_bools, u_dct, u_din, u_dget, o_lenD, p_var, p_ix, u_store, u_augS, u_app, capp_ok, lcEnd_some, u_mt, ge_nil, ge_c, pt_nil, u_dstore, u_aug, u_tryAs, u_tryO, tA_nx, tA_bk, tA_ct, tA_rt, tO_nx, tO_bk, tO_ct, tO_rt, eA_rt, eO_rt, vk_1, vAny_0, vAny_t, vAny_f, u_exi, exv_ex, u_hot, hot_ex, o_inS, o_isB, u_istr, u_sliceT, gtx_s, o_lrev, keyP_i, toL_dK, at_c0, at_c1, at_c2, u_dctO, o_ixOt, u_forOwnP, u_irng, u_irng2, g1_ok, g2_ok, u_iseq, u_itup, u_ienu, u_izip, rng_len, u_for, u_forVar, u_forOwn, u_forF, u_while, u_lc, u_lcVar, u_lcEV, u_lcOwn, u_lcMv, f_nx, f_ct, f_bk, f_rt, f_rz, rs_un, rs_v, rs_sc, rs_nil, gv_v, gl_l, gn_i, rv_k, o_some, o_none, startV, argV, intsD_ok, List.replicate, turn_eq, at_rng, o_dini, Bool.bne_false, Bool.false_bne, Bool.xor_false, Bool.false_xor, goV, setAllV, lc1_eq, rt_k, wipeV, tyP, is_ii, is_ib, is_bb, is_bi, is_ll, is_tt, is_lt, is_tl, isNo, List.getElem?_cons_zero, List.getElem?_cons_succ, List.set_cons_zero, List.set_cons_succ, List.length_cons, List.length_nil, List.length_map, List.length_range, List.map_nil, List.map_cons, if_true, if_false, reduceIte, Bool.false_eq_true, Bool.true_eq_false, decide_eq_true_eq, Bool.not_true, Bool.not_false, List.cons_append, List.nil_append, Int.reduceLT, Int.reduceLE, Int.reduceNeg, Nat.reduceAdd, Nat.reduceLeDiff, Int.reduceToNat, Nat.le_refl, Nat.zero_le, Int.ofNat_eq_natCast, Bool.and_self, Bool.and_true, Bool.true_and, Bool.or_false, Bool.or_true, Bool.and_false, Bool.false_or, Bool.true_or, Bool.false_and, decide_true, decide_false, id_eq, Int.toNat_natCast, Option.map_some, Option.map_none, Option.isSome_some, Option.isSome_none, Int.zero_add])
theorem at_Rv {g : List (List Int)} {k : Nat} (h : k < g.length) : atI (g.map eI) (k : Int) = some (eI (getR g k)) := by
  have := at_R (g := g) h
  rwa [Int.zero_add] at this
theorem at_Iv {v : List Int} {k : Nat} (h : k < v.length) : atI (v.map PyData.int) (k : Int) = some (.int (getI v k)) := by
  have := at_I (v := v) h
  rwa [Int.zero_add] at this
theorem row_len {n k : Nat} {g : List (List Int)} (s : Sq n g) (h : k < n) : (getR g k).length = n := by
  obtain ⟨r, e, hr, hl⟩ := s.get h
  unfold getR
  rw [e]; exact hl
theorem imm_bool {b : Bool} : imm (.bool b) = true := by unfold imm; rfl
theorem imm_str {x : Str} : imm (.str x) = true := by unfold imm; rfl
theorem Fn_str {k : Nat} {x : Str} (h : PyData.strOk x = true) : Fn k (.str x) := ⟨by unfold nod; rfl, by unfold PyData.canLay0; exact h, by unfold PyData.depth; exact Nat.zero_le _⟩
theorem pure_eI {v : List Int} : pureK 1 (eI v) = true := pure_lst fun d h => by
  obtain ⟨k, _, rfl⟩ := List.mem_map.mp h
  exact imm_int
theorem pureL_all {k : Nat} : ∀ {ds : List PyData}, (∀ d ∈ ds, pureK k d = true) → pureL k ds = true
  | [], _ => by unfold pureL; rfl
  | d :: ds, h => by
    unfold pureL
    rw [h d List.mem_cons_self, pureL_all fun x m => h x (List.mem_cons_of_mem _ m)]; rfl
theorem pure_lsK {k : Nat} {ds : List PyData} (h : ∀ d ∈ ds, pureK k d = true) : pureK (k + 1) (.list ds) = true := by
  unfold pureK
  exact pureL_all h
theorem pure_eG {g : List (List Int)} : pureK 2 (eG g) = true := pure_lsK fun d h => by
  obtain ⟨k, _, rfl⟩ := List.mem_map.mp h
  exact pure_eI
theorem cutX_lo {α : Type} {xs : List α} {a : Nat} : cutX xs none (some (a : Int)) = xs.take a := by
  rw [cut_lo (by omega)]; simp
theorem cutX_hi {α : Type} {xs : List α} {a : Nat} : cutX xs (some (a : Int)) none = xs.drop a := by
  rw [cut_hi (by omega)]; simp
theorem u_slice {ga : VE} {gl gh : VOo} {vs : List VS} : fSlice ga gl gh vs = (ga vs).bind fun x vs => (gl vs).bind fun lo vs => (gh vs).bind fun hi vs => Zx.V.gl x (fun ds => .ok (.list (cutX ds lo hi)) vs) .st := by
  unfold fSlice Zx.V.gl
  congr 1
theorem o_oNo {vs : List VS} : oNo vs = .ok none vs := rfl
theorem u_oSome {ga : VE} {vs : List VS} : oSome ga vs = (ga vs).bind fun x vs => gn x (fun i => .ok (some i) vs) .st := by
  unfold oSome gn
  congr 1
theorem cat_ok {b : Bool} {xs ys : List PyData} {vs : List VS} (h : xs.length + ys.length < 1000000) : gCat b (.list xs) (.list ys) vs = .ok (.list (xs ++ ys)) vs := o_cat h
theorem if_t {α : Type} {c : Bool} {a b : α} (h : c = true) : (if c = true then a else b) = a := if_pos h
def putL {α : Type} (l : List α) (p : Nat) (x : α) : List α := l.take p ++ [x] ++ l.drop p
theorem at_c3 {α : Type} {a b c x : α} {xs : List α} : atI (a :: b :: c :: x :: xs) 3 = some x := by
  unfold atI ixN
  rw [if_pos (by decide), if_pos (by simp only [List.length_cons]; omega)]; rfl
theorem at_c4 {α : Type} {a b c d x : α} {xs : List α} : atI (a :: b :: c :: d :: x :: xs) 4 = some x := by
  unfold atI ixN
  rw [if_pos (by decide), if_pos (by simp only [List.length_cons]; omega)]; rfl
theorem at_c5 {α : Type} {a b c d e x : α} {xs : List α} : atI (a :: b :: c :: d :: e :: x :: xs) 5 = some x := by
  unfold atI ixN
  rw [if_pos (by decide), if_pos (by simp only [List.length_cons]; omega)]; rfl
theorem immL_c {d : PyData} {ds : List PyData} : immL (d :: ds) = (imm d && immL ds) := by conv => lhs; unfold immL
theorem immL_n : immL [] = true := by unfold immL; rfl
theorem imm_lst {ds : List PyData} : imm (.list ds) = false := by unfold imm; rfl
theorem imm_tup {ds : List PyData} : imm (.tuple ds) = immL ds := by conv => lhs; unfold imm
theorem imm_none : imm .none = true := by unfold imm; rfl
theorem ix_c {n j : Nat} (h : j < n) : ixN n (j : Int) = some j := by
  rw [Zx.ixN_in (by omega) (by omega)]; simp
theorem pt_t0 {js : List Int} {y a : PyData} {r : List PyData} : putAt (0 :: js) y (.tuple (a :: r)) = .tuple (putAt js y a :: r) := putAt_t (ix_c (j := 0) (by simp)) rfl
theorem pt_t1 {js : List Int} {y a b : PyData} {r : List PyData} : putAt (1 :: js) y (.tuple (a :: b :: r)) = .tuple (a :: putAt js y b :: r) := putAt_t (ix_c (j := 1) (by simp)) rfl
theorem pt_t2 {js : List Int} {y a b c : PyData} {r : List PyData} : putAt (2 :: js) y (.tuple (a :: b :: c :: r)) = .tuple (a :: b :: putAt js y c :: r) := putAt_t (ix_c (j := 2) (by simp)) rfl
theorem pt_t3 {js : List Int} {y a b c d : PyData} {r : List PyData} : putAt (3 :: js) y (.tuple (a :: b :: c :: d :: r)) = .tuple (a :: b :: c :: putAt js y d :: r) := putAt_t (ix_c (j := 3) (by simp)) rfl
theorem kApp_ok {ds : List PyData} {x : PyData} (h : ds.length < 1000000) : kApp ds [x] = some (ds ++ [x], .none) := if_pos h
local macro_rules | `(tactic| walk_at "td") => `(tactic| first | omega | assumption | (simp only [immL_c, immL_n, imm_lst, imm_tup, imm_int, imm_bool, imm_str, imm_none, Bool.and_false, Bool.false_and, Bool.and_true, Bool.true_and]; done) | (rw [row_len (by assumption) (by omega)]; omega) | (simp only [List.length_map, List.length_range, List.length_cons, List.length_nil, List.length_append, List.length_take, List.length_drop] <;> omega) | with_unfolding_all (simp only [List.length_cons, List.length_nil, List.length_map, List.length_range, List.length_append, Nat.reduceAdd, Nat.reduceLeDiff, Nat.le_refl, Nat.zero_le, decide_true]; done))
local macro_rules | `(tactic| walk_at "t") => `(tactic| simp (disch := walk_at "td") only [u_phi, t_nx, t_rt, t_bk, t_ct, t_rz, h_rt, h_nx, h_rz, d_ok, d_rz, d_st, e_ok, e_rz, e_st, u_seq, u_set, u_if, u_expr, u_ret, u_retN, u_next, u_break, u_cont, u_raise, u_setT, u_setL, u_txM, u_tupM, u_par, u_var, u_mv, u_c, u_bin, u_un, u_tst, tst_b, u_andT, u_orT, u_notT, u_yes, u_andV, u_orV, u_notV, u_if', u_chain, u_nil, u_cons, u_lst, u_tup, u_imm, u_pure, u_cb, u_call, bk_ok, bk_rz, u_sc, u_isi, o_add, o_sub, o_div, o_mod, o_lt, o_le, o_gt, o_ge, o_eq, o_ne, o_neg, o_len, o_lent, o_ix, o_ixt, o_ixO, o_isN, o_notN, o_min, o_max, o_abs, o_int, o_intb, o_list, o_listt, o_tuple, o_sum, o_bools, u_dct, u_din, u_dget, o_lenD, p_var, p_ix, u_store, u_augS, u_app, capp_ok, lcEnd_some, u_mt, ge_nil, ge_c, pt_nil, u_dstore, u_aug, u_tryAs, u_tryO, tA_nx, tA_bk, tA_ct, tA_rt, tO_nx, tO_bk, tO_ct, tO_rt, eA_rt, eO_rt, vk_1, vAny_0, vAny_t, vAny_f, u_exi, exv_ex, u_hot, hot_ex, o_inS, o_isB, u_istr, u_sliceT, gtx_s, o_lrev, keyP_i, toL_dK, at_c0, at_c1, at_c2, u_dctO, o_ixOt, u_forOwnP, u_irng, u_irng2, g1_ok, g2_ok, u_iseq, u_itup, u_ienu, u_izip, rng_len, u_for, u_forVar, u_forOwn, u_forF, u_while, u_lc, u_lcVar, u_lcEV, u_lcOwn, u_lcMv, f_nx, f_ct, f_bk, f_rt, f_rz, rs_un, rs_v, rs_sc, rs_nil, gv_v, gl_l, gn_i, rv_k, o_some, o_none, startV, argV, intsD_ok, List.replicate, turn_eq, at_rng, o_dini, Bool.bne_false, Bool.false_bne, Bool.xor_false, Bool.false_xor, goV, setAllV, lc1_eq, rt_k, wipeV, tyP, is_ii, is_ib, is_bb, is_bi, is_ll, is_tt, is_lt, is_tl, isNo, List.getElem?_cons_zero, List.getElem?_cons_succ, List.set_cons_zero, List.set_cons_succ, List.length_cons, List.length_nil, List.length_map, List.length_range, List.map_nil, List.map_cons, if_true, if_false, reduceIte, Bool.false_eq_true, Bool.true_eq_false, decide_eq_true_eq, Bool.not_true, Bool.not_false, List.cons_append, List.nil_append, Int.reduceLT, Int.reduceLE, Int.reduceNeg, Nat.reduceAdd, Nat.reduceLeDiff, Int.reduceToNat, Nat.le_refl, Nat.zero_le, Int.ofNat_eq_natCast, Bool.and_self, Bool.and_true, Bool.true_and, Bool.or_false, Bool.or_true, Bool.and_false, Bool.false_or, Bool.true_or, Bool.false_and, decide_true, decide_false, id_eq, Int.toNat_natCast, Option.map_some, Option.map_none, Option.isSome_some, Option.isSome_none, Int.zero_add, at_Rv, at_Iv, u_cut, u_put, u_callR, u_consX, u_callX1, u_callX2, bk1_ok, only_ok, cb_ok, cb_nx, ac_ok, Nat.reduceSub, List.append_nil, if_pos, if_neg, decide_eq_true, decide_eq_false, u_slice, u_oSome, o_oNo, cutX_lo, cutX_hi, cat_ok, lcEnd_some, pure_eI, pure_eG, List.map_map, capp_ok, List.length_take, List.length_drop, Function.comp_apply, at_c3, at_c4, at_c5, ge_t, pt_t1, pt_t2, pt_t3, pt_t0, u_st2, u_lenSet, u_cnt, u_nld, u_mvCat, u_fzd, u_idk, gdk_ok, gks_ok, o_dinT, o_dinTL, o_dinIL, o_lenDL, keyP_s, u_idx, u_forE, u_tupX, u_tupM2, u_anyS, any_l, any_t, u_tupU, u_slU, u_fUp, u_fmt, u_js, js_n, js_c, u_kin, u_kix, u_kget])
theorem big_v {ns : List Int} {k : Int} (h0 : 0 ≤ k) : ∃ b, 0 ≤ b ∧ w_law_big [eI ns, .int k] = .ok (.int b) := by
  obtain ⟨b, hb, e⟩ := big_eq (ns := ns) h0
  exact ⟨b, hb, lift_d e⟩
abbrev tx (l : List Nat) : Str := ⟨l.toArray⟩
theorem tx_len {l : List Nat} : (tx l).length = l.length := by
  show l.toArray.size = _
  rw [List.size_toArray]
theorem tx_cat {a b : List Nat} : tx a ++ tx b = tx (a ++ b) := by
  show Str.mk (a.toArray ++ b.toArray) = _
  rw [List.append_toArray]
theorem tx_inj {a b : List Nat} (h : tx a = tx b) : a = b := by
  have := congrArg (fun z : Str => z.cps.toList) h
  exact this
theorem tx_ok {l : List Nat} (h : ∀ c ∈ l, c < 200) : PyData.strOk (tx l) = true := by
  unfold PyData.strOk
  rw [Array.all_eq_true']
  intro x hx
  have := h x (by simpa using hx)
  exact decide_eq_true (by omega)
theorem small_line {n : Nat} (h : n ≤ 1000) : n ≤ sizeLine := by rw [sizeLine_eq]; omega
section
variable {vs : List VS} {a b l : List Nat} {i c : Nat}
theorem o_ixT (h : l.length ≤ 1000) (e : l[i]? = some c) : gIx (.str (tx l)) (.int i) vs = .ok (.str (tx [c])) vs := by
  have hi : i < l.length := (List.getElem?_eq_some_iff.mp e).1
  unfold gIx
  dsimp only
  rw [if_pos (by rw [tx_len]; exact small_line h), atI_0 (by omega)]
  simp [e]
theorem cut_hi' {k : Nat} : L2.cutS (tx l) (some (k : Int)) none = tx (l.drop k) := by
  unfold L2.cutS
  rw [HT.sIx_none, HT.sIx_nat, tx_len]
  show Str.mk (List.take (l.length - min k l.length) (List.drop (min k l.length) l)).toArray = Str.mk (l.drop k).toArray
  congr 2
  by_cases h : k ≤ l.length
  · rw [Nat.min_eq_left h, List.take_of_length_le (by rw [List.length_drop]; omega)]
  · rw [Nat.min_eq_right (by omega), List.drop_of_length_le (Nat.le_refl _), List.drop_of_length_le (by omega), List.take_nil]
theorem strV_tx : strV (tx l) = l.map fun c => VI.one (.str (tx [c])) := rfl
theorem eq_tx {neg : Bool} (ha : ∀ c ∈ a, c < 200) (hb : ∀ c ∈ b, c < 200) : gEq neg (.str (tx a)) (.str (tx b)) vs = .ok (.bool (neg ^^ decide (a = b))) vs := by
  rw [eq_fn (Fn_str (tx_ok ha)) (Fn_str (tx_ok hb))]
  congr 3
  show (tx a == tx b) = _
  by_cases h : a = b
  · subst h; simp
  · rw [decide_eq_false h]
    exact beq_eq_false_iff_ne.mpr fun z => h (tx_inj z)
theorem if_hi {k : Nat} (h : l.length ≤ 1000) : (if (tx l).length ≤ sizeLine then VR.ok (PyData.str (L2.cutS (tx l) (some (k : Int)) none)) vs else .st) = .ok (.str (tx (l.drop k))) vs := by
  rw [if_pos (by rw [tx_len]; exact small_line h), cut_hi']
end
theorem sub_1 {c : Nat} {l : List Nat} : Zx.subS (tx [c]) (tx l) = decide (c ∈ l) := PySem.StrLaws.found_one (tx l) c
abbrev bL (ws : List (List Nat)) : PyData := .list (ws.map fun w => PyData.str (tx w))
abbrev Sm (ws : List (List Nat)) : Prop := ∀ w ∈ ws, ∀ c ∈ w, c < 200
theorem Fn_bL {k : Nat} {ws : List (List Nat)} (h : Sm ws) : Fn (k + 1) (bL ws) := Fn_lst (FnL_map fun w m => Fn_str (tx_ok (h w m)))
theorem nil_bL {neg : Bool} {ws : List (List Nat)} {vs : List VS} (h : Sm ws) : gEq neg (bL ws) (.list []) vs = .ok (.bool (neg ^^ ws.isEmpty)) vs := by
  rw [eq_fn (Fn.mono (Fn_bL (k := 0) h) (by decide)) (Fn_lst FnL_nil), Zx.eqv_nil]
  cases ws <;> rfl
theorem pure_bL {ws : List (List Nat)} : pureK 1 (bL ws) = true := pure_lst fun d h => by
  obtain ⟨w, _, rfl⟩ := List.mem_map.mp h
  exact imm_str
open TL (numL joinL)
def zL (i : Int) : List Nat := if 0 ≤ i then numL i.toNat else 45 :: numL (-i).toNat
theorem str_z (i : Int) : PySem.Str.ofString (toString i) = tx (zL i) := by
  apply TL.ext_tl
  show TL.tl _ = zL i
  unfold zL
  by_cases h : 0 ≤ i
  · rw [if_pos h]
    obtain ⟨n, rfl⟩ := Int.eq_ofNat_of_zero_le h
    exact TL.tl_num n
  · rw [if_neg h]
    obtain ⟨n, rfl⟩ := Int.eq_negSucc_of_lt_zero (show i < 0 by omega)
    have e := TL.tl_num (n + 1)
    rw [TL.tl_ofString] at e ⊢
    have e2 : toString (Int.negSucc n) = "-" ++ toString ((n + 1 : Nat) : Int) := rfl
    rw [e2, String.toList_append, List.map_append, e]
    rfl
theorem zL_mem {i : Int} {c : Nat} (h : c ∈ zL i) : c = 45 ∨ (48 ≤ c ∧ c ≤ 57) := by
  unfold zL at h
  split at h
  · exact .inr (TL.numL_digits _ c h)
  · rcases List.mem_cons.mp h with h | h
    · exact .inl h
    · exact .inr (TL.numL_digits _ c h)
theorem zL_len {i : Int} (h : i.natAbs < 10 ^ 100) : (zL i).length ≤ 101 := by
  unfold zL
  split
  · have := TL.numL_len (n := i.toNat) (k := 100) (by decide) (Nat.lt_of_le_of_lt (by omega) h)
    omega
  · have := TL.numL_len (n := (-i).toNat) (k := 100) (by decide) (Nat.lt_of_le_of_lt (by omega) h)
    rw [List.length_cons]
    omega
theorem int_z {i : Int} (h : i.natAbs < 10 ^ 100) : PySem.intText? (tx (zL i)) = some i := by
  have hl := zL_len h
  have hs : (tx (zL i)).length ≤ 4300 := by rw [tx_len]; omega
  by_cases h0 : 0 ≤ i
  · have e : zL i = numL i.toNat := if_pos h0
    rw [e] at hs ⊢
    rw [PySem.intText_digits (x := tx (numL i.toNat)) (TL.numL_digits _) (TL.numL_ne _) hs]
    show some ((PySem.NumText.digitsVal (numL i.toNat) : Nat) : Int) = _
    rw [TL.numL_val, Int.toNat_of_nonneg h0]
  · have e : zL i = 45 :: numL (-i).toNat := if_neg h0
    rw [e] at hs ⊢
    rw [PySem.intText_neg (x := tx (45 :: numL (-i).toNat)) (cs := numL (-i).toNat) rfl (TL.numL_digits _) (TL.numL_ne _) hs, TL.numL_val]
    congr 1
    omega
theorem numL_head : ∀ {n : Nat}, n ≠ 0 → (numL n).head? ≠ some 48 := by
  intro n
  induction n using Nat.strongRecOn with
  | _ n ih =>
    intro h0 e
    by_cases h : n < 10
    · rw [TL.numL_lt h] at e
      have := Option.some.inj e
      omega
    · rw [TL.numL_step (by omega)] at e
      have hn : numL (n / 10) ≠ [] := TL.numL_ne _
      cases q : numL (n / 10) with
      | nil => exact hn q
      | cons c r =>
        rw [q] at e
        exact ih (n / 10) (by omega) (by omega) (by rw [q]; exact e)
def dg : List Nat := (List.range 10).map fun k => 48 + k
theorem dg_mem {c : Nat} : c ∈ dg ↔ 48 ≤ c ∧ c ≤ 57 := by
  unfold dg
  rw [List.mem_map]
  constructor
  · rintro ⟨k, hk, rfl⟩
    have := List.mem_range.mp hk
    omega
  · intro h
    exact ⟨c - 48, List.mem_range.mpr (by omega), by omega⟩
theorem dg_str : PySem.Str.ofString "0123456789" = tx dg := by decide +kernel
theorem s_nil : PySem.Str.ofString "" = tx [] := by decide +kernel
theorem s_0 : PySem.Str.ofString "0" = tx [48] := by decide +kernel
theorem s_m : PySem.Str.ofString "-" = tx [45] := by decide +kernel
theorem s_m0 : PySem.Str.ofString "-0" = tx [45, 48] := by decide +kernel
theorem s_sp : PySem.Str.ofString " " = tx [32] := by decide +kernel
def figs (l : List Nat) : Bool := !(decide (l = [])) && !(decide (l.head? = some 48) && !decide (l = [48])) && l.all fun c => decide (c ∈ dg)
theorem figs_num {n : Nat} : figs (numL n) = true := by
  unfold figs
  rw [decide_eq_false (TL.numL_ne n)]
  have h1 : (numL n).all (fun c => decide (c ∈ dg)) = true := List.all_eq_true.mpr fun c hc => decide_eq_true (dg_mem.mpr (TL.numL_digits n c hc))
  rw [h1]
  by_cases h : n = 0
  · subst h
    rw [TL.numL_lt (by decide)]
    rfl
  · rw [decide_eq_false (numL_head h)]
    rfl
theorem figs_neg {l : List Nat} : figs (45 :: l) = false := by
  unfold figs
  have : (45 :: l).all (fun c => decide (c ∈ dg)) = false := by
    rw [List.all_cons, decide_eq_false (fun z => by have := dg_mem.mp z; omega)]
    rfl
  rw [this, Bool.and_false]
theorem filt_all {l : List Nat} : ((l.filter fun c => !decide (c ∈ dg)).map fun c => [c]).isEmpty = l.all fun c => decide (c ∈ dg) := by
  induction l with
  | nil => rfl
  | cons c l ih =>
    by_cases h : c ∈ dg
    · have e : ((c :: l).filter fun c => !decide (c ∈ dg)) = l.filter fun c => !decide (c ∈ dg) := List.filter_cons_of_neg (by rw [decide_eq_true h]; decide)
      rw [e, ih, List.all_cons, decide_eq_true h, Bool.true_and]
    · have e : ((c :: l).filter fun c => !decide (c ∈ dg)) = c :: l.filter fun c => !decide (c ∈ dg) := List.filter_cons_of_pos (by rw [decide_eq_false h]; decide)
      rw [e, List.all_cons, decide_eq_false h, Bool.false_and]
      rfl
theorem figs_v {l : List Nat} (hs : ∀ c ∈ l, c < 200) (hl : l.length ≤ 1000) : w_are_figures [.str (tx l)] = .ok (.bool (figs l)) := by
  have n0 : ∀ c ∈ ([] : List Nat), c < 200 := fun c h => by cases h
  have n1 : ∀ c ∈ [48], c < 200 := fun c h => by rw [List.mem_singleton.mp h]; decide
  unfold w_are_figures em_are_figures
  walk_at "t"
  rw [s_nil, eq_tx hs n0]
  cases l with
  | nil =>
    walk_at "t"
    rfl
  | cons c r =>
    have e0 : decide (c :: r = []) = false := rfl
    rw [e0]
    walk_at "t"
    have ix : ∀ vs, gIx (.str (tx (c :: r))) (.int 0) vs = .ok (.str (tx [c])) vs := fun vs => o_ixT (l := c :: r) (i := 0) hl rfl
    have hc : ∀ x ∈ [c], x < 200 := fun x h => by rw [List.mem_singleton.mp h]; exact hs c List.mem_cons_self
    rw [ix]
    walk_at "t"
    rw [s_0, eq_tx hc n1]
    have n2 : Sm (((c :: r).filter fun c => !decide (c ∈ dg)).map fun c => [c]) := fun w hw x hx => by
      obtain ⟨y, hy, rfl⟩ := List.mem_map.mp hw
      rw [List.mem_singleton.mp hx]
      exact hs y (List.mem_filter.mp hy).1
    have hf := List.length_filter_le (fun c => !decide (c ∈ dg)) (c :: r)
    have tail : (ee_are_figures_1 [.v (.str (tx (c :: r))), .un]) = .ok (bL (((c :: r).filter fun c => !decide (c ∈ dg)).map fun c => [c])) [.v (.str (tx (c :: r))), .un] := by
      unfold ee_are_figures_1
      walk_at "t"
      rw [dg_str, strV_tx]
      rw [lc_lflt (w := fun c => VI.one (.str (tx [c]))) (t := fun c => !decide (c ∈ dg)) (o := fun c => .str (tx [c])) (l := c :: r) fun x hx => by
        walk_at "t"
        rw [sub_1, Bool.true_xor]
        by_cases h : x ∈ dg
        · walk_at "t"
        · walk_at "t"]
      rw [lcEnd_some (by rw [List.length_map]; omega)]
      show VR.ok (PyData.list _) _ = .ok (.list _) _
      rw [List.map_map]
      rfl
    have fe : (((c :: r).filter fun c => !decide (c ∈ dg)).map fun c => [c]).isEmpty = (c :: r).all fun c => decide (c ∈ dg) := filt_all
    by_cases h48 : c = 48
    · subst h48
      rw [show decide ([48] = [48]) = true from rfl]
      walk_at "t"
      rw [eq_tx hs n1]
      by_cases hr : r = []
      · subst hr
        rw [show decide ([48] = [48]) = true from rfl, Bool.xor_self]
        walk_at "t"
        rw [tail]
        walk_at "t"
        rw [nil_bL n2, fe]
        walk_at "t"
        rfl
      · have e2 : decide ((48 :: r : List Nat) = [48]) = false := decide_eq_false fun z => hr (List.cons.inj z).2
        have e3 : figs (48 :: r) = false := by
          unfold figs
          rw [e2]
          rfl
        rw [e2, e3]
        walk_at "t"
    · have e2 : decide ([c] = [48]) = false := decide_eq_false fun z => h48 (List.cons.inj z).1
      have e3 : figs (c :: r) = (c :: r).all fun c => decide (c ∈ dg) := by
        unfold figs
        rw [show decide ((c :: r).head? = some 48) = false from decide_eq_false fun z => h48 (Option.some.inj z)]
        rfl
      rw [e2, e3]
      walk_at "t"
      rw [tail]
      walk_at "t"
      rw [nil_bL n2, fe]
      walk_at "t"
open TL (numL joinL)
theorem joinT {s : List Nat} {ps : List (List Nat)} : Txt.join (tx s) (ps.map tx) = tx (joinL s ps) := by
  apply TL.ext_tl
  rw [TL.join_eq, TL.tl_join, List.map_map]
  show joinL s (ps.map (TL.tl ∘ tx)) = joinL s ps
  have : ps.map (TL.tl ∘ tx) = ps := by
    conv => rhs; rw [← List.map_id ps]
    rfl
  rw [this]
theorem splitT {s : Nat} {ps : List (List Nat)} (hs : s < 256) (hne : ps ≠ []) (hp : ∀ p ∈ ps, s ∉ p) : Txt.split (tx (joinL [s] ps)) (tx [s]) = ps.map tx := by
  rw [← joinT]
  refine TL.split_join (y := tx [s]) (s := s) (S := []) rfl ?_ (fun z => hne (List.map_eq_nil_iff.mp z)) fun p h => ?_
  · simp [hs]
  · obtain ⟨q, hq, rfl⟩ := List.mem_map.mp h
    exact hp q hq
theorem joinL_mem {S : List Nat} {c : Nat} : ∀ {ps : List (List Nat)}, c ∈ joinL S ps → c ∈ S ∨ ∃ p ∈ ps, c ∈ p
  | [], h => by cases h
  | [p], h => .inr ⟨p, List.mem_singleton.mpr rfl, h⟩
  | p :: q :: r, h => by
    have h : c ∈ p ++ (S ++ joinL S (q :: r)) := h
    rcases List.mem_append.mp h with h | h
    · exact .inr ⟨p, List.mem_cons_self, h⟩
    · rcases List.mem_append.mp h with h | h
      · exact .inl h
      · rcases joinL_mem h with h | ⟨x, hx, h⟩
        · exact .inl h
        · exact .inr ⟨x, List.mem_cons_of_mem _ hx, h⟩
theorem joinL_len {s b : Nat} : ∀ {ps : List (List Nat)}, (∀ p ∈ ps, p.length ≤ b) → (joinL [s] ps).length ≤ ps.length * (b + 1)
  | [], _ => by show 0 ≤ _; omega
  | [p], h => by
    have := h p (List.mem_singleton.mpr rfl)
    show p.length ≤ 1 * (b + 1)
    omega
  | p :: q :: r, h => by
    have h1 := h p List.mem_cons_self
    have h2 := joinL_len (s := s) (ps := q :: r) fun x hx => h x (List.mem_cons_of_mem _ hx)
    show (p ++ ([s] ++ joinL [s] (q :: r))).length ≤ _
    rw [List.length_append, List.length_append, show ([s] : List Nat).length = 1 from rfl, show (p :: q :: r).length = (q :: r).length + 1 from rfl, Nat.succ_mul]
    omega
theorem joinL_app {S q : List Nat} : ∀ {ps : List (List Nat)}, ps ≠ [] → joinL S (ps ++ [q]) = joinL S ps ++ (S ++ q)
  | [], h => absurd rfl h
  | [p], _ => rfl
  | p :: p2 :: r, _ => by
    show p ++ (S ++ joinL S ((p2 :: r) ++ [q])) = p ++ (S ++ joinL S (p2 :: r)) ++ (S ++ q)
    rw [joinL_app (ps := p2 :: r) (by simp)]
    simp only [List.append_assoc]
def rwL (r : List Int) : List Nat := joinL [32] (r.map zL)
abbrev Rw (r : List Int) : Prop := r ≠ [] ∧ r.length ≤ 8 ∧ ∀ x ∈ r, x.natAbs < 10 ^ 100
theorem zL_sm {i : Int} : ∀ c ∈ zL i, c < 200 := fun c h => by have := zL_mem h; omega
theorem rwL_len {r : List Int} (h : Rw r) : (rwL r).length ≤ 816 := by
  have := joinL_len (s := 32) (b := 101) (ps := r.map zL) fun p hp => by
    obtain ⟨i, hi, rfl⟩ := List.mem_map.mp hp
    exact zL_len (h.2.2 i hi)
  rw [List.length_map] at this
  have h2 := h.2.1
  unfold rwL
  omega
theorem log_z {i : Int} (h : i.natAbs < 10 ^ 100) : i.natAbs.log2 < 1920 := by
  by_cases e : i.natAbs = 0
  · rw [e]; decide
  · exact (Nat.log2_lt e).mpr (Nat.lt_trans h (by decide +kernel))
theorem nshown_g {X : PyData} {r : List Int} (h : Rw r) (hX : X = eI r ∨ X = .tuple (r.map PyData.int)) : w_numbers_shown [X] = .ok (.str (tx (rwL r))) := by
  rcases hX with rfl | rfl
  · have hl := rwL_len h
    unfold w_numbers_shown em_numbers_shown
    walk_at "t"
    unfold ee_numbers_shown_1
    walk_at "t"
    rw [lc_lmap (o := fun i => .str (tx (zL i))) fun i hi => by
      rw [Function.comp_apply]
      walk_at "t"
      rw [o_strI (log_z (h.2.2 i hi)), str_z]
      walk_at "t"]
    have h8 := h.2.1
    have e : (r.map fun i => PyData.str (tx (zL i))) = ((r.map zL).map tx).map PyData.str := by rw [List.map_map, List.map_map]; rfl
    have hb : (((r.map zL).map tx).map (·.length)).sum + ((r.map zL).map tx).length * (tx [32]).length ≤ 16777216 := by
      have h1 : ∀ (l : List Int), (∀ x ∈ l, x.natAbs < 10 ^ 100) → (((l.map zL).map tx).map (·.length)).sum ≤ l.length * 101 := fun l => by
        induction l with
        | nil => intro _; exact Nat.le_refl _
        | cons a l ih =>
          intro hx
          have i1 := ih fun x m => hx x (List.mem_cons_of_mem _ m)
          have i2 := zL_len (hx a List.mem_cons_self)
          rw [List.map_cons, List.map_cons, List.map_cons, List.sum_cons, tx_len, List.length_cons, Nat.succ_mul]
          omega
      have := h1 r h.2.2
      rw [List.length_map, List.length_map, tx_len]
      show _ + r.length * 1 ≤ _
      omega
    rw [e, s_sp, lcEnd_some (by rw [List.length_map, List.length_map, List.length_map]; omega), d_ok, o_join hb, joinT]
    walk_at "t"
    rfl
  · have hl := rwL_len h
    unfold w_numbers_shown em_numbers_shown
    walk_at "t"
    unfold ee_numbers_shown_1
    walk_at "t"
    rw [lc_lmap (o := fun i => .str (tx (zL i))) fun i hi => by
      rw [Function.comp_apply]
      walk_at "t"
      rw [o_strI (log_z (h.2.2 i hi)), str_z]
      walk_at "t"]
    have h8 := h.2.1
    have e : (r.map fun i => PyData.str (tx (zL i))) = ((r.map zL).map tx).map PyData.str := by rw [List.map_map, List.map_map]; rfl
    have hb : (((r.map zL).map tx).map (·.length)).sum + ((r.map zL).map tx).length * (tx [32]).length ≤ 16777216 := by
      have h1 : ∀ (l : List Int), (∀ x ∈ l, x.natAbs < 10 ^ 100) → (((l.map zL).map tx).map (·.length)).sum ≤ l.length * 101 := fun l => by
        induction l with
        | nil => intro _; exact Nat.le_refl _
        | cons a l ih =>
          intro hx
          have i1 := ih fun x m => hx x (List.mem_cons_of_mem _ m)
          have i2 := zL_len (hx a List.mem_cons_self)
          rw [List.map_cons, List.map_cons, List.map_cons, List.sum_cons, tx_len, List.length_cons, Nat.succ_mul]
          omega
      have := h1 r h.2.2
      rw [List.length_map, List.length_map, tx_len]
      show _ + r.length * 1 ≤ _
      omega
    rw [e, s_sp, lcEnd_some (by rw [List.length_map, List.length_map, List.length_map]; omega), d_ok, o_join hb, joinT]
    walk_at "t"
    rfl
open TL (numL joinL)
theorem o_addB {a b : List Nat} {vs : List VS} (h : a.length + b.length ≤ 100000) : gAdd (.str (tx a)) (.str (tx b)) vs = .ok (.str (tx (a ++ b))) vs := by
  unfold gAdd
  dsimp only
  rw [if_pos (by rw [tx_len, tx_len]; unfold Zx.lim; omega), tx_cat]
theorem zL_no {i : Int} : 32 ∉ zL i := fun h => by have := zL_mem h; omega
abbrev Tr := Int × Int × Int
def tr (t : Tr) : PyData := .tuple [.int t.1, .int t.2.1, .int t.2.2]
def arW (t : Tr) : List (List Nat) := [zL t.1, zL t.2.1, zL t.2.2]
def arL (t : Tr) : List Nat := joinL [45] (arW t)
def Ok3 (t : Tr) : Prop := (0 ≤ t.1 ∧ t.1.natAbs < 10 ^ 100) ∧ (0 ≤ t.2.1 ∧ t.2.1.natAbs < 10 ^ 100) ∧ (0 ≤ t.2.2 ∧ t.2.2.natAbs < 10 ^ 100)
theorem arL_eq (t : Tr) : arL t = zL t.1 ++ ([45] ++ (zL t.2.1 ++ ([45] ++ zL t.2.2))) := rfl
theorem arL_len {t : Tr} (h : Ok3 t) : (arL t).length ≤ 305 := by
  have h1 := zL_len h.1.2
  have h2 := zL_len h.2.1.2
  have h3 := zL_len h.2.2.2
  rw [arL_eq]
  simp only [List.length_append, List.length_cons, List.length_nil]
  omega
theorem arL_mem {t : Tr} {c : Nat} (h : c ∈ arL t) : c = 45 ∨ (48 ≤ c ∧ c ≤ 57) := by
  rcases joinL_mem h with h | ⟨p, hp, h⟩
  · exact .inl (List.mem_singleton.mp h)
  · unfold arW at hp
    simp only [List.mem_cons, List.not_mem_nil, or_false] at hp
    rcases hp with rfl | rfl | rfl <;> exact zL_mem h
theorem arL_sm {t : Tr} : ∀ c ∈ arL t, c < 200 := fun c h => by have := arL_mem h; omega
theorem jsT {acc y : List Nat} {k : Str → VR PyData} (h : acc.length + y.length ≤ 100000) : js1 (tx acc) (.str (tx y)) k = k (tx (acc ++ y)) := by
  rw [js_s (by rw [tx_cat, tx_len, List.length_append]; rw [sizeLine_eq]; omega), tx_cat]
theorem jsE {y : List Nat} {k : Str → VR PyData} (h : y.length ≤ 100000) : js1 Str.empty (.str (tx y)) k = k (tx y) := by
  have e : Str.empty = tx [] := by decide +kernel
  rw [e, jsT (acc := []) (by rw [List.length_nil]; omega)]
  rfl
theorem fmtI {i : Int} {vs : List VS} (h : i.natAbs < 10 ^ 100) : fmt1 (.int i) vs = .ok (.str (tx (zL i))) vs := by rw [fmt_i (log_z h), str_z]
theorem fmtS {y : List Nat} {vs : List VS} (h : y.length ≤ 100000) : fmt1 (.str (tx y)) vs = .ok (.str (tx y)) vs := fmt_s (by rw [tx_len, sizeLine_eq]; omega)
theorem ashown_v {t : Tr} (h : Ok3 t) : w_arrow_shown [tr t] = .ok (.str (tx (arL t))) := by
  have h1 := zL_len h.1.2
  have h2 := zL_len h.2.1.2
  have h3 := zL_len h.2.2.2
  unfold w_arrow_shown em_arrow_shown tr
  walk_at "t"
  rw [fmtI h.1.2]
  walk_at "t"
  rw [jsE (by omega), s_m, jsT (by rw [List.length_cons, List.length_nil]; omega)]
  rw [fmtI h.2.1.2]
  walk_at "t"
  rw [jsT (by simp only [List.length_append, List.length_cons, List.length_nil]; omega), jsT (by simp only [List.length_append, List.length_cons, List.length_nil]; omega)]
  rw [fmtI h.2.2.2]
  walk_at "t"
  rw [jsT (by simp only [List.length_append, List.length_cons, List.length_nil]; omega)]
  walk_at "t"
  rw [arL_eq]
  simp only [List.append_assoc]
open TL (numL joinL)
def spL (l : List (List Nat)) : List Nat := l.flatMap fun w => 32 :: w
theorem spL_c {w : List Nat} {l : List (List Nat)} : spL (w :: l) = 32 :: (w ++ spL l) := rfl
theorem spL_app {a b : List (List Nat)} : spL (a ++ b) = spL a ++ spL b := by unfold spL; rw [List.flatMap_append]
theorem join_sp : ∀ {a : List Nat} {l : List (List Nat)}, joinL [32] (a :: l) = a ++ spL l
  | a, [] => by show a = a ++ []; rw [List.append_nil]
  | a, b :: l => by
    show a ++ ([32] ++ joinL [32] (b :: l)) = a ++ spL (b :: l)
    rw [join_sp (a := b), spL_c]
    rfl
theorem sp_join {l : List (List Nat)} (ne : l ≠ []) : 32 :: joinL [32] l = spL l := by
  cases l with
  | nil => exact absurd rfl ne
  | cons a l => rw [join_sp, spL_c]
def pcL (q : List Tr) : List Nat := [47, 32] ++ joinL [32] (q.map arL)
def wdP (ps : List (List Tr)) : List (List Nat) := ps.flatMap fun q => [47] :: q.map arL
theorem wdP_c {q : List Tr} {ps : List (List Tr)} : wdP (q :: ps) = ([47] :: q.map arL) ++ wdP ps := rfl
theorem pc_sp : ∀ {ps : List (List Tr)}, (∀ q ∈ ps, q ≠ []) → spL (ps.map pcL) = spL (wdP ps)
  | [], _ => rfl
  | q :: ps, h => by
    have ne : q.map arL ≠ [] := fun z => h q List.mem_cons_self (List.map_eq_nil_iff.mp z)
    rw [List.map_cons, spL_c, pc_sp fun x m => h x (List.mem_cons_of_mem _ m), wdP_c, spL_app, spL_c, ← sp_join ne]
    unfold pcL
    simp only [List.cons_append, List.nil_append]
abbrev Pc (q : List Tr) : Prop := q ≠ [] ∧ q.length ≤ 3 ∧ ∀ t ∈ q, Ok3 t
abbrev Pcs (ps : List (List Tr)) : Prop := (2 ≤ ps.length ∧ ps.length ≤ 5) ∧ ∀ q ∈ ps, Pc q
def eQ (q : List Tr) : PyData := .list (q.map tr)
def eP (ps : List (List Tr)) : PyData := .list (ps.map eQ)
theorem sum_len {B : Nat} : ∀ {l : List (List Nat)}, (∀ w ∈ l, w.length ≤ B) → ((l.map tx).map (·.length)).sum ≤ l.length * B
  | [], _ => Nat.zero_le _
  | a :: l, h => by
    have h1 := sum_len fun w m => h w (List.mem_cons_of_mem a m)
    have h2 := h a List.mem_cons_self
    rw [List.map_cons, List.map_cons, List.sum_cons, tx_len, List.length_cons, Nat.succ_mul]
    omega
theorem o_joinB {l : List (List Nat)} {B : Nat} {vs : List VS} (h : ∀ w ∈ l, w.length ≤ B) (h2 : l.length * B + l.length ≤ 16777216) : gJoin (tx [32]) (.list ((l.map tx).map PyData.str)) vs = .ok (.str (tx (joinL [32] l))) vs := by
  rw [o_join, joinT]
  have := sum_len h
  rw [List.length_map, tx_len]
  show _ + l.length * 1 ≤ _
  omega
theorem pcL_len {q : List Tr} (h : Pc q) : (pcL q).length ≤ 920 := by
  have := joinL_len (s := 32) (b := 305) (ps := q.map arL) fun p hp => by
    obtain ⟨t, ht, rfl⟩ := List.mem_map.mp hp
    exact arL_len (h.2.2 t ht)
  rw [List.length_map] at this
  have h3 := h.2.1
  have : (joinL [32] (q.map arL)).length ≤ 918 := Nat.le_trans this (by omega)
  unfold pcL
  simp only [List.length_append, List.length_cons, List.length_nil]
  omega
theorem s_sl2 : PySem.Str.ofString "/ " = tx [47, 32] := by decide +kernel
theorem pshown_v {ps : List (List Tr)} (h : Pcs ps) : w_pieces_shown [eP ps] = .ok (.str (tx (joinL [32] (ps.map pcL)))) := by
  have h5 := h.1.2
  unfold w_pieces_shown em_pieces_shown eP
  walk_at "t"
  unfold ee_pieces_shown_2
  walk_at "t"
  rw [lc_lmap (w := VI.one ∘ eQ) (o := fun q => .str (tx (pcL q))) (l := ps) fun q hq => by
    have hq := h.2 q hq
    have h3 := hq.2.1
    rw [Function.comp_apply]
    unfold eQ
    walk_at "t"
    unfold ee_pieces_shown_1
    walk_at "t"
    rw [lc_lmap (w := VI.one ∘ tr) (o := fun t => .str (tx (arL t))) (l := q) fun t ht => by
      rw [Function.comp_apply]
      walk_at "t"
      rw [ashown_v (hq.2.2 t ht)]
      walk_at "t"]
    have e : (q.map fun t => PyData.str (tx (arL t))) = ((q.map arL).map tx).map PyData.str := by rw [List.map_map, List.map_map]; rfl
    have hw : ∀ w ∈ q.map arL, w.length ≤ 305 := fun w hw => by
      obtain ⟨t, ht, rfl⟩ := List.mem_map.mp hw
      exact arL_len (hq.2.2 t ht)
    have hl := pcL_len hq
    unfold pcL at hl
    rw [List.length_append] at hl
    rw [e, s_sp, lcEnd_some (by rw [List.length_map, List.length_map, List.length_map]; omega), d_ok, o_joinB hw (by rw [List.length_map]; omega)]
    walk_at "t"
    rw [s_sl2, o_addB (by omega)]
    rfl]
  have e : (ps.map fun q => PyData.str (tx (pcL q))) = ((ps.map pcL).map tx).map PyData.str := by rw [List.map_map, List.map_map]; rfl
  have hw : ∀ w ∈ ps.map pcL, w.length ≤ 920 := fun w hw => by
    obtain ⟨q, hq, rfl⟩ := List.mem_map.mp hw
    exact pcL_len (h.2 q hq)
  rw [e, s_sp, lcEnd_some (by rw [List.length_map, List.length_map, List.length_map]; omega), d_ok, o_joinB hw (by rw [List.length_map]; omega)]
  walk_at "t"
open TL (numL joinL)
def wSw : List Nat := [115, 119, 97, 112]
def wOut : List Nat := [111, 117, 116]
def wIn : List Nat := [105, 110]
def wJo : List Nat := [106, 111, 105, 110, 32, 111, 117, 116]
def hJo : List Nat := [106, 111, 105, 110, 45, 111, 117, 116]
def wJi : List Nat := [106, 111, 105, 110, 32, 105, 110]
def hJi : List Nat := [106, 111, 105, 110, 45, 105, 110]
def wDr : List Nat := [100, 114, 97, 119]
def wLay : List Nat := [108, 97, 121]
def wRo : List Nat := [114, 111, 119]
def wCo : List Nat := [99, 111, 108, 117, 109, 110]
theorem s_sw : PySem.Str.ofString "swap" = tx wSw := by decide +kernel
theorem s_out : PySem.Str.ofString "out" = tx wOut := by decide +kernel
theorem s_in : PySem.Str.ofString "in" = tx wIn := by decide +kernel
theorem s_jo : PySem.Str.ofString "join out" = tx wJo := by decide +kernel
theorem s_ji : PySem.Str.ofString "join in" = tx wJi := by decide +kernel
theorem s_hjo : PySem.Str.ofString "join-out" = tx hJo := by decide +kernel
theorem s_hji : PySem.Str.ofString "join-in" = tx hJi := by decide +kernel
theorem s_dr : PySem.Str.ofString "draw" = tx wDr := by decide +kernel
theorem s_lay : PySem.Str.ofString "lay" = tx wLay := by decide +kernel
theorem s_ro : PySem.Str.ofString "row" = tx wRo := by decide +kernel
theorem s_co : PySem.Str.ofString "column" = tx wCo := by decide +kernel
theorem s_layS : PySem.Str.ofString "lay " = tx (wLay ++ [32]) := by decide +kernel
theorem s_sl3 : PySem.Str.ofString " / " = tx [32, 47, 32] := by decide +kernel
theorem s_sl1 : PySem.Str.ofString " /" = tx [32, 47] := by decide +kernel
theorem s_sl : PySem.Str.ofString "/" = tx [47] := by decide +kernel
/-- a word in a move, in a text, how many numbers -/
inductive PW : List Nat → List Nat → Nat → Prop
  | sw : PW wSw wSw 2
  | dr : PW wDr wDr 1
  | ro : PW wRo wRo 3
  | co : PW wCo wCo 3
  | jo : PW wJo hJo 2
  | ji : PW wJi hJi 2
inductive SW : List Nat → Prop
  | out : SW wOut
  | in_ : SW wIn
theorem in2 {w a b : List Nat} {r : Bool} {vs : List VS} (h : inV (.str (tx w)) [.str (tx a), .str (tx b)] = r) : gIn false (.str (tx w)) (.tuple [.str (tx a), .str (tx b)]) vs = .ok (.bool r) vs := by rw [← h]; rfl
theorem PW.io {w t n} (p : PW w t n) : inV (.str (tx w)) [.str (tx wOut), .str (tx wIn)] = false := by cases p <;> decide +kernel
theorem PW.lay {w t n} (p : PW w t n) : decide (w = wLay) = false := by cases p <;> decide +kernel
theorem PW.sm {w t n} (p : PW w t n) : ∀ c ∈ w, c < 200 := by cases p <;> decide
theorem PW.smt {w t n} (p : PW w t n) : ∀ c ∈ t, c < 200 := by cases p <;> decide
theorem PW.len {w t n} (p : PW w t n) : t.length ≤ 8 := by cases p <;> decide
theorem PW.n3 {w t n} (p : PW w t n) : 1 ≤ n ∧ n ≤ 3 := by cases p <;> decide
theorem PW.get {w t n} (p : PW w t n) {vs : List VS} : kget1 tb_JOINS (.str (tx w)) (.str (tx w)) vs = .ok (.str (tx t)) vs := by
  have h : ∀ {o : Option Str}, Zx.lookS tb_JOINS (tx w) = o → kget1 tb_JOINS (.str (tx w)) (.str (tx w)) vs = opt o (fun v => .ok (.str v) vs) (.ok (.str (tx w)) vs) := fun e => by rw [← e]; rfl
  cases p
  · rw [h (o := none) (by decide +kernel)]; rfl
  · rw [h (o := none) (by decide +kernel)]; rfl
  · rw [h (o := none) (by decide +kernel)]; rfl
  · rw [h (o := none) (by decide +kernel)]; rfl
  · rw [h (o := some (tx hJo)) (by decide +kernel)]; rfl
  · rw [h (o := some (tx hJi)) (by decide +kernel)]; rfl
theorem SW.io {w} (p : SW w) : inV (.str (tx w)) [.str (tx wOut), .str (tx wIn)] = true := by cases p <;> decide +kernel
theorem SW.sm {w} (p : SW w) : ∀ c ∈ w, c < 200 := by cases p <;> decide
theorem SW.len {w} (p : SW w) : w.length ≤ 3 := by cases p <;> decide
def tP (w : List Nat) (ns : List Int) : PyData := .tuple (.str (tx w) :: ns.map PyData.int)
def tS (w : List Nat) (p : Int) (ps : List (List Tr)) : PyData := .tuple [.str (tx w), .int p, eP ps]
def tLy (p : Int) (a b : List Int) : PyData := .tuple [.str (tx wLay), .int p, eI a, eI b]
theorem imm_ints : ∀ {ns : List Int}, Zx.immL (ns.map PyData.int) = true
  | [] => by unfold Zx.immL; rfl
  | n :: ns => by
    rw [List.map_cons]
    unfold Zx.immL
    rw [imm_ints]
    rfl
theorem imm_P {w : List Nat} {ns : List Int} : Zx.immL (.str (tx w) :: ns.map PyData.int) = true := by
  unfold Zx.immL
  rw [imm_ints]
  rfl
theorem spL_z {ns : List Int} (h : Rw ns) : 32 :: rwL ns = spL (ns.map zL) := sp_join fun z => h.1 (List.map_eq_nil_iff.mp z)
theorem shownP_v {w t : List Nat} {n : Nat} (p : PW w t n) {ns : List Int} (h : Rw ns) : w_move_shown [tP w ns] = .ok (.str (tx (t ++ spL (ns.map zL)))) := by
  have hl := rwL_len h
  have ht := p.len
  unfold w_move_shown em_move_shown tP
  walk_at "t"
  rw [s_out, s_in, in2 p.io]
  walk_at "t"
  rw [s_lay, eq_tx p.sm (by decide), p.lay]
  walk_at "t"
  rw [p.get]
  walk_at "t"
  rw [s_sp, o_addB (by rw [List.length_cons, List.length_nil]; omega)]
  walk_at "t"
  rw [slU_ok imm_P]
  walk_at "t"
  rw [nshown_g h (.inr rfl)]
  walk_at "t"
  rw [o_addB (by rw [List.length_append, List.length_cons, List.length_nil]; omega)]
  walk_at "t"
  rw [← spL_z h, List.append_assoc]
  rfl
open TL (numL joinL)
theorem P_len {ps : List (List Tr)} (h : Pcs ps) : (joinL [32] (ps.map pcL)).length ≤ 4700 := by
  have := joinL_len (s := 32) (b := 920) (ps := ps.map pcL) fun p hp => by
    obtain ⟨q, hq, rfl⟩ := List.mem_map.mp hp
    exact pcL_len (h.2 q hq)
  rw [List.length_map] at this
  have := h.1.2
  omega
theorem P_sp {ps : List (List Tr)} (h : Pcs ps) : 32 :: joinL [32] (ps.map pcL) = spL (wdP ps) := by
  rw [← pc_sp fun q hq => (h.2 q hq).1]
  refine sp_join fun z => ?_
  have h2 := h.1.1
  rw [List.map_eq_nil_iff.mp z] at h2
  cases h2
theorem shownS_v {w : List Nat} (k : SW w) {p : Int} (hp : p.natAbs < 10 ^ 100) {ps : List (List Tr)} (h : Pcs ps) : w_move_shown [tS w p ps] = .ok (.str (tx (w ++ spL (zL p :: wdP ps)))) := by
  have hl := P_len h
  have ht := k.len
  have hz := zL_len hp
  unfold w_move_shown em_move_shown tS
  walk_at "t"
  rw [s_out, s_in, in2 k.io]
  walk_at "t"
  rw [fmtS (by omega)]
  walk_at "t"
  rw [jsE (by omega), s_sp, jsT (by rw [List.length_cons, List.length_nil]; omega), fmtI hp]
  walk_at "t"
  rw [jsT (by simp only [List.length_append, List.length_cons, List.length_nil]; omega), jsT (by simp only [List.length_append, List.length_cons, List.length_nil]; omega), pshown_v h]
  walk_at "t"
  rw [fmtS (by omega)]
  walk_at "t"
  rw [jsT (by simp only [List.length_append, List.length_cons, List.length_nil]; omega)]
  walk_at "t"
  rw [spL_c, ← P_sp h]
  simp only [List.append_assoc, List.cons_append, List.nil_append]
def wdL (p : Int) (a b : List Int) : List (List Nat) := zL p :: ([47] :: (a.map zL ++ ([47] :: b.map zL)))
theorem wdL_sp {p : Int} {a b : List Int} (ha : Rw a) (hb : Rw b) : spL (wdL p a b) = 32 :: (zL p ++ ([32, 47, 32] ++ rwL a ++ ([32, 47, 32] ++ rwL b))) := by
  unfold wdL
  rw [spL_c, spL_c, spL_app, spL_c, ← spL_z ha, ← spL_z hb]
  simp only [List.append_assoc, List.cons_append, List.nil_append]
theorem shownL_v {p : Int} (hp : p.natAbs < 10 ^ 100) {a b : List Int} (ha : Rw a) (hb : Rw b) : w_move_shown [tLy p a b] = .ok (.str (tx (wLay ++ spL (wdL p a b)))) := by
  have hla := rwL_len ha
  have hlb := rwL_len hb
  have hz := zL_len hp
  have e1 : decide (wLay = wLay) = true := by decide
  have l3 : wLay.length = 3 := rfl
  have io : inV (.str (tx wLay)) [.str (tx wOut), .str (tx wIn)] = false := by decide +kernel
  unfold w_move_shown em_move_shown tLy
  walk_at "t"
  rw [s_out, s_in, in2 io]
  walk_at "t"
  rw [s_lay, eq_tx (by decide) (by decide), e1]
  walk_at "t"
  rw [s_layS, jsE (by rw [List.length_append, List.length_cons, List.length_nil]; omega), fmtI hp]
  walk_at "t"
  rw [jsT (by simp only [List.length_append, List.length_cons, List.length_nil]; omega), s_sl3, jsT (by simp only [List.length_append, List.length_cons, List.length_nil]; omega), nshown_g ha (.inl rfl)]
  walk_at "t"
  rw [fmtS (by omega)]
  walk_at "t"
  rw [jsT (by simp only [List.length_append, List.length_cons, List.length_nil]; omega), jsT (by simp only [List.length_append, List.length_cons, List.length_nil]; omega), nshown_g hb (.inl rfl)]
  walk_at "t"
  rw [fmtS (by omega)]
  walk_at "t"
  rw [jsT (by simp only [List.length_append, List.length_cons, List.length_nil]; omega)]
  walk_at "t"
  rw [wdL_sp ha hb]
  simp only [List.append_assoc, List.cons_append, List.nil_append]
open TL (numL joinL)
theorem spelled_g {X : PyData} {r : List Int} (h : Rw r) (hX : X = eI r ∨ X = .tuple (r.map PyData.int)) : w_law_spelled [X] = .ok (.str (tx (rwL r))) := by
  rcases hX with rfl | rfl
  · have h8 := h.2.1
    unfold w_law_spelled em_law_spelled
    walk_at "t"
    unfold el_law_spelled_1
    walk_at "t"
    rw [s_nil]
    rw [for_rngE (f := fun m => [.v (eI r), .v (.str (tx (joinL [32] ((r.take m).map zL)))), .un]) (by rfl) fun k hk K => ?_]
    · rw [List.take_length]
      walk_at "t"
      rfl
    · have ex : r[k]? = some r[k] := List.getElem?_eq_getElem hk
      have hx := h.2.2 r[k] (List.getElem_mem hk)
      have hz := zL_len hx
      have hj := joinL_len (s := 32) (b := 101) (ps := (r.take k).map zL) fun p hp => by
        obtain ⟨i, hi, rfl⟩ := List.mem_map.mp hp
        exact zL_len (h.2.2 i (List.mem_of_mem_take hi))
      rw [List.length_map, List.length_take] at hj
      have hj2 : (joinL [32] ((r.take k).map zL)).length ≤ 816 := Nat.le_trans hj (by rw [Nat.min_eq_left (by omega)]; omega)
      have et : (r.take (k + 1)).map zL = (r.take k).map zL ++ [zL r[k]] := by
        rw [List.take_add_one, ex, List.map_append]
        rfl
      have eg : getI r k = r[k] := by
        unfold getI
        rw [ex]
        rfl
      rw [turn_eq, Int.zero_add]
      by_cases k0 : k = 0
      · subst k0
        walk_at "t"
        rw [eg, o_strI (log_z hx), str_z]
        walk_at "t"
        rw [List.take_zero, List.map_nil, show joinL [32] [] = [] from rfl, o_addB (a := []) (by rw [List.length_nil]; omega)]
        walk_at "t"
        rw [et]
        rfl
      · have ne : (r.take k).map zL ≠ [] := fun z => by
          have := congrArg List.length z
          rw [List.length_map, List.length_take, List.length_nil] at this
          omega
        walk_at "t"
        rw [s_sp, o_addB (by rw [List.length_cons, List.length_nil]; omega)]
        walk_at "t"
        rw [eg, o_strI (log_z hx), str_z]
        walk_at "t"
        rw [o_addB (by rw [List.length_append, List.length_cons, List.length_nil]; omega)]
        walk_at "t"
        rw [et, joinL_app ne, List.append_assoc]
  · have h8 := h.2.1
    unfold w_law_spelled em_law_spelled
    walk_at "t"
    unfold el_law_spelled_1
    walk_at "t"
    rw [s_nil]
    rw [for_rngE (f := fun m => [.v (.tuple (r.map PyData.int)), .v (.str (tx (joinL [32] ((r.take m).map zL)))), .un]) (by rfl) fun k hk K => ?_]
    · rw [List.take_length]
      walk_at "t"
      rfl
    · have ex : r[k]? = some r[k] := List.getElem?_eq_getElem hk
      have hx := h.2.2 r[k] (List.getElem_mem hk)
      have hz := zL_len hx
      have hj := joinL_len (s := 32) (b := 101) (ps := (r.take k).map zL) fun p hp => by
        obtain ⟨i, hi, rfl⟩ := List.mem_map.mp hp
        exact zL_len (h.2.2 i (List.mem_of_mem_take hi))
      rw [List.length_map, List.length_take] at hj
      have hj2 : (joinL [32] ((r.take k).map zL)).length ≤ 816 := Nat.le_trans hj (by rw [Nat.min_eq_left (by omega)]; omega)
      have et : (r.take (k + 1)).map zL = (r.take k).map zL ++ [zL r[k]] := by
        rw [List.take_add_one, ex, List.map_append]
        rfl
      have eg : getI r k = r[k] := by
        unfold getI
        rw [ex]
        rfl
      rw [turn_eq, Int.zero_add]
      by_cases k0 : k = 0
      · subst k0
        walk_at "t"
        rw [eg, o_strI (log_z hx), str_z]
        walk_at "t"
        rw [List.take_zero, List.map_nil, show joinL [32] [] = [] from rfl, o_addB (a := []) (by rw [List.length_nil]; omega)]
        walk_at "t"
        rw [et]
        rfl
      · have ne : (r.take k).map zL ≠ [] := fun z => by
          have := congrArg List.length z
          rw [List.length_map, List.length_take, List.length_nil] at this
          omega
        walk_at "t"
        rw [s_sp, o_addB (by rw [List.length_cons, List.length_nil]; omega)]
        walk_at "t"
        rw [eg, o_strI (log_z hx), str_z]
        walk_at "t"
        rw [o_addB (by rw [List.length_append, List.length_cons, List.length_nil]; omega)]
        walk_at "t"
        rw [et, joinL_app ne, List.append_assoc]
theorem for_mapE {α : Type} {vs0 : List VS} {bd : Bd} {body : VF} {w : α → VI} {l : List α} {f : Nat → List VS} {vs : List VS} (h0 : f 0 = vs) (h : ∀ (j : Nat) (hj : j < l.length), ∀ K, turnV vs0 bd body (w l[j]) (f j) K = K (f (j + 1))) : forV vs0 bd body (l.map w) vs = .nx (f l.length) := by
  have := for_runE (vs0 := vs0) (bd := bd) (body := body) (its := l.map w) (f := f) h0 fun j it e K => by
    rw [List.getElem?_map] at e
    rcases Nat.lt_or_ge j l.length with hj | hj
    · rw [List.getElem?_eq_getElem hj] at e
      cases e
      exact h j hj K
    · rw [List.getElem?_eq_none hj] at e
      cases e
  rw [List.length_map] at this
  exact this
theorem spL_n : spL [] = [] := rfl
theorem spL_len {B : Nat} : ∀ {l : List (List Nat)}, (∀ w ∈ l, w.length ≤ B) → (spL l).length ≤ l.length * (B + 1)
  | [], _ => Nat.zero_le _
  | a :: l, h => by
    have h1 := spL_len fun w m => h w (List.mem_cons_of_mem a m)
    have h2 := h a List.mem_cons_self
    rw [spL_c, List.length_cons, List.length_append, List.length_cons, Nat.succ_mul]
    omega
theorem take_s {α β : Type} {l : List α} {g : α → β} {j : Nat} (hj : j < l.length) : (l.take (j + 1)).map g = (l.take j).map g ++ [g l[j]] := by
  rw [List.take_add_one, List.getElem?_eq_getElem hj, List.map_append]
  rfl
theorem ptext_v {q : List Tr} (h : Pc q) : w_law_piece_text [eQ q] = .ok (.str (tx (spL (q.map arL)))) := by
  have h3 := h.2.1
  unfold w_law_piece_text em_law_piece_text eQ
  walk_at "t"
  unfold el_law_piece_text_1
  walk_at "t"
  rw [s_nil]
  rw [for_mapE (w := VI.one ∘ tr) (f := fun m => [.v (.list (q.map tr)), .v (.str (tx (spL ((q.take m).map arL)))), .un, .un, .un]) (by rfl) fun j hj K => ?_]
  · rw [List.take_length]
    walk_at "t"
  · have ht := h.2.2 q[j] (List.getElem_mem hj)
    have h1 := zL_len ht.1.2
    have h2 := zL_len ht.2.1.2
    have h4 := zL_len ht.2.2.2
    have hl := spL_len (B := 305) (l := (q.take j).map arL) fun w hw => by
      obtain ⟨t, ht, rfl⟩ := List.mem_map.mp hw
      exact arL_len (h.2.2 t (List.mem_of_mem_take ht))
    rw [List.length_map, List.length_take] at hl
    have hl2 : (spL ((q.take j).map arL)).length ≤ 918 := Nat.le_trans hl (by rw [Nat.min_eq_left (by omega)]; omega)
    rw [turn_eq, Function.comp_apply]
    unfold tr
    walk_at "t"
    rw [s_sp, o_addB (by simp only [List.length_append, List.length_cons, List.length_nil]; omega)]
    walk_at "t"
    rw [o_strI (log_z ht.1.2), str_z]
    walk_at "t"
    rw [o_addB (by simp only [List.length_append, List.length_cons, List.length_nil]; omega)]
    walk_at "t"
    rw [s_m, o_addB (by simp only [List.length_append, List.length_cons, List.length_nil]; omega)]
    walk_at "t"
    rw [o_strI (log_z ht.2.1.2), str_z]
    walk_at "t"
    rw [o_addB (by simp only [List.length_append, List.length_cons, List.length_nil]; omega)]
    walk_at "t"
    rw [o_addB (by simp only [List.length_append, List.length_cons, List.length_nil]; omega)]
    walk_at "t"
    rw [o_strI (log_z ht.2.2.2), str_z]
    walk_at "t"
    rw [o_addB (by simp only [List.length_append, List.length_cons, List.length_nil]; omega)]
    walk_at "t"
    rw [take_s hj, spL_app, spL_c, arL_eq]
    simp only [List.append_assoc, List.cons_append, List.nil_append, spL_n, List.append_nil]
open TL (numL joinL)
def jD : List (L2.Key × PyData) := [(.inr (tx wJo), .str (tx hJo)), (.inr (tx wJi), .str (tx hJi))]
theorem two_j {vs : List VS} : twoD (.str (tx wJo)) (.str (tx hJo)) (.str (tx wJi)) (.str (tx hJi)) vs = .ok (.dict (dK jD)) vs := by
  unfold twoD keyP
  dsimp only
  rw [if_neg (by decide +kernel)]
  rfl
theorem val_j {k : L2.Key} : valL jD k = if (Sum.inr (tx wJo) : L2.Key) = k then some (.str (tx hJo)) else if (Sum.inr (tx wJi) : L2.Key) = k then some (.str (tx hJi)) else none := rfl
theorem PW.val {w t n} (p : PW w t n) : (valL jD (.inr (tx w)) = none ∧ w = t) ∨ valL jD (.inr (tx w)) = some (.str (tx t)) := by
  rw [val_j]
  cases p
  · exact .inl ⟨by rw [if_neg (by decide +kernel), if_neg (by decide +kernel)], rfl⟩
  · exact .inl ⟨by rw [if_neg (by decide +kernel), if_neg (by decide +kernel)], rfl⟩
  · exact .inl ⟨by rw [if_neg (by decide +kernel), if_neg (by decide +kernel)], rfl⟩
  · exact .inl ⟨by rw [if_neg (by decide +kernel), if_neg (by decide +kernel)], rfl⟩
  · exact .inr (if_pos rfl)
  · exact .inr (by rw [if_neg (by decide +kernel), if_pos rfl])
theorem textP_v {w t : List Nat} {n : Nat} (p : PW w t n) {ns : List Int} (h : Rw ns) : w_law_move_text [tP w ns] = .ok (.str (tx (t ++ spL (ns.map zL)))) := by
  have hl := rwL_len h
  have ht := p.len
  unfold w_law_move_text em_law_move_text tP
  walk_at "t"
  rw [u_dct2]
  walk_at "t"
  rw [s_jo, s_hjo, s_ji, s_hji, two_j]
  walk_at "t"
  rw [s_out, s_in, in2 p.io]
  walk_at "t"
  rw [s_lay, eq_tx p.sm (by decide), p.lay]
  walk_at "t"
  rw [u_dg2]
  walk_at "t"
  rcases p.val with ⟨e, rfl⟩ | e <;> rw [e] <;> dsimp only
  all_goals
    walk_at "t"
    rw [s_sp, o_addB (by rw [List.length_cons, List.length_nil]; omega)]
    walk_at "t"
    rw [slU_ok imm_P]
    walk_at "t"
    rw [spelled_g h (.inr rfl)]
    walk_at "t"
    rw [o_addB (by rw [List.length_append, List.length_cons, List.length_nil]; omega)]
    walk_at "t"
    rw [← spL_z h, List.append_assoc]
    rfl
theorem wdP_t {ps : List (List Tr)} {j : Nat} (hj : j < ps.length) : wdP (ps.take (j + 1)) = wdP (ps.take j) ++ ([47] :: ps[j].map arL) := by
  unfold wdP
  rw [List.take_add_one, List.getElem?_eq_getElem hj, List.flatMap_append]
  show _ ++ ([[47] :: ps[j].map arL].flatMap id) = _
  simp
theorem wd_len {ps : List (List Tr)} (h : ∀ q ∈ ps, Pc q) (h5 : ps.length ≤ 5) : (spL (wdP ps)).length ≤ 4700 := by
  rw [← pc_sp fun q hq => (h q hq).1]
  have := spL_len (B := 920) (l := ps.map pcL) fun w hw => by
    obtain ⟨q, hq, rfl⟩ := List.mem_map.mp hw
    exact pcL_len (h q hq)
  rw [List.length_map] at this
  omega
theorem textS_v {w : List Nat} (k : SW w) {p : Int} (hp : p.natAbs < 10 ^ 100) {ps : List (List Tr)} (h : Pcs ps) : w_law_move_text [tS w p ps] = .ok (.str (tx (w ++ spL (zL p :: wdP ps)))) := by
  have ht := k.len
  have hz := zL_len hp
  have h5 := h.1.2
  unfold w_law_move_text em_law_move_text tS
  walk_at "t"
  rw [u_dct2]
  walk_at "t"
  rw [s_jo, s_hjo, s_ji, s_hji, two_j]
  walk_at "t"
  rw [s_out, s_in, in2 k.io]
  walk_at "t"
  rw [s_sp, o_addB (by rw [List.length_cons, List.length_nil]; omega)]
  walk_at "t"
  rw [o_strI (log_z hp), str_z]
  walk_at "t"
  rw [o_addB (by simp only [List.length_append, List.length_cons, List.length_nil]; omega)]
  walk_at "t"
  unfold el_law_move_text_1 eP
  walk_at "t"
  rw [for_mapE (w := VI.one ∘ eQ) (l := ps) (f := fun m => [.v (.tuple [.str (tx w), .int p, .list (ps.map eQ)]), .v (.dict (dK jD)), .v (.str (tx w)), .v (.str (tx (w ++ [32] ++ zL p ++ spL (wdP (ps.take m))))), .un]) (by simp only [List.take_zero]; show _ = [_, _, _, VS.v (.str (tx (w ++ [32] ++ zL p))), _]; rw [show wdP [] = [] from rfl, spL_n, List.append_nil]) fun j hj K => ?_]
  · rw [List.take_length]
    walk_at "t"
    rw [spL_c]
    simp only [List.append_assoc, List.cons_append, List.nil_append]
  · have hq := h.2 ps[j] (List.getElem_mem hj)
    have hl := wd_len (ps := ps.take j) (fun q hq => h.2 q (List.mem_of_mem_take hq)) (by rw [List.length_take]; omega)
    have hl2 := spL_len (B := 305) (l := ps[j].map arL) fun w hw => by
      obtain ⟨t, ht, rfl⟩ := List.mem_map.mp hw
      exact arL_len (hq.2.2 t ht)
    rw [List.length_map] at hl2
    have h3 := hq.2.1
    have hl3 : (spL (ps[j].map arL)).length ≤ 918 := Nat.le_trans hl2 (by omega)
    rw [turn_eq, Function.comp_apply]
    walk_at "t"
    rw [s_sl1, o_addB (by simp only [List.length_append, List.length_cons, List.length_nil]; omega)]
    walk_at "t"
    rw [ptext_v hq]
    walk_at "t"
    rw [o_addB (by simp only [List.length_append, List.length_cons, List.length_nil]; omega)]
    walk_at "t"
    rw [wdP_t hj, spL_app, spL_c]
    simp only [List.append_assoc, List.cons_append, List.nil_append]
theorem textL_v {p : Int} (hp : p.natAbs < 10 ^ 100) {a b : List Int} (ha : Rw a) (hb : Rw b) : w_law_move_text [tLy p a b] = .ok (.str (tx (wLay ++ spL (wdL p a b)))) := by
  have hla := rwL_len ha
  have hlb := rwL_len hb
  have hz := zL_len hp
  have e1 : decide (wLay = wLay) = true := by decide
  have l3 : wLay.length = 3 := rfl
  have io : inV (.str (tx wLay)) [.str (tx wOut), .str (tx wIn)] = false := by decide +kernel
  unfold w_law_move_text em_law_move_text tLy
  walk_at "t"
  rw [u_dct2]
  walk_at "t"
  rw [s_jo, s_hjo, s_ji, s_hji, two_j]
  walk_at "t"
  rw [s_out, s_in, in2 io]
  walk_at "t"
  rw [s_lay, eq_tx (by decide) (by decide), e1]
  walk_at "t"
  rw [o_strI (log_z hp), str_z]
  walk_at "t"
  rw [s_layS, o_addB (by simp only [List.length_append, List.length_cons, List.length_nil]; omega)]
  walk_at "t"
  rw [s_sl3, o_addB (by simp only [List.length_append, List.length_cons, List.length_nil]; omega)]
  walk_at "t"
  rw [spelled_g ha (.inl rfl)]
  walk_at "t"
  rw [o_addB (by simp only [List.length_append, List.length_cons, List.length_nil]; omega)]
  walk_at "t"
  rw [o_addB (by simp only [List.length_append, List.length_cons, List.length_nil]; omega)]
  walk_at "t"
  rw [spelled_g hb (.inl rfl)]
  walk_at "t"
  rw [o_addB (by simp only [List.length_append, List.length_cons, List.length_nil]; omega)]
  walk_at "t"
  rw [wdL_sp ha hb]
  simp only [List.append_assoc, List.cons_append, List.nil_append]
open TL (numL joinL)
theorem zL_pos {i : Int} (h : 0 ≤ i) : zL i = numL i.toNat := if_pos h
theorem zL_45 {i : Int} (h : 0 ≤ i) : 45 ∉ zL i := fun m => by
  rw [zL_pos h] at m
  have := TL.numL_digits _ 45 m
  omega
theorem arW_ok {t : Tr} (h : Ok3 t) : ∀ w ∈ arW t, 45 ∉ w ∧ figs w = true ∧ w.length ≤ 101 ∧ ∀ c ∈ w, c < 200 := fun w hw => by
  have one : ∀ {i : Int}, 0 ≤ i → i.natAbs < 10 ^ 100 → 45 ∉ zL i ∧ figs (zL i) = true ∧ (zL i).length ≤ 101 ∧ ∀ c ∈ zL i, c < 200 := fun h0 h1 => ⟨zL_45 h0, by rw [zL_pos h0]; exact figs_num, zL_len h1, zL_sm⟩
  unfold arW at hw
  simp only [List.mem_cons, List.not_mem_nil, or_false] at hw
  rcases hw with rfl | rfl | rfl
  · exact one h.1.1 h.1.2
  · exact one h.2.1.1 h.2.1.2
  · exact one h.2.2.1 h.2.2.2
theorem aread_v {t : Tr} (h : Ok3 t) : w_arrow_read [.str (tx (arL t))] = .ok (tr t) := by
  have hl := arL_len h
  have hw := arW_ok h
  have e3 : (arW t).length = 3 := rfl
  have sp : Txt.split (tx (arL t)) (tx [45]) = (arW t).map tx := splitT (by decide) (fun z => by cases z) fun p hp => (hw p hp).1
  have gi : ∀ {i : Int} {vs : List VS}, i.natAbs < 10 ^ 100 → gIntS [.str (tx (zL i))] vs = .ok (.int i) vs := fun h => o_intS (int_z h) (by have := zL_len h; rw [tx_len]; omega)
  unfold w_arrow_read em_arrow_read
  walk_at "t"
  rw [s_m, o_split (by rw [tx_len]; decide) (by rw [tx_len]; omega), sp]
  have e : PyData.list (((arW t).map tx).map PyData.str) = bL (arW t) := by
    show PyData.list _ = .list _
    rw [List.map_map]
    rfl
  rw [e]
  walk_at "t"
  unfold ee_arrow_read_1
  walk_at "t"
  rw [lc_lmap (w := VI.one ∘ fun w => PyData.str (tx w)) (o := fun _ => .bool true) (l := arW t) fun w hw2 => by
    obtain ⟨_, h2, h3, h4⟩ := hw w hw2
    rw [Function.comp_apply]
    walk_at "t"
    rw [figs_v h4 (by omega), h2]
    walk_at "t"]
  rw [lcEnd_some (by rw [List.length_map]; omega)]
  walk_at "t"
  have eb : (arW t).map (fun _ => PyData.bool true) = [true, true, true].map PyData.bool := rfl
  rw [eb, o_bools]
  rw [show (List.all [true, true, true] id) = true from rfl]
  walk_at "t"
  have a0 : (arW t).map (fun w => PyData.str (tx w)) = [.str (tx (zL t.1)), .str (tx (zL t.2.1)), .str (tx (zL t.2.2))] := rfl
  rw [a0, show bL (arW t) = .list [.str (tx (zL t.1)), .str (tx (zL t.2.1)), .str (tx (zL t.2.2))] from rfl]
  walk_at "t"
  rw [gi h.1.2]
  walk_at "t"
  rw [gi h.2.1.2]
  walk_at "t"
  rw [gi h.2.2.2]
  walk_at "t"
  rfl
theorem ix_last {n : Nat} : ixN (n + 1) (-1) = some n := by
  unfold ixN
  rw [if_neg (by decide), if_pos (by omega)]
  congr 1
  omega
theorem at_last {α : Type} {xs : List α} {x : α} : atI (xs ++ [x]) (-1) = some x := by
  unfold atI
  rw [List.length_append, List.length_cons, List.length_nil, Nat.zero_add, ix_last, Option.bind_some, List.getElem?_append_right (Nat.le_refl _), Nat.sub_self]
  rfl
theorem put_last {xs : List PyData} {x y : PyData} : Zx.V.putAt [-1] y (.list (xs ++ [x])) = .list (xs ++ [y]) := by
  rw [putAt_c (p := xs.length) (d := x) (by rw [List.length_append, List.length_cons, List.length_nil, Nat.zero_add, ix_last]) (by rw [List.getElem?_append_right (Nat.le_refl _), Nat.sub_self]; rfl), List.set_append_right _ _ (Nat.le_refl _), Nat.sub_self]
  rfl
abbrev bG (gs : List (List (List Nat))) : PyData := .list (gs.map bL)
def wdG (gs : List (List (List Nat))) : List (List Nat) := gs.flatMap fun g => [47] :: g
def pt (acc : List (List (List Nat))) (w : List Nat) : List (List (List Nat)) := if w = [47] then acc ++ [[]] else match acc.getLast? with
  | some g => acc.dropLast ++ [g ++ [w]]
  | none => acc
theorem pt_s {acc : List (List (List Nat))} : pt acc [47] = acc ++ [[]] := if_pos rfl
theorem pt_w {A : List (List (List Nat))} {g : List (List Nat)} {w : List Nat} (h : w ≠ [47]) : pt (A ++ [g]) w = A ++ [g ++ [w]] := by
  unfold pt
  rw [if_neg h, List.getLast?_append, List.dropLast_concat]
  rfl
theorem pt_fold : ∀ {g x : List (List Nat)} {A : List (List (List Nat))}, (∀ w ∈ g, w ≠ [47]) → g.foldl pt (A ++ [x]) = A ++ [x ++ g]
  | [], x, A, _ => by rw [List.append_nil]; rfl
  | w :: g, x, A, h => by
    rw [List.foldl_cons, pt_w (h w List.mem_cons_self), pt_fold fun w m => h w (List.mem_cons_of_mem _ m), List.append_assoc]
    rfl
theorem pt_all : ∀ {gs A : List (List (List Nat))}, (∀ g ∈ gs, ∀ w ∈ g, w ≠ [47]) → (wdG gs).foldl pt A = A ++ gs
  | [], A, _ => by rw [List.append_nil]; rfl
  | g :: gs, A, h => by
    show ((([47] :: g) ++ wdG gs).foldl pt A) = _
    rw [List.foldl_append, List.foldl_cons, pt_s, pt_fold (h g List.mem_cons_self), pt_all fun g m => h g (List.mem_cons_of_mem _ m), List.append_assoc]
    rfl
theorem wdG_ne : ∀ {gs : List (List (List Nat))} {w : List Nat} {l : List (List Nat)}, wdG gs = w :: l → w = [47]
  | [], w, l, e => by cases e
  | g :: gs, w, l, e => (List.cons.inj (show [47] :: (g ++ wdG gs) = w :: l from e)).1.symm
theorem pt_ne {l : List (List Nat)} : ∀ {A : List (List (List Nat))}, A ≠ [] → l.foldl pt A ≠ [] := by
  induction l with
  | nil => intro A h; exact h
  | cons w l ih =>
    intro A h
    rw [List.foldl_cons]
    refine ih ?_
    unfold pt
    split
    · simp
    · split
      · simp
      · exact h
open TL (numL joinL)
theorem nil_bG {neg : Bool} {gs : List (List (List Nat))} {vs : List VS} (h : ∀ g ∈ gs, Sm g) : gEq neg (bG gs) (.list []) vs = .ok (.bool (neg ^^ gs.isEmpty)) vs := by
  rw [eq_fn (Fn.mono (show Fn 2 (bG gs) from Fn_lst (FnL_map fun g m => Fn_bL (k := 0) (h g m))) (by decide)) (Fn_lst FnL_nil), Zx.eqv_nil]
  cases gs <;> rfl
theorem hn_ok : ∀ {gs : List (List (List Nat))}, (∀ g ∈ gs, Sm g ∧ g ≠ []) → hnV (gs.map bL) = some []
  | [], _ => rfl
  | g :: gs, h => by
    obtain ⟨h1, h2⟩ := h g List.mem_cons_self
    have f1 : Fn 64 (bL g) := Fn.mono (Fn_bL (k := 0) h1) (by decide)
    have f2 : Fn 64 (.list []) := Fn.mono (Fn_lst (k := 0) FnL_nil) (by decide)
    rw [List.map_cons]
    unfold hnV
    rw [hn_ok fun g m => h g (List.mem_cons_of_mem _ m)]
    rw [f1.n, f2.n, f1.shaped, f2.shaped, Zx.eqv_nil]
    have e : (g.map fun w => PyData.str (tx w)).isEmpty = false := by
      cases g with
      | nil => exact absurd rfl h2
      | cons a r => rfl
    rw [e]
    rfl
theorem pt_mem {w : List Nat} : ∀ {l : List (List Nat)} {A : List (List (List Nat))} {g : List (List Nat)}, g ∈ l.foldl pt A → w ∈ g → (∃ g' ∈ A, w ∈ g') ∨ w ∈ l
  | [], A, g, h, m => .inl ⟨g, h, m⟩
  | w0 :: l, A, g, h, m => by
    rw [List.foldl_cons] at h
    rcases pt_mem h m with ⟨g', h1, h2⟩ | h1
    · unfold pt at h1
      split at h1
      · rcases List.mem_append.mp h1 with h1 | h1
        · exact .inl ⟨g', h1, h2⟩
        · rw [List.mem_singleton.mp h1] at h2
          cases h2
      · split at h1
        · rename_i z hz
          rcases List.mem_append.mp h1 with h1 | h1
          · exact .inl ⟨g', List.dropLast_subset _ h1, h2⟩
          · rw [List.mem_singleton.mp h1] at h2
            rcases List.mem_append.mp h2 with h2 | h2
            · exact .inl ⟨z, List.mem_of_getLast? hz, h2⟩
            · rw [List.mem_singleton.mp h2]
              exact .inr List.mem_cons_self
        · exact .inl ⟨g', h1, h2⟩
    · exact .inr (List.mem_cons_of_mem _ h1)
theorem pt_len : ∀ {l : List (List Nat)} {A : List (List (List Nat))} {M : Nat}, (∀ g ∈ A, g.length ≤ M) → (l.foldl pt A).length ≤ A.length + l.length ∧ ∀ g ∈ l.foldl pt A, g.length ≤ M + l.length
  | [], A, M, h => ⟨Nat.le_refl _, h⟩
  | w :: l, A, M, h => by
    have hp : (pt A w).length ≤ A.length + 1 ∧ ∀ g ∈ pt A w, g.length ≤ M + 1 := by
      unfold pt
      split
      · refine ⟨by rw [List.length_append]; exact Nat.le_refl _, fun g m => ?_⟩
        rcases List.mem_append.mp m with m | m
        · have := h g m; omega
        · rw [List.mem_singleton.mp m]; exact Nat.zero_le _
      · split
        · rename_i z hz
          refine ⟨by rw [List.length_append, List.length_dropLast, List.length_cons, List.length_nil]; omega, fun g m => ?_⟩
          rcases List.mem_append.mp m with m | m
          · have := h g (List.dropLast_subset _ m); omega
          · rw [List.mem_singleton.mp m, List.length_append, List.length_cons, List.length_nil]
            have := h z (List.mem_of_getLast? hz)
            omega
        · exact ⟨by omega, fun g m => by have := h g m; omega⟩
    obtain ⟨i1, i2⟩ := pt_len (l := l) (A := pt A w) (M := M + 1) hp.2
    rw [List.foldl_cons, List.length_cons]
    exact ⟨by have := hp.1; omega, fun g m => by have := i2 g m; omega⟩
theorem wdG_sm {gs : List (List (List Nat))} (h : ∀ g ∈ gs, Sm g) : Sm (wdG gs) := fun w hw c hc => by
  unfold wdG at hw
  obtain ⟨g, hg, hw⟩ := List.mem_flatMap.mp hw
  rcases List.mem_cons.mp hw with rfl | hw
  · rw [List.mem_singleton.mp hc]; decide
  · exact h g hg w hw c hc
theorem parted_v {gs : List (List (List Nat))} (hs : ∀ g ∈ gs, (Sm g ∧ g ≠ []) ∧ ∀ w ∈ g, w ≠ [47]) (hl : (wdG gs).length ≤ 1000) : w_parted [bL (wdG gs)] = .ok (bG gs) := by
  have sm := wdG_sm fun g m => (hs g m).1.1
  unfold w_parted em_parted
  walk_at "t"
  unfold el_parted_1
  walk_at "t"
  rw [for_mapE (w := VI.one ∘ fun w => PyData.str (tx w)) (l := wdG gs) (f := fun m => [.v (bL (wdG gs)), .v (bG (((wdG gs).take m).foldl pt [])), .un, .un]) (by rfl) fun j hj K => ?_]
  · rw [List.take_length, pt_all fun g m => (hs g m).2]
    walk_at "t"
    have lg : gs.length < 1000000 := by
      have h0 := (pt_len (l := wdG gs) (A := []) (M := 0) fun g m => by cases m).1
      rw [pt_all fun g m => (hs g m).2, List.length_nil, List.nil_append] at h0
      omega
    have hn : ∀ vs, vs[1]? = some (VS.v (bG gs)) → fHasNil 1 vs = .ok (.bool false) vs := fun vs e => by
      unfold fHasNil
      rw [e]
      dsimp only
      rw [List.length_map, if_pos lg, hn_ok fun g m => (hs g m).1]
      exact eq_same (Fn_lst FnL_nil)
    rw [hn _ (by rfl)]
    walk_at "t"
  · have es : (wdG gs).take (j + 1) = (wdG gs).take j ++ [(wdG gs)[j]] := by
      rw [List.take_add_one, List.getElem?_eq_getElem hj]
      rfl
    have hw := sm (wdG gs)[j] (List.getElem_mem hj)
    obtain ⟨n1, n2⟩ := pt_len (l := (wdG gs).take j) (A := []) (M := 0) fun g m => by cases m
    rw [List.length_take, List.length_nil] at n1
    rw [es, List.foldl_append, List.foldl_cons, List.foldl_nil]
    have sa : ∀ g ∈ ((wdG gs).take j).foldl pt [], Sm g := fun g hg w hw => by
      rcases pt_mem hg hw with ⟨_, h, _⟩ | h
      · cases h
      · exact sm w (List.mem_of_mem_take h)
    generalize ew : (wdG gs)[j] = w at hw
    generalize ea : ((wdG gs).take j).foldl pt [] = acc at n1 n2 sa
    rw [turn_eq, Function.comp_apply]
    walk_at "t"
    rw [s_sl, eq_tx hw (by decide)]
    by_cases c : w = [47]
    · rw [decide_eq_true c, c, pt_s]
      walk_at "t"
      rw [show bG (acc ++ [[]]) = .list (acc.map bL ++ [.list []]) from by show PyData.list _ = _; rw [List.map_append]; rfl]
    · rw [decide_eq_false c]
      walk_at "t"
      have ne : acc ≠ [] := fun z => by
        cases j with
        | zero =>
          have h0 : (wdG gs)[0]? = some w := by rw [List.getElem?_eq_getElem hj, ew]
          cases e0 : wdG gs with
          | nil => rw [e0] at h0; cases h0
          | cons a l =>
            rw [e0] at h0
            cases h0
            exact c (wdG_ne e0)
        | succ j =>
          rw [← ea] at z
          cases e0 : wdG gs with
          | nil => rw [e0] at hj; cases hj
          | cons a l =>
            rw [e0, List.take_succ_cons, List.foldl_cons] at z
            refine pt_ne (fun z => ?_) z
            rw [wdG_ne e0, pt_s] at z
            cases z
      obtain ⟨A, g, rfl⟩ : ∃ A g, acc = A ++ [g] := ⟨acc.dropLast, acc.getLast ne, (List.dropLast_concat_getLast ne).symm⟩
      have ee : ∀ g', bG (A ++ [g']) = .list (A.map bL ++ [bL g']) := fun g' => by show PyData.list _ = _; rw [List.map_append]; rfl
      have lg := n2 g (List.mem_append.mpr (.inr (List.mem_singleton.mpr rfl)))
      rw [List.length_take] at lg
      rw [pt_w c, nil_bG sa, show (A ++ [g]).isEmpty = false from by simp]
      simp only [ee]
      walk_at "t"
      rw [at_last]
      walk_at "t"
      rw [kApp_ok (by rw [List.length_map]; omega)]
      walk_at "t"
      rw [put_last, show bL (g ++ [w]) = .list ((g.map fun w => PyData.str (tx w)) ++ [.str (tx w)]) from by show PyData.list _ = _; rw [List.map_append]; rfl]
open TL (numL joinL)
theorem sw_neg {l : List Nat} : Txt.startswith (tx (45 :: l)) (tx [45]) = true := by
  unfold Txt.startswith
  rw [tx_len, tx_len]
  have h1 : decide (0 + ([45] : List Nat).length ≤ (45 :: l).length) = true := decide_eq_true (by rw [List.length_cons, List.length_cons, List.length_nil]; omega)
  rw [h1, Bool.true_and]
  simp [PySem.Builtin.Str.subAt]
  rw [tx_len]
  rfl
theorem nread_v {i : Int} (h : i.natAbs < 10 ^ 100) : w_number_read [.str (tx (zL i))] = .ok (.int i) := by
  have hl := zL_len h
  have hi : ∀ vs, gIntS [.str (tx (zL i))] vs = .ok (.int i) vs := fun vs => o_intS (int_z h) (by rw [tx_len]; omega)
  have hf := figs_v (l := zL i) zL_sm (by omega)
  unfold w_number_read em_number_read
  walk_at "t"
  rw [hf]
  by_cases h0 : 0 ≤ i
  · have e : zL i = numL i.toNat := if_pos h0
    rw [show figs (zL i) = true by rw [e]; exact figs_num]
    walk_at "t"
    rw [hi]
    walk_at "t"
  · have e : zL i = 45 :: numL (-i).toNat := if_neg h0
    rw [show figs (zL i) = false by rw [e]; exact figs_neg]
    walk_at "t"
    rw [s_m, o_sw, show Txt.startswith (tx (zL i)) (tx [45]) = true by rw [e]; exact sw_neg]
    walk_at "t"
    rw [s_m0, eq_tx zL_sm (by decide)]
    have ne : decide (zL i = [45, 48]) = false := decide_eq_false fun z => by
      rw [e] at z
      have z := (List.cons.inj z).2
      rw [show ([48] : List Nat) = numL 0 from (TL.numL_lt (n := 0) (by decide)).symm] at z
      have := TL.numL_inj z
      omega
    rw [ne]
    walk_at "t"
    have cut : ∀ vs, (if (tx (zL i)).length ≤ sizeLine then VR.ok (PyData.str (L2.cutS (tx (zL i)) (some 1) none)) vs else .st) = .ok (.str (tx (numL (-i).toNat))) vs := fun vs => by
      have := if_hi (vs := vs) (l := zL i) (k := 1) (by omega)
      rw [e] at this ⊢
      exact this
    have hf2 := figs_v (l := numL (-i).toNat) (fun c hc => by have := TL.numL_digits _ c hc; omega) (by rw [e, List.length_cons] at hl; omega)
    rw [cut]
    walk_at "t"
    rw [hf2, figs_num]
    walk_at "t"
    rw [hi]
    walk_at "t"
theorem nsread_v {r : List Int} (h : Rw r) : w_numbers_read [bL (r.map zL)] = .ok (eI r) := by
  have h8 := h.2.1
  have sm : Sm (r.map zL) := fun w hw => by
    obtain ⟨i, _, rfl⟩ := List.mem_map.mp hw
    exact zL_sm
  have ne : (r.map zL).isEmpty = false := by
    cases r with
    | nil => exact absurd rfl h.1
    | cons a l => rfl
  unfold w_numbers_read em_numbers_read
  walk_at "t"
  rw [nil_bL sm, ne]
  walk_at "t"
  unfold ee_numbers_read_1
  walk_at "t"
  rw [lc_lmap (o := fun i => .int i) fun i hi => by
    rw [Function.comp_apply]
    walk_at "t"
    rw [nread_v (h.2.2 i hi)]
    walk_at "t"]
  walk_at "t"
open TL (numL joinL)
theorem kin_v {t : List Nat} {b : Bool} {vs : List VS} (h : (Zx.lookS tb_JOINED (tx t)).isSome = b) : kin1 false tb_JOINED (.str (tx t)) vs = .ok (.bool b) vs := by
  rw [← h]
  show VR.ok (PyData.bool (false ^^ _)) vs = _
  rw [Bool.false_xor]
theorem kix_v {t w : List Nat} {vs : List VS} (h : Zx.lookS tb_JOINED (tx t) = some (tx w)) : kix1 tb_JOINED (.str (tx t)) vs = .ok (.str (tx w)) vs := by
  show opt (Zx.lookS tb_JOINED (tx t)) _ _ = _
  rw [h]
  rfl
theorem cat_v {w : List Nat} {ns : List Int} {vs : List VS} (h : Rw ns) : gCatU (.tuple [.str (tx w)]) (.tuple (ns.map PyData.int)) vs = .ok (tP w ns) vs := by
  have h8 := h.2.1
  cases ns with
  | nil => exact absurd rfl h.1
  | cons a l =>
    rw [List.length_cons] at h8
    refine catU_ok (by unfold Zx.immL; rfl) (imm_ints (ns := a :: l)) ?_
    rw [List.length_cons, List.length_cons, List.length_map, List.length_nil]
    unfold Zx.lim
    omega
theorem pread_v {w t : List Nat} {n : Nat} (p : PW w t n) {ns : List Int} (h : Rw ns) (hn : ns.length = n) : w_plain_read [bL (t :: ns.map zL)] = .ok (tP w ns) := by
  have h8 := h.2.1
  have hi : (ns.length : Int) = n := by omega
  unfold w_plain_read em_plain_read
  obtain ⟨L, eL⟩ : ∃ L, L = (ns.map zL).map fun w => PyData.str (tx w) := ⟨_, rfl⟩
  have pl : pureK 1 (.list L) = true := by rw [eL]; exact pure_bL
  have el : PyData.list L = bL (ns.map zL) := by rw [eL]
  have ec : Zx.cutX (PyData.str (tx t) :: L) (some 1) none = L := cut_n (k := 1)
  rw [show bL (t :: ns.map zL) = .list (.str (tx t) :: L) from by rw [eL]; rfl]
  clear eL
  walk_at "t"
  rw [ec, if_t pl, el]
  walk_at "t"
  rw [nsread_v h]
  walk_at "t"
  cases p
  · rw [s_dr, eq_tx (by decide) (by decide), show decide (wSw = wDr) = false from by decide]
    walk_at "t"
    rw [s_sw, eq_tx (by decide) (by decide), show decide (wSw = wSw) = true from by decide]
    walk_at "t"
    rw [cat_v h]
    walk_at "t"
  · rw [s_dr, eq_tx (by decide) (by decide), show decide (wDr = wDr) = true from by decide]
    walk_at "t"
    rw [cat_v h]
    walk_at "t"
  · rw [s_dr, eq_tx (by decide) (by decide), show decide (wRo = wDr) = false from by decide]
    walk_at "t"
    rw [s_sw, eq_tx (by decide) (by decide), show decide (wRo = wSw) = false from by decide]
    walk_at "t"
    rw [kin_v (b := false) (by decide +kernel)]
    walk_at "t"
    rw [s_ro, s_co, in2 (r := true) (by decide +kernel)]
    walk_at "t"
    rw [cat_v h]
    walk_at "t"
  · rw [s_dr, eq_tx (by decide) (by decide), show decide (wCo = wDr) = false from by decide]
    walk_at "t"
    rw [s_sw, eq_tx (by decide) (by decide), show decide (wCo = wSw) = false from by decide]
    walk_at "t"
    rw [kin_v (b := false) (by decide +kernel)]
    walk_at "t"
    rw [s_ro, s_co, in2 (r := true) (by decide +kernel)]
    walk_at "t"
    rw [cat_v h]
    walk_at "t"
  · rw [s_dr, eq_tx (by decide) (by decide), show decide (hJo = wDr) = false from by decide]
    walk_at "t"
    rw [s_sw, eq_tx (by decide) (by decide), show decide (hJo = wSw) = false from by decide]
    walk_at "t"
    rw [kin_v (b := true) (by decide +kernel)]
    walk_at "t"
    rw [kix_v (w := wJo) (by decide +kernel)]
    walk_at "t"
    rw [cat_v h]
    walk_at "t"
  · rw [s_dr, eq_tx (by decide) (by decide), show decide (hJi = wDr) = false from by decide]
    walk_at "t"
    rw [s_sw, eq_tx (by decide) (by decide), show decide (hJi = wSw) = false from by decide]
    walk_at "t"
    rw [kin_v (b := true) (by decide +kernel)]
    walk_at "t"
    rw [kix_v (w := wJi) (by decide +kernel)]
    walk_at "t"
    rw [cat_v h]
    walk_at "t"
open TL (numL joinL)
theorem zL_47 {i : Int} : zL i ≠ [47] := fun e => by
  have := zL_mem (i := i) (c := 47) (by rw [e]; exact List.mem_singleton.mpr rfl)
  omega
theorem arL_47 {t : Tr} : arL t ≠ [47] := fun e => by
  have := arL_mem (t := t) (c := 47) (by rw [e]; exact List.mem_singleton.mpr rfl)
  omega
theorem wdP_G {ps : List (List Tr)} : wdP ps = wdG (ps.map fun q => q.map arL) := by
  unfold wdP wdG
  rw [List.flatMap_map]
theorem wdP_len : ∀ {ps : List (List Tr)}, (∀ q ∈ ps, Pc q) → (wdP ps).length ≤ 4 * ps.length
  | [], _ => Nat.zero_le _
  | q :: ps, h => by
    have h1 := wdP_len fun q m => h q (List.mem_cons_of_mem _ m)
    have h2 := (h q List.mem_cons_self).2.1
    rw [wdP_c, List.length_append, List.length_cons, List.length_map, List.length_cons]
    omega
theorem sread_v {w : List Nat} (k : SW w) {p : Int} (hp : p.natAbs < 10 ^ 100) {ps : List (List Tr)} (h : Pcs ps) : w_split_read [bL (w :: zL p :: wdP ps)] = .ok (tS w p ps) := by
  have h5 := h.1.2
  have h2 := h.1.1
  have hwl := wdP_len h.2
  have pd : w_parted [bL (wdP ps)] = .ok (bG (ps.map fun q => q.map arL)) := by
    rw [wdP_G]
    refine parted_v (fun g hg => ?_) (by rw [← wdP_G]; omega)
    obtain ⟨q, hq, rfl⟩ := List.mem_map.mp hg
    refine ⟨⟨fun w hw => ?_, fun z => (h.2 q hq).1 (List.map_eq_nil_iff.mp z)⟩, fun w hw => ?_⟩
    · obtain ⟨t, _, rfl⟩ := List.mem_map.mp hw
      exact arL_sm
    · obtain ⟨t, _, rfl⟩ := List.mem_map.mp hw
      exact arL_47
  unfold w_split_read em_split_read
  obtain ⟨L, eL⟩ : ∃ L, L = (wdP ps).map fun w => PyData.str (tx w) := ⟨_, rfl⟩
  have pl : pureK 1 (.list L) = true := by rw [eL]; exact pure_bL
  have el : PyData.list L = bL (wdP ps) := by rw [eL]
  have ec : Zx.cutX (PyData.str (tx w) :: PyData.str (tx (zL p)) :: L) (some 2) none = L := cut_n (k := 2)
  rw [show bL (w :: zL p :: wdP ps) = .list (.str (tx w) :: .str (tx (zL p)) :: L) from by rw [eL]; rfl]
  clear eL
  walk_at "t"
  rw [nread_v hp]
  walk_at "t"
  unfold ee_split_read_2
  walk_at "t"
  rw [ec, if_t pl, el]
  walk_at "t"
  rw [pd]
  walk_at "t"
  rw [lc_lmap (w := VI.one ∘ bL ∘ fun q : List Tr => q.map arL) (o := eQ) (l := ps) fun q hq => by
    have hq := h.2 q hq
    have h3 := hq.2.1
    simp only [Function.comp_apply]
    walk_at "t"
    unfold ee_split_read_1
    walk_at "t"
    rw [lc_lmap (w := VI.one ∘ (fun w => PyData.str (tx w)) ∘ arL) (o := tr) (l := q) fun t ht => by
      simp only [Function.comp_apply]
      walk_at "t"
      rw [aread_v (hq.2.2 t ht)]
      walk_at "t"]
    rw [lcEnd_some (by rw [List.length_map]; omega)]
    walk_at "t"
    rfl]
  rw [lcEnd_some (by rw [List.length_map]; omega)]
  walk_at "t"
  rw [if_t (show pureK 0 (PyData.str (tx w)) = true from by unfold pureK; exact imm_str)]
  walk_at "t"
  have rz : (rzL 1 [0, 0, 1] [PyData.str (tx w), PyData.int p, PyData.list (ps.map eQ)] && !Zx.immL [PyData.str (tx w), PyData.int p, PyData.list (ps.map eQ)]) = true := rfl
  rw [if_t rz]
  walk_at "t"
  rfl
theorem wdL_G {p : Int} {a b : List Int} : wdL p a b = zL p :: wdG [a.map zL, b.map zL] := by
  unfold wdL wdG
  simp
theorem lread_v {p : Int} (hp : p.natAbs < 10 ^ 100) {a b : List Int} (ha : Rw a) (hb : Rw b) : w_lay_read [bL (wLay :: wdL p a b)] = .ok (tLy p a b) := by
  have la := ha.2.1
  have lb := hb.2.1
  have pd : w_parted [bL (wdG [a.map zL, b.map zL])] = .ok (bG [a.map zL, b.map zL]) := by
    have one : ∀ {r : List Int}, Rw r → (Sm (r.map zL) ∧ r.map zL ≠ []) ∧ ∀ w ∈ r.map zL, w ≠ [47] := fun {r} h => by
      refine ⟨⟨fun w hw => ?_, fun z => h.1 (List.map_eq_nil_iff.mp z)⟩, fun w hw => ?_⟩
      · obtain ⟨i, _, rfl⟩ := List.mem_map.mp hw
        exact zL_sm
      · obtain ⟨i, _, rfl⟩ := List.mem_map.mp hw
        exact zL_47
    refine parted_v (fun g hg => ?_) ?_
    · simp only [List.mem_cons, List.not_mem_nil, or_false] at hg
      rcases hg with rfl | rfl
      · exact one ha
      · exact one hb
    · unfold wdG
      simp only [List.flatMap_cons, List.flatMap_nil, List.length_append, List.length_cons, List.length_map, List.length_nil]
      omega
  unfold w_lay_read em_lay_read
  rw [wdL_G]
  obtain ⟨L, eL⟩ : ∃ L, L = (wdG [a.map zL, b.map zL]).map fun w => PyData.str (tx w) := ⟨_, rfl⟩
  have pl : pureK 1 (.list L) = true := by rw [eL]; exact pure_bL
  have el : PyData.list L = bL (wdG [a.map zL, b.map zL]) := by rw [eL]
  have ec : Zx.cutX (PyData.str (tx wLay) :: PyData.str (tx (zL p)) :: L) (some 2) none = L := cut_n (k := 2)
  rw [show bL (wLay :: zL p :: wdG [a.map zL, b.map zL]) = .list (.str (tx wLay) :: .str (tx (zL p)) :: L) from by rw [eL]; rfl]
  clear eL
  walk_at "t"
  rw [nread_v hp]
  walk_at "t"
  rw [ec, if_t pl, el]
  walk_at "t"
  rw [pd]
  rw [show bG [a.map zL, b.map zL] = .list [bL (a.map zL), bL (b.map zL)] from rfl]
  generalize eA : bL (a.map zL) = A
  generalize eB : bL (b.map zL) = B
  walk_at "t"
  rw [← eA, ← eB, nsread_v ha]
  walk_at "t"
  rw [nsread_v hb]
  walk_at "t"
  rw [s_lay]
  rfl
open TL (numL joinL)
theorem mread_v {a : List Nat} {ws : List (List Nat)} {x : PyData} {r1 r2 : Bool} (h32 : ∀ w ∈ a :: ws, 32 ∉ w) (sm : ∀ c ∈ a, c < 200) (hl : (a ++ spL ws).length < 1000000) (ne : ws ≠ []) (io : inV (.str (tx a)) [.str (tx wOut), .str (tx wIn)] = r1) (dl : decide (a = wLay) = r2)
    (H : (r1 = true ∧ w_split_read [bL (a :: ws)] = .ok x) ∨ (r1 = false ∧ r2 = true ∧ w_lay_read [bL (a :: ws)] = .ok x) ∨ (r1 = false ∧ r2 = false ∧ w_plain_read [bL (a :: ws)] = .ok x ∧ upK 0 x = true ∧ upK 1 x = true)) : w_move_read [.str (tx (a ++ spL ws))] = .ok x := by
  have sp : Txt.split (tx (a ++ spL ws)) (tx [32]) = (a :: ws).map tx := by
    rw [← join_sp]
    exact splitT (by decide) (by simp) h32
  unfold w_move_read em_move_read
  walk_at "t"
  rw [s_sp, o_split (by rw [tx_len]; decide) (by rw [tx_len]; omega), sp]
  obtain ⟨L, eL⟩ : ∃ L, L = ws.map fun w => PyData.str (tx w) := ⟨_, rfl⟩
  have eb : PyData.list (.str (tx a) :: L) = bL (a :: ws) := by rw [eL]; rfl
  have l1 : 1 ≤ L.length := by
    rw [eL, List.length_map]
    cases ws with
    | nil => exact absurd rfl ne
    | cons b l => rw [List.length_cons]; omega
  rw [show PyData.list (((a :: ws).map tx).map PyData.str) = .list (.str (tx a) :: L) from by rw [eL, List.map_map]; rfl]
  clear eL
  walk_at "t"
  rw [s_out, s_in, in2 io]
  rcases H with ⟨rfl, e⟩ | ⟨rfl, rfl, e⟩ | ⟨rfl, rfl, e, u0, u1⟩
  · walk_at "t"
    rw [eb, e]
    walk_at "t"
  · walk_at "t"
    rw [s_lay, eq_tx sm (by decide), dl]
    walk_at "t"
    rw [eb, e]
    walk_at "t"
  · walk_at "t"
    rw [s_lay, eq_tx sm (by decide), dl]
    walk_at "t"
    rw [eb, e]
    walk_at "t"
    rw [up_ok u0]
    walk_at "t"
    rw [up_ok u1]
    walk_at "t"
theorem PW.t32 {w t n} (p : PW w t n) : 32 ∉ t := by cases p <;> decide
theorem PW.tio {w t n} (p : PW w t n) : inV (.str (tx t)) [.str (tx wOut), .str (tx wIn)] = false := by cases p <;> decide +kernel
theorem PW.tlay {w t n} (p : PW w t n) : decide (t = wLay) = false := by cases p <;> decide
theorem arL_no {t : Tr} : 32 ∉ arL t := fun h => by have := arL_mem h; omega
theorem wdP_no {ps : List (List Tr)} : ∀ w ∈ wdP ps, 32 ∉ w := fun w hw => by
  unfold wdP at hw
  obtain ⟨q, _, hw⟩ := List.mem_flatMap.mp hw
  rcases List.mem_cons.mp hw with rfl | hw
  · decide
  · obtain ⟨t, _, rfl⟩ := List.mem_map.mp hw
    exact arL_no
theorem wdL_no {p : Int} {a b : List Int} : ∀ w ∈ wdL p a b, 32 ∉ w := fun w hw => by
  unfold wdL at hw
  simp only [List.mem_cons, List.mem_append, List.mem_map] at hw
  rcases hw with rfl | rfl | ⟨i, _, rfl⟩ | rfl | ⟨i, _, rfl⟩
  · exact zL_no
  · decide
  · exact zL_no
  · decide
  · exact zL_no
theorem readP_v {w t : List Nat} {n : Nat} (p : PW w t n) {ns : List Int} (h : Rw ns) (hn : ns.length = n) : w_move_read [.str (tx (t ++ spL (ns.map zL)))] = .ok (tP w ns) := by
  refine mread_v (fun w hw => ?_) p.smt ?_ (fun z => h.1 (List.map_eq_nil_iff.mp z)) p.tio p.tlay (.inr (.inr ⟨rfl, rfl, pread_v p h hn, ?_, ?_⟩))
  · rcases List.mem_cons.mp hw with rfl | hw
    · exact p.t32
    · obtain ⟨i, _, rfl⟩ := List.mem_map.mp hw
      exact zL_no
  · have := p.len
    have h2 := rwL_len h
    rw [← spL_z h, List.length_append, List.length_cons]
    omega
  · unfold upK
    rw [show isLD (tP w ns) = false from tup_ld imm_P]
    rfl
  · show (Zx.immL (.str (tx w) :: ns.map PyData.int) || _) = true
    rw [imm_P]
    rfl
theorem readS_v {w : List Nat} (k : SW w) {p : Int} (hp : p.natAbs < 10 ^ 100) {ps : List (List Tr)} (h : Pcs ps) : w_move_read [.str (tx (w ++ spL (zL p :: wdP ps)))] = .ok (tS w p ps) := by
  refine mread_v (fun w' hw => ?_) k.sm ?_ (by simp) k.io rfl (.inl ⟨rfl, sread_v k hp h⟩)
  · rcases List.mem_cons.mp hw with rfl | hw
    · cases k <;> decide
    · rcases List.mem_cons.mp hw with rfl | hw
      · exact zL_no
      · exact wdP_no w' hw
  · have h1 := k.len
    have h2 := zL_len hp
    have h3 := wd_len h.2 h.1.2
    rw [spL_c, List.length_append, List.length_cons, List.length_append]
    omega
theorem readL_v {p : Int} (hp : p.natAbs < 10 ^ 100) {a b : List Int} (ha : Rw a) (hb : Rw b) : w_move_read [.str (tx (wLay ++ spL (wdL p a b)))] = .ok (tLy p a b) := by
  refine mread_v (r1 := false) (r2 := true) (fun w' hw => ?_) (by decide) ?_ (by unfold wdL; simp) (by decide +kernel) (by decide) (.inr (.inl ⟨rfl, rfl, lread_v hp ha hb⟩))
  · rcases List.mem_cons.mp hw with rfl | hw
    · decide
    · exact wdL_no w' hw
  · have h2 := zL_len hp
    have h3 := rwL_len ha
    have h4 := rwL_len hb
    have l3 : wLay.length = 3 := rfl
    rw [wdL_sp ha hb]
    simp only [List.length_append, List.length_cons, List.length_nil]
    omega
open TL (numL joinL)
theorem Fn_tr {k : Nat} (t : Tr) : Fn (k + 1) (tr t) := Fn_tup (FnL_cons Fn_int (FnL_cons Fn_int (FnL_cons Fn_int FnL_nil)))
theorem Fn_eP {k : Nat} (ps : List (List Tr)) : Fn (k + 3) (eP ps) := Fn_lst (FnL_map fun q _ => Fn_lst (FnL_map fun t _ => Fn_tr t))
theorem Fn_tS {w : List Nat} (k : SW w) {p : Int} {ps : List (List Tr)} : Fn 64 (tS w p ps) := Fn.mono (show Fn 4 (tS w p ps) from Fn_tup (FnL_cons (Fn_str (tx_ok k.sm)) (FnL_cons Fn_int (FnL_cons (Fn_eP ps) FnL_nil)))) (by decide)
theorem Fn_tP {w t : List Nat} {n : Nat} (p : PW w t n) {ns : List Int} : Fn 64 (tP w ns) := Fn.mono (show Fn 1 (tP w ns) from Fn_tup (FnL_cons (Fn_str (tx_ok p.sm)) (FnL_map fun _ _ => Fn_int))) (by decide)
theorem Fn_tL {p : Int} {a b : List Int} : Fn 64 (tLy p a b) := Fn.mono (show Fn 2 (tLy p a b) from Fn_tup (FnL_cons (Fn_str (tx_ok (by decide))) (FnL_cons Fn_int (FnL_cons (Fn_eI a) (FnL_cons (Fn_eI b) FnL_nil))))) (by decide)
theorem copP_v {w t : List Nat} {n : Nat} (p : PW w t n) {ns : List Int} : w_law_copied [tP w ns] = .ok (tP w ns) := by
  have im : Zx.imm (.tuple (.str (tx w) :: ns.map PyData.int)) = true := tup_imm imm_P
  unfold w_law_copied em_law_copied tP
  walk_at "t"
  rw [s_out, s_in, in2 p.io]
  walk_at "t"
  rw [s_lay, eq_tx p.sm (by decide), p.lay]
  walk_at "t"
theorem pure_eQ {q : List Tr} : pureK 1 (eQ q) = true := pure_lst fun d h => by
  obtain ⟨t, _, rfl⟩ := List.mem_map.mp h
  exact tup_imm (by unfold Zx.immL; rfl)
theorem copS_v {w : List Nat} (k : SW w) {p : Int} {ps : List (List Tr)} (h : Pcs ps) : w_law_copied [tS w p ps] = .ok (tS w p ps) := by
  have h5 := h.1.2
  unfold w_law_copied em_law_copied tS
  walk_at "t"
  rw [s_out, s_in, in2 k.io]
  walk_at "t"
  unfold ee_law_copied_1 eP
  walk_at "t"
  rw [lc_lmap (w := VI.one ∘ eQ) (o := eQ) (l := ps) fun q hq => by
    have h3 := (h.2 q hq).2.1
    have pq : pureK 1 (.list (q.map tr)) = true := pure_eQ
    simp only [Function.comp_apply]
    unfold eQ
    walk_at "t"]
  rw [lcEnd_some (by rw [List.length_map]; omega)]
  walk_at "t"
theorem copL_v {p : Int} {a b : List Int} : w_law_copied [tLy p a b] = .ok (tLy p a b) := by
  have io : inV (.str (tx wLay)) [.str (tx wOut), .str (tx wIn)] = false := by decide +kernel
  unfold w_law_copied em_law_copied tLy
  walk_at "t"
  rw [s_out, s_in, in2 io]
  walk_at "t"
  rw [s_lay, eq_tx (by decide) (by decide), show decide (wLay = wLay) = true from by decide]
  walk_at "t"
theorem is_sb : Zx.isTy "str" "bool" = some false := by decide
theorem is_lb : Zx.isTy "list" "bool" = some false := by decide
theorem nobool {ds : List PyData} {vs : List VS} (hd : ∀ d ∈ ds, (∃ x, d = .str x) ∨ (∃ i, d = .int i) ∨ ∃ l, d = .list l) (hv : vs.length = 4) (h2 : vs.set 2 .un = vs) : lcV (.nm 2) (fTst (fIsi "bool" (fVar 2))) (fVar 2) vs (ds.map VI.one) = some [] := by
  obtain ⟨a, b, c, d, rfl⟩ : ∃ a b c d, vs = [a, b, c, d] := by
    match vs, hv with
    | [a, b, c, d], _ => exact ⟨a, b, c, d, rfl⟩
  rw [lc_lflt (w := VI.one) (t := fun _ => false) (o := id) (l := ds) fun x hx => by
    rcases hd x hx with ⟨y, rfl⟩ | ⟨y, rfl⟩ | ⟨y, rfl⟩
    · walk_at "t"
      rw [is_sb]
      walk_at "t"
    · walk_at "t"
    · walk_at "t"
      rw [is_lb]
      walk_at "t"]
  rw [List.filter_eq_nil_iff.mpr (fun _ _ => by decide), List.map_nil]
open TL (numL joinL)
theorem nil_nil {vs : List VS} : gEq true (.list []) (.list []) vs = .ok (.bool false) vs := eq_same (Fn_lst FnL_nil)
theorem nil_nil' {vs : List VS} : gEq false (.list []) (.list []) vs = .ok (.bool true) vs := eq_same (Fn_lst FnL_nil)
theorem isP_v {w t : List Nat} {n : Nat} (p : PW w t n) {ns : List Int} : w_law_is_move [tP w ns, tP w ns] = .ok (.bool true) := by
  have e : ∀ vs, gEq true (.tuple (.str (tx w) :: ns.map PyData.int)) (.tuple (.str (tx w) :: ns.map PyData.int)) vs = .ok (.bool (!true)) vs := fun vs => eq_same (Fn_tP p)
  obtain ⟨L, eL⟩ : ∃ L, L = ns.map PyData.int := ⟨_, rfl⟩
  have hd : ∀ d ∈ PyData.str (tx w) :: L, (∃ x, d = .str x) ∨ (∃ i, d = .int i) ∨ ∃ l, d = .list l := fun d m => by
    rcases List.mem_cons.mp m with rfl | m
    · exact .inl ⟨_, rfl⟩
    · rw [eL] at m
      obtain ⟨i, _, rfl⟩ := List.mem_map.mp m
      exact .inr (.inl ⟨_, rfl⟩)
  unfold w_law_is_move em_law_is_move tP
  rw [← eL] at e ⊢
  clear eL
  walk_at "t"
  rw [e]
  walk_at "t"
  unfold ee_law_is_move_2
  walk_at "t"
  have nb := nobool hd (vs := [.v (.tuple (.str (tx w) :: L)), .v (.tuple (.str (tx w) :: L)), .un, .un]) rfl rfl
  rw [List.map_cons] at nb
  rw [nb]
  walk_at "t"
  rw [nil_nil]
  walk_at "t"
  rw [s_out, s_in, in2 p.io]
  walk_at "t"
  rw [s_lay, eq_tx p.sm (by decide), p.lay]
  walk_at "t"
theorem isS_v {w : List Nat} (k : SW w) {p : Int} {ps : List (List Tr)} (h : Pcs ps) : w_law_is_move [tS w p ps, tS w p ps] = .ok (.bool true) := by
  have h5 := h.1.2
  have e : ∀ vs, gEq true (.tuple [.str (tx w), .int p, eP ps]) (.tuple [.str (tx w), .int p, eP ps]) vs = .ok (.bool (!true)) vs := fun vs => eq_same (Fn_tS k)
  have hd : ∀ d ∈ [PyData.str (tx w), .int p, eP ps], (∃ x, d = .str x) ∨ (∃ i, d = .int i) ∨ ∃ l, d = .list l := fun d m => by
    simp only [List.mem_cons, List.not_mem_nil, or_false] at m
    rcases m with rfl | rfl | rfl
    · exact .inl ⟨_, rfl⟩
    · exact .inr (.inl ⟨_, rfl⟩)
    · exact .inr (.inr ⟨_, rfl⟩)
  unfold w_law_is_move em_law_is_move tS
  walk_at "t"
  rw [e]
  walk_at "t"
  unfold ee_law_is_move_2
  walk_at "t"
  have nb := nobool hd (vs := [.v (.tuple [.str (tx w), .int p, eP ps]), .v (.tuple [.str (tx w), .int p, eP ps]), .un, .un]) rfl rfl
  simp only [List.map_cons, List.map_nil] at nb
  rw [nb]
  walk_at "t"
  rw [nil_nil]
  walk_at "t"
  rw [s_out, s_in, in2 k.io]
  walk_at "t"
  unfold ee_law_is_move_1
  walk_at "t"
  rw [show eP ps = .list (ps.map eQ) from rfl]
  walk_at "t"
  rw [lc_lflt (w := VI.one ∘ eQ) (t := fun _ => false) (o := eQ) (l := ps) fun q hq => by
    simp only [Function.comp_apply]
    unfold eQ
    walk_at "t"]
  rw [List.filter_eq_nil_iff.mpr (fun _ _ => by decide), List.map_nil]
  walk_at "t"
  rw [nil_nil']
  walk_at "t"
theorem isL_v {p : Int} {a b : List Int} : w_law_is_move [tLy p a b, tLy p a b] = .ok (.bool true) := by
  have io : inV (.str (tx wLay)) [.str (tx wOut), .str (tx wIn)] = false := by decide +kernel
  have e : ∀ vs, gEq true (.tuple [.str (tx wLay), .int p, eI a, eI b]) (.tuple [.str (tx wLay), .int p, eI a, eI b]) vs = .ok (.bool (!true)) vs := fun vs => eq_same Fn_tL
  have hd : ∀ d ∈ [PyData.str (tx wLay), .int p, eI a, eI b], (∃ x, d = .str x) ∨ (∃ i, d = .int i) ∨ ∃ l, d = .list l := fun d m => by
    simp only [List.mem_cons, List.not_mem_nil, or_false] at m
    rcases m with rfl | rfl | rfl | rfl
    · exact .inl ⟨_, rfl⟩
    · exact .inr (.inl ⟨_, rfl⟩)
    · exact .inr (.inr ⟨_, rfl⟩)
    · exact .inr (.inr ⟨_, rfl⟩)
  unfold w_law_is_move em_law_is_move tLy
  walk_at "t"
  rw [e]
  walk_at "t"
  unfold ee_law_is_move_2
  walk_at "t"
  have nb := nobool hd (vs := [.v (.tuple [.str (tx wLay), .int p, eI a, eI b]), .v (.tuple [.str (tx wLay), .int p, eI a, eI b]), .un, .un]) rfl rfl
  simp only [List.map_cons, List.map_nil] at nb
  rw [nb]
  walk_at "t"
  rw [nil_nil]
  walk_at "t"
  rw [s_out, s_in, in2 io]
  walk_at "t"
  rw [s_lay, eq_tx (by decide) (by decide), show decide (wLay = wLay) = true from by decide]
  walk_at "t"
open TL (numL joinL)
theorem good_g {ds : List PyData} {T : List Nat} (sm : ∀ c ∈ T, c < 200) (hc : w_law_copied [.tuple ds] = .ok (.tuple ds)) (ht : w_law_move_text [.tuple ds] = .ok (.str (tx T))) (hs : w_move_shown [.tuple ds] = .ok (.str (tx T))) (hr : w_move_read [.str (tx T)] = .ok (.tuple ds)) (hi : w_law_is_move [.tuple ds, .tuple ds] = .ok (.bool true)) (hf : Fn 64 (.tuple ds)) (h1 : okAL (ds.drop 2) = true) (h2 : 1 < ds.length) : w_law_good [.tuple ds] = .ok (.bool true) := by
  have e1 : ∀ vs, gEq true (.str (tx T)) (.str (tx T)) vs = .ok (.bool (!true)) vs := fun vs => eq_same (Fn_str (tx_ok sm))
  have e2 : ∀ vs, gEq true (.tuple ds) (.tuple ds) vs = .ok (.bool (!true)) vs := fun vs => eq_same hf
  unfold w_law_good em_law_good
  walk_at "t"
  rw [hc]
  walk_at "t"
  rw [ht]
  walk_at "t"
  unfold el_law_good_2
  walk_at "t"
  rw [for_rngE (f := fun _ => [.v (.tuple ds), .v (.tuple ds), .v (.str (tx T)), .un, .un, .un]) (by rfl) fun k hk K => ?_]
  · walk_at "t"
  · rw [turn_eq]
    walk_at "t"
    rw [hs]
    walk_at "t"
    rw [e1]
    walk_at "t"
    rw [e2]
    walk_at "t"
    rw [hr]
    walk_at "t"
    rw [hi]
    walk_at "t"
    unfold el_law_good_1
    rw [u_appN (ds := ds) (by rfl) h1 h2]
    walk_at "t"
theorem okAL_ints : ∀ {ns : List Int}, okAL (ns.map PyData.int) = true
  | [] => by unfold okAL; rfl
  | n :: ns => by
    rw [List.map_cons]
    unfold okAL
    rw [okAL_ints]
    rfl
theorem sp_sm {l : List (List Nat)} (h : Sm l) : ∀ c ∈ spL l, c < 200 := fun c hc => by
  unfold spL at hc
  obtain ⟨w, hw, hc⟩ := List.mem_flatMap.mp hc
  rcases List.mem_cons.mp hc with rfl | hc
  · decide
  · exact h w hw c hc
theorem goodP_v {w t : List Nat} {n : Nat} (p : PW w t n) {ns : List Int} (h : Rw ns) (hn : ns.length = n) : w_law_good [tP w ns] = .ok (.bool true) := by
  refine good_g (T := t ++ spL (ns.map zL)) (fun c hc => ?_) (copP_v p) (textP_v p h) (shownP_v p h) (readP_v p h hn) (isP_v p) (Fn_tP p) ?_ ?_
  · rcases List.mem_append.mp hc with hc | hc
    · exact p.smt c hc
    · exact sp_sm (fun w hw => by
        obtain ⟨i, _, rfl⟩ := List.mem_map.mp hw
        exact zL_sm) c hc
  · rw [List.drop_succ_cons, ← List.map_drop]
    exact okAL_ints
  · have := p.n3
    rw [List.length_cons, List.length_map]
    omega
theorem goodS_v {w : List Nat} (k : SW w) {p : Int} (hp : p.natAbs < 10 ^ 100) {ps : List (List Tr)} (h : Pcs ps) : w_law_good [tS w p ps] = .ok (.bool true) := by
  have h5 := h.1.2
  refine good_g (T := w ++ spL (zL p :: wdP ps)) (fun c hc => ?_) (copS_v k h) (textS_v k hp h) (shownS_v k hp h) (readS_v k hp h) (isS_v k h) (Fn_tS k) ?_ (by simp)
  · rcases List.mem_append.mp hc with hc | hc
    · exact k.sm c hc
    · refine sp_sm (fun w hw => ?_) c hc
      rcases List.mem_cons.mp hw with rfl | hw
      · exact zL_sm
      · unfold wdP at hw
        obtain ⟨q, _, hw⟩ := List.mem_flatMap.mp hw
        rcases List.mem_cons.mp hw with rfl | hw
        · decide
        · obtain ⟨t, _, rfl⟩ := List.mem_map.mp hw
          exact arL_sm
  · show okAL [eP ps] = true
    unfold okAL okAL okA eP
    dsimp only
    rw [Bool.and_true]
    refine decide_eq_true ?_
    rw [List.length_map]
    unfold Zx.lim
    omega
theorem goodL_v {p : Int} (hp : p.natAbs < 10 ^ 100) {a b : List Int} (ha : Rw a) (hb : Rw b) : w_law_good [tLy p a b] = .ok (.bool true) := by
  have la := ha.2.1
  have lb := hb.2.1
  refine good_g (T := wLay ++ spL (wdL p a b)) (fun c hc => ?_) copL_v (textL_v hp ha hb) (shownL_v hp ha hb) (readL_v hp ha hb) isL_v Fn_tL ?_ (by simp)
  · rcases List.mem_append.mp hc with hc | hc
    · exact (show ∀ c ∈ wLay, c < 200 from by decide) c hc
    · refine sp_sm (fun w hw => ?_) c hc
      unfold wdL at hw
      simp only [List.mem_cons, List.mem_append, List.mem_map] at hw
      rcases hw with rfl | rfl | ⟨i, _, rfl⟩ | rfl | ⟨i, _, rfl⟩
      · exact zL_sm
      · decide
      · exact zL_sm
      · decide
      · exact zL_sm
  · show okAL [eI a, eI b] = true
    unfold okAL okAL okAL okA eI
    dsimp only
    rw [Bool.and_true, Bool.and_eq_true]
    refine ⟨decide_eq_true ?_, decide_eq_true ?_⟩ <;> rw [List.length_map] <;> unfold Zx.lim <;> omega
open TL (numL joinL)
theorem powBk {m n : Int} {vs : List VS} (h : Zx.powB m n = true) : gPow (.int m) (.int n) vs = .ok (.int (m ^ n.toNat)) vs := if_pos h
theorem divBk {m n : Int} {vs : List VS} (h : Zx.divB m n = true) : gDiv (.int m) (.int n) vs = .ok (.int (m / n)) vs := if_pos h
theorem div_big {m n : Int} (h0 : 0 < n) (h1 : n < 10 ^ 200) : Zx.divB m n = true := by
  unfold Zx.divB
  refine decide_eq_true ⟨h0, ?_⟩
  have h2 : n.natAbs < 10 ^ 200 := by
    have : ((n.natAbs : Nat) : Int) < ((10 ^ 200 : Nat) : Int) := by
      rw [Int.natAbs_of_nonneg (by omega)]
      exact_mod_cast h1
    exact_mod_cast this
  have h3 := PySem.Flt.log2_lt_of (k := 1000) (by decide) (Nat.lt_trans h2 (by decide +kernel))
  omega
theorem sz_v {b : Int} : ∃ s : Int, 1 ≤ s ∧ s ≤ 10 ^ 100 ∧ atI [PyData.int 3, .int 12, .int 1000, .int (10 ^ 9), .int (10 ^ 30), .int (10 ^ 50 * 10 ^ 50)] (b % 6) = some (.int s) := by
  have h : b % 6 = 0 ∨ b % 6 = 1 ∨ b % 6 = 2 ∨ b % 6 = 3 ∨ b % 6 = 4 ∨ b % 6 = 5 := by omega
  rcases h with e | e | e | e | e | e <;> rw [e]
  · exact ⟨_, by decide, by decide +kernel, at_c0⟩
  · exact ⟨_, by decide, by decide +kernel, at_c1⟩
  · exact ⟨_, by decide, by decide +kernel, at_c2⟩
  · exact ⟨_, by decide +kernel, by decide +kernel, at_c3⟩
  · exact ⟨_, by decide +kernel, by decide +kernel, at_c4⟩
  · exact ⟨_, by decide +kernel, by decide +kernel, at_c5⟩
theorem number_v {b : Int} (hb : 0 ≤ b) : ∃ x b' : Int, x.natAbs < 10 ^ 100 ∧ 0 ≤ b' ∧ w_law_number [.int b] = .ok (.tuple [.int x, .int b']) := by
  obtain ⟨s, h1, h2, es⟩ := sz_v (b := b)
  have e9 : ∀ vs, gPow (.int 10) (.int 9) vs = .ok (.int (10 ^ 9)) vs := fun vs => powBk (by decide)
  have e30 : ∀ vs, gPow (.int 10) (.int 30) vs = .ok (.int (10 ^ 30)) vs := fun vs => powBk (by decide)
  have e50 : ∀ vs, gPow (.int 10) (.int 50) vs = .ok (.int (10 ^ 50)) vs := fun vs => powBk (by decide)
  have em : ∀ vs, gMul (.int (10 ^ 50)) (.int (10 ^ 50)) vs = .ok (.int (10 ^ 50 * 10 ^ 50)) vs := fun vs => o_mul (by decide +kernel)
  have p100 : (10 : Int) ^ 100 < 2 ^ 400 := by decide +kernel
  have hs : s.natAbs < 2 ^ 400 := by
    have : ((s.natAbs : Nat) : Int) < ((2 ^ 400 : Nat) : Int) := by
      rw [Int.natAbs_of_nonneg (by omega)]
      exact Int.lt_of_le_of_lt h2 (by exact_mod_cast p100)
    exact_mod_cast this
  have m2 : mulB 2 s = true := by
    have := PySem.Flt.log2_lt_of (k := 400) (by decide) hs
    unfold mulB
    refine decide_eq_true ?_
    have h3 : (2 : Int).natAbs.log2 = 1 := by decide
    omega
  have hd : Zx.divB (b / 6) (2 * s - 1) = true := div_big (by omega) (Int.lt_of_le_of_lt (show 2 * s - 1 ≤ 2 * 10 ^ 100 by omega) (by decide +kernel))
  have r1 := Int.emod_nonneg (b / 6) (b := 2 * s - 1) (by omega)
  have r2 := Int.emod_lt_of_pos (b / 6) (b := 2 * s - 1) (by omega)
  refine ⟨b / 6 % (2 * s - 1) - (s - 1), b / 6 / (2 * s - 1), ?_, Int.ediv_nonneg (by omega) (by omega), ?_⟩
  · generalize b / 6 % (2 * s - 1) = r at r1 r2
    have : ((r - (s - 1)).natAbs : Int) < ((10 ^ 100 : Nat) : Int) := by
      have e : ((10 ^ 100 : Nat) : Int) = (10 : Int) ^ 100 := by norm_cast
      rw [e]
      omega
    exact_mod_cast this
  · unfold w_law_number em_law_number
    walk_at "t"
    rw [e9]
    walk_at "t"
    rw [e30]
    walk_at "t"
    rw [e50]
    walk_at "t"
    rw [e50]
    walk_at "t"
    rw [em]
    walk_at "t"
    rw [es]
    walk_at "t"
    rw [o_mul m2]
    walk_at "t"
    rw [o_mul m2]
    walk_at "t"
    rw [divBk hd]
    walk_at "t"
theorem some_v {b : Int} (hb : 0 ≤ b) : ∃ (r : List Int) (b' : Int), Rw r ∧ 0 ≤ b' ∧ w_law_some [.int b] = .ok (.tuple [eI r, .int b']) := by
  obtain ⟨m, em, m1, m6⟩ : ∃ m : Nat, 1 + b % 6 = m ∧ 1 ≤ m ∧ m ≤ 6 := ⟨(1 + b % 6).toNat, by omega, by omega, by omega⟩
  have hb6 : 0 ≤ b / 6 := by omega
  unfold w_law_some em_law_some
  walk_at "t"
  rw [em]
  generalize b / 6 = b0 at hb6
  unfold el_law_some_1
  walk_at "t"
  generalize ef : forV _ _ _ _ _ = o
  obtain ⟨vs', rfl, r, b', hr, hx, hb', rfl⟩ := for_inv' ef (P := fun j vs => ∃ (r : List Int) (b : Int), r.length = j ∧ (∀ x ∈ r, x.natAbs < 10 ^ 100) ∧ 0 ≤ b ∧ vs = [.v (.int b), .v (eI r), .v (.int m), .un, .un]) ⟨[], b0, rfl, (fun x h => by cases h), hb6, rfl⟩ (by
    rintro j it vs e ⟨r, b, hr, hx, hb, rfl⟩
    obtain ⟨j', hj', rfl⟩ := rng_mem (List.mem_of_getElem? e)
    have hj : j < m := by
      have := (List.getElem?_eq_some_iff.mp e).1
      rwa [rng_len] at this
    obtain ⟨x, b2, x1, b22, en⟩ := number_v hb
    refine ⟨_, ⟨r ++ [x], b2, by rw [List.length_append, hr]; rfl, fun y hy => (List.mem_append.mp hy).elim (hx y) fun hy => by rw [List.mem_singleton.mp hy]; exact x1, b22, rfl⟩, fun K => ?_⟩
    rw [turn_eq]
    walk_at "t"
    rw [en]
    walk_at "t"
    have ea : eI (r ++ [x]) = .list (r.map PyData.int ++ [.int x]) := by
      show PyData.list ((r ++ [x]).map PyData.int) = _
      rw [List.map_append]
      rfl
    rw [ea])
  simp only [rng_len] at hr
  refine ⟨r, b', ⟨fun z => by rw [z, List.length_nil] at hr; omega, by omega, hx⟩, hb', ?_⟩
  walk_at "t"
theorem nat_lt {x m : Int} (h0 : 0 ≤ x) (h1 : x < m) (h2 : m ≤ 10 ^ 30) : x.natAbs < 10 ^ 100 := by
  have h3 : x < 10 ^ 100 := Int.lt_of_lt_of_le (Int.lt_of_lt_of_le h1 h2) (by decide +kernel)
  have : (x.natAbs : Int) < ((10 ^ 100 : Nat) : Int) := by
    have e : ((10 ^ 100 : Nat) : Int) = (10 : Int) ^ 100 := by norm_cast
    rw [e]
    omega
  exact_mod_cast this
theorem places_v {b m : Int} (hb : 0 ≤ b) (hm : 1 ≤ m) (hm2 : m ≤ 10 ^ 30) : ∃ (t : Tr) (b' : Int), Ok3 t ∧ 0 ≤ b' ∧ w_law_places [.int b, .int 3, .int m] = .ok (.tuple [eI [t.1, t.2.1, t.2.2], .int b']) := by
  have hd : ∀ b : Int, Zx.divB b m = true := fun b => div_big (by omega) (Int.lt_of_le_of_lt hm2 (by decide +kernel))
  have dv : ∀ (b : Int) (vs : List VS), gDiv (.int b) (.int m) vs = .ok (.int (b / m)) vs := fun b vs => divBk (hd b)
  unfold w_law_places em_law_places
  walk_at "t"
  unfold el_law_places_1
  walk_at "t"
  generalize ef : forV _ _ _ _ _ = o
  obtain ⟨vs', rfl, r, b', hr, hx, hb', rfl⟩ := for_inv' ef (P := fun j vs => ∃ (r : List Int) (b : Int), r.length = j ∧ (∀ x ∈ r, 0 ≤ x ∧ x.natAbs < 10 ^ 100) ∧ 0 ≤ b ∧ vs = [.v (.int b), .v (.int 3), .v (.int m), .v (eI r), .un]) ⟨[], b, rfl, (fun x h => by cases h), hb, rfl⟩ (by
    rintro j it vs e ⟨r, b, hr, hx, hb, rfl⟩
    obtain ⟨j', hj', rfl⟩ := rng_mem (List.mem_of_getElem? e)
    have hj : j < 3 := by
      have := (List.getElem?_eq_some_iff.mp e).1
      rwa [rng_len] at this
    have r1 := Int.emod_nonneg b (b := m) (by omega)
    have r2 := Int.emod_lt_of_pos b (b := m) (by omega)
    refine ⟨_, ⟨r ++ [b % m], b / m, by rw [List.length_append, hr]; rfl, fun y hy => (List.mem_append.mp hy).elim (hx y) fun hy => by rw [List.mem_singleton.mp hy]; exact ⟨r1, nat_lt r1 r2 hm2⟩, Int.ediv_nonneg hb (by omega), rfl⟩, fun K => ?_⟩
    rw [turn_eq]
    walk_at "t"
    have ea : eI (r ++ [b % m]) = .list (r.map PyData.int ++ [.int (b % m)]) := by
      show PyData.list ((r ++ [b % m]).map PyData.int) = _
      rw [List.map_append]
      rfl
    rw [ea])
  simp only [rng_len] at hr
  match r, hr, hx with
  | [x, y, z], _, hx =>
    refine ⟨(x, y, z), b', ⟨hx x (by simp), hx y (by simp), hx z (by simp)⟩, hb', ?_⟩
    walk_at "t"
theorem piece_v {b m k2 j2 : Int} {n : Nat} {ps : List (List Tr)} (hn : n ≤ 3) (hb : 0 ≤ b) (hm : 1 ≤ m) (hm2 : m ≤ 10 ^ 30) : ∃ (q : List Tr) (b' : Int), q.length = n ∧ (∀ t ∈ q, Ok3 t) ∧ 0 ≤ b' ∧ el_law_pieces_1 [.v (.int b), .v (eP ps), .v (.int m), .v (.int k2), .v (.int j2), .v (.list []), .v (.int n), .un, .un] = .nx [.v (.int b'), .v (eP ps), .v (.int m), .v (.int k2), .v (.int j2), .v (eQ q), .v (.int n), .un, .un] := by
  unfold el_law_pieces_1
  walk_at "t"
  generalize ef : forV _ _ _ _ _ = o
  obtain ⟨vs', rfl, q, b', hq, hx, hb', rfl⟩ := for_inv' ef (P := fun j vs => ∃ (q : List Tr) (b : Int), q.length = j ∧ (∀ t ∈ q, Ok3 t) ∧ 0 ≤ b ∧ vs = [.v (.int b), .v (eP ps), .v (.int m), .v (.int k2), .v (.int j2), .v (eQ q), .v (.int n), .un, .un]) ⟨[], b, rfl, (fun x h => by cases h), hb, rfl⟩ (by
    rintro j it vs e ⟨q, b, hq, hx, hb, rfl⟩
    obtain ⟨j', hj', rfl⟩ := rng_mem (List.mem_of_getElem? e)
    have hj : j < n := by
      have := (List.getElem?_eq_some_iff.mp e).1
      rwa [rng_len] at this
    obtain ⟨t, b2, t1, b22, en⟩ := places_v hb hm hm2
    refine ⟨_, ⟨q ++ [t], b2, by rw [List.length_append, hq]; rfl, fun y hy => (List.mem_append.mp hy).elim (hx y) fun hy => by rw [List.mem_singleton.mp hy]; exact t1, b22, rfl⟩, fun K => ?_⟩
    rw [turn_eq]
    walk_at "t"
    rw [en]
    unfold eQ
    walk_at "t"
    have ea : (q ++ [t]).map tr = q.map tr ++ [tr t] := by rw [List.map_append]; rfl
    rw [ea]
    rfl)
  simp only [rng_len] at hq
  exact ⟨q, b', hq, hx, hb', rfl⟩
theorem pieces_v {b : Int} (hb : 0 ≤ b) : ∃ ps, Pcs ps ∧ w_law_pieces [.int b] = .ok (eP ps) := by
  have e30 : ∀ vs, gPow (.int 10) (.int 30) vs = .ok (.int (10 ^ 30)) vs := fun vs => powBk (by decide)
  obtain ⟨m, hm, hm2, em⟩ : ∃ m : Int, 1 ≤ m ∧ m ≤ 10 ^ 30 ∧ atI [PyData.int 3, .int 12, .int (10 ^ 30)] (b % 3) = some (.int m) := by
    have h : b % 3 = 0 ∨ b % 3 = 1 ∨ b % 3 = 2 := by omega
    rcases h with e | e | e <;> rw [e]
    · exact ⟨_, by decide, by decide +kernel, at_c0⟩
    · exact ⟨_, by decide, by decide +kernel, at_c1⟩
    · exact ⟨_, by decide +kernel, by decide +kernel, at_c2⟩
  obtain ⟨n, en, n2, n5⟩ : ∃ n : Nat, 2 + b / 3 % 4 = n ∧ 2 ≤ n ∧ n ≤ 5 := ⟨(2 + b / 3 % 4).toNat, by omega, by omega, by omega⟩
  have hb12 : 0 ≤ b / 12 := by omega
  unfold w_law_pieces em_law_pieces
  walk_at "t"
  rw [e30]
  walk_at "t"
  rw [em]
  walk_at "t"
  rw [en]
  generalize b / 12 = b0 at hb12
  unfold el_law_pieces_2
  walk_at "t"
  generalize ef : forV _ _ _ _ _ = o
  obtain ⟨vs', rfl, ps, b', hr, hx, hb', rfl⟩ := for_inv' ef (P := fun j vs => ∃ (ps : List (List Tr)) (b : Int), ps.length = j ∧ (∀ q ∈ ps, Pc q) ∧ 0 ≤ b ∧ vs = [.v (.int b), .v (eP ps), .v (.int m), .v (.int n), .un, .un, .un, .un, .un]) ⟨[], b0, rfl, (fun x h => by cases h), hb12, rfl⟩ (by
    rintro j it vs e ⟨ps, b, hr, hx, hb, rfl⟩
    obtain ⟨j', hj', rfl⟩ := rng_mem (List.mem_of_getElem? e)
    have hj : j < n := by
      have := (List.getElem?_eq_some_iff.mp e).1
      rwa [rng_len] at this
    obtain ⟨l, el, l1, l3⟩ : ∃ l : Nat, 1 + b % 3 = l ∧ 1 ≤ l ∧ l ≤ 3 := ⟨(1 + b % 3).toNat, by omega, by omega, by omega⟩
    obtain ⟨q, b2, hq, hqx, b22, eq⟩ := piece_v (b := b / 3) (m := m) (k2 := n) (j2 := j') (n := l) (ps := ps) l3 (by omega) hm hm2
    refine ⟨_, ⟨ps ++ [q], b2, by rw [List.length_append, hr]; rfl, fun y hy => (List.mem_append.mp hy).elim (hx y) fun hy => ?_, b22, rfl⟩, fun K => ?_⟩
    · rw [List.mem_singleton.mp hy]
      exact ⟨fun z => by rw [z, List.length_nil] at hq; omega, by omega, hqx⟩
    · rw [turn_eq]
      walk_at "t"
      rw [el]
      rw [eq]
      unfold eP
      walk_at "t"
      have ea : (ps ++ [q]).map eQ = ps.map eQ ++ [eQ q] := by rw [List.map_append]; rfl
      rw [ea])
  simp only [rng_len] at hr
  refine ⟨ps, ⟨⟨by omega, by omega⟩, hx⟩, ?_⟩
  walk_at "t"
open TL (numL joinL)
inductive W9 : List Nat → Prop
  | pw {w t n} (p : PW w t n) : W9 w
  | sw {w} (k : SW w) : W9 w
  | lay : W9 wLay
theorem w9_v {b : Int} : ∃ w, W9 w ∧ atI [PyData.str (tx wSw), .str (tx wOut), .str (tx wIn), .str (tx wJo), .str (tx wJi), .str (tx wDr), .str (tx wLay), .str (tx wRo), .str (tx wCo)] (b % 9) = some (.str (tx w)) := by
  have h : b % 9 = 0 ∨ b % 9 = 1 ∨ b % 9 = 2 ∨ b % 9 = 3 ∨ b % 9 = 4 ∨ b % 9 = 5 ∨ b % 9 = 6 ∨ b % 9 = 7 ∨ b % 9 = 8 := by omega
  rcases h with e | e | e | e | e | e | e | e | e <;> rw [e]
  · exact ⟨_, .pw .sw, rfl⟩
  · exact ⟨_, .sw .out, rfl⟩
  · exact ⟨_, .sw .in_, rfl⟩
  · exact ⟨_, .pw .jo, rfl⟩
  · exact ⟨_, .pw .ji, rfl⟩
  · exact ⟨_, .pw .dr, rfl⟩
  · exact ⟨_, .lay, rfl⟩
  · exact ⟨_, .pw .ro, rfl⟩
  · exact ⟨_, .pw .co, rfl⟩
theorem rw_1 {x : Int} (h : x.natAbs < 10 ^ 100) : Rw [x] := ⟨by simp, by simp, fun y hy => by rw [List.mem_singleton.mp hy]; exact h⟩
theorem rw_2 {x y : Int} (h : x.natAbs < 10 ^ 100) (h2 : y.natAbs < 10 ^ 100) : Rw [x, y] := ⟨by simp, by simp, fun z hz => by
  simp only [List.mem_cons, List.not_mem_nil, or_false] at hz
  rcases hz with rfl | rfl <;> assumption⟩
theorem rw_3 {x y z : Int} (h : x.natAbs < 10 ^ 100) (h2 : y.natAbs < 10 ^ 100) (h3 : z.natAbs < 10 ^ 100) : Rw [x, y, z] := ⟨by simp, by simp, fun u hu => by
  simp only [List.mem_cons, List.not_mem_nil, or_false] at hu
  rcases hu with rfl | rfl | rfl <;> assumption⟩
theorem lmove_v {ns : List Int} {k : Int} (hk : 0 ≤ k) : ∃ X, w_law_move [eI ns, .int k] = .ok X ∧ w_law_good [X] = .ok (.bool true) := by
  obtain ⟨b, hb, eb⟩ := big_v (ns := ns) (k := k) hk
  obtain ⟨c, hc, ec⟩ := big_v (ns := ns) (k := k + 1) (by omega)
  obtain ⟨w, hw, ew⟩ := w9_v (b := b)
  obtain ⟨x1, b1, l1, h1, e1⟩ := number_v (b := b / 9) (by omega)
  obtain ⟨x2, b2, l2, h2, e2⟩ := number_v h1
  obtain ⟨x3, b3, l3, h3, e3⟩ := number_v h2
  obtain ⟨ps, hps, eps⟩ := pieces_v hc
  obtain ⟨ra, c1, hra, hc1, era⟩ := some_v hc
  obtain ⟨rb, c2, hrb, hc2, erb⟩ := some_v hc1
  have head : ∀ X, (em_law_move [.sc ns, .v (.int k), .un, .un, .un, .un, .un, .un, .un, .un]).fin = .ok X → w_law_move [eI ns, .int k] = .ok X := fun X h => by
    unfold w_law_move
    walk_at "t"
    exact h
  unfold em_law_move at head
  simp only [s_sw, s_out, s_in, s_jo, s_ji, s_dr, s_lay, s_ro, s_co] at head
  have io : inV (.str (tx wLay)) [.str (tx wOut), .str (tx wIn)] = false := by decide +kernel
  cases hw with
  | sw k =>
    refine ⟨_, head (tS w x1 ps) ?_, goodS_v k l1 hps⟩
    walk_at "t"
    rw [eb]
    walk_at "t"
    rw [ew]
    walk_at "t"
    rw [e1]
    walk_at "t"
    rw [e2]
    walk_at "t"
    rw [e3]
    walk_at "t"
    rw [in2 k.io]
    walk_at "t"
    rw [ec]
    walk_at "t"
    rw [eps]
    walk_at "t"
    rfl
  | lay =>
    refine ⟨_, head (tLy x1 ra rb) ?_, goodL_v l1 hra hrb⟩
    walk_at "t"
    rw [eb]
    walk_at "t"
    rw [ew]
    walk_at "t"
    rw [e1]
    walk_at "t"
    rw [e2]
    walk_at "t"
    rw [e3]
    walk_at "t"
    rw [in2 io]
    walk_at "t"
    rw [eq_tx (by decide) (by decide), show decide (wLay = wLay) = true from by decide]
    walk_at "t"
    rw [ec]
    walk_at "t"
    rw [era]
    walk_at "t"
    rw [erb]
    walk_at "t"
    rfl
  | @pw w t n p =>
    have go : ∀ ns', Rw ns' → ns'.length = n → (em_law_move [.sc ns, .v (.int k), .un, .un, .un, .un, .un, .un, .un, .un]).fin = .ok (tP w ns') → ∃ X, w_law_move [eI ns, .int k] = .ok X ∧ w_law_good [X] = .ok (.bool true) := fun ns' a b c => ⟨_, by
      unfold w_law_move
      walk_at "t"
      exact c, goodP_v p a b⟩
    have rc : ∃ r, inV (.str (tx w)) [.str (tx wRo), .str (tx wCo)] = r ∧ (r = true ↔ n = 3) := by
      cases p
      · exact ⟨false, by decide +kernel, by decide⟩
      · exact ⟨false, by decide +kernel, by decide⟩
      · exact ⟨true, by decide +kernel, by decide⟩
      · exact ⟨true, by decide +kernel, by decide⟩
      · exact ⟨false, by decide +kernel, by decide⟩
      · exact ⟨false, by decide +kernel, by decide⟩
    have dr : ∃ r, decide (w = wDr) = r ∧ (r = true ↔ n = 1) := by
      cases p
      · exact ⟨false, by decide, by decide⟩
      · exact ⟨true, by decide, by decide⟩
      · exact ⟨false, by decide, by decide⟩
      · exact ⟨false, by decide, by decide⟩
      · exact ⟨false, by decide, by decide⟩
      · exact ⟨false, by decide, by decide⟩
    obtain ⟨r, er, hr⟩ := rc
    obtain ⟨d, ed, hd⟩ := dr
    have run : ∀ ns', (ns' = if d = true then [x1] else if r = true then [x1, x2, x3] else [x1, x2]) → (em_law_move [.sc ns, .v (.int k), .un, .un, .un, .un, .un, .un, .un, .un]).fin = .ok (tP w ns') := fun ns' hns => by
      unfold em_law_move
      simp only [s_sw, s_out, s_in, s_jo, s_ji, s_dr, s_lay, s_ro, s_co]
      walk_at "t"
      rw [eb]
      walk_at "t"
      rw [ew]
      walk_at "t"
      rw [e1]
      walk_at "t"
      rw [e2]
      walk_at "t"
      rw [e3]
      walk_at "t"
      rw [in2 p.io]
      walk_at "t"
      rw [eq_tx p.sm (by decide), p.lay]
      walk_at "t"
      rw [eq_tx p.sm (by decide), ed]
      cases d with
      | true =>
        walk_at "t"
        rw [hns]
        rfl
      | false =>
        walk_at "t"
        rw [in2 er]
        cases r with
        | true =>
          walk_at "t"
          rw [hns]
          rfl
        | false =>
          walk_at "t"
          rw [hns]
          rfl
    have n3 := p.n3
    cases d with
    | true => exact go _ (rw_1 l1) (by have := hd.mp rfl; rw [this]; rfl) (run _ rfl)
    | false =>
      have nd : n ≠ 1 := fun z => by cases hd.mpr z
      cases r with
      | true => exact go _ (rw_3 l1 l2 l3) (by have := hr.mp rfl; rw [this]; rfl) (run _ rfl)
      | false =>
        have nr : n ≠ 3 := fun z => by cases hr.mpr z
        exact go _ (rw_2 l1 l2) (by show 2 = n; omega) (run _ rfl)
theorem law_v (ns : List Int) : w_law [eI ns] = .ok (.bool true) := by
  obtain ⟨X, eX, gX⟩ := lmove_v (ns := ns) (k := 0) (by decide)
  obtain ⟨Y, eY, gY⟩ := lmove_v (ns := ns) (k := 2) (by decide)
  unfold w_law em_law
  walk_at "t"
  rw [eX]
  walk_at "t"
  rw [eY]
  walk_at "t"
  rw [gX]
  walk_at "t"
  rw [gY]
  walk_at "t"
  rw [gX]
  walk_at "t"
theorem law_ok (ns : List Int) (_ : ns.length ≤ 63) : ∃ h, v_law [.list (ns.map PyData.int)] = .ok (.d (.bool true)) h := law_by k_law (law_v ns)
end Gn.V
namespace Gn
open PySem PySem.Spec L2 Zx
def topS (i : Nat) : Stmt := PySem.Challenge.pw_foreverrows_k83_texts_of_moves.main.body.getD i (.Pass ⟨0, 0, 0, 0⟩)
abbrev s_are_figures : Stmt := topS 9
abbrev s_numbers_shown : Stmt := topS 12
abbrev s_arrow_shown : Stmt := topS 13
abbrev s_parted : Stmt := topS 17
abbrev s_law_cell_at : Stmt := topS 23
abbrev s_law_number : Stmt := topS 25
abbrev s_law_places : Stmt := topS 26
abbrev s_law_spelled : Stmt := topS 30
abbrev s_law_piece_text : Stmt := topS 31
abbrev s_law_copied : Stmt := topS 33
abbrev s_law_is_move : Stmt := topS 34
abbrev s_number_read : Stmt := topS 10
abbrev s_arrow_read : Stmt := topS 14
abbrev s_pieces_shown : Stmt := topS 15
abbrev s_law_big : Stmt := topS 24
abbrev s_law_pieces : Stmt := topS 27
abbrev s_law_some : Stmt := topS 28
abbrev s_law_move_text : Stmt := topS 32
abbrev s_numbers_read : Stmt := topS 11
abbrev s_move_shown : Stmt := topS 16
abbrev s_split_read : Stmt := topS 18
abbrev s_law_move : Stmt := topS 29
abbrev s_lay_read : Stmt := topS 19
abbrev s_plain_read : Stmt := topS 20
abbrev s_move_read : Stmt := topS 21
abbrev s_law_good : Stmt := topS 35
abbrev s_law : Stmt := topS 36
structure Txt (P : Program) (w : World) (K : PySem.W.Frag) (mg : Str → Option Value) (base : Heap) : Prop where
  z_all : mg (PySem.Str.ofString "all") = none
  z_bool : mg (PySem.Str.ofString "bool") = none
  z_int : mg (PySem.Str.ofString "int") = none
  z_isinstance : mg (PySem.Str.ofString "isinstance") = none
  z_len : mg (PySem.Str.ofString "len") = none
  z_list : mg (PySem.Str.ofString "list") = none
  z_range : mg (PySem.Str.ofString "range") = none
  z_str : mg (PySem.Str.ofString "str") = none
  z_tuple : mg (PySem.Str.ofString "tuple") = none
  x_NoText : ∃ C, ExO K mg (PySem.Str.ofString "NoText") C
  k_ADDITIONS : TupC K mg (PySem.Str.ofString "ADDITIONS") [(PySem.Str.ofString "row"), (PySem.Str.ofString "column")]
  k_SPLITS : TupC K mg (PySem.Str.ofString "SPLITS") [(PySem.Str.ofString "out"), (PySem.Str.ofString "in")]
  k_JOINED : DcC K w mg (PySem.Str.ofString "JOINED") tb_JOINED
  k_JOINS : DcC K w mg (PySem.Str.ofString "JOINS") tb_JOINS
  k_FIGURES : ∃ u, mg (PySem.Str.ofString "FIGURES") = some u ∧ RelV (.str (PySem.Str.ofString "0123456789")) u
section
variable {P : Program} {w : World} {K : PySem.W.Frag} {mg : Str → Option Value} {base : Heap}
theorem sc_are_figures : FnScope [(PySem.Str.ofString "text"), (PySem.Str.ofString "sign")] [(PySem.Str.ofString "text")] (defScope s_are_figures) := ⟨rfl, rfl, rfl, by decide +kernel, rfl, by decide +kernel, by decide +kernel⟩
theorem d_are_figures (T : Txt P w K mg base) : DefOk P w K mg base [(PySem.Str.ofString "text"), (PySem.Str.ofString "sign")] "are_figures" s_are_figures 0 m_are_figures := by
  delta m_are_figures e_are_figures_1
  exact fun f cdv A outer s H E W hr tk hp =>
  (ss_cons (ss_if (st_w (sw_or (st_cmp (op_eqD hr.units) os_eq (se_var (pv 0)) se_str (nomark _)) (sw_or1 (st_w (sw_and (st_cmp (op_eqD hr.units) os_eq (se_ix ix_seq os_ix (se_var (pv 0)) se_int (fun _ _ => rfl)) se_str (nomark _)) (sw_and1 (st_cmp (op_neD hr.units) os_ne (se_var (pv 0)) se_str (nomark _)))))))) (ss_one (ss_ret se_bl)) ss_nil)
    (ss_one (ss_ret (se_cmp (op_eqD hr.units) os_eq (se_lc rfl sc_are_figures.nd (si_str (se_var (pv 0))) (blkOk_by (own := [((PySem.Str.ofString "sign"), 1)]) (by show blkC [(PySem.Str.ofString "text"), (PySem.Str.ofString "sign")] (defScope s_are_figures) _ _ = true; decide +kernel)) (fun _ _ _ _ _ => (pg_name (i := 1) sc_are_figures.nd (by rfl) (.inl rfl))) (fun _ _ _ _ _ => (sts_one (st_cmp op_notIn_str os_notInS (se_var (pv 1)) (se_gstr (by rfl) T.k_FIGURES) (by rfl)))) (fun _ _ _ _ _ => (se_var (pv 1))) gs_name (by decide)) (se_fz (se_lst sa_nil)) (nomark _)))))
theorem c_are_figures (T : Txt P w K mg base) {f : Addr} {fd : FuncData} (F : Fun K "are_figures" "are_figures" s_are_figures f fd) (b : Binds K fd [(PySem.Str.ofString "text")] []) (hm : mg (PySem.Str.ofString "are_figures") = some (.ref f)) : Cal P w K mg base (PySem.Str.ofString "are_figures") 1 [.vw] v_are_figures :=
  ⟨f, fd, [(PySem.Str.ofString "text")], fn_data F sc_are_figures rfl (d_are_figures T ), hm, F.kp, b⟩
theorem sc_numbers_shown : FnScope [(PySem.Str.ofString "numbers"), (PySem.Str.ofString "number")] [(PySem.Str.ofString "numbers")] (defScope s_numbers_shown) := ⟨rfl, rfl, rfl, by decide +kernel, rfl, by decide +kernel, by decide +kernel⟩
theorem d_numbers_shown (T : Txt P w K mg base) : DefOk P w K mg base [(PySem.Str.ofString "numbers"), (PySem.Str.ofString "number")] "numbers_shown" s_numbers_shown 0 m_numbers_shown := by
  delta m_numbers_shown e_numbers_shown_1
  exact fun f cdv A outer s H E W hr tk hp =>
  (ss_one (ss_ret (se_join se_str (se_fz (se_lc rfl sc_numbers_shown.nd (si_anyS (se_var (pv 0))) (blkOk_by (own := [((PySem.Str.ofString "number"), 1)]) (by show blkC [(PySem.Str.ofString "numbers"), (PySem.Str.ofString "number")] (defScope s_numbers_shown) _ _ = true; decide +kernel)) (fun _ _ _ _ _ => (pg_name (i := 1) sc_numbers_shown.nd (by rfl) (.inl rfl))) (fun _ _ _ _ _ => sts_nil) (fun _ _ _ _ _ => (se_callTy call_str_int cs_strI (by rfl) T.z_str (by decide +kernel) (sa_cons (se_var (pv 1)) sa_nil))) gs_name (by decide))))))
theorem c_numbers_shown (T : Txt P w K mg base) {f : Addr} {fd : FuncData} (F : Fun K "numbers_shown" "numbers_shown" s_numbers_shown f fd) (b : Binds K fd [(PySem.Str.ofString "numbers")] []) (hm : mg (PySem.Str.ofString "numbers_shown") = some (.ref f)) : Cal P w K mg base (PySem.Str.ofString "numbers_shown") 1 [.vw] v_numbers_shown :=
  ⟨f, fd, [(PySem.Str.ofString "numbers")], fn_data F sc_numbers_shown rfl (d_numbers_shown T ), hm, F.kp, b⟩
theorem sc_arrow_shown : FnScope [(PySem.Str.ofString "arrow")] [(PySem.Str.ofString "arrow")] (defScope s_arrow_shown) := ⟨rfl, rfl, rfl, by decide +kernel, rfl, by decide +kernel, by decide +kernel⟩
theorem d_arrow_shown (T : Txt P w K mg base) : DefOk P w K mg base [(PySem.Str.ofString "arrow")] "arrow_shown" s_arrow_shown 0 m_arrow_shown := by
  delta m_arrow_shown
  exact fun f cdv A outer s H E W hr tk hp =>
  (ss_one (ss_ret (se_js (.cons (se_fmt (se_ix ix_seq os_ix (se_var (pv 0)) se_int (fun _ _ => rfl))) (.cons se_str (.cons (se_fmt (se_ix ix_seq os_ix (se_var (pv 0)) se_int (fun _ _ => rfl))) (.cons se_str (.cons (se_fmt (se_ix ix_seq os_ix (se_var (pv 0)) se_int (fun _ _ => rfl))) .nil))))))))
theorem c_arrow_shown (T : Txt P w K mg base) {f : Addr} {fd : FuncData} (F : Fun K "arrow_shown" "arrow_shown" s_arrow_shown f fd) (b : Binds K fd [(PySem.Str.ofString "arrow")] []) (hm : mg (PySem.Str.ofString "arrow_shown") = some (.ref f)) : Cal P w K mg base (PySem.Str.ofString "arrow_shown") 1 [.vw] v_arrow_shown :=
  ⟨f, fd, [(PySem.Str.ofString "arrow")], fn_data F sc_arrow_shown rfl (d_arrow_shown T ), hm, F.kp, b⟩
theorem sc_parted : FnScope [(PySem.Str.ofString "words"), (PySem.Str.ofString "found"), (PySem.Str.ofString "word"), (PySem.Str.ofString "part")] [(PySem.Str.ofString "words")] (defScope s_parted) := ⟨rfl, rfl, rfl, by decide +kernel, rfl, by decide +kernel, by decide +kernel⟩
theorem d_parted (T : Txt P w K mg base) : DefOk P w K mg base [(PySem.Str.ofString "words"), (PySem.Str.ofString "found"), (PySem.Str.ofString "word"), (PySem.Str.ofString "part")] "parted" s_parted 0 m_parted := by
  delta m_parted l_parted_1 e_parted_1
  exact fun f cdv A outer s H E W hr tk hp =>
  (ss_cons (ss_set (i := 1) sc_parted.nd (by rfl) (.inl rfl) (se_lst sa_nil))
    (ss_cons (ss_for hp rfl (si_list (se_var (pv 0))) (pg_name (i := 2) sc_parted.nd (by rfl) (.inl rfl)) gs_name (ss_one (ss_if (st_cmp (op_eqD hr.units) os_eq (se_var (pv 2)) se_str (nomark _)) (ss_one (ss_expr (se_bm ms_append PySem.F.plainAttrs_list PySem.F.slot_list_append PySem.F.type_list_append mt_append (se_var (pv 1)) (sa_cons (se_lst sa_nil) sa_nil)))) (ss_one (ss_if (st_cmp (op_eqD hr.units) os_eq (se_var (pv 1)) (se_fz (se_lst sa_nil)) (nomark _)) (ss_one (ss_raiseO rfl tk T.x_NoText (by exact rfl))) (ss_one (ss_expr (se_bm ms_append PySem.F.plainAttrs_list PySem.F.slot_list_append PySem.F.type_list_append mt_append (se_ix ix_seq os_ix (se_var (pv 1)) (se_un un_neg us_neg se_int) (fun _ _ => rfl)) (sa_cons (se_fz (se_var (pv 2))) sa_nil)))))))))
    (ss_cons (ss_if (st_cmp (op_neD hr.units) os_ne (se_lc rfl sc_parted.nd (si_list (se_var (pv 1))) (blkOk_by (own := [((PySem.Str.ofString "part"), 3)]) (by show blkC [(PySem.Str.ofString "words"), (PySem.Str.ofString "found"), (PySem.Str.ofString "word"), (PySem.Str.ofString "part")] (defScope s_parted) _ _ = true; decide +kernel)) (fun _ _ _ _ _ => (pg_name (i := 3) sc_parted.nd (by rfl) (.inl rfl))) (fun _ _ _ _ _ => (sts_one (st_cmp (op_eqD hr.units) os_eq (se_var (pv 3)) (se_fz (se_lst sa_nil)) (nomark _)))) (fun _ _ _ _ _ => (se_var (pv 3))) gs_name (by decide)) (se_fz (se_lst sa_nil)) (nomark _)) (ss_one (ss_raiseO rfl tk T.x_NoText (by exact rfl))) ss_nil)
    (ss_one (ss_ret (se_fz (se_var (pv 1))))))))
theorem c_parted (T : Txt P w K mg base) {f : Addr} {fd : FuncData} (F : Fun K "parted" "parted" s_parted f fd) (b : Binds K fd [(PySem.Str.ofString "words")] []) (hm : mg (PySem.Str.ofString "parted") = some (.ref f)) : Cal P w K mg base (PySem.Str.ofString "parted") 1 [.vw] v_parted :=
  ⟨f, fd, [(PySem.Str.ofString "words")], fn_data F sc_parted rfl (d_parted T ), hm, F.kp, b⟩
theorem sc_law_cell_at : FnScope [(PySem.Str.ofString "_law_script"), (PySem.Str.ofString "_law_k")] [(PySem.Str.ofString "_law_script"), (PySem.Str.ofString "_law_k")] (defScope s_law_cell_at) := ⟨rfl, rfl, rfl, by decide +kernel, rfl, by decide +kernel, by decide +kernel⟩
theorem d_law_cell_at (T : Txt P w K mg base) : DefOk P w K mg base [(PySem.Str.ofString "_law_script"), (PySem.Str.ofString "_law_k")] "_law_cell_at" s_law_cell_at 0 m_law_cell_at := by
  delta m_law_cell_at
  exact fun f cdv A outer s H E W hr tk hp =>
  (ss_cons (ss_if (st_cmp op_lt os_B0 (se_var (pv 1)) (se_callB call_len cs_len (by rfl) T.z_len (by decide +kernel) (sa_cons (se_var (pv 0)) sa_nil)) (nomark _)) (ss_one (ss_ret (se_ix ix_seq os_ix (se_var (pv 0)) (se_var (pv 1)) (fun _ _ => rfl)))) ss_nil)
    (ss_one (ss_ret se_int)))
theorem c_law_cell_at (T : Txt P w K mg base) {f : Addr} {fd : FuncData} (F : Fun K "_law_cell_at" "_law_cell_at" s_law_cell_at f fd) (b : Binds K fd [(PySem.Str.ofString "_law_script"), (PySem.Str.ofString "_law_k")] []) (hm : mg (PySem.Str.ofString "_law_cell_at") = some (.ref f)) : Cal P w K mg base (PySem.Str.ofString "_law_cell_at") 1 [.sc, .vw] v_law_cell_at :=
  ⟨f, fd, [(PySem.Str.ofString "_law_script"), (PySem.Str.ofString "_law_k")], fn_data F sc_law_cell_at rfl (d_law_cell_at T ), hm, F.kp, b⟩
theorem sc_law_number : FnScope [(PySem.Str.ofString "_law_big_here"), (PySem.Str.ofString "_law_size")] [(PySem.Str.ofString "_law_big_here")] (defScope s_law_number) := ⟨rfl, rfl, rfl, by decide +kernel, rfl, by decide +kernel, by decide +kernel⟩
theorem d_law_number (T : Txt P w K mg base) : DefOk P w K mg base [(PySem.Str.ofString "_law_big_here"), (PySem.Str.ofString "_law_size")] "_law_number" s_law_number 0 m_law_number := by
  delta m_law_number
  exact fun f cdv A outer s H E W hr tk hp =>
  (ss_cons (ss_set (i := 1) sc_law_number.nd (by rfl) (.inl rfl) (se_ix ix_seq os_ix (se_tup (sa_cons se_int (sa_cons se_int (sa_cons se_int (sa_cons (se_op op_pow os_pow se_int se_int) (sa_cons (se_op op_pow os_pow se_int se_int) (sa_cons (se_op op_mulX os_mul (se_op op_pow os_pow se_int se_int) (se_op op_pow os_pow se_int se_int)) sa_nil))))))) (se_op op_mod os_mod (se_var (pv 0)) se_int) (fun _ _ => rfl)))
    (ss_cons (ss_set (i := 0) sc_law_number.nd (by rfl) (.inl rfl) (se_op op_fdivW os_div (se_var (pv 0)) se_int))
    (ss_one (ss_ret (se_tup (sa_cons (se_op op_sub os_I0 (se_op op_mod os_mod (se_var (pv 0)) (se_op op_sub os_I0 (se_op op_mulX os_mul se_int (se_var (pv 1))) se_int)) (se_op op_sub os_I0 (se_var (pv 1)) se_int)) (sa_cons (se_op op_fdivW os_div (se_var (pv 0)) (se_op op_sub os_I0 (se_op op_mulX os_mul se_int (se_var (pv 1))) se_int)) sa_nil)))))))
theorem c_law_number (T : Txt P w K mg base) {f : Addr} {fd : FuncData} (F : Fun K "_law_number" "_law_number" s_law_number f fd) (b : Binds K fd [(PySem.Str.ofString "_law_big_here")] []) (hm : mg (PySem.Str.ofString "_law_number") = some (.ref f)) : Cal P w K mg base (PySem.Str.ofString "_law_number") 1 [.vw] v_law_number :=
  ⟨f, fd, [(PySem.Str.ofString "_law_big_here")], fn_data F sc_law_number rfl (d_law_number T ), hm, F.kp, b⟩
theorem sc_law_places : FnScope [(PySem.Str.ofString "_law_big_here"), (PySem.Str.ofString "_law_many"), (PySem.Str.ofString "_law_most"), (PySem.Str.ofString "_law_found"), (PySem.Str.ofString "_law_k")] [(PySem.Str.ofString "_law_big_here"), (PySem.Str.ofString "_law_many"), (PySem.Str.ofString "_law_most")] (defScope s_law_places) := ⟨rfl, rfl, rfl, by decide +kernel, rfl, by decide +kernel, by decide +kernel⟩
theorem d_law_places (T : Txt P w K mg base) : DefOk P w K mg base [(PySem.Str.ofString "_law_big_here"), (PySem.Str.ofString "_law_many"), (PySem.Str.ofString "_law_most"), (PySem.Str.ofString "_law_found"), (PySem.Str.ofString "_law_k")] "_law_places" s_law_places 0 m_law_places := by
  delta m_law_places l_law_places_1
  exact fun f cdv A outer s H E W hr tk hp =>
  (ss_cons (ss_set (i := 3) sc_law_places.nd (by rfl) (.inl rfl) (se_lst sa_nil))
    (ss_cons (ss_for hp rfl (si_rng (by rfl) T.z_range (sa_cons (se_var (pv 1)) sa_nil)) (pg_name (i := 4) sc_law_places.nd (by rfl) (.inl rfl)) gs_name (ss_cons (ss_expr (se_bm ms_append PySem.F.plainAttrs_list PySem.F.slot_list_append PySem.F.type_list_append mt_append (se_var (pv 3)) (sa_cons (se_op op_mod os_mod (se_var (pv 0)) (se_var (pv 2))) sa_nil)))
    (ss_one (ss_set (i := 0) sc_law_places.nd (by rfl) (.inl rfl) (se_op op_fdivW os_div (se_var (pv 0)) (se_var (pv 2)))))))
    (ss_one (ss_ret (se_tup (sa_cons (se_fz (se_var (pv 3))) (sa_cons (se_var (pv 0)) sa_nil)))))))
theorem c_law_places (T : Txt P w K mg base) {f : Addr} {fd : FuncData} (F : Fun K "_law_places" "_law_places" s_law_places f fd) (b : Binds K fd [(PySem.Str.ofString "_law_big_here"), (PySem.Str.ofString "_law_many"), (PySem.Str.ofString "_law_most")] []) (hm : mg (PySem.Str.ofString "_law_places") = some (.ref f)) : Cal P w K mg base (PySem.Str.ofString "_law_places") 1 [.vw, .vw, .vw] v_law_places :=
  ⟨f, fd, [(PySem.Str.ofString "_law_big_here"), (PySem.Str.ofString "_law_many"), (PySem.Str.ofString "_law_most")], fn_data F sc_law_places rfl (d_law_places T ), hm, F.kp, b⟩
theorem sc_law_spelled : FnScope [(PySem.Str.ofString "_law_numbers"), (PySem.Str.ofString "_law_text"), (PySem.Str.ofString "_law_k")] [(PySem.Str.ofString "_law_numbers")] (defScope s_law_spelled) := ⟨rfl, rfl, rfl, by decide +kernel, rfl, by decide +kernel, by decide +kernel⟩
theorem d_law_spelled (T : Txt P w K mg base) : DefOk P w K mg base [(PySem.Str.ofString "_law_numbers"), (PySem.Str.ofString "_law_text"), (PySem.Str.ofString "_law_k")] "_law_spelled" s_law_spelled 0 m_law_spelled := by
  delta m_law_spelled l_law_spelled_1
  exact fun f cdv A outer s H E W hr tk hp =>
  (ss_cons (ss_set (i := 1) sc_law_spelled.nd (by rfl) (.inl rfl) se_str)
    (ss_cons (ss_for hp rfl (si_rng (by rfl) T.z_range (sa_cons (se_callB call_len cs_len (by rfl) T.z_len (by decide +kernel) (sa_cons (se_var (pv 0)) sa_nil)) sa_nil)) (pg_name (i := 2) sc_law_spelled.nd (by rfl) (.inl rfl)) gs_name (ss_cons (ss_if (st_cmp op_gt os_B0 (se_var (pv 2)) se_int (nomark _)) (ss_one (ss_set (i := 1) sc_law_spelled.nd (by rfl) (.inl rfl) (se_op op_plus os_plus (se_var (pv 1)) se_str))) ss_nil)
    (ss_one (ss_set (i := 1) sc_law_spelled.nd (by rfl) (.inl rfl) (se_op op_plus os_plus (se_var (pv 1)) (se_callTy call_str_int cs_strI (by rfl) T.z_str (by decide +kernel) (sa_cons (se_ix ix_seq os_ix (se_var (pv 0)) (se_var (pv 2)) (fun _ _ => rfl)) sa_nil)))))))
    (ss_one (ss_ret (se_var (pv 1))))))
theorem c_law_spelled (T : Txt P w K mg base) {f : Addr} {fd : FuncData} (F : Fun K "_law_spelled" "_law_spelled" s_law_spelled f fd) (b : Binds K fd [(PySem.Str.ofString "_law_numbers")] []) (hm : mg (PySem.Str.ofString "_law_spelled") = some (.ref f)) : Cal P w K mg base (PySem.Str.ofString "_law_spelled") 1 [.vw] v_law_spelled :=
  ⟨f, fd, [(PySem.Str.ofString "_law_numbers")], fn_data F sc_law_spelled rfl (d_law_spelled T ), hm, F.kp, b⟩
theorem sc_law_piece_text : FnScope [(PySem.Str.ofString "_law_piece"), (PySem.Str.ofString "_law_text"), (PySem.Str.ofString "_law_i"), (PySem.Str.ofString "_law_j"), (PySem.Str.ofString "_law_k")] [(PySem.Str.ofString "_law_piece")] (defScope s_law_piece_text) := ⟨rfl, rfl, rfl, by decide +kernel, rfl, by decide +kernel, by decide +kernel⟩
theorem d_law_piece_text (T : Txt P w K mg base) : DefOk P w K mg base [(PySem.Str.ofString "_law_piece"), (PySem.Str.ofString "_law_text"), (PySem.Str.ofString "_law_i"), (PySem.Str.ofString "_law_j"), (PySem.Str.ofString "_law_k")] "_law_piece_text" s_law_piece_text 0 m_law_piece_text := by
  delta m_law_piece_text l_law_piece_text_1
  exact fun f cdv A outer s H E W hr tk hp =>
  (ss_cons (ss_set (i := 1) sc_law_piece_text.nd (by rfl) (.inl rfl) se_str)
    (ss_cons (ss_for hp rfl (si_list (se_var (pv 0))) (pg_tup (n := ([2, 3, 4] : List Nat).length) (t := gNms [2, 3, 4]) rfl (pgs_cons (pg_name (i := 2) sc_law_piece_text.nd (by rfl) (.inl rfl)) (pgs_cons (pg_name (i := 3) sc_law_piece_text.nd (by rfl) (.inl rfl)) (pgs_cons (pg_name (i := 4) sc_law_piece_text.nd (by rfl) (.inl rfl)) pgs_nil)))) (gs_tup (is := [2, 3, 4])) (ss_one (ss_set (i := 1) sc_law_piece_text.nd (by rfl) (.inl rfl) (se_op op_plus os_plus (se_op op_plus os_plus (se_op op_plus os_plus (se_op op_plus os_plus (se_op op_plus os_plus (se_op op_plus os_plus (se_var (pv 1)) se_str) (se_callTy call_str_int cs_strI (by rfl) T.z_str (by decide +kernel) (sa_cons (se_var (pv 2)) sa_nil))) se_str) (se_callTy call_str_int cs_strI (by rfl) T.z_str (by decide +kernel) (sa_cons (se_var (pv 3)) sa_nil))) se_str) (se_callTy call_str_int cs_strI (by rfl) T.z_str (by decide +kernel) (sa_cons (se_var (pv 4)) sa_nil))))))
    (ss_one (ss_ret (se_var (pv 1))))))
theorem c_law_piece_text (T : Txt P w K mg base) {f : Addr} {fd : FuncData} (F : Fun K "_law_piece_text" "_law_piece_text" s_law_piece_text f fd) (b : Binds K fd [(PySem.Str.ofString "_law_piece")] []) (hm : mg (PySem.Str.ofString "_law_piece_text") = some (.ref f)) : Cal P w K mg base (PySem.Str.ofString "_law_piece_text") 1 [.vw] v_law_piece_text :=
  ⟨f, fd, [(PySem.Str.ofString "_law_piece")], fn_data F sc_law_piece_text rfl (d_law_piece_text T ), hm, F.kp, b⟩
theorem sc_law_copied : FnScope [(PySem.Str.ofString "_law_move_here"), (PySem.Str.ofString "_law_piece")] [(PySem.Str.ofString "_law_move_here")] (defScope s_law_copied) := ⟨rfl, rfl, rfl, by decide +kernel, rfl, by decide +kernel, by decide +kernel⟩
theorem d_law_copied (T : Txt P w K mg base) : DefOk P w K mg base [(PySem.Str.ofString "_law_move_here"), (PySem.Str.ofString "_law_piece")] "_law_copied" s_law_copied 0 m_law_copied := by
  delta m_law_copied e_law_copied_1
  exact fun f cdv A outer s H E W hr tk hp =>
  (ss_cons (ss_if (st_cmp op_in_seq os_in (se_ix ix_seq os_ix (se_var (pv 0)) se_int (fun _ _ => rfl)) (se_tup (sa_cons se_str (sa_cons se_str sa_nil))) (by rfl)) (ss_one (ss_ret (se_tup (sa_cons (se_ix ix_seq os_ix (se_var (pv 0)) se_int (fun _ _ => rfl)) (sa_cons (se_ix ix_seq os_ix (se_var (pv 0)) se_int (fun _ _ => rfl)) (sa_cons (se_fz (se_lc rfl sc_law_copied.nd (si_list (se_ix ix_seq os_ix (se_var (pv 0)) se_int (fun _ _ => rfl))) (blkOk_by (own := [((PySem.Str.ofString "_law_piece"), 1)]) (by show blkC [(PySem.Str.ofString "_law_move_here"), (PySem.Str.ofString "_law_piece")] (defScope s_law_copied) _ _ = true; decide +kernel)) (fun _ _ _ _ _ => (pg_name (i := 1) sc_law_copied.nd (by rfl) (.inl rfl))) (fun _ _ _ _ _ => sts_nil) (fun _ _ _ _ _ => (se_fz (se_callTy call_list_of cs_list (by rfl) T.z_list (by decide +kernel) (sa_cons (se_var (pv 1)) sa_nil)))) gs_name (by decide))) sa_nil)))))) ss_nil)
    (ss_cons (ss_if (st_cmp (op_eqD hr.units) os_eq (se_ix ix_seq os_ix (se_var (pv 0)) se_int (fun _ _ => rfl)) se_str (nomark _)) (ss_one (ss_ret (se_tup (sa_cons (se_ix ix_seq os_ix (se_var (pv 0)) se_int (fun _ _ => rfl)) (sa_cons (se_ix ix_seq os_ix (se_var (pv 0)) se_int (fun _ _ => rfl)) (sa_cons (se_fz (se_callTy call_list_of cs_list (by rfl) T.z_list (by decide +kernel) (sa_cons (se_ix ix_seq os_ix (se_var (pv 0)) se_int (fun _ _ => rfl)) sa_nil))) (sa_cons (se_fz (se_callTy call_list_of cs_list (by rfl) T.z_list (by decide +kernel) (sa_cons (se_ix ix_seq os_ix (se_var (pv 0)) se_int (fun _ _ => rfl)) sa_nil))) sa_nil))))))) ss_nil)
    (ss_one (ss_ret (se_fz (se_var (pv 0)))))))
theorem c_law_copied (T : Txt P w K mg base) {f : Addr} {fd : FuncData} (F : Fun K "_law_copied" "_law_copied" s_law_copied f fd) (b : Binds K fd [(PySem.Str.ofString "_law_move_here")] []) (hm : mg (PySem.Str.ofString "_law_copied") = some (.ref f)) : Cal P w K mg base (PySem.Str.ofString "_law_copied") 1 [.vw] v_law_copied :=
  ⟨f, fd, [(PySem.Str.ofString "_law_move_here")], fn_data F sc_law_copied rfl (d_law_copied T ), hm, F.kp, b⟩
theorem sc_law_is_move : FnScope [(PySem.Str.ofString "_law_found"), (PySem.Str.ofString "_law_due"), (PySem.Str.ofString "_law_one"), (PySem.Str.ofString "_law_piece")] [(PySem.Str.ofString "_law_found"), (PySem.Str.ofString "_law_due")] (defScope s_law_is_move) := ⟨rfl, rfl, rfl, by decide +kernel, rfl, by decide +kernel, by decide +kernel⟩
theorem d_law_is_move (T : Txt P w K mg base) : DefOk P w K mg base [(PySem.Str.ofString "_law_found"), (PySem.Str.ofString "_law_due"), (PySem.Str.ofString "_law_one"), (PySem.Str.ofString "_law_piece")] "_law_is_move" s_law_is_move 0 m_law_is_move := by
  delta m_law_is_move e_law_is_move_2 e_law_is_move_1
  exact fun f cdv A outer s H E W hr tk hp =>
  (ss_cons (ss_if (st_w (sw_or (st_not (st_val (se_isi (T := "tuple") (by rfl) T.z_isinstance (by decide +kernel) (pe_bltn (by rfl) T.z_tuple (u := .type "tuple") (by decide +kernel) rfl) (se_var (pv 0))))) (sw_or (st_cmp (op_neD hr.units) os_ne (se_var (pv 0)) (se_var (pv 1)) (nomark _)) (sw_or1 (st_cmp (op_neD hr.units) os_ne (se_lc rfl sc_law_is_move.nd (si_tupU (se_var (pv 0))) (blkOk_by (own := [((PySem.Str.ofString "_law_one"), 2)]) (by show blkC [(PySem.Str.ofString "_law_found"), (PySem.Str.ofString "_law_due"), (PySem.Str.ofString "_law_one"), (PySem.Str.ofString "_law_piece")] (defScope s_law_is_move) _ _ = true; decide +kernel)) (fun _ _ _ _ _ => (pg_name (i := 2) sc_law_is_move.nd (by rfl) (.inl rfl))) (fun _ _ _ _ _ => (sts_one (st_val (se_isi (T := "bool") (by rfl) T.z_isinstance (by decide +kernel) (pe_bltn (by rfl) T.z_bool (u := .type "bool") (by decide +kernel) rfl) (se_var (pv 2)))))) (fun _ _ _ _ _ => (se_var (pv 2))) gs_name (by decide)) (se_fz (se_lst sa_nil)) (nomark _)))))) (ss_one (ss_ret se_bl)) ss_nil)
    (ss_cons (ss_if (st_cmp op_in_seq os_in (se_ix ix_seq os_ix (se_var (pv 1)) se_int (fun _ _ => rfl)) (se_tup (sa_cons se_str (sa_cons se_str sa_nil))) (by rfl)) (ss_one (ss_ret (se_cmp (op_eqD hr.units) os_eq (se_lc rfl sc_law_is_move.nd (si_list (se_ix ix_seq os_ix (se_var (pv 0)) se_int (fun _ _ => rfl))) (blkOk_by (own := [((PySem.Str.ofString "_law_piece"), 3)]) (by show blkC [(PySem.Str.ofString "_law_found"), (PySem.Str.ofString "_law_due"), (PySem.Str.ofString "_law_one"), (PySem.Str.ofString "_law_piece")] (defScope s_law_is_move) _ _ = true; decide +kernel)) (fun _ _ _ _ _ => (pg_name (i := 3) sc_law_is_move.nd (by rfl) (.inl rfl))) (fun _ _ _ _ _ => (sts_one (st_not (st_val (se_isi (T := "list") (by rfl) T.z_isinstance (by decide +kernel) (pe_bltn (by rfl) T.z_list (u := .type "list") (by decide +kernel) rfl) (se_var (pv 3))))))) (fun _ _ _ _ _ => (se_var (pv 3))) gs_name (by decide)) (se_fz (se_lst sa_nil)) (nomark _)))) ss_nil)
    (ss_cons (ss_if (st_cmp (op_eqD hr.units) os_eq (se_ix ix_seq os_ix (se_var (pv 1)) se_int (fun _ _ => rfl)) se_str (nomark _)) (ss_one (ss_ret (se_and (se_isi (T := "list") (by rfl) T.z_isinstance (by decide +kernel) (pe_bltn (by rfl) T.z_list (u := .type "list") (by decide +kernel) rfl) (se_ix ix_seq os_ix (se_var (pv 0)) se_int (fun _ _ => rfl))) (se_one (se_isi (T := "list") (by rfl) T.z_isinstance (by decide +kernel) (pe_bltn (by rfl) T.z_list (u := .type "list") (by decide +kernel) rfl) (se_ix ix_seq os_ix (se_var (pv 0)) se_int (fun _ _ => rfl))))))) ss_nil)
    (ss_one (ss_ret se_bl)))))
theorem c_law_is_move (T : Txt P w K mg base) {f : Addr} {fd : FuncData} (F : Fun K "_law_is_move" "_law_is_move" s_law_is_move f fd) (b : Binds K fd [(PySem.Str.ofString "_law_found"), (PySem.Str.ofString "_law_due")] []) (hm : mg (PySem.Str.ofString "_law_is_move") = some (.ref f)) : Cal P w K mg base (PySem.Str.ofString "_law_is_move") 1 [.vw, .vw] v_law_is_move :=
  ⟨f, fd, [(PySem.Str.ofString "_law_found"), (PySem.Str.ofString "_law_due")], fn_data F sc_law_is_move rfl (d_law_is_move T ), hm, F.kp, b⟩
theorem sc_number_read : FnScope [(PySem.Str.ofString "text")] [(PySem.Str.ofString "text")] (defScope s_number_read) := ⟨rfl, rfl, rfl, by decide +kernel, rfl, by decide +kernel, by decide +kernel⟩
theorem d_number_read (T : Txt P w K mg base) (c_are_figures : Cal P w K mg base (PySem.Str.ofString "are_figures") 1 [.vw] v_are_figures) : DefOk P w K mg base [(PySem.Str.ofString "text")] "number_read" s_number_read 1 m_number_read := by
  delta m_number_read
  exact fun f cdv A outer s H E W hr tk hp =>
  (ss_cons (ss_if (st_val (se_callC c_are_figures (hr.mono (by decide)) (by rfl) tk (sa_cons (se_var (pv 0)) sa_nil))) (ss_one (ss_ret (se_callTy call_int_str cs_intS (by rfl) T.z_int (by decide +kernel) (sa_cons (se_var (pv 0)) sa_nil)))) ss_nil)
    (ss_cons (ss_if (st_w (sw_and (st_val (se_sw (se_var (pv 0)) se_str)) (sw_and (st_cmp (op_neD hr.units) os_ne (se_var (pv 0)) se_str (nomark _)) (sw_and1 (st_val (se_callC c_are_figures (hr.mono (by decide)) (by rfl) tk (sa_cons (se_sliceT (se_var (pv 0)) (so_some se_int) so_none) sa_nil))))))) (ss_one (ss_ret (se_callTy call_int_str cs_intS (by rfl) T.z_int (by decide +kernel) (sa_cons (se_var (pv 0)) sa_nil)))) ss_nil)
    (ss_one (ss_raiseO rfl tk T.x_NoText (by exact rfl)))))
theorem c_number_read (T : Txt P w K mg base) (c_are_figures : Cal P w K mg base (PySem.Str.ofString "are_figures") 1 [.vw] v_are_figures) {f : Addr} {fd : FuncData} (F : Fun K "number_read" "number_read" s_number_read f fd) (b : Binds K fd [(PySem.Str.ofString "text")] []) (hm : mg (PySem.Str.ofString "number_read") = some (.ref f)) : Cal P w K mg base (PySem.Str.ofString "number_read") 2 [.vw] v_number_read :=
  ⟨f, fd, [(PySem.Str.ofString "text")], fn_data F sc_number_read rfl (d_number_read T c_are_figures), hm, F.kp, b⟩
theorem sc_arrow_read : FnScope [(PySem.Str.ofString "word"), (PySem.Str.ofString "parts"), (PySem.Str.ofString "part")] [(PySem.Str.ofString "word")] (defScope s_arrow_read) := ⟨rfl, rfl, rfl, by decide +kernel, rfl, by decide +kernel, by decide +kernel⟩
theorem d_arrow_read (T : Txt P w K mg base) (c_are_figures : Cal P w K mg base (PySem.Str.ofString "are_figures") 1 [.vw] v_are_figures) : DefOk P w K mg base [(PySem.Str.ofString "word"), (PySem.Str.ofString "parts"), (PySem.Str.ofString "part")] "arrow_read" s_arrow_read 1 m_arrow_read := by
  delta m_arrow_read e_arrow_read_1
  exact fun f cdv A outer s H E W hr tk hp =>
  (ss_cons (ss_set (i := 1) sc_arrow_read.nd (by rfl) (.inl rfl) (se_fz (se_split (se_var (pv 0)) se_str)))
    (ss_cons (ss_if (st_w (sw_or (st_cmp (op_neD hr.units) os_ne (se_callB call_len cs_len (by rfl) T.z_len (by decide +kernel) (sa_cons (se_var (pv 1)) sa_nil)) se_int (nomark _)) (sw_or1 (st_not (st_val (se_callB (cr_all rfl) cs_bools (by rfl) T.z_all (by decide +kernel) (sa_cons (se_fz (se_lc rfl sc_arrow_read.nd (si_list (se_var (pv 1))) (blkOk_by (own := [((PySem.Str.ofString "part"), 2)]) (by show blkC [(PySem.Str.ofString "word"), (PySem.Str.ofString "parts"), (PySem.Str.ofString "part")] (defScope s_arrow_read) _ _ = true; decide +kernel)) (fun _ _ _ _ _ => (pg_name (i := 2) sc_arrow_read.nd (by rfl) (.inl rfl))) (fun _ _ _ _ _ => sts_nil) (fun _ _ _ _ _ => (se_callC c_are_figures (hr.mono (by decide)) (by rfl) takesN (sa_cons (se_var (pv 2)) sa_nil))) gs_name (by decide))) sa_nil))))))) (ss_one (ss_raiseO rfl tk T.x_NoText (by exact rfl))) ss_nil)
    (ss_one (ss_ret (se_tup (sa_cons (se_callTy call_int_str cs_intS (by rfl) T.z_int (by decide +kernel) (sa_cons (se_ix ix_seq os_ix (se_var (pv 1)) se_int (fun _ _ => rfl)) sa_nil)) (sa_cons (se_callTy call_int_str cs_intS (by rfl) T.z_int (by decide +kernel) (sa_cons (se_ix ix_seq os_ix (se_var (pv 1)) se_int (fun _ _ => rfl)) sa_nil)) (sa_cons (se_callTy call_int_str cs_intS (by rfl) T.z_int (by decide +kernel) (sa_cons (se_ix ix_seq os_ix (se_var (pv 1)) se_int (fun _ _ => rfl)) sa_nil)) sa_nil))))))))
theorem c_arrow_read (T : Txt P w K mg base) (c_are_figures : Cal P w K mg base (PySem.Str.ofString "are_figures") 1 [.vw] v_are_figures) {f : Addr} {fd : FuncData} (F : Fun K "arrow_read" "arrow_read" s_arrow_read f fd) (b : Binds K fd [(PySem.Str.ofString "word")] []) (hm : mg (PySem.Str.ofString "arrow_read") = some (.ref f)) : Cal P w K mg base (PySem.Str.ofString "arrow_read") 2 [.vw] v_arrow_read :=
  ⟨f, fd, [(PySem.Str.ofString "word")], fn_data F sc_arrow_read rfl (d_arrow_read T c_are_figures), hm, F.kp, b⟩
theorem sc_pieces_shown : FnScope [(PySem.Str.ofString "pieces"), (PySem.Str.ofString "piece"), (PySem.Str.ofString "arrow")] [(PySem.Str.ofString "pieces")] (defScope s_pieces_shown) := ⟨rfl, rfl, rfl, by decide +kernel, rfl, by decide +kernel, by decide +kernel⟩
theorem d_pieces_shown (T : Txt P w K mg base) (c_arrow_shown : Cal P w K mg base (PySem.Str.ofString "arrow_shown") 1 [.vw] v_arrow_shown) : DefOk P w K mg base [(PySem.Str.ofString "pieces"), (PySem.Str.ofString "piece"), (PySem.Str.ofString "arrow")] "pieces_shown" s_pieces_shown 1 m_pieces_shown := by
  delta m_pieces_shown e_pieces_shown_2 e_pieces_shown_1
  exact fun f cdv A outer s H E W hr tk hp =>
  (ss_one (ss_ret (se_join se_str (se_fz (se_lc rfl sc_pieces_shown.nd (si_list (se_var (pv 0))) (blkOk_by (own := [((PySem.Str.ofString "piece"), 1)]) (by show blkC [(PySem.Str.ofString "pieces"), (PySem.Str.ofString "piece"), (PySem.Str.ofString "arrow")] (defScope s_pieces_shown) _ _ = true; decide +kernel)) (fun _ _ _ _ _ => (pg_name (i := 1) sc_pieces_shown.nd (by rfl) (.inl rfl))) (fun _ _ _ _ _ => sts_nil) (fun _ _ _ _ _ => (se_op op_plus os_plus se_str (se_join se_str (se_fz (se_lc rfl sc_pieces_shown.nd (si_list (se_var (pv 1))) (blkOk_by (own := [((PySem.Str.ofString "arrow"), 2)]) (by show blkC [(PySem.Str.ofString "pieces"), (PySem.Str.ofString "piece"), (PySem.Str.ofString "arrow")] (relS _ (defScope s_pieces_shown)) _ _ = true; decide +kernel)) (fun _ _ _ _ _ => (pg_name (i := 2) sc_pieces_shown.nd (by rfl) (.inl rfl))) (fun _ _ _ _ _ => sts_nil) (fun _ _ _ _ _ => (se_callC c_arrow_shown (hr.mono (by decide)) (by rfl) takesN (sa_cons (se_var (pv 2)) sa_nil))) gs_name (by decide)))))) gs_name (by decide))))))
theorem c_pieces_shown (T : Txt P w K mg base) (c_arrow_shown : Cal P w K mg base (PySem.Str.ofString "arrow_shown") 1 [.vw] v_arrow_shown) {f : Addr} {fd : FuncData} (F : Fun K "pieces_shown" "pieces_shown" s_pieces_shown f fd) (b : Binds K fd [(PySem.Str.ofString "pieces")] []) (hm : mg (PySem.Str.ofString "pieces_shown") = some (.ref f)) : Cal P w K mg base (PySem.Str.ofString "pieces_shown") 2 [.vw] v_pieces_shown :=
  ⟨f, fd, [(PySem.Str.ofString "pieces")], fn_data F sc_pieces_shown rfl (d_pieces_shown T c_arrow_shown), hm, F.kp, b⟩
theorem sc_law_big : FnScope [(PySem.Str.ofString "_law_script"), (PySem.Str.ofString "_law_at"), (PySem.Str.ofString "_law_cell"), (PySem.Str.ofString "_law_primes"), (PySem.Str.ofString "_law_big_here"), (PySem.Str.ofString "_law_k"), (PySem.Str.ofString "_law_one")] [(PySem.Str.ofString "_law_script"), (PySem.Str.ofString "_law_at")] (defScope s_law_big) := ⟨rfl, rfl, rfl, by decide +kernel, rfl, by decide +kernel, by decide +kernel⟩
theorem d_law_big (T : Txt P w K mg base) (c_law_cell_at : Cal P w K mg base (PySem.Str.ofString "_law_cell_at") 1 [.sc, .vw] v_law_cell_at) : DefOk P w K mg base [(PySem.Str.ofString "_law_script"), (PySem.Str.ofString "_law_at"), (PySem.Str.ofString "_law_cell"), (PySem.Str.ofString "_law_primes"), (PySem.Str.ofString "_law_big_here"), (PySem.Str.ofString "_law_k"), (PySem.Str.ofString "_law_one")] "_law_big" s_law_big 1 m_law_big := by
  delta m_law_big l_law_big_1
  exact fun f cdv A outer s H E W hr tk hp =>
  (ss_cons (ss_set (i := 2) sc_law_big.nd (by rfl) (.inl rfl) (se_callC c_law_cell_at (hr.mono (by decide)) (by rfl) tk (sa_cons (se_var (pv 0)) (sa_cons (se_var (pv 1)) sa_nil))))
    (ss_cons (ss_if (st_cmp op_ge os_B0 (se_var (pv 2)) (se_op op_pow os_pow se_int se_int) (nomark _)) (ss_one (ss_ret (se_var (pv 2)))) ss_nil)
    (ss_cons (ss_set (i := 3) sc_law_big.nd (by rfl) (.inl rfl) (se_tup (sa_cons se_int (sa_cons se_int (sa_cons se_int (sa_cons se_int (sa_cons se_int (sa_cons se_int (sa_cons se_int (sa_cons se_int (sa_cons se_int sa_nil)))))))))))
    (ss_cons (ss_set (i := 4) sc_law_big.nd (by rfl) (.inl rfl) se_int)
    (ss_cons (ss_for hp rfl (si_rng (by rfl) T.z_range (sa_cons se_int sa_nil)) (pg_name (i := 5) sc_law_big.nd (by rfl) (.inl rfl)) gs_name (ss_cons (ss_set (i := 6) sc_law_big.nd (by rfl) (.inl rfl) (se_op op_plus os_plus (se_op op_plus os_plus (se_op op_mod os_mod (se_callC c_law_cell_at (hr.mono (by decide)) (by rfl) tk (sa_cons (se_var (pv 0)) (sa_cons (se_op op_plus os_plus (se_var (pv 1)) (se_op op_mod os_mod (se_var (pv 5)) se_int)) sa_nil))) (se_op op_pow os_pow se_int se_int)) (se_op op_mulX os_mul se_int (se_var (pv 5)))) se_int))
    (ss_one (ss_set (i := 4) sc_law_big.nd (by rfl) (.inl rfl) (se_op op_plus os_plus (se_op op_mulX os_mul (se_var (pv 4)) se_int) (se_op op_mod os_mod (se_op op_mulX os_mul (se_op op_mod os_mod (se_op op_plus os_plus (se_op op_mulX os_mul (se_var (pv 6)) (se_var (pv 6))) (se_op op_mulX os_mul se_int (se_var (pv 5)))) (se_ix ix_seq os_ix (se_var (pv 3)) (se_op op_mod os_mod (se_var (pv 5)) se_int) (fun _ _ => rfl))) (se_op op_plus os_plus (se_var (pv 5)) se_int)) se_int))))))
    (ss_one (ss_ret (se_var (pv 4)))))))))
theorem c_law_big (T : Txt P w K mg base) (c_law_cell_at : Cal P w K mg base (PySem.Str.ofString "_law_cell_at") 1 [.sc, .vw] v_law_cell_at) {f : Addr} {fd : FuncData} (F : Fun K "_law_big" "_law_big" s_law_big f fd) (b : Binds K fd [(PySem.Str.ofString "_law_script"), (PySem.Str.ofString "_law_at")] []) (hm : mg (PySem.Str.ofString "_law_big") = some (.ref f)) : Cal P w K mg base (PySem.Str.ofString "_law_big") 2 [.sc, .vw] v_law_big :=
  ⟨f, fd, [(PySem.Str.ofString "_law_script"), (PySem.Str.ofString "_law_at")], fn_data F sc_law_big rfl (d_law_big T c_law_cell_at), hm, F.kp, b⟩
theorem sc_law_pieces : FnScope [(PySem.Str.ofString "_law_big_here"), (PySem.Str.ofString "_law_pieces_here"), (PySem.Str.ofString "_law_most"), (PySem.Str.ofString "_law_many"), (PySem.Str.ofString "_law_k"), (PySem.Str.ofString "_law_piece"), (PySem.Str.ofString "_law_size"), (PySem.Str.ofString "_law_j"), (PySem.Str.ofString "_law_arrow")] [(PySem.Str.ofString "_law_big_here")] (defScope s_law_pieces) := ⟨rfl, rfl, rfl, by decide +kernel, rfl, by decide +kernel, by decide +kernel⟩
theorem d_law_pieces (T : Txt P w K mg base) (c_law_places : Cal P w K mg base (PySem.Str.ofString "_law_places") 1 [.vw, .vw, .vw] v_law_places) : DefOk P w K mg base [(PySem.Str.ofString "_law_big_here"), (PySem.Str.ofString "_law_pieces_here"), (PySem.Str.ofString "_law_most"), (PySem.Str.ofString "_law_many"), (PySem.Str.ofString "_law_k"), (PySem.Str.ofString "_law_piece"), (PySem.Str.ofString "_law_size"), (PySem.Str.ofString "_law_j"), (PySem.Str.ofString "_law_arrow")] "_law_pieces" s_law_pieces 1 m_law_pieces := by
  delta m_law_pieces l_law_pieces_2 l_law_pieces_1
  exact fun f cdv A outer s H E W hr tk hp =>
  (ss_cons (ss_set (i := 1) sc_law_pieces.nd (by rfl) (.inl rfl) (se_lst sa_nil))
    (ss_cons (ss_set (i := 2) sc_law_pieces.nd (by rfl) (.inl rfl) (se_ix ix_seq os_ix (se_tup (sa_cons se_int (sa_cons se_int (sa_cons (se_op op_pow os_pow se_int se_int) sa_nil)))) (se_op op_mod os_mod (se_var (pv 0)) se_int) (fun _ _ => rfl)))
    (ss_cons (ss_set (i := 3) sc_law_pieces.nd (by rfl) (.inl rfl) (se_op op_plus os_plus se_int (se_op op_mod os_mod (se_op op_fdivW os_div (se_var (pv 0)) se_int) se_int)))
    (ss_cons (ss_set (i := 0) sc_law_pieces.nd (by rfl) (.inl rfl) (se_op op_fdivW os_div (se_var (pv 0)) se_int))
    (ss_cons (ss_for hp rfl (si_rng (by rfl) T.z_range (sa_cons (se_var (pv 3)) sa_nil)) (pg_name (i := 4) sc_law_pieces.nd (by rfl) (.inl rfl)) gs_name (ss_cons (ss_set (i := 5) sc_law_pieces.nd (by rfl) (.inl rfl) (se_lst sa_nil))
    (ss_cons (ss_set (i := 6) sc_law_pieces.nd (by rfl) (.inl rfl) (se_op op_plus os_plus se_int (se_op op_mod os_mod (se_var (pv 0)) se_int)))
    (ss_cons (ss_set (i := 0) sc_law_pieces.nd (by rfl) (.inl rfl) (se_op op_fdivW os_div (se_var (pv 0)) se_int))
    (ss_cons (ss_for hp rfl (si_rng (by rfl) T.z_range (sa_cons (se_var (pv 6)) sa_nil)) (pg_name (i := 7) sc_law_pieces.nd (by rfl) (.inl rfl)) gs_name (ss_cons (ss_setT (is := [8, 0]) (se_callC c_law_places (hr.mono (by decide)) (by rfl) tk (sa_cons (se_var (pv 0)) (sa_cons se_int (sa_cons (se_var (pv 2)) sa_nil)))) (pg_tup (n := ([8, 0] : List Nat).length) (t := gNms [8, 0]) rfl (pgs_cons (pg_name (i := 8) sc_law_pieces.nd (by rfl) (.inl rfl)) (pgs_cons (pg_name (i := 0) sc_law_pieces.nd (by rfl) (.inl rfl)) pgs_nil))))
    (ss_one (ss_expr (se_bm ms_append PySem.F.plainAttrs_list PySem.F.slot_list_append PySem.F.type_list_append mt_append (se_var (pv 5)) (sa_cons (se_fz (se_callTy call_tuple_of cs_tuple (by rfl) T.z_tuple (by decide +kernel) (sa_cons (se_var (pv 8)) sa_nil))) sa_nil))))))
    (ss_one (ss_expr (se_bm ms_append PySem.F.plainAttrs_list PySem.F.slot_list_append PySem.F.type_list_append mt_append (se_var (pv 1)) (sa_cons (se_fz (se_var (pv 5))) sa_nil)))))))))
    (ss_one (ss_ret (se_fz (se_var (pv 1))))))))))
theorem c_law_pieces (T : Txt P w K mg base) (c_law_places : Cal P w K mg base (PySem.Str.ofString "_law_places") 1 [.vw, .vw, .vw] v_law_places) {f : Addr} {fd : FuncData} (F : Fun K "_law_pieces" "_law_pieces" s_law_pieces f fd) (b : Binds K fd [(PySem.Str.ofString "_law_big_here")] []) (hm : mg (PySem.Str.ofString "_law_pieces") = some (.ref f)) : Cal P w K mg base (PySem.Str.ofString "_law_pieces") 2 [.vw] v_law_pieces :=
  ⟨f, fd, [(PySem.Str.ofString "_law_big_here")], fn_data F sc_law_pieces rfl (d_law_pieces T c_law_places), hm, F.kp, b⟩
theorem sc_law_some : FnScope [(PySem.Str.ofString "_law_big_here"), (PySem.Str.ofString "_law_found"), (PySem.Str.ofString "_law_many"), (PySem.Str.ofString "_law_k"), (PySem.Str.ofString "_law_one")] [(PySem.Str.ofString "_law_big_here")] (defScope s_law_some) := ⟨rfl, rfl, rfl, by decide +kernel, rfl, by decide +kernel, by decide +kernel⟩
theorem d_law_some (T : Txt P w K mg base) (c_law_number : Cal P w K mg base (PySem.Str.ofString "_law_number") 1 [.vw] v_law_number) : DefOk P w K mg base [(PySem.Str.ofString "_law_big_here"), (PySem.Str.ofString "_law_found"), (PySem.Str.ofString "_law_many"), (PySem.Str.ofString "_law_k"), (PySem.Str.ofString "_law_one")] "_law_some" s_law_some 1 m_law_some := by
  delta m_law_some l_law_some_1
  exact fun f cdv A outer s H E W hr tk hp =>
  (ss_cons (ss_set (i := 1) sc_law_some.nd (by rfl) (.inl rfl) (se_lst sa_nil))
    (ss_cons (ss_set (i := 2) sc_law_some.nd (by rfl) (.inl rfl) (se_op op_plus os_plus se_int (se_op op_mod os_mod (se_var (pv 0)) se_int)))
    (ss_cons (ss_set (i := 0) sc_law_some.nd (by rfl) (.inl rfl) (se_op op_fdivW os_div (se_var (pv 0)) se_int))
    (ss_cons (ss_for hp rfl (si_rng (by rfl) T.z_range (sa_cons (se_var (pv 2)) sa_nil)) (pg_name (i := 3) sc_law_some.nd (by rfl) (.inl rfl)) gs_name (ss_cons (ss_setT (is := [4, 0]) (se_callC c_law_number (hr.mono (by decide)) (by rfl) tk (sa_cons (se_var (pv 0)) sa_nil)) (pg_tup (n := ([4, 0] : List Nat).length) (t := gNms [4, 0]) rfl (pgs_cons (pg_name (i := 4) sc_law_some.nd (by rfl) (.inl rfl)) (pgs_cons (pg_name (i := 0) sc_law_some.nd (by rfl) (.inl rfl)) pgs_nil))))
    (ss_one (ss_expr (se_bm ms_append PySem.F.plainAttrs_list PySem.F.slot_list_append PySem.F.type_list_append mt_append (se_var (pv 1)) (sa_cons (se_fz (se_var (pv 4))) sa_nil))))))
    (ss_one (ss_ret (se_tup (sa_cons (se_fz (se_var (pv 1))) (sa_cons (se_var (pv 0)) sa_nil)))))))))
theorem c_law_some (T : Txt P w K mg base) (c_law_number : Cal P w K mg base (PySem.Str.ofString "_law_number") 1 [.vw] v_law_number) {f : Addr} {fd : FuncData} (F : Fun K "_law_some" "_law_some" s_law_some f fd) (b : Binds K fd [(PySem.Str.ofString "_law_big_here")] []) (hm : mg (PySem.Str.ofString "_law_some") = some (.ref f)) : Cal P w K mg base (PySem.Str.ofString "_law_some") 2 [.vw] v_law_some :=
  ⟨f, fd, [(PySem.Str.ofString "_law_big_here")], fn_data F sc_law_some rfl (d_law_some T c_law_number), hm, F.kp, b⟩
theorem sc_law_move_text : FnScope [(PySem.Str.ofString "_law_move_here"), (PySem.Str.ofString "_law_words"), (PySem.Str.ofString "_law_word"), (PySem.Str.ofString "_law_text"), (PySem.Str.ofString "_law_piece")] [(PySem.Str.ofString "_law_move_here")] (defScope s_law_move_text) := ⟨rfl, rfl, rfl, by decide +kernel, rfl, by decide +kernel, by decide +kernel⟩
theorem d_law_move_text (T : Txt P w K mg base) (c_law_spelled : Cal P w K mg base (PySem.Str.ofString "_law_spelled") 1 [.vw] v_law_spelled) (c_law_piece_text : Cal P w K mg base (PySem.Str.ofString "_law_piece_text") 1 [.vw] v_law_piece_text) : DefOk P w K mg base [(PySem.Str.ofString "_law_move_here"), (PySem.Str.ofString "_law_words"), (PySem.Str.ofString "_law_word"), (PySem.Str.ofString "_law_text"), (PySem.Str.ofString "_law_piece")] "_law_move_text" s_law_move_text 1 m_law_move_text := by
  delta m_law_move_text l_law_move_text_1
  exact fun f cdv A outer s H E W hr tk hp =>
  (ss_cons (ss_set (i := 1) sc_law_move_text.nd (by rfl) (.inl rfl) (se_dct2 se_str se_str se_str se_str))
    (ss_cons (ss_set (i := 2) sc_law_move_text.nd (by rfl) (.inl rfl) (se_ix ix_seq os_ix (se_var (pv 0)) se_int (fun _ _ => rfl)))
    (ss_cons (ss_if (st_cmp op_in_seq os_in (se_var (pv 2)) (se_tup (sa_cons se_str (sa_cons se_str sa_nil))) (by rfl)) (ss_cons (ss_set (i := 3) sc_law_move_text.nd (by rfl) (.inl rfl) (se_op op_plus os_plus (se_op op_plus os_plus (se_var (pv 2)) se_str) (se_callTy call_str_int cs_strI (by rfl) T.z_str (by decide +kernel) (sa_cons (se_ix ix_seq os_ix (se_var (pv 0)) se_int (fun _ _ => rfl)) sa_nil))))
    (ss_cons (ss_for hp rfl (si_list (se_ix ix_seq os_ix (se_var (pv 0)) se_int (fun _ _ => rfl))) (pg_name (i := 4) sc_law_move_text.nd (by rfl) (.inl rfl)) gs_name (ss_one (ss_set (i := 3) sc_law_move_text.nd (by rfl) (.inl rfl) (se_op op_plus os_plus (se_op op_plus os_plus (se_var (pv 3)) se_str) (se_callC c_law_piece_text (hr.mono (by decide)) (by rfl) tk (sa_cons (se_var (pv 4)) sa_nil))))))
    (ss_one (ss_ret (se_var (pv 3)))))) ss_nil)
    (ss_cons (ss_if (st_cmp (op_eqD hr.units) os_eq (se_var (pv 2)) se_str (nomark _)) (ss_cons (ss_set (i := 3) sc_law_move_text.nd (by rfl) (.inl rfl) (se_op op_plus os_plus (se_op op_plus os_plus (se_op op_plus os_plus se_str (se_callTy call_str_int cs_strI (by rfl) T.z_str (by decide +kernel) (sa_cons (se_ix ix_seq os_ix (se_var (pv 0)) se_int (fun _ _ => rfl)) sa_nil))) se_str) (se_callC c_law_spelled (hr.mono (by decide)) (by rfl) tk (sa_cons (se_ix ix_seq os_ix (se_var (pv 0)) se_int (fun _ _ => rfl)) sa_nil))))
    (ss_one (ss_ret (se_op op_plus os_plus (se_op op_plus os_plus (se_var (pv 3)) se_str) (se_callC c_law_spelled (hr.mono (by decide)) (by rfl) tk (sa_cons (se_ix ix_seq os_ix (se_var (pv 0)) se_int (fun _ _ => rfl)) sa_nil)))))) ss_nil)
    (ss_one (ss_ret (se_op op_plus os_plus (se_op op_plus os_plus (se_dg2 (Nat.lt_of_le_of_lt (Nat.add_le_add_left (show 1 ≤ 64 by decide) _) hr.units) (se_var (pv 1)) (se_var (pv 2)) (se_var (pv 2)) ⟨by rfl, by rfl, by rfl, by rfl⟩) se_str) (se_callC c_law_spelled (hr.mono (by decide)) (by rfl) tk (sa_cons (se_slU (se_var (pv 0)) (so_some se_int) so_none) sa_nil)))))))))
theorem c_law_move_text (T : Txt P w K mg base) (c_law_spelled : Cal P w K mg base (PySem.Str.ofString "_law_spelled") 1 [.vw] v_law_spelled) (c_law_piece_text : Cal P w K mg base (PySem.Str.ofString "_law_piece_text") 1 [.vw] v_law_piece_text) {f : Addr} {fd : FuncData} (F : Fun K "_law_move_text" "_law_move_text" s_law_move_text f fd) (b : Binds K fd [(PySem.Str.ofString "_law_move_here")] []) (hm : mg (PySem.Str.ofString "_law_move_text") = some (.ref f)) : Cal P w K mg base (PySem.Str.ofString "_law_move_text") 2 [.vw] v_law_move_text :=
  ⟨f, fd, [(PySem.Str.ofString "_law_move_here")], fn_data F sc_law_move_text rfl (d_law_move_text T c_law_spelled c_law_piece_text), hm, F.kp, b⟩
theorem sc_numbers_read : FnScope [(PySem.Str.ofString "words"), (PySem.Str.ofString "word")] [(PySem.Str.ofString "words")] (defScope s_numbers_read) := ⟨rfl, rfl, rfl, by decide +kernel, rfl, by decide +kernel, by decide +kernel⟩
theorem d_numbers_read (T : Txt P w K mg base) (c_number_read : Cal P w K mg base (PySem.Str.ofString "number_read") 2 [.vw] v_number_read) : DefOk P w K mg base [(PySem.Str.ofString "words"), (PySem.Str.ofString "word")] "numbers_read" s_numbers_read 2 m_numbers_read := by
  delta m_numbers_read e_numbers_read_1
  exact fun f cdv A outer s H E W hr tk hp =>
  (ss_cons (ss_if (st_cmp (op_eqD hr.units) os_eq (se_var (pv 0)) (se_fz (se_lst sa_nil)) (nomark _)) (ss_one (ss_raiseO rfl tk T.x_NoText (by exact rfl))) ss_nil)
    (ss_one (ss_ret (se_lc rfl sc_numbers_read.nd (si_list (se_var (pv 0))) (blkOk_by (own := [((PySem.Str.ofString "word"), 1)]) (by show blkC [(PySem.Str.ofString "words"), (PySem.Str.ofString "word")] (defScope s_numbers_read) _ _ = true; decide +kernel)) (fun _ _ _ _ _ => (pg_name (i := 1) sc_numbers_read.nd (by rfl) (.inl rfl))) (fun _ _ _ _ _ => sts_nil) (fun _ _ _ _ _ => (se_callC c_number_read (hr.mono (by decide)) (by rfl) takesN (sa_cons (se_var (pv 1)) sa_nil))) gs_name (by decide)))))
theorem c_numbers_read (T : Txt P w K mg base) (c_number_read : Cal P w K mg base (PySem.Str.ofString "number_read") 2 [.vw] v_number_read) {f : Addr} {fd : FuncData} (F : Fun K "numbers_read" "numbers_read" s_numbers_read f fd) (b : Binds K fd [(PySem.Str.ofString "words")] []) (hm : mg (PySem.Str.ofString "numbers_read") = some (.ref f)) : Cal P w K mg base (PySem.Str.ofString "numbers_read") 3 [.vw] v_numbers_read :=
  ⟨f, fd, [(PySem.Str.ofString "words")], fn_data F sc_numbers_read rfl (d_numbers_read T c_number_read), hm, F.kp, b⟩
theorem sc_move_shown : FnScope [(PySem.Str.ofString "move"), (PySem.Str.ofString "word")] [(PySem.Str.ofString "move")] (defScope s_move_shown) := ⟨rfl, rfl, rfl, by decide +kernel, rfl, by decide +kernel, by decide +kernel⟩
theorem d_move_shown (T : Txt P w K mg base) (c_numbers_shown : Cal P w K mg base (PySem.Str.ofString "numbers_shown") 1 [.vw] v_numbers_shown) (c_pieces_shown : Cal P w K mg base (PySem.Str.ofString "pieces_shown") 2 [.vw] v_pieces_shown) : DefOk P w K mg base [(PySem.Str.ofString "move"), (PySem.Str.ofString "word")] "move_shown" s_move_shown 2 m_move_shown := by
  delta m_move_shown
  exact fun f cdv A outer s H E W hr tk hp =>
  (ss_cons (ss_set (i := 1) sc_move_shown.nd (by rfl) (.inl rfl) (se_ix ix_seq os_ix (se_var (pv 0)) se_int (fun _ _ => rfl)))
    (ss_cons (ss_if (st_cmp op_in_seq os_in (se_var (pv 1)) (se_gtup (zs := [(PySem.Str.ofString "out"), (PySem.Str.ofString "in")]) (by rfl) T.k_SPLITS) (by rfl)) (ss_one (ss_ret (se_js (.cons (se_fmt (se_var (pv 1))) (.cons se_str (.cons (se_fmt (se_ix ix_seq os_ix (se_var (pv 0)) se_int (fun _ _ => rfl))) (.cons se_str (.cons (se_fmt (se_callC c_pieces_shown (hr.mono (by decide)) (by rfl) tk (sa_cons (se_ix ix_seq os_ix (se_var (pv 0)) se_int (fun _ _ => rfl)) sa_nil))) .nil)))))))) ss_nil)
    (ss_cons (ss_if (st_cmp (op_eqD hr.units) os_eq (se_var (pv 1)) se_str (nomark _)) (ss_one (ss_ret (se_js (.cons se_str (.cons (se_fmt (se_ix ix_seq os_ix (se_var (pv 0)) se_int (fun _ _ => rfl))) (.cons se_str (.cons (se_fmt (se_callC c_numbers_shown (hr.mono (by decide)) (by rfl) tk (sa_cons (se_ix ix_seq os_ix (se_var (pv 0)) se_int (fun _ _ => rfl)) sa_nil))) (.cons se_str (.cons (se_fmt (se_callC c_numbers_shown (hr.mono (by decide)) (by rfl) tk (sa_cons (se_ix ix_seq os_ix (se_var (pv 0)) se_int (fun _ _ => rfl)) sa_nil))) .nil))))))))) ss_nil)
    (ss_one (ss_ret (se_op op_plus os_plus (se_op op_plus os_plus (se_kget (tbl := tb_JOINS) (by rfl) T.k_JOINS (se_var (pv 1)) (se_var (pv 1)) ⟨by rfl, by rfl, by rfl, by rfl⟩) se_str) (se_callC c_numbers_shown (hr.mono (by decide)) (by rfl) tk (sa_cons (se_slU (se_var (pv 0)) (so_some se_int) so_none) sa_nil))))))))
theorem c_move_shown (T : Txt P w K mg base) (c_numbers_shown : Cal P w K mg base (PySem.Str.ofString "numbers_shown") 1 [.vw] v_numbers_shown) (c_pieces_shown : Cal P w K mg base (PySem.Str.ofString "pieces_shown") 2 [.vw] v_pieces_shown) {f : Addr} {fd : FuncData} (F : Fun K "move_shown" "move_shown" s_move_shown f fd) (b : Binds K fd [(PySem.Str.ofString "move")] []) (hm : mg (PySem.Str.ofString "move_shown") = some (.ref f)) : Cal P w K mg base (PySem.Str.ofString "move_shown") 3 [.vw] v_move_shown :=
  ⟨f, fd, [(PySem.Str.ofString "move")], fn_data F sc_move_shown rfl (d_move_shown T c_numbers_shown c_pieces_shown), hm, F.kp, b⟩
theorem sc_split_read : FnScope [(PySem.Str.ofString "words"), (PySem.Str.ofString "place"), (PySem.Str.ofString "pieces"), (PySem.Str.ofString "part"), (PySem.Str.ofString "word")] [(PySem.Str.ofString "words")] (defScope s_split_read) := ⟨rfl, rfl, rfl, by decide +kernel, rfl, by decide +kernel, by decide +kernel⟩
theorem d_split_read (T : Txt P w K mg base) (c_number_read : Cal P w K mg base (PySem.Str.ofString "number_read") 2 [.vw] v_number_read) (c_arrow_read : Cal P w K mg base (PySem.Str.ofString "arrow_read") 2 [.vw] v_arrow_read) (c_parted : Cal P w K mg base (PySem.Str.ofString "parted") 1 [.vw] v_parted) : DefOk P w K mg base [(PySem.Str.ofString "words"), (PySem.Str.ofString "place"), (PySem.Str.ofString "pieces"), (PySem.Str.ofString "part"), (PySem.Str.ofString "word")] "split_read" s_split_read 2 m_split_read := by
  delta m_split_read e_split_read_2 e_split_read_1
  exact fun f cdv A outer s H E W hr tk hp =>
  (ss_cons (ss_set (i := 1) sc_split_read.nd (by rfl) (.inl rfl) (se_callC c_number_read (hr.mono (by decide)) (by rfl) tk (sa_cons (se_ix ix_seq os_ix (se_var (pv 0)) se_int (fun _ _ => rfl)) sa_nil)))
    (ss_cons (ss_setLc (i := 2) (fun _ _ _ q => q) rfl sc_split_read.nd (by rfl) (by rfl) (sw_true rfl rfl rfl (by decide +kernel)) (si_list (se_callC c_parted (hr.mono (by decide)) (by rfl) tk (sa_cons (se_fz (se_slice (se_var (pv 0)) (so_some se_int) so_none)) sa_nil))) (blkOk_by (own := [((PySem.Str.ofString "part"), 3)]) (by show blkC [(PySem.Str.ofString "words"), (PySem.Str.ofString "place"), (PySem.Str.ofString "pieces"), (PySem.Str.ofString "part"), (PySem.Str.ofString "word")] (defScope s_split_read) _ _ = true; decide +kernel)) (fun _ _ _ _ _ => (pg_name (i := 3) sc_split_read.nd (by rfl) (.inl rfl))) (fun _ _ _ _ _ => sts_nil) (fun _ _ _ _ _ => (se_fz (se_lc rfl sc_split_read.nd (si_list (se_var (pv 3))) (blkOk_by (own := [((PySem.Str.ofString "word"), 4)]) (by show blkC [(PySem.Str.ofString "words"), (PySem.Str.ofString "place"), (PySem.Str.ofString "pieces"), (PySem.Str.ofString "part"), (PySem.Str.ofString "word")] (relS _ (defScope s_split_read)) _ _ = true; decide +kernel)) (fun _ _ _ _ _ => (pg_name (i := 4) sc_split_read.nd (by rfl) (.inl rfl))) (fun _ _ _ _ _ => sts_nil) (fun _ _ _ _ _ => (se_callC c_arrow_read (hr.mono (by decide)) (by rfl) takesN (sa_cons (se_var (pv 4)) sa_nil))) gs_name (by decide)))) gs_name (by decide))
    (ss_cons (ss_if (st_cmp op_lt os_B0 (se_callB call_len cs_len (by rfl) T.z_len (by decide +kernel) (sa_cons (se_var (pv 2)) sa_nil)) se_int (nomark _)) (ss_one (ss_raiseO rfl tk T.x_NoText (by exact rfl))) ss_nil)
    (ss_one (ss_ret (se_tupO (sa_cons (se_ix ix_seq os_ix (se_var (pv 0)) se_int (fun _ _ => rfl)) (sa_cons (se_var (pv 1)) (sa_cons (se_var (pv 2)) sa_nil)))))))))
theorem c_split_read (T : Txt P w K mg base) (c_number_read : Cal P w K mg base (PySem.Str.ofString "number_read") 2 [.vw] v_number_read) (c_arrow_read : Cal P w K mg base (PySem.Str.ofString "arrow_read") 2 [.vw] v_arrow_read) (c_parted : Cal P w K mg base (PySem.Str.ofString "parted") 1 [.vw] v_parted) {f : Addr} {fd : FuncData} (F : Fun K "split_read" "split_read" s_split_read f fd) (b : Binds K fd [(PySem.Str.ofString "words")] []) (hm : mg (PySem.Str.ofString "split_read") = some (.ref f)) : Cal P w K mg base (PySem.Str.ofString "split_read") 3 [.vw] v_split_read :=
  ⟨f, fd, [(PySem.Str.ofString "words")], fn_data F sc_split_read rfl (d_split_read T c_number_read c_arrow_read c_parted), hm, F.kp, b⟩
theorem sc_law_move : FnScope [(PySem.Str.ofString "_law_script"), (PySem.Str.ofString "_law_at"), (PySem.Str.ofString "_law_big_here"), (PySem.Str.ofString "_law_word"), (PySem.Str.ofString "_law_one"), (PySem.Str.ofString "_law_other"), (PySem.Str.ofString "_law_third"), (PySem.Str.ofString "_law_ins"), (PySem.Str.ofString "_law_rest"), (PySem.Str.ofString "_law_outs")] [(PySem.Str.ofString "_law_script"), (PySem.Str.ofString "_law_at")] (defScope s_law_move) := ⟨rfl, rfl, rfl, by decide +kernel, rfl, by decide +kernel, by decide +kernel⟩
theorem d_law_move (T : Txt P w K mg base) (c_law_big : Cal P w K mg base (PySem.Str.ofString "_law_big") 2 [.sc, .vw] v_law_big) (c_law_number : Cal P w K mg base (PySem.Str.ofString "_law_number") 1 [.vw] v_law_number) (c_law_some : Cal P w K mg base (PySem.Str.ofString "_law_some") 2 [.vw] v_law_some) (c_law_pieces : Cal P w K mg base (PySem.Str.ofString "_law_pieces") 2 [.vw] v_law_pieces) : DefOk P w K mg base [(PySem.Str.ofString "_law_script"), (PySem.Str.ofString "_law_at"), (PySem.Str.ofString "_law_big_here"), (PySem.Str.ofString "_law_word"), (PySem.Str.ofString "_law_one"), (PySem.Str.ofString "_law_other"), (PySem.Str.ofString "_law_third"), (PySem.Str.ofString "_law_ins"), (PySem.Str.ofString "_law_rest"), (PySem.Str.ofString "_law_outs")] "_law_move" s_law_move 2 m_law_move := by
  delta m_law_move
  exact fun f cdv A outer s H E W hr tk hp =>
  (ss_cons (ss_set (i := 2) sc_law_move.nd (by rfl) (.inl rfl) (se_callC c_law_big (hr.mono (by decide)) (by rfl) tk (sa_cons (se_var (pv 0)) (sa_cons (se_var (pv 1)) sa_nil))))
    (ss_cons (ss_set (i := 3) sc_law_move.nd (by rfl) (.inl rfl) (se_ix ix_seq os_ix (se_tup (sa_cons se_str (sa_cons se_str (sa_cons se_str (sa_cons se_str (sa_cons se_str (sa_cons se_str (sa_cons se_str (sa_cons se_str (sa_cons se_str sa_nil)))))))))) (se_op op_mod os_mod (se_var (pv 2)) se_int) (fun _ _ => rfl)))
    (ss_cons (ss_setT (is := [4, 2]) (se_callC c_law_number (hr.mono (by decide)) (by rfl) tk (sa_cons (se_op op_fdivW os_div (se_var (pv 2)) se_int) sa_nil)) (pg_tup (n := ([4, 2] : List Nat).length) (t := gNms [4, 2]) rfl (pgs_cons (pg_name (i := 4) sc_law_move.nd (by rfl) (.inl rfl)) (pgs_cons (pg_name (i := 2) sc_law_move.nd (by rfl) (.inl rfl)) pgs_nil))))
    (ss_cons (ss_setT (is := [5, 2]) (se_callC c_law_number (hr.mono (by decide)) (by rfl) tk (sa_cons (se_var (pv 2)) sa_nil)) (pg_tup (n := ([5, 2] : List Nat).length) (t := gNms [5, 2]) rfl (pgs_cons (pg_name (i := 5) sc_law_move.nd (by rfl) (.inl rfl)) (pgs_cons (pg_name (i := 2) sc_law_move.nd (by rfl) (.inl rfl)) pgs_nil))))
    (ss_cons (ss_setT (is := [6, 2]) (se_callC c_law_number (hr.mono (by decide)) (by rfl) tk (sa_cons (se_var (pv 2)) sa_nil)) (pg_tup (n := ([6, 2] : List Nat).length) (t := gNms [6, 2]) rfl (pgs_cons (pg_name (i := 6) sc_law_move.nd (by rfl) (.inl rfl)) (pgs_cons (pg_name (i := 2) sc_law_move.nd (by rfl) (.inl rfl)) pgs_nil))))
    (ss_cons (ss_if (st_cmp op_in_seq os_in (se_var (pv 3)) (se_tup (sa_cons se_str (sa_cons se_str sa_nil))) (by rfl)) (ss_one (ss_ret (se_tup (sa_cons (se_var (pv 3)) (sa_cons (se_var (pv 4)) (sa_cons (se_callC c_law_pieces (hr.mono (by decide)) (by rfl) tk (sa_cons (se_callC c_law_big (hr.mono (by decide)) (by rfl) tk (sa_cons (se_var (pv 0)) (sa_cons (se_op op_plus os_plus (se_var (pv 1)) se_int) sa_nil))) sa_nil)) sa_nil)))))) ss_nil)
    (ss_cons (ss_if (st_cmp (op_eqD hr.units) os_eq (se_var (pv 3)) se_str (nomark _)) (ss_cons (ss_setT (is := [7, 8]) (se_callC c_law_some (hr.mono (by decide)) (by rfl) tk (sa_cons (se_callC c_law_big (hr.mono (by decide)) (by rfl) tk (sa_cons (se_var (pv 0)) (sa_cons (se_op op_plus os_plus (se_var (pv 1)) se_int) sa_nil))) sa_nil)) (pg_tup (n := ([7, 8] : List Nat).length) (t := gNms [7, 8]) rfl (pgs_cons (pg_name (i := 7) sc_law_move.nd (by rfl) (.inl rfl)) (pgs_cons (pg_name (i := 8) sc_law_move.nd (by rfl) (.inl rfl)) pgs_nil))))
    (ss_cons (ss_setT (is := [9, 8]) (se_callC c_law_some (hr.mono (by decide)) (by rfl) tk (sa_cons (se_var (pv 8)) sa_nil)) (pg_tup (n := ([9, 8] : List Nat).length) (t := gNms [9, 8]) rfl (pgs_cons (pg_name (i := 9) sc_law_move.nd (by rfl) (.inl rfl)) (pgs_cons (pg_name (i := 8) sc_law_move.nd (by rfl) (.inl rfl)) pgs_nil))))
    (ss_one (ss_ret (se_tup (sa_cons (se_var (pv 3)) (sa_cons (se_var (pv 4)) (sa_cons (se_var (pv 7)) (sa_cons (se_var (pv 9)) sa_nil))))))))) ss_nil)
    (ss_cons (ss_if (st_cmp (op_eqD hr.units) os_eq (se_var (pv 3)) se_str (nomark _)) (ss_one (ss_ret (se_tup (sa_cons (se_var (pv 3)) (sa_cons (se_var (pv 4)) sa_nil))))) ss_nil)
    (ss_cons (ss_if (st_cmp op_in_seq os_in (se_var (pv 3)) (se_tup (sa_cons se_str (sa_cons se_str sa_nil))) (by rfl)) (ss_one (ss_ret (se_tup (sa_cons (se_var (pv 3)) (sa_cons (se_var (pv 4)) (sa_cons (se_var (pv 5)) (sa_cons (se_var (pv 6)) sa_nil))))))) ss_nil)
    (ss_one (ss_ret (se_tup (sa_cons (se_var (pv 3)) (sa_cons (se_var (pv 4)) (sa_cons (se_var (pv 5)) sa_nil)))))))))))))))
theorem c_law_move (T : Txt P w K mg base) (c_law_big : Cal P w K mg base (PySem.Str.ofString "_law_big") 2 [.sc, .vw] v_law_big) (c_law_number : Cal P w K mg base (PySem.Str.ofString "_law_number") 1 [.vw] v_law_number) (c_law_some : Cal P w K mg base (PySem.Str.ofString "_law_some") 2 [.vw] v_law_some) (c_law_pieces : Cal P w K mg base (PySem.Str.ofString "_law_pieces") 2 [.vw] v_law_pieces) {f : Addr} {fd : FuncData} (F : Fun K "_law_move" "_law_move" s_law_move f fd) (b : Binds K fd [(PySem.Str.ofString "_law_script"), (PySem.Str.ofString "_law_at")] []) (hm : mg (PySem.Str.ofString "_law_move") = some (.ref f)) : Cal P w K mg base (PySem.Str.ofString "_law_move") 3 [.sc, .vw] v_law_move :=
  ⟨f, fd, [(PySem.Str.ofString "_law_script"), (PySem.Str.ofString "_law_at")], fn_data F sc_law_move rfl (d_law_move T c_law_big c_law_number c_law_some c_law_pieces), hm, F.kp, b⟩
theorem sc_lay_read : FnScope [(PySem.Str.ofString "words"), (PySem.Str.ofString "place"), (PySem.Str.ofString "parts")] [(PySem.Str.ofString "words")] (defScope s_lay_read) := ⟨rfl, rfl, rfl, by decide +kernel, rfl, by decide +kernel, by decide +kernel⟩
theorem d_lay_read (T : Txt P w K mg base) (c_number_read : Cal P w K mg base (PySem.Str.ofString "number_read") 2 [.vw] v_number_read) (c_parted : Cal P w K mg base (PySem.Str.ofString "parted") 1 [.vw] v_parted) (c_numbers_read : Cal P w K mg base (PySem.Str.ofString "numbers_read") 3 [.vw] v_numbers_read) : DefOk P w K mg base [(PySem.Str.ofString "words"), (PySem.Str.ofString "place"), (PySem.Str.ofString "parts")] "lay_read" s_lay_read 3 m_lay_read := by
  delta m_lay_read
  exact fun f cdv A outer s H E W hr tk hp =>
  (ss_cons (ss_set (i := 1) sc_lay_read.nd (by rfl) (.inl rfl) (se_callC c_number_read (hr.mono (by decide)) (by rfl) tk (sa_cons (se_ix ix_seq os_ix (se_var (pv 0)) se_int (fun _ _ => rfl)) sa_nil)))
    (ss_cons (ss_set (i := 2) sc_lay_read.nd (by rfl) (.inl rfl) (se_callC c_parted (hr.mono (by decide)) (by rfl) tk (sa_cons (se_fz (se_slice (se_var (pv 0)) (so_some se_int) so_none)) sa_nil)))
    (ss_cons (ss_if (st_cmp (op_neD hr.units) os_ne (se_callB call_len cs_len (by rfl) T.z_len (by decide +kernel) (sa_cons (se_var (pv 2)) sa_nil)) se_int (nomark _)) (ss_one (ss_raiseO rfl tk T.x_NoText (by exact rfl))) ss_nil)
    (ss_one (ss_ret (se_tupO (sa_cons se_str (sa_cons (se_var (pv 1)) (sa_cons (se_callC c_numbers_read (hr.mono (by decide)) (by rfl) tk (sa_cons (se_ix ix_seq os_ix (se_var (pv 2)) se_int (fun _ _ => rfl)) sa_nil)) (sa_cons (se_callC c_numbers_read (hr.mono (by decide)) (by rfl) tk (sa_cons (se_ix ix_seq os_ix (se_var (pv 2)) se_int (fun _ _ => rfl)) sa_nil)) sa_nil))))))))))
theorem c_lay_read (T : Txt P w K mg base) (c_number_read : Cal P w K mg base (PySem.Str.ofString "number_read") 2 [.vw] v_number_read) (c_parted : Cal P w K mg base (PySem.Str.ofString "parted") 1 [.vw] v_parted) (c_numbers_read : Cal P w K mg base (PySem.Str.ofString "numbers_read") 3 [.vw] v_numbers_read) {f : Addr} {fd : FuncData} (F : Fun K "lay_read" "lay_read" s_lay_read f fd) (b : Binds K fd [(PySem.Str.ofString "words")] []) (hm : mg (PySem.Str.ofString "lay_read") = some (.ref f)) : Cal P w K mg base (PySem.Str.ofString "lay_read") 4 [.vw] v_lay_read :=
  ⟨f, fd, [(PySem.Str.ofString "words")], fn_data F sc_lay_read rfl (d_lay_read T c_number_read c_parted c_numbers_read), hm, F.kp, b⟩
theorem sc_plain_read : FnScope [(PySem.Str.ofString "words"), (PySem.Str.ofString "numbers")] [(PySem.Str.ofString "words")] (defScope s_plain_read) := ⟨rfl, rfl, rfl, by decide +kernel, rfl, by decide +kernel, by decide +kernel⟩
theorem d_plain_read (T : Txt P w K mg base) (c_numbers_read : Cal P w K mg base (PySem.Str.ofString "numbers_read") 3 [.vw] v_numbers_read) : DefOk P w K mg base [(PySem.Str.ofString "words"), (PySem.Str.ofString "numbers")] "plain_read" s_plain_read 3 m_plain_read := by
  delta m_plain_read
  exact fun f cdv A outer s H E W hr tk hp =>
  (ss_cons (ss_set (i := 1) sc_plain_read.nd (by rfl) (.inl rfl) (se_callTy call_tuple_of cs_tuple (by rfl) T.z_tuple (by decide +kernel) (sa_cons (se_callC c_numbers_read (hr.mono (by decide)) (by rfl) tk (sa_cons (se_fz (se_slice (se_var (pv 0)) (so_some se_int) so_none)) sa_nil)) sa_nil)))
    (ss_cons (ss_if (st_w (sw_and (st_cmp (op_eqD hr.units) os_eq (se_ix ix_seq os_ix (se_var (pv 0)) se_int (fun _ _ => rfl)) se_str (nomark _)) (sw_and1 (st_cmp (op_eqD hr.units) os_eq (se_callB call_len cs_len (by rfl) T.z_len (by decide +kernel) (sa_cons (se_var (pv 1)) sa_nil)) se_int (nomark _))))) (ss_one (ss_ret (se_op op_catT os_catU (se_tup (sa_cons se_str sa_nil)) (se_var (pv 1))))) ss_nil)
    (ss_cons (ss_if (st_w (sw_and (st_cmp (op_eqD hr.units) os_eq (se_ix ix_seq os_ix (se_var (pv 0)) se_int (fun _ _ => rfl)) se_str (nomark _)) (sw_and1 (st_cmp (op_eqD hr.units) os_eq (se_callB call_len cs_len (by rfl) T.z_len (by decide +kernel) (sa_cons (se_var (pv 1)) sa_nil)) se_int (nomark _))))) (ss_one (ss_ret (se_op op_catT os_catU (se_tup (sa_cons se_str sa_nil)) (se_var (pv 1))))) ss_nil)
    (ss_cons (ss_if (st_w (sw_and (st_kin (tbl := tb_JOINED) (se_ix ix_seq os_ix (se_var (pv 0)) se_int (fun _ _ => rfl)) (by rfl) T.k_JOINED (by rfl)) (sw_and1 (st_cmp (op_eqD hr.units) os_eq (se_callB call_len cs_len (by rfl) T.z_len (by decide +kernel) (sa_cons (se_var (pv 1)) sa_nil)) se_int (nomark _))))) (ss_one (ss_ret (se_op op_catT os_catU (se_tup (sa_cons (se_kix (tbl := tb_JOINED) (se_ix ix_seq os_ix (se_var (pv 0)) se_int (fun _ _ => rfl)) (by rfl) T.k_JOINED (fun _ _ => rfl)) sa_nil)) (se_var (pv 1))))) ss_nil)
    (ss_cons (ss_if (st_w (sw_and (st_cmp op_in_seq os_in (se_ix ix_seq os_ix (se_var (pv 0)) se_int (fun _ _ => rfl)) (se_gtup (zs := [(PySem.Str.ofString "row"), (PySem.Str.ofString "column")]) (by rfl) T.k_ADDITIONS) (by rfl)) (sw_and1 (st_cmp (op_eqD hr.units) os_eq (se_callB call_len cs_len (by rfl) T.z_len (by decide +kernel) (sa_cons (se_var (pv 1)) sa_nil)) se_int (nomark _))))) (ss_one (ss_ret (se_op op_catT os_catU (se_tup (sa_cons (se_ix ix_seq os_ix (se_var (pv 0)) se_int (fun _ _ => rfl)) sa_nil)) (se_var (pv 1))))) ss_nil)
    (ss_one (ss_raiseO rfl tk T.x_NoText (by exact rfl))))))))
theorem c_plain_read (T : Txt P w K mg base) (c_numbers_read : Cal P w K mg base (PySem.Str.ofString "numbers_read") 3 [.vw] v_numbers_read) {f : Addr} {fd : FuncData} (F : Fun K "plain_read" "plain_read" s_plain_read f fd) (b : Binds K fd [(PySem.Str.ofString "words")] []) (hm : mg (PySem.Str.ofString "plain_read") = some (.ref f)) : Cal P w K mg base (PySem.Str.ofString "plain_read") 4 [.vw] v_plain_read :=
  ⟨f, fd, [(PySem.Str.ofString "words")], fn_data F sc_plain_read rfl (d_plain_read T c_numbers_read), hm, F.kp, b⟩
theorem sc_move_read : FnScope [(PySem.Str.ofString "text"), (PySem.Str.ofString "words")] [(PySem.Str.ofString "text")] (defScope s_move_read) := ⟨rfl, rfl, rfl, by decide +kernel, rfl, by decide +kernel, by decide +kernel⟩
theorem d_move_read (T : Txt P w K mg base) (c_plain_read : Cal P w K mg base (PySem.Str.ofString "plain_read") 4 [.vw] v_plain_read) (c_split_read : Cal P w K mg base (PySem.Str.ofString "split_read") 3 [.vw] v_split_read) (c_lay_read : Cal P w K mg base (PySem.Str.ofString "lay_read") 4 [.vw] v_lay_read) : DefOk P w K mg base [(PySem.Str.ofString "text"), (PySem.Str.ofString "words")] "move_read" s_move_read 4 m_move_read := by
  delta m_move_read
  exact fun f cdv A outer s H E W hr tk hp =>
  (ss_cons (ss_set (i := 1) sc_move_read.nd (by rfl) (.inl rfl) (se_fz (se_split (se_var (pv 0)) se_str)))
    (ss_cons (ss_if (st_cmp op_lt os_B0 (se_callB call_len cs_len (by rfl) T.z_len (by decide +kernel) (sa_cons (se_var (pv 1)) sa_nil)) se_int (nomark _)) (ss_one (ss_raiseO rfl tk T.x_NoText (by exact rfl))) ss_nil)
    (ss_cons (ss_if (st_cmp op_in_seq os_in (se_ix ix_seq os_ix (se_var (pv 1)) se_int (fun _ _ => rfl)) (se_gtup (zs := [(PySem.Str.ofString "out"), (PySem.Str.ofString "in")]) (by rfl) T.k_SPLITS) (by rfl)) (ss_one (ss_ret (se_callC c_split_read (hr.mono (by decide)) (by rfl) tk (sa_cons (se_var (pv 1)) sa_nil)))) ss_nil)
    (ss_cons (ss_if (st_cmp (op_eqD hr.units) os_eq (se_ix ix_seq os_ix (se_var (pv 1)) se_int (fun _ _ => rfl)) se_str (nomark _)) (ss_one (ss_ret (se_callC c_lay_read (hr.mono (by decide)) (by rfl) tk (sa_cons (se_var (pv 1)) sa_nil)))) ss_nil)
    (ss_one (ss_ret (se_callC c_plain_read (hr.mono (by decide)) (by rfl) tk (sa_cons (se_var (pv 1)) sa_nil))))))))
theorem c_move_read (T : Txt P w K mg base) (c_plain_read : Cal P w K mg base (PySem.Str.ofString "plain_read") 4 [.vw] v_plain_read) (c_split_read : Cal P w K mg base (PySem.Str.ofString "split_read") 3 [.vw] v_split_read) (c_lay_read : Cal P w K mg base (PySem.Str.ofString "lay_read") 4 [.vw] v_lay_read) {f : Addr} {fd : FuncData} (F : Fun K "move_read" "move_read" s_move_read f fd) (b : Binds K fd [(PySem.Str.ofString "text")] []) (hm : mg (PySem.Str.ofString "move_read") = some (.ref f)) : Cal P w K mg base (PySem.Str.ofString "move_read") 5 [.vw] v_move_read :=
  ⟨f, fd, [(PySem.Str.ofString "text")], fn_data F sc_move_read rfl (d_move_read T c_plain_read c_split_read c_lay_read), hm, F.kp, b⟩
theorem sc_law_good : FnScope [(PySem.Str.ofString "_law_move_here"), (PySem.Str.ofString "_law_handed"), (PySem.Str.ofString "_law_text"), (PySem.Str.ofString "_law_turn"), (PySem.Str.ofString "_law_found"), (PySem.Str.ofString "_law_part")] [(PySem.Str.ofString "_law_move_here")] (defScope s_law_good) := ⟨rfl, rfl, rfl, by decide +kernel, rfl, by decide +kernel, by decide +kernel⟩
theorem d_law_good (T : Txt P w K mg base) (c_law_copied : Cal P w K mg base (PySem.Str.ofString "_law_copied") 1 [.vw] v_law_copied) (c_law_move_text : Cal P w K mg base (PySem.Str.ofString "_law_move_text") 2 [.vw] v_law_move_text) (c_move_read : Cal P w K mg base (PySem.Str.ofString "move_read") 5 [.vw] v_move_read) (c_law_is_move : Cal P w K mg base (PySem.Str.ofString "_law_is_move") 1 [.vw, .vw] v_law_is_move) (c_move_shown : Cal P w K mg base (PySem.Str.ofString "move_shown") 3 [.vw] v_move_shown) : DefOk P w K mg base [(PySem.Str.ofString "_law_move_here"), (PySem.Str.ofString "_law_handed"), (PySem.Str.ofString "_law_text"), (PySem.Str.ofString "_law_turn"), (PySem.Str.ofString "_law_found"), (PySem.Str.ofString "_law_part")] "_law_good" s_law_good 5 m_law_good := by
  delta m_law_good l_law_good_2 l_law_good_1
  exact fun f cdv A outer s H E W hr tk hp =>
  (ss_cons (ss_set (i := 1) sc_law_good.nd (by rfl) (.inl rfl) (se_callC c_law_copied (hr.mono (by decide)) (by rfl) tk (sa_cons (se_var (pv 0)) sa_nil)))
    (ss_cons (ss_set (i := 2) sc_law_good.nd (by rfl) (.inl rfl) (se_callC c_law_move_text (hr.mono (by decide)) (by rfl) tk (sa_cons (se_var (pv 0)) sa_nil)))
    (ss_cons (ss_for hp rfl (si_rng (by rfl) T.z_range (sa_cons se_int sa_nil)) (pg_name (i := 3) sc_law_good.nd (by rfl) (.inl rfl)) gs_name (ss_cons (ss_if (st_w (sw_or (st_cmp (op_neD hr.units) os_ne (se_callC c_move_shown (hr.mono (by decide)) (by rfl) tk (sa_cons (se_var (pv 1)) sa_nil)) (se_var (pv 2)) (nomark _)) (sw_or1 (st_cmp (op_neD hr.units) os_ne (se_var (pv 1)) (se_var (pv 0)) (nomark _))))) (ss_one (ss_ret se_bl)) ss_nil)
    (ss_cons (ss_set (i := 4) sc_law_good.nd (by rfl) (.inl rfl) (se_callC c_move_read (hr.mono (by decide)) (by rfl) tk (sa_cons (se_var (pv 2)) sa_nil)))
    (ss_cons (ss_if (st_not (st_val (se_callC c_law_is_move (hr.mono (by decide)) (by rfl) tk (sa_cons (se_var (pv 4)) (sa_cons (se_var (pv 0)) sa_nil))))) (ss_one (ss_ret se_bl)) ss_nil)
    (ss_one (ss_for hp rfl (si_tupU (se_slU (se_var (pv 4)) (so_some se_int) so_none)) (pg_name (i := 5) sc_law_good.nd (by rfl) (.inl rfl)) gs_name (ss_one (ss_if (st_val (se_isi (T := "list") (by rfl) T.z_isinstance (by decide +kernel) (pe_bltn (by rfl) T.z_list (u := .type "list") (by decide +kernel) rfl) (se_var (pv 5)))) (ss_one (ss_expr (se_bm ms_append PySem.F.plainAttrs_list PySem.F.slot_list_append PySem.F.type_list_append mt_append (se_var (pv 5)) (sa_cons se_non sa_nil)))) ss_nil))))))))
    (ss_one (ss_ret se_bl)))))
theorem c_law_good (T : Txt P w K mg base) (c_law_copied : Cal P w K mg base (PySem.Str.ofString "_law_copied") 1 [.vw] v_law_copied) (c_law_move_text : Cal P w K mg base (PySem.Str.ofString "_law_move_text") 2 [.vw] v_law_move_text) (c_move_read : Cal P w K mg base (PySem.Str.ofString "move_read") 5 [.vw] v_move_read) (c_law_is_move : Cal P w K mg base (PySem.Str.ofString "_law_is_move") 1 [.vw, .vw] v_law_is_move) (c_move_shown : Cal P w K mg base (PySem.Str.ofString "move_shown") 3 [.vw] v_move_shown) {f : Addr} {fd : FuncData} (F : Fun K "_law_good" "_law_good" s_law_good f fd) (b : Binds K fd [(PySem.Str.ofString "_law_move_here")] []) (hm : mg (PySem.Str.ofString "_law_good") = some (.ref f)) : Cal P w K mg base (PySem.Str.ofString "_law_good") 6 [.vw] v_law_good :=
  ⟨f, fd, [(PySem.Str.ofString "_law_move_here")], fn_data F sc_law_good rfl (d_law_good T c_law_copied c_law_move_text c_move_read c_law_is_move c_move_shown), hm, F.kp, b⟩
theorem sc_law : FnScope [(PySem.Str.ofString "_law_script"), (PySem.Str.ofString "_law_one"), (PySem.Str.ofString "_law_other")] [(PySem.Str.ofString "_law_script")] (defScope s_law) := ⟨rfl, rfl, rfl, by decide +kernel, rfl, by decide +kernel, by decide +kernel⟩
theorem d_law (T : Txt P w K mg base) (c_law_move : Cal P w K mg base (PySem.Str.ofString "_law_move") 3 [.sc, .vw] v_law_move) (c_law_good : Cal P w K mg base (PySem.Str.ofString "_law_good") 6 [.vw] v_law_good) : DefOk P w K mg base [(PySem.Str.ofString "_law_script"), (PySem.Str.ofString "_law_one"), (PySem.Str.ofString "_law_other")] "law" s_law 6 m_law := by
  delta m_law
  exact fun f cdv A outer s H E W hr tk hp =>
  (ss_cons (ss_set (i := 1) sc_law.nd (by rfl) (.inl rfl) (se_callC c_law_move (hr.mono (by decide)) (by rfl) tk (sa_cons (se_var (pv 0)) (sa_cons se_int sa_nil))))
    (ss_cons (ss_set (i := 2) sc_law.nd (by rfl) (.inl rfl) (se_callC c_law_move (hr.mono (by decide)) (by rfl) tk (sa_cons (se_var (pv 0)) (sa_cons se_int sa_nil))))
    (ss_one (ss_ret (se_and (se_callC c_law_good (hr.mono (by decide)) (by rfl) tk (sa_cons (se_var (pv 1)) sa_nil)) (se_and (se_callC c_law_good (hr.mono (by decide)) (by rfl) tk (sa_cons (se_var (pv 2)) sa_nil)) (se_one (se_callC c_law_good (hr.mono (by decide)) (by rfl) tk (sa_cons (se_var (pv 1)) sa_nil)))))))))
theorem c_law (T : Txt P w K mg base) (c_law_move : Cal P w K mg base (PySem.Str.ofString "_law_move") 3 [.sc, .vw] v_law_move) (c_law_good : Cal P w K mg base (PySem.Str.ofString "_law_good") 6 [.vw] v_law_good) {f : Addr} {fd : FuncData} (F : Fun K "law" "law" s_law f fd) (b : Binds K fd [(PySem.Str.ofString "_law_script")] []) (hm : mg (PySem.Str.ofString "law") = some (.ref f)) : Cal P w K mg base (PySem.Str.ofString "law") 7 [.sc] v_law :=
  ⟨f, fd, [(PySem.Str.ofString "_law_script")], fn_data F sc_law rfl (d_law T c_law_move c_law_good), hm, F.kp, b⟩
end
theorem all_mk (law_ok : ∀ ns : List Int, ns.length ≤ 63 → ∃ h, v_law [.list (ns.map PyData.int)] = .ok (.d (.bool true)) h) {l : PySem.W.OpenLaw} {w : World} {K : PySem.W.Frag} {h : Heap} {mg : Str → Option Value} {fa : Addr} (X : K.In h) (G : h.Ns mainGlobals mg) (hfa : mg (PySem.Str.ofString "law") = some (.ref fa))
    {f0 : Addr} {od0 an0 : Option Addr} {sl0 : Array (Option Value)} {oc0 kV0 dc0 pm0 cd0 ct0 : Value}
    (a0 : PySem.W.nsIn K mainGlobals (PySem.Str.ofString "are_figures") = some (some (.ref f0))) (l0 : K.lookup f0 = some ⟨oc0, od0, .func (PySem.W.fnOf "are_figures" "are_figures" (defArgs s_are_figures) (defBody s_are_figures) (defScope s_are_figures) .none kV0 dc0 pm0 an0 cd0 ct0), sl0⟩) (c0 : PySem.W.codeIn K cd0 "are_figures" = true) (k0 : PySem.W.keepIn K (.ref f0) = true)
    {f1 : Addr} {od1 an1 : Option Addr} {sl1 : Array (Option Value)} {oc1 kV1 dc1 pm1 cd1 ct1 : Value}
    (a1 : PySem.W.nsIn K mainGlobals (PySem.Str.ofString "numbers_shown") = some (some (.ref f1))) (l1 : K.lookup f1 = some ⟨oc1, od1, .func (PySem.W.fnOf "numbers_shown" "numbers_shown" (defArgs s_numbers_shown) (defBody s_numbers_shown) (defScope s_numbers_shown) .none kV1 dc1 pm1 an1 cd1 ct1), sl1⟩) (c1 : PySem.W.codeIn K cd1 "numbers_shown" = true) (k1 : PySem.W.keepIn K (.ref f1) = true)
    {f2 : Addr} {od2 an2 : Option Addr} {sl2 : Array (Option Value)} {oc2 kV2 dc2 pm2 cd2 ct2 : Value}
    (a2 : PySem.W.nsIn K mainGlobals (PySem.Str.ofString "arrow_shown") = some (some (.ref f2))) (l2 : K.lookup f2 = some ⟨oc2, od2, .func (PySem.W.fnOf "arrow_shown" "arrow_shown" (defArgs s_arrow_shown) (defBody s_arrow_shown) (defScope s_arrow_shown) .none kV2 dc2 pm2 an2 cd2 ct2), sl2⟩) (c2 : PySem.W.codeIn K cd2 "arrow_shown" = true) (k2 : PySem.W.keepIn K (.ref f2) = true)
    {f3 : Addr} {od3 an3 : Option Addr} {sl3 : Array (Option Value)} {oc3 kV3 dc3 pm3 cd3 ct3 : Value}
    (a3 : PySem.W.nsIn K mainGlobals (PySem.Str.ofString "parted") = some (some (.ref f3))) (l3 : K.lookup f3 = some ⟨oc3, od3, .func (PySem.W.fnOf "parted" "parted" (defArgs s_parted) (defBody s_parted) (defScope s_parted) .none kV3 dc3 pm3 an3 cd3 ct3), sl3⟩) (c3 : PySem.W.codeIn K cd3 "parted" = true) (k3 : PySem.W.keepIn K (.ref f3) = true)
    {f4 : Addr} {od4 an4 : Option Addr} {sl4 : Array (Option Value)} {oc4 kV4 dc4 pm4 cd4 ct4 : Value}
    (a4 : PySem.W.nsIn K mainGlobals (PySem.Str.ofString "_law_cell_at") = some (some (.ref f4))) (l4 : K.lookup f4 = some ⟨oc4, od4, .func (PySem.W.fnOf "_law_cell_at" "_law_cell_at" (defArgs s_law_cell_at) (defBody s_law_cell_at) (defScope s_law_cell_at) .none kV4 dc4 pm4 an4 cd4 ct4), sl4⟩) (c4 : PySem.W.codeIn K cd4 "_law_cell_at" = true) (k4 : PySem.W.keepIn K (.ref f4) = true)
    {f5 : Addr} {od5 an5 : Option Addr} {sl5 : Array (Option Value)} {oc5 kV5 dc5 pm5 cd5 ct5 : Value}
    (a5 : PySem.W.nsIn K mainGlobals (PySem.Str.ofString "_law_number") = some (some (.ref f5))) (l5 : K.lookup f5 = some ⟨oc5, od5, .func (PySem.W.fnOf "_law_number" "_law_number" (defArgs s_law_number) (defBody s_law_number) (defScope s_law_number) .none kV5 dc5 pm5 an5 cd5 ct5), sl5⟩) (c5 : PySem.W.codeIn K cd5 "_law_number" = true) (k5 : PySem.W.keepIn K (.ref f5) = true)
    {f6 : Addr} {od6 an6 : Option Addr} {sl6 : Array (Option Value)} {oc6 kV6 dc6 pm6 cd6 ct6 : Value}
    (a6 : PySem.W.nsIn K mainGlobals (PySem.Str.ofString "_law_places") = some (some (.ref f6))) (l6 : K.lookup f6 = some ⟨oc6, od6, .func (PySem.W.fnOf "_law_places" "_law_places" (defArgs s_law_places) (defBody s_law_places) (defScope s_law_places) .none kV6 dc6 pm6 an6 cd6 ct6), sl6⟩) (c6 : PySem.W.codeIn K cd6 "_law_places" = true) (k6 : PySem.W.keepIn K (.ref f6) = true)
    {f7 : Addr} {od7 an7 : Option Addr} {sl7 : Array (Option Value)} {oc7 kV7 dc7 pm7 cd7 ct7 : Value}
    (a7 : PySem.W.nsIn K mainGlobals (PySem.Str.ofString "_law_spelled") = some (some (.ref f7))) (l7 : K.lookup f7 = some ⟨oc7, od7, .func (PySem.W.fnOf "_law_spelled" "_law_spelled" (defArgs s_law_spelled) (defBody s_law_spelled) (defScope s_law_spelled) .none kV7 dc7 pm7 an7 cd7 ct7), sl7⟩) (c7 : PySem.W.codeIn K cd7 "_law_spelled" = true) (k7 : PySem.W.keepIn K (.ref f7) = true)
    {f8 : Addr} {od8 an8 : Option Addr} {sl8 : Array (Option Value)} {oc8 kV8 dc8 pm8 cd8 ct8 : Value}
    (a8 : PySem.W.nsIn K mainGlobals (PySem.Str.ofString "_law_piece_text") = some (some (.ref f8))) (l8 : K.lookup f8 = some ⟨oc8, od8, .func (PySem.W.fnOf "_law_piece_text" "_law_piece_text" (defArgs s_law_piece_text) (defBody s_law_piece_text) (defScope s_law_piece_text) .none kV8 dc8 pm8 an8 cd8 ct8), sl8⟩) (c8 : PySem.W.codeIn K cd8 "_law_piece_text" = true) (k8 : PySem.W.keepIn K (.ref f8) = true)
    {f9 : Addr} {od9 an9 : Option Addr} {sl9 : Array (Option Value)} {oc9 kV9 dc9 pm9 cd9 ct9 : Value}
    (a9 : PySem.W.nsIn K mainGlobals (PySem.Str.ofString "_law_copied") = some (some (.ref f9))) (l9 : K.lookup f9 = some ⟨oc9, od9, .func (PySem.W.fnOf "_law_copied" "_law_copied" (defArgs s_law_copied) (defBody s_law_copied) (defScope s_law_copied) .none kV9 dc9 pm9 an9 cd9 ct9), sl9⟩) (c9 : PySem.W.codeIn K cd9 "_law_copied" = true) (k9 : PySem.W.keepIn K (.ref f9) = true)
    {f10 : Addr} {od10 an10 : Option Addr} {sl10 : Array (Option Value)} {oc10 kV10 dc10 pm10 cd10 ct10 : Value}
    (a10 : PySem.W.nsIn K mainGlobals (PySem.Str.ofString "_law_is_move") = some (some (.ref f10))) (l10 : K.lookup f10 = some ⟨oc10, od10, .func (PySem.W.fnOf "_law_is_move" "_law_is_move" (defArgs s_law_is_move) (defBody s_law_is_move) (defScope s_law_is_move) .none kV10 dc10 pm10 an10 cd10 ct10), sl10⟩) (c10 : PySem.W.codeIn K cd10 "_law_is_move" = true) (k10 : PySem.W.keepIn K (.ref f10) = true)
    {f11 : Addr} {od11 an11 : Option Addr} {sl11 : Array (Option Value)} {oc11 kV11 dc11 pm11 cd11 ct11 : Value}
    (a11 : PySem.W.nsIn K mainGlobals (PySem.Str.ofString "number_read") = some (some (.ref f11))) (l11 : K.lookup f11 = some ⟨oc11, od11, .func (PySem.W.fnOf "number_read" "number_read" (defArgs s_number_read) (defBody s_number_read) (defScope s_number_read) .none kV11 dc11 pm11 an11 cd11 ct11), sl11⟩) (c11 : PySem.W.codeIn K cd11 "number_read" = true) (k11 : PySem.W.keepIn K (.ref f11) = true)
    {f12 : Addr} {od12 an12 : Option Addr} {sl12 : Array (Option Value)} {oc12 kV12 dc12 pm12 cd12 ct12 : Value}
    (a12 : PySem.W.nsIn K mainGlobals (PySem.Str.ofString "arrow_read") = some (some (.ref f12))) (l12 : K.lookup f12 = some ⟨oc12, od12, .func (PySem.W.fnOf "arrow_read" "arrow_read" (defArgs s_arrow_read) (defBody s_arrow_read) (defScope s_arrow_read) .none kV12 dc12 pm12 an12 cd12 ct12), sl12⟩) (c12 : PySem.W.codeIn K cd12 "arrow_read" = true) (k12 : PySem.W.keepIn K (.ref f12) = true)
    {f13 : Addr} {od13 an13 : Option Addr} {sl13 : Array (Option Value)} {oc13 kV13 dc13 pm13 cd13 ct13 : Value}
    (a13 : PySem.W.nsIn K mainGlobals (PySem.Str.ofString "pieces_shown") = some (some (.ref f13))) (l13 : K.lookup f13 = some ⟨oc13, od13, .func (PySem.W.fnOf "pieces_shown" "pieces_shown" (defArgs s_pieces_shown) (defBody s_pieces_shown) (defScope s_pieces_shown) .none kV13 dc13 pm13 an13 cd13 ct13), sl13⟩) (c13 : PySem.W.codeIn K cd13 "pieces_shown" = true) (k13 : PySem.W.keepIn K (.ref f13) = true)
    {f14 : Addr} {od14 an14 : Option Addr} {sl14 : Array (Option Value)} {oc14 kV14 dc14 pm14 cd14 ct14 : Value}
    (a14 : PySem.W.nsIn K mainGlobals (PySem.Str.ofString "_law_big") = some (some (.ref f14))) (l14 : K.lookup f14 = some ⟨oc14, od14, .func (PySem.W.fnOf "_law_big" "_law_big" (defArgs s_law_big) (defBody s_law_big) (defScope s_law_big) .none kV14 dc14 pm14 an14 cd14 ct14), sl14⟩) (c14 : PySem.W.codeIn K cd14 "_law_big" = true) (k14 : PySem.W.keepIn K (.ref f14) = true)
    {f15 : Addr} {od15 an15 : Option Addr} {sl15 : Array (Option Value)} {oc15 kV15 dc15 pm15 cd15 ct15 : Value}
    (a15 : PySem.W.nsIn K mainGlobals (PySem.Str.ofString "_law_pieces") = some (some (.ref f15))) (l15 : K.lookup f15 = some ⟨oc15, od15, .func (PySem.W.fnOf "_law_pieces" "_law_pieces" (defArgs s_law_pieces) (defBody s_law_pieces) (defScope s_law_pieces) .none kV15 dc15 pm15 an15 cd15 ct15), sl15⟩) (c15 : PySem.W.codeIn K cd15 "_law_pieces" = true) (k15 : PySem.W.keepIn K (.ref f15) = true)
    {f16 : Addr} {od16 an16 : Option Addr} {sl16 : Array (Option Value)} {oc16 kV16 dc16 pm16 cd16 ct16 : Value}
    (a16 : PySem.W.nsIn K mainGlobals (PySem.Str.ofString "_law_some") = some (some (.ref f16))) (l16 : K.lookup f16 = some ⟨oc16, od16, .func (PySem.W.fnOf "_law_some" "_law_some" (defArgs s_law_some) (defBody s_law_some) (defScope s_law_some) .none kV16 dc16 pm16 an16 cd16 ct16), sl16⟩) (c16 : PySem.W.codeIn K cd16 "_law_some" = true) (k16 : PySem.W.keepIn K (.ref f16) = true)
    {f17 : Addr} {od17 an17 : Option Addr} {sl17 : Array (Option Value)} {oc17 kV17 dc17 pm17 cd17 ct17 : Value}
    (a17 : PySem.W.nsIn K mainGlobals (PySem.Str.ofString "_law_move_text") = some (some (.ref f17))) (l17 : K.lookup f17 = some ⟨oc17, od17, .func (PySem.W.fnOf "_law_move_text" "_law_move_text" (defArgs s_law_move_text) (defBody s_law_move_text) (defScope s_law_move_text) .none kV17 dc17 pm17 an17 cd17 ct17), sl17⟩) (c17 : PySem.W.codeIn K cd17 "_law_move_text" = true) (k17 : PySem.W.keepIn K (.ref f17) = true)
    {f18 : Addr} {od18 an18 : Option Addr} {sl18 : Array (Option Value)} {oc18 kV18 dc18 pm18 cd18 ct18 : Value}
    (a18 : PySem.W.nsIn K mainGlobals (PySem.Str.ofString "numbers_read") = some (some (.ref f18))) (l18 : K.lookup f18 = some ⟨oc18, od18, .func (PySem.W.fnOf "numbers_read" "numbers_read" (defArgs s_numbers_read) (defBody s_numbers_read) (defScope s_numbers_read) .none kV18 dc18 pm18 an18 cd18 ct18), sl18⟩) (c18 : PySem.W.codeIn K cd18 "numbers_read" = true) (k18 : PySem.W.keepIn K (.ref f18) = true)
    {f19 : Addr} {od19 an19 : Option Addr} {sl19 : Array (Option Value)} {oc19 kV19 dc19 pm19 cd19 ct19 : Value}
    (a19 : PySem.W.nsIn K mainGlobals (PySem.Str.ofString "move_shown") = some (some (.ref f19))) (l19 : K.lookup f19 = some ⟨oc19, od19, .func (PySem.W.fnOf "move_shown" "move_shown" (defArgs s_move_shown) (defBody s_move_shown) (defScope s_move_shown) .none kV19 dc19 pm19 an19 cd19 ct19), sl19⟩) (c19 : PySem.W.codeIn K cd19 "move_shown" = true) (k19 : PySem.W.keepIn K (.ref f19) = true)
    {f20 : Addr} {od20 an20 : Option Addr} {sl20 : Array (Option Value)} {oc20 kV20 dc20 pm20 cd20 ct20 : Value}
    (a20 : PySem.W.nsIn K mainGlobals (PySem.Str.ofString "split_read") = some (some (.ref f20))) (l20 : K.lookup f20 = some ⟨oc20, od20, .func (PySem.W.fnOf "split_read" "split_read" (defArgs s_split_read) (defBody s_split_read) (defScope s_split_read) .none kV20 dc20 pm20 an20 cd20 ct20), sl20⟩) (c20 : PySem.W.codeIn K cd20 "split_read" = true) (k20 : PySem.W.keepIn K (.ref f20) = true)
    {f21 : Addr} {od21 an21 : Option Addr} {sl21 : Array (Option Value)} {oc21 kV21 dc21 pm21 cd21 ct21 : Value}
    (a21 : PySem.W.nsIn K mainGlobals (PySem.Str.ofString "_law_move") = some (some (.ref f21))) (l21 : K.lookup f21 = some ⟨oc21, od21, .func (PySem.W.fnOf "_law_move" "_law_move" (defArgs s_law_move) (defBody s_law_move) (defScope s_law_move) .none kV21 dc21 pm21 an21 cd21 ct21), sl21⟩) (c21 : PySem.W.codeIn K cd21 "_law_move" = true) (k21 : PySem.W.keepIn K (.ref f21) = true)
    {f22 : Addr} {od22 an22 : Option Addr} {sl22 : Array (Option Value)} {oc22 kV22 dc22 pm22 cd22 ct22 : Value}
    (a22 : PySem.W.nsIn K mainGlobals (PySem.Str.ofString "lay_read") = some (some (.ref f22))) (l22 : K.lookup f22 = some ⟨oc22, od22, .func (PySem.W.fnOf "lay_read" "lay_read" (defArgs s_lay_read) (defBody s_lay_read) (defScope s_lay_read) .none kV22 dc22 pm22 an22 cd22 ct22), sl22⟩) (c22 : PySem.W.codeIn K cd22 "lay_read" = true) (k22 : PySem.W.keepIn K (.ref f22) = true)
    {f23 : Addr} {od23 an23 : Option Addr} {sl23 : Array (Option Value)} {oc23 kV23 dc23 pm23 cd23 ct23 : Value}
    (a23 : PySem.W.nsIn K mainGlobals (PySem.Str.ofString "plain_read") = some (some (.ref f23))) (l23 : K.lookup f23 = some ⟨oc23, od23, .func (PySem.W.fnOf "plain_read" "plain_read" (defArgs s_plain_read) (defBody s_plain_read) (defScope s_plain_read) .none kV23 dc23 pm23 an23 cd23 ct23), sl23⟩) (c23 : PySem.W.codeIn K cd23 "plain_read" = true) (k23 : PySem.W.keepIn K (.ref f23) = true)
    {f24 : Addr} {od24 an24 : Option Addr} {sl24 : Array (Option Value)} {oc24 kV24 dc24 pm24 cd24 ct24 : Value}
    (a24 : PySem.W.nsIn K mainGlobals (PySem.Str.ofString "move_read") = some (some (.ref f24))) (l24 : K.lookup f24 = some ⟨oc24, od24, .func (PySem.W.fnOf "move_read" "move_read" (defArgs s_move_read) (defBody s_move_read) (defScope s_move_read) .none kV24 dc24 pm24 an24 cd24 ct24), sl24⟩) (c24 : PySem.W.codeIn K cd24 "move_read" = true) (k24 : PySem.W.keepIn K (.ref f24) = true)
    {f25 : Addr} {od25 an25 : Option Addr} {sl25 : Array (Option Value)} {oc25 kV25 dc25 pm25 cd25 ct25 : Value}
    (a25 : PySem.W.nsIn K mainGlobals (PySem.Str.ofString "_law_good") = some (some (.ref f25))) (l25 : K.lookup f25 = some ⟨oc25, od25, .func (PySem.W.fnOf "_law_good" "_law_good" (defArgs s_law_good) (defBody s_law_good) (defScope s_law_good) .none kV25 dc25 pm25 an25 cd25 ct25), sl25⟩) (c25 : PySem.W.codeIn K cd25 "_law_good" = true) (k25 : PySem.W.keepIn K (.ref f25) = true)
    {f26 : Addr} {od26 an26 : Option Addr} {sl26 : Array (Option Value)} {oc26 kV26 dc26 pm26 cd26 ct26 : Value}
    (a26 : PySem.W.nsIn K mainGlobals (PySem.Str.ofString "law") = some (some (.ref f26))) (l26 : K.lookup f26 = some ⟨oc26, od26, .func (PySem.W.fnOf "law" "law" (defArgs s_law) (defBody s_law) (defScope s_law) .none kV26 dc26 pm26 an26 cd26 ct26), sl26⟩) (c26 : PySem.W.codeIn K cd26 "law" = true) (k26 : PySem.W.keepIn K (.ref f26) = true)
    (z_all : PySem.W.nsIn K mainGlobals (PySem.Str.ofString "all") = some none)
    (z_bool : PySem.W.nsIn K mainGlobals (PySem.Str.ofString "bool") = some none)
    (z_int : PySem.W.nsIn K mainGlobals (PySem.Str.ofString "int") = some none)
    (z_isinstance : PySem.W.nsIn K mainGlobals (PySem.Str.ofString "isinstance") = some none)
    (z_len : PySem.W.nsIn K mainGlobals (PySem.Str.ofString "len") = some none)
    (z_list : PySem.W.nsIn K mainGlobals (PySem.Str.ofString "list") = some none)
    (z_range : PySem.W.nsIn K mainGlobals (PySem.Str.ofString "range") = some none)
    (z_str : PySem.W.nsIn K mainGlobals (PySem.Str.ofString "str") = some none)
    (z_tuple : PySem.W.nsIn K mainGlobals (PySem.Str.ofString "tuple") = some none)
    {C_NoText : Addr}
    (xa_NoText : PySem.W.nsIn K mainGlobals (PySem.Str.ofString "NoText") = some (some (.ref C_NoText)))
    (xx_NoText : PySem.W.excIn K C_NoText [.type "ValueError", .type "Exception", .type "BaseException", .type "object"] "ValueError.__new__" = true)
    (xk_NoText : PySem.W.keepIn K (.ref C_NoText) = true)
    (xb_NoText : PySem.W.subIn K (.ref C_NoText) (.type "BaseException") = some true)
    (xt_NoText : PySem.W.typeIn K (.ref C_NoText) = some (.type "type"))
    {A_ADDITIONS : Addr} {o_ADDITIONS : Option Addr} {n_ADDITIONS : Nat} {sl_ADDITIONS : Array (Option Value)} {t_ADDITIONS_0 t_ADDITIONS_1 : Tok}
    (g_ADDITIONS : PySem.W.nsIn K mainGlobals (PySem.Str.ofString "ADDITIONS") = some (some (.ref A_ADDITIONS)))
    (h_ADDITIONS : K.lookup A_ADDITIONS = some ⟨.type "tuple", o_ADDITIONS, .seq #[.str (PySem.Str.ofString "row") t_ADDITIONS_0, .str (PySem.Str.ofString "column") t_ADDITIONS_1] n_ADDITIONS, sl_ADDITIONS⟩)
    {A_SPLITS : Addr} {o_SPLITS : Option Addr} {n_SPLITS : Nat} {sl_SPLITS : Array (Option Value)} {t_SPLITS_0 t_SPLITS_1 : Tok}
    (g_SPLITS : PySem.W.nsIn K mainGlobals (PySem.Str.ofString "SPLITS") = some (some (.ref A_SPLITS)))
    (h_SPLITS : K.lookup A_SPLITS = some ⟨.type "tuple", o_SPLITS, .seq #[.str (PySem.Str.ofString "out") t_SPLITS_0, .str (PySem.Str.ofString "in") t_SPLITS_1] n_SPLITS, sl_SPLITS⟩)
    {A_JOINED : Addr} {es_JOINED : Array DictEntry} {n_JOINED : Nat}
    (g_JOINED : PySem.W.nsIn K mainGlobals (PySem.Str.ofString "JOINED") = some (some (.ref A_JOINED)))
    (h_JOINED : K.lookup A_JOINED = some ⟨.type "dict", none, .dict es_JOINED n_JOINED, #[]⟩)
    (kl_JOINED : PySem.W.KeysLit w.params es_JOINED.toList)
    (lo_JOINED : (A_JOINED == sysModules) = false)
    (de_JOINED : DcE tb_JOINED es_JOINED.toList)
    {A_JOINS : Addr} {es_JOINS : Array DictEntry} {n_JOINS : Nat}
    (g_JOINS : PySem.W.nsIn K mainGlobals (PySem.Str.ofString "JOINS") = some (some (.ref A_JOINS)))
    (h_JOINS : K.lookup A_JOINS = some ⟨.type "dict", none, .dict es_JOINS n_JOINS, #[]⟩)
    (kl_JOINS : PySem.W.KeysLit w.params es_JOINS.toList)
    (lo_JOINS : (A_JOINS == sysModules) = false)
    (de_JOINS : DcE tb_JOINS es_JOINS.toList)
    {t_FIGURES : Tok}
    (g_FIGURES : PySem.W.nsIn K mainGlobals (PySem.Str.ofString "FIGURES") = some (some (.str (PySem.Str.ofString "0123456789") t_FIGURES)))
    : ∃ fd : FuncData, (∀ (s : Shared) (v : Value), BindsTo s fd ⟨[v], []⟩ [((PySem.Str.ofString "_law_script"), v)]) ∧ ∀ base : Heap, K.In base → base.Ns mainGlobals mg → FnOk l.prog w K mg base (L2N.CX l.prog w) 7 fa fd [(PySem.Str.ofString "_law_script")] (spLaw K) := by
  have e := hfa.symm.trans (PySem.W.mg_of X G a26)
  cases e
  have F0 := fun_mk (st := s_are_figures) l0 c0 k0
  have b0 := F0.binds (ps := [(PySem.Str.ofString "text")]) fun _ _ _ _ _ _ us hl => match us, hl with | [_], _ => rfl
  have F1 := fun_mk (st := s_numbers_shown) l1 c1 k1
  have b1 := F1.binds (ps := [(PySem.Str.ofString "numbers")]) fun _ _ _ _ _ _ us hl => match us, hl with | [_], _ => rfl
  have F2 := fun_mk (st := s_arrow_shown) l2 c2 k2
  have b2 := F2.binds (ps := [(PySem.Str.ofString "arrow")]) fun _ _ _ _ _ _ us hl => match us, hl with | [_], _ => rfl
  have F3 := fun_mk (st := s_parted) l3 c3 k3
  have b3 := F3.binds (ps := [(PySem.Str.ofString "words")]) fun _ _ _ _ _ _ us hl => match us, hl with | [_], _ => rfl
  have F4 := fun_mk (st := s_law_cell_at) l4 c4 k4
  have b4 := F4.binds (ps := [(PySem.Str.ofString "_law_script"), (PySem.Str.ofString "_law_k")]) fun _ _ _ _ _ _ us hl => match us, hl with | [_, _], _ => rfl
  have F5 := fun_mk (st := s_law_number) l5 c5 k5
  have b5 := F5.binds (ps := [(PySem.Str.ofString "_law_big_here")]) fun _ _ _ _ _ _ us hl => match us, hl with | [_], _ => rfl
  have F6 := fun_mk (st := s_law_places) l6 c6 k6
  have b6 := F6.binds (ps := [(PySem.Str.ofString "_law_big_here"), (PySem.Str.ofString "_law_many"), (PySem.Str.ofString "_law_most")]) fun _ _ _ _ _ _ us hl => match us, hl with | [_, _, _], _ => rfl
  have F7 := fun_mk (st := s_law_spelled) l7 c7 k7
  have b7 := F7.binds (ps := [(PySem.Str.ofString "_law_numbers")]) fun _ _ _ _ _ _ us hl => match us, hl with | [_], _ => rfl
  have F8 := fun_mk (st := s_law_piece_text) l8 c8 k8
  have b8 := F8.binds (ps := [(PySem.Str.ofString "_law_piece")]) fun _ _ _ _ _ _ us hl => match us, hl with | [_], _ => rfl
  have F9 := fun_mk (st := s_law_copied) l9 c9 k9
  have b9 := F9.binds (ps := [(PySem.Str.ofString "_law_move_here")]) fun _ _ _ _ _ _ us hl => match us, hl with | [_], _ => rfl
  have F10 := fun_mk (st := s_law_is_move) l10 c10 k10
  have b10 := F10.binds (ps := [(PySem.Str.ofString "_law_found"), (PySem.Str.ofString "_law_due")]) fun _ _ _ _ _ _ us hl => match us, hl with | [_, _], _ => rfl
  have F11 := fun_mk (st := s_number_read) l11 c11 k11
  have b11 := F11.binds (ps := [(PySem.Str.ofString "text")]) fun _ _ _ _ _ _ us hl => match us, hl with | [_], _ => rfl
  have F12 := fun_mk (st := s_arrow_read) l12 c12 k12
  have b12 := F12.binds (ps := [(PySem.Str.ofString "word")]) fun _ _ _ _ _ _ us hl => match us, hl with | [_], _ => rfl
  have F13 := fun_mk (st := s_pieces_shown) l13 c13 k13
  have b13 := F13.binds (ps := [(PySem.Str.ofString "pieces")]) fun _ _ _ _ _ _ us hl => match us, hl with | [_], _ => rfl
  have F14 := fun_mk (st := s_law_big) l14 c14 k14
  have b14 := F14.binds (ps := [(PySem.Str.ofString "_law_script"), (PySem.Str.ofString "_law_at")]) fun _ _ _ _ _ _ us hl => match us, hl with | [_, _], _ => rfl
  have F15 := fun_mk (st := s_law_pieces) l15 c15 k15
  have b15 := F15.binds (ps := [(PySem.Str.ofString "_law_big_here")]) fun _ _ _ _ _ _ us hl => match us, hl with | [_], _ => rfl
  have F16 := fun_mk (st := s_law_some) l16 c16 k16
  have b16 := F16.binds (ps := [(PySem.Str.ofString "_law_big_here")]) fun _ _ _ _ _ _ us hl => match us, hl with | [_], _ => rfl
  have F17 := fun_mk (st := s_law_move_text) l17 c17 k17
  have b17 := F17.binds (ps := [(PySem.Str.ofString "_law_move_here")]) fun _ _ _ _ _ _ us hl => match us, hl with | [_], _ => rfl
  have F18 := fun_mk (st := s_numbers_read) l18 c18 k18
  have b18 := F18.binds (ps := [(PySem.Str.ofString "words")]) fun _ _ _ _ _ _ us hl => match us, hl with | [_], _ => rfl
  have F19 := fun_mk (st := s_move_shown) l19 c19 k19
  have b19 := F19.binds (ps := [(PySem.Str.ofString "move")]) fun _ _ _ _ _ _ us hl => match us, hl with | [_], _ => rfl
  have F20 := fun_mk (st := s_split_read) l20 c20 k20
  have b20 := F20.binds (ps := [(PySem.Str.ofString "words")]) fun _ _ _ _ _ _ us hl => match us, hl with | [_], _ => rfl
  have F21 := fun_mk (st := s_law_move) l21 c21 k21
  have b21 := F21.binds (ps := [(PySem.Str.ofString "_law_script"), (PySem.Str.ofString "_law_at")]) fun _ _ _ _ _ _ us hl => match us, hl with | [_, _], _ => rfl
  have F22 := fun_mk (st := s_lay_read) l22 c22 k22
  have b22 := F22.binds (ps := [(PySem.Str.ofString "words")]) fun _ _ _ _ _ _ us hl => match us, hl with | [_], _ => rfl
  have F23 := fun_mk (st := s_plain_read) l23 c23 k23
  have b23 := F23.binds (ps := [(PySem.Str.ofString "words")]) fun _ _ _ _ _ _ us hl => match us, hl with | [_], _ => rfl
  have F24 := fun_mk (st := s_move_read) l24 c24 k24
  have b24 := F24.binds (ps := [(PySem.Str.ofString "text")]) fun _ _ _ _ _ _ us hl => match us, hl with | [_], _ => rfl
  have F25 := fun_mk (st := s_law_good) l25 c25 k25
  have b25 := F25.binds (ps := [(PySem.Str.ofString "_law_move_here")]) fun _ _ _ _ _ _ us hl => match us, hl with | [_], _ => rfl
  have F26 := fun_mk (st := s_law) l26 c26 k26
  have b26 := F26.binds (ps := [(PySem.Str.ofString "_law_script")]) fun _ _ _ _ _ _ us hl => match us, hl with | [_], _ => rfl
  refine ⟨PySem.W.fnOf "law" "law" (defArgs s_law) (defBody s_law) (defScope s_law) .none kV26 dc26 pm26 an26 cd26 ct26, fun s v => .of_eq rfl, fun base _ _ => ?_⟩
  · have T : Txt l.prog w K mg base := ⟨PySem.W.mg_none_of X G z_all, PySem.W.mg_none_of X G z_bool, PySem.W.mg_none_of X G z_int, PySem.W.mg_none_of X G z_isinstance, PySem.W.mg_none_of X G z_len, PySem.W.mg_none_of X G z_list, PySem.W.mg_none_of X G z_range, PySem.W.mg_none_of X G z_str, PySem.W.mg_none_of X G z_tuple, ⟨C_NoText, ⟨PySem.W.mg_of X G xa_NoText, xx_NoText, xk_NoText, xb_NoText, xt_NoText⟩⟩, ⟨A_ADDITIONS, _, _, _, PySem.W.mg_of X G g_ADDITIONS, h_ADDITIONS, rfl, rfl, (by show 2 ≤ sizeLine; rw [sizeLine_eq]; decide), .cons ⟨_, rfl⟩ (.cons ⟨_, rfl⟩ (.nil))⟩, ⟨A_SPLITS, _, _, _, PySem.W.mg_of X G g_SPLITS, h_SPLITS, rfl, rfl, (by show 2 ≤ sizeLine; rw [sizeLine_eq]; decide), .cons ⟨_, rfl⟩ (.cons ⟨_, rfl⟩ (.nil))⟩, ⟨A_JOINED, es_JOINED, n_JOINED, PySem.W.mg_of X G g_JOINED, ⟨h_JOINED, kl_JOINED, lo_JOINED⟩, de_JOINED⟩, ⟨A_JOINS, es_JOINS, n_JOINS, PySem.W.mg_of X G g_JOINS, ⟨h_JOINS, kl_JOINS, lo_JOINS⟩, de_JOINS⟩, ⟨_, PySem.W.mg_of X G g_FIGURES, ⟨_, rfl⟩⟩⟩
    have C0 := c_are_figures T  F0 b0 (PySem.W.mg_of X G a0)
    have C1 := c_numbers_shown T  F1 b1 (PySem.W.mg_of X G a1)
    have C2 := c_arrow_shown T  F2 b2 (PySem.W.mg_of X G a2)
    have C3 := c_parted T  F3 b3 (PySem.W.mg_of X G a3)
    have C4 := c_law_cell_at T  F4 b4 (PySem.W.mg_of X G a4)
    have C5 := c_law_number T  F5 b5 (PySem.W.mg_of X G a5)
    have C6 := c_law_places T  F6 b6 (PySem.W.mg_of X G a6)
    have C7 := c_law_spelled T  F7 b7 (PySem.W.mg_of X G a7)
    have C8 := c_law_piece_text T  F8 b8 (PySem.W.mg_of X G a8)
    have C9 := c_law_copied T  F9 b9 (PySem.W.mg_of X G a9)
    have C10 := c_law_is_move T  F10 b10 (PySem.W.mg_of X G a10)
    have C11 := c_number_read T C0 F11 b11 (PySem.W.mg_of X G a11)
    have C12 := c_arrow_read T C0 F12 b12 (PySem.W.mg_of X G a12)
    have C13 := c_pieces_shown T C2 F13 b13 (PySem.W.mg_of X G a13)
    have C14 := c_law_big T C4 F14 b14 (PySem.W.mg_of X G a14)
    have C15 := c_law_pieces T C6 F15 b15 (PySem.W.mg_of X G a15)
    have C16 := c_law_some T C5 F16 b16 (PySem.W.mg_of X G a16)
    have C17 := c_law_move_text T C7 C8 F17 b17 (PySem.W.mg_of X G a17)
    have C18 := c_numbers_read T C11 F18 b18 (PySem.W.mg_of X G a18)
    have C19 := c_move_shown T C1 C13 F19 b19 (PySem.W.mg_of X G a19)
    have C20 := c_split_read T C11 C12 C3 F20 b20 (PySem.W.mg_of X G a20)
    have C21 := c_law_move T C14 C5 C16 C15 F21 b21 (PySem.W.mg_of X G a21)
    have C22 := c_lay_read T C11 C3 C18 F22 b22 (PySem.W.mg_of X G a22)
    have C23 := c_plain_read T C18 F23 b23 (PySem.W.mg_of X G a23)
    have C24 := c_move_read T C23 C20 C22 F24 b24 (PySem.W.mg_of X G a24)
    have C25 := c_law_good T C9 C17 C24 C10 C19 F25 b25 (PySem.W.mg_of X G a25)
    have C26 := c_law T C21 C25 F26 b26 (PySem.W.mg_of X G a26)
    exact law_fn (fn_data F26 sc_law rfl (d_law T C21 C25)) law_ok
end Gn
open PySem PySem.W PyProof.Rows
set_option maxRecDepth 100000 in
set_option maxHeartbeats 0 in
theorem PySem.Challenge.cw_foreverrows_k83_texts_of_moves_holds : PySem.Challenge.rw_foreverrows_k83_texts_of_moves.Holds := by
  w_on; o_law; k_head; (case hw => w_witness2)
  k_fill
  refine L2.walk_of (l := PySem.Challenge.rw_foreverrows_k83_texts_of_moves) (n := 63) (k := 7) (x := "_law_script") (CX := fun w => L2N.CX PySem.Challenge.rw_foreverrows_k83_texts_of_moves.prog w) (sp := fun w => Zx.spLaw _) rfl (by decide) rfl ⟨rfl, by decide, by decide⟩ (fun w h Y => PySem.W.kIn_of Y) ?F Zx.spLaw_start (fun w H s e s' h => Zx.cx_none h)
  case F =>
    intro w mg fa h KX G hmg
    refine' Gn.all_mk Gn.V.law_ok KX G hmg ?a0 ?l0 ?c0 ?k0 ?a1 ?l1 ?c1 ?k1 ?a2 ?l2 ?c2 ?k2 ?a3 ?l3 ?c3 ?k3 ?a4 ?l4 ?c4 ?k4 ?a5 ?l5 ?c5 ?k5 ?a6 ?l6 ?c6 ?k6 ?a7 ?l7 ?c7 ?k7 ?a8 ?l8 ?c8 ?k8 ?a9 ?l9 ?c9 ?k9 ?a10 ?l10 ?c10 ?k10 ?a11 ?l11 ?c11 ?k11 ?a12 ?l12 ?c12 ?k12 ?a13 ?l13 ?c13 ?k13 ?a14 ?l14 ?c14 ?k14 ?a15 ?l15 ?c15 ?k15 ?a16 ?l16 ?c16 ?k16 ?a17 ?l17 ?c17 ?k17 ?a18 ?l18 ?c18 ?k18 ?a19 ?l19 ?c19 ?k19 ?a20 ?l20 ?c20 ?k20 ?a21 ?l21 ?c21 ?k21 ?a22 ?l22 ?c22 ?k22 ?a23 ?l23 ?c23 ?k23 ?a24 ?l24 ?c24 ?k24 ?a25 ?l25 ?c25 ?k25 ?a26 ?l26 ?c26 ?k26 ?z_all ?z_bool ?z_int ?z_isinstance ?z_len ?z_list ?z_range ?z_str ?z_tuple ?xa_NoText ?xx_NoText ?xk_NoText ?xb_NoText ?xt_NoText ?g_ADDITIONS ?h_ADDITIONS ?g_SPLITS ?h_SPLITS ?g_JOINED ?h_JOINED ?kl_JOINED ?lo_JOINED ?de_JOINED ?g_JOINS ?h_JOINS ?kl_JOINS ?lo_JOINS ?de_JOINS ?g_FIGURES
    (case a0 => k_is); (case l0 => k_is); (case c0 => k_is); (case k0 => k_is); (case a1 => k_is); (case l1 => k_is); (case c1 => k_is); (case k1 => k_is); (case a2 => k_is); (case l2 => k_is); (case c2 => k_is); (case k2 => k_is); (case a3 => k_is); (case l3 => k_is); (case c3 => k_is); (case k3 => k_is); (case a4 => k_is); (case l4 => k_is); (case c4 => k_is); (case k4 => k_is); (case a5 => k_is); (case l5 => k_is); (case c5 => k_is); (case k5 => k_is); (case a6 => k_is); (case l6 => k_is); (case c6 => k_is); (case k6 => k_is); (case a7 => k_is); (case l7 => k_is); (case c7 => k_is); (case k7 => k_is); (case a8 => k_is); (case l8 => k_is); (case c8 => k_is); (case k8 => k_is); (case a9 => k_is); (case l9 => k_is); (case c9 => k_is); (case k9 => k_is); (case a10 => k_is); (case l10 => k_is); (case c10 => k_is); (case k10 => k_is); (case a11 => k_is); (case l11 => k_is); (case c11 => k_is); (case k11 => k_is); (case a12 => k_is); (case l12 => k_is); (case c12 => k_is); (case k12 => k_is); (case a13 => k_is); (case l13 => k_is); (case c13 => k_is); (case k13 => k_is); (case a14 => k_is); (case l14 => k_is); (case c14 => k_is); (case k14 => k_is); (case a15 => k_is); (case l15 => k_is); (case c15 => k_is); (case k15 => k_is); (case a16 => k_is); (case l16 => k_is); (case c16 => k_is); (case k16 => k_is); (case a17 => k_is); (case l17 => k_is); (case c17 => k_is); (case k17 => k_is); (case a18 => k_is); (case l18 => k_is); (case c18 => k_is); (case k18 => k_is); (case a19 => k_is); (case l19 => k_is); (case c19 => k_is); (case k19 => k_is); (case a20 => k_is); (case l20 => k_is); (case c20 => k_is); (case k20 => k_is); (case a21 => k_is); (case l21 => k_is); (case c21 => k_is); (case k21 => k_is); (case a22 => k_is); (case l22 => k_is); (case c22 => k_is); (case k22 => k_is); (case a23 => k_is); (case l23 => k_is); (case c23 => k_is); (case k23 => k_is); (case a24 => k_is); (case l24 => k_is); (case c24 => k_is); (case k24 => k_is); (case a25 => k_is); (case l25 => k_is); (case c25 => k_is); (case k25 => k_is); (case a26 => k_is); (case l26 => k_is); (case c26 => k_is); (case k26 => k_is); (case z_all => k_is); (case z_bool => k_is); (case z_int => k_is); (case z_isinstance => k_is); (case z_len => k_is); (case z_list => k_is); (case z_range => k_is); (case z_str => k_is); (case z_tuple => k_is); (case xa_NoText => k_is); (case xx_NoText => k_exc); (case xk_NoText => k_is); (case xb_NoText => k_is); (case xt_NoText => k_is); (case g_ADDITIONS => k_is); (case h_ADDITIONS => k_is); (case g_SPLITS => k_is); (case h_SPLITS => k_is); (case g_JOINED => k_is); (case h_JOINED => k_is); (case kl_JOINED => exact ⟨⟨_, _, rfl, rfl⟩, ⟨⟨_, _, rfl, rfl⟩, trivial⟩⟩); (case lo_JOINED => (first | rfl | decide)); (case de_JOINED => exact ⟨fun _ => rfl, ⟨_, rfl⟩, rfl, ⟨fun _ => rfl, ⟨_, rfl⟩, rfl, trivial⟩⟩); (case g_JOINS => k_is); (case h_JOINS => k_is); (case kl_JOINS => exact ⟨⟨_, _, rfl, rfl⟩, ⟨⟨_, _, rfl, rfl⟩, trivial⟩⟩); (case lo_JOINS => (first | rfl | decide)); (case de_JOINS => exact ⟨fun _ => rfl, ⟨_, rfl⟩, rfl, ⟨fun _ => rfl, ⟨_, rfl⟩, rfl, trivial⟩⟩); (case g_FIGURES => k_is)
