import PyProof.Rows.All
import Wide.All
import OpenK.AllK
import Wide.FinOn
import HandS.ForMost
import HandS.ForExc
import HandS.Wide
import HandS.Walk
import HandS.Zip
import HandS.Conv
import HandS.IsInst
import HandS.SortInts
import HandS.ExcOwn
import HandS.ExcIs
import HandS.TryOnly
import HandS.Dict
import HandS.Small
import HandS.WordsDict
import HandS.Rev
import PyProof.ListNew
import PySem.Challenge.RW_foreverrows_k05_determinants_kept
set_option Elab.async false
set_option linter.all false
set_option maxRecDepth 100000
set_option maxHeartbeats 4000000
set_option exponentiation.threshold 2000
namespace Zx
open PySem PySem.Spec L2

/-! ## data and how it stands in an abstract heap -/
mutual
/-- v stands for the datum in F -/
def Rp (K : PySem.W.Frag) (F : Hp) (v : V) : PyData → Prop
  | .none => v = .non
  | .bool b => v = .bl b
  | .int i => v = .int i
  | .str x => v = .str x
  | .list ds => ∃ a xs, v = .ref a ∧ F a = some (.lst xs) ∧ RpL K F xs ds
  | .tuple ds => ∃ a xs, v = .ref a ∧ SqT K F a xs ∧ RpL K F xs ds
  | .dict kvs => ∃ a ps, v = .ref a ∧ F a = some (.dK ps) ∧ RpK K F ps kvs
def RpL (K : PySem.W.Frag) (F : Hp) (vs : List V) : List PyData → Prop
  | [] => vs = []
  | d :: ds => ∃ x r, vs = x :: r ∧ Rp K F x d ∧ RpL K F r ds
def RpK (K : PySem.W.Frag) (F : Hp) (ps : List (Key × V)) : List (PyData × PyData) → Prop
  | [] => ps = []
  | (k, d) :: kvs => ∃ p r, ps = p :: r ∧ Rp K F (kV p.1) k ∧ Rp K F p.2 d ∧ RpK K F r kvs
end

theorem sqT_mono {K : PySem.W.Frag} {H H' : Hp} {a : Addr} {xs : List V} (e : ∀ o, H a = some o → H' a = some o) (h : SqT K H a xs) : SqT K H' a xs := by
  rcases h with (h | ⟨o, h⟩) | h
  · exact .inl (.inl (e _ h))
  · exact .inl (.inr ⟨o, e _ h⟩)
  · exact .inr h
theorem sqL_mono {K : PySem.W.Frag} {H H' : Hp} {a : Addr} {xs : List V} (e : ∀ o, H a = some o → H' a = some o) (h : SqL K H a xs) : SqL K H' a xs := by
  rcases h with (h | ⟨o, h⟩) | h
  · exact .inl (.inl (e _ h))
  · exact .inl (.inr ⟨o, e _ h⟩)
  · exact .inr h

mutual
theorem Rp.mono {K : PySem.W.Frag} {F F' : Hp} (s : Same F F') : ∀ (d : PyData) (v : V), Rp K F v d → Rp K F' v d
  | .none, v, h => by unfold Rp at h ⊢; exact h
  | .bool b, v, h => by unfold Rp at h ⊢; exact h
  | .int i, v, h => by unfold Rp at h ⊢; exact h
  | .str x, v, h => by unfold Rp at h ⊢; exact h
  | .list ds, v, h => by
    unfold Rp at h ⊢
    obtain ⟨a, xs, e, q, r⟩ := h
    exact ⟨a, xs, e, s _ _ q, RpL.mono s ds xs r⟩
  | .tuple ds, v, h => by
    unfold Rp at h ⊢
    obtain ⟨a, xs, e, q, r⟩ := h
    exact ⟨a, xs, e, sqT_mono (s a) q, RpL.mono s ds xs r⟩
  | .dict kvs, v, h => by
    unfold Rp at h ⊢
    obtain ⟨a, ps, e, q, r⟩ := h
    exact ⟨a, ps, e, s _ _ q, RpK.mono s kvs ps r⟩
theorem RpL.mono {K : PySem.W.Frag} {F F' : Hp} (s : Same F F') : ∀ (ds : List PyData) (vs : List V), RpL K F vs ds → RpL K F' vs ds
  | [], vs, h => by unfold RpL at h ⊢; exact h
  | d :: ds, vs, h => by
    unfold RpL at h ⊢
    obtain ⟨x, r, e, h1, h2⟩ := h
    exact ⟨x, r, e, Rp.mono s d x h1, RpL.mono s ds r h2⟩
theorem RpK.mono {K : PySem.W.Frag} {F F' : Hp} (s : Same F F') : ∀ (ds : List (PyData × PyData)) (vs : List (Key × V)), RpK K F vs ds → RpK K F' vs ds
  | [], vs, h => by unfold RpK at h ⊢; exact h
  | (k, d) :: ds, vs, h => by
    unfold RpK at h ⊢
    obtain ⟨x, r, e, h1, h2, h3⟩ := h
    exact ⟨x, r, e, Rp.mono s k _ h1, Rp.mono s d _ h2, RpK.mono s ds r h3⟩
end

mutual
/-- no dict within -/
def nod : PyData → Bool
  | .list ds => nodL ds
  | .tuple ds => nodL ds
  | .dict _ => false
  | _ => true
def nodL : List PyData → Bool
  | [] => true
  | d :: ds => nod d && nodL ds
end
mutual
theorem Rp.dp {K : PySem.W.Frag} {F : Hp} : ∀ (d : PyData) (v : V), nod d = true → Rp K F v d → Dp K F v d
  | .none, v, _, h => by unfold Rp at h; subst h; exact .non
  | .bool b, v, _, h => by unfold Rp at h; subst h; exact .bl b
  | .int i, v, _, h => by unfold Rp at h; subst h; exact .int i
  | .str x, v, _, h => by unfold Rp at h; subst h; exact .str x
  | .list ds, v, n, h => by
    unfold Rp at h
    obtain ⟨a, xs, rfl, q, r⟩ := h
    exact .lst (.of q) (RpL.dp ds xs (by unfold nod at n; exact n) r)
  | .tuple ds, v, n, h => by
    unfold Rp at h
    obtain ⟨a, xs, rfl, q, r⟩ := h
    exact .tup q (RpL.dp ds xs (by unfold nod at n; exact n) r)
  | .dict kvs, v, n, h => by unfold nod at n; cases n
theorem RpL.dp {K : PySem.W.Frag} {F : Hp} : ∀ (ds : List PyData) (vs : List V), nodL ds = true → RpL K F vs ds → DpAll K F vs ds
  | [], vs, _, h => by unfold RpL at h; subst h; exact .nil
  | d :: ds, vs, n, h => by
    unfold RpL at h
    obtain ⟨x, r, rfl, h1, h2⟩ := h
    unfold nodL at n
    have n2 := (Bool.and_eq_true _ _).mp n
    exact .cons (Rp.dp d x n2.1 h1) (RpL.dp ds r n2.2 h2)
end

theorem RpL.length {K : PySem.W.Frag} {F : Hp} : ∀ {ds : List PyData} {vs : List V}, RpL K F vs ds → vs.length = ds.length
  | [], vs, h => by unfold RpL at h; subst h; rfl
  | d :: ds, vs, h => by
    unfold RpL at h
    obtain ⟨x, r, rfl, _, h2⟩ := h
    rw [List.length_cons, List.length_cons, RpL.length h2]
theorem RpL.get {K : PySem.W.Frag} {F : Hp} : ∀ {ds : List PyData} {vs : List V} {i : Nat} {d : PyData}, RpL K F vs ds → ds[i]? = some d → ∃ v, vs[i]? = some v ∧ Rp K F v d
  | [], vs, i, d, _, e => by simp at e
  | d :: ds, vs, 0, d', h, e => by
    unfold RpL at h
    obtain ⟨x, r, rfl, h1, h2⟩ := h
    simp at e
    subst e
    exact ⟨x, rfl, h1⟩
  | d :: ds, vs, i + 1, d', h, e => by
    unfold RpL at h
    obtain ⟨x, r, rfl, h1, h2⟩ := h
    have e' : ds[i]? = some d' := by simpa using e
    obtain ⟨v, ev, hv⟩ := RpL.get h2 e'
    exact ⟨v, by simpa using ev, hv⟩

/-! ## symbolic values, the owned heap -/
/-- un: nothing is known; d: frozen data; vw: data that stand still while the def runs; r: the n-th owned object -/
inductive SV where
  | un | d (x : PyData) | vw (x : PyData) | r (n : Nat) | sc (x : List Int) | ex (c : Str)
/-- the script: whole numbers, read only -/
def RpS (K : PySem.W.Frag) (H : Hp) (v : V) (ns : List Int) : Prop := ∃ a, v = .ref a ∧ SqL K H a (ns.map V.int)
/-- an owned object -/
inductive AO where
  | lst (xs : List SV)
  | dct (kvs : List (Key × SV))
  | tup (xs : List SV)
abbrev AH := List (Option AO)
/-- tuples: never changed, so known to stand still; what they hold may be changed -/
def AO.isT : AO → Bool
  | .tup _ => true
  | _ => false

mutual
/-- immutable through and through -/
def imm : PyData → Bool
  | .list _ => false
  | .tuple ds => immL ds
  | .dict _ => false
  | _ => true
def immL : List PyData → Bool
  | [] => true
  | d :: ds => imm d && immL ds
end
/-- a part of a view -/
def mkv (x : PyData) : SV := if imm x then .d x else .vw x

/-- the entry: what stands still (G), what was frozen (F0); the world now: addresses of the owned, the frozen -/
structure En where
  K : PySem.W.Frag
  G : Hp
  F0 : Hp
  ex : Option Value
def En.ok (en : En) (X : Cx) : Prop := en.K = X.K ∧ en.ex = X.A.handled
structure Wd where
  rho : List Addr
  F : Hp
def Wd.le (w w' : Wd) : Prop := w.rho <+: w'.rho ∧ Same w.F w'.F
theorem Wd.le.refl (w : Wd) : w.le w := ⟨List.prefix_refl _, Same.refl _⟩
theorem Wd.le.trans {a b c : Wd} (h : a.le b) (k : b.le c) : a.le c := ⟨h.1.trans k.1, h.2.trans k.2⟩

def RS (en : En) (w : Wd) (v : V) : SV → Prop
  | .un => True
  | .d x => Rp en.K w.F v x
  | .vw x => Rp en.K en.G v x
  | .r n => ∃ a, w.rho[n]? = some a ∧ v = .ref a
  | .sc ns => RpS en.K en.G v ns
  | .ex _ => ∃ a, v = .ref a ∧ en.ex = some (.ref a)
def RSL (en : En) (w : Wd) (vs : List V) : List SV → Prop
  | [] => vs = []
  | s :: ss => ∃ x r, vs = x :: r ∧ RS en w x s ∧ RSL en w r ss
theorem prefix_get {α : Type} {a b : List α} (h : a <+: b) {n : Nat} {x : α} (e : a[n]? = some x) : b[n]? = some x := by
  obtain ⟨t, rfl⟩ := h
  rw [List.getElem?_append_left (List.getElem?_eq_some_iff.mp e).1]
  exact e
theorem RS.mono {en : En} {w w' : Wd} (h : w.le w') {v : V} : ∀ {s : SV}, RS en w v s → RS en w' v s
  | .un, _ => trivial
  | .d x, q => Rp.mono h.2 x v q
  | .vw x, q => q
  | .r n, ⟨a, e, z⟩ => ⟨a, prefix_get h.1 e, z⟩
  | .sc _, q => q
  | .ex _, q => q
theorem RSL.mono {en : En} {w w' : Wd} (h : w.le w') : ∀ {ss : List SV} {vs : List V}, RSL en w vs ss → RSL en w' vs ss
  | [], _, q => q
  | s :: ss, vs, ⟨x, r, e, a, b⟩ => ⟨x, r, e, RS.mono h a, RSL.mono h b⟩
theorem RSL.length {en : En} {w : Wd} : ∀ {ss : List SV} {vs : List V}, RSL en w vs ss → vs.length = ss.length
  | [], vs, h => by cases h; rfl
  | s :: ss, vs, ⟨x, r, e, a, b⟩ => by rw [e, List.length_cons, List.length_cons, RSL.length b]
theorem RSL.get {en : En} {w : Wd} : ∀ {ss : List SV} {vs : List V} {i : Nat} {s : SV}, RSL en w vs ss → ss[i]? = some s → ∃ v, vs[i]? = some v ∧ RS en w v s
  | [], vs, i, s, _, e => by simp at e
  | s :: ss, vs, 0, s', ⟨x, r, e, a, b⟩, q => by
    simp at q
    subst q
    exact ⟨x, by rw [e]; rfl, a⟩
  | s :: ss, vs, i + 1, s', ⟨x, r, e, a, b⟩, q => by
    have q' : ss[i]? = some s' := by simpa using q
    obtain ⟨v, ev, hv⟩ := RSL.get b q'
    exact ⟨v, by rw [e]; simpa using ev, hv⟩
theorem RSL.app {en : En} {w : Wd} : ∀ {ss ts : List SV} {vs us : List V}, RSL en w vs ss → RSL en w us ts → RSL en w (vs ++ us) (ss ++ ts)
  | [], ts, vs, us, h, k => by cases h; exact k
  | s :: ss, ts, vs, us, ⟨x, r, e, a, b⟩, k => ⟨x, r ++ us, by rw [e]; rfl, a, RSL.app b k⟩
theorem RSL.set {en : En} {w : Wd} {v : V} {s : SV} (q : RS en w v s) : ∀ {ss : List SV} {vs : List V} (i : Nat), RSL en w vs ss → RSL en w (vs.set i v) (ss.set i s)
  | [], vs, i, h => by cases h; cases i <;> exact rfl
  | t :: ss, vs, 0, ⟨x, r, e, a, b⟩ => by subst e; exact ⟨v, r, rfl, q, b⟩
  | t :: ss, vs, i + 1, ⟨x, r, e, a, b⟩ => by subst e; exact ⟨x, r.set i v, rfl, a, RSL.set q i b⟩
/-- data as symbolic values -/
theorem RSL.ofRp {en : En} {w : Wd} : ∀ {ds : List PyData} {vs : List V}, RpL en.K w.F vs ds → RSL en w vs (ds.map SV.d)
  | [], vs, h => by unfold RpL at h; exact h
  | d :: ds, vs, h => by
    unfold RpL at h
    obtain ⟨x, r, e, h1, h2⟩ := h
    exact ⟨x, r, e, h1, RSL.ofRp h2⟩

/-- all tuples of H are frozen, and what is known whole -/
def TupIn (H F : Hp) : Prop := (∀ a xs, H a = some (.tup xs) → F a = some (.tup xs)) ∧ ∀ a o u, H a = some (.frz o u) → F a = some (.frz o u)
mutual
theorem Rp.immF {K : PySem.W.Frag} {G H F : Hp} (s : Same G H) (t : TupIn H F) : ∀ (d : PyData) (v : V), imm d = true → Rp K G v d → Rp K F v d
  | .none, v, _, h => by unfold Rp at h ⊢; exact h
  | .bool b, v, _, h => by unfold Rp at h ⊢; exact h
  | .int i, v, _, h => by unfold Rp at h ⊢; exact h
  | .str x, v, _, h => by unfold Rp at h ⊢; exact h
  | .list ds, v, n, h => by unfold imm at n; cases n
  | .tuple ds, v, n, h => by
    unfold Rp at h ⊢
    obtain ⟨a, xs, rfl, q, r⟩ := h
    refine ⟨a, xs, rfl, ?_, RpL.immF s t ds xs (by unfold imm at n; exact n) r⟩
    rcases q with (q | ⟨o, q⟩) | q
    · exact .inl (.inl (t.1 _ _ (s _ _ q)))
    · exact .inl (.inr ⟨o, t.2 _ _ _ (s _ _ q)⟩)
    · exact .inr q
  | .dict kvs, v, n, h => by unfold imm at n; cases n
theorem RpL.immF {K : PySem.W.Frag} {G H F : Hp} (s : Same G H) (t : TupIn H F) : ∀ (ds : List PyData) (vs : List V), immL ds = true → RpL K G vs ds → RpL K F vs ds
  | [], vs, _, h => by unfold RpL at h ⊢; exact h
  | d :: ds, vs, n, h => by
    unfold RpL at h ⊢
    obtain ⟨x, r, e, h1, h2⟩ := h
    unfold immL at n
    have n2 := (Bool.and_eq_true _ _).mp n
    exact ⟨x, r, e, Rp.immF s t d x n2.1 h1, RpL.immF s t ds r n2.2 h2⟩
end

/-! ## the state -/
def AOk (en : En) (w : Wd) (H : Hp) (a : Addr) : AO → Prop
  | .tup xs => ∃ vs, H a = some (.tup vs) ∧ RSL en w vs xs
  | .lst xs => ∃ vs, H a = some (.lst vs) ∧ RSL en w vs xs
  | .dct kvs => ∃ kws : List (Key × V), H a = some (.dK kws) ∧ kws.map Prod.fst = kvs.map Prod.fst ∧ RSL en w (kws.map Prod.snd) (kvs.map Prod.snd)
structure SimH (en : En) (w : Wd) (H : Hp) (h : AH) : Prop where
  gh : Same en.G H
  fh : Same w.F H
  f0 : Same en.F0 w.F
  nw : ∀ a o, w.F a = some o → en.F0 a = some o ∨ en.G a = none
  ti : TupIn H w.F
  len : w.rho.length = h.length
  live : ∀ (n : Nat) (o : AO), h[n]? = some (some o) → ∃ a, w.rho[n]? = some a ∧ AOk en w H a o ∧ (o.isT = false → w.F a = none) ∧ en.G a = none
  sep : ∀ (n m : Nat) (a : Addr) (o1 o2 : AO), h[n]? = some (some o1) → h[m]? = some (some o2) → w.rho[n]? = some a → w.rho[m]? = some a → n = m
def Slt (en : En) (w : Wd) (σ : St) (sl : List SV) : Prop := sl.length = σ.length ∧ ∀ (i : Nat) (s : SV), sl[i]? = some s → s = .un ∨ ∃ v, σ[i]? = some (some v) ∧ RS en w v s
structure Sim (en : En) (w : Wd) (σ : St) (H : Hp) (sl : List SV) (h : AH) : Prop extends SimH en w H h where
  slots : Slt en w σ sl

theorem Slt.mono {en : En} {w w' : Wd} {σ : St} {sl : List SV} (k : w.le w') (q : Slt en w σ sl) : Slt en w' σ sl :=
  ⟨q.1, fun i s e => (q.2 i s e).imp_right fun ⟨v, ev, r⟩ => ⟨v, ev, RS.mono k r⟩⟩
theorem AOk.mono {en : En} {w w' : Wd} {H H' : Hp} {a : Addr} {o : AO} (k : w.le w') (e : H' a = H a) (q : AOk en w H a o) : AOk en w' H' a o := by
  cases o with
  | lst xs =>
    obtain ⟨vs, e1, r⟩ := q
    exact ⟨vs, e.trans e1, RSL.mono k r⟩
  | dct kvs =>
    obtain ⟨vs, e1, ek, r⟩ := q
    exact ⟨vs, e.trans e1, ek, RSL.mono k r⟩
  | tup xs =>
    obtain ⟨vs, e1, r⟩ := q
    exact ⟨vs, e.trans e1, RSL.mono k r⟩
theorem AOk.some {en : En} {w : Wd} {H : Hp} {a : Addr} {o : AO} (q : AOk en w H a o) : ∃ u, H a = some u ∧ (o.isT = false → ∀ xs, u ≠ .tup xs) ∧ ∀ ob u', u ≠ .frz ob u' := by
  cases o with
  | lst xs =>
    obtain ⟨vs, e1, r⟩ := q
    exact ⟨_, e1, (fun _ _ z => by cases z), (fun _ _ z => by cases z)⟩
  | dct kvs =>
    obtain ⟨vs, e1, ek, r⟩ := q
    exact ⟨_, e1, (fun _ _ z => by cases z), (fun _ _ z => by cases z)⟩
  | tup xs =>
    obtain ⟨vs, e1, r⟩ := q
    exact ⟨_, e1, (fun z => by cases z), (fun _ _ z => by cases z)⟩

section
variable {en : En} {w w' : Wd} {σ : St} {H : Hp} {sl : List SV} {h : AH}
theorem SimH.G_none (S : SimH en w H h) {p : Addr} (n : H p = none) : en.G p = none := S.gh.free n
theorem SimH.F_none (S : SimH en w H h) {p : Addr} (n : H p = none) : w.F p = none := S.fh.free n
/-- a new frozen object -/
def Wd.fz (w : Wd) (p : Addr) (o : HO) : Wd := ⟨w.rho, upd w.F p o⟩
theorem le_fz {p : Addr} {o : HO} (n : w.F p = none) : w.le (w.fz p o) := ⟨List.prefix_refl _, fun b u e => by
  show upd w.F p o b = some u
  rw [upd_ne (ne_of_none e n)]; exact e⟩
theorem SimH.newF (S : SimH en w H h) {p : Addr} {o : HO} (n : H p = none) (hf : ∀ ob u, o ≠ .frz ob u) : SimH en (w.fz p o) (upd H p o) h where
  gh := fun b u e => by rw [upd_ne (ne_of_none e (S.G_none n))]; exact S.gh b u e
  fh := fun b u e => by
    have e : upd w.F p o b = some u := e
    by_cases hb : b = p
    · subst hb; rw [upd_same] at e ⊢; exact e
    · rw [upd_ne hb] at e ⊢; exact S.fh b u e
  f0 := S.f0.trans (le_fz (S.F_none n)).2
  nw := fun b u e => by
    have e : upd w.F p o b = some u := e
    by_cases hb : b = p
    · subst hb; exact .inr (S.G_none n)
    · rw [upd_ne hb] at e; exact S.nw b u e
  ti := ⟨fun b xs e => by
      show upd w.F p o b = _
      by_cases hb : b = p
      · subst hb; rw [upd_same] at e ⊢; exact e
      · rw [upd_ne hb] at e ⊢; exact S.ti.1 b xs e, fun b ob u e => by
      show upd w.F p o b = _
      by_cases hb : b = p
      · subst hb; rw [upd_same] at e ⊢; exact e
      · rw [upd_ne hb] at e ⊢; exact S.ti.2 b ob u e⟩
  len := S.len
  live := fun m ob e => by
    obtain ⟨a, e1, q, f, g⟩ := S.live m ob e
    obtain ⟨u, eu, _, _⟩ := q.some
    have ne : a ≠ p := ne_of_none eu n
    exact ⟨a, e1, q.mono (le_fz (S.F_none n)) (upd_ne ne), fun t => by show upd w.F p o a = none; rw [upd_ne ne]; exact f t, g⟩
  sep := S.sep
theorem Sim.newF (S : Sim en w σ H sl h) {p : Addr} {o : HO} (n : H p = none) (hf : ∀ ob u, o ≠ .frz ob u) : Sim en (w.fz p o) σ (upd H p o) sl h :=
  ⟨S.toSimH.newF n hf, S.slots.mono (le_fz (S.F_none n))⟩
/-- a new owned object -/
def Wd.ow (w : Wd) (p : Addr) : Wd := ⟨w.rho ++ [p], w.F⟩
theorem le_ow {p : Addr} : w.le (w.ow p) := ⟨List.prefix_append _ _, Same.refl _⟩
theorem SimH.newAO (S : SimH en w H h) {p : Addr} {hu : HO} {ao : AO} (n : H p = none) (nt : ∀ xs, hu ≠ .tup xs) (nf : ∀ ob u, hu ≠ .frz ob u) (r : ∀ H2 : Hp, H2 p = some hu → AOk en w H2 p ao) : SimH en (w.ow p) (upd H p hu) (h ++ [some ao]) where
  gh := fun b u e => by rw [upd_ne (ne_of_none e (S.G_none n))]; exact S.gh b u e
  fh := fun b u e => by
    have e : w.F b = some u := e
    rw [upd_ne (ne_of_none e (S.F_none n))]; exact S.fh b u e
  f0 := S.f0
  nw := S.nw
  ti := ⟨fun b ys e => by
      by_cases hb : b = p
      · subst hb; rw [upd_same] at e; exact absurd (Option.some.inj e) (nt ys)
      · rw [upd_ne hb] at e; exact S.ti.1 b ys e, fun b ob u e => by
      by_cases hb : b = p
      · subst hb; rw [upd_same] at e; exact absurd (Option.some.inj e) (nf ob u)
      · rw [upd_ne hb] at e; exact S.ti.2 b ob u e⟩
  len := by show (w.rho ++ [p]).length = _; rw [List.length_append, List.length_append, S.len]; rfl
  live := fun m ob e => by
    by_cases hm : m < h.length
    · rw [List.getElem?_append_left hm] at e
      obtain ⟨a, e1, q, f, g⟩ := S.live m ob e
      obtain ⟨u, eu, _, _⟩ := q.some
      have ne : a ≠ p := ne_of_none eu n
      exact ⟨a, prefix_get le_ow.1 e1, q.mono le_ow (upd_ne ne), f, g⟩
    · rw [List.getElem?_append_right (by omega)] at e
      have hm0 : m - h.length = 0 := by
        cases k : m - h.length with
        | zero => rfl
        | succ j => rw [k] at e; simp at e
      have em : m = h.length := by omega
      subst em
      rw [hm0] at e
      simp at e
      subst e
      refine ⟨p, ?_, (r _ upd_same).mono le_ow rfl, fun _ => S.F_none n, S.G_none n⟩
      show (w.rho ++ [p])[h.length]? = some p
      rw [← S.len, List.getElem?_append_right (Nat.le_refl _)]
      simp
  sep := fun i j a o1 o2 e1 e2 a1 a2 => by
    have old : ∀ m o, m < h.length → (h ++ [some ao])[m]? = some (some o) → (w.rho ++ [p])[m]? = some a → a ≠ p := fun m o hm e k => by
      rw [List.getElem?_append_left hm] at e
      obtain ⟨b, e3, q, _, _⟩ := S.live m o e
      obtain ⟨u, eu, _, _⟩ := q.some
      have : b = a := by
        rw [List.getElem?_append_left (by rw [S.len]; exact hm), e3] at k
        exact Option.some.inj k
      rw [← this]
      exact ne_of_none eu n
    have lt : ∀ m o, (h ++ [some ao])[m]? = some (some o) → m < h.length ∨ m = h.length := fun m o e => by
      have := (List.getElem?_eq_some_iff.mp e).1
      rw [List.length_append] at this
      simp at this
      omega
    have new : (w.rho ++ [p])[h.length]? = some p := by
      rw [← S.len, List.getElem?_append_right (Nat.le_refl _)]
      simp
    rcases lt i _ e1 with hi | hi <;> rcases lt j _ e2 with hj | hj
    · rw [List.getElem?_append_left hi] at e1
      rw [List.getElem?_append_left hj] at e2
      refine S.sep i j a o1 o2 e1 e2 ?_ ?_
      · have a1 : (w.rho ++ [p])[i]? = some a := a1
        rw [List.getElem?_append_left (by rw [S.len]; exact hi)] at a1; exact a1
      · have a2 : (w.rho ++ [p])[j]? = some a := a2
        rw [List.getElem?_append_left (by rw [S.len]; exact hj)] at a2; exact a2
    · have ne := old i o1 hi e1 a1
      rw [hj] at a2
      exact absurd (Option.some.inj (a2.symm.trans new)) ne
    · have ne := old j o2 hj e2 a2
      rw [hi] at a1
      exact absurd (Option.some.inj (a1.symm.trans new)) ne
    · omega
/-- a new owned tuple -/
theorem SimH.newT (S : SimH en w H h) {p : Addr} {vs : List V} {xs : List SV} (n : H p = none) (r : RSL en w vs xs) : SimH en ((w.fz p (.tup vs)).ow p) (upd H p (.tup vs)) (h ++ [some (.tup xs)]) := by
  have S1 := S.newF (o := .tup vs) n (fun _ _ z => by cases z)
  have k1 : w.le (w.fz p (.tup vs)) := le_fz (S.F_none n)
  refine ⟨S1.gh, S1.fh, S1.f0, S1.nw, S1.ti, ?_, fun m ob e => ?_, fun i j a o1 o2 e1 e2 a1 a2 => ?_⟩
  · show (w.rho ++ [p]).length = _
    rw [List.length_append, List.length_append, S.len]; rfl
  · by_cases hm : m < h.length
    · rw [List.getElem?_append_left hm] at e
      obtain ⟨a, e1, q, f, g⟩ := S1.live m ob e
      exact ⟨a, prefix_get le_ow.1 e1, q.mono le_ow rfl, f, g⟩
    · rw [List.getElem?_append_right (by omega)] at e
      have hm0 : m - h.length = 0 := by
        cases k : m - h.length with
        | zero => rfl
        | succ j => rw [k] at e; simp at e
      have em : m = h.length := by omega
      subst em
      rw [hm0] at e
      simp at e
      subst e
      refine ⟨p, ?_, ⟨vs, upd_same, RSL.mono le_ow (RSL.mono k1 r)⟩, (fun z => by cases z), S.G_none n⟩
      show (w.rho ++ [p])[h.length]? = some p
      rw [← S.len, List.getElem?_append_right (Nat.le_refl _)]
      simp
  · have old : ∀ m o, m < h.length → (h ++ [some (AO.tup xs)])[m]? = some (some o) → (w.rho ++ [p])[m]? = some a → a ≠ p := fun m o hm e k => by
      rw [List.getElem?_append_left hm] at e
      obtain ⟨b, e3, q, _, _⟩ := S.live m o e
      obtain ⟨u, eu, _, _⟩ := q.some
      have : b = a := by
        rw [List.getElem?_append_left (by rw [S.len]; exact hm), e3] at k
        exact Option.some.inj k
      rw [← this]
      exact ne_of_none eu n
    have lt : ∀ m o, (h ++ [some (AO.tup xs)])[m]? = some (some o) → m < h.length ∨ m = h.length := fun m o e => by
      have := (List.getElem?_eq_some_iff.mp e).1
      rw [List.length_append] at this
      simp at this
      omega
    have new : (w.rho ++ [p])[h.length]? = some p := by
      rw [← S.len, List.getElem?_append_right (Nat.le_refl _)]
      simp
    rcases lt i _ e1 with hi | hi <;> rcases lt j _ e2 with hj | hj
    · rw [List.getElem?_append_left hi] at e1
      rw [List.getElem?_append_left hj] at e2
      refine S.sep i j a o1 o2 e1 e2 ?_ ?_
      · have a1 : (w.rho ++ [p])[i]? = some a := a1
        rw [List.getElem?_append_left (by rw [S.len]; exact hi)] at a1; exact a1
      · have a2 : (w.rho ++ [p])[j]? = some a := a2
        rw [List.getElem?_append_left (by rw [S.len]; exact hj)] at a2; exact a2
    · have ne := old i o1 hi e1 a1
      rw [hj] at a2
      exact absurd (Option.some.inj (a2.symm.trans new)) ne
    · have ne := old j o2 hj e2 a2
      rw [hi] at a1
      exact absurd (Option.some.inj (a1.symm.trans new)) ne
    · omega
theorem Sim.newT (S : Sim en w σ H sl h) {p : Addr} {vs : List V} {xs : List SV} (n : H p = none) (r : RSL en w vs xs) : Sim en ((w.fz p (.tup vs)).ow p) σ (upd H p (.tup vs)) sl (h ++ [some (.tup xs)]) :=
  ⟨S.toSimH.newT n r, S.slots.mono ((le_fz (S.toSimH.F_none n)).trans le_ow)⟩
theorem SimH.newO (S : SimH en w H h) {p : Addr} {vs : List V} {xs : List SV} (n : H p = none) (r : RSL en w vs xs) : SimH en (w.ow p) (upd H p (.lst vs)) (h ++ [some (.lst xs)]) :=
  S.newAO n (fun _ z => by cases z) (fun _ _ z => by cases z) fun _ e => ⟨vs, e, r⟩
theorem Sim.newO (S : Sim en w σ H sl h) {p : Addr} {vs : List V} {xs : List SV} (n : H p = none) (r : RSL en w vs xs) : Sim en (w.ow p) σ (upd H p (.lst vs)) sl (h ++ [some (.lst xs)]) :=
  ⟨S.toSimH.newO n r, S.slots.mono le_ow⟩
theorem SimH.rs_new (S : SimH en w H h) {p : Addr} : RS en (w.ow p) (.ref p) (.r h.length) := ⟨p, by
  show (w.rho ++ [p])[h.length]? = some p
  rw [← S.len, List.getElem?_append_right (Nat.le_refl _)]
  simp, rfl⟩
/-- an owned object is changed -/
theorem SimH.writeAO (S : SimH en w H h) {n : Nat} {a : Addr} {o : AO} {hu : HO} {ao : AO} (e : h[n]? = some (some o)) (ha : w.rho[n]? = some a) (mt : ∀ xs, hu ≠ .tup xs) (mf : ∀ ob u, hu ≠ .frz ob u) (r : ∀ H2 : Hp, H2 a = some hu → AOk en w H2 a ao) (ot : o.isT = false := by rfl) : SimH en w (upd H a hu) (h.set n (some ao)) := by
  obtain ⟨a', e1, q, f, g⟩ := S.live n o e
  have ea : a' = a := Option.some.inj (e1.symm.trans ha)
  subst ea
  have f := f ot
  obtain ⟨u, eu, nt, nf⟩ := q.some
  have hn : n < h.length := (List.getElem?_eq_some_iff.mp e).1
  refine ⟨fun b u' z => ?_, fun b u' z => ?_, S.f0, S.nw, ⟨fun b ys z => ?_, fun b ob u' z => ?_⟩, by rw [List.length_set]; exact S.len, fun m ob z => ?_, fun i j b o1 o2 z1 z2 b1 b2 => ?_⟩
  · have ne : b ≠ a' := fun k => by rw [k, g] at z; cases z
    rw [upd_ne ne]; exact S.gh b u' z
  · have ne : b ≠ a' := fun k => by rw [k, f] at z; cases z
    rw [upd_ne ne]; exact S.fh b u' z
  · by_cases hb : b = a'
    · subst hb; rw [upd_same] at z; exact absurd (Option.some.inj z) (mt ys)
    · rw [upd_ne hb] at z; exact S.ti.1 b ys z
  · by_cases hb : b = a'
    · subst hb; rw [upd_same] at z; exact absurd (Option.some.inj z) (mf ob u')
    · rw [upd_ne hb] at z; exact S.ti.2 b ob u' z
  · by_cases hm : m = n
    · subst hm
      rw [List.getElem?_set_self hn] at z
      cases z
      exact ⟨a', ha, r _ upd_same, fun _ => f, g⟩
    · rw [List.getElem?_set_ne (Ne.symm hm)] at z
      obtain ⟨b, e2, q2, f2, g2⟩ := S.live m ob z
      have ne : b ≠ a' := fun k => by subst k; exact hm (S.sep m n b ob o z e e2 ha)
      exact ⟨b, e2, q2.mono (Wd.le.refl w) (upd_ne ne), f2, g2⟩
  · have get : ∀ m o', (h.set n (some ao))[m]? = some (some o') → ∃ o'', h[m]? = some (some o'') := fun m o' z => by
      by_cases hm : m = n
      · subst hm; exact ⟨o, e⟩
      · rw [List.getElem?_set_ne (Ne.symm hm)] at z; exact ⟨_, z⟩
    obtain ⟨p1, k1⟩ := get i o1 z1
    obtain ⟨p2, k2⟩ := get j o2 z2
    exact S.sep i j b p1 p2 k1 k2 b1 b2
theorem SimH.write (S : SimH en w H h) {n : Nat} {a : Addr} {o : AO} {vs : List V} {xs : List SV} (e : h[n]? = some (some o)) (ha : w.rho[n]? = some a) (r : RSL en w vs xs) (ot : o.isT = false := by rfl) : SimH en w (upd H a (.lst vs)) (h.set n (some (.lst xs))) :=
  S.writeAO e ha (fun _ z => by cases z) (fun _ _ z => by cases z) (fun _ e => ⟨vs, e, r⟩) ot
theorem Sim.write (S : Sim en w σ H sl h) {n : Nat} {a : Addr} {o : AO} {vs : List V} {xs : List SV} (e : h[n]? = some (some o)) (ha : w.rho[n]? = some a) (r : RSL en w vs xs) (ot : o.isT = false := by rfl) : Sim en w σ (upd H a (.lst vs)) sl (h.set n (some (.lst xs))) :=
  ⟨S.toSimH.write e ha r ot, S.slots⟩
/-- an owned list whose items are frozen is frozen -/
theorem SimH.le_own (S : SimH en w H h) {n : Nat} {a : Addr} {o : AO} {hu : HO} (e : h[n]? = some (some o)) (ha : w.rho[n]? = some a) (hv : H a = some hu) : w.le (w.fz a hu) := by
  obtain ⟨a', e1, q, f, g⟩ := S.live n o e
  have ea : a' = a := Option.some.inj (e1.symm.trans ha)
  subst ea
  cases o with
  | tup xs =>
    obtain ⟨vs, hv2, _⟩ := q
    have hu2 : HO.tup vs = hu := Option.some.inj (hv2.symm.trans hv)
    subst hu2
    have hF := S.ti.1 a' vs hv2
    refine ⟨List.prefix_refl _, fun b u z => ?_⟩
    show upd w.F a' (.tup vs) b = some u
    by_cases hb : b = a'
    · subst hb
      rw [upd_same, ← hF]; exact z
    · rw [upd_ne hb]; exact z
  | lst xs => exact le_fz (f rfl)
  | dct kvs => exact le_fz (f rfl)
theorem SimH.freeze (S : SimH en w H h) {n : Nat} {a : Addr} {o : AO} {hu : HO} (e : h[n]? = some (some o)) (ha : w.rho[n]? = some a) (hv : H a = some hu) : SimH en (w.fz a hu) H (h.set n none) := by
  obtain ⟨a', e1, q, f, g⟩ := S.live n o e
  have ea : a' = a := Option.some.inj (e1.symm.trans ha)
  subst ea
  have kk : w.le (w.fz a' hu) := S.le_own e ha hv
  refine ⟨S.gh, fun b u z => ?_, S.f0.trans kk.2, fun b u z => ?_, ⟨fun b ys z => kk.2 _ _ (S.ti.1 b ys z), fun b ob u z => kk.2 _ _ (S.ti.2 b ob u z)⟩, by rw [List.length_set]; exact S.len, fun m ob z => ?_, fun i j b o1 o2 z1 z2 b1 b2 => ?_⟩
  · have z : upd w.F a' hu b = some u := z
    by_cases hb : b = a'
    · subst hb; rw [upd_same] at z; rw [hv]; exact z
    · rw [upd_ne hb] at z; exact S.fh b u z
  · have z : upd w.F a' hu b = some u := z
    by_cases hb : b = a'
    · subst hb; exact .inr g
    · rw [upd_ne hb] at z; exact S.nw b u z
  · have hm : m ≠ n := fun k => by
      subst k
      rw [List.getElem?_set_self (List.getElem?_eq_some_iff.mp e).1] at z
      cases z
    rw [List.getElem?_set_ne (Ne.symm hm)] at z
    obtain ⟨b, e2, q2, f2, g2⟩ := S.live m ob z
    have ne : b ≠ a' := fun k => by subst k; exact hm (S.sep m n b ob o z e e2 ha)
    exact ⟨b, e2, q2.mono kk rfl, fun t => by show upd w.F a' hu b = none; rw [upd_ne ne]; exact f2 t, g2⟩
  · have get : ∀ m o', (h.set n none)[m]? = some (some o') → h[m]? = some (some o') := fun m o' z => by
      by_cases hm : m = n
      · subst hm
        rw [List.getElem?_set_self (List.getElem?_eq_some_iff.mp e).1] at z
        cases z
      · rw [List.getElem?_set_ne (Ne.symm hm)] at z; exact z
    exact S.sep i j b o1 o2 (get i o1 z1) (get j o2 z2) b1 b2
theorem Sim.freeze (S : Sim en w σ H sl h) {n : Nat} {a : Addr} {o : AO} {hu : HO} (e : h[n]? = some (some o)) (ha : w.rho[n]? = some a) (hv : H a = some hu) : Sim en (w.fz a hu) σ H sl (h.set n none) :=
  ⟨S.toSimH.freeze e ha hv, S.slots.mono (S.toSimH.le_own e ha hv)⟩
end

/-! ## reading a symbolic value as a datum; freezing -/
/-- a key as a datum -/
def kD : Key → PyData
  | .inl i => .int i
  | .inr x => .str x
theorem kD_ok {K : PySem.W.Frag} {F : Hp} (k : Key) : Rp K F (kV k) (kD k) := by
  cases k <;> (unfold kD Rp; rfl)
def zipD (ks : List Key) (ds : List PyData) : List (PyData × PyData) := (ks.map kD).zip ds
theorem zipD_ok {K : PySem.W.Frag} {F : Hp} : ∀ {kws : List (Key × V)} {ds : List PyData}, RpL K F (kws.map Prod.snd) ds → RpK K F kws (zipD (kws.map Prod.fst) ds)
  | [], ds, r => by unfold zipD; rw [List.map_nil, List.map_nil, List.zip_nil_left]; unfold RpK; rfl
  | p :: q, [], r => by rw [List.map_cons] at r; unfold RpL at r; cases r
  | p :: q, d :: ds, r => by
    rw [List.map_cons] at r
    unfold RpL at r
    obtain ⟨x, y, e, h1, h2⟩ := r
    have e1 := (List.cons.inj e).1
    have e2 := (List.cons.inj e).2
    show RpK K F (p :: q) ((kD p.1, d) :: zipD (q.map Prod.fst) ds)
    unfold RpK
    exact ⟨p, q, rfl, kD_ok p.1, e1 ▸ h1, zipD_ok (e2 ▸ h2)⟩
mutual
def rb (h : AH) : Nat → SV → Option PyData
  | _, .un => none
  | _, .d x => some x
  | _, .vw x => some x
  | _, .sc _ => none
  | _, .ex _ => none
  | 0, .r _ => none
  | k + 1, .r n => match h[n]? with
    | some (some (.lst xs)) => (rbL h k xs).map PyData.list
    | some (some (.dct kvs)) => (rbL h k (kvs.map Prod.snd)).map fun ds => PyData.dict (zipD (kvs.map Prod.fst) ds)
    | some (some (.tup xs)) => (rbL h k xs).map PyData.tuple
    | _ => none
def rbL (h : AH) : Nat → List SV → Option (List PyData)
  | _, [] => some []
  | k, s :: ss => match rb h k s with
    | some d => match rbL h k ss with
      | some ds => some (d :: ds)
      | none => none
    | none => none
end
end Zx

namespace Zx
open PySem PySem.Spec L2

/-! ## outcomes -/
inductive R (α : Type) where
  | ok (a : α) (h : AH) | rz (c : Str) (h : AH) | st
def R.bind {α β : Type} (r : R α) (k : α → AH → R β) : R β := match r with
  | .ok a h => k a h
  | .rz c h => .rz c h
  | .st => .st
abbrev FE := List SV → AH → R SV
abbrev FA := List SV → AH → R (List SV)
abbrev FT := List SV → AH → R Bool

/-- the wish for an exception of the class named c -/
def clsW (X : Cx) (W : WX) (c : Str) (σ : St) (H : Hp) : Prop := ∀ u, X.mg c = some u → W u none σ H
/-- what an outcome promises -/
def Po {α β : Type} (rep : En → Wd → β → α → Prop) (X : Cx) (W : WX) (en : En) (w : Wd) (σ : St) (sl : List SV) (r : R α) (Q : β → Hp → Prop) : Prop := match r with
  | .ok a h' => ∀ b w' H', w.le w' → Sim en w' σ H' sl h' → rep en w' b a → Q b H'
  | .rz c h' => ∀ w' H', w.le w' → Sim en w' σ H' sl h' → clsW X W c σ H'
  | .st => False
def repB : En → Wd → Bool → Bool → Prop := fun _ _ a b => a = b
section
variable {X : Cx} {W : WX} {en : En} {w : Wd} {σ : St} {sl : List SV} {H : Hp} {h : AH}
theorem Po.mono {α β : Type} {rep : En → Wd → β → α → Prop} {r : R α} {Q : β → Hp → Prop} {w' : Wd} (k : w.le w') (P : Po rep X W en w σ sl r Q) : Po rep X W en w' σ sl r Q := by
  cases r with
  | ok a h' => exact fun b w2 H2 l S q => P b w2 H2 (k.trans l) S q
  | rz c h' => exact fun w2 H2 l S => P w2 H2 (k.trans l) S
  | st => exact P
theorem Po.bind {α β α' β' : Type} {rep : En → Wd → β → α → Prop} {rep' : En → Wd → β' → α' → Prop} {r : R α} {k : α → AH → R α'} {Q : β' → Hp → Prop} {Q1 : β → Hp → Prop} (P : Po rep' X W en w σ sl (r.bind k) Q)
    (c : ∀ a h1 b w' H', w.le w' → Sim en w' σ H' sl h1 → rep en w' b a → Po rep' X W en w' σ sl (k a h1) Q → Q1 b H') : Po rep X W en w σ sl r Q1 := by
  cases r with
  | ok a h1 => exact fun b w' H' l S q => c a h1 b w' H' l S q (Po.mono l P)
  | rz cc h1 => exact P
  | st => exact P
theorem Po.imp {α β : Type} {rep : En → Wd → β → α → Prop} {r : R α} {Q Q1 : β → Hp → Prop} (P : Po rep X W en w σ sl r Q) (c : ∀ b H', Q b H' → Q1 b H') : Po rep X W en w σ sl r Q1 := by
  cases r with
  | ok a h1 => exact fun b w' H' l S q => c _ _ (P b w' H' l S q)
  | rz cc h1 => exact P
  | st => exact P
theorem Po.here {a : SV} {v : V} {Q : VK} (P : Po RS X W en w σ sl (.ok a h) Q) (S : Sim en w σ H sl h) (r : RS en w v a) : Q v H := P v w H (Wd.le.refl w) S r
end
def tE (X : Cx) (W : WX) (f : FE) : TE := fun σ H Q => ∃ en w sl h, en.ok X ∧ Sim en w σ H sl h ∧ Po RS X W en w σ sl (f sl h) Q
def tA (X : Cx) (W : WX) (f : FA) : TA := fun σ H Q => ∃ en w sl h, en.ok X ∧ Sim en w σ H sl h ∧ Po RSL X W en w σ sl (f sl h) Q
def tT (X : Cx) (W : WX) (f : FT) : TT := fun σ H Q => ∃ en w sl h, en.ok X ∧ Sim en w σ H sl h ∧ Po repB X W en w σ sl (f sl h) Q
/-- an expression computes f; a list of arguments; a test -/
abbrev SE (X : Cx) (W : WX) (e : Expr) (f : FE) : Prop := PE X e (tE X W f)
abbrev SA (X : Cx) (W : WX) (es : List Expr) (f : FA) : Prop := PA X es (tA X W f)
abbrev STt (X : Cx) (W : WX) (e : Expr) (f : FT) : Prop := PT X e (tT X W f)
abbrev SWt (X : Cx) (W : WX) (e : Expr) (f : FT) : Prop := PW X e (tT X W f)

theorem PE.imp {X : Cx} {e : Expr} {t t' : TE} (h : PE X e t) (k : ∀ σ H Q, t' σ H Q → t σ H Q) : PE X e t' := ⟨fun pins s σ H Q I q => h.run pins s σ H Q I (k σ H Q q)⟩
theorem PA.imp {X : Cx} {e : List Expr} {t t' : TA} (h : PA X e t) (k : ∀ σ H Q, t' σ H Q → t σ H Q) : PA X e t' := ⟨fun pos pins s σ H Q I q => h.run pos pins s σ H Q I (k σ H Q q)⟩
theorem PT.imp {X : Cx} {e : Expr} {t t' : TT} (h : PT X e t) (k : ∀ σ H Q, t' σ H Q → t σ H Q) : PT X e t' := ⟨fun pins s σ H Q I q => h.run pins s σ H Q I (k σ H Q q)⟩
theorem PW.imp {X : Cx} {e : Expr} {t t' : TT} (h : PW X e t) (k : ∀ σ H Q, t' σ H Q → t σ H Q) : PW X e t' := ⟨fun wh pins s σ H Q I q => h.run wh pins s σ H Q I (k σ H Q q)⟩
theorem PS.imp {X : Cx} {e : Stmt} {t t' : TS} (h : PS X e t) (k : ∀ D σ H, t' D σ H → t D σ H) : PS X e t' := ⟨fun pins s σ H Q I q => h.run pins s σ H Q I (k Q σ H q)⟩
theorem PSs.imp {X : Cx} {e : List Stmt} {t t' : TS} (h : PSs X e t) (k : ∀ D σ H, t' D σ H → t D σ H) : PSs X e t' := ⟨fun pins s σ H Q I q => h.run pins s σ H Q I (k Q σ H q)⟩

/-! ## names, constants -/
def fVar (i : Nat) : FE := fun sl h => match sl[i]? with
  | none => .st
  | some .un => .st
  | some s => .ok s h
def fC (x : PyData) : FE := fun _ h => .ok (.d x) h
section
variable {X : Cx} {W : WX}
theorem se_var {i : Nat} {x : Str} {pos : Pos} (h : PE X (.Name x pos) (tVar i)) : SE X W (.Name x pos) (fVar i) := PE.imp h (by
  rintro σ H Q ⟨en, w, sl, h, eK, S, P⟩
  cases e : sl[i]? with
  | none => simp only [fVar, e] at P; exact False.elim P
  | some s =>
    rcases S.slots.2 i s e with rfl | ⟨v, ev, r⟩
    · simp only [fVar, e] at P; exact False.elim P
    · cases s with
      | un => simp only [fVar, e] at P; exact False.elim P
      | d x => simp only [fVar, e] at P; exact ⟨v, ev, P.here S r⟩
      | vw x => simp only [fVar, e] at P; exact ⟨v, ev, P.here S r⟩
      | r n => simp only [fVar, e] at P; exact ⟨v, ev, P.here S r⟩
      | sc n => simp only [fVar, e] at P; exact ⟨v, ev, P.here S r⟩
      | ex n => simp only [fVar, e] at P; exact ⟨v, ev, P.here S r⟩)
theorem se_c {e : Expr} {v : V} {x : PyData} (h : PE X e (tC v)) (r : ∀ F, Rp X.K F v x) : SE X W e (fC x) := PE.imp h (by
  rintro σ H Q ⟨en, w, sl, h, eK, S, P⟩
  exact Po.here P S (show Rp en.K w.F v x by rw [eK.1]; exact r _))
theorem se_int {i j pos} : SE X W (.Constant (.int i) j pos) (fC (.int i)) := se_c pe_int fun F => by unfold Rp; rfl
theorem se_bl {b j pos} : SE X W (.Constant (.bool b) j pos) (fC (.bool b)) := se_c pe_bl fun F => by unfold Rp; rfl
theorem se_non {j pos} : SE X W (.Constant .none j pos) (fC .none) := se_c pe_non fun F => by unfold Rp; rfl
theorem se_str {x j pos} : SE X W (.Constant (.str x) j pos) (fC (.str x)) := se_c pe_str fun F => by unfold Rp; rfl
end

/-! ## two operands, one operand -/
def fBin (g : SV → SV → AH → R SV) (fa fb : FE) : FE := fun sl h => (fa sl h).bind fun x h1 => (fb sl h1).bind fun y h2 => g x y h2
def fUn (g : SV → AH → R SV) (fa : FE) : FE := fun sl h => (fa sl h).bind fun x h1 => g x h1
/-- a rule by values computes g -/
def OpS (X : Cx) (r : R2) (g : SV → SV → AH → R SV) : Prop := ∀ (W : WX) (en : En) (w : Wd) (σ : St) (H : Hp) (sl : List SV) (h : AH) (x y : V) (s t : SV) (Q : VK), en.ok X → Sim en w σ H sl h → RS en w x s → RS en w y t → Po RS X W en w σ sl (g s t h) Q → r x y H Q
def UnS (X : Cx) (r : V → Hp → VK → Prop) (g : SV → AH → R SV) : Prop := ∀ (W : WX) (en : En) (w : Wd) (σ : St) (H : Hp) (sl : List SV) (h : AH) (x : V) (s : SV) (Q : VK), en.ok X → Sim en w σ H sl h → RS en w x s → Po RS X W en w σ sl (g s h) Q → r x H Q
section
variable {X : Cx} {W : WX} {a b : Expr} {fa fb : FE} {pos : Pos}
theorem bin_t {r : R2} {g : SV → SV → AH → R SV} (hr : OpS X r g) {σ : St} {H : Hp} {Q : VK} (q : tE X W (fBin g fa fb) σ H Q) : tOp r (tE X W fa) (tE X W fb) σ H Q := by
  obtain ⟨en, w, sl, h, eK, S, P⟩ := q
  refine ⟨en, w, sl, h, eK, S, Po.bind P fun s h1 v w1 H1 l1 S1 r1 P1 => ?_⟩
  exact ⟨en, w1, sl, h1, eK, S1, Po.bind P1 fun t h2 u w2 H2 l2 S2 r2 P2 => hr W en w2 σ H2 sl h2 v u s t Q eK S2 (RS.mono l2 r1) r2 P2⟩
theorem se_op {op : Operator} {r : R2} {g : SV → SV → AH → R SV} (ho : OpR X (binaryOp op) r) (hr : OpS X r g) (ha : SE X W a fa) (hb : SE X W b fb) : SE X W (.BinOp a op b pos) (fBin g fa fb) :=
  PE.imp (pe_op ho ha hb) fun _ _ _ q => bin_t hr q
theorem se_cmp {op : CmpOp} {r : R2} {g : SV → SV → AH → R SV} (ho : OpR X (compareOp op) r) (hr : OpS X r g) (ha : SE X W a fa) (hb : SE X W b fb) (hm : behindInMarks op b = false) : SE X W (.Compare a [op] [b] pos) (fBin g fa fb) :=
  PE.imp (pe_cmpR ho ha hb hm) fun _ _ _ q => bin_t hr q
theorem se_ix {r : R2} {g : SV → SV → AH → R SV} (ho : IxR X r) (hr : OpS X r g) (ha : SE X W a fa) (hb : SE X W b fb) (hs : PlainIx b) : SE X W (.Subscript a b pos) (fBin g fa fb) :=
  PE.imp (pe_ix ho ha hb hs) fun _ _ _ q => bin_t hr q
theorem se_un {op : UnaryOp} {r : V → Hp → VK → Prop} {g : SV → AH → R SV} (ho : UnR X (unaryOp op) r) (hr : UnS X r g) (ha : SE X W a fa) : SE X W (.UnaryOp op a pos) (fUn g fa) :=
  PE.imp (pe_un ho ha) (by
    rintro σ H Q ⟨en, w, sl, h, eK, S, P⟩
    exact ⟨en, w, sl, h, eK, S, Po.bind P fun s h1 v w1 H1 l1 S1 r1 P1 => hr W en w1 σ H1 sl h1 v s Q eK S1 r1 P1⟩)
end

/-! ## whole numbers -/
def gI (C : Int → Int → Bool) (k : Int → Int → PyData) : SV → SV → AH → R SV := fun s t h => match s, t with
  | .d (.int i), .d (.int j) => if C i j then .ok (.d (k i j)) h else .st
  | _, _ => .st
theorem gI_inv {C : Int → Int → Bool} {k : Int → Int → PyData} {X : Cx} {W : WX} {en : En} {w : Wd} {σ : St} {H : Hp} {sl : List SV} {h : AH} {x y : V} {s t : SV} {Q : VK} (S : Sim en w σ H sl h) (r1 : RS en w x s) (r2 : RS en w y t)
    (P : Po RS X W en w σ sl (gI C k s t h) Q) : ∃ i j, x = .int i ∧ y = .int j ∧ C i j = true ∧ Po RS X W en w σ sl (.ok (.d (k i j)) h) Q := by
  unfold gI at P
  split at P
  · rename_i i j
    split at P
    · rename_i hc
      refine ⟨i, j, ?_, ?_, hc, P⟩
      · have r1 : Rp en.K w.F x (.int i) := r1
        unfold Rp at r1; exact r1
      · have r2 : Rp en.K w.F y (.int j) := r2
        unfold Rp at r2; exact r2
    · exact False.elim P
  · exact False.elim P
theorem Rp.int {K : PySem.W.Frag} {F : Hp} {i : Int} : Rp K F (.int i) (.int i) := by unfold Rp; rfl
theorem Rp.bool {K : PySem.W.Frag} {F : Hp} {i : Bool} : Rp K F (.bl i) (.bool i) := by unfold Rp; rfl
theorem Rp.str {K : PySem.W.Frag} {F : Hp} {i : Str} : Rp K F (.str i) (.str i) := by unfold Rp; rfl
theorem Rp.non {K : PySem.W.Frag} {F : Hp} : Rp K F .non .none := by unfold Rp; rfl
section
variable {X : Cx} {W : WX} {en : En} {w : Wd} {σ : St} {sl : List SV} {H : Hp} {h : AH} {Q : VK}
theorem Po.int {i : Int} (P : Po RS X W en w σ sl (.ok (.d (.int i)) h) Q) (S : Sim en w σ H sl h) : Q (.int i) H := P.here S (show Rp en.K w.F (.int i) (.int i) from Rp.int)
theorem Po.bool {i : Bool} (P : Po RS X W en w σ sl (.ok (.d (.bool i)) h) Q) (S : Sim en w σ H sl h) : Q (.bl i) H := P.here S (show Rp en.K w.F (.bl i) (.bool i) from Rp.bool)
theorem Po.str {i : Str} (P : Po RS X W en w σ sl (.ok (.d (.str i)) h) Q) (S : Sim en w σ H sl h) : Q (.str i) H := P.here S (show Rp en.K w.F (.str i) (.str i) from Rp.str)
theorem Po.non (P : Po RS X W en w σ sl (.ok (.d .none) h) Q) (S : Sim en w σ H sl h) : Q .non H := P.here S (show Rp en.K w.F .non .none from Rp.non)
end
theorem os_I {X : Cx} {Cp : Int → Int → Prop} {C : Int → Int → Bool} {k : Int → Int → Int} (hC : ∀ i j, C i j = true → Cp i j) : OpS X (rI Cp fun i j => .int (k i j)) (gI C fun i j => .int (k i j)) := by
  intro W en w σ H sl h x y s t Q eK S r1 r2 P
  obtain ⟨i, j, rfl, rfl, c, P⟩ := gI_inv S r1 r2 P
  exact ⟨i, j, rfl, rfl, hC i j c, P.int S⟩
theorem os_I0 {X : Cx} {k : Int → Int → Int} : OpS X (rI0 fun i j => .int (k i j)) (gI (fun _ _ => true) fun i j => .int (k i j)) := by
  intro W en w σ H sl h x y s t Q eK S r1 r2 P
  obtain ⟨i, j, rfl, rfl, c, P⟩ := gI_inv S r1 r2 P
  exact ⟨i, j, rfl, rfl, P.int S⟩
theorem os_B0 {X : Cx} {k : Int → Int → Bool} : OpS X (rI0 fun i j => .bl (k i j)) (gI (fun _ _ => true) fun i j => .bool (k i j)) := by
  intro W en w σ H sl h x y s t Q eK S r1 r2 P
  obtain ⟨i, j, rfl, rfl, c, P⟩ := gI_inv S r1 r2 P
  exact ⟨i, j, rfl, rfl, P.bool S⟩
/-- a choice by cases: the first that is not stuck -/
def gOr (g g' : SV → SV → AH → R SV) : SV → SV → AH → R SV := fun s t h => match g s t h with
  | .st => g' s t h
  | r => r
theorem os_or {X : Cx} {r r' : R2} {g g' : SV → SV → AH → R SV} (a : OpS X r g) (b : OpS X r' g') : OpS X (fun x y H Q => r x y H Q ∨ r' x y H Q) (gOr g g') := by
  intro W en w σ H sl h x y s t Q eK S r1 r2 P
  unfold gOr at P
  cases e : g s t h with
  | st => rw [e] at P; exact .inr (b W en w σ H sl h x y s t Q eK S r1 r2 P)
  | ok v h' => rw [e] at P; exact .inl (a W en w σ H sl h x y s t Q eK S r1 r2 (by rw [e]; exact P))
  | rz c h' => rw [e] at P; exact .inl (a W en w σ H sl h x y s t Q eK S r1 r2 (by rw [e]; exact P))

/-! ## reading back -/
mutual
theorem rb_ok {en : En} {w : Wd} {H : Hp} {h : AH} (S : SimH en w H h) : ∀ (k : Nat) (s : SV) (v : V) (x : PyData), RS en w v s → rb h k s = some x → Rp en.K H v x
  | _, .un, v, x, r, e => by unfold rb at e; cases e
  | _, .d y, v, x, r, e => by
    unfold rb at e; cases e
    exact Rp.mono S.fh y v r
  | _, .vw y, v, x, r, e => by
    unfold rb at e; cases e
    exact Rp.mono S.gh y v r
  | _, .sc n, v, x, r, e => by unfold rb at e; cases e
  | _, .ex n, v, x, r, e => by unfold rb at e; cases e
  | 0, .r n, v, x, r, e => by unfold rb at e; cases e
  | k + 1, .r n, v, x, r, e => by
    unfold rb at e
    split at e
    · rename_i xs he
      cases q : rbL h k xs with
      | none => rw [q] at e; cases e
      | some ds =>
        rw [q] at e
        cases e
        obtain ⟨a, e1, rfl⟩ := r
        obtain ⟨a', e2, ⟨vs, hv, rv⟩, _, _⟩ := S.live n _ he
        have ea : a' = a := Option.some.inj (e2.symm.trans e1)
        subst ea
        unfold Rp
        exact ⟨a', vs, rfl, hv, rbL_ok S k xs vs ds rv q⟩
    · rename_i kvs he
      cases q : rbL h k (kvs.map Prod.snd) with
      | none => rw [q] at e; cases e
      | some ds =>
        rw [q] at e
        cases e
        obtain ⟨a, e1, rfl⟩ := r
        obtain ⟨a', e2, ⟨kws, hv, ek, rv⟩, _, _⟩ := S.live n _ he
        have ea : a' = a := Option.some.inj (e2.symm.trans e1)
        subst ea
        unfold Rp
        refine ⟨a', kws, rfl, hv, ?_⟩
        rw [← ek]
        exact zipD_ok (rbL_ok S k _ _ ds rv q)
    · rename_i xs he
      cases q : rbL h k xs with
      | none => rw [q] at e; cases e
      | some ds =>
        rw [q] at e
        cases e
        obtain ⟨a, e1, rfl⟩ := r
        obtain ⟨a', e2, ⟨vs, hv, rv⟩, _, _⟩ := S.live n _ he
        have ea : a' = a := Option.some.inj (e2.symm.trans e1)
        subst ea
        unfold Rp
        exact ⟨a', vs, rfl, .inl (.inl hv), rbL_ok S k xs vs ds rv q⟩
    · cases e
theorem rbL_ok {en : En} {w : Wd} {H : Hp} {h : AH} (S : SimH en w H h) : ∀ (k : Nat) (ss : List SV) (vs : List V) (ds : List PyData), RSL en w vs ss → rbL h k ss = some ds → RpL en.K H vs ds
  | k, [], vs, ds, r, e => by
    unfold rbL at e
    cases e
    unfold RpL
    exact r
  | k, s :: ss, vs, ds, ⟨x, q, e1, r1, r2⟩, e => by
    unfold rbL at e
    cases e2 : rb h k s with
    | none => rw [e2] at e; cases e
    | some d =>
      rw [e2] at e
      cases e3 : rbL h k ss with
      | none => rw [e3] at e; cases e
      | some d2 =>
        rw [e3] at e
        cases e
        unfold RpL
        exact ⟨x, q, e1, rb_ok S k s x d r1 e2, rbL_ok S k ss q d2 r2 e3⟩
end

/-! ## equality of data -/
def gEq (neg : Bool) : SV → SV → AH → R SV := fun s t h => match rb h 9 s, rb h 9 t with
  | some d, some e => if (nod d && nod e && SeqAt.shaped d && SeqAt.shaped e) = true then .ok (.d (.bool (neg ^^ PyData.eqv d e))) h else .st
  | _, _ => .st
theorem os_eq {X : Cx} : OpS X (rEqD X.K) (gEq false) := by
  intro W en w σ H sl h x y s t Q eK S r1 r2 P
  unfold gEq at P
  split at P
  · rename_i d e q1 q2
    split at P
    · rename_i c
      simp only [Bool.and_eq_true] at c
      obtain ⟨⟨⟨c1, c2⟩, c3⟩, c4⟩ := c
      refine ⟨d, e, ?_, ?_, c3, c4, ?_⟩
      · rw [← eK.1]; exact Rp.dp d x c1 (rb_ok S.toSimH 9 s x d r1 q1)
      · rw [← eK.1]; exact Rp.dp e y c2 (rb_ok S.toSimH 9 t y e r2 q2)
      · have := P.bool S
        simpa using this
    · exact False.elim P
  · exact False.elim P
theorem os_ne {X : Cx} : OpS X (rNeD X.K) (gEq true) := by
  intro W en w σ H sl h x y s t Q eK S r1 r2 P
  unfold gEq at P
  split at P
  · rename_i d e q1 q2
    split at P
    · rename_i c
      simp only [Bool.and_eq_true] at c
      obtain ⟨⟨⟨c1, c2⟩, c3⟩, c4⟩ := c
      refine ⟨d, e, ?_, ?_, c3, c4, ?_⟩
      · rw [← eK.1]; exact Rp.dp d x c1 (rb_ok S.toSimH 9 s x d r1 q1)
      · rw [← eK.1]; exact Rp.dp e y c2 (rb_ok S.toSimH 9 t y e r2 q2)
      · have := P.bool S
        simpa using this
    · exact False.elim P
  · exact False.elim P

/-! ## items, lengths -/
/-- the items of a list or a tuple -/
def itemsOf (h : AH) : SV → Option (List SV)
  | .d (.list ds) => some (ds.map SV.d)
  | .d (.tuple ds) => some (ds.map SV.d)
  | .vw (.list ds) => some (ds.map mkv)
  | .vw (.tuple ds) => some (ds.map mkv)
  | .r n => match h[n]? with
    | some (some (.lst xs)) => some xs
    | some (some (.tup xs)) => some xs
    | _ => none
  | .sc ns => some (ns.map fun i => SV.d (.int i))
  | _ => none
theorem RSL.ofInts {en : En} {w : Wd} : ∀ {ns : List Int}, RSL en w (ns.map V.int) (ns.map fun i => SV.d (.int i))
  | [] => rfl
  | i :: ns => ⟨.int i, ns.map V.int, rfl, (by show Rp en.K w.F (.int i) (.int i); unfold Rp; rfl), RSL.ofInts⟩
theorem RSL.ofVw {en : En} {w : Wd} {H : Hp} {h : AH} (S : SimH en w H h) : ∀ {ds : List PyData} {vs : List V}, RpL en.K en.G vs ds → RSL en w vs (ds.map mkv)
  | [], vs, q => by unfold RpL at q; exact q
  | d :: ds, vs, q => by
    unfold RpL at q
    obtain ⟨x, r, e, h1, h2⟩ := q
    refine ⟨x, r, e, ?_, RSL.ofVw S h2⟩
    show RS en w x (mkv d)
    unfold mkv
    split
    · rename_i c
      exact Rp.immF S.gh S.ti d x c h1
    · exact h1
/-- what a symbolic sequence is in the heap -/
theorem items_ok {en : En} {w : Wd} {H : Hp} {h : AH} (S : SimH en w H h) {s : SV} {v : V} {xs : List SV} (r : RS en w v s) (e : itemsOf h s = some xs) : ∃ a vs, v = .ref a ∧ (SqL en.K H a vs ∨ SqT en.K H a vs) ∧ RSL en w vs xs := by
  unfold itemsOf at e
  split at e
  · cases e
    have r : Rp en.K w.F v (.list _) := r
    unfold Rp at r
    obtain ⟨a, vs, rfl, q, l⟩ := r
    exact ⟨a, vs, rfl, .inl (.of (S.fh _ _ q)), RSL.ofRp l⟩
  · cases e
    have r : Rp en.K w.F v (.tuple _) := r
    unfold Rp at r
    obtain ⟨a, vs, rfl, q, l⟩ := r
    exact ⟨a, vs, rfl, .inr (sqT_mono (S.fh a) q), RSL.ofRp l⟩
  · cases e
    have r : Rp en.K en.G v (.list _) := r
    unfold Rp at r
    obtain ⟨a, vs, rfl, q, l⟩ := r
    exact ⟨a, vs, rfl, .inl (.of (S.gh _ _ q)), RSL.ofVw S l⟩
  · cases e
    have r : Rp en.K en.G v (.tuple _) := r
    unfold Rp at r
    obtain ⟨a, vs, rfl, q, l⟩ := r
    exact ⟨a, vs, rfl, .inr (sqT_mono (S.gh a) q), RSL.ofVw S l⟩
  · split at e
    · cases e
      rename_i n ys he
      obtain ⟨a, e1, rfl⟩ := r
      obtain ⟨a', e2, ⟨vs, hv, rv⟩, _, _⟩ := S.live n _ he
      have ea : a' = a := Option.some.inj (e2.symm.trans e1)
      subst ea
      exact ⟨a', vs, rfl, .inl (.of hv), rv⟩
    · cases e
      rename_i n ys he
      obtain ⟨a, e1, rfl⟩ := r
      obtain ⟨a', e2, ⟨vs, hv, rv⟩, _, _⟩ := S.live n _ he
      have ea : a' = a := Option.some.inj (e2.symm.trans e1)
      subst ea
      exact ⟨a', vs, rfl, .inr (.inl (.inl hv)), rv⟩
    · cases e
  · cases e
    obtain ⟨a, rfl, q⟩ := r
    exact ⟨a, _, rfl, .inl (sqL_mono (S.gh a) q), RSL.ofInts⟩
  · cases e
/-- the items of a list that the program made -/
def lstOf (h : AH) : SV → Option (List SV)
  | .d (.list ds) => some (ds.map SV.d)
  | .vw (.list ds) => some (ds.map mkv)
  | .r n => match h[n]? with
    | some (some (.lst xs)) => some xs
    | _ => none
  | _ => none
theorem lst_ok {en : En} {w : Wd} {H : Hp} {h : AH} (S : SimH en w H h) {s : SV} {v : V} {xs : List SV} (r : RS en w v s) (e : lstOf h s = some xs) : ∃ a vs, v = .ref a ∧ H a = some (.lst vs) ∧ RSL en w vs xs := by
  unfold lstOf at e
  split at e
  · cases e
    have r : Rp en.K w.F v (.list _) := r
    unfold Rp at r
    obtain ⟨a, vs, rfl, q, l⟩ := r
    exact ⟨a, vs, rfl, S.fh _ _ q, RSL.ofRp l⟩
  · cases e
    have r : Rp en.K en.G v (.list _) := r
    unfold Rp at r
    obtain ⟨a, vs, rfl, q, l⟩ := r
    exact ⟨a, vs, rfl, S.gh _ _ q, RSL.ofVw S l⟩
  · split at e
    · cases e
      rename_i n ys he
      obtain ⟨a, e1, rfl⟩ := r
      obtain ⟨a', e2, ⟨vs, hv, rv⟩, _, _⟩ := S.live n _ he
      have ea : a' = a := Option.some.inj (e2.symm.trans e1)
      subst ea
      exact ⟨a', vs, rfl, hv, rv⟩
    · cases e
  · cases e
/-- atI on two lists in step -/
theorem atI_RSL {en : En} {w : Wd} {vs : List V} {xs : List SV} {i : Int} {s : SV} (r : RSL en w vs xs) (e : atI xs i = some s) : ∃ v, atI vs i = some v ∧ RS en w v s := by
  unfold atI at e ⊢
  rw [RSL.length r]
  cases k : ixN xs.length i with
  | none => rw [k] at e; cases e
  | some j =>
    rw [k] at e
    have e : xs[j]? = some s := e
    obtain ⟨v, ev, rv⟩ := RSL.get r e
    exact ⟨v, ev, rv⟩
def gIx : SV → SV → AH → R SV := fun s t h => match t with
  | .d (.int i) => match s with
    | .d (.str z) => if z.length ≤ sizeLine then match atI z.cps.toList i with
        | some c => .ok (.d (.str ⟨#[c]⟩)) h
        | none => .st
      else .st
    | _ => match itemsOf h s with
      | some xs => match atI xs i with
        | some u => .ok u h
        | none => .st
      | none => .st
  | _ => .st
theorem os_ix {X : Cx} : OpS X (rIx X.K) gIx := by
  intro W en w σ H sl h x y s t Q eK S r1 r2 P
  unfold gIx at P
  split at P
  · rename_i i
    have r2 : Rp en.K w.F y (.int i) := r2
    unfold Rp at r2
    subst r2
    split at P
    · rename_i z
      have r1 : Rp en.K w.F x (.str z) := r1
      unfold Rp at r1
      subst r1
      split at P
      · rename_i hz
        split at P
        · rename_i c hc
          exact .inr (.inr ⟨z, i, c, rfl, rfl, hz, hc, P.str S⟩)
        · exact False.elim P
      · exact False.elim P
    · split at P
      · rename_i xs hx
        split at P
        · rename_i u hu
          obtain ⟨a, vs, rfl, q, rl⟩ := items_ok S.toSimH r1 hx
          obtain ⟨v, ev, rv⟩ := atI_RSL rl hu
          have q2 := P.here S rv
          rw [eK.1] at q
          rcases q with q | q
          · exact .inl ⟨a, vs, i, v, rfl, rfl, q, ev, q2⟩
          · exact .inr (.inl ⟨a, vs, i, v, rfl, rfl, q, ev, q2⟩)
        · exact False.elim P
      · exact False.elim P
  · exact False.elim P
end Zx

namespace Zx
open PySem PySem.Spec L2

/-! ## behind a turn: what the loop's own names held is forgotten, new owned objects that are gone are dropped -/
def reset : List SV → List SV → List SV
  | a :: as, b :: bs => (match a with | .un => .un | _ => b) :: reset as bs
  | _, bs => bs
def below (L : Nat) : SV → Bool
  | .r n => decide (n < L)
  | _ => true
def belowO (L : Nat) : Option AO → Bool
  | some (.lst xs) => xs.all (below L)
  | some (.dct kvs) => (kvs.map Prod.snd).all (below L)
  | some (.tup xs) => xs.all (below L)
  | none => true
def gone : Option AO → Bool
  | none => true
  | _ => false
def trimOk (L : Nat) (sl : List SV) (h : AH) : Bool := (h.take L).all (belowO L) && sl.all (below L)
def norm (sl0 : List SV) (L : Nat) (sl : List SV) (h : AH) : List SV × AH :=
  if trimOk L (reset sl0 sl) h = true then (reset sl0 sl, h.take L) else (reset sl0 sl, h)
theorem pick_un {a b s : SV} (e : (match a with | .un => SV.un | _ => b) = s) : s = .un ∨ b = s := by
  cases a with
  | un => exact .inl e.symm
  | d x => exact .inr e
  | vw x => exact .inr e
  | r x => exact .inr e
  | sc x => exact .inr e
  | ex x => exact .inr e
theorem reset_get : ∀ {as bs : List SV} {i : Nat} {s : SV}, (reset as bs)[i]? = some s → s = .un ∨ bs[i]? = some s
  | [], bs, i, s, e => by unfold reset at e; exact .inr e
  | a :: as, [], i, s, e => by unfold reset at e; exact .inr e
  | a :: as, b :: bs, 0, s, e => by
    unfold reset at e
    exact (pick_un (Option.some.inj e)).imp_right fun z => congrArg some z
  | a :: as, b :: bs, i + 1, s, e => by
    unfold reset at e
    have e : (reset as bs)[i]? = some s := e
    rcases reset_get e with z | z
    · exact .inl z
    · exact .inr z
theorem reset_len : ∀ (as bs : List SV), (reset as bs).length = bs.length
  | [], bs => by unfold reset; rfl
  | a :: as, [] => by unfold reset; rfl
  | a :: as, b :: bs => by unfold reset; rw [List.length_cons, List.length_cons, reset_len]
theorem RS.cut {en : En} {w : Wd} {L : Nat} {v : V} {s : SV} (r : RS en w v s) (b : below L s = true) : RS en ⟨w.rho.take L, w.F⟩ v s := by
  cases s with
  | un => exact trivial
  | d x => exact r
  | vw x => exact r
  | sc x => exact r
  | ex x => exact r
  | r n =>
    obtain ⟨a, e, z⟩ := r
    unfold below at b
    have hn := of_decide_eq_true b
    refine ⟨a, ?_, z⟩
    show (w.rho.take L)[n]? = some a
    rw [List.getElem?_take_of_lt hn]
    exact e
theorem RSL.cut {en : En} {w : Wd} {L : Nat} : ∀ {ss : List SV} {vs : List V}, RSL en w vs ss → ss.all (below L) = true → RSL en ⟨w.rho.take L, w.F⟩ vs ss
  | [], vs, r, _ => r
  | s :: ss, vs, ⟨x, q, e, a, b⟩, c => by
    rw [List.all_cons, Bool.and_eq_true] at c
    exact ⟨x, q, e, RS.cut a c.1, RSL.cut b c.2⟩
def trimE (L : Nat) (sl : List SV) (h : AH) : AH := if trimOk L sl h = true then h.take L else h
theorem SimH.trim {en : En} {w0 w : Wd} {H : Hp} {h : AH} (S : SimH en w H h) (le : w0.le w) (c1 : (h.take w0.rho.length).all (belowO w0.rho.length) = true) :
    w0.le ⟨w.rho.take w0.rho.length, w.F⟩ ∧ SimH en ⟨w.rho.take w0.rho.length, w.F⟩ H (h.take w0.rho.length) := by
  have hL : w0.rho.length ≤ w.rho.length := le.1.length_le
  have get : ∀ (n : Nat) (o : AO), (h.take w0.rho.length)[n]? = some (some o) → n < w0.rho.length ∧ h[n]? = some (some o) := fun n o e => by
    have hn : n < (h.take w0.rho.length).length := (List.getElem?_eq_some_iff.mp e).1
    rw [List.length_take] at hn
    have hn2 : n < w0.rho.length := by omega
    rw [List.getElem?_take_of_lt hn2] at e
    exact ⟨hn2, e⟩
  refine ⟨⟨?_, le.2⟩, ⟨S.gh, S.fh, S.f0, S.nw, S.ti, ?_, fun n o e => ?_, fun n m a o1 o2 e1 e2 a1 a2 => ?_⟩⟩
  · obtain ⟨t, ht⟩ := le.1
    refine ⟨[], ?_⟩
    show w0.rho ++ [] = w.rho.take w0.rho.length
    rw [← ht, List.append_nil, List.take_left' rfl]
  · show (w.rho.take w0.rho.length).length = (h.take w0.rho.length).length
    rw [List.length_take, List.length_take, S.len]
  · obtain ⟨hn, e'⟩ := get n o e
    obtain ⟨a, ea, q, f, g⟩ := S.live n o e'
    refine ⟨a, ?_, ?_, f, g⟩
    · show (w.rho.take w0.rho.length)[n]? = some a
      rw [List.getElem?_take_of_lt hn]; exact ea
    · cases o with
      | lst xs =>
        obtain ⟨vs, hv, rl⟩ := q
        refine ⟨vs, hv, RSL.cut rl ?_⟩
        have hm : some (AO.lst xs) ∈ h.take w0.rho.length := List.mem_of_getElem? e
        have := List.all_eq_true.mp c1 _ hm
        exact this
      | dct kvs =>
        obtain ⟨vs, hv, ek, rl⟩ := q
        refine ⟨vs, hv, ek, RSL.cut rl ?_⟩
        have hm : some (AO.dct kvs) ∈ h.take w0.rho.length := List.mem_of_getElem? e
        have := List.all_eq_true.mp c1 _ hm
        exact this
      | tup xs =>
        obtain ⟨vs, hv, rl⟩ := q
        refine ⟨vs, hv, RSL.cut rl ?_⟩
        have hm : some (AO.tup xs) ∈ h.take w0.rho.length := List.mem_of_getElem? e
        have := List.all_eq_true.mp c1 _ hm
        exact this
  · obtain ⟨h1, e1'⟩ := get n o1 e1
    obtain ⟨h2, e2'⟩ := get m o2 e2
    have a1 : (w.rho.take w0.rho.length)[n]? = some a := a1
    have a2 : (w.rho.take w0.rho.length)[m]? = some a := a2
    rw [List.getElem?_take_of_lt h1] at a1
    rw [List.getElem?_take_of_lt h2] at a2
    exact S.sep n m a o1 o2 e1' e2' a1 a2
theorem Slt.cut {en : En} {w : Wd} {L : Nat} {σ : St} {sl : List SV} (sr : Slt en w σ sl) (c3 : sl.all (below L) = true) : Slt en ⟨w.rho.take L, w.F⟩ σ sl := by
  refine ⟨sr.1, fun i s e => ?_⟩
  rcases sr.2 i s e with z | ⟨v, ev, r⟩
  · exact .inl z
  · have hm : s ∈ sl := List.mem_of_getElem? e
    exact .inr ⟨v, ev, RS.cut r (List.all_eq_true.mp c3 _ hm)⟩
theorem Sim.trim {en : En} {w0 w : Wd} {σ : St} {H : Hp} {sl : List SV} {h : AH} (S : Sim en w σ H sl h) (le : w0.le w) :
    ∃ w2, w0.le w2 ∧ w2.F = w.F ∧ Sim en w2 σ H sl (trimE w0.rho.length sl h) := by
  unfold trimE
  by_cases c : trimOk w0.rho.length sl h = true
  · rw [if_pos c]
    unfold trimOk at c
    rw [Bool.and_eq_true] at c
    obtain ⟨c2, c3⟩ := c
    have := SimH.trim S.toSimH le c2
    exact ⟨_, this.1, rfl, ⟨this.2, Slt.cut S.slots c3⟩⟩
  · rw [if_neg c]
    exact ⟨w, le, rfl, S⟩
theorem Sim.norm {en : En} {w0 w : Wd} {σ : St} {H : Hp} {sl0 sl : List SV} {h : AH} (S : Sim en w σ H sl h) (le : w0.le w) :
    ∃ w2, w0.le w2 ∧ Sim en w2 σ H (norm sl0 w0.rho.length sl h).1 (norm sl0 w0.rho.length sl h).2 := by
  have sr : Slt en w σ (reset sl0 sl) := ⟨(reset_len sl0 sl).trans S.slots.1, fun i s e => by
    rcases reset_get e with z | z
    · exact .inl z
    · exact S.slots.2 i s z⟩
  obtain ⟨w2, l2, _, S2⟩ := Sim.trim ⟨S.toSimH, sr⟩ le
  unfold trimE at S2
  unfold Zx.norm
  split
  · rename_i c
    rw [if_pos c] at S2
    exact ⟨w2, l2, S2⟩
  · rename_i c
    rw [if_neg c] at S2
    exact ⟨w2, l2, S2⟩

/-! ## tests -/
def fTst (f : FE) : FT := fun sl h => (f sl h).bind fun s h1 => match s with
  | .d (.bool b) => .ok b h1
  | _ => .st
section
variable {X : Cx} {W : WX} {a b c : Expr} {fa fb fc : FE} {ta tb : FT} {pos : Pos} {rest : List Expr}
theorem tB_t {σ : St} {H : Hp} {Q : Bool → Hp → Prop} (q : tT X W (fTst fa) σ H Q) : tB (tE X W fa) σ H Q := by
  obtain ⟨en, w, sl, h, eK, S, P⟩ := q
  refine ⟨en, w, sl, h, eK, S, Po.bind P fun s h1 v w1 H1 l1 S1 r1 P1 => ?_⟩
  split at P1
  · rename_i k
    have r1 : Rp en.K w1.F v (.bool k) := r1
    unfold Rp at r1
    exact ⟨k, r1, P1 k w1 H1 (Wd.le.refl _) S1 rfl⟩
  · exact False.elim P1
theorem st_val (h : SE X W a fa) (he : ∀ whole, isTrue a X.env whole = (do let v ← whole; standAt a.pos; holding [v] (truthy v)) := by intro _; rfl) : STt X W a (fTst fa) :=
  PT.imp (pt_val h he) fun _ _ _ q => tB_t q
theorem tTest_t {t : TE} {σ : St} {H : Hp} {Q : Bool → Hp → Prop} (q : tB t σ H Q) : tTest t σ H Q := q
theorem st_cmp {op : CmpOp} {r : R2} {g : SV → SV → AH → R SV} (ho : OpR X (compareOp op) r) (hr : OpS X r g) (ha : SE X W a fa) (hb : SE X W b fb) (hm : behindInMarks op b = false) : STt X W (.Compare a [op] [b] pos) (fTst (fBin g fa fb)) :=
  PT.imp (pt_cmpR ho ha hb hm) (by
    rintro σ H Q ⟨en, w, sl, h, eK, S, P⟩
    refine bin_t (W := W) hr ⟨en, w, sl, h, eK, S, ?_⟩
    refine Po.bind P fun s h1 v w1 H1 l1 S1 r1 P1 => ?_
    split at P1
    · rename_i k
      have r1 : Rp en.K w1.F v (.bool k) := r1
      unfold Rp at r1
      exact ⟨k, r1, P1 k w1 H1 (Wd.le.refl _) S1 rfl⟩
    · exact False.elim P1)
/-- a < b < c -/
def fChain (g g' : SV → SV → AH → R SV) (fa fb fc : FE) : FE := fun sl h => (fa sl h).bind fun x h1 => (fb sl h1).bind fun y h2 => (g x y h2).bind fun z h3 => match z with
  | .d (.bool true) => (fc sl h3).bind fun u h4 => g' y u h4
  | .d (.bool false) => .ok (.d (.bool false)) h3
  | _ => .st
theorem chain_t {r r' : R2} {g g' : SV → SV → AH → R SV} (hr : OpS X r g) (hr' : OpS X r' g') {σ : St} {H : Hp} {Q : VK} (q : tE X W (fChain g g' fa fb fc) σ H Q) : tChain r r' (tE X W fa) (tE X W fb) (tE X W fc) σ H Q := by
  obtain ⟨en, w, sl, h, eK, S, P⟩ := q
  refine ⟨en, w, sl, h, eK, S, Po.bind P fun s h1 v w1 H1 l1 S1 r1 P1 => ?_⟩
  refine ⟨en, w1, sl, h1, eK, S1, Po.bind P1 fun t h2 u w2 H2 l2 S2 r2 P2 => ?_⟩
  refine hr W en w2 σ H2 sl h2 v u s t _ eK S2 (RS.mono l2 r1) r2 (Po.bind P2 fun z h3 y w3 H3 l3 S3 r3 P3 => ?_)
  split at P3
  · have r3 : Rp en.K w3.F y (.bool true) := r3
    unfold Rp at r3
    refine ⟨true, r3, ?_⟩
    rw [if_pos rfl]
    exact ⟨en, w3, sl, h3, eK, S3, Po.bind P3 fun z' h4 y' w4 H4 l4 S4 r4 P4 => hr' W en w4 σ H4 sl h4 u y' t z' Q eK S4 (RS.mono (l3.trans l4) r2) r4 P4⟩
  · have r3 : Rp en.K w3.F y (.bool false) := r3
    unfold Rp at r3
    refine ⟨false, r3, ?_⟩
    rw [if_neg (by decide)]
    exact P3.bool S3
  · exact False.elim P3
theorem se_chain {op op' : CmpOp} {r r' : R2} {g g' : SV → SV → AH → R SV} (ho : OpR X (compareOp op) r) (ho' : OpR X (compareOp op') r') (hr : OpS X r g) (hr' : OpS X r' g') (ha : SE X W a fa) (hb : SE X W b fb) (hc : SE X W c fc)
    (hm : lastMarks [op, op'] [b, c] = false := by with_unfolding_all rfl) : SE X W (.Compare a [op, op'] [b, c] pos) (fChain g g' fa fb fc) :=
  PE.imp (pe_chain ho ho' ha hb hc hm) fun _ _ _ q => chain_t hr hr' q
theorem st_chain {op op' : CmpOp} {r r' : R2} {g g' : SV → SV → AH → R SV} (ho : OpR X (compareOp op) r) (ho' : OpR X (compareOp op') r') (hr : OpS X r g) (hr' : OpS X r' g') (ha : SE X W a fa) (hb : SE X W b fb) (hc : SE X W c fc)
    (hm : lastMarks [op, op'] [b, c] = false := by with_unfolding_all rfl) : STt X W (.Compare a [op, op'] [b, c] pos) (fTst (fChain g g' fa fb fc)) :=
  PT.imp (pt_chain ho ho' ha hb hc hm) (by
    rintro σ H Q ⟨en, w, sl, h, eK, S, P⟩
    refine chain_t (W := W) hr hr' ⟨en, w, sl, h, eK, S, ?_⟩
    refine Po.bind P fun s h1 v w1 H1 l1 S1 r1 P1 => ?_
    split at P1
    · rename_i k
      have r1 : Rp en.K w1.F v (.bool k) := r1
      unfold Rp at r1
      exact ⟨k, r1, P1 k w1 H1 (Wd.le.refl _) S1 rfl⟩
    · exact False.elim P1)
/-! ### and, or, not -/
def fAndT (ta tb : FT) : FT := fun sl h => (ta sl h).bind fun k h1 => if k = true then tb sl h1 else .ok false h1
def fOrT (ta tb : FT) : FT := fun sl h => (ta sl h).bind fun k h1 => if k = true then .ok true h1 else tb sl h1
def fNotT (ta : FT) : FT := fun sl h => (ta sl h).bind fun k h1 => .ok (!k) h1
theorem sw_and1 (ha : STt X W a ta) : SWt X W (.BoolOp .And [a] pos) ta := pw_and1 ha
theorem sw_or1 (ha : STt X W a ta) : SWt X W (.BoolOp .Or [a] pos) ta := pw_or1 ha
theorem sw_and (ha : STt X W a ta) (hb : SWt X W (.BoolOp .And (b :: rest) pos) tb) : SWt X W (.BoolOp .And (a :: b :: rest) pos) (fAndT ta tb) := PW.imp (pw_and ha hb) (by
  rintro σ H Q ⟨en, w, sl, h, eK, S, P⟩
  refine ⟨en, w, sl, h, eK, S, Po.bind P fun k h1 k' w1 H1 l1 S1 r1 P1 => ?_⟩
  have r1 : k' = k := r1
  subst r1
  cases k' with
  | true => rw [if_pos rfl] at P1 ⊢; exact ⟨en, w1, sl, h1, eK, S1, P1⟩
  | false => rw [if_neg (by decide)] at P1 ⊢; exact P1 false w1 H1 (Wd.le.refl _) S1 rfl)
theorem sw_or (ha : STt X W a ta) (hb : SWt X W (.BoolOp .Or (b :: rest) pos) tb) : SWt X W (.BoolOp .Or (a :: b :: rest) pos) (fOrT ta tb) := PW.imp (pw_or ha hb) (by
  rintro σ H Q ⟨en, w, sl, h, eK, S, P⟩
  refine ⟨en, w, sl, h, eK, S, Po.bind P fun k h1 k' w1 H1 l1 S1 r1 P1 => ?_⟩
  have r1 : k' = k := r1
  subst r1
  cases k' with
  | true => rw [if_pos rfl] at P1 ⊢; exact P1 true w1 H1 (Wd.le.refl _) S1 rfl
  | false => rw [if_neg (by decide)] at P1 ⊢; exact ⟨en, w1, sl, h1, eK, S1, P1⟩)
theorem st_w (h : SWt X W a ta) : STt X W a ta := PW.pt h
theorem st_not (ha : STt X W a ta) : STt X W (.UnaryOp .Not a pos) (fNotT ta) := PT.imp (pt_not ha) (by
  rintro σ H Q ⟨en, w, sl, h, eK, S, P⟩
  refine ⟨en, w, sl, h, eK, S, Po.bind P fun k h1 k' w1 H1 l1 S1 r1 P1 => ?_⟩
  have r1 : k' = k := r1
  subst r1
  exact P1 _ w1 H1 (Wd.le.refl _) S1 rfl)
/-- as values -/
def fAndV (fa fb : FE) : FE := fun sl h => (fa sl h).bind fun s h1 => match s with
  | .d (.bool true) => fb sl h1
  | .d (.bool false) => .ok (.d (.bool false)) h1
  | _ => .st
def fOrV (fa fb : FE) : FE := fun sl h => (fa sl h).bind fun s h1 => match s with
  | .d (.bool true) => .ok (.d (.bool true)) h1
  | .d (.bool false) => fb sl h1
  | _ => .st
def fNotV (fa : FE) : FE := fun sl h => (fa sl h).bind fun s h1 => match s with
  | .d (.bool k) => .ok (.d (.bool (!k))) h1
  | _ => .st
theorem se_one {op} (h : SE X W a fa) : SE X W (.BoolOp op [a] pos) fa := pe_one h
theorem se_and (ha : SE X W a fa) (hb : SE X W (.BoolOp .And (b :: rest) pos) fb) : SE X W (.BoolOp .And (a :: b :: rest) pos) (fAndV fa fb) := PE.imp (pe_and ha hb) (by
  rintro σ H Q ⟨en, w, sl, h, eK, S, P⟩
  refine ⟨en, w, sl, h, eK, S, Po.bind P fun s h1 v w1 H1 l1 S1 r1 P1 => ?_⟩
  split at P1
  · have r1 : Rp en.K w1.F v (.bool true) := r1
    unfold Rp at r1
    exact ⟨true, r1, by rw [if_pos rfl]; exact ⟨en, w1, sl, h1, eK, S1, P1⟩⟩
  · have r1 : Rp en.K w1.F v (.bool false) := r1
    unfold Rp at r1
    exact ⟨false, r1, by rw [if_neg (by decide)]; exact P1.bool S1⟩
  · exact False.elim P1)
theorem se_or (ha : SE X W a fa) (hb : SE X W (.BoolOp .Or (b :: rest) pos) fb) : SE X W (.BoolOp .Or (a :: b :: rest) pos) (fOrV fa fb) := PE.imp (pe_or ha hb) (by
  rintro σ H Q ⟨en, w, sl, h, eK, S, P⟩
  refine ⟨en, w, sl, h, eK, S, Po.bind P fun s h1 v w1 H1 l1 S1 r1 P1 => ?_⟩
  split at P1
  · have r1 : Rp en.K w1.F v (.bool true) := r1
    unfold Rp at r1
    exact ⟨true, r1, by rw [if_pos rfl]; exact P1.bool S1⟩
  · have r1 : Rp en.K w1.F v (.bool false) := r1
    unfold Rp at r1
    exact ⟨false, r1, by rw [if_neg (by decide)]; exact ⟨en, w1, sl, h1, eK, S1, P1⟩⟩
  · exact False.elim P1)
theorem se_not (ha : SE X W a fa) : SE X W (.UnaryOp .Not a pos) (fNotV fa) := PE.imp (pe_not ha) (by
  rintro σ H Q ⟨en, w, sl, h, eK, S, P⟩
  refine ⟨en, w, sl, h, eK, S, Po.bind P fun s h1 v w1 H1 l1 S1 r1 P1 => ?_⟩
  split at P1
  · rename_i k
    have r1 : Rp en.K w1.F v (.bool k) := r1
    unfold Rp at r1
    exact ⟨k, r1, P1.bool S1⟩
  · exact False.elim P1)
def fIf (t : FT) (fa fb : FE) : FE := fun sl h => (t sl h).bind fun k h1 => if k = true then fa sl h1 else fb sl h1
theorem se_if (hc : STt X W c ta) (ha : SE X W a fa) (hb : SE X W b fb) : SE X W (.IfExp c a b pos) (fIf ta fa fb) := PE.imp (pe_ifExp hc ha hb) (by
  rintro σ H Q ⟨en, w, sl, h, eK, S, P⟩
  refine ⟨en, w, sl, h, eK, S, Po.bind P fun k h1 k' w1 H1 l1 S1 r1 P1 => ?_⟩
  have r1 : k' = k := r1
  subst r1
  cases k' with
  | true => rw [if_pos rfl] at P1 ⊢; exact ⟨en, w1, sl, h1, eK, S1, P1⟩
  | false => rw [if_neg (by decide)] at P1 ⊢; exact ⟨en, w1, sl, h1, eK, S1, P1⟩)
end

/-! ## arguments, displays, built-ins -/
def fNil : FA := fun _ h => .ok [] h
def fCons (fa : FE) (fr : FA) : FA := fun sl h => (fa sl h).bind fun s h1 => (fr sl h1).bind fun ss h2 => .ok (s :: ss) h2
section
variable {X : Cx} {W : WX} {a : Expr} {es : List Expr} {fa : FE} {fr : FA} {pos : Pos}
theorem sa_nil : SA X W [] fNil := PA.imp pa_nil (by
  rintro σ H Q ⟨en, w, sl, h, eK, S, P⟩
  exact P [] w H (Wd.le.refl _) S rfl)
theorem sa_cons (ha : SE X W a fa) (hr : SA X W es fr) (hs : starEach (a :: es) X.env = (false, eval a X.env) :: starEach es X.env := by rfl) : SA X W (a :: es) (fCons fa fr) := PA.imp (pa_cons ha hr hs) (by
  rintro σ H Q ⟨en, w, sl, h, eK, S, P⟩
  refine ⟨en, w, sl, h, eK, S, Po.bind P fun s h1 v w1 H1 l1 S1 r1 P1 => ?_⟩
  refine ⟨en, w1, sl, h1, eK, S1, Po.bind P1 fun ss h2 vs w2 H2 l2 S2 r2 P2 => ?_⟩
  exact P2 (v :: vs) w2 H2 (Wd.le.refl _) S2 ⟨v, vs, rfl, RS.mono l2 r1, r2⟩)
/-- [a, b, ..]: a new owned list -/
def fLst (fa : FA) : FE := fun sl h => (fa sl h).bind fun ss h1 => if ss.length ≤ 1000 then .ok (.r h1.length) (h1 ++ [some (.lst ss)]) else .st
theorem line1000 : 1000 ≤ sizeLine := Nat.le_of_lt (small1000 (Nat.le_refl _))
theorem se_lst {fa : FA} (ha : SA X W es fa) : SE X W (.List es pos) (fLst fa) := PE.imp (pe_lst ha) (by
  rintro σ H Q ⟨en, w, sl, h, eK, S, P⟩
  refine ⟨en, w, sl, h, eK, S, Po.bind P fun ss h1 vs w1 H1 l1 S1 r1 P1 => ?_⟩
  split at P1
  · rename_i hl
    refine ⟨by rw [RSL.length r1]; exact Nat.le_trans hl line1000, fun p np => ?_⟩
    exact P1 (.ref p) (w1.ow p) _ le_ow (S1.newO np r1) S1.toSimH.rs_new
  · exact False.elim P1)
/-- frozen data, all of them -/
def allD : List SV → Option (List PyData)
  | [] => some []
  | .d x :: r => (allD r).map (x :: ·)
  | _ => none
theorem allD_ok {en : En} {w : Wd} : ∀ {ss : List SV} {vs : List V} {ds : List PyData}, RSL en w vs ss → allD ss = some ds → RpL en.K w.F vs ds
  | [], vs, ds, r, e => by
    unfold allD at e
    cases e
    unfold RpL
    exact r
  | s :: ss, vs, ds, ⟨x, q, e1, r1, r2⟩, e => by
    cases s with
    | d y =>
      unfold allD at e
      cases k : allD ss with
      | none => rw [k] at e; cases e
      | some d2 =>
        rw [k] at e
        cases e
        unfold RpL
        exact ⟨x, q, e1, r1, allD_ok r2 k⟩
    | un => unfold allD at e; cases e
    | vw y => unfold allD at e; cases e
    | r n => unfold allD at e; cases e
    | sc n => unfold allD at e; cases e
    | ex n => unfold allD at e; cases e
/-- (a, b, ..): frozen; its items are -/
def fTup (fa : FA) : FE := fun sl h => (fa sl h).bind fun ss h1 => match allD ss with
  | some ds => if ds.length ≤ 1000 then .ok (.d (.tuple ds)) h1 else .st
  | none => .st
theorem se_tup {x1} {fa : FA} (ha : SA X W es fa) : SE X W (.Tuple es x1 pos) (fTup fa) := PE.imp (pe_tup ha) (by
  rintro σ H Q ⟨en, w, sl, h, eK, S, P⟩
  refine ⟨en, w, sl, h, eK, S, Po.bind P fun ss h1 vs w1 H1 l1 S1 r1 P1 => ?_⟩
  split at P1
  · rename_i ds hd
    split at P1
    · rename_i hl
      have rl := allD_ok r1 hd
      refine ⟨by rw [RpL.length rl]; exact Nat.le_trans hl line1000, fun p np => ?_⟩
      refine P1 (.ref p) (w1.fz p (.tup vs)) _ (le_fz (S1.F_none np)) (S1.newF np (fun _ _ z => by cases z)) ?_
      show Rp en.K (upd w1.F p (.tup vs)) (.ref p) (.tuple ds)
      unfold Rp
      exact ⟨p, vs, rfl, .of upd_same, RpL.mono (le_fz (S1.F_none np)).2 ds vs rl⟩
    · exact False.elim P1
  · exact False.elim P1)
/-! freezing -/
mutual
def fzv : Nat → AH → SV → Option (PyData × AH)
  | _, _, .un => none
  | _, h, .d x => some (x, h)
  | _, h, .vw x => if imm x then some (x, h) else none
  | _, _, .sc _ => none
  | _, _, .ex _ => none
  | 0, _, .r _ => none
  | k + 1, h, .r n => match h[n]? with
    | some (some (.lst xs)) => match fzL k h xs with
      | some (ds, h1) => match h1[n]? with
        | some (some (.lst ys)) => if ys.length = xs.length ∧ h1.length = h.length then some (.list ds, h1.set n none) else none
        | _ => none
      | none => none
    | some (some (.dct kvs)) => match fzL k h (kvs.map Prod.snd) with
      | some (ds, h1) => match h1[n]? with
        | some (some (.dct kvs2)) => if kvs2.length = kvs.length ∧ h1.length = h.length then some (.dict (zipD (kvs.map Prod.fst) ds), h1.set n none) else none
        | _ => none
      | none => none
    | some (some (.tup xs)) => match fzL k h xs with
      | some (ds, h1) => match h1[n]? with
        | some (some (.tup ys)) => if ys.length = xs.length ∧ h1.length = h.length then some (.tuple ds, h1.set n none) else none
        | _ => none
      | none => none
    | _ => none
def fzL : Nat → AH → List SV → Option (List PyData × AH)
  | _, h, [] => some ([], h)
  | k, h, s :: ss => match fzv k h s with
    | some (d, h1) => match fzL k h1 ss with
      | some (ds, h2) => some (d :: ds, h2)
      | none => none
    | none => none
end
/-- what freezing leaves -/
structure Fzd (en : En) (w w' : Wd) (H : Hp) (h h' : AH) : Prop where
  le : w.le w'
  S : SimH en w' H h'
  rho : w'.rho = w.rho
  same : ∀ (n : Nat) (o : AO), h'[n]? = some (some o) → h[n]? = some (some o)
mutual
theorem fzv_ok {en : En} {H : Hp} : ∀ (k : Nat) (w : Wd) (h : AH) (s : SV) (v : V) (x : PyData) (h' : AH), SimH en w H h → RS en w v s → fzv k h s = some (x, h') → ∃ w', Fzd en w w' H h h' ∧ Rp en.K w'.F v x
  | _, w, h, .un, v, x, h', S, r, e => by unfold fzv at e; cases e
  | _, w, h, .d y, v, x, h', S, r, e => by
    unfold fzv at e; cases e
    exact ⟨w, ⟨Wd.le.refl _, S, rfl, fun _ _ z => z⟩, r⟩
  | _, w, h, .vw y, v, x, h', S, r, e => by
    unfold fzv at e
    split at e
    · rename_i c
      cases e
      exact ⟨w, ⟨Wd.le.refl _, S, rfl, fun _ _ z => z⟩, Rp.immF S.gh S.ti y v c r⟩
    · cases e
  | _, w, h, .sc n, v, x, h', S, r, e => by unfold fzv at e; cases e
  | _, w, h, .ex n, v, x, h', S, r, e => by unfold fzv at e; cases e
  | 0, w, h, .r n, v, x, h', S, r, e => by unfold fzv at e; cases e
  | k + 1, w, h, .r n, v, x, h', S, r, e => by
    unfold fzv at e
    split at e
    · rename_i xs hx
      split at e
      · rename_i ds h1 q
        split at e
        · rename_i ys hy
          split at e
          · rename_i hc
            cases e
            obtain ⟨a, e1, rfl⟩ := r
            obtain ⟨a', e2, ⟨vs, hv, rv⟩, _, _⟩ := S.live n _ hx
            have ea : a' = a := Option.some.inj (e2.symm.trans e1)
            subst ea
            obtain ⟨w1, F1, rl⟩ := fzL_ok k w h xs vs ds h1 S rv q
            have e3 : w1.rho[n]? = some a' := by rw [F1.rho]; exact e1
            obtain ⟨a2, e4, _, f2, _⟩ := F1.S.live n _ hy
            have ea2 : a2 = a' := Option.some.inj (e4.symm.trans e3)
            subst ea2
            refine ⟨w1.fz a2 (.lst vs), ⟨F1.le.trans (F1.S.le_own hy e3 hv), F1.S.freeze hy e3 hv, F1.rho, fun m o z => F1.same m o ?_⟩, ?_⟩
            · by_cases hm : m = n
              · subst hm
                rw [List.getElem?_set_self (List.getElem?_eq_some_iff.mp hy).1] at z
                cases z
              · rw [List.getElem?_set_ne (Ne.symm hm)] at z; exact z
            · show Rp en.K (upd w1.F a2 (.lst vs)) (.ref a2) (.list ds)
              unfold Rp
              exact ⟨a2, vs, rfl, upd_same, RpL.mono (F1.S.le_own hy e3 hv).2 ds vs rl⟩
          · cases e
        · cases e
      · cases e
    · rename_i kvs hx
      split at e
      · rename_i ds h1 q
        split at e
        · rename_i ys hy
          split at e
          · rename_i hc
            cases e
            obtain ⟨a, e1, rfl⟩ := r
            obtain ⟨a', e2, ⟨kws, hv, ek, rv⟩, _, _⟩ := S.live n _ hx
            have ea : a' = a := Option.some.inj (e2.symm.trans e1)
            subst ea
            obtain ⟨w1, F1, rl⟩ := fzL_ok k w h (kvs.map Prod.snd) (kws.map Prod.snd) ds h1 S rv q
            have e3 : w1.rho[n]? = some a' := by rw [F1.rho]; exact e1
            obtain ⟨a2, e4, _, f2, _⟩ := F1.S.live n _ hy
            have ea2 : a2 = a' := Option.some.inj (e4.symm.trans e3)
            subst ea2
            refine ⟨w1.fz a2 (.dK kws), ⟨F1.le.trans (F1.S.le_own hy e3 hv), F1.S.freeze hy e3 hv, F1.rho, fun m o z => F1.same m o ?_⟩, ?_⟩
            · by_cases hm : m = n
              · subst hm
                rw [List.getElem?_set_self (List.getElem?_eq_some_iff.mp hy).1] at z
                cases z
              · rw [List.getElem?_set_ne (Ne.symm hm)] at z; exact z
            · show Rp en.K (upd w1.F a2 (.dK kws)) (.ref a2) (.dict (zipD (kvs.map Prod.fst) ds))
              unfold Rp
              refine ⟨a2, kws, rfl, upd_same, RpK.mono (F1.S.le_own hy e3 hv).2 _ kws ?_⟩
              rw [← ek]
              exact zipD_ok rl
          · cases e
        · cases e
      · cases e
    · rename_i xs hx
      split at e
      · rename_i ds h1 q
        split at e
        · rename_i ys hy
          split at e
          · rename_i hc
            cases e
            obtain ⟨a, e1, rfl⟩ := r
            obtain ⟨a', e2, ⟨vs, hv, rv⟩, _, _⟩ := S.live n _ hx
            have ea : a' = a := Option.some.inj (e2.symm.trans e1)
            subst ea
            obtain ⟨w1, F1, rl⟩ := fzL_ok k w h xs vs ds h1 S rv q
            have e3 : w1.rho[n]? = some a' := by rw [F1.rho]; exact e1
            obtain ⟨a2, e4, _, f2, _⟩ := F1.S.live n _ hy
            have ea2 : a2 = a' := Option.some.inj (e4.symm.trans e3)
            subst ea2
            refine ⟨w1.fz a2 (.tup vs), ⟨F1.le.trans (F1.S.le_own hy e3 hv), F1.S.freeze hy e3 hv, F1.rho, fun m o z => F1.same m o ?_⟩, ?_⟩
            · by_cases hm : m = n
              · subst hm
                rw [List.getElem?_set_self (List.getElem?_eq_some_iff.mp hy).1] at z
                cases z
              · rw [List.getElem?_set_ne (Ne.symm hm)] at z; exact z
            · show Rp en.K (upd w1.F a2 (.tup vs)) (.ref a2) (.tuple ds)
              unfold Rp
              exact ⟨a2, vs, rfl, .inl (.inl upd_same), RpL.mono (F1.S.le_own hy e3 hv).2 ds vs rl⟩
          · cases e
        · cases e
      · cases e
    · cases e
theorem fzL_ok {en : En} {H : Hp} : ∀ (k : Nat) (w : Wd) (h : AH) (ss : List SV) (vs : List V) (ds : List PyData) (h' : AH), SimH en w H h → RSL en w vs ss → fzL k h ss = some (ds, h') → ∃ w', Fzd en w w' H h h' ∧ RpL en.K w'.F vs ds
  | k, w, h, [], vs, ds, h', S, r, e => by
    unfold fzL at e
    cases e
    exact ⟨w, ⟨Wd.le.refl _, S, rfl, fun _ _ z => z⟩, by unfold RpL; exact r⟩
  | k, w, h, s :: ss, vs, ds, h', S, ⟨x, q, e1, r1, r2⟩, e => by
    unfold fzL at e
    split at e
    · rename_i d h1 q1
      split at e
      · rename_i d2 h2 q2
        cases e
        obtain ⟨w1, F1, p1⟩ := fzv_ok k w h s x d h1 S r1 q1
        obtain ⟨w2, F2, p2⟩ := fzL_ok k w1 h1 ss q d2 _ F1.S (RSL.mono F1.le r2) q2
        refine ⟨w2, ⟨F1.le.trans F2.le, F2.S, F2.rho.trans F1.rho, fun n o z => F1.same n o (F2.same n o z)⟩, ?_⟩
        unfold RpL
        exact ⟨x, q, e1, Rp.mono F2.le.2 d x p1, p2⟩
      · cases e
    · cases e
end
def fFz (f : FE) : FE := fun sl h => (f sl h).bind fun s h1 => match fzv 9 h1 s with
  | some (x, h2) => .ok (.d x) (trimE h.length sl h2)
  | none => .st
theorem fz_po {en : En} {w : Wd} {σ : St} {H : Hp} {sl : List SV} {h : AH} {f : FE} {Q : VK} (S : Sim en w σ H sl h) (P : Po RS X W en w σ sl (fFz f sl h) Q) : Po RS X W en w σ sl (f sl h) Q := by
  unfold fFz at P
  generalize f sl h = r at P ⊢
  cases r with
  | st => exact P
  | rz c h1 => exact P
  | ok s h1 =>
    intro v w1 H1 l1 S1 r1
    have P : Po RS X W en w σ sl (match fzv 9 h1 s with | some (x, h2) => .ok (.d x) (trimE h.length sl h2) | none => .st) Q := P
    split at P
    · rename_i x h2 q
      obtain ⟨w2, F2, p2⟩ := fzv_ok 9 w1 h1 s v x h2 S1.toSimH r1 q
      obtain ⟨w3, l3, e3, S3⟩ := Sim.trim (w0 := w) (σ := σ) (sl := sl) ⟨F2.S, S1.slots.mono F2.le⟩ (l1.trans F2.le)
      rw [S.len] at S3
      refine P v w3 H1 l3 S3 ?_
      show Rp en.K w3.F v x
      rw [e3]
      exact p2
    · exact False.elim P
theorem se_fz (ha : SE X W a fa) : SE X W a (fFz fa) := PE.imp ha (by
  rintro σ H Q ⟨en, w, sl, h, eK, S, P⟩
  exact ⟨en, w, sl, h, eK, S, fz_po S P⟩)
/-- a built-in function by values -/
def CallS (X : Cx) (r : List V → Hp → VK → Prop) (g : List SV → AH → R SV) : Prop := ∀ (W : WX) (en : En) (w : Wd) (σ : St) (H : Hp) (sl : List SV) (h : AH) (xs : List V) (ss : List SV) (Q : VK), en.ok X → Sim en w σ H sl h → RSL en w xs ss → Po RS X W en w σ sl (g ss h) Q → r xs H Q
def fCB (g : List SV → AH → R SV) (fa : FA) : FE := fun sl h => (fa sl h).bind fun ss h1 => g ss h1
theorem cb_t {r : List V → Hp → VK → Prop} {g : List SV → AH → R SV} (hr : CallS X r g) {fa : FA} {σ : St} {H : Hp} {Q : VK} (q : tE X W (fCB g fa) σ H Q) : tCB r (tA X W fa) σ H Q := by
  obtain ⟨en, w, sl, h, eK, S, P⟩ := q
  exact ⟨en, w, sl, h, eK, S, Po.bind P fun ss h1 vs w1 H1 l1 S1 r1 P1 => hr W en w1 σ H1 sl h1 vs ss Q eK S1 r1 P1⟩
theorem se_callB {x : Str} {p : Pos} {id : String} {r : List V → Hp → VK → Prop} {g : List SV → AH → R SV} {fa : FA} (hc : CallR X (.builtin id) r) (hr : CallS X r g) (hg : Gl X x) (hm : X.mg x = none) (hv : bootBuiltins x = some (.builtin id)) (ha : SA X W (a :: es) fa) (hn : x ≠ "__name__" := by decide) (hdb : (x == ("__debug__" : Str)) = false := by decide)
    (he : starEach (a :: es) X.env = (false, eval a X.env) :: starEach es X.env := by rfl) (hpl : (backTo pos (starEach es X.env)).any (·.1) = false := by rfl) : SE X W (.Call (.Name x p) (a :: es) [] pos) (fCB g fa) :=
  PE.imp (pe_callB hc hg hm hv ha hn hdb he hpl) fun _ _ _ q => cb_t hr q
theorem se_callTy {x : Str} {p : Pos} {id : String} {r : List V → Hp → VK → Prop} {g : List SV → AH → R SV} {fa : FA} (hc : CallR X (.type id) r) (hr : CallS X r g) (hg : Gl X x) (hm : X.mg x = none) (hv : bootBuiltins x = some (.type id)) (ha : SA X W (a :: es) fa) (hn : x ≠ "__name__" := by decide) (hdb : (x == ("__debug__" : Str)) = false := by decide)
    (he : starEach (a :: es) X.env = (false, eval a X.env) :: starEach es X.env := by rfl) (hpl : (backTo pos (starEach es X.env)).any (·.1) = false := by rfl) : SE X W (.Call (.Name x p) (a :: es) [] pos) (fCB g fa) :=
  PE.imp (pe_callTy hc hg hm hv ha hn hdb he hpl) fun _ _ _ q => cb_t hr q
end
end Zx

namespace Zx
open PySem PySem.Spec L2

/-! ## calls of defs -/
def shv (L : Nat) : SV → SV
  | .r n => .r (n + L)
  | .vw _ => .un
  | .d x => .d x
  | .un => .un
  | .sc _ => .un
  | .ex _ => .un
/-- how an argument is handed in: frozen, looked at, the script -/
inductive Md where
  | fz | vw | sc
def sho (L : Nat) : AO → AO
  | .lst xs => .lst (xs.map (shv L))
  | .dct kvs => .dct (kvs.map fun p => (p.1, shv L p.2))
  | .tup xs => .tup (xs.map (shv L))
def shh (L : Nat) (h : AH) : AH := h.map (Option.map (sho L))
def argD (h : AH) : Md → SV → Option PyData
  | .fz, .d x => some x
  | .sc, .sc ns => some (.list (ns.map PyData.int))
  | .vw, s => rb h 9 s
  | _, _ => none
def ArgV (K : PySem.W.Frag) (F H : Hp) (v : V) : Md → PyData → Prop
  | .fz, d => Rp K F v d
  | .vw, d => Rp K H v d
  | .sc, d => ∃ ns, d = .list (ns.map PyData.int) ∧ RpS K H v ns
def argsD (h : AH) : List Md → List SV → Option (List PyData)
  | [], [] => some []
  | m :: ms, s :: ss => match argD h m s with
    | some d => match argsD h ms ss with
      | some ds => some (d :: ds)
      | none => none
    | none => none
  | _, _ => none
def ArgOk (K : PySem.W.Frag) (F H : Hp) : List Md → List V → List PyData → Prop
  | [], vs, ds => vs = [] ∧ ds = []
  | m :: ms, vs, ds => ∃ v vs' d ds', vs = v :: vs' ∧ ds = d :: ds' ∧ ArgV K F H v m d ∧ ArgOk K F H ms vs' ds'
theorem ArgOk.len {K : PySem.W.Frag} {F H : Hp} : ∀ {ms : List Md} {vs : List V} {ds : List PyData}, ArgOk K F H ms vs ds → vs.length = ms.length ∧ ds.length = ms.length
  | [], vs, ds, ⟨h1, h2⟩ => by rw [h1, h2]; exact ⟨rfl, rfl⟩
  | m :: ms, vs, ds, ⟨v, vs', d, ds', h1, h2, _, q⟩ => by
    obtain ⟨a, b⟩ := ArgOk.len q
    rw [h1, h2, List.length_cons, List.length_cons, List.length_cons, a, b]
    exact ⟨rfl, rfl⟩
/-- the promise of a def that computes φ: from data to an outcome with a heap of its own -/
def spD (K : PySem.W.Frag) (mg : Str → Option Value) (ms : List Md) (φ : List PyData → R SV) : Sp := fun vs H Q E => ∃ F ds, Same F H ∧ TupIn H F ∧ ArgOk K F H ms vs ds ∧ match φ ds with
  | .ok s hn => ∀ v w H', SimH ⟨K, H, F, none⟩ w H' hn → RS ⟨K, H, F, none⟩ w v s → Q v H'
  | .rz c _ => ∀ w H' hn, SimH ⟨K, H, F, none⟩ w H' hn → ∀ u, mg c = some u → E u none H'
  | .st => False
theorem argsD_ok {en : En} {w : Wd} {H : Hp} {h : AH} (S : SimH en w H h) : ∀ {ms : List Md} {ss : List SV} {vs : List V} {ds : List PyData}, RSL en w vs ss → argsD h ms ss = some ds → ArgOk en.K w.F H ms vs ds
  | [], [], vs, ds, r, e => by
    unfold argsD at e
    cases e
    exact ⟨r, rfl⟩
  | [], s :: ss, vs, ds, r, e => by unfold argsD at e; cases e
  | m :: ms, [], vs, ds, r, e => by unfold argsD at e; cases e
  | m :: ms, s :: ss, vs, ds, ⟨x, q, e1, r1, r2⟩, e => by
    unfold argsD at e
    cases k : argD h m s with
    | none => rw [k] at e; cases e
    | some d =>
      rw [k] at e
      cases k2 : argsD h ms ss with
      | none => rw [k2] at e; cases e
      | some d2 =>
        rw [k2] at e
        cases e
        refine ⟨x, q, d, d2, e1, rfl, ?_, argsD_ok S r2 k2⟩
        cases m with
        | vw =>
          have k : rb h 9 s = some d := by unfold argD at k; exact k
          exact rb_ok S 9 s x d r1 k
        | fz =>
          cases s with
          | d y => unfold argD at k; cases k; exact r1
          | un => unfold argD at k; cases k
          | vw y => unfold argD at k; cases k
          | r n => unfold argD at k; cases k
          | sc n => unfold argD at k; cases k
          | ex n => unfold argD at k; cases k
        | sc =>
          cases s with
          | sc ns =>
            unfold argD at k; cases k
            obtain ⟨a, e, q⟩ := r1
            exact ⟨ns, rfl, a, e, sqL_mono (S.gh a) q⟩
          | un => unfold argD at k; cases k
          | vw y => unfold argD at k; cases k
          | r n => unfold argD at k; cases k
          | d n => unfold argD at k; cases k
          | ex n => unfold argD at k; cases k
theorem RS.shift {K : PySem.W.Frag} {G F0 : Hp} {en : En} {w1 w : Wd} (eK : en.K = K) {v : V} {s : SV} (r : RS ⟨K, G, F0, none⟩ w v s) : RS en ⟨w1.rho ++ w.rho, w.F⟩ v (shv w1.rho.length s) := by
  cases s with
  | un => exact trivial
  | d x => exact (show Rp en.K w.F v x by rw [eK]; exact r)
  | vw x => exact trivial
  | sc x => exact trivial
  | ex x => exact trivial
  | r n =>
    obtain ⟨a, e, z⟩ := r
    refine ⟨a, ?_, z⟩
    show (w1.rho ++ w.rho)[n + w1.rho.length]? = some a
    rw [List.getElem?_append_right (by omega), Nat.add_sub_cancel]
    exact e
theorem RSL.shift {K : PySem.W.Frag} {G F0 : Hp} {en : En} {w1 w : Wd} (eK : en.K = K) : ∀ {ss : List SV} {vs : List V}, RSL ⟨K, G, F0, none⟩ w vs ss → RSL en ⟨w1.rho ++ w.rho, w.F⟩ vs (ss.map (shv w1.rho.length))
  | [], vs, r => r
  | s :: ss, vs, ⟨x, q, e, a, b⟩ => ⟨x, q, e, RS.shift eK a, RSL.shift eK b⟩
/-- behind a call -/
theorem Sim.call {en : En} {w1 w : Wd} {σ : St} {H1 H' : Hp} {sl : List SV} {h1 hn : AH} (S1 : Sim en w1 σ H1 sl h1) (S2 : SimH ⟨en.K, H1, w1.F, none⟩ w H' hn) :
    w1.le ⟨w1.rho ++ w.rho, w.F⟩ ∧ Sim en ⟨w1.rho ++ w.rho, w.F⟩ σ H' sl (h1 ++ shh h1.length hn) := by
  have le : w1.le ⟨w1.rho ++ w.rho, w.F⟩ := ⟨List.prefix_append _ _, S2.f0⟩
  have hL : h1.length = w1.rho.length := S1.len.symm
  have getN : ∀ (n : Nat) (o : AO), (h1 ++ shh h1.length hn)[n]? = some (some o) → (n < h1.length ∧ h1[n]? = some (some o)) ∨ (h1.length ≤ n ∧ ∃ o', hn[n - h1.length]? = some (some o') ∧ o = sho h1.length o') := fun n o e => by
    by_cases hn' : n < h1.length
    · rw [List.getElem?_append_left hn'] at e
      exact .inl ⟨hn', e⟩
    · rw [List.getElem?_append_right (by omega)] at e
      refine .inr ⟨by omega, ?_⟩
      unfold shh at e
      rw [List.getElem?_map] at e
      cases k : hn[n - h1.length]? with
      | none => rw [k] at e; cases e
      | some oo =>
        rw [k] at e
        cases oo with
        | none => cases e
        | some o' => cases e; exact ⟨o', rfl, rfl⟩
  have rhoR : ∀ (n : Nat), h1.length ≤ n → (w1.rho ++ w.rho)[n]? = w.rho[n - h1.length]? := fun n hn' => by
    rw [List.getElem?_append_right (by omega), hL]
  have rhoL : ∀ (n : Nat), n < h1.length → (w1.rho ++ w.rho)[n]? = w1.rho[n]? := fun n hn' => by
    rw [List.getElem?_append_left (by omega)]
  refine ⟨le, ⟨S1.gh.trans S2.gh, S2.fh, S1.f0.trans S2.f0, fun a o e => ?_, S2.ti, ?_, fun n o e => ?_, fun n m a o1 o2 e1 e2 a1 a2 => ?_⟩, S1.slots.mono le⟩
  · rcases S2.nw a o e with z | z
    · exact S1.nw a o z
    · exact .inr (S1.gh.free z)
  · show (w1.rho ++ w.rho).length = (h1 ++ shh h1.length hn).length
    rw [List.length_append, List.length_append, S1.len, S2.len]
    unfold shh
    rw [List.length_map]
  · rcases getN n o e with ⟨hlt, e'⟩ | ⟨hge, o', e', rfl⟩
    · obtain ⟨a, ea, q, f, g⟩ := S1.live n o e'
      obtain ⟨u, eu, _, _⟩ := q.some
      refine ⟨a, (rhoL n hlt).trans ea, q.mono le ((S2.gh a u eu).trans eu.symm), ?_, g⟩
      intro ht
      have f := f ht
      show w.F a = none
      cases k : w.F a with
      | none => rfl
      | some o2 =>
        rcases S2.nw a o2 k with z | z
        · have z : w1.F a = some o2 := z
          rw [f] at z; cases z
        · have z : H1 a = none := z
          rw [eu] at z; cases z
    · obtain ⟨a, ea, q, f, g⟩ := S2.live _ o' e'
      refine ⟨a, (rhoR n hge).trans ea, ?_, (fun t => f (by cases o' <;> first | rfl | exact t)), S1.gh.free g⟩
      cases o' with
      | lst xs =>
        obtain ⟨vs, hv, rl⟩ := q
        refine ⟨vs, hv, ?_⟩
        rw [hL]
        exact RSL.shift (en := en) (w1 := w1) rfl rl
      | dct kvs =>
        obtain ⟨vs, hv, ek, rl⟩ := q
        refine ⟨vs, hv, ?_, ?_⟩
        · rw [ek, List.map_map]; rfl
        · rw [hL, List.map_map, show (Prod.snd ∘ fun p : Key × SV => (p.1, shv w1.rho.length p.2)) = (shv w1.rho.length) ∘ Prod.snd from rfl, ← List.map_map]
          exact RSL.shift (en := en) (w1 := w1) rfl rl
      | tup xs =>
        obtain ⟨vs, hv, rl⟩ := q
        refine ⟨vs, hv, ?_⟩
        rw [hL]
        exact RSL.shift (en := en) (w1 := w1) rfl rl
  · have a1 : (w1.rho ++ w.rho)[n]? = some a := a1
    have a2 : (w1.rho ++ w.rho)[m]? = some a := a2
    rcases getN n o1 e1 with ⟨h1', e1'⟩ | ⟨h1', o1', e1', _⟩ <;> rcases getN m o2 e2 with ⟨h2', e2'⟩ | ⟨h2', o2', e2', _⟩
    · exact S1.sep n m a o1 o2 e1' e2' (by rw [← rhoL n h1']; exact a1) (by rw [← rhoL m h2']; exact a2)
    · obtain ⟨b, eb, q, f, g⟩ := S1.live n o1 e1'
      obtain ⟨u, eu, _, _⟩ := q.some
      obtain ⟨b2, eb2, q2, f2, g2⟩ := S2.live _ o2' e2'
      have z1 : b = a := Option.some.inj (((rhoL n h1').trans eb).symm.trans a1)
      have z2 : b2 = a := Option.some.inj (((rhoR m h2').trans eb2).symm.trans a2)
      have g2 : H1 b2 = none := g2
      rw [z2, ← z1, eu] at g2; cases g2
    · obtain ⟨b, eb, q, f, g⟩ := S1.live m o2 e2'
      obtain ⟨u, eu, _, _⟩ := q.some
      obtain ⟨b2, eb2, q2, f2, g2⟩ := S2.live _ o1' e1'
      have z1 : b = a := Option.some.inj (((rhoL m h2').trans eb).symm.trans a2)
      have z2 : b2 = a := Option.some.inj (((rhoR n h1').trans eb2).symm.trans a1)
      have g2 : H1 b2 = none := g2
      rw [z2, ← z1, eu] at g2; cases g2
    · have := S2.sep _ _ a o1' o2' e1' e2' (by rw [← rhoR n h1']; exact a1) (by rw [← rhoR m h2']; exact a2)
      omega
theorem SimH.drop {en : En} {w : Wd} {H : Hp} {h : AH} (S : SimH en w H h) : SimH en ⟨[], w.F⟩ H [] :=
  ⟨S.gh, S.fh, S.f0, S.nw, S.ti, rfl, fun n o e => by simp at e, fun n m a o1 o2 e => by simp at e⟩
def fCall (ms : List Md) (φ : List PyData → R SV) (fa : FA) : FE := fun sl h => (fa sl h).bind fun ss h1 => match argsD h1 ms ss with
  | some ds => match φ ds with
    | .ok s hn => .ok (shv h1.length s) (h1 ++ shh h1.length hn)
    | .rz c _ => .rz c h1
    | .st => .st
  | none => .st
section
variable {X : Cx} {W : WX} {a : Expr} {es : List Expr} {fa : FA} {pos p : Pos} {x : Str} {k : Nat} {f : Addr} {fd : FuncData} {ps : List Str} {ms : List Md} {φ : List PyData → R SV}
theorem call_t {σ : St} {H : Hp} {Q : VK} (q : tE X W (fCall ms φ fa) σ H Q) : tCallS (spD X.K X.mg ms φ) (WE W) (tA X W fa) σ H Q := by
  obtain ⟨en, w, sl, h, eK, S, P⟩ := q
  refine ⟨en, w, sl, h, eK, S, Po.bind P fun ss h1 vs w1 H1 l1 S1 r1 P1 => ?_⟩
  split at P1
  · rename_i ds hd
    refine ⟨w1.F, ds, S1.fh, S1.ti, by rw [← eK.1]; exact argsD_ok S1.toSimH r1 hd, ?_⟩
    cases hφ : φ ds with
    | st => rw [hφ] at P1; exact False.elim P1
    | rz c hh =>
      rw [hφ] at P1
      show ∀ w H' hn, SimH ⟨X.K, H1, w1.F, none⟩ w H' hn → ∀ u, X.mg c = some u → W u none σ H'
      intro w2 H' hn S2 u hu
      rw [← eK.1] at S2
      obtain ⟨le, S3⟩ := Sim.call S1 S2.drop
      refine P1 _ H' le ?_ u hu
      have S3 : Sim en ⟨w1.rho ++ [], w2.F⟩ σ H' sl (h1 ++ []) := S3
      rw [List.append_nil h1] at S3
      exact S3
    | ok s hn =>
      rw [hφ] at P1
      show ∀ v w H', SimH ⟨X.K, H1, w1.F, none⟩ w H' hn → RS ⟨X.K, H1, w1.F, none⟩ w v s → Q v H'
      intro v w2 H' S2 r2
      rw [← eK.1] at S2 r2
      obtain ⟨le, S3⟩ := Sim.call S1 S2
      refine P1 v _ H' le S3 ?_
      rw [show h1.length = w1.rho.length from S1.len.symm]
      exact RS.shift rfl r2
  · exact False.elim P1
theorem se_call (F : FnOk X.prog X.w X.K X.mg X.base (L2.CX X.prog X.w) k f fd ps (spD X.K X.mg ms φ)) (hr : Room k X.A) (hg : Gl X x) (hm : X.mg x = some (.ref f)) (hk : PySem.W.keepIn X.K (.ref f) = true) (hb : Binds X.K fd ps []) (tk : Takes X W)
    (ha : SA X W (a :: es) fa) (hdb : (x == ("__debug__" : Str)) = false := by decide) (he : starEach (a :: es) X.env = (false, eval a X.env) :: starEach es X.env := by rfl) (hpl : (backTo pos (starEach es X.env)).any (·.1) = false := by rfl) :
    SE X W (.Call (.Name x p) (a :: es) [] pos) (fCall ms φ fa) :=
  PE.imp (pe_callS F hr hg hm hk hb (passAt tk) ha hdb he hpl) fun _ _ _ q => call_t q
end

/-! ## statements -/
inductive O where
  | nx (sl : List SV) (h : AH) | rt (s : SV) (h : AH) | bk (sl : List SV) (h : AH) | ct (sl : List SV) (h : AH) | rz (c : Str) (sl : List SV) (h : AH) | st
abbrev FS := List SV → AH → O
def PoS (X : Cx) (W : WX) (en : En) (w : Wd) (o : O) (D : Ends) : Prop := match o with
  | .nx sl h => ∀ w' σ' H', w.le w' → Sim en w' σ' H' sl h → D.nx σ' H'
  | .bk sl h => ∀ w' σ' H', w.le w' → Sim en w' σ' H' sl h → D.bk σ' H'
  | .ct sl h => ∀ w' σ' H', w.le w' → Sim en w' σ' H' sl h → D.ct σ' H'
  | .rt s h => ∀ w' H' v, w.le w' → SimH en w' H' h → RS en w' v s → D.rt v H'
  | .rz c sl h => ∀ w' σ' H', w.le w' → Sim en w' σ' H' sl h → clsW X W c σ' H'
  | .st => False
def tS (X : Cx) (W : WX) (g : FS) : TS := fun D σ H => ∃ en w sl h, en.ok X ∧ Sim en w σ H sl h ∧ PoS X W en w (g sl h) D
abbrev SS (X : Cx) (W : WX) (s : Stmt) (g : FS) : Prop := PS X s (tS X W g)
abbrev SSs (X : Cx) (W : WX) (s : List Stmt) (g : FS) : Prop := PSs X s (tS X W g)
theorem PoS.mono {X : Cx} {W : WX} {en : En} {w w' : Wd} {o : O} {D : Ends} (k : w.le w') (P : PoS X W en w o D) : PoS X W en w' o D := by
  cases o with
  | nx sl h => exact fun w2 σ2 H2 l S => P w2 σ2 H2 (k.trans l) S
  | bk sl h => exact fun w2 σ2 H2 l S => P w2 σ2 H2 (k.trans l) S
  | ct sl h => exact fun w2 σ2 H2 l S => P w2 σ2 H2 (k.trans l) S
  | rt s h => exact fun w2 H2 v l S r => P w2 H2 v (k.trans l) S r
  | rz c sl h => exact fun w2 σ2 H2 l S => P w2 σ2 H2 (k.trans l) S
  | st => exact P
/-- an outcome of an expression, then a statement's -/
def R.thn {α : Type} (r : R α) (sl : List SV) (k : α → AH → O) : O := match r with
  | .ok a h => k a h
  | .rz c h => .rz c sl h
  | .st => .st
theorem Po.thn {α β : Type} {rep : En → Wd → β → α → Prop} {X : Cx} {W : WX} {en : En} {w : Wd} {σ : St} {sl : List SV} {r : R α} {k : α → AH → O} {D : Ends} {Q1 : β → Hp → Prop} (P : PoS X W en w (r.thn sl k) D)
    (c : ∀ a h1 b w' H', w.le w' → Sim en w' σ H' sl h1 → rep en w' b a → PoS X W en w' (k a h1) D → Q1 b H') : Po rep X W en w σ sl r Q1 := by
  cases r with
  | ok a h1 => exact fun b w' H' l S q => c a h1 b w' H' l S q (PoS.mono l P)
  | rz cc h1 => exact fun w' H' l S => P w' σ H' l S
  | st => exact P
def sNext : FS := fun sl h => .nx sl h
def sSeq (a b : FS) : FS := fun sl h => match a sl h with
  | .nx sl' h' => b sl' h'
  | o => o
def sExpr (f : FE) : FS := fun sl h => (f sl h).thn sl fun _ h1 => .nx sl h1
def sRet (f : FE) : FS := fun sl h => (f sl h).thn sl fun s h1 => .rt s h1
def sRetN : FS := fun _ h => .rt (.d .none) h
def sSet (i : Nat) (f : FE) : FS := fun sl h => (f sl h).thn sl fun s h1 => .nx (sl.set i s) h1
def sIf (t : FT) (a b : FS) : FS := fun sl h => (t sl h).thn sl fun k h1 => if k = true then a sl h1 else b sl h1
def sBreak : FS := fun sl h => .bk sl h
def sCont : FS := fun sl h => .ct sl h
def sRaise (c : Str) : FS := fun sl h => .rz c sl h
theorem Slt.set {en : En} {w : Wd} {σ : St} {sl : List SV} (q : Slt en w σ sl) {v : V} {s : SV} (r : RS en w v s) (i : Nat) : Slt en w (σ.set i (some v)) (sl.set i s) := by
  refine ⟨by rw [List.length_set, List.length_set]; exact q.1, fun j u e => ?_⟩
  by_cases hj : i = j
  · subst hj
    by_cases hi : i < sl.length
    · rw [List.getElem?_set_self hi] at e
      cases e
      refine .inr ⟨v, ?_, r⟩
      rw [List.getElem?_set_self (by rw [← q.1]; exact hi)]
    · rw [List.getElem?_eq_none (by rw [List.length_set]; omega)] at e
      cases e
  · rw [List.getElem?_set_ne hj] at e
    rw [List.getElem?_set_ne hj]
    exact q.2 j u e
theorem Sim.set {en : En} {w : Wd} {σ : St} {H : Hp} {sl : List SV} {h : AH} (S : Sim en w σ H sl h) {v : V} {s : SV} (r : RS en w v s) (i : Nat) : Sim en w (σ.set i (some v)) H (sl.set i s) h := ⟨S.toSimH, S.slots.set r i⟩
section
variable {X : Cx} {W : WX} {e : Expr} {fe : FE} {st : Stmt} {rest : List Stmt} {a b : List Stmt} {g g' : FS} {pos : Pos} {ft : FT} {c : Expr}
theorem ss_nil : SSs X W [] sNext := PSs.imp pss_nil (by
  rintro D σ H ⟨en, w, sl, h, eK, S, P⟩
  exact P w σ H (Wd.le.refl _) S)
theorem ss_pass : SS X W (.Pass pos) sNext := PS.imp ps_pass (by
  rintro D σ H ⟨en, w, sl, h, eK, S, P⟩
  exact P w σ H (Wd.le.refl _) S)
theorem ss_break : SS X W (.Break pos) sBreak := PS.imp ps_break (by
  rintro D σ H ⟨en, w, sl, h, eK, S, P⟩
  exact P w σ H (Wd.le.refl _) S)
theorem ss_cont : SS X W (.Continue pos) sCont := PS.imp ps_continue (by
  rintro D σ H ⟨en, w, sl, h, eK, S, P⟩
  exact P w σ H (Wd.le.refl _) S)
theorem ss_one (h1 : SS X W st g) : SSs X W [st] g := pss_one h1
theorem ss_cons (h1 : SS X W st g) (h2 : SSs X W rest g') : SSs X W (st :: rest) (sSeq g g') := PSs.imp (pss_cons h1 h2) (by
  rintro D σ H ⟨en, w, sl, h, eK, S, P⟩
  refine ⟨en, w, sl, h, eK, S, ?_⟩
  unfold sSeq at P
  cases q : g sl h with
  | nx sl1 h1 =>
    rw [q] at P
    exact fun w' σ' H' l S' => ⟨en, w', sl1, h1, eK, S', PoS.mono l P⟩
  | rt s h1 => rw [q] at P; exact P
  | bk sl1 h1 => rw [q] at P; exact P
  | ct sl1 h1 => rw [q] at P; exact P
  | rz cc sl1 h1 => rw [q] at P; exact P
  | st => rw [q] at P; exact P)
theorem ss_expr (he : SE X W e fe) (hs : swapsWith e none pos.line X.env = pure false := by rfl) : SS X W (.Expr e pos) (sExpr fe) := PS.imp (ps_expr he hs) (by
  rintro D σ H ⟨en, w, sl, h, eK, S, P⟩
  exact ⟨en, w, sl, h, eK, S, Po.thn P fun s h1 v w1 H1 l1 S1 r1 P1 => P1 w1 σ H1 (Wd.le.refl _) S1⟩)
theorem ss_ret (he : SE X W e fe) : SS X W (.Return (some e) pos) (sRet fe) := PS.imp (ps_ret he) (by
  rintro D σ H ⟨en, w, sl, h, eK, S, P⟩
  exact ⟨en, w, sl, h, eK, S, Po.thn P fun s h1 v w1 H1 l1 S1 r1 P1 => P1 w1 H1 v (Wd.le.refl _) S1.toSimH r1⟩)
theorem ss_retN : SS X W (.Return none pos) sRetN := PS.imp ps_retN (by
  rintro D σ H ⟨en, w, sl, h, eK, S, P⟩
  exact P w H .non (Wd.le.refl _) S.toSimH (show Rp en.K w.F .non .none from Rp.non))
theorem ss_set {i : Nat} {x : Str} {pos' : Pos} (hN : X.N.Nodup) (hi : X.N[i]? = some x) (hx : Loc X.env.scope x) (he : SE X W e fe) (hs : swapsWith e (some (.Name x pos')) pos.line X.env = pure false := by rfl) (hf : X.fn x = true ∨ X.env.scope.names.lookup x = some .local := by first | exact .inl rfl | exact .inr rfl | assumption) :
    SS X W (.Assign [.Name x pos'] e pos) (sSet i fe) := PS.imp (ps_set hN hi hx he hs hf) (by
  rintro D σ H ⟨en, w, sl, h, eK, S, P⟩
  exact ⟨en, w, sl, h, eK, S, Po.thn P fun s h1 v w1 H1 l1 S1 r1 P1 => P1 w1 _ H1 (Wd.le.refl _) (S1.set r1 i)⟩)
theorem ss_if (hc : STt X W c ft) (ha : SSs X W a g) (hb : SSs X W b g') : SS X W (.If c a b pos) (sIf ft g g') := PS.imp (ps_if hc ha hb) (by
  rintro D σ H ⟨en, w, sl, h, eK, S, P⟩
  refine ⟨en, w, sl, h, eK, S, Po.thn P fun k h1 k' w1 H1 l1 S1 r1 P1 => ?_⟩
  have r1 : k' = k := r1
  subst r1
  cases k' with
  | true => rw [if_pos rfl] at P1 ⊢; exact ⟨en, w1, sl, h1, eK, S1, P1⟩
  | false => rw [if_neg (by decide)] at P1 ⊢; exact ⟨en, w1, sl, h1, eK, S1, P1⟩)
theorem ss_raise {cl : Str} {C : Addr} (hc : X.calm = true) (tk : Takes X W) (gC : X.mg cl = some (.ref C)) (he : PMk X e (fun _ H Q => Q (.ref C) none H)) : SS X W (.Raise (some e) none pos) (sRaise cl) := PS.imp (ps_raise hc tk he) (by
  rintro D σ H ⟨en, w, sl, h, eK, S, P⟩
  exact P w σ H (Wd.le.refl _) S (.ref C) gC)
end
end Zx

namespace Zx
open PySem PySem.Spec L2

/-! ## targets -/
inductive It1 where
  | one (s : SV) | two (x y : SV)
inductive Bd where
  | nm (i : Nat) | tp (is : List Nat)
def tupItems : SV → Option (List SV)
  | .d (.tuple ds) => some (ds.map SV.d)
  | .vw (.tuple ds) => some (ds.map mkv)
  | _ => none
def setAll : List Nat → List SV → List SV → Option (List SV)
  | [], [], sl => some sl
  | i :: is, x :: xs, sl => setAll is xs (sl.set i x)
  | _, _, _ => none
def Bd.go : Bd → It1 → List SV → Option (List SV)
  | .nm i, .one s, sl => some (sl.set i s)
  | .tp is, .one s, sl => match tupItems s with
    | some xs => setAll is xs sl
    | none => none
  | .tp is, .two x y, sl => setAll is [x, y] sl
  | .nm _, .two _ _, _ => none
def RepI (en : En) (w : Wd) (H : Hp) (v : V) : It1 → Prop
  | .one s => RS en w v s
  | .two x y => ∃ T a b, v = .ref T ∧ H T = some (.tup [a, b]) ∧ RS en w a x ∧ RS en w b y
theorem tup_ok {en : En} {w : Wd} {H : Hp} {h : AH} (S : SimH en w H h) {s : SV} {v : V} {xs : List SV} (r : RS en w v s) (e : tupItems s = some xs) : ∃ a vs, v = .ref a ∧ SqT en.K H a vs ∧ RSL en w vs xs := by
  unfold tupItems at e
  split at e
  · cases e
    have r : Rp en.K w.F v (.tuple _) := r
    unfold Rp at r
    obtain ⟨a, vs, rfl, q, l⟩ := r
    exact ⟨a, vs, rfl, sqT_mono (S.fh a) q, RSL.ofRp l⟩
  · cases e
    have r : Rp en.K en.G v (.tuple _) := r
    unfold Rp at r
    obtain ⟨a, vs, rfl, q, l⟩ := r
    exact ⟨a, vs, rfl, sqT_mono (S.gh a) q, RSL.ofVw S l⟩
  · cases e
def Bd.is : Bd → List Nat
  | .nm i => [i]
  | .tp is => is
/-- only these slots differ -/
def Chg (is : List Nat) (σ σ' : St) : Prop := σ'.length = σ.length ∧ ∀ j, j ∉ is → σ'[j]? = σ[j]?
theorem Chg.refl (is : List Nat) (σ : St) : Chg is σ σ := ⟨rfl, fun _ _ => rfl⟩
theorem Chg.set {is : List Nat} {σ σ' : St} {i : Nat} {v : Option V} (hi : i ∈ is) (c : Chg is (σ.set i v) σ') : Chg is σ σ' :=
  ⟨c.1.trans (by rw [List.length_set]), fun j hj => (c.2 j hj).trans (List.getElem?_set_ne (fun e => hj (by rw [← e]; exact hi)))⟩
def gNms : List Nat → TGs
  | [] => gNil
  | i :: is => gCons (gName i) (gNms is)
theorem gNms_ok {en : En} {w : Wd} {H : Hp} {h : AH} {Q : St → Hp → Prop} : ∀ {is : List Nat} {xs : List SV} {vs : List V} {σ : St} {sl sl' : List SV}, Sim en w σ H sl h → RSL en w vs xs → setAll is xs sl = some sl' → (∀ σ', Sim en w σ' H sl' h → Chg is σ σ' → Q σ' H) → gNms is vs σ H Q
  | [], [], vs, σ, sl, sl', S, r, e, q => by
    unfold setAll at e
    cases e
    exact ⟨r, q σ S (Chg.refl _ _)⟩
  | i :: is, x :: xs, vs, σ, sl, sl', S, ⟨v, vr, e1, a, b⟩, e, q => by
    unfold setAll at e
    exact ⟨v, vr, e1, gNms_ok (S.set a i) b e fun σ' S' c => q σ' S' (Chg.set List.mem_cons_self ⟨c.1, fun j hj => c.2 j fun z => hj (List.mem_cons_of_mem _ z)⟩)⟩
  | [], x :: xs, vs, σ, sl, sl', S, r, e, q => by unfold setAll at e; cases e
  | i :: is, [], vs, σ, sl, sl', S, r, e, q => by unfold setAll at e; cases e
theorem setAll_len : ∀ {is : List Nat} {xs sl sl' : List SV}, setAll is xs sl = some sl' → xs.length = is.length
  | [], [], sl, sl', e => rfl
  | i :: is, x :: xs, sl, sl', e => by
    unfold setAll at e
    rw [List.length_cons, List.length_cons, setAll_len e]
  | [], x :: xs, sl, sl', e => by unfold setAll at e; cases e
  | i :: is, [], sl, sl', e => by unfold setAll at e; cases e
/-- a target binds as bd says -/
def GS (X : Cx) (bd : Bd) (g : TG) : Prop := ∀ (en : En) (w : Wd) (σ : St) (H : Hp) (sl sl' : List SV) (h : AH) (v : V) (it : It1) (Q : St → Hp → Prop), en.ok X → Sim en w σ H sl h → RepI en w H v it → bd.go it sl = some sl' → (∀ σ', Sim en w σ' H sl' h → Chg bd.is σ σ' → Q σ' H) → g v σ H Q
theorem gs_name {X : Cx} {i : Nat} : GS X (.nm i) (gName i) := by
  intro en w σ H sl sl' h v it Q eK S r e q
  cases it with
  | one s => cases e; exact q _ (S.set r i) (Chg.set (List.mem_singleton_self i) (Chg.refl _ _))
  | two x y => cases e
theorem gs_tup {X : Cx} {is : List Nat} : GS X (.tp is) (gTup X.K is.length (gNms is)) := by
  intro en w σ H sl sl' h v it Q eK S r e q
  cases it with
  | one s =>
    have e : (match tupItems s with | some xs => setAll is xs sl | none => none) = some sl' := e
    split at e
    · rename_i xs hx
      obtain ⟨a, vs, rfl, hq, rl⟩ := tup_ok S.toSimH r hx
      refine ⟨a, vs, rfl, by rw [← eK.1]; exact hq, ?_, gNms_ok S rl e q⟩
      rw [RSL.length rl, setAll_len e]
    · cases e
  | two x y =>
    have e : setAll is [x, y] sl = some sl' := e
    obtain ⟨T, a, b, rfl, hT, r1, r2⟩ := r
    exact ⟨T, [a, b], rfl, .of hT, (setAll_len e), gNms_ok (is := is) (xs := [x, y]) S ⟨a, [b], rfl, r1, b, [], rfl, r2, rfl⟩ e q⟩
/-- a, b = e -/
def sSetT (is : List Nat) (f : FE) : FS := fun sl h => (f sl h).thn sl fun s h1 => match (Bd.tp is).go (.one s) sl with
  | some sl' => .nx sl' h1
  | none => .st
section
variable {X : Cx} {W : WX} {e tg : Expr} {fe : FE} {pos : Pos}
theorem ss_setT {is : List Nat} (he : SE X W e fe) (hg : PG X tg (gTup X.K is.length (gNms is))) (hs : swapsWithSole [tg] e pos.line X.env = pure false := by rfl) (hw : swappedStores [tg] e X.env = pure none := by rfl)
    (h1 : List.map (fun x => x.snd) (assignEach [tg] X.env) = [assign tg X.env] := by rfl) : SS X W (.Assign [tg] e pos) (sSetT is fe) := PS.imp (ps_asg he hg hs hw h1) (by
  rintro D σ H ⟨en, w, sl, h, eK, S, P⟩
  refine ⟨en, w, sl, h, eK, S, Po.thn P fun s h1 v w1 H1 l1 S1 r1 P1 => ?_⟩
  split at P1
  · rename_i sl' e1
    exact gs_tup (X := X) en w1 σ H1 sl sl' h1 v (.one s) D.nx eK S1 r1 e1 fun σ' S' _ => P1 w1 σ' H1 (Wd.le.refl _) S'
  · exact False.elim P1)
end

/-! ## what is walked -/
inductive Src where
  | cn (l : List It1) | ow (n : Nat)
/-- the iterator J walks these items while the world stands -/
structure ItOk (en : En) (w0 : Wd) (J : It) (l : List It1) : Prop where
  goes : ∀ i σ w H sl h, w0.le w → Sim en w σ H sl h → i < l.length → J.go i H
  stop : ∀ σ w H sl h, w0.le w → Sim en w σ H sl h → J.stop l.length H
  yld : ∀ i σ w H sl h x H' it, w0.le w → Sim en w σ H sl h → l[i]? = some it → J.yld i H x H' → ∃ w', w.le w' ∧ Sim en w' σ H' sl h ∧ RepI en w' H' x it
def RepS (en : En) (w : Wd) (J : It) : Src → Prop
  | .cn l => ItOk en w J l
  | .ow n => ∃ a, w.rho[n]? = some a ∧ J = Itl en.K a
def tI (X : Cx) (W : WX) (f : List SV → AH → R Src) : TI := fun σ H Q => ∃ en w sl h, en.ok X ∧ Sim en w σ H sl h ∧ Po RepS X W en w σ sl (f sl h) Q
abbrev SI (X : Cx) (W : WX) (tg iter : Expr) (f : List SV → AH → R Src) : Prop := PI X tg iter (tI X W f)
theorem PI.imp {X : Cx} {tg iter : Expr} {t t' : TI} (h : PI X tg iter t) (k : ∀ σ H Q, t' σ H Q → t σ H Q) : PI X tg iter t' := ⟨fun pins s σ H Q I q => h.run pins s σ H Q I (k σ H Q q)⟩
def iSeq (f : FE) : List SV → AH → R Src := fun sl h => (f sl h).bind fun s h1 => match s with
  | .d (.list ds) => .ok (.cn (ds.map fun x => .one (.d x))) h1
  | .vw (.list ds) => .ok (.cn (ds.map fun x => .one (mkv x))) h1
  | .r n => match h1[n]? with
    | some (some (.lst _)) => .ok (.ow n) h1
    | _ => .st
  | _ => .st
def iTupl (f : FE) : List SV → AH → R Src := fun sl h => (f sl h).bind fun s h1 => match s with
  | .d (.tuple ds) => .ok (.cn (ds.map fun x => .one (.d x))) h1
  | .vw (.tuple ds) => .ok (.cn (ds.map fun x => .one (mkv x))) h1
  | _ => .st
theorem itl_ok {en : En} {w0 : Wd} {a : Addr} {vs : List V} {xs : List SV} (hq : ∀ σ w H sl h, w0.le w → Sim en w σ H sl h → SqL en.K H a vs) (rl : RSL en w0 vs xs) : ItOk en w0 (Itl en.K a) (xs.map It1.one) where
  goes := fun i σ w H sl h le S hi => by
    rw [List.length_map] at hi
    have hv : i < vs.length := by rw [RSL.length rl]; exact hi
    exact ⟨vs, vs[i], hq σ w H sl h le S, by simp [hv]⟩
  stop := fun σ w H sl h le S => ⟨vs, hq σ w H sl h le S, by rw [List.length_map, RSL.length rl]; exact Nat.le_refl _⟩
  yld := fun i σ w H sl h x H' it le S e y => by
    obtain ⟨rfl, y⟩ := y
    rw [List.getElem?_map] at e
    cases k : xs[i]? with
    | none => rw [k] at e; cases e
    | some s =>
      rw [k] at e
      cases e
      obtain ⟨v, ev, rv⟩ := RSL.get rl k
      have z : v = x := Option.some.inj (ev.symm.trans (y vs (hq σ w _ sl h le S)))
      subst z
      exact ⟨w, Wd.le.refl _, S, RS.mono le rv⟩
theorem itt_ok {en : En} {w0 : Wd} {a : Addr} {vs : List V} {xs : List SV} (hq : ∀ σ w H sl h, w0.le w → Sim en w σ H sl h → SqT en.K H a vs) (rl : RSL en w0 vs xs) : ItOk en w0 (Itt en.K a) (xs.map It1.one) where
  goes := fun i σ w H sl h le S hi => by
    rw [List.length_map] at hi
    have hv : i < vs.length := by rw [RSL.length rl]; exact hi
    exact ⟨vs, vs[i], hq σ w H sl h le S, by simp [hv]⟩
  stop := fun σ w H sl h le S => ⟨vs, hq σ w H sl h le S, by rw [List.length_map, RSL.length rl]; exact Nat.le_refl _⟩
  yld := fun i σ w H sl h x H' it le S e y => by
    obtain ⟨rfl, y⟩ := y
    rw [List.getElem?_map] at e
    cases k : xs[i]? with
    | none => rw [k] at e; cases e
    | some s =>
      rw [k] at e
      cases e
      obtain ⟨v, ev, rv⟩ := RSL.get rl k
      have z : v = x := Option.some.inj (ev.symm.trans (y vs (hq σ w _ sl h le S)))
      subst z
      exact ⟨w, Wd.le.refl _, S, RS.mono le rv⟩
section
variable {X : Cx} {W : WX} {e e2 tg : Expr} {fe : FE} {fa : FA} {pos p : Pos}
theorem map_one (ds : List PyData) (k : PyData → SV) : (ds.map fun x => It1.one (k x)) = (ds.map k).map It1.one := by rw [List.map_map]; rfl
theorem si_list (he : SE X W e fe) : SI X W tg e (iSeq fe) := PI.imp (pi_list he) (by
  rintro σ H R ⟨en, w, sl, h, eK, S, P⟩
  refine ⟨en, w, sl, h, eK, S, Po.bind P fun s h1 v w1 H1 l1 S1 r1 P1 => ?_⟩
  split at P1
  · rename_i ds
    have r1 : Rp en.K w1.F v (.list ds) := r1
    unfold Rp at r1
    obtain ⟨a, vs, rfl, q, l⟩ := r1
    refine ⟨a, rfl, ⟨vs, .of (S1.fh _ _ q)⟩, P1 _ w1 H1 (Wd.le.refl _) S1 ?_⟩
    show ItOk en w1 (Itl X.K a) _
    rw [map_one, ← eK.1]
    exact itl_ok (fun σ w H sl h le S => .of (S.fh _ _ (le.2 _ _ q))) (RSL.ofRp l)
  · rename_i ds
    have r1 : Rp en.K en.G v (.list ds) := r1
    unfold Rp at r1
    obtain ⟨a, vs, rfl, q, l⟩ := r1
    refine ⟨a, rfl, ⟨vs, .of (S1.gh _ _ q)⟩, P1 _ w1 H1 (Wd.le.refl _) S1 ?_⟩
    show ItOk en w1 (Itl X.K a) _
    rw [map_one, ← eK.1]
    exact itl_ok (fun σ w H sl h le S => .of (S.gh _ _ q)) (RSL.ofVw S1.toSimH l)
  · rename_i n
    split at P1
    · rename_i xs hx
      obtain ⟨a, e1, rfl⟩ := r1
      obtain ⟨a', e2, ⟨vs, hv, rv⟩, _, _⟩ := S1.live n _ hx
      have ea : a' = a := Option.some.inj (e2.symm.trans e1)
      subst ea
      exact ⟨a', rfl, ⟨vs, .of hv⟩, P1 _ w1 H1 (Wd.le.refl _) S1 ⟨a', e1, by rw [eK.1]⟩⟩
    · exact False.elim P1
  · exact False.elim P1)
theorem si_tup (he : SE X W e fe) : SI X W tg e (iTupl fe) := PI.imp (pi_tup he) (by
  rintro σ H R ⟨en, w, sl, h, eK, S, P⟩
  refine ⟨en, w, sl, h, eK, S, Po.bind P fun s h1 v w1 H1 l1 S1 r1 P1 => ?_⟩
  split at P1
  · rename_i ds
    have r1 : Rp en.K w1.F v (.tuple ds) := r1
    unfold Rp at r1
    obtain ⟨a, vs, rfl, q, l⟩ := r1
    refine ⟨a, rfl, ⟨vs, by rw [← eK.1]; exact sqT_mono (S1.fh a) q⟩, P1 _ w1 H1 (Wd.le.refl _) S1 ?_⟩
    show ItOk en w1 (Itt X.K a) _
    rw [map_one, ← eK.1]
    exact itt_ok (fun σ w H sl h le S => sqT_mono (fun o z => S.fh _ _ (le.2 _ _ z)) q) (RSL.ofRp l)
  · rename_i ds
    have r1 : Rp en.K en.G v (.tuple ds) := r1
    unfold Rp at r1
    obtain ⟨a, vs, rfl, q, l⟩ := r1
    refine ⟨a, rfl, ⟨vs, by rw [← eK.1]; exact sqT_mono (S1.gh a) q⟩, P1 _ w1 H1 (Wd.le.refl _) S1 ?_⟩
    show ItOk en w1 (Itt X.K a) _
    rw [map_one, ← eK.1]
    exact itt_ok (fun σ w H sl h le S => sqT_mono (S.gh a) q) (RSL.ofVw S1.toSimH l)
  · exact False.elim P1)
/-- range(n), range(a, b) -/
def rngI (lo : Int) (n : Nat) : List It1 := (List.range n).map fun i => .one (.d (.int (lo + (i : Nat))))
def inB (i : Int) : Bool := decide (-1000000000 ≤ i ∧ i ≤ 1000000000)
def iRng (fa : FA) : List SV → AH → R Src := fun sl h => (fa sl h).bind fun ss h1 => match ss with
  | [.d (.int j)] => if inB j then .ok (.cn (rngI 0 j.toNat)) h1 else .st
  | _ => .st
def iRng2 (fa : FA) : List SV → AH → R Src := fun sl h => (fa sl h).bind fun ss h1 => match ss with
  | [.d (.int i), .d (.int j)] => if (inB i && inB j) = true then .ok (.cn (rngI i (j - i).toNat)) h1 else .st
  | _ => .st
theorem itr_ok {en : En} {w0 : Wd} {lo : Int} {n : Nat} : ItOk en w0 (Itr lo n) (rngI lo n) where
  goes := fun i σ w H sl h le S hi => by
    unfold rngI at hi
    rw [List.length_map, List.length_range] at hi
    exact hi
  stop := fun σ w H sl h le S => by
    unfold rngI
    rw [List.length_map, List.length_range]
    exact Nat.le_refl _
  yld := fun i σ w H sl h x H' it le S e y => by
    obtain ⟨rfl, rfl⟩ := y
    unfold rngI at e
    rw [List.getElem?_map] at e
    cases k : (List.range n)[i]? with
    | none => rw [k] at e; cases e
    | some s =>
      rw [k] at e
      cases e
      have hs : s = i := by
        obtain ⟨hi, e2⟩ := List.getElem?_eq_some_iff.mp k
        rw [List.getElem_range] at e2
        exact e2.symm
      subst hs
      exact ⟨w, Wd.le.refl _, S, by show Rp en.K w.F _ _; exact Rp.int⟩
theorem inB_ok {i : Int} (h : inB i = true) : -(2 ^ 62) ≤ i ∧ i < 2 ^ 62 := by
  unfold inB at h
  have := of_decide_eq_true h
  omega
theorem si_rng (hg : Gl X "range") (hm : X.mg "range" = none) (ha : SA X W [e] fa) (hs : starEach [e] X.env = [(false, eval e X.env)] := by rfl) : SI X W tg (.Call (.Name "range" p) [e] [] pos) (iRng fa) := PI.imp (pi_range1 hg hm ha hs) (by
  rintro σ H R ⟨en, w, sl, h, eK, S, P⟩
  refine ⟨en, w, sl, h, eK, S, Po.bind P fun ss h1 vs w1 H1 l1 S1 r1 P1 => ?_⟩
  split at P1
  · rename_i j
    split at P1
    · rename_i hj
      obtain ⟨v, vr, e1, q1, e2⟩ := r1
      have q1 : Rp en.K w1.F v (.int j) := q1
      unfold Rp at q1
      subst q1
      have e2 : vr = [] := e2
      subst e2
      obtain ⟨b1, b2⟩ := inB_ok hj
      exact ⟨j, e1, b1, b2, P1 _ w1 H1 (Wd.le.refl _) S1 itr_ok⟩
    · exact False.elim P1
  · exact False.elim P1)
theorem si_rng2 (hg : Gl X "range") (hm : X.mg "range" = none) (ha : SA X W [e, e2] fa) (hs : starEach [e, e2] X.env = [(false, eval e X.env), (false, eval e2 X.env)] := by rfl) (hs2 : starEach [e2] X.env = [(false, eval e2 X.env)] := by rfl) : SI X W tg (.Call (.Name "range" p) [e, e2] [] pos) (iRng2 fa) := PI.imp (pi_range2 hg hm ha hs hs2) (by
  rintro σ H R ⟨en, w, sl, h, eK, S, P⟩
  refine ⟨en, w, sl, h, eK, S, Po.bind P fun ss h1 vs w1 H1 l1 S1 r1 P1 => ?_⟩
  split at P1
  · rename_i i j
    split at P1
    · rename_i hj
      obtain ⟨v, vr, e1, q1, u, ur, e2, q2, e3⟩ := r1
      have q1 : Rp en.K w1.F v (.int i) := q1
      unfold Rp at q1
      subst q1
      have q2 : Rp en.K w1.F u (.int j) := q2
      unfold Rp at q2
      subst q2
      have e3 : ur = [] := e3
      subst e3
      subst e2
      have hj2 := (Bool.and_eq_true _ _).mp hj
      obtain ⟨b1, b2⟩ := inB_ok hj2.1
      obtain ⟨b3, b4⟩ := inB_ok hj2.2
      exact ⟨i, j, e1, ⟨b1, b2, b3, b4⟩, P1 _ w1 H1 (Wd.le.refl _) S1 itr_ok⟩
    · exact False.elim P1
  · exact False.elim P1)
/-- enumerate(xs), zip(xs, ys) of lists that are frozen or looked at -/
def stillL : SV → Option (List SV)
  | .d (.list ds) => some (ds.map SV.d)
  | .vw (.list ds) => some (ds.map mkv)
  | _ => none
theorem still_ok {en : En} {w0 : Wd} {s : SV} {v : V} {xs : List SV} {σ0 : St} {H0 : Hp} {sl0 : List SV} {h0 : AH} (S0 : Sim en w0 σ0 H0 sl0 h0) (r : RS en w0 v s) (e : stillL s = some xs) :
    ∃ a vs, v = .ref a ∧ RSL en w0 vs xs ∧ ∀ σ w H sl h, w0.le w → Sim en w σ H sl h → SqL en.K H a vs := by
  unfold stillL at e
  split at e
  · cases e
    have r1 : Rp en.K w0.F v (.list _) := r
    unfold Rp at r1
    obtain ⟨a, vs, rfl, q, l⟩ := r1
    exact ⟨a, vs, rfl, RSL.ofRp l, fun σ w H sl h le S => .of (S.fh _ _ (le.2 _ _ q))⟩
  · cases e
    have r1 : Rp en.K en.G v (.list _) := r
    unfold Rp at r1
    obtain ⟨a, vs, rfl, q, l⟩ := r1
    exact ⟨a, vs, rfl, RSL.ofVw S0.toSimH l, fun σ w H sl h le S => .of (S.gh _ _ q)⟩
  · cases e
def enumI : Nat → List SV → List It1
  | _, [] => []
  | k, x :: xs => .two (.d (.int (k : Nat))) x :: enumI (k + 1) xs
theorem enumI_len : ∀ (k : Nat) (xs : List SV), (enumI k xs).length = xs.length
  | _, [] => rfl
  | k, x :: xs => by unfold enumI; rw [List.length_cons, List.length_cons, enumI_len]
theorem enumI_get : ∀ (xs : List SV) (k i : Nat) (it : It1), (enumI k xs)[i]? = some it → ∃ x, xs[i]? = some x ∧ it = .two (.d (.int ((k + i : Nat) : Int))) x
  | [], k, i, it, e => by unfold enumI at e; simp at e
  | x :: xs, k, 0, it, e => by
    unfold enumI at e
    simp at e
    exact ⟨x, rfl, e.symm⟩
  | x :: xs, k, i + 1, it, e => by
    unfold enumI at e
    obtain ⟨y, h1, h2⟩ := enumI_get xs (k + 1) i it (by simpa using e)
    exact ⟨y, by simpa using h1, by rw [h2, show k + 1 + i = k + (i + 1) by omega]⟩
def iEnu (fa : FA) : List SV → AH → R Src := fun sl h => (fa sl h).bind fun ss h1 => match ss with
  | [s] => match stillL s with
    | some xs => .ok (.cn (enumI 0 xs)) h1
    | none => .st
  | _ => .st
theorem si_enum {elts : List Expr} {kk : Nat} {tpos : Pos} (hg : Gl X "enumerate") (hm : X.mg "enumerate" = none) (ha : SA X W [e] fa) (hs : starEach [e] X.env = [(false, eval e X.env)] := by rfl) :
    SI X W (.Tuple elts kk tpos) (.Call (.Name "enumerate" p) [e] [] pos) (iEnu fa) := PI.imp (pi_enum hg hm ha hs) (by
  rintro σ H R ⟨en, w, sl, h, eK, S, P⟩
  refine ⟨en, w, sl, h, eK, S, Po.bind P fun ss h1 vs w1 H1 l1 S1 r1 P1 => ?_⟩
  split at P1
  · rename_i s
    split at P1
    · rename_i xs hx
      obtain ⟨v, vr, e1, q1, e2⟩ := r1
      have e2 : vr = [] := e2
      subst e2
      obtain ⟨a, us, rfl, rl, q⟩ := still_ok S1 q1 hx
      refine ⟨a, us, e1, by rw [← eK.1]; exact q _ _ _ _ _ (Wd.le.refl _) S1, P1 _ w1 H1 (Wd.le.refl _) S1 ?_⟩
      show ItOk en w1 (Ite X.K a) _
      rw [← eK.1]
      have wk := walk_enum (K := en.K) (a := a) (xs := us)
      refine ⟨fun i σ w H sl h le S hi => ?_, fun σ w H sl h le S => ?_, fun i σ w H sl h x H' it le S e y => ?_⟩
      · rw [enumI_len, ← RSL.length rl] at hi
        exact wk.goes i H hi (q σ w H sl h le S)
      · rw [enumI_len, ← RSL.length rl]
        exact wk.stops H (q σ w H sl h le S)
      · obtain ⟨z, hz, rfl⟩ := enumI_get xs 0 i it e
        have hi : i < us.length := by rw [RSL.length rl]; exact (List.getElem?_eq_some_iff.mp hz).1
        obtain ⟨T, b, c, rfl, nT, rfl, f1, f2⟩ := wk.yields i H x H' hi (q σ w H sl h le S) y
        obtain ⟨c', ec, rc⟩ := RSL.get rl hz
        have : c' = c := Option.some.inj (ec.symm.trans f2)
        subst this
        have fb : b = .int (i : Nat) := (Option.some.inj f1).symm
        subst fb
        refine ⟨w.fz T (.tup [.int (i : Nat), c']), le_fz (S.F_none nT), S.newF nT (fun _ _ z => by cases z), T, _, _, rfl, upd_same, ?_, RS.mono (le.trans (le_fz (S.F_none nT))) rc⟩
        show Rp en.K (w.fz T (.tup [.int (i : Nat), c'])).F (.int (i : Nat)) (.int ((0 + i : Nat) : Int))
        rw [Nat.zero_add]
        exact Rp.int
    · exact False.elim P1
  · exact False.elim P1)
def zipI : List SV → List SV → List It1
  | x :: xs, y :: ys => .two x y :: zipI xs ys
  | _, _ => []
theorem zipI_len : ∀ (xs ys : List SV), (zipI xs ys).length = min xs.length ys.length
  | [], ys => by unfold zipI; simp
  | x :: xs, [] => by unfold zipI; simp
  | x :: xs, y :: ys => by
    unfold zipI
    rw [List.length_cons, List.length_cons, List.length_cons, zipI_len]
    omega
theorem zipI_get : ∀ (xs ys : List SV) (i : Nat) (it : It1), (zipI xs ys)[i]? = some it → ∃ x y, xs[i]? = some x ∧ ys[i]? = some y ∧ it = .two x y
  | [], ys, i, it, e => by unfold zipI at e; simp at e
  | x :: xs, [], i, it, e => by unfold zipI at e; simp at e
  | x :: xs, y :: ys, 0, it, e => by
    unfold zipI at e
    simp at e
    exact ⟨x, y, rfl, rfl, e.symm⟩
  | x :: xs, y :: ys, i + 1, it, e => by
    unfold zipI at e
    obtain ⟨a, b, h1, h2, h3⟩ := zipI_get xs ys i it (by simpa using e)
    exact ⟨a, b, by simpa using h1, by simpa using h2, h3⟩
def iZip (fa : FA) : List SV → AH → R Src := fun sl h => (fa sl h).bind fun ss h1 => match ss with
  | [s, t] => match stillL s, stillL t with
    | some xs, some ys => .ok (.cn (zipI xs ys)) h1
    | _, _ => .st
  | _ => .st
theorem si_zip {elts : List Expr} {kk : Nat} {tpos : Pos} (hg : Gl X "zip") (hm : X.mg "zip" = none) (ha : SA X W [e, e2] fa)
    (hs : starEach [e, e2] X.env = (false, eval e X.env) :: starEach [e2] X.env := by rfl) (hpl : (backTo pos (starEach [e2] X.env)).any (·.1) = false := by rfl) :
    SI X W (.Tuple elts kk tpos) (.Call (.Name "zip" p) [e, e2] [] pos) (iZip fa) := PI.imp (pi_zip hg hm ha hs hpl) (by
  rintro σ H R ⟨en, w, sl, h, eK, S, P⟩
  refine ⟨en, w, sl, h, eK, S, Po.bind P fun ss h1 vs w1 H1 l1 S1 r1 P1 => ?_⟩
  split at P1
  · rename_i s t
    split at P1
    · rename_i xs ys hx hy
      obtain ⟨v, vr, e1, q1, u, ur, e2, q2, e3⟩ := r1
      have e3 : ur = [] := e3
      subst e3
      subst e2
      obtain ⟨a, us, rfl, rl, q⟩ := still_ok S1 q1 hx
      obtain ⟨a2, us2, rfl, rl2, q2⟩ := still_ok S1 q2 hy
      refine ⟨a, a2, us, us2, e1, by rw [← eK.1]; exact q _ _ _ _ _ (Wd.le.refl _) S1, by rw [← eK.1]; exact q2 _ _ _ _ _ (Wd.le.refl _) S1, P1 _ w1 H1 (Wd.le.refl _) S1 ?_⟩
      show ItOk en w1 (Itz X.K a a2) _
      rw [← eK.1]
      have wk := walk_zip (K := en.K) (a := a) (b := a2) (xs := us) (ys := us2) rfl
      refine ⟨fun i σ w H sl h le S hi => ?_, fun σ w H sl h le S => ?_, fun i σ w H sl h x H' it le S e y => ?_⟩
      · rw [zipI_len, ← RSL.length rl, ← RSL.length rl2] at hi
        exact wk.goes i H hi ⟨q σ w H sl h le S, q2 σ w H sl h le S⟩
      · rw [zipI_len, ← RSL.length rl, ← RSL.length rl2]
        exact wk.stops H ⟨q σ w H sl h le S, q2 σ w H sl h le S⟩
      · obtain ⟨z, z2, hz, hz2, rfl⟩ := zipI_get xs ys i it e
        have hi : i < us.length := by rw [RSL.length rl]; exact (List.getElem?_eq_some_iff.mp hz).1
        have hi2 : i < us2.length := by rw [RSL.length rl2]; exact (List.getElem?_eq_some_iff.mp hz2).1
        obtain ⟨T, b, c, rfl, nT, rfl, f1, f2⟩ := wk.yields i H x H' (by omega) ⟨q σ w H sl h le S, q2 σ w H sl h le S⟩ y
        obtain ⟨b', eb, rb'⟩ := RSL.get rl hz
        obtain ⟨c', ec, rc⟩ := RSL.get rl2 hz2
        have : c' = c := Option.some.inj (ec.symm.trans f2)
        subst this
        have : b' = b := Option.some.inj (eb.symm.trans f1)
        subst this
        exact ⟨w.fz T (.tup [b', c']), le_fz (S.F_none nT), S.newF nT (fun _ _ z => by cases z), T, _, _, rfl, upd_same, RS.mono (le.trans (le_fz (S.F_none nT))) rb', RS.mono (le.trans (le_fz (S.F_none nT))) rc⟩
    · exact False.elim P1
  · exact False.elim P1)
end
end Zx

namespace Zx
open PySem PySem.Spec L2

/-! ## for -/
/-- behind a turn's body: go on with k -/
def aft (sl0 : List SV) (L : Nat) (o : O) (k : List SV → AH → O) : O := match o with
  | .nx sl h => k (norm sl0 L sl h).1 (norm sl0 L sl h).2
  | .ct sl h => k (norm sl0 L sl h).1 (norm sl0 L sl h).2
  | .bk sl h => .nx (norm sl0 L sl h).1 (norm sl0 L sl h).2
  | .rt s h => .rt s h
  | .rz c sl h => .rz c sl h
  | .st => .st
def forC (sl0 : List SV) (L : Nat) (bd : Bd) (body : FS) : List It1 → List SV → AH → O
  | [], sl, h => .nx sl h
  | x :: xs, sl, h => match bd.go x sl with
    | none => .st
    | some sl1 => aft sl0 L (body sl1 h) (forC sl0 L bd body xs)
def forR (sl0 : List SV) (L : Nat) (bd : Bd) (body : FS) (n : Nat) : Nat → Nat → List SV → AH → O
  | 0, i, sl, h => match h[n]? with
    | some (some (.lst xs)) => if xs.length ≤ i then .nx sl h else .st
    | _ => .st
  | k + 1, i, sl, h => match h[n]? with
    | some (some (.lst xs)) => match xs[i]? with
      | none => .nx sl h
      | some s => match bd.go (.one s) sl with
        | none => .st
        | some sl1 => aft sl0 L (body sl1 h) (forR sl0 L bd body n k (i + 1))
    | _ => .st
def sFor (fi : List SV → AH → R Src) (bd : Bd) (body : FS) : FS := fun sl h => (fi sl h).thn sl fun s h1 => match s with
  | .cn l => forC sl h1.length bd body l sl h1
  | .ow n => match h1[n]? with
    | some (some (.lst xs)) => forR sl h1.length bd body n xs.length 0 sl h1
    | _ => .st
section
variable {X : Cx} {W : WX} {en : En} {w w0 : Wd} {D : Ends} {σ : St} {H : Hp} {sl sl0 : List SV} {h : AH}
/-- what the next turn starts from -/
def Nt (X : Cx) (W : WX) (en : En) (w0 : Wd) (D : Ends) (k : List SV → AH → O) : St → Hp → Prop := fun σ H => ∃ w2 sl h, w0.le w2 ∧ Sim en w2 σ H sl h ∧ PoS X W en w0 (k sl h) D
/-- the body's end, for a loop -/
theorem aft_ok {o : O} {k : List SV → AH → O} {N : St → Hp → Prop} (le : w0.le w) (P : PoS X W en w0 (aft sl0 w0.rho.length o k) D) (hN : ∀ σ H, Nt X W en w0 D k σ H → N σ H) : PoS X W en w o { D with nx := N, ct := N, bk := D.nx } := by
  have step : ∀ sl h, PoS X W en w0 (k (norm sl0 w0.rho.length sl h).1 (norm sl0 w0.rho.length sl h).2) D → ∀ w' σ' H', w.le w' → Sim en w' σ' H' sl h → N σ' H' := fun sl h P w' σ' H' l S => by
    obtain ⟨w2, l2, S2⟩ := S.norm (sl0 := sl0) (le.trans l)
    exact hN _ _ ⟨w2, _, _, l2, S2, P⟩
  cases o with
  | nx sl h => exact step sl h P
  | ct sl h => exact step sl h P
  | bk sl h =>
    intro w' σ' H' l S
    obtain ⟨w2, l2, S2⟩ := S.norm (sl0 := sl0) (le.trans l)
    exact P w2 σ' H' l2 S2
  | rt s h => exact fun w' H' v l S r => P w' H' v (le.trans l) S r
  | rz c sl h => exact fun w' σ' H' l S => P w' σ' H' (le.trans l) S
  | st => exact P
theorem forC_ok {J : It} {g : TG} {tb : TS} {bd : Bd} {body : FS} {l : List It1} (eK : en.ok X) (ok : ItOk en w0 J l) (hg : GS X bd g) (hb : ∀ D σ H, tS X W body D σ H → tb D σ H) (S : Sim en w0 σ H sl0 h) (P : PoS X W en w0 (forC sl0 w0.rho.length bd body l sl0 h) D) :
    ∃ W : Nat → Nat → St → Hp → Prop, (∃ m, W 0 m σ H) ∧ ∀ i m σ H, W i m σ H →
      (J.stop i H ∧ D.nx σ H) ∨ (J.go i H ∧ ∃ N : St → Hp → Prop, (∀ σ' H', N σ' H' → ∃ m', m' < m ∧ W (i + 1) m' σ' H') ∧ ∀ x H', J.yld i H x H' → g x σ H' fun σ2 H2 => tb { D with nx := N, ct := N, bk := D.nx } σ2 H2) := by
  refine ⟨fun i m σ H => m = l.length - i ∧ i ≤ l.length ∧ Nt X W en w0 D (forC sl0 w0.rho.length bd body (l.drop i)) σ H, ⟨l.length, by simp, Nat.zero_le _, w0, sl0, h, Wd.le.refl _, S, by simpa using P⟩, ?_⟩
  rintro i m σ H ⟨rfl, hi, w, sl, h, le, S, P⟩
  by_cases hlt : i < l.length
  · right
    have ed : l.drop i = l[i] :: l.drop (i + 1) := List.drop_eq_getElem_cons hlt
    rw [ed] at P
    refine ⟨ok.goes i σ w H sl h le S hlt, Nt X W en w0 D (forC sl0 w0.rho.length bd body (l.drop (i + 1))), fun σ' H' p' => ⟨l.length - (i + 1), by omega, rfl, hlt, p'⟩, fun x H' y => ?_⟩
    obtain ⟨w1, l1, S1, r1⟩ := ok.yld i σ w H sl h x H' l[i] le S (List.getElem?_eq_getElem hlt) y
    unfold forC at P
    cases e : bd.go l[i] sl with
    | none => rw [e] at P; exact False.elim P
    | some sl1 =>
      rw [e] at P
      refine hg en w1 σ H' sl sl1 h x l[i] _ eK S1 r1 e fun σ2 S2 _ => hb _ _ _ ⟨en, w1, sl1, h, eK, S2, ?_⟩
      exact aft_ok (le.trans l1) P fun _ _ z => z
  · have e : i = l.length := by omega
    subst e
    rw [List.drop_length] at P
    unfold forC at P
    exact .inl ⟨ok.stop σ w H sl h le S, P w σ H le S⟩
theorem forR_ok {a : Addr} {g : TG} {tb : TS} {bd : Bd} {body : FS} {n k0 : Nat} (eK : en.ok X) (ha : w0.rho[n]? = some a) (hg : GS X bd g) (hb : ∀ D σ H, tS X W body D σ H → tb D σ H) (S : Sim en w0 σ H sl0 h) (P : PoS X W en w0 (forR sl0 w0.rho.length bd body n k0 0 sl0 h) D) :
    ∃ W : Nat → Nat → St → Hp → Prop, (∃ m, W 0 m σ H) ∧ ∀ i m σ H, W i m σ H →
      ((Itl X.K a).stop i H ∧ D.nx σ H) ∨ ((Itl X.K a).go i H ∧ ∃ N : St → Hp → Prop, (∀ σ' H', N σ' H' → ∃ m', m' < m ∧ W (i + 1) m' σ' H') ∧ ∀ x H', (Itl X.K a).yld i H x H' → g x σ H' fun σ2 H2 => tb { D with nx := N, ct := N, bk := D.nx } σ2 H2) := by
  refine ⟨fun i m σ H => Nt X W en w0 D (forR sl0 w0.rho.length bd body n m i) σ H, ⟨k0, w0, sl0, h, Wd.le.refl _, S, P⟩, ?_⟩
  rintro i m σ H ⟨w, sl, h, le, S, P⟩
  have live : ∀ xs, h[n]? = some (some (.lst xs)) → ∃ vs, H a = some (.lst vs) ∧ RSL en w vs xs := fun xs hx => by
    obtain ⟨a', e2, ⟨vs, hv, rv⟩, _, _⟩ := S.live n _ hx
    have ea : a' = a := Option.some.inj (e2.symm.trans (prefix_get le.1 ha))
    subst ea
    exact ⟨vs, hv, rv⟩
  cases m with
  | zero =>
    unfold forR at P
    split at P
    · rename_i xs hx
      obtain ⟨vs, hv, rv⟩ := live xs hx
      split at P
      · rename_i hl
        exact .inl ⟨⟨vs, .of hv, by rw [RSL.length rv]; exact hl⟩, P w σ H le S⟩
      · exact False.elim P
    · exact False.elim P
  | succ k =>
    unfold forR at P
    split at P
    · rename_i xs hx
      obtain ⟨vs, hv, rv⟩ := live xs hx
      split at P
      · rename_i hxi
        exact .inl ⟨⟨vs, .of hv, by rw [RSL.length rv]; exact List.getElem?_eq_none_iff.mp hxi⟩, P w σ H le S⟩
      · rename_i s hs
        obtain ⟨v, ev, rs⟩ := RSL.get rv hs
        refine .inr ⟨⟨vs, v, .of hv, ev⟩, Nt X W en w0 D (forR sl0 w0.rho.length bd body n k (i + 1)), fun σ' H' p' => ⟨k, Nat.lt_succ_self k, p'⟩, fun x H' y => ?_⟩
        obtain ⟨rfl, y⟩ := y
        have z : v = x := Option.some.inj (ev.symm.trans (y vs (.of hv)))
        subst z
        cases e : bd.go (.one s) sl with
        | none => rw [e] at P; exact False.elim P
        | some sl1 =>
          rw [e] at P
          refine hg en w σ _ sl sl1 h v (.one s) _ eK S rs e fun σ2 S2 _ => hb _ _ _ ⟨en, w, sl1, h, eK, S2, ?_⟩
          exact aft_ok le P fun _ _ z => z
    · exact False.elim P
end
section
variable {X : Cx} {W : WX} {iter tg : Expr} {body : List Stmt} {fi : List SV → AH → R Src} {bd : Bd} {g : TG} {fb : FS} {pos : Pos}
theorem ss_for (hp : PassesOwn (model X.prog X.w) X.A X.env X.xe) (hc : X.calm = true) (hi : SI X W tg iter fi) (hg : PG X tg g) (gs : GS X bd g) (hb : SSs X W body fb)
    (hs : ∀ x, foldedSetIterable iter X.env x = pure x := by intro _; rfl) : SS X W (.For tg iter body [] pos) (sFor fi bd fb) := PS.imp (ps_for hp hc hi hg hb hs) (by
  rintro D σ H ⟨en, w, sl, h, eK, S, P⟩
  refine ⟨en, w, sl, h, eK, S, Po.thn P fun s h1 J w1 H1 l1 S1 r1 P1 => ?_⟩
  have hl : h1.length = w1.rho.length := S1.len.symm
  rw [hl] at P1
  cases s with
  | cn l => exact forC_ok eK r1 gs (fun _ _ _ q => q) S1 P1
  | ow n =>
    obtain ⟨a, ha, rfl⟩ := r1
    have P1 : PoS X W en w1 (match h1[n]? with | some (some (.lst xs)) => forR sl w1.rho.length bd fb n xs.length 0 sl h1 | _ => .st) D := P1
    split at P1
    · rw [eK.1]; exact forR_ok eK ha gs (fun _ _ _ q => q) S1 P1
    · exact False.elim P1)

/-! ## while -/
def whL (sl0 : List SV) (L : Nat) (t : FT) (body : FS) : Nat → List SV → AH → O
  | 0, _, _ => .st
  | k + 1, sl, h => (t sl h).thn sl fun b h1 => if b = true then aft sl0 L (body sl h1) (whL sl0 L t body k) else .nx sl h1
def sWhile (fuel : Nat) (t : FT) (body : FS) : FS := fun sl h => whL sl h.length t body fuel sl h
theorem ss_while {c : Expr} {ft : FT} (fuel : Nat) (hp : PassesOwn (model X.prog X.w) X.A X.env X.xe) (hc : STt X W c ft) (hb : SSs X W body fb) : SS X W (.While c body [] pos) (sWhile fuel ft fb) := PS.imp (ps_while hp hc hb) (by
  rintro D σ H ⟨en, w, sl, h, eK, S, P⟩
  unfold sWhile at P
  rw [show h.length = w.rho.length from S.len.symm] at P
  refine ⟨fun m σ H => Nt X W en w D (whL sl w.rho.length ft fb m) σ H, ⟨fuel, w, sl, h, Wd.le.refl _, S, P⟩, ?_⟩
  rintro m σ1 H1 ⟨w1, sl1, h1, le, S1, P1⟩
  cases m with
  | zero => unfold whL at P1; exact False.elim P1
  | succ k =>
    unfold whL at P1
    refine ⟨en, w1, sl1, h1, eK, S1, ?_⟩
    generalize e : ft sl1 h1 = r at P1 ⊢
    cases r with
    | st => exact False.elim P1
    | rz cc hh => exact fun w' H' l S' => P1 w' σ1 H' (le.trans l) S'
    | ok b h2 =>
      intro b' w2 H2 l2 S2 r2
      have r2 : b' = b := r2
      subst r2
      have P1 : PoS X W en w (if b' = true then aft sl w.rho.length (fb sl1 h2) (whL sl w.rho.length ft fb k) else .nx sl1 h2) D := P1
      cases b' with
      | true =>
        rw [if_pos rfl] at P1 ⊢
        exact ⟨Nt X W en w D (whL sl w.rho.length ft fb k), fun σ' H' p' => ⟨k, Nat.lt_succ_self k, p'⟩, en, w2, sl1, h2, eK, S2, aft_ok (le.trans l2) P1 fun _ _ z => z⟩
      | false =>
        rw [if_neg (by decide)] at P1 ⊢
        exact P1 w2 σ1 H2 (le.trans l2) S2)
end
end Zx

namespace Zx
open PySem PySem.Spec L2

/-! ## comprehensions -/
def wipeS (sl : List SV) : List Nat → List SV
  | [] => sl
  | v :: vs => (wipeS sl vs).set v .un
def nrz {α : Type} : R α → R α
  | .rz _ _ => .st
  | .ok a h => .ok a h
  | .st => .st
def lcPut (L : Nat) (slw : List SV) (s : SV) (h : AH) (k : AH → R Unit) : R Unit := match h[L]? with
  | some (some (.lst acc)) => if acc.length < 1000000 then k (norm [] (L + 1) slw (h.set L (some (.lst (acc ++ [s]))))).2 else .st
  | _ => .st
def lcOne (L : Nat) (bd : Bd) (tt : FT) (fe : FE) (slw : List SV) (it : It1) (h : AH) (k : AH → R Unit) : R Unit := match bd.go it slw with
  | none => .st
  | some sl1 => (nrz (tt sl1 h)).bind fun b h1 => if b = true then (nrz (fe sl1 h1)).bind fun s h2 => lcPut L slw s h2 k else k (norm [] (L + 1) slw h1).2
def lcC (L : Nat) (bd : Bd) (tt : FT) (fe : FE) (slw : List SV) : List It1 → AH → R Unit
  | [], h => .ok () h
  | it :: its, h => lcOne L bd tt fe slw it h (lcC L bd tt fe slw its)
def lcR (L : Nat) (bd : Bd) (tt : FT) (fe : FE) (slw : List SV) (n : Nat) : Nat → Nat → AH → R Unit
  | 0, i, h => match h[n]? with
    | some (some (.lst xs)) => if xs.length ≤ i then .ok () h else .st
    | _ => .st
  | k + 1, i, h => match h[n]? with
    | some (some (.lst xs)) => match xs[i]? with
      | none => .ok () h
      | some s => lcOne L bd tt fe slw (.one s) h (lcR L bd tt fe slw n k (i + 1))
    | _ => .st
def fLc (fi : List SV → AH → R Src) (bd : Bd) (tt : FT) (fe : FE) (vs : List Nat) : FE := fun sl h => (fi sl h).bind fun s h1 => match s with
  | .cn l => (lcC h1.length bd tt fe (wipeS sl vs) l (h1 ++ [some (.lst [])])).bind fun _ h2 => .ok (.r h1.length) h2
  | .ow n => match h1[n]? with
    | some (some (.lst xs)) => (lcR h1.length bd tt fe (wipeS sl vs) n xs.length 0 (h1 ++ [some (.lst [])])).bind fun _ h2 => .ok (.r h1.length) h2
    | _ => .st
theorem wipe_get (σ : St) : ∀ (vs : List Nat) (j : Nat), (wipe σ vs)[j]? = if j ∈ vs then (if j < σ.length then some none else none) else σ[j]?
  | [], j => by unfold wipe; rw [if_neg (by simp)]
  | v :: vs, j => by
    unfold wipe
    by_cases h : v = j
    · subst h
      rw [if_pos List.mem_cons_self]
      by_cases hl : v < σ.length
      · rw [if_pos hl, List.getElem?_set_self (by rw [wipe_length]; exact hl)]
      · rw [if_neg hl, List.getElem?_eq_none (by rw [List.length_set, wipe_length]; omega)]
    · rw [List.getElem?_set_ne h, wipe_get σ vs j]
      have : (j ∈ v :: vs) ↔ j ∈ vs := ⟨fun z => (List.mem_cons.mp z).elim (fun e => absurd e.symm h) id, List.mem_cons_of_mem _⟩
      by_cases hm : j ∈ vs
      · rw [if_pos hm, if_pos (this.mpr hm)]
      · rw [if_neg hm, if_neg (fun z => hm (this.mp z))]
theorem wipe_chg {vs is : List Nat} {σ σ' : St} (hs : ∀ i ∈ is, i ∈ vs) (c : Chg is (wipe σ vs) σ') : wipe σ' vs = wipe σ vs := by
  apply List.ext_getElem?
  intro j
  have hl : σ'.length = σ.length := c.1.trans (wipe_length σ vs)
  rw [wipe_get, wipe_get, hl]
  by_cases hj : j ∈ vs
  · rw [if_pos hj, if_pos hj]
  · rw [if_neg hj, if_neg hj, c.2 j (fun z => hj (hs j z)), wipe_get, if_neg hj]
theorem Slt.wipe {en : En} {w : Wd} {σ : St} : ∀ {sl : List SV} (vs : List Nat), Slt en w σ sl → Slt en w (L2.wipe σ vs) (wipeS sl vs)
  | sl, [], q => q
  | sl, v :: vs, q => by
    have ih := Slt.wipe vs q
    unfold L2.wipe wipeS
    refine ⟨by rw [List.length_set, List.length_set]; exact ih.1, fun j s e => ?_⟩
    by_cases h : v = j
    · subst h
      by_cases hv : v < (wipeS sl vs).length
      · rw [List.getElem?_set_self hv] at e
        cases e; exact .inl rfl
      · rw [List.getElem?_eq_none (by rw [List.length_set]; omega)] at e; cases e
    · rw [List.getElem?_set_ne h] at e
      rw [List.getElem?_set_ne h]
      exact ih.2 j s e
abbrev W0 : WX := fun _ _ _ _ => False
abbrev STs (X : Cx) (W : WX) (es : List Expr) (f : FT) : Prop := PTs X es (tT X W f)
def fYes : FT := fun _ h => .ok true h
theorem PTs.imp {X : Cx} {e : List Expr} {t t' : TT} (h : PTs X e t) (k : ∀ σ H Q, t' σ H Q → t σ H Q) : PTs X e t' := ⟨fun pins s σ H Q I q => h.run pins s σ H Q I (k σ H Q q)⟩
theorem sts_nil {X : Cx} {W : WX} : STs X W [] fYes := PTs.imp pts_nil (by
  rintro σ H Q ⟨en, w, sl, h, eK, S, P⟩
  exact P true w H (Wd.le.refl _) S rfl)
theorem sts_one {X : Cx} {W : WX} {c : Expr} {t : FT} (h : STt X W c t) : STs X W [c] t := pts_one h
section
variable {X : Cx} {W : WX} {en : En} {w1 w : Wd} {σ : St} {H : Hp} {sl : List SV} {h : AH} {D : Addr} {Q : VK}
/-- between two turns of a comprehension that fills D -/
def Lt (X : Cx) (W : WX) (en : En) (w1 : Wd) (D : Addr) (σ : St) (sl : List SV) (vs : List Nat) (L : Nat) (Q : VK) (k : AH → R Unit) (H : Hp) : Prop :=
  ∃ w h, (w1.ow D).le w ∧ Sim en w (wipe σ vs) H (wipeS sl vs) h ∧ Po RS X W en w1 σ sl ((k h).bind fun _ h2 => .ok (.r L) h2) Q
theorem norm_nil {L : Nat} {slw : List SV} {h : AH} : (norm [] L slw h).1 = slw := by
  unfold norm
  split <;> (show reset [] slw = slw; unfold reset; rfl)
/-- one turn -/
theorem lcOne_ok {J : It} {bd : Bd} {g : TG} {tt : FT} {fe : FE} {vs : List Nat} {L : Nat} {it : It1} {k : AH → R Unit} {x : V} (eK : en.ok X) (hL : L = w1.rho.length) (gs : GS X bd g) (hv : ∀ i ∈ bd.is, i ∈ vs) (sl0 : Slt en w1 σ sl)
    (le : (w1.ow D).le w) (S : Sim en w (wipe σ vs) H (wipeS sl vs) h) (r : RepI en w H x it) (P : Po RS X W en w1 σ sl ((lcOne L bd tt fe (wipeS sl vs) it h k).bind fun _ h2 => .ok (.r L) h2) Q) :
    g x (wipe σ vs) H fun σ2 H2 => wipe σ2 vs = wipe σ vs ∧ tT X W0 tt σ2 H2 fun b H3 =>
      if b = true then tE X W0 fe σ2 H3 fun y H4 => ∃ acc, H4 D = some (.lst acc) ∧ acc.length < sizeLine ∧ Lt X W en w1 D σ sl vs L Q k (upd H4 D (.lst (acc ++ [y]))) else Lt X W en w1 D σ sl vs L Q k H3 := by
  have lw : w1.le w := le_ow.trans le
  have again : ∀ w3 H3 σ3 sl3 h3, (w1.ow D).le w3 → Sim en w3 σ3 H3 sl3 h3 → Po RS X W en w1 σ sl ((k (norm [] (L + 1) (wipeS sl vs) h3).2).bind fun _ h2 => .ok (.r L) h2) Q → Lt X W en w1 D σ sl vs L Q k H3 := fun w3 H3 σ3 sl3 h3 l3 S3 P3 => by
    have S4 : Sim en w3 (wipe σ vs) H3 (wipeS sl vs) h3 := ⟨S3.toSimH, Slt.wipe vs (sl0.mono (le_ow.trans l3))⟩
    obtain ⟨w2, l2, S2⟩ := S4.norm (sl0 := []) l3
    have e1 : (w1.ow D).rho.length = L + 1 := by
      show (w1.rho ++ [D]).length = L + 1
      rw [List.length_append, hL]; rfl
    rw [e1] at S2
    rw [norm_nil] at S2
    exact ⟨w2, _, l2, S2, P3⟩
  unfold lcOne at P
  cases e : bd.go it (wipeS sl vs) with
  | none => rw [e] at P; exact False.elim P
  | some sl1 =>
    rw [e] at P
    refine gs en w (wipe σ vs) H _ sl1 h x it _ eK S r e fun σ2 S2 c => ⟨wipe_chg hv c, en, w, sl1, h, eK, S2, ?_⟩
    have P : Po RS X W en w1 σ sl (((nrz (tt sl1 h)).bind fun b h1 => if b = true then (nrz (fe sl1 h1)).bind fun s h2 => lcPut L (wipeS sl vs) s h2 k else k (norm [] (L + 1) (wipeS sl vs) h1).2).bind fun _ h2 => .ok (.r L) h2) Q := P
    generalize et : tt sl1 h = rt at P ⊢
    cases rt with
    | st => exact False.elim P
    | rz cc hh => exact False.elim P
    | ok b h1 =>
      intro b' w2 H2 l2 S3 r2
      have r2 : b' = b := r2
      subst r2
      have P : Po RS X W en w1 σ sl ((if b' = true then (nrz (fe sl1 h1)).bind fun s h2 => lcPut L (wipeS sl vs) s h2 k else k (norm [] (L + 1) (wipeS sl vs) h1).2).bind fun _ h2 => .ok (.r L) h2) Q := P
      cases b' with
      | false =>
        rw [if_neg (by decide)] at P ⊢
        exact again w2 H2 σ2 sl1 h1 (le.trans l2) S3 P
      | true =>
        rw [if_pos rfl] at P ⊢
        refine ⟨en, w2, sl1, h1, eK, S3, ?_⟩
        generalize ee : fe sl1 h1 = re at P ⊢
        cases re with
        | st => exact False.elim P
        | rz cc hh => exact False.elim P
        | ok s h2 =>
          intro y w4 H4 l4 S5 r5
          have P : Po RS X W en w1 σ sl ((lcPut L (wipeS sl vs) s h2 k).bind fun _ h2 => .ok (.r L) h2) Q := P
          unfold lcPut at P
          split at P
          · rename_i acc hacc
            split at P
            · rename_i hlt
              obtain ⟨a, ea, ⟨us, hu, rl⟩, _, _⟩ := S5.live L _ hacc
              have l5 := (le.trans l2).trans l4
              have eD : w4.rho[L]? = some D := by
                refine prefix_get l5.1 ?_
                show (w1.rho ++ [D])[L]? = some D
                rw [hL, List.getElem?_append_right (Nat.le_refl _), Nat.sub_self]
                rfl
              have : a = D := Option.some.inj (ea.symm.trans eD)
              subst this
              refine ⟨us, hu, ?_, ?_⟩
              · rw [RSL.length rl, sizeLine_eq]; omega
              · exact again w4 _ σ2 sl1 _ l5 (S5.write hacc ea (RSL.app (ts := [s]) rl ⟨y, [], rfl, r5, rfl⟩)) P
            · exact False.elim P
          · exact False.elim P
theorem lc_t {fi : List SV → AH → R Src} {bd : Bd} {g : TG} {tt : FT} {fe : FE} {vs : List Nat} (gs : GS X bd g) (hv : ∀ i ∈ bd.is, i ∈ vs) {σ : St} {H : Hp} {Q : VK} (q : tE X W (fLc fi bd tt fe vs) σ H Q) :
    tLc (tI X W fi) g (tT X W0 tt) (tE X W0 fe) vs σ H Q := by
  obtain ⟨en, w, sl, h, eK, S, P⟩ := q
  refine ⟨en, w, sl, h, eK, S, Po.bind P fun s h1 J w1 H1 l1 S1 r1 P1 => ?_⟩
  intro D nD
  have S2 : Sim en (w1.ow D) (wipe σ vs) (upd H1 D (.lst [])) (wipeS sl vs) (h1 ++ [some (.lst [])]) := by
    have z := S1.newO (vs := []) (xs := []) nD rfl
    exact ⟨z.toSimH, Slt.wipe vs z.slots⟩
  have hL : h1.length = w1.rho.length := S1.len.symm
  have fin : ∀ (k : AH → R Unit) w2 h2 H2, (w1.ow D).le w2 → Sim en w2 (wipe σ vs) H2 (wipeS sl vs) h2 → k h2 = .ok () h2 → Po RS X W en w1 σ sl ((k h2).bind fun _ h2 => .ok (.r h1.length) h2) Q → Q (.ref D) H2 := fun k w2 h2 H2 l2 S3 e P3 => by
    rw [e] at P3
    refine P3 (.ref D) w2 H2 (le_ow.trans l2) ⟨S3.toSimH, S1.slots.mono (le_ow.trans l2)⟩ ⟨D, prefix_get l2.1 ?_, rfl⟩
    show (w1.rho ++ [D])[h1.length]? = some D
    rw [hL, List.getElem?_append_right (Nat.le_refl _), Nat.sub_self]
    rfl
  cases s with
  | cn l =>
    have ok : ItOk en w1 J l := r1
    refine ⟨fun i m H => m = l.length - i ∧ i ≤ l.length ∧ Lt X W en w1 D σ sl vs h1.length Q (lcC h1.length bd tt fe (wipeS sl vs) (l.drop i)) H, ⟨l.length, by simp, Nat.zero_le _, _, _, Wd.le.refl _, S2, by simpa using P1⟩, ?_⟩
    rintro i m H ⟨rfl, hi, w2, h2, le, S3, P2⟩
    by_cases hlt : i < l.length
    · right
      have ed : l.drop i = l[i] :: l.drop (i + 1) := List.drop_eq_getElem_cons hlt
      rw [ed] at P2
      refine ⟨ok.goes i _ w2 H _ h2 (le_ow.trans le) S3 hlt, Lt X W en w1 D σ sl vs h1.length Q (lcC h1.length bd tt fe (wipeS sl vs) (l.drop (i + 1))), fun H' p' => ⟨l.length - (i + 1), by omega, rfl, hlt, p'⟩, fun x H' y => ?_⟩
      obtain ⟨w3, l3, S4, r4⟩ := ok.yld i _ w2 H _ h2 x H' l[i] (le_ow.trans le) S3 (List.getElem?_eq_getElem hlt) y
      unfold lcC at P2
      exact lcOne_ok (J := J) eK hL gs hv S1.slots (le.trans l3) S4 r4 P2
    · have e : i = l.length := by omega
      subst e
      rw [List.drop_length] at P2
      exact .inl ⟨ok.stop _ w2 H _ h2 (le_ow.trans le) S3, fin _ w2 h2 H le S3 (by unfold lcC; rfl) P2⟩
  | ow n =>
    obtain ⟨a, ha, rfl⟩ := r1
    have P1 : Po RS X W en w1 σ sl (match h1[n]? with | some (some (.lst xs)) => (lcR h1.length bd tt fe (wipeS sl vs) n xs.length 0 (h1 ++ [some (.lst [])])).bind fun _ h2 => .ok (.r h1.length) h2 | _ => .st) Q := P1
    split at P1
    · rename_i xs0 hx0
      refine ⟨fun i m H => Lt X W en w1 D σ sl vs h1.length Q (lcR h1.length bd tt fe (wipeS sl vs) n m i) H, ⟨xs0.length, _, _, Wd.le.refl _, S2, P1⟩, ?_⟩
      rintro i m H ⟨w2, h2, le, S3, P2⟩
      have live : ∀ xs, h2[n]? = some (some (.lst xs)) → ∃ vs, H a = some (.lst vs) ∧ RSL en w2 vs xs := fun xs hx => by
        obtain ⟨a', e2, ⟨us, hv, rv⟩, _, _⟩ := S3.live n _ hx
        have ea : a' = a := Option.some.inj (e2.symm.trans (prefix_get (le_ow.trans le).1 ha))
        subst ea
        exact ⟨us, hv, rv⟩
      cases m with
      | zero =>
        generalize ek : lcR h1.length bd tt fe (wipeS sl vs) n 0 i = k at P2
        have ek2 := congrFun ek h2
        unfold lcR at ek2
        split at ek2
        · rename_i xs hx
          obtain ⟨us, hu, rv⟩ := live xs hx
          split at ek2
          · rename_i hl
            exact .inl ⟨⟨us, .of hu, by rw [RSL.length rv]; exact hl⟩, fin k w2 h2 H le S3 ek2.symm P2⟩
          · rw [← ek2] at P2; exact False.elim P2
        · rw [← ek2] at P2; exact False.elim P2
      | succ m =>
        generalize ek : lcR h1.length bd tt fe (wipeS sl vs) n (m + 1) i = k at P2
        have ek2 := congrFun ek h2
        unfold lcR at ek2
        split at ek2
        · rename_i xs hx
          obtain ⟨us, hu, rv⟩ := live xs hx
          split at ek2
          · rename_i hxi
            exact .inl ⟨⟨us, .of hu, by rw [RSL.length rv]; exact List.getElem?_eq_none_iff.mp hxi⟩, fin k w2 h2 H le S3 ek2.symm P2⟩
          · rename_i s hs
            obtain ⟨v, ev, rs⟩ := RSL.get rv hs
            rw [← ek2] at P2
            refine .inr ⟨⟨us, v, .of hu, ev⟩, Lt X W en w1 D σ sl vs h1.length Q (lcR h1.length bd tt fe (wipeS sl vs) n m (i + 1)), fun H' p' => ⟨m, Nat.lt_succ_self m, p'⟩, fun x H' y => ?_⟩
            obtain ⟨rfl, y⟩ := y
            have z : v = x := Option.some.inj (ev.symm.trans (y us (by exact .of hu)))
            subst z
            exact lcOne_ok (J := Itl en.K a) eK hL gs hv S1.slots le S3 (it := .one s) rs P2
        · rw [← ek2] at P2; exact False.elim P2
    · exact False.elim P1
theorem fz_t {fa : FE} {σ : St} {H : Hp} {Q : VK} (q : tE X W (fFz fa) σ H Q) : tE X W fa σ H Q := by
  obtain ⟨en, w, sl, h, eK, S, P⟩ := q
  exact ⟨en, w, sl, h, eK, S, fz_po S P⟩
end
end Zx

namespace Zx
open PySem PySem.Spec L2
section
variable {X : Cx} {W : WX}
theorem se_lc {elt tg iter : Expr} {ifs : List Expr} {scope : Scope} {own : List (Str × Nat)} {pos : Pos} {fi : List SV → AH → R Src} {bd : Bd} {g : TG} {tt : FT} {fe : FE} (hc : X.calm = true) (hN : X.N.Nodup) (hi : SI X W tg iter fi) (ok : BlkOk X.N X.env.scope scope own)
    (hg : ∀ (s : Shared) (H : Hp) (C : Addr) (cl : List (Str × Addr)) (fp : List Addr), PG (X.blk s H scope (compEnvC scope cl C X.env) fp) tg g) (ht : ∀ (s : Shared) (H : Hp) (C : Addr) (cl : List (Str × Addr)) (fp : List Addr), STs (X.blk s H scope (compEnvC scope cl C X.env) fp) W0 ifs tt)
    (he : ∀ (s : Shared) (H : Hp) (C : Addr) (cl : List (Str × Addr)) (fp : List Addr), SE (X.blk s H scope (compEnvC scope cl C X.env) fp) W0 elt fe) (gs : GS X bd g) (hv : ∀ i ∈ bd.is, i ∈ own.map (·.2)) (hs : ∀ x, foldedSetIterable iter X.env x = pure x := by intro _; rfl) :
    SE X W (.ListComp elt [⟨tg, iter, ifs, 0⟩] scope pos) (fLc fi bd tt fe (own.map (·.2))) :=
  PE.imp (pe_lc hc hN hi ok hg ht he hs) fun _ _ _ q => lc_t gs hv q
/-- name = [..] -/
theorem ss_setLc {i : Nat} {y : Str} {py : Pos} {elt tg iter : Expr} {ifs : List Expr} {scope : Scope} {own : List (Str × Nat)} {pos spos : Pos} {fi : List SV → AH → R Src} {bd : Bd} {g : TG} {tt : FT} {fe f : FE} (k : ∀ σ H Q, tE X W f σ H Q → tE X W (fLc fi bd tt fe (own.map (·.2))) σ H Q) (hc : X.calm = true) (hN : X.N.Nodup) (hy : X.N[i]? = some y) (hyl : X.env.scope.names.lookup y = some .local)
    (hsw : swapsWith (.ListComp elt [⟨tg, iter, ifs, 0⟩] scope pos) (some (.Name y py)) spos.line X.env = pure true) (hi : SI X W tg iter fi) (ok : BlkOk X.N X.env.scope scope own)
    (hg : ∀ (s : Shared) (H : Hp) (C : Addr) (cl : List (Str × Addr)) (fp : List Addr), PG (X.blk s H scope (compEnvC scope cl C X.env) fp) tg g) (ht : ∀ (s : Shared) (H : Hp) (C : Addr) (cl : List (Str × Addr)) (fp : List Addr), STs (X.blk s H scope (compEnvC scope cl C X.env) fp) W0 ifs tt)
    (he : ∀ (s : Shared) (H : Hp) (C : Addr) (cl : List (Str × Addr)) (fp : List Addr), SE (X.blk s H scope (compEnvC scope cl C X.env) fp) W0 elt fe) (gs : GS X bd g) (hv : ∀ i ∈ bd.is, i ∈ own.map (·.2)) (hs : ∀ x, foldedSetIterable iter X.env x = pure x := by intro _; rfl) :
    SS X W (.Assign [.Name y py] (.ListComp elt [⟨tg, iter, ifs, 0⟩] scope pos) spos) (sSet i f) :=
  PS.imp (ps_setLc hc hN hy hyl hsw hi ok hg ht he hs) (by
    rintro D σ H ⟨en, w, sl, h, eK, S, P⟩
    exact lc_t gs hv (k σ H _ ⟨en, w, sl, h, eK, S, Po.thn P fun s h1 v w1 H1 l1 S1 r1 P1 => P1 w1 _ H1 (Wd.le.refl _) (S1.set r1 i)⟩))
/-! ## built-ins -/
theorem RSL.one {en : En} {w : Wd} {vs : List V} {s : SV} (r : RSL en w vs [s]) : ∃ v, vs = [v] ∧ RS en w v s := by
  obtain ⟨v, vr, e, a, b⟩ := r
  have b : vr = [] := b
  subst b
  exact ⟨v, e, a⟩
theorem RSL.two {en : En} {w : Wd} {vs : List V} {s t : SV} (r : RSL en w vs [s, t]) : ∃ v u, vs = [v, u] ∧ RS en w v s ∧ RS en w u t := by
  obtain ⟨v, vr, e, a, b⟩ := r
  obtain ⟨u, rfl, c⟩ := RSL.one b
  exact ⟨v, u, e, a, c⟩
theorem RS.int {en : En} {w : Wd} {v : V} {i : Int} (r : RS en w v (.d (.int i))) : v = .int i := by
  have r : Rp en.K w.F v (.int i) := r
  unfold Rp at r; exact r
theorem RS.bool {en : En} {w : Wd} {v : V} {i : Bool} (r : RS en w v (.d (.bool i))) : v = .bl i := by
  have r : Rp en.K w.F v (.bool i) := r
  unfold Rp at r; exact r
theorem RS.str {en : En} {w : Wd} {v : V} {i : Str} (r : RS en w v (.d (.str i))) : v = .str i := by
  have r : Rp en.K w.F v (.str i) := r
  unfold Rp at r; exact r
theorem RS.non {en : En} {w : Wd} {v : V} (r : RS en w v (.d .none)) : v = .non := by
  have r : Rp en.K w.F v .none := r
  unfold Rp at r; exact r
def gLen : List SV → AH → R SV := fun ss h => match ss with
  | [s] => match s with
    | .d (.str z) => if z.length ≤ sizeLine then .ok (.d (.int z.length)) h else .st
    | s => match itemsOf h s with
      | some xs => .ok (.d (.int xs.length)) h
      | none => .st
  | _ => .st
abbrev rLen (X : Cx) : List V → Hp → VK → Prop := fun xs H Q => ∃ x n, xs = [x] ∧ LenV X.K x H n ∧ Q (.int n) H
theorem cs_len : CallS X (rLen X) gLen := by
  intro W en w σ H sl h xs ss Q eK S r P
  unfold gLen at P
  split at P
  · obtain ⟨v, rfl, rv⟩ := r.one
    split at P
    · split at P
      · rename_i z hz
        cases RS.str rv
        exact ⟨_, _, rfl, ⟨hz, rfl⟩, P.int S⟩
      · exact False.elim P
    · split at P
      · rename_i xs hx
        obtain ⟨a, vs, rfl, q, rl⟩ := items_ok S.toSimH rv hx
        refine ⟨.ref a, xs.length, rfl, ?_, P.int S⟩
        rw [eK.1] at q
        rcases q with q | q
        · exact .inl ⟨vs, q, (RSL.length rl).symm⟩
        · exact .inr ⟨vs, q, (RSL.length rl).symm⟩
      · exact False.elim P
  · exact False.elim P
def gI2 (k : Int → Int → Int) : List SV → AH → R SV := fun ss h => match ss with
  | [.d (.int i), .d (.int j)] => .ok (.d (.int (k i j))) h
  | _ => .st
theorem cs_I2 {k : Int → Int → Int} : CallS X (fun xs H Q => ∃ i j, xs = [.int i, .int j] ∧ Q (.int (k i j)) H) (gI2 k) := by
  intro W en w σ H sl h xs ss Q eK S r P
  unfold gI2 at P
  split at P
  · obtain ⟨v, u, rfl, r1, r2⟩ := r.two
    cases RS.int r1
    cases RS.int r2
    exact ⟨_, _, rfl, P.int S⟩
  · exact False.elim P
def gI1 (k : Int → Int) : List SV → AH → R SV := fun ss h => match ss with
  | [.d (.int i)] => .ok (.d (.int (k i))) h
  | _ => .st
theorem cs_I1 {k : Int → Int} : CallS X (fun xs H Q => ∃ i, xs = [.int i] ∧ Q (.int (k i)) H) (gI1 k) := by
  intro W en w σ H sl h xs ss Q eK S r P
  unfold gI1 at P
  split at P
  · obtain ⟨v, rfl, r1⟩ := r.one
    cases RS.int r1
    exact ⟨_, rfl, P.int S⟩
  · exact False.elim P
/-- int(x) -/
def gInt : List SV → AH → R SV := fun ss h => match ss with
  | [.d (.int i)] => .ok (.d (.int i)) h
  | [.d (.bool k)] => .ok (.d (.int (if k = true then 1 else 0))) h
  | _ => .st
theorem cs_int : CallS X (fun xs H Q => (∃ i, xs = [.int i] ∧ Q (.int i) H) ∨ ∃ k, xs = [.bl k] ∧ Q (.int (if k then 1 else 0)) H) gInt := by
  intro W en w σ H sl h xs ss Q eK S r P
  unfold gInt at P
  split at P
  · obtain ⟨v, rfl, r1⟩ := r.one
    cases RS.int r1
    exact .inl ⟨_, rfl, P.int S⟩
  · obtain ⟨v, rfl, r1⟩ := r.one
    cases RS.bool r1
    exact .inr ⟨_, rfl, P.int S⟩
  · exact False.elim P
/-- whole numbers, all of them -/
def intsOf : List SV → Option (List Int)
  | [] => some []
  | .d (.int i) :: r => (intsOf r).map (i :: ·)
  | _ => none
theorem ints_ok {en : En} {w : Wd} : ∀ {ss : List SV} {vs : List V} {ns : List Int}, RSL en w vs ss → intsOf ss = some ns → vs = ns.map V.int
  | [], vs, ns, r, e => by unfold intsOf at e; cases e; exact r
  | s :: ss, vs, ns, ⟨x, q, e1, a, b⟩, e => by
    unfold intsOf at e
    split at e
    · rename_i heq; cases heq
    · rename_i i r heq
      cases heq
      cases k : intsOf ss with
      | none => rw [k] at e; cases e
      | some n2 =>
        rw [k] at e
        cases e
        cases RS.int a
        rw [e1, List.map_cons, ← ints_ok b k]
    · cases e
def bolsOf : List SV → Option (List Bool)
  | [] => some []
  | .d (.bool i) :: r => (bolsOf r).map (i :: ·)
  | _ => none
theorem bols_ok {en : En} {w : Wd} : ∀ {ss : List SV} {vs : List V} {ns : List Bool}, RSL en w vs ss → bolsOf ss = some ns → vs = ns.map V.bl
  | [], vs, ns, r, e => by unfold bolsOf at e; cases e; exact r
  | s :: ss, vs, ns, ⟨x, q, e1, a, b⟩, e => by
    unfold bolsOf at e
    split at e
    · rename_i heq; cases heq
    · rename_i i r heq
      cases heq
      cases k : bolsOf ss with
      | none => rw [k] at e; cases e
      | some n2 =>
        rw [k] at e
        cases e
        cases RS.bool a
        rw [e1, List.map_cons, ← bols_ok b k]
    · cases e
def lstInts (h : AH) (s : SV) : Option (List Int) := match lstOf h s with
  | some xs => intsOf xs
  | none => none
theorem lstInts_ok {en : En} {w : Wd} {H : Hp} {h : AH} (S : SimH en w H h) {s : SV} {v : V} {ns : List Int} (r : RS en w v s) (e : lstInts h s = some ns) : ∃ a, v = .ref a ∧ H a = some (.lst (ns.map V.int)) := by
  unfold lstInts at e
  split at e
  · rename_i xs hx
    obtain ⟨a, vs, rfl, q, rl⟩ := lst_ok S r hx
    rw [ints_ok rl e] at q
    exact ⟨a, rfl, q⟩
  · cases e
def gSum : List SV → AH → R SV := fun ss h => match ss with
  | [s] => match lstInts h s with
    | some ns => .ok (.d (.int ns.sum)) h
    | none => .st
  | _ => .st
theorem cs_sum : CallS X (rSum X.K) gSum := by
  intro W en w σ H sl h xs ss Q eK S r P
  unfold gSum at P
  split at P
  · obtain ⟨v, rfl, r1⟩ := r.one
    split at P
    · rename_i ns hn
      obtain ⟨a, rfl, q⟩ := lstInts_ok S.toSimH r1 hn
      exact ⟨a, ns, rfl, .of q, P.int S⟩
    · exact False.elim P
  · exact False.elim P
/-- the least, the greatest -/
def lmin : List Int → Int
  | [] => 0
  | [x] => x
  | x :: y :: r => min x (lmin (y :: r))
def lmax : List Int → Int
  | [] => 0
  | [x] => x
  | x :: y :: r => max x (lmax (y :: r))
theorem lmin_spec : ∀ (ns : List Int), ns ≠ [] → lmin ns ∈ ns ∧ ∀ y ∈ ns, lmin ns ≤ y
  | [], h => absurd rfl h
  | [x], _ => ⟨by unfold lmin; simp, fun y hy => by unfold lmin; simp at hy; omega⟩
  | x :: y :: r, _ => by
    obtain ⟨h1, h2⟩ := lmin_spec (y :: r) (by simp)
    unfold lmin
    refine ⟨?_, fun z hz => ?_⟩
    · by_cases c : x ≤ lmin (y :: r)
      · rw [Int.min_eq_left c]; exact List.mem_cons_self
      · rw [Int.min_eq_right (by omega)]; exact List.mem_cons_of_mem _ h1
    · rcases List.mem_cons.mp hz with e | hz
      · subst e; omega
      · have := h2 z hz; omega
theorem lmax_spec : ∀ (ns : List Int), ns ≠ [] → lmax ns ∈ ns ∧ ∀ y ∈ ns, y ≤ lmax ns
  | [], h => absurd rfl h
  | [x], _ => ⟨by unfold lmax; simp, fun y hy => by unfold lmax; simp at hy; omega⟩
  | x :: y :: r, _ => by
    obtain ⟨h1, h2⟩ := lmax_spec (y :: r) (by simp)
    unfold lmax
    refine ⟨?_, fun z hz => ?_⟩
    · by_cases c : lmax (y :: r) ≤ x
      · rw [Int.max_eq_left c]; exact List.mem_cons_self
      · rw [Int.max_eq_right (by omega)]; exact List.mem_cons_of_mem _ h1
    · rcases List.mem_cons.mp hz with e | hz
      · subst e; omega
      · have := h2 z hz; omega
def gMinL : List SV → AH → R SV := fun ss h => match ss with
  | [s] => match lstInts h s with
    | some (n :: ns) => .ok (.d (.int (lmin (n :: ns)))) h
    | _ => .st
  | _ => .st
def gMaxL : List SV → AH → R SV := fun ss h => match ss with
  | [s] => match lstInts h s with
    | some (n :: ns) => .ok (.d (.int (lmax (n :: ns)))) h
    | _ => .st
  | _ => .st
theorem cs_min : CallS X (rMin X.K) gMinL := by
  intro W en w σ H sl h xs ss Q eK S r P
  unfold gMinL at P
  split at P
  · obtain ⟨v, rfl, r1⟩ := r.one
    split at P
    · rename_i n ns hn
      obtain ⟨a, rfl, q⟩ := lstInts_ok S.toSimH r1 hn
      refine ⟨a, n :: ns, rfl, .of q, by simp, fun m hm hl => ?_⟩
      obtain ⟨h1, h2⟩ := lmin_spec (n :: ns) (by simp)
      have : m = lmin (n :: ns) := by have := h2 m hm; have := hl _ h1; omega
      rw [this]
      exact P.int S
    · exact False.elim P
  · exact False.elim P
theorem cs_max : CallS X (rMax X.K) gMaxL := by
  intro W en w σ H sl h xs ss Q eK S r P
  unfold gMaxL at P
  split at P
  · obtain ⟨v, rfl, r1⟩ := r.one
    split at P
    · rename_i n ns hn
      obtain ⟨a, rfl, q⟩ := lstInts_ok S.toSimH r1 hn
      refine ⟨a, n :: ns, rfl, .of q, by simp, fun m hm hl => ?_⟩
      obtain ⟨h1, h2⟩ := lmax_spec (n :: ns) (by simp)
      have : m = lmax (n :: ns) := by have := h2 m hm; have := hl _ h1; omega
      rw [this]
      exact P.int S
    · exact False.elim P
  · exact False.elim P
def gBools (k : List Bool → Bool) : List SV → AH → R SV := fun ss h => match ss with
  | [s] => match lstOf h s with
    | some xs => match bolsOf xs with
      | some bs => .ok (.d (.bool (k bs))) h
      | none => .st
    | none => .st
  | _ => .st
theorem cs_bools {k : List Bool → Bool} : CallS X (fun vs H Q => ∃ (a : Addr) (bs : List Bool), vs = [V.ref a] ∧ SqL X.K H a (bs.map V.bl) ∧ Q (.bl (k bs)) H) (gBools k) := by
  intro W en w σ H sl h xs ss Q eK S r P
  unfold gBools at P
  split at P
  · obtain ⟨v, rfl, r1⟩ := r.one
    split at P
    · rename_i xs hx
      split at P
      · rename_i bs hb
        obtain ⟨a, vs, rfl, q, rl⟩ := lst_ok S.toSimH r1 hx
        rw [bols_ok rl hb] at q
        exact ⟨a, bs, rfl, .of q, P.bool S⟩
      · exact False.elim P
    · exact False.elim P
  · exact False.elim P
/-- list(xs): a new owned list -/
def gList : List SV → AH → R SV := fun ss h => match ss with
  | [s] => match itemsOf h s with
    | some xs => .ok (.r h.length) (h ++ [some (.lst xs)])
    | none => .st
  | _ => .st
theorem cs_list : CallS X (fun xs H Q => ∃ p ys, xs = [.ref p] ∧ (SqL X.K H p ys ∨ SqT X.K H p ys) ∧ ∀ l, H l = none → Q (.ref l) (upd H l (.lst ys))) gList := by
  intro W en w σ H sl h xs ss Q eK S r P
  unfold gList at P
  split at P
  · obtain ⟨v, rfl, r1⟩ := r.one
    split at P
    · rename_i xs hx
      obtain ⟨a, vs, rfl, q, rl⟩ := items_ok S.toSimH r1 hx
      rw [eK.1] at q
      exact ⟨a, vs, rfl, q, fun l nl => P _ (w.ow l) _ le_ow (S.newO nl rl) S.toSimH.rs_new⟩
    · exact False.elim P
  · exact False.elim P
/-- tuple(xs): frozen -/
def gTuple : List SV → AH → R SV := fun ss h => match ss with
  | [s] => match lstOf h s with
    | some xs => match allD xs with
      | some ds => .ok (.d (.tuple ds)) h
      | none => .st
    | none => match s with
      | .d (.tuple ds) => .ok (.d (.tuple ds)) h
      | _ => .st
  | _ => .st
theorem cs_tuple : CallS X (fun xs H Q => ∃ p ys, xs = [.ref p] ∧ ((SqL X.K H p ys ∧ ∀ l, H l = none → Q (.ref l) (upd H l (.tup ys))) ∨ (SqT X.K H p ys ∧ Q (.ref p) H))) gTuple := by
  intro W en w σ H sl h xs ss Q eK S r P
  unfold gTuple at P
  split at P
  · obtain ⟨v, rfl, r1⟩ := r.one
    split at P
    · rename_i xs hx
      split at P
      · rename_i ds hd
        obtain ⟨a, vs, rfl, q, rl⟩ := lst_ok S.toSimH r1 hx
        have rd := allD_ok rl hd
        refine ⟨a, vs, rfl, .inl ⟨.of q, fun p np => ?_⟩⟩
        refine P (.ref p) (w.fz p (.tup vs)) _ (le_fz (S.F_none np)) (S.newF np (fun _ _ z => by cases z)) ?_
        show Rp en.K (upd w.F p (.tup vs)) (.ref p) (.tuple ds)
        unfold Rp
        exact ⟨p, vs, rfl, .of upd_same, RpL.mono (le_fz (S.F_none np)).2 ds vs rd⟩
      · exact False.elim P
    · split at P
      · rename_i ds _
        have r2 : Rp en.K w.F v (.tuple ds) := r1
        unfold Rp at r2
        obtain ⟨a, vs, rfl, q, l⟩ := r2
        refine ⟨a, vs, rfl, .inr ⟨?_, P.here S r1⟩⟩
        rw [← eK.1]
        exact sqT_mono (S.fh a) q
      · exact False.elim P
  · exact False.elim P
/-- list(range(..)) -/
def rgS (a b : Int) : List SV := (List.range (b - a).toNat).map fun i => SV.d (.int (a + (i : Nat)))
theorem rgS_ok {en : En} {w : Wd} {a b : Int} : RSL en w (rgV a b) (rgS a b) := by
  unfold rgV rgS
  generalize List.range (b - a).toNat = l
  induction l with
  | nil => exact rfl
  | cons x l ih => exact ⟨.int (a + (x : Nat)), _, rfl, (show Rp en.K w.F _ _ from Rp.int), ih⟩
def tR (X : Cx) (W : WX) (f : List SV → AH → R (Int × Int)) : St → Hp → (Int → Int → Hp → Prop) → Prop := fun σ H Q => ∃ en w sl h, en.ok X ∧ Sim en w σ H sl h ∧ Po (fun _ _ (b a : Int × Int) => b = a) X W en w σ sl (f sl h) (fun p H' => Q p.1 p.2 H')
abbrev SR (X : Cx) (W : WX) (e : Expr) (f : List SV → AH → R (Int × Int)) : Prop := PRg X e (tR X W f)
def fRg1 (fa : FE) : List SV → AH → R (Int × Int) := fun sl h => (fa sl h).bind fun s h1 => match s with
  | .d (.int n) => .ok (0, n) h1
  | _ => .st
def fRg2 (fa fb : FE) : List SV → AH → R (Int × Int) := fun sl h => (fa sl h).bind fun s h1 => (fb sl h1).bind fun t h2 => match s, t with
  | .d (.int i), .d (.int j) => .ok (i, j) h2
  | _, _ => .st
def fLstRg (f : List SV → AH → R (Int × Int)) : FE := fun sl h => (f sl h).bind fun p h1 => if (inB p.1 && inB p.2 && decide ((p.2 - p.1).toNat ≤ 1000000)) = true then .ok (.r h1.length) (h1 ++ [some (.lst (rgS p.1 p.2))]) else .st
variable {a b e : Expr} {fa fb : FE} {p pos : Pos}
theorem sr_1 (hg : Gl X "range") (hm : X.mg "range" = none) (ha : SE X W a fa) (na : starEach [a] X.env = (false, eval a X.env) :: starEach [] X.env := by rfl) : SR X W (.Call (.Name "range" p) [a] [] pos) (fRg1 fa) := by
  intro pins s σ H Q I q
  refine prg_1 hg hm ha na pins s σ H Q I ?_
  obtain ⟨en, w, sl, h, eK, S, P⟩ := q
  refine ⟨en, w, sl, h, eK, S, Po.bind P fun t h1 v w1 H1 l1 S1 r1 P1 => ?_⟩
  split at P1
  · rename_i n
    exact ⟨n, RS.int r1, P1 (0, n) w1 H1 (Wd.le.refl _) S1 rfl⟩
  · exact False.elim P1
theorem sr_2 (hg : Gl X "range") (hm : X.mg "range" = none) (ha : SE X W a fa) (hb : SE X W b fb) (na : starEach [a, b] X.env = (false, eval a X.env) :: starEach [b] X.env := by rfl)
    (nb : starEach [b] X.env = (false, eval b X.env) :: starEach [] X.env := by rfl) (hp : (backTo pos (starEach [b] X.env)).any (·.1) = false := by rfl) : SR X W (.Call (.Name "range" p) [a, b] [] pos) (fRg2 fa fb) := by
  intro pins s σ H Q I q
  refine prg_2 hg hm ha hb na nb hp pins s σ H Q I ?_
  obtain ⟨en, w, sl, h, eK, S, P⟩ := q
  refine ⟨en, w, sl, h, eK, S, Po.bind P fun t h1 v w1 H1 l1 S1 r1 P1 => ?_⟩
  refine ⟨en, w1, sl, h1, eK, S1, Po.bind P1 fun u h2 v2 w2 H2 l2 S2 r2 P2 => ?_⟩
  split at P2
  · rename_i i j
    exact ⟨i, j, RS.int (RS.mono l2 r1), RS.int r2, P2 (i, j) w2 H2 (Wd.le.refl _) S2 rfl⟩
  · exact False.elim P2
theorem se_listRg {f : List SV → AH → R (Int × Int)} (hc : X.calm = true) (hg : Gl X "list") (hm : X.mg "list" = none) (he : SR X W e f) (na : starEach [e] X.env = (false, eval e X.env) :: starEach [] X.env := by rfl) : SE X W (.Call (.Name "list" p) [e] [] pos) (fLstRg f) :=
  PE.imp (pe_listRg hc hg hm he na) (by
    rintro σ H Q ⟨en, w, sl, h, eK, S, P⟩
    refine ⟨en, w, sl, h, eK, S, ?_⟩
    refine Po.bind P fun pr h1 pr' w1 H1 l1 S1 r1 P1 => ?_
    have r1 : pr' = pr := r1
    subst r1
    split at P1
    · rename_i hb
      rw [Bool.and_eq_true, Bool.and_eq_true] at hb
      obtain ⟨⟨b1, b2⟩, b3⟩ := hb
      have b3 := of_decide_eq_true b3
      obtain ⟨c1, c2⟩ := inB_ok b1
      obtain ⟨c3, c4⟩ := inB_ok b2
      refine ⟨⟨c1, c2, c3, c4, by omega⟩, fun q nq => ?_⟩
      exact P1 _ (w1.ow q) _ le_ow (S1.newO nq rgS_ok) S1.toSimH.rs_new
    · exact False.elim P1)
end
end Zx

namespace Zx
open PySem PySem.Spec L2
/-! ## methods of lists -/
def MtS (X : Cx) (T : String) (r : V → List V → Hp → VK → Prop) (kd : AH → SV → Bool) (g : SV → List SV → AH → R SV) : Prop :=
  (∀ (en : En) (w : Wd) (H : Hp) (h : AH) (x : V) (s : SV), en.ok X → SimH en w H h → RS en w x s → kd h s = true → tyV X.K T x H) ∧
  ∀ (W : WX) (en : En) (w : Wd) (σ : St) (H : Hp) (sl : List SV) (h : AH) (x : V) (xs : List V) (s : SV) (ss : List SV) (Q : VK), en.ok X → Sim en w σ H sl h → RS en w x s → RSL en w xs ss → Po RS X W en w σ sl (g s ss h) Q → r x xs H Q
def fBM (kd : AH → SV → Bool) (g : SV → List SV → AH → R SV) (fo : FE) (fa : FA) : FE := fun sl h => (fo sl h).bind fun s h1 => if kd h1 s = true then (fa sl h1).bind fun ss h2 => g s ss h2 else .st
section
variable {X : Cx} {W : WX} {o e : Expr} {es : List Expr} {fo : FE} {fa : FA} {T id : String} {name : Str} {r : V → List V → Hp → VK → Prop} {kd : AH → SV → Bool} {g : SV → List SV → AH → R SV} {apos cpos : Pos}
theorem se_bm (ms : MtS X T r kd g) (pa : PlainAttrs T) (slot : Slot T name id) (hty : typeOf (.builtin id) = pure (.type "method_descriptor")) (hm : MtR X id r) (ho : SE X W o fo) (ha : SA X W (e :: es) fa)
    (hbase : attributeBase o name X.env (eval o X.env) = eval o X.env := by rfl)
    (hfew : ((backTo cpos (starEach (e :: es) X.env)).all (fun x => !x.1) && (backToKw cpos (keywordEach [] X.env)).all (fun x => x.1.isSome)
      && decide ((e :: es).length + ([] : List Keyword).length + (if ([] : List Keyword).isEmpty then 0 else 1) < 30)) = true := by rfl)
    (hline : (apos.endLine == cpos.line) = true := by rfl) (hs : starEach (e :: es) X.env = (false, eval e X.env) :: starEach es X.env := by rfl) (hplain : (backTo cpos (starEach es X.env)).any (·.1) = false := by rfl) :
    SE X W (.Call (.Attribute o name apos) (e :: es) [] cpos) (fBM kd g fo fa) := PE.imp (pe_bm pa slot hty hm ho ha hbase hfew hline hs hplain) (by
  rintro σ H Q ⟨en, w, sl, h, eK, S, P⟩
  refine ⟨en, w, sl, h, eK, S, Po.bind P fun s h1 v w1 H1 l1 S1 r1 P1 => ?_⟩
  split at P1
  · rename_i hk
    refine ⟨ms.1 en w1 H1 h1 v s eK S1.toSimH r1 hk, en, w1, sl, h1, eK, S1, Po.bind P1 fun ss h2 vs w2 H2 l2 S2 r2 P2 => ?_⟩
    exact ms.2 W en w2 σ H2 sl h2 v vs s ss Q eK S2 (RS.mono l2 r1) r2 P2
  · exact False.elim P1)
theorem se_bm0 (ms : MtS X T r kd g) (pa : PlainAttrs T) (slot : Slot T name id) (hty : typeOf (.builtin id) = pure (.type "method_descriptor")) (hm : MtR X id r) (ho : SE X W o fo)
    (hbase : attributeBase o name X.env (eval o X.env) = eval o X.env := by rfl) (hline : (apos.endLine == cpos.line) = true := by rfl) : SE X W (.Call (.Attribute o name apos) [] [] cpos) (fBM kd g fo fNil) := PE.imp (pe_bm0 pa slot hty hm ho hbase hline) (by
  rintro σ H Q ⟨en, w, sl, h, eK, S, P⟩
  refine ⟨en, w, sl, h, eK, S, Po.bind P fun s h1 v w1 H1 l1 S1 r1 P1 => ?_⟩
  split at P1
  · rename_i hk
    exact ⟨ms.1 en w1 H1 h1 v s eK S1.toSimH r1 hk, ms.2 W en w1 σ H1 sl h1 v [] s [] Q eK S1 r1 rfl P1⟩
  · exact False.elim P1)
/-- a list -/
def kdL : AH → SV → Bool := fun h s => (lstOf h s).isSome
theorem kdL_ok {en : En} {w : Wd} {H : Hp} {h : AH} {x : V} {s : SV} (S : SimH en w H h) (r : RS en w x s) (k : kdL h s = true) : tyV X.K "list" x H := by
  unfold kdL at k
  cases e : lstOf h s with
  | none => rw [e] at k; cases k
  | some xs =>
    obtain ⟨a, vs, rfl, q, rl⟩ := lst_ok S r e
    exact .inl ⟨rfl, vs, .of q⟩
/-- an owned list is changed by k: to a new list and a value -/
def gOwn (k : List SV → List SV → AH → Option (List SV × SV)) : SV → List SV → AH → R SV := fun s ss h => match s with
  | .r n => match h[n]? with
    | some (some (.lst xs)) => match k xs ss h with
      | some (ys, v) => .ok v (h.set n (some (.lst ys)))
      | none => .st
    | _ => .st
  | _ => .st
theorem gOwn_inv {k : List SV → List SV → AH → Option (List SV × SV)} {en : En} {w : Wd} {σ : St} {H : Hp} {sl : List SV} {h : AH} {x : V} {s : SV} {ss : List SV} {Q : VK} (S : Sim en w σ H sl h) (r : RS en w x s) (P : Po RS X W en w σ sl (gOwn k s ss h) Q) :
    ∃ a vs xs ys v, x = .ref a ∧ H a = some (.lst vs) ∧ RSL en w vs xs ∧ k xs ss h = some (ys, v) ∧ ∀ us u, RSL en w us ys → RS en w u v → Q u (upd H a (.lst us)) := by
  unfold gOwn at P
  split at P
  · rename_i n
    split at P
    · rename_i xs hx
      split at P
      · rename_i ys v hk
        obtain ⟨a, e1, rfl⟩ := r
        obtain ⟨a', e2, ⟨vs, hv, rv⟩, _, _⟩ := S.live n _ hx
        have ea : a' = a := Option.some.inj (e2.symm.trans e1)
        subst ea
        exact ⟨a', vs, xs, ys, v, rfl, hv, rv, hk, fun us u r1 r2 => P u w _ (Wd.le.refl _) (S.write hx e1 r1) r2⟩
      · exact False.elim P
    · exact False.elim P
  · exact False.elim P
theorem RS.dnone {en : En} {w : Wd} : RS en w .non (.d .none) := (show Rp en.K w.F .non .none from Rp.non)
def lim : Nat := 1000000
theorem lim_line {n : Nat} (h : n < lim) : n < sizeLine := by rw [sizeLine_eq]; unfold lim at h; omega
def kAppend : List SV → List SV → AH → Option (List SV × SV) := fun xs ss _ => match ss with
  | [v] => if xs.length < lim then some (xs ++ [v], .d .none) else none
  | _ => none
theorem ms_append : MtS X "list" rAppend kdL (gOwn kAppend) := by
  refine ⟨fun en w H h x s eK S r k => kdL_ok S r k, fun W en w σ H sl h x xs s ss Q eK S r rl P => ?_⟩
  obtain ⟨a, vs, zs, ys, v, rfl, hv, rv, hk, q⟩ := gOwn_inv S r P
  unfold kAppend at hk
  split at hk
  · rename_i t
    split at hk
    · rename_i hl
      cases hk
      obtain ⟨u, rfl, ru⟩ := rl.one
      exact ⟨a, vs, u, rfl, rfl, hv, by rw [RSL.length rv]; exact lim_line hl, q _ _ (RSL.app (ts := [t]) rv ⟨u, [], rfl, ru, rfl⟩) RS.dnone⟩
    · cases hk
  · cases hk
def kExtend : List SV → List SV → AH → Option (List SV × SV) := fun xs ss h => match ss with
  | [t] => match lstOf h t with
    | some zs => if xs.length + zs.length < lim then some (xs ++ zs, .d .none) else none
    | none => none
  | _ => none
theorem ms_extend : MtS X "list" rExtend kdL (gOwn kExtend) := by
  refine ⟨fun en w H h x s eK S r k => kdL_ok S r k, fun W en w σ H sl h x xs s ss Q eK S r rl P => ?_⟩
  obtain ⟨a, vs, zs, ys, v, rfl, hv, rv, hk, q⟩ := gOwn_inv S r P
  unfold kExtend at hk
  split at hk
  · rename_i t
    split at hk
    · rename_i us hu
      split at hk
      · rename_i hl
        cases hk
        obtain ⟨u, rfl, ru⟩ := rl.one
        obtain ⟨b, ws, rfl, hb, rw'⟩ := lst_ok S.toSimH ru hu
        exact ⟨a, b, vs, ws, rfl, rfl, hv, hb, Nat.le_of_lt (by rw [RSL.length rv, RSL.length rw']; exact lim_line hl), q _ _ (RSL.app rv rw') RS.dnone⟩
      · cases hk
    · cases hk
  · cases hk
def kReverse : List SV → List SV → AH → Option (List SV × SV) := fun xs ss _ => match ss with
  | [] => some (xs.reverse, .d .none)
  | _ => none
theorem RSL.rev {en : En} {w : Wd} : ∀ {ss : List SV} {vs : List V}, RSL en w vs ss → RSL en w vs.reverse ss.reverse
  | [], vs, r => by have r : vs = [] := r; subst r; exact rfl
  | s :: ss, vs, ⟨x, q, e, a, b⟩ => by
    subst e
    rw [List.reverse_cons, List.reverse_cons]
    exact RSL.app (ts := [s]) (RSL.rev b) ⟨x, [], rfl, a, rfl⟩
theorem ms_reverse : MtS X "list" rReverse kdL (gOwn kReverse) := by
  refine ⟨fun en w H h x s eK S r k => kdL_ok S r k, fun W en w σ H sl h x xs s ss Q eK S r rl P => ?_⟩
  obtain ⟨a, vs, zs, ys, v, rfl, hv, rv, hk, q⟩ := gOwn_inv S r P
  unfold kReverse at hk
  split at hk
  · cases hk
    exact ⟨a, vs, rfl, rl, hv, q _ _ (RSL.rev rv) RS.dnone⟩
  · cases hk
def kClear : List SV → List SV → AH → Option (List SV × SV) := fun xs ss _ => match ss with
  | [] => some ([], .d .none)
  | _ => none
theorem ms_clear : MtS X "list" rClear kdL (gOwn kClear) := by
  refine ⟨fun en w H h x s eK S r k => kdL_ok S r k, fun W en w σ H sl h x xs s ss Q eK S r rl P => ?_⟩
  obtain ⟨a, vs, zs, ys, v, rfl, hv, rv, hk, q⟩ := gOwn_inv S r P
  unfold kClear at hk
  split at hk
  · cases hk
    exact ⟨a, vs, rfl, rl, hv, q _ _ rfl RS.dnone⟩
  · cases hk
def kPopAt : List SV → List SV → AH → Option (List SV × SV) := fun xs ss _ => match ss with
  | [.d (.int i)] => if inB i = true then match seqIndex? i xs.length with
      | some k => match xs[k]? with
        | some y => some (xs.eraseIdx k, y)
        | none => none
      | none => none
    else none
  | _ => none
theorem RSL.erase {en : En} {w : Wd} : ∀ {ss : List SV} {vs : List V} (i : Nat), RSL en w vs ss → RSL en w (vs.eraseIdx i) (ss.eraseIdx i)
  | [], vs, i, r => by have r : vs = [] := r; subst r; exact rfl
  | s :: ss, vs, 0, ⟨x, q, e, a, b⟩ => by subst e; exact b
  | s :: ss, vs, i + 1, ⟨x, q, e, a, b⟩ => by subst e; exact ⟨x, q.eraseIdx i, rfl, a, RSL.erase i b⟩
theorem ms_popAt : MtS X "list" rPopAt kdL (gOwn kPopAt) := by
  refine ⟨fun en w H h x s eK S r k => kdL_ok S r k, fun W en w σ H sl h x xs s ss Q eK S r rl P => ?_⟩
  obtain ⟨a, vs, zs, ys, v, rfl, hv, rv, hk, q⟩ := gOwn_inv S r P
  unfold kPopAt at hk
  split at hk
  · rename_i i
    split at hk
    · rename_i hb
      split at hk
      · rename_i k hi
        split at hk
        · rename_i y hy
          cases hk
          obtain ⟨u, rfl, ru⟩ := rl.one
          cases RS.int ru
          obtain ⟨b1, b2⟩ := inB_ok hb
          obtain ⟨z, ez, rz⟩ := RSL.get rv hy
          exact ⟨a, vs, i, k, z, rfl, rfl, hv, by omega, by omega, by rw [RSL.length rv]; exact hi, ez, q _ _ (RSL.erase k rv) rz⟩
        · cases hk
      · cases hk
    · cases hk
  · cases hk
def kPop : List SV → List SV → AH → Option (List SV × SV) := fun xs ss _ => match ss with
  | [] => match xs[xs.length - 1]? with
    | some y => some (xs.dropLast, y)
    | none => none
  | _ => none
theorem RSL.dropL {en : En} {w : Wd} : ∀ {ss : List SV} {vs : List V}, RSL en w vs ss → RSL en w vs.dropLast ss.dropLast
  | [], vs, r => by have r : vs = [] := r; subst r; exact rfl
  | [s], vs, ⟨x, q, e, a, b⟩ => by have b : q = [] := b; subst b; subst e; exact rfl
  | s :: t :: ss, vs, ⟨x, q, e, a, b⟩ => by
    obtain ⟨y, q', e', a', b'⟩ := id b
    subst e; subst e'
    exact ⟨x, (y :: q').dropLast, rfl, a, RSL.dropL b⟩
theorem ms_pop : MtS X "list" rPop kdL (gOwn kPop) := by
  refine ⟨fun en w H h x s eK S r k => kdL_ok S r k, fun W en w σ H sl h x xs s ss Q eK S r rl P => ?_⟩
  obtain ⟨a, vs, zs, ys, v, rfl, hv, rv, hk, q⟩ := gOwn_inv S r P
  unfold kPop at hk
  split at hk
  · split at hk
    · rename_i y hy
      cases hk
      obtain ⟨z, ez, rz⟩ := RSL.get rv hy
      exact ⟨a, vs, z, rfl, rl, hv, by rw [RSL.length rv]; exact ez, q _ _ (RSL.dropL rv) rz⟩
    · cases hk
  · cases hk
end
/-! ## o[i] = e, o[i] += e -/
def putIx (s t v : SV) (h : AH) : Option AH := match s with
  | .r n => match t with
    | .d (.int i) => match h[n]? with
      | some (some (.lst xs)) => match ixN xs.length i with
        | some j => some (h.set n (some (.lst (xs.set j v))))
        | none => none
      | _ => none
    | _ => none
  | _ => none
def sStore (fo fi fe : FE) : FS := fun sl h => (fe sl h).thn sl fun v h1 => (fo sl h1).thn sl fun s h2 => (fi sl h2).thn sl fun t h3 => match putIx s t v h3 with
  | some h4 => .nx sl h4
  | none => .st
section
variable {X : Cx} {W : WX} {o i e : Expr} {fo fi fe : FE} {pos tpos : Pos}
theorem put_ok {en : En} {w : Wd} {σ : St} {H : Hp} {sl : List SV} {h h' : AH} {x y z : V} {s t v : SV} {D : St → Hp → Prop} (S : Sim en w σ H sl h) (r1 : RS en w x s) (r2 : RS en w y t) (r3 : RS en w z v) (e : putIx s t v h = some h') (q : ∀ H', Sim en w σ H' sl h' → D σ H') :
    rSetL x y z H fun H' => D σ H' := by
  unfold putIx at e
  split at e
  · rename_i n
    split at e
    · rename_i i
      split at e
      · rename_i xs hx
        split at e
        · rename_i j hj
          cases e
          obtain ⟨a, e1, rfl⟩ := r1
          obtain ⟨a', e2, ⟨vs, hv, rv⟩, _, _⟩ := S.live n _ hx
          have ea : a' = a := Option.some.inj (e2.symm.trans e1)
          subst ea
          cases RS.int r2
          exact ⟨a', vs, i, j, rfl, rfl, hv, by rw [RSL.length rv]; exact hj, q _ (S.write hx e1 (RSL.set r3 j rv))⟩
        · cases e
      · cases e
    · cases e
  · cases e
theorem ss_store (hv : SE X W e fe) (ho : SE X W o fo) (hi : SE X W i fi) (hg : PG X (.Subscript o i tpos) (gSub (tE X W fo) (tE X W fi) rSetL)) (hs : swapsWithSole [.Subscript o i tpos] e pos.line X.env = pure false := by rfl) (hw : swappedStores [.Subscript o i tpos] e X.env = pure none := by rfl)
    (h1 : List.map (fun x => x.snd) (assignEach [.Subscript o i tpos] X.env) = [assign (.Subscript o i tpos) X.env] := by rfl) : SS X W (.Assign [.Subscript o i tpos] e pos) (sStore fo fi fe) := PS.imp (ps_asg hv hg hs hw h1) (by
  rintro D σ H ⟨en, w, sl, h, eK, S, P⟩
  refine ⟨en, w, sl, h, eK, S, Po.thn P fun v h1 z w1 H1 l1 S1 r1 P1 => ?_⟩
  refine ⟨en, w1, sl, h1, eK, S1, Po.thn P1 fun s h2 x w2 H2 l2 S2 r2 P2 => ?_⟩
  refine ⟨en, w2, sl, h2, eK, S2, Po.thn P2 fun t h3 y w3 H3 l3 S3 r3 P3 => ?_⟩
  split at P3
  · rename_i h4 he
    exact put_ok (D := D.nx) S3 (RS.mono l3 r2) r3 (RS.mono (l2.trans l3) r1) he fun H' S' => P3 w3 σ H' (Wd.le.refl _) S'
  · exact False.elim P3)
/-- an item, by values, for o[i] += e -/
theorem pget_list : PGet X (rIxL X.K) := by
  intro pins s σ H o i ov iv Q I ro ri q
  obtain ⟨p, xs, k, z, rfl, rfl, hq, he, q⟩ := q
  cases ro
  obtain ⟨t, rfl⟩ := ri
  obtain ⟨its, r, pl, hz⟩ := I.list hq
  obtain ⟨j, h1, h2, h3, h4, h5⟩ := atI_get he
  obtain ⟨w, ew, rw'⟩ := r.get h2
  have hl := r.length
  have hn := line63
  have fin : EP X pins σ Q w s := ⟨z, H, I, rw', q⟩
  by_cases h0 : 0 ≤ k
  · have hj : k.toNat = j := by
      rw [seqIndex_of h0 h5] at h1
      exact Option.some.inj h1
    exact wpAny_getItem_list pl.isList h0 (by omega) (by rw [hj]; simpa using ew) fin
  · have hj : (k + (its.toArray.size : Int)).toNat = j := by
      rw [seqIndex_neg (by omega) h4] at h1
      rw [List.size_toArray, ← hl]
      exact Option.some.inj h1
    exact wpAny_getItem_list_neg pl.isList (by omega) (by rw [List.size_toArray] <;> omega) (by omega) (by rw [hj]; simpa using ew) fin
/-- what += does with two whole numbers -/
def sAugS (k : Int → Int → Int) (fo fi fe : FE) : FS := fun sl h => (fo sl h).thn sl fun s h1 => (fi sl h1).thn sl fun t h2 => match t with
  | .d (.int i) => match lstOf h2 s with
    | some xs => match atI xs i with
      | some (.d (.int a)) => (fe sl h2).thn sl fun v h3 => match v with
        | .d (.int b) => match putIx s t (.d (.int (k a b))) h3 with
          | some h4 => .nx sl h4
          | none => .st
        | _ => .st
      | _ => .st
    | none => .st
  | _ => .st
theorem ss_augS {op : Operator} {k : Int → Int → Int} (ho : SE X W o fo) (hi : SE X W i fi) (he : SE X W e fe) (hp : PIp X op (ipI k))
    (ha : ∀ ov iv new, augStore i ov iv new = (do holding [new, ov, iv] (setItem ov iv new); release [new, ov, iv] []; pure .next) := by intros; rfl) : SS X W (.AugAssign (.Subscript o i tpos) op e pos) (sAugS k fo fi fe) := PS.imp (ps_augS ho hi pget_list he hp set_list ha) (by
  rintro D σ H ⟨en, w, sl, h, eK, S, P⟩
  refine ⟨en, w, sl, h, eK, S, Po.thn P fun s h1 x w1 H1 l1 S1 r1 P1 => ?_⟩
  refine ⟨en, w1, sl, h1, eK, S1, Po.thn P1 fun t h2 y w2 H2 l2 S2 r2 P2 => ?_⟩
  split at P2
  · rename_i i
    split at P2
    · rename_i xs hx
      split at P2
      · rename_i a hat
        cases RS.int r2
        obtain ⟨q, vs, rfl, hq, rl⟩ := lst_ok S2.toSimH (RS.mono l2 r1) hx
        obtain ⟨z, ez, rz⟩ := atI_RSL rl hat
        refine ⟨q, vs, i, z, rfl, rfl, .of hq, ez, ?_⟩
        refine ⟨en, w2, sl, h2, eK, S2, Po.thn P2 fun v h3 u w3 H3 l3 S3 r3 P3 => ?_⟩
        split at P3
        · rename_i b
          split at P3
          · rename_i h4 he
            refine ⟨a, b, RS.int rz, RS.int r3, ?_⟩
            exact put_ok (D := D.nx) S3 (RS.mono (l2.trans l3) r1) (RS.mono l3 r2) (show RS en w3 (.int (k a b)) (.d (.int (k a b))) from (show Rp en.K w3.F _ _ from Rp.int)) he fun H' S' => P3 w3 σ H' (Wd.le.refl _) S'
          · exact False.elim P3
        · exact False.elim P3
      · exact False.elim P2
    · exact False.elim P2
  · exact False.elim P2)
/-- x += e, whole numbers -/
def sAug (j : Nat) (g : SV → SV → AH → R SV) (fe : FE) : FS := fun sl h => (fVar j sl h).thn sl fun s h1 => (fe sl h1).thn sl fun t h2 => (g s t h2).thn sl fun v h3 => .nx (sl.set j v) h3
theorem ss_aug {j : Nat} {x : Str} {op : Operator} {k : Int → Int → Int} {pos' : Pos} (hN : X.N.Nodup) (hi : X.N[j]? = some x) (hx : Loc X.env.scope x) (he : SE X W e fe) (hp : PIp X op (ipI k)) (hf : X.fn x = true ∨ X.env.scope.names.lookup x = some .local := by first | exact .inl rfl | exact .inr rfl | assumption) :
    SS X W (.AugAssign (.Name x pos') op e pos) (sAug j (gI (fun _ _ => true) fun a b => .int (k a b)) fe) := PS.imp (ps_aug hN hi hx he hp hf) (by
  rintro D σ H ⟨en, w, sl, h, eK, S, P⟩
  have P : PoS X W en w ((fVar j sl h).thn sl fun s h1 => (fe sl h1).thn sl fun t h2 => (gI (fun _ _ => true) (fun a b => PyData.int (k a b)) s t h2).thn sl fun v h3 => .nx (sl.set j v) h3) D := P
  have hv : ∃ s v, σ[j]? = some (some v) ∧ RS en w v s ∧ fVar j sl h = .ok s h := by
    unfold fVar at P ⊢
    split at P
    · exact False.elim P
    · exact False.elim P
    · rename_i s hs hu
      rcases S.slots.2 j s hu with z | ⟨v, ev, r⟩
      · exact absurd z hs
      · refine ⟨s, v, ev, r, ?_⟩
        rfl
  obtain ⟨s, v, ev, r, e1⟩ := hv
  rw [e1] at P
  refine ⟨v, ev, en, w, sl, h, eK, S, Po.thn P fun t h2 u w2 H2 l2 S2 r2 P2 => ?_⟩
  generalize eg : gI (fun _ _ => true) (fun a b => PyData.int (k a b)) s t h2 = rg at P2
  unfold gI at eg
  split at eg
  · rename_i a b
    rw [if_pos rfl] at eg
    subst eg
    refine ⟨a, b, RS.int r, RS.int r2, ?_⟩
    exact P2 w2 _ H2 (Wd.le.refl _) (S2.set (show RS en w2 (.int (k a b)) (.d (.int (k a b))) from (show Rp en.K w2.F _ _ from Rp.int)) j)
  · subst eg; exact False.elim P2)
end
/-! ## a + b -/
def gCat : SV → SV → AH → R SV := fun s t h => match lstOf h s, lstOf h t with
  | some xs, some ys => if xs.length + ys.length < lim then .ok (.r h.length) (h ++ [some (.lst (xs ++ ys))]) else .st
  | _, _ => .st
theorem os_cat {X : Cx} : OpS X rCat gCat := by
  intro W en w σ H sl h x y s t Q eK S r1 r2 P
  unfold gCat at P
  split at P
  · rename_i xs ys hx hy
    split at P
    · rename_i hl
      obtain ⟨a, vs, rfl, qa, ra⟩ := lst_ok S.toSimH r1 hx
      obtain ⟨b, us, rfl, qb, rb'⟩ := lst_ok S.toSimH r2 hy
      exact ⟨a, b, vs, us, rfl, rfl, qa, qb, Nat.le_of_lt (by rw [RSL.length ra, RSL.length rb']; exact lim_line hl), fun p np => P _ (w.ow p) _ le_ow (S.newO np (RSL.app ra rb')) S.toSimH.rs_new⟩
    · exact False.elim P
  · exact False.elim P
def gCatT : SV → SV → AH → R SV := fun s t h => match s, t with
  | .d (.tuple (a :: xs)), .d (.tuple (b :: ys)) => if (a :: xs).length + (b :: ys).length < lim then .ok (.d (.tuple (a :: xs ++ b :: ys))) h else .st
  | _, _ => .st
def gCatS : SV → SV → AH → R SV := fun s t h => match s, t with
  | .d (.str a), .d (.str b) => if a.length + b.length < lim then .ok (.d (.str (a ++ b))) h else .st
  | _, _ => .st
theorem os_catS {X : Cx} : OpS X (fun x y H Q => ∃ i j, x = .str i ∧ y = .str j ∧ i.length + j.length ≤ sizeLine ∧ Q (.str (i ++ j)) H) gCatS := by
  intro W en w σ H sl h x y s t Q eK S r1 r2 P
  unfold gCatS at P
  split at P
  · split at P
    · rename_i hl
      exact ⟨_, _, RS.str r1, RS.str r2, Nat.le_of_lt (lim_line hl), P.str S⟩
    · exact False.elim P
  · exact False.elim P
/-- + of whole numbers, lists, texts -/
abbrev rPlus : R2 := fun x y H Q => rI0 (fun i j => .int (i + j)) x y H Q ∨ rCat x y H Q ∨ (∃ i j, x = .str i ∧ y = .str j ∧ i.length + j.length ≤ sizeLine ∧ Q (.str (i ++ j)) H)
def gAdd : SV → SV → AH → R SV := gOr (gI (fun _ _ => true) fun i j => .int (i + j)) (gOr gCat gCatS)
theorem op_plus {X : Cx} : OpR X (binaryOp .Add) rPlus := op_add.or (op_cat.or op_add_str)
theorem os_plus {X : Cx} : OpS X rPlus gAdd := os_or os_I0 (os_or os_cat os_catS)
end Zx

namespace Zx
open PySem PySem.Spec L2
open PyProof.Rows (envOfC)
/-! ## a def by its body -/
def intsD : List PyData → Option (List Int)
  | [] => some []
  | .int i :: r => (intsD r).map (i :: ·)
  | _ => none
theorem intsD_ok : ∀ ns : List Int, intsD (ns.map PyData.int) = some ns
  | [] => rfl
  | n :: ns => by
    show (intsD (ns.map PyData.int)).map (n :: ·) = some (n :: ns)
    rw [intsD_ok ns]; rfl
def argS : Md → PyData → SV
  | .fz, d => .d d
  | .vw, d => mkv d
  | .sc, .list ds => match intsD ds with
    | some ns => .sc ns
    | none => .un
  | .sc, _ => .un
def startS : List Md → List PyData → Nat → List SV
  | m :: ms, d :: ds, n + 1 => argS m d :: startS ms ds n
  | _, _, n => List.replicate n .un
/-- behind a call: what the answer does not hold is forgotten -/
def cl (s : SV) (h : AH) : AH := if below 0 s = true then [] else h
theorem cl_ok {en : En} {w : Wd} {F0 : Hp} {H : Hp} {h : AH} {s : SV} {v : V} (S : SimH en w H h) (le : (Wd.mk [] F0).le w) (r : RS en w v s) : ∃ w2, SimH en w2 H (cl s h) ∧ RS en w2 v s := by
  unfold cl
  by_cases c : below 0 s = true
  · rw [if_pos c]
    have := SimH.trim (w0 := ⟨[], F0⟩) S le rfl
    exact ⟨_, this.2, RS.cut r c⟩
  · rw [if_neg c]
    exact ⟨w, S, r⟩
def phi (ms : List Md) (n : Nat) (g : FS) : List PyData → R SV := fun ds => match g (startS ms ds n) [] with
  | .rt s h => .ok s (cl s h)
  | .nx _ h => .ok (.d .none) (cl (.d .none) h)
  | .rz c _ h => .rz c h
  | _ => .st
theorem argS_ok {en : En} {w : Wd} {H : Hp} {h : AH} (S : SimH en w H h) (eG : en.G = H) {v : V} {m : Md} {d : PyData} (a : ArgV en.K w.F H v m d) : RS en w v (argS m d) := by
  cases m with
  | fz => exact a
  | vw =>
    show RS en w v (mkv d)
    unfold mkv
    split
    · rename_i c
      exact Rp.immF (G := H) (Same.refl H) S.ti d v c a
    · exact (show Rp en.K en.G v d by rw [eG]; exact a)
  | sc =>
    obtain ⟨ns, rfl, q⟩ := a
    show RS en w v (match intsD (ns.map PyData.int) with | some ns => SV.sc ns | none => SV.un)
    rw [intsD_ok]
    exact (show RpS en.K en.G v ns by rw [eG]; exact q)
theorem start_ok {en : En} {w : Wd} {H : Hp} {h : AH} (S : SimH en w H h) (eG : en.G = H) : ∀ {ms : List Md} {vs : List V} {ds : List PyData} {n : Nat}, ms.length ≤ n → ArgOk en.K w.F H ms vs ds → Slt en w (vs.map some ++ List.replicate (n - vs.length) none) (startS ms ds n)
  | [], vs, ds, n, hn, ⟨h1, h2⟩ => by
    subst h1; subst h2
    unfold startS
    refine ⟨by simp, fun i s e => ?_⟩
    rw [List.getElem?_replicate] at e
    split at e
    · cases e; exact .inl rfl
    · cases e
  | m :: ms, vs, ds, 0, hn, _ => by simp at hn
  | m :: ms, vs, ds, n + 1, hn, ⟨v, vs', d, ds', h1, h2, a, q⟩ => by
    subst h1; subst h2
    have ih := start_ok S eG (n := n) (by simpa using hn) q
    unfold startS
    have e1 : (List.map some (v :: vs') ++ List.replicate (n + 1 - (v :: vs').length) none) = some v :: (List.map some vs' ++ List.replicate (n - vs'.length) none) := by
      rw [List.map_cons, List.cons_append, List.length_cons, Nat.add_sub_add_right]
    rw [e1]
    refine ⟨by rw [List.length_cons, List.length_cons, ih.1], fun i s e => ?_⟩
    cases i with
    | zero =>
      cases e
      exact .inr ⟨v, rfl, argS_ok S eG a⟩
    | succ i => exact ih.2 i s e
/-- a def's body computes g, in every frame -/
def DefOk (P : Program) (w : World) (K : PySem.W.Frag) (mg : Str → Option Value) (base : Heap) (N : List Str) (qual : Str) (st : Stmt) (k : Nat) (g : FS) : Prop :=
  ∀ (f : Addr) (cdv : Value) (A : Around) (outer : List Env) (s : Shared) (H : Hp) (E : XK) (W : WX), Room k (A.deeper (envOfC qual (defScope st) s.heap.objs.size f cdv)) → Takes (cxOf (L2.CX P w) P w K mg base N qual (defScope st) f cdv A outer s H E) W →
    PassesOwn (model P w) (A.deeper (envOfC qual (defScope st) s.heap.objs.size f cdv)) (envOfC qual (defScope st) s.heap.objs.size f cdv) (cxOf (L2.CX P w) P w K mg base N qual (defScope st) f cdv A outer s H E).xe →
    SSs (cxOf (L2.CX P w) P w K mg base N qual (defScope st) f cdv A outer s H E) W (defBody st) g
section
variable {P : Program} {w : World} {K : PySem.W.Frag} {mg : Str → Option Value} {base : Heap}
theorem fn_data {x qual : Str} {st : Stmt} {f : Addr} {fd : FuncData} {N ps : List Str} {k : Nat} {ms : List Md} {g : FS} (F : Fun K x qual st f fd) (S : FnScope N ps (defScope st)) (hms : ms.length = ps.length) (hb : DefOk P w K mg base N qual st k g) :
    FnOk P w K mg base (L2.CX P w) (k + 1) f fd ps (spD K mg ms (phi ms N.length g)) := by
  have hpl : ps.length ≤ N.length := by have := congrArg List.length S.pre; rw [List.length_take] at this; omega
  refine F.okX S (fun vs H Q E h => ?_) (fun cdv A outer s H vs Q E hr h => ?_)
  · obtain ⟨F0, ds, _, _, a, _⟩ := h
    exact a.len.1.trans hms
  · obtain ⟨F0, ds, sm, ti, a, q⟩ := h
    refine ⟨tS (cxOf (L2.CX P w) P w K mg base N qual (defScope st) f cdv A outer s H E) (fun cls d _ H => E cls d H) g, hb f cdv A outer s H E _ hr (takes_of rfl rfl rfl rfl) (passes_of rfl), ?_⟩
    have S0 : SimH ⟨K, H, F0, none⟩ ⟨[], F0⟩ H [] := ⟨Same.refl H, sm, Same.refl F0, fun a o e => .inl e, ti, rfl, fun n o e => by simp at e, fun n m a o1 o2 e => by simp at e⟩
    refine ⟨⟨K, H, F0, none⟩, ⟨[], F0⟩, startS ms ds N.length, [], ⟨rfl, hr.hd.symm⟩, ⟨S0, ?_⟩, ?_⟩
    · show Slt _ _ (L2.start N vs) _
      unfold L2.start
      exact start_ok S0 rfl (by rw [hms]; exact hpl) a
    · unfold phi at q
      generalize g (startS ms ds N.length) [] = o at q ⊢
      cases o with
      | nx sl h =>
        intro w' σ' H' l S'
        obtain ⟨w2, S2, r2⟩ := cl_ok (s := .d .none) (v := .non) S'.toSimH l RS.dnone
        exact q .non w2 H' S2 r2
      | rt s h =>
        intro w' H' v l S' r
        obtain ⟨w2, S2, r2⟩ := cl_ok S' l r
        exact q v w2 H' S2 r2
      | rz c sl h => exact fun w' σ' H' l S' u hu => q w' H' h S'.toSimH u hu
      | bk sl h => exact False.elim q
      | ct sl h => exact False.elim q
      | st => exact False.elim q
end
/-! ## isinstance(x, T), T a built-in type -/
def tyOf (h : AH) : SV → Option String
  | .d .none => some "NoneType"
  | .d (.bool _) => some "bool"
  | .d (.int _) => some "int"
  | .d (.str _) => some "str"
  | .d (.list _) => some "list"
  | .d (.tuple _) => some "tuple"
  | .vw (.list _) => some "list"
  | .vw (.tuple _) => some "tuple"
  | .r n => match h[n]? with
    | some (some (.lst _)) => some "list"
    | some (some (.tup _)) => some "tuple"
    | _ => none
  | _ => none
theorem tyT {K : PySem.W.Frag} {H : Hp} {a : Addr} {xs : List V} (q : SqT K H a xs) : TyX K H (.ref a) (.type "tuple") := by
  rcases q with (q | ⟨o, q⟩) | ⟨o, its, n, q, c, _⟩
  · exact .base (.tup q)
  · exact .fTuple q
  · exact .kTuple q c
theorem tyOf_ok {en : En} {w : Wd} {H : Hp} {h : AH} (S : SimH en w H h) {x : V} {s : SV} {t : String} (r : RS en w x s) (e : tyOf h s = some t) : TyX en.K H x (.type t) := by
  unfold tyOf at e
  split at e
  · cases e; cases RS.non r; exact .base .non
  · cases e; cases RS.bool r; exact .base (.bl _)
  · cases e; cases RS.int r; exact .base (.int _)
  · cases e; cases RS.str r; exact .base (.str _)
  · cases e
    have r : Rp en.K w.F x (.list _) := r
    unfold Rp at r
    obtain ⟨a, vs, rfl, q, l⟩ := r
    exact .base (.lst (S.fh _ _ q))
  · cases e
    have r : Rp en.K w.F x (.tuple _) := r
    unfold Rp at r
    obtain ⟨a, vs, rfl, q, l⟩ := r
    exact tyT (sqT_mono (S.fh a) q)
  · cases e
    have r : Rp en.K en.G x (.list _) := r
    unfold Rp at r
    obtain ⟨a, vs, rfl, q, l⟩ := r
    exact .base (.lst (S.gh _ _ q))
  · cases e
    have r : Rp en.K en.G x (.tuple _) := r
    unfold Rp at r
    obtain ⟨a, vs, rfl, q, l⟩ := r
    exact tyT (sqT_mono (S.gh a) q)
  · split at e
    · cases e
      rename_i n _ xs hx
      obtain ⟨a, e1, rfl⟩ := r
      obtain ⟨a', e2, ⟨vs, hv, rv⟩, _, _⟩ := S.live n _ hx
      have ea : a' = a := Option.some.inj (e2.symm.trans e1)
      subst ea
      exact .base (.lst hv)
    · cases e
      rename_i n _ xs hx
      obtain ⟨a, e1, rfl⟩ := r
      obtain ⟨a', e2, ⟨vs, hv, rv⟩, _, _⟩ := S.live n _ hx
      have ea : a' = a := Option.some.inj (e2.symm.trans e1)
      subst ea
      exact tyT (.inl (.inl hv))
    · cases e
  · cases e
/-- the built-in types that are asked for -/
def isTy (a b : String) : Option Bool :=
  if a = b then some true
  else if ["int", "bool", "list", "tuple", "str", "dict"].contains b && ["int", "bool", "list", "tuple", "str", "NoneType"].contains a then some (a == "bool" && b == "int")
  else none
theorem isTy_ok {a b : String} {r : Bool} (h : isTy a b = some r) : kitB a b = some r := by
  unfold isTy at h
  split at h
  · rename_i e
    cases h
    subst e
    unfold kitB
    rw [if_pos (by simp)]
  · split at h
    · rename_i ne c
      rw [Bool.and_eq_true] at c
      obtain ⟨c1, c2⟩ := c
      have c1 : b ∈ ["int", "bool", "list", "tuple", "str", "dict"] := List.contains_iff_mem.mp c1
      have c2 : a ∈ ["int", "bool", "list", "tuple", "str", "NoneType"] := List.contains_iff_mem.mp c2
      have all : ∀ x ∈ ["int", "bool", "list", "tuple", "str", "NoneType"], ∀ y ∈ ["int", "bool", "list", "tuple", "str", "dict"], x ≠ y → kitB x y = some (x == "bool" && y == "int") := by decide +kernel
      rw [← h]
      exact all a c2 b c1 ne
    · cases h
def fIsi (T : String) (fa : FE) : FE := fun sl h => (fa sl h).bind fun s h1 => match tyOf h1 s with
  | some t => match isTy t T with
    | some b => .ok (.d (.bool b)) h1
    | none => .st
  | none => .st
section
variable {X : Cx} {W : WX} {a : Expr} {fa : FE} {p p2 pos : Pos} {T : String} {x : Str}
theorem se_isi (hg : Gl X "isinstance") (hm : X.mg "isinstance" = none) (hv : bootBuiltins "isinstance" = some (.builtin "isinstance")) (hT : PE X (.Name x p2) (tC (.ty T))) (ha : SE X W a fa)
    (he : starEach [a, .Name x p2] X.env = (false, eval a X.env) :: starEach [.Name x p2] X.env := by rfl) (hs2 : starEach [.Name x p2] X.env = (false, eval (.Name x p2) X.env) :: starEach [] X.env := by rfl)
    (hpl : (backTo pos (starEach [.Name x p2] X.env)).any (·.1) = false := by rfl) : SE X W (.Call (.Name "isinstance" p) [a, .Name x p2] [] pos) (fIsi T fa) :=
  PE.imp (pe_callB call_isi hg hm hv (pa_cons ha (pa_cons hT pa_nil hs2) he) (by decide) (by decide) he hpl) (by
    rintro σ H Q ⟨en, w, sl, h, eK, S, P⟩
    refine ⟨en, w, sl, h, eK, S, Po.bind P fun s h1 v w1 H1 l1 S1 r1 P1 => ?_⟩
    split at P1
    · rename_i t ht
      split at P1
      · rename_i b hb
        refine ⟨v, .ty T, .type t, .type T, b, rfl, .ty T, ?_, kit_ty (isTy_ok hb), P1.bool S1⟩
        rw [← eK.1]
        exact tyOf_ok S1.toSimH r1 ht
      · exact False.elim P1
    · exact False.elim P1)
end
end Zx

namespace Zx
open PySem PySem.Spec L2
/-! ## the operators by name -/
def gSub : SV → SV → AH → R SV := gI (fun _ _ => true) fun i j => .int (i - j)
def mulB (i j : Int) : Bool := decide (i.natAbs.log2 + j.natAbs.log2 < 1000000)
def divB (_ j : Int) : Bool := decide (0 < j ∧ j.natAbs.log2 < 9000)
def modB (_ j : Int) : Bool := decide (0 < j)
def powB (i j : Int) : Bool := decide (0 ≤ j ∧ j ≤ 1000000 ∧ i.natAbs < 2 ^ 64)
def gMul : SV → SV → AH → R SV := gI mulB fun i j => .int (i * j)
def gDiv : SV → SV → AH → R SV := gI divB fun i j => .int (i / j)
def gMod : SV → SV → AH → R SV := gI modB fun i j => .int (i % j)
def gPow : SV → SV → AH → R SV := gI powB fun i j => .int (i ^ j.toNat)
def gLt : SV → SV → AH → R SV := gI (fun _ _ => true) fun i j => .bool (decide (i < j))
def gLe : SV → SV → AH → R SV := gI (fun _ _ => true) fun i j => .bool (decide (i ≤ j))
def gGt : SV → SV → AH → R SV := gI (fun _ _ => true) fun i j => .bool (decide (j < i))
def gGe : SV → SV → AH → R SV := gI (fun _ _ => true) fun i j => .bool (decide (j ≤ i))
def iAdd (a b : Int) : Int := a + b
def iSub (a b : Int) : Int := a - b
def gAbs : List SV → AH → R SV := gI1 fun i => if i < 0 then -i else i
def gMin2 : List SV → AH → R SV := gI2 fun i j => if j < i then j else i
def gMax2 : List SV → AH → R SV := gI2 fun i j => if j > i then j else i
section
variable {X : Cx} {W : WX}
theorem os_mul : OpS X (rI CMulW fun i j => .int (i * j)) gMul := os_I fun i j h => by unfold mulB at h; exact (of_decide_eq_true h : i.natAbs.log2 + j.natAbs.log2 < 1000000)
theorem os_div : OpS X (rI CDivW fun i j => .int (i / j)) gDiv := os_I fun i j h => by unfold divB at h; exact (of_decide_eq_true h : 0 < j ∧ j.natAbs.log2 < 9000)
theorem os_mod : OpS X (rI (fun _ j => 0 < j) fun i j => .int (i % j)) gMod := os_I fun i j h => by unfold modB at h; exact (of_decide_eq_true h : 0 < j)
theorem os_pow : OpS X (rI CPow fun i j => .int (i ^ j.toNat)) gPow := os_I fun i j h => by unfold powB at h; exact (of_decide_eq_true h : 0 ≤ j ∧ j ≤ 1000000 ∧ i.natAbs < 2 ^ 64)
def gNeg : SV → AH → R SV := fun s h => match s with
  | .d (.int i) => .ok (.d (.int (-i))) h
  | _ => .st
theorem us_neg : UnS X (rU fun i => .int (-i)) gNeg := by
  intro W en w σ H sl h x s Q eK S r P
  unfold gNeg at P
  split at P
  · exact ⟨_, RS.int r, P.int S⟩
  · exact False.elim P
/-- x is None -/
def isNon : SV → Option Bool
  | .d .none => some true
  | .d _ => some false
  | .vw .none => some true
  | .vw _ => some false
  | .r _ => some false
  | .sc _ => some false
  | .ex _ => some false
  | .un => none
theorem Rp.isnon {K : PySem.W.Frag} {F : Hp} : ∀ {d : PyData} {v : V}, Rp K F v d → d ≠ .none → v ≠ .non
  | .none, v, r, n => absurd rfl n
  | .bool b, v, r, n => by unfold Rp at r; subst r; exact fun z => by cases z
  | .int b, v, r, n => by unfold Rp at r; subst r; exact fun z => by cases z
  | .str b, v, r, n => by unfold Rp at r; subst r; exact fun z => by cases z
  | .list b, v, r, n => by unfold Rp at r; obtain ⟨a, xs, e, _⟩ := r; subst e; exact fun z => by cases z
  | .tuple b, v, r, n => by unfold Rp at r; obtain ⟨a, xs, e, _⟩ := r; subst e; exact fun z => by cases z
  | .dict b, v, r, n => by unfold Rp at r; obtain ⟨a, xs, e, _⟩ := r; subst e; exact fun z => by cases z
theorem isNon_ok {en : En} {w : Wd} {v : V} {s : SV} {b : Bool} (r : RS en w v s) (e : isNon s = some b) : decide (v = .non) = b := by
  have no : ∀ {K F d}, Rp K F v d → d ≠ .none → decide (v = .non) = false := fun r n => decide_eq_false (Rp.isnon r n)
  unfold isNon at e
  split at e
  · cases e; cases RS.non r; exact decide_eq_true rfl
  · rename_i d hd; cases e; exact no (show Rp en.K w.F v d from r) hd
  · cases e
    have r : Rp en.K en.G v .none := r
    unfold Rp at r
    subst r
    exact decide_eq_true rfl
  · rename_i d hd; cases e; exact no (show Rp en.K en.G v d from r) hd
  · cases e; obtain ⟨a, _, rfl⟩ := r; exact decide_eq_false (fun z => by cases z)
  · cases e; obtain ⟨a, rfl, _⟩ := r; exact decide_eq_false (fun z => by cases z)
  · cases e; obtain ⟨a, rfl, _⟩ := r; exact decide_eq_false (fun z => by cases z)
  · cases e
def gIsN : SV → SV → AH → R SV := fun s t h => match t with
  | .d .none => match isNon s with
    | some b => .ok (.d (.bool b)) h
    | none => .st
  | _ => .st
def gNotN : SV → SV → AH → R SV := fun s t h => match t with
  | .d .none => match isNon s with
    | some b => .ok (.d (.bool (!b))) h
    | none => .st
  | _ => .st
theorem os_isN : OpS X (fun x y H Q => y = .non ∧ Q (.bl (decide (x = .non))) H) gIsN := by
  intro W en w σ H sl h x y s t Q eK S r1 r2 P
  unfold gIsN at P
  split at P
  · split at P
    · rename_i b hb
      refine ⟨RS.non r2, ?_⟩
      rw [isNon_ok r1 hb]
      exact P.bool S
    · exact False.elim P
  · exact False.elim P
theorem os_notN : OpS X (fun x y H Q => y = .non ∧ Q (.bl (!decide (x = .non))) H) gNotN := by
  intro W en w σ H sl h x y s t Q eK S r1 r2 P
  unfold gNotN at P
  split at P
  · split at P
    · rename_i b hb
      refine ⟨RS.non r2, ?_⟩
      rw [isNon_ok r1 hb]
      exact P.bool S
    · exact False.elim P
  · exact False.elim P
/-! ## x in xs, flat things -/
def flatD : SV → Option V
  | .d .none => some .non
  | .d (.bool b) => some (.bl b)
  | .d (.int i) => some (.int i)
  | .d (.str x) => some (.str x)
  | _ => none
def flatL : List SV → Option (List V)
  | [] => some []
  | s :: ss => match flatD s with
    | some v => match flatL ss with
      | some vs => some (v :: vs)
      | none => none
    | none => none
theorem flatD_ok {en : En} {w : Wd} {v u : V} {s : SV} (r : RS en w v s) (e : flatD s = some u) : v = u ∧ flatV u = true := by
  unfold flatD at e
  split at e
  · cases e; exact ⟨RS.non r, rfl⟩
  · cases e; exact ⟨RS.bool r, rfl⟩
  · cases e; exact ⟨RS.int r, rfl⟩
  · cases e; exact ⟨RS.str r, rfl⟩
  · cases e
theorem flatL_ok {en : En} {w : Wd} : ∀ {ss : List SV} {vs us : List V}, RSL en w vs ss → flatL ss = some us → vs = us ∧ us.all flatV = true
  | [], vs, us, r, e => by unfold flatL at e; cases e; exact ⟨r, rfl⟩
  | s :: ss, vs, us, ⟨x, q, e1, a, b⟩, e => by
    unfold flatL at e
    cases k : flatD s with
    | none => rw [k] at e; cases e
    | some v =>
      rw [k] at e
      cases k2 : flatL ss with
      | none => rw [k2] at e; cases e
      | some u2 =>
        rw [k2] at e
        cases e
        obtain ⟨h1, h2⟩ := flatD_ok a k
        obtain ⟨h3, h4⟩ := flatL_ok b k2
        exact ⟨by rw [e1, h1, h3], by rw [List.all_cons, h2, h4]; rfl⟩
def gIn (neg : Bool) : SV → SV → AH → R SV := fun s t h => match flatD s with
  | some v => match itemsOf h t with
    | some xs => match flatL xs with
      | some vs => .ok (.d (.bool (if neg then !inV v vs else inV v vs))) h
      | none => .st
    | none => .st
  | none => .st
theorem os_inN (neg : Bool) : OpS X (rIn X.K neg) (gIn neg) := by
  intro W en w σ H sl h x y s t Q eK S r1 r2 P
  unfold gIn at P
  split at P
  · rename_i v hv
    split at P
    · rename_i xs hx
      split at P
      · rename_i vs hvs
        obtain ⟨rfl, f1⟩ := flatD_ok r1 hv
        obtain ⟨a, us, rfl, q, rl⟩ := items_ok S.toSimH r2 hx
        obtain ⟨rfl, f2⟩ := flatL_ok rl hvs
        rw [eK.1] at q
        exact ⟨a, us, rfl, q, f1, f2, P.bool S⟩
      · exact False.elim P
    · exact False.elim P
  · exact False.elim P
theorem os_in : OpS X (rIn X.K false) (gIn false) := os_inN false
theorem os_notIn : OpS X (rIn X.K true) (gIn true) := os_inN true
/-! ## slices -/
def tO (X : Cx) (W : WX) (f : List SV → AH → R (Option Int)) : TO := fun σ H Q => ∃ en w sl h, en.ok X ∧ Sim en w σ H sl h ∧ Po (fun _ _ (b a : Option Int) => b = a) X W en w σ sl (f sl h) Q
abbrev SO (X : Cx) (W : WX) (e : Option Expr) (f : List SV → AH → R (Option Int)) : Prop := PO X e (tO X W f)
theorem PO.imp {X : Cx} {e : Option Expr} {t t' : TO} (h : PO X e t) (k : ∀ σ H Q, t' σ H Q → t σ H Q) : PO X e t' := by
  obtain ⟨r⟩ := h
  constructor
  intros
  apply r
  · assumption
  · apply k
    assumption
def oNo : List SV → AH → R (Option Int) := fun _ h => .ok none h
def oSome (f : FE) : List SV → AH → R (Option Int) := fun sl h => (f sl h).bind fun s h1 => match s with
  | .d (.int i) => .ok (some i) h1
  | _ => .st
theorem so_none : SO X W none oNo := PO.imp po_none (by
  rintro σ H Q ⟨en, w, sl, h, eK, S, P⟩
  exact P none w H (Wd.le.refl _) S rfl)
variable {e a b : Expr} {fe fa fb : FE} {pos p p2 : Pos}
theorem so_some (h : SE X W e fe) : SO X W (some e) (oSome fe) := PO.imp (po_some h) (by
  rintro σ H Q ⟨en, w, sl, h, eK, S, P⟩
  refine ⟨en, w, sl, h, eK, S, Po.bind P fun s h1 v w1 H1 l1 S1 r1 P1 => ?_⟩
  split at P1
  · rename_i i
    exact ⟨i, RS.int r1, P1 (some i) w1 H1 (Wd.le.refl _) S1 rfl⟩
  · exact False.elim P1)
def cutX {α : Type} (xs : List α) (lo hi : Option Int) : List α := (xs.drop (HT.sIx xs.length 0 lo)).take (HT.sIx xs.length xs.length hi - HT.sIx xs.length 0 lo)
theorem RSL.take {en : En} {w : Wd} : ∀ {ss : List SV} {vs : List V} (n : Nat), RSL en w vs ss → RSL en w (vs.take n) (ss.take n)
  | [], vs, n, r => by have r : vs = [] := r; subst r; simp; exact rfl
  | s :: ss, vs, 0, r => by simp; exact rfl
  | s :: ss, vs, n + 1, ⟨x, q, e, a, b⟩ => by subst e; exact ⟨x, q.take n, rfl, a, RSL.take n b⟩
theorem RSL.drop {en : En} {w : Wd} : ∀ {ss : List SV} {vs : List V} (n : Nat), RSL en w vs ss → RSL en w (vs.drop n) (ss.drop n)
  | [], vs, n, r => by have r : vs = [] := r; subst r; simp; exact rfl
  | s :: ss, vs, 0, r => r
  | s :: ss, vs, n + 1, ⟨x, q, e, a, b⟩ => by subst e; exact RSL.drop n b
theorem RSL.cutX {en : En} {w : Wd} {ss : List SV} {vs : List V} (lo hi : Option Int) (r : RSL en w vs ss) : RSL en w (cutV vs lo hi) (Zx.cutX ss lo hi) := by
  unfold cutV Zx.cutX
  rw [RSL.length r]
  exact RSL.take _ (RSL.drop _ r)
/-- xs[a:b] of a list: a new owned list -/
def fSlice (fe : FE) (fl fh : List SV → AH → R (Option Int)) : FE := fun sl h => (fe sl h).bind fun s h1 => (fl sl h1).bind fun lo h2 => (fh sl h2).bind fun hi h3 => match lstOf h3 s with
  | some xs => .ok (.r h3.length) (h3 ++ [some (.lst (cutX xs lo hi))])
  | none => .st
theorem se_slice {lo hi : Option Expr} {fl fh : List SV → AH → R (Option Int)} (he : SE X W e fe) (hl : SO X W lo fl) (hu : SO X W hi fh) : SE X W (.Subscript e (.Slice lo hi none p2) pos) (fSlice fe fl fh) := PE.imp (pe_slice sl_list he hl hu) (by
  rintro σ H Q ⟨en, w, sl, h, eK, S, P⟩
  refine ⟨en, w, sl, h, eK, S, Po.bind P fun s h1 v w1 H1 l1 S1 r1 P1 => ?_⟩
  refine ⟨en, w1, sl, h1, eK, S1, Po.bind P1 fun lo h2 lo' w2 H2 l2 S2 r2 P2 => ?_⟩
  refine ⟨en, w2, sl, h2, eK, S2, Po.bind P2 fun hi h3 hi' w3 H3 l3 S3 r3 P3 => ?_⟩
  have r2 : lo' = lo := r2
  have r3 : hi' = hi := r3
  subst r2; subst r3
  split at P3
  · rename_i xs hx
    obtain ⟨a, vs, rfl, q, rl⟩ := lst_ok S3.toSimH (RS.mono (l2.trans l3) r1) hx
    exact ⟨a, vs, rfl, .of q, fun p np => P3 _ (w3.ow p) _ le_ow (S3.newO np (RSL.cutX lo' hi' rl)) S3.toSimH.rs_new⟩
  · exact False.elim P3)
/-! ## a, b = x, y -/
def sPar (i j : Nat) (fa : FA) : FS := fun sl h => (fa sl h).thn sl fun ss h1 => match ss with
  | [s, t] => .nx ((sl.set i s).set j t) h1
  | _ => .st
theorem ss_par {i j : Nat} {x y : Str} {fa : FA} {px py pt : Pos} {kt k2 : Nat} {pt2 : Pos} (h : PS X (.Assign [.Tuple [.Name x px, .Name y py] kt pt] (.Tuple [a, b] k2 pt2) pos) (tPar i j (tA X W fa))) : SS X W (.Assign [.Tuple [.Name x px, .Name y py] kt pt] (.Tuple [a, b] k2 pt2) pos) (sPar i j fa) := PS.imp h (by
  rintro D σ H ⟨en, w, sl, h, eK, S, P⟩
  refine ⟨en, w, sl, h, eK, S, Po.thn P fun ss h1 vs w1 H1 l1 S1 r1 P1 => ?_⟩
  split at P1
  · obtain ⟨v, u, rfl, r2, r3⟩ := r1.two
    exact ⟨v, u, rfl, P1 w1 _ H1 (Wd.le.refl _) ((S1.set r2 i).set r3 j)⟩
  · exact False.elim P1)
/-! ## iteration backwards, sign by sign -/
end
/-! ## calls by the callee's facts -/
structure Cal (P : Program) (w : World) (K : PySem.W.Frag) (mg : Str → Option Value) (base : Heap) (x : Str) (k : Nat) (ms : List Md) (φ : List PyData → R SV) : Prop where
  ex : ∃ f fd ps, FnOk P w K mg base (L2.CX P w) k f fd ps (spD K mg ms φ) ∧ mg x = some (.ref f) ∧ PySem.W.keepIn K (.ref f) = true ∧ Binds K fd ps []
theorem Cal.mk' {P : Program} {w : World} {K : PySem.W.Frag} {mg : Str → Option Value} {base : Heap} {x : Str} {k : Nat} {ms : List Md} {φ : List PyData → R SV} {f : Addr} {fd : FuncData} {ps : List Str}
    (h : FnOk P w K mg base (L2.CX P w) k f fd ps (spD K mg ms φ)) (hm : mg x = some (.ref f)) (hk : PySem.W.keepIn K (.ref f) = true) (hb : Binds K fd ps []) : Cal P w K mg base x k ms φ := ⟨f, fd, ps, h, hm, hk, hb⟩
theorem se_callC {X : Cx} {W : WX} {a : Expr} {es : List Expr} {fa : FA} {pos p : Pos} {x : Str} {k : Nat} {ms : List Md} {φ : List PyData → R SV} (c : Cal X.prog X.w X.K X.mg X.base x k ms φ) (hr : Room k X.A) (hg : Gl X x) (tk : Takes X W)
    (ha : SA X W (a :: es) fa) (hdb : (x == ("__debug__" : Str)) = false := by decide) (he : starEach (a :: es) X.env = (false, eval a X.env) :: starEach es X.env := by rfl) (hpl : (backTo pos (starEach es X.env)).any (·.1) = false := by rfl) :
    SE X W (.Call (.Name x p) (a :: es) [] pos) (fCall ms φ fa) := by
  obtain ⟨f, fd, ps, F, hm, hk, hb⟩ := c.ex
  exact se_call F hr hg hm hk hb tk ha hdb he hpl
/-! ## the law -/
def spLaw (K : PySem.W.Frag) : Sp := fun vs H Q _ => ∃ (a : Addr) (ns : List Int), vs = [.ref a] ∧ SqL K H a (ns.map V.int) ∧ ns.length ≤ 63 ∧ ∀ H', Q (.bl true) H'
theorem law_fn {P : Program} {w : World} {K : PySem.W.Frag} {mg : Str → Option Value} {base : Heap} {k : Nat} {f : Addr} {fd : FuncData} {ps : List Str} {φ : List PyData → R SV}
    (h : FnOk P w K mg base (L2.CX P w) k f fd ps (spD K mg [.sc] φ)) (ok : ∀ ns : List Int, ns.length ≤ 63 → ∃ h, φ [.list (ns.map PyData.int)] = .ok (.d (.bool true)) h) : FnOk P w K mg base (L2.CX P w) k f fd ps (spLaw K) :=
  h.imp fun vs H Q E q => by
    obtain ⟨a, ns, rfl, hS, hl, q⟩ := q
    obtain ⟨hh, e⟩ := ok ns hl
    refine ⟨H, [.list (ns.map PyData.int)], Same.refl H, ⟨fun _ _ z => z, fun _ _ _ z => z⟩, ⟨.ref a, [], _, [], rfl, rfl, ⟨ns, rfl, a, rfl, hS⟩, rfl, rfl⟩, ?_⟩
    rw [e]
    intro v w H' S r
    cases RS.bool r
    exact q H'
theorem spLaw_start {KK : World → PySem.W.Frag} : ∀ (w : World) (H : Hp) (a : Addr) (ns : List Int), ns.length ≤ 63 → Only H → SqL (KK w) H a (ns.map V.int) → spLaw (KK w) [.ref a] H (fun v _ => v = .bl true) fun _ _ _ => False :=
  fun _ _ a ns hl _ hS => ⟨a, ns, rfl, hS, hl, fun _ => rfl⟩
theorem cx_none {P : Program} {w : World} {H : Hp} {s : Shared} {e : Value} {s' : Shared} (h : L2.CX P w [] H s (fun _ _ _ => False) e s') : False := by
  obtain ⟨_, _, _, _, _, _, _, _, _, _, _, _, z⟩ := h
  exact z
end Zx

namespace Zx
open PySem PySem.Spec L2
/-! ## reckoning with the pure machine: each step by an equation at its arguments -/
def O.seq (o : O) (b : FS) : O := match o with
  | .nx sl h => b sl h
  | o => o
def pick (o : Option SV) (h : AH) : R SV := match o with
  | none => .st
  | some .un => .st
  | some s => .ok s h
def O.fin (o : O) : R SV := match o with
  | .rt s h => .ok s (cl s h)
  | .nx _ h => .ok (.d .none) (cl (.d .none) h)
  | .rz c _ h => .rz c h
  | _ => .st
def opt {α β : Type} (o : Option α) (k : α → β) (d : β) : β := match o with
  | some a => k a
  | none => d
section
variable {α β : Type} {a b : FS} {fa fb fc : FE} {ta tb : FT} {fl fr : FA} {sl sl' : List SV} {h h' h1 : AH} {s t v : SV} {x : PyData} {i j : Int} {n : Nat} {c : Str} {k : α → AH → R β} {ko : α → AH → O} {g g' : SV → SV → AH → R SV} {gu : SV → AH → R SV} {gs : List SV → AH → R SV} {bd : Bd} {fi : List SV → AH → R Src}
theorem q_nx : (O.nx sl h).seq b = b sl h := (rfl)
theorem q_rt : (O.rt s h).seq b = .rt s h := (rfl)
theorem q_bk : (O.bk sl h).seq b = .bk sl h := (rfl)
theorem q_ct : (O.ct sl h).seq b = .ct sl h := (rfl)
theorem q_rz : (O.rz c sl h).seq b = .rz c sl h := (rfl)
theorem q_st : O.st.seq b = .st := (rfl)
theorem f_nx : (O.nx sl h).fin = .ok (.d .none) (cl (.d .none) h) := (rfl)
theorem f_rt : (O.rt s h).fin = .ok s (cl s h) := (rfl)
theorem f_rz : (O.rz c sl h).fin = .rz c h := (rfl)
theorem f_st : O.st.fin = .st := (rfl)
theorem b_ok {a : α} : (R.ok a h).bind k = k a h := (rfl)
theorem b_rz : (R.rz c h : R α).bind k = .rz c h := (rfl)
theorem b_st : (R.st : R α).bind k = .st := (rfl)
theorem t_ok {a : α} : (R.ok a h).thn sl ko = ko a h := (rfl)
theorem t_rz : (R.rz c h : R α).thn sl ko = .rz c sl h := (rfl)
theorem t_st : (R.st : R α).thn sl ko = .st := (rfl)
theorem o_some {a : α} {k : α → β} {d : β} : opt (some a) k d = k a := (rfl)
theorem o_none {k : α → β} {d : β} : opt none k d = d := (rfl)
theorem a_seq : sSeq a b sl h = (a sl h).seq b := (rfl)
theorem a_set : sSet n fa sl h = (fa sl h).thn sl fun s h1 => .nx (sl.set n s) h1 := (rfl)
theorem a_if : sIf ta a b sl h = (ta sl h).thn sl fun k h1 => if k = true then a sl h1 else b sl h1 := (rfl)
theorem a_expr : sExpr fa sl h = (fa sl h).thn sl fun _ h1 => .nx sl h1 := (rfl)
theorem a_ret : sRet fa sl h = (fa sl h).thn sl fun s h1 => .rt s h1 := (rfl)
theorem a_retN : sRetN sl h = .rt (.d .none) h := (rfl)
theorem a_next : sNext sl h = .nx sl h := (rfl)
theorem a_break : sBreak sl h = .bk sl h := (rfl)
theorem a_cont : sCont sl h = .ct sl h := (rfl)
theorem a_raise : sRaise c sl h = .rz c sl h := (rfl)
theorem a_var : fVar n sl h = pick sl[n]? h := (by unfold fVar pick; rfl)
theorem p_d : pick (some (.d x)) h = .ok (.d x) h := (rfl)
theorem p_vw : pick (some (.vw x)) h = .ok (.vw x) h := (rfl)
theorem p_r : pick (some (.r n)) h = .ok (.r n) h := (rfl)
theorem p_sc {ns : List Int} : pick (some (.sc ns)) h = .ok (.sc ns) h := (rfl)
theorem p_ex : pick (some (.ex c)) h = .ok (.ex c) h := (rfl)
theorem p_mkv : pick (some (mkv x)) h = .ok (mkv x) h := by unfold mkv; split <;> rfl
theorem a_c : fC x sl h = .ok (.d x) h := (rfl)
theorem a_bin : fBin g fa fb sl h = (fa sl h).bind fun x h1 => (fb sl h1).bind fun y h2 => g x y h2 := (rfl)
theorem a_un : fUn gu fa sl h = (fa sl h).bind fun x h1 => gu x h1 := (rfl)
def tst (s : SV) (h : AH) : R Bool := match s with
  | .d (.bool b) => .ok b h
  | _ => .st
theorem a_tst : fTst fa sl h = (fa sl h).bind tst := (rfl)
theorem tst_b {b : Bool} : tst (.d (.bool b)) h = .ok b h := (rfl)
theorem a_andT : fAndT ta tb sl h = (ta sl h).bind fun k h1 => if k = true then tb sl h1 else .ok false h1 := (rfl)
theorem a_orT : fOrT ta tb sl h = (ta sl h).bind fun k h1 => if k = true then .ok true h1 else tb sl h1 := (rfl)
theorem a_notT : fNotT ta sl h = (ta sl h).bind fun k h1 => .ok (!k) h1 := (rfl)
theorem tst_cases {β : Type} (s : SV) (h : AH) (P : R β → R β → Prop) (kt kf : R β) (hb : ∀ b, s = .d (.bool b) → P (match b with | true => kt | false => kf) (if b = true then kt else kf)) : True := trivial
theorem a_andV : fAndV fa fb sl h = (fa sl h).bind fun s h1 => (tst s h1).bind fun k h2 => if k = true then fb sl h2 else .ok (.d (.bool false)) h2 := by
  unfold fAndV
  congr 1
  funext s h1
  cases s with
  | d x => cases x with
    | bool b => cases b <;> rfl
    | none => rfl
    | int i => rfl
    | str i => rfl
    | list i => rfl
    | tuple i => rfl
    | dict i => rfl
  | un => rfl
  | vw x => rfl
  | r x => rfl
  | sc x => rfl
  | ex x => rfl
theorem a_orV : fOrV fa fb sl h = (fa sl h).bind fun s h1 => (tst s h1).bind fun k h2 => if k = true then .ok (.d (.bool true)) h2 else fb sl h2 := by
  unfold fOrV
  congr 1
  funext s h1
  cases s with
  | d x => cases x with
    | bool b => cases b <;> rfl
    | none => rfl
    | int i => rfl
    | str i => rfl
    | list i => rfl
    | tuple i => rfl
    | dict i => rfl
  | un => rfl
  | vw x => rfl
  | r x => rfl
  | sc x => rfl
  | ex x => rfl
theorem a_notV : fNotV fa sl h = (fa sl h).bind fun s h1 => (tst s h1).bind fun k h2 => .ok (.d (.bool (!k))) h2 := by
  unfold fNotV
  congr 1
  funext s h1
  cases s with
  | d x => cases x <;> rfl
  | un => rfl
  | vw x => rfl
  | r x => rfl
  | sc x => rfl
  | ex x => rfl
theorem a_chain : fChain g g' fa fb fc sl h = (fa sl h).bind fun x h1 => (fb sl h1).bind fun y h2 => (g x y h2).bind fun z h3 => (tst z h3).bind fun k h4 => if k = true then (fc sl h4).bind fun u h5 => g' y u h5 else .ok (.d (.bool false)) h4 := by
  unfold fChain
  congr 1
  funext x h1
  congr 1
  funext y h2
  congr 1
  funext s h3
  cases s with
  | d x => cases x with
    | bool b => cases b <;> rfl
    | none => rfl
    | int i => rfl
    | str i => rfl
    | list i => rfl
    | tuple i => rfl
    | dict i => rfl
  | un => rfl
  | vw x => rfl
  | r x => rfl
  | sc x => rfl
  | ex x => rfl
theorem a_if' : fIf ta fa fb sl h = (ta sl h).bind fun k h1 => if k = true then fa sl h1 else fb sl h1 := (rfl)
theorem a_nil : fNil sl h = .ok [] h := (rfl)
theorem a_cons : fCons fa fr sl h = (fa sl h).bind fun s h1 => (fr sl h1).bind fun ss h2 => .ok (s :: ss) h2 := (rfl)
theorem a_lst : fLst fr sl h = (fr sl h).bind fun ss h1 => if ss.length ≤ 1000 then .ok (.r h1.length) (h1 ++ [some (.lst ss)]) else .st := (rfl)
theorem a_tup : fTup fr sl h = (fr sl h).bind fun ss h1 => opt (allD ss) (fun ds => if ds.length ≤ 1000 then .ok (.d (.tuple ds)) h1 else .st) .st := by
  unfold fTup opt
  congr 1
  funext ss h1
  cases allD ss <;> rfl
theorem a_fz : fFz fa sl h = (fa sl h).bind fun s h1 => opt (fzv 9 h1 s) (fun p => .ok (.d p.1) (trimE h.length sl p.2)) .st := by
  unfold fFz opt
  congr 1
  funext s h1
  cases fzv 9 h1 s <;> rfl
theorem a_cb : fCB gs fr sl h = (fr sl h).bind fun ss h1 => gs ss h1 := (rfl)
def back (L : Nat) (h : AH) (r : R SV) : R SV := match r with
  | .ok s hn => .ok (shv L s) (h ++ shh L hn)
  | .rz c _ => .rz c h
  | .st => .st
theorem back_ok {L : Nat} {hn : AH} : back L h (.ok s hn) = .ok (shv L s) (h ++ shh L hn) := (rfl)
theorem back_d {L : Nat} : back L h (.ok (.d x) []) = .ok (.d x) h := by unfold back shh; simp [shv]
theorem back_rz {L : Nat} {hn : AH} : back L h (.rz c hn) = .rz c h := (rfl)
theorem back_st {L : Nat} : back L h .st = .st := (rfl)
theorem a_call {ms : List Md} {φ : List PyData → R SV} : fCall ms φ fr sl h = (fr sl h).bind fun ss h1 => opt (argsD h1 ms ss) (fun ds => back h1.length h1 (φ ds)) .st := by
  unfold fCall opt back
  congr 1
  funext ss h1
  cases argsD h1 ms ss with
  | none => rfl
  | some ds =>
    first
      | rfl
      | (dsimp only
         generalize φ ds = r
         cases r <;> rfl)
theorem g_nil : argsD h [] [] = some [] := (rfl)
theorem g_cons {m : Md} {ms : List Md} {ss : List SV} : argsD h (m :: ms) (s :: ss) = opt (argD h m s) (fun d => opt (argsD h ms ss) (fun ds => some (d :: ds)) none) none := by
  unfold opt
  conv => lhs; unfold argsD
  cases argD h m s with
  | none => rfl
  | some d => cases argsD h ms ss <;> rfl
theorem g_fz : argD h .fz (.d x) = some x := (rfl)
theorem g_sc {ns : List Int} : argD h .sc (.sc ns) = some (.list (ns.map PyData.int)) := (rfl)
theorem g_vw : argD h .vw s = rb h 9 s := by unfold argD; cases s <;> rfl
theorem a_isi {T : String} : fIsi T fa sl h = (fa sl h).bind fun s h1 => opt (tyOf h1 s) (fun t => opt (isTy t T) (fun b => .ok (.d (.bool b)) h1) .st) .st := by
  unfold fIsi opt
  congr 1
  funext ss h1
  cases tyOf h1 ss with
  | none => rfl
  | some t =>
    dsimp only
    generalize isTy t T = r
    cases r <;> rfl
theorem a_bm {kd : AH → SV → Bool} {gm : SV → List SV → AH → R SV} : fBM kd gm fa fr sl h = (fa sl h).bind fun s h1 => if kd h1 s = true then (fr sl h1).bind fun ss h2 => gm s ss h2 else .st := (rfl)
/-! what is walked -/
def seqI (s : SV) (h : AH) : R Src := match s with
  | .d (.list ds) => .ok (.cn (ds.map fun x => .one (.d x))) h
  | .vw (.list ds) => .ok (.cn (ds.map fun x => .one (mkv x))) h
  | .r n => match h[n]? with
    | some (some (.lst _)) => .ok (.ow n) h
    | _ => .st
  | _ => .st
theorem a_iseq : iSeq fa sl h = (fa sl h).bind seqI := (rfl)
theorem s_d {ds : List PyData} : seqI (.d (.list ds)) h = .ok (.cn (ds.map fun x => .one (.d x))) h := (rfl)
theorem s_vw {ds : List PyData} : seqI (.vw (.list ds)) h = .ok (.cn (ds.map fun x => .one (mkv x))) h := (rfl)
theorem s_r {xs : List SV} (e : h[n]? = some (some (.lst xs))) : seqI (.r n) h = .ok (.ow n) h := by simp only [seqI, e]
def tupI (s : SV) (h : AH) : R Src := match s with
  | .d (.tuple ds) => .ok (.cn (ds.map fun x => .one (.d x))) h
  | .vw (.tuple ds) => .ok (.cn (ds.map fun x => .one (mkv x))) h
  | _ => .st
theorem a_itup : iTupl fa sl h = (fa sl h).bind tupI := (rfl)
theorem u_d {ds : List PyData} : tupI (.d (.tuple ds)) h = .ok (.cn (ds.map fun x => .one (.d x))) h := (rfl)
theorem u_vw {ds : List PyData} : tupI (.vw (.tuple ds)) h = .ok (.cn (ds.map fun x => .one (mkv x))) h := (rfl)
def rng1 (ss : List SV) (h : AH) : R Src := match ss with
  | [.d (.int j)] => if inB j then .ok (.cn (rngI 0 j.toNat)) h else .st
  | _ => .st
def rng2 (ss : List SV) (h : AH) : R Src := match ss with
  | [.d (.int i), .d (.int j)] => if (inB i && inB j) = true then .ok (.cn (rngI i (j - i).toNat)) h else .st
  | _ => .st
theorem inB_lt {i : Int} (h0 : -1000000000 ≤ i) (h1 : i ≤ 1000000000) : inB i = true := by
  unfold inB
  exact decide_eq_true ⟨h0, h1⟩
theorem a_irng : iRng fr sl h = (fr sl h).bind rng1 := (rfl)
theorem r1_ok (h0 : -1000000000 ≤ j) (h1 : j ≤ 1000000000) : rng1 [.d (.int j)] h = .ok (.cn (rngI 0 j.toNat)) h := by
  unfold rng1
  simp only [inB_lt h0 h1, if_true]
theorem a_irng2 : Zx.iRng2 fr sl h = (fr sl h).bind rng2 := (rfl)
theorem r2_ok (h0 : -1000000000 ≤ i) (h1 : i ≤ 1000000000) (h2 : -1000000000 ≤ j) (h3 : j ≤ 1000000000) : rng2 [.d (.int i), .d (.int j)] h = .ok (.cn (rngI i (j - i).toNat)) h := by
  unfold rng2
  simp only [inB_lt h0 h1, inB_lt h2 h3, Bool.and_self, if_true]
def enuI (ss : List SV) (h : AH) : R Src := match ss with
  | [s] => opt (stillL s) (fun xs => .ok (.cn (enumI 0 xs)) h) .st
  | _ => .st
theorem a_ienu : iEnu fr sl h = (fr sl h).bind enuI := by
  unfold iEnu enuI opt
  congr 1
  funext ss h1
  split
  · rename_i s
    dsimp only
    generalize stillL s = r
    cases r <;> rfl
  · rename_i hne
    first
      | rfl
      | (split
         · rename_i s
           exact absurd rfl (hne s)
         · rfl)
theorem e_1 : enuI [s] h = opt (stillL s) (fun xs => .ok (.cn (enumI 0 xs)) h) .st := (rfl)
def zipJ (ss : List SV) (h : AH) : R Src := match ss with
  | [s, t] => opt (stillL s) (fun xs => opt (stillL t) (fun ys => .ok (.cn (zipI xs ys)) h) .st) .st
  | _ => .st
theorem a_izip : Zx.iZip fr sl h = (fr sl h).bind zipJ := by
  unfold Zx.iZip zipJ opt
  congr 1
  funext ss h1
  split
  · rename_i s t
    dsimp only
    generalize stillL s = r
    generalize stillL t = r2
    cases r <;> cases r2 <;> rfl
  · rename_i hne
    first
      | rfl
      | (split
         · rename_i s t
           exact absurd rfl (hne s t)
         · rfl)
theorem z_2 : zipJ [s, t] h = opt (stillL s) (fun xs => opt (stillL t) (fun ys => .ok (.cn (zipI xs ys)) h) .st) .st := (rfl)
theorem l_d {ds : List PyData} : stillL (.d (.list ds)) = some (ds.map SV.d) := (rfl)
theorem l_vw {ds : List PyData} : stillL (.vw (.list ds)) = some (ds.map mkv) := (rfl)
def runS (sl : List SV) (bd : Bd) (b : FS) (s : Src) (h : AH) : O := match s with
  | .cn l => forC sl h.length bd b l sl h
  | .ow n => match h[n]? with
    | some (some (.lst xs)) => forR sl h.length bd b n xs.length 0 sl h
    | _ => .st
theorem a_for : sFor fi bd b sl h = (fi sl h).thn sl fun s h1 => runS sl bd b s h1 := (rfl)
theorem w_cn {l : List It1} : runS sl bd b (.cn l) h = forC sl h.length bd b l sl h := (rfl)
theorem w_ow {xs : List SV} (e : h[n]? = some (some (.lst xs))) : runS sl bd b (.ow n) h = forR sl h.length bd b n xs.length 0 sl h := by simp only [runS, e]
theorem c_nil {sl0 : List SV} {L : Nat} {body : FS} : forC sl0 L bd body [] sl h = .nx sl h := by unfold forC; rfl
theorem c_nx {sl0 : List SV} {L : Nat} {body : FS} {x : It1} {xs : List It1} {sl1 sl2 sl3 : List SV} {h2 h3 : AH} (h1 : bd.go x sl = some sl1) (hb : body sl1 h = .nx sl2 h2) (hn : norm sl0 L sl2 h2 = (sl3, h3)) :
    forC sl0 L bd body (x :: xs) sl h = forC sl0 L bd body xs sl3 h3 := by
  conv => lhs; unfold forC
  rw [h1]
  show aft sl0 L (body sl1 h) _ = _
  rw [hb]
  unfold aft
  simp only [hn]
theorem c_cons {sl0 : List SV} {L : Nat} {body : FS} {x : It1} {xs : List It1} : forC sl0 L bd body (x :: xs) sl h = opt (bd.go x sl) (fun sl1 => aft sl0 L (body sl1 h) (forC sl0 L bd body xs)) .st := by
  conv => lhs; unfold forC
  unfold opt
  cases bd.go x sl <;> rfl
theorem n_nx {sl0 : List SV} {L : Nat} {k : List SV → AH → O} : aft sl0 L (.nx sl h) k = k (norm sl0 L sl h).1 (norm sl0 L sl h).2 := (rfl)
theorem n_ct {sl0 : List SV} {L : Nat} {k : List SV → AH → O} : aft sl0 L (.ct sl h) k = k (norm sl0 L sl h).1 (norm sl0 L sl h).2 := (rfl)
theorem n_bk {sl0 : List SV} {L : Nat} {k : List SV → AH → O} : aft sl0 L (.bk sl h) k = .nx (norm sl0 L sl h).1 (norm sl0 L sl h).2 := (rfl)
theorem n_rt {sl0 : List SV} {L : Nat} {k : List SV → AH → O} : aft sl0 L (.rt s h) k = .rt s h := (rfl)
theorem n_rz {sl0 : List SV} {L : Nat} {k : List SV → AH → O} : aft sl0 L (.rz c sl h) k = .rz c sl h := (rfl)
theorem n_st {sl0 : List SV} {L : Nat} {k : List SV → AH → O} : aft sl0 L .st k = .st := (rfl)
/-! statements with an index -/
theorem a_setT {is : List Nat} : sSetT is fa sl h = (fa sl h).thn sl fun s h1 => opt ((Bd.tp is).go (.one s) sl) (fun sl' => .nx sl' h1) .st := by
  unfold sSetT opt
  congr 1
  funext s h1
  cases (Bd.tp is).go (.one s) sl <;> rfl
theorem a_store : sStore fa fb fc sl h = (fc sl h).thn sl fun v h1 => (fa sl h1).thn sl fun s h2 => (fb sl h2).thn sl fun t h3 => opt (putIx s t v h3) (fun h4 => .nx sl h4) .st := by
  unfold sStore opt
  congr 1
  funext v h1
  congr 1
  funext s h2
  congr 1
  funext t h3
  cases putIx s t v h3 <;> rfl
/-! operators at whole numbers -/
theorem rb_d {k : Nat} : rb h k (.d x) = some x := by cases k <;> (unfold rb; rfl)
theorem i_add : gAdd (.d (.int i)) (.d (.int j)) h = .ok (.d (.int (i + j))) h := (rfl)
theorem i_sub : Zx.gSub (.d (.int i)) (.d (.int j)) h = .ok (.d (.int (i - j))) h := (rfl)
theorem i_mul (hm : mulB i j = true) : gMul (.d (.int i)) (.d (.int j)) h = .ok (.d (.int (i * j))) h := by
  show (if mulB i j = true then _ else _) = _
  rw [if_pos hm]
theorem divB_ok (h0 : 0 < j) (h1 : j < 340282366920938463463374607431768211456) : divB i j = true := by
  unfold divB
  refine decide_eq_true ⟨h0, ?_⟩
  have h2 : j.natAbs < 2 ^ 128 := by omega
  have := PySem.Flt.log2_lt_of (by decide) h2
  omega
theorem i_div (h0 : 0 < j) (h1 : j < 340282366920938463463374607431768211456) : gDiv (.d (.int i)) (.d (.int j)) h = .ok (.d (.int (i / j))) h := by
  show (if divB i j = true then _ else _) = _
  rw [if_pos (divB_ok h0 h1)]
theorem i_mod (h0 : 0 < j) : gMod (.d (.int i)) (.d (.int j)) h = .ok (.d (.int (i % j))) h := by
  show (if modB i j = true then _ else _) = _
  rw [if_pos (by unfold modB; exact decide_eq_true h0)]
theorem i_pow (hp : powB i j = true) : gPow (.d (.int i)) (.d (.int j)) h = .ok (.d (.int (i ^ j.toNat))) h := by
  show (if powB i j = true then _ else _) = _
  rw [if_pos hp]
theorem i_lt : gLt (.d (.int i)) (.d (.int j)) h = .ok (.d (.bool (decide (i < j)))) h := (rfl)
theorem i_le : gLe (.d (.int i)) (.d (.int j)) h = .ok (.d (.bool (decide (i ≤ j)))) h := (rfl)
theorem i_gt : gGt (.d (.int i)) (.d (.int j)) h = .ok (.d (.bool (decide (j < i)))) h := (rfl)
theorem i_ge : gGe (.d (.int i)) (.d (.int j)) h = .ok (.d (.bool (decide (j ≤ i)))) h := (rfl)
theorem shaped_int : SeqAt.shaped (.int i) = true := by
  unfold SeqAt.shaped
  simp [PyData.canLay0, PyData.depth]
theorem i_eq : gEq false (.d (.int i)) (.d (.int j)) h = .ok (.d (.bool (decide (i = j)))) h := by
  unfold gEq
  rw [rb_d, rb_d]
  simp [nod, shaped_int, PyData.eqv]
  by_cases e : i = j <;> simp [e]
theorem i_ne : gEq true (.d (.int i)) (.d (.int j)) h = .ok (.d (.bool (!decide (i = j)))) h := by
  unfold gEq
  rw [rb_d, rb_d]
  simp [nod, shaped_int, PyData.eqv]
  by_cases e : i = j <;> simp [e]
theorem i_neg : gNeg (.d (.int i)) h = .ok (.d (.int (-i))) h := (rfl)
theorem i_int : gInt [.d (.int i)] h = .ok (.d (.int i)) h := (rfl)
theorem i_intb {b : Bool} : gInt [.d (.bool b)] h = .ok (.d (.int (if b = true then 1 else 0))) h := (rfl)
theorem i_abs : gAbs [.d (.int i)] h = .ok (.d (.int (if i < 0 then -i else i))) h := (rfl)
theorem i_min : gMin2 [.d (.int i), .d (.int j)] h = .ok (.d (.int (if j < i then j else i))) h := (rfl)
theorem i_max : gMax2 [.d (.int i), .d (.int j)] h = .ok (.d (.int (if j > i then j else i))) h := (rfl)
/-! items -/
theorem atI_map {α γ : Type} {f : α → γ} {xs : List α} {i : Int} : atI (xs.map f) i = (atI xs i).map f := by
  unfold atI
  rw [List.length_map]
  cases ixN xs.length i with
  | none => rfl
  | some j =>
    show (xs.map f)[j]? = Option.map f xs[j]?
    rw [List.getElem?_map]
theorem ix_d {ds : List PyData} : gIx (.d (.list ds)) (.d (.int i)) h = opt (atI ds i) (fun u => .ok (.d u) h) .st := by
  simp only [gIx, itemsOf, atI_map]
  cases atI ds i <;> rfl
theorem ix_dt {ds : List PyData} : gIx (.d (.tuple ds)) (.d (.int i)) h = opt (atI ds i) (fun u => .ok (.d u) h) .st := by
  simp only [gIx, itemsOf, atI_map]
  cases atI ds i <;> rfl
theorem ix_vw {ds : List PyData} : gIx (.vw (.list ds)) (.d (.int i)) h = opt (atI ds i) (fun u => .ok (mkv u) h) .st := by
  simp only [gIx, itemsOf, atI_map]
  cases atI ds i <;> rfl
theorem ix_sc {ns : List Int} : gIx (.sc ns) (.d (.int i)) h = opt (atI ns i) (fun u => .ok (.d (.int u)) h) .st := by
  simp only [gIx, itemsOf, atI_map]
  cases atI ns i <;> rfl
theorem ix_r {xs : List SV} (e : h[n]? = some (some (.lst xs))) : gIx (.r n) (.d (.int i)) h = opt (atI xs i) (fun u => .ok u h) .st := by
  simp only [gIx, itemsOf, e]
  cases atI xs i <;> rfl
theorem n_d {ds : List PyData} : gLen [.d (.list ds)] h = .ok (.d (.int ds.length)) h := by simp only [gLen, itemsOf, List.length_map]
theorem n_dt {ds : List PyData} : gLen [.d (.tuple ds)] h = .ok (.d (.int ds.length)) h := by simp only [gLen, itemsOf, List.length_map]
theorem n_vw {ds : List PyData} : gLen [.vw (.list ds)] h = .ok (.d (.int ds.length)) h := by simp only [gLen, itemsOf, List.length_map]
theorem n_sc {ns : List Int} : gLen [.sc ns] h = .ok (.d (.int ns.length)) h := by simp only [gLen, itemsOf, List.length_map]
theorem n_r {xs : List SV} (e : h[n]? = some (some (.lst xs))) : gLen [.r n] h = .ok (.d (.int xs.length)) h := by simp only [gLen, itemsOf, e]
/-! freezing and reading back -/
theorem fzv_d {k : Nat} : fzv k h (.d x) = some (x, h) := by cases k <;> (unfold fzv; rfl)
theorem fzv_vw {k : Nat} : fzv k h (.vw x) = if imm x = true then some (x, h) else none := by cases k <;> (unfold fzv; rfl)
theorem fzL_d : ∀ (ds : List PyData) (k : Nat) (h : AH), fzL k h (ds.map SV.d) = some (ds, h)
  | [], k, h => by unfold fzL; rfl
  | d :: ds, k, h => by
    show fzL k h (SV.d d :: ds.map SV.d) = _
    unfold fzL
    rw [fzv_d]
    show (match fzL k h (ds.map SV.d) with | some (ds_1, h2) => some (d :: ds_1, h2) | none => none) = _
    rw [fzL_d ds k h]
theorem fzv_r {ds : List PyData} (e : h[n]? = some (some (.lst (ds.map SV.d)))) : fzv 9 h (.r n) = some (.list ds, h.set n none) := by
  unfold fzv
  simp only [e, fzL_d, and_self, if_true]
theorem rb_vw {k : Nat} : rb h k (.vw x) = some x := by cases k <;> (unfold rb; rfl)
theorem rb_mkv {k : Nat} : rb h k (mkv x) = some x := by
  unfold mkv
  split
  · exact rb_d
  · exact rb_vw
theorem rbL_d : ∀ (ds : List PyData) (k : Nat), rbL h k (ds.map SV.d) = some ds
  | [], k => by unfold rbL; rfl
  | d :: ds, k => by
    show rbL h k (SV.d d :: ds.map SV.d) = _
    unfold rbL
    rw [rb_d]
    show (match rbL h k (ds.map SV.d) with | some ds_1 => some (d :: ds_1) | none => none) = _
    rw [rbL_d ds k]
theorem rb_r {k : Nat} {ds : List PyData} (e : h[n]? = some (some (.lst (ds.map SV.d)))) : rb h (k + 1) (.r n) = some (.list ds) := by
  unfold rb
  simp only [e, rbL_d]
  rfl
theorem allD_map : ∀ (ds : List PyData), allD (ds.map SV.d) = some ds
  | [] => by unfold allD; rfl
  | d :: ds => by
    show (allD (ds.map SV.d)).map (d :: ·) = some (d :: ds)
    rw [allD_map ds]; rfl
theorem d_nil : allD [] = some [] := (rfl)
theorem d_cons {ss : List SV} : allD (.d x :: ss) = opt (allD ss) (fun ds => some (x :: ds)) none := by
  unfold opt
  conv => lhs; unfold allD
  cases allD ss <;> rfl
theorem phi_eq {ms : List Md} {m : Nat} {ds : List PyData} : phi ms m a ds = (a (startS ms ds m) []).fin := by
  unfold phi O.fin
  rfl
/-! turns -/
theorem below_d : ∀ (ds : List PyData) (L : Nat), (ds.map SV.d).all (below L) = true
  | [], _ => rfl
  | d :: ds, L => by
    rw [List.map_cons, List.all_cons, below_d ds L]
    rfl
theorem atI_0 {α : Type} {xs : List α} {i : Int} (h0 : 0 ≤ i) : atI xs i = xs[i.toNat]? := by
  unfold atI ixN
  rw [if_pos h0]
  by_cases h1 : i < xs.length
  · rw [if_pos h1]; rfl
  · rw [if_neg h1]
    rw [List.getElem?_eq_none (by omega)]
    rfl
end
/-- the data of lists of whole numbers -/
abbrev eI (ns : List Int) : PyData := .list (ns.map PyData.int)
abbrev eG (g : List (List Int)) : PyData := .list (g.map eI)
end Zx

namespace Zx
open PySem PySem.Spec L2
/-! ## data that == takes -/
structure Fn (k : Nat) (d : PyData) : Prop where
  n : nod d = true
  c : d.canLay0 = true
  d : d.depth ≤ k
structure FnL (k : Nat) (ds : List PyData) : Prop where
  n : nodL ds = true
  c : PyData.canLayAll0 ds = true
  d : PyData.depthAll ds ≤ k
theorem Fn.mono {k l : Nat} {d : PyData} (f : Fn k d) (h : k ≤ l) : Fn l d := ⟨f.n, f.c, Nat.le_trans f.d h⟩
theorem Fn_int {k : Nat} {i : Int} : Fn k (.int i) := ⟨by unfold nod; rfl, by unfold PyData.canLay0; rfl, by unfold PyData.depth; exact Nat.zero_le _⟩
theorem Fn_bool {k : Nat} {b : Bool} : Fn k (.bool b) := ⟨by unfold nod; rfl, by unfold PyData.canLay0; rfl, by unfold PyData.depth; exact Nat.zero_le _⟩
theorem Fn_none {k : Nat} : Fn k .none := ⟨by unfold nod; rfl, by unfold PyData.canLay0; rfl, by unfold PyData.depth; exact Nat.zero_le _⟩
theorem FnL_nil {k : Nat} : FnL k [] := ⟨by unfold nodL; rfl, by unfold PyData.canLayAll0; rfl, by unfold PyData.depthAll; exact Nat.zero_le _⟩
theorem FnL_cons {k : Nat} {d : PyData} {ds : List PyData} (a : Fn k d) (b : FnL k ds) : FnL k (d :: ds) :=
  ⟨by unfold nodL; rw [a.n, b.n]; rfl, by unfold PyData.canLayAll0; rw [a.c, b.c]; rfl, by unfold PyData.depthAll; exact Nat.max_le.mpr ⟨a.d, b.d⟩⟩
theorem FnL_of {k : Nat} : ∀ {ds : List PyData}, (∀ d ∈ ds, Fn k d) → FnL k ds
  | [], _ => FnL_nil
  | d :: ds, h => FnL_cons (h d List.mem_cons_self) (FnL_of fun x m => h x (List.mem_cons_of_mem _ m))
theorem FnL_map {α : Type} {k : Nat} {xs : List α} {f : α → PyData} (h : ∀ x ∈ xs, Fn k (f x)) : FnL k (xs.map f) := FnL_of fun d m => by
  obtain ⟨x, hx, e⟩ := List.mem_map.mp m
  exact e ▸ h x hx
theorem FnL_app {k : Nat} : ∀ {as bs : List PyData}, FnL k as → FnL k bs → FnL k (as ++ bs)
  | [], bs, _, b => b
  | d :: as, bs, a, b => by
    have a1 : Fn k d := ⟨by have := a.n; unfold nodL at this; exact (Bool.and_eq_true_iff.mp this).1, by have := a.c; unfold PyData.canLayAll0 at this; exact (Bool.and_eq_true_iff.mp this).1, by have := a.d; unfold PyData.depthAll at this; exact (Nat.max_le.mp this).1⟩
    have a2 : FnL k as := ⟨by have := a.n; unfold nodL at this; exact (Bool.and_eq_true_iff.mp this).2, by have := a.c; unfold PyData.canLayAll0 at this; exact (Bool.and_eq_true_iff.mp this).2, by have := a.d; unfold PyData.depthAll at this; exact (Nat.max_le.mp this).2⟩
    exact FnL_cons a1 (FnL_app a2 b)
theorem Fn_lst {k : Nat} {ds : List PyData} (a : FnL k ds) : Fn (k + 1) (.list ds) :=
  ⟨by unfold nod; exact a.n, by unfold PyData.canLay0; exact a.c, by unfold PyData.depth; exact Nat.succ_le_succ a.d⟩
theorem Fn_tup {k : Nat} {ds : List PyData} (a : FnL k ds) : Fn (k + 1) (.tuple ds) :=
  ⟨by unfold nod; exact a.n, by unfold PyData.canLay0; exact a.c, by unfold PyData.depth; exact Nat.succ_le_succ a.d⟩
theorem Fn_eI {k : Nat} (ns : List Int) : Fn (k + 1) (eI ns) := Fn_lst (FnL_map fun _ _ => Fn_int)
theorem Fn_eG {k : Nat} (g : List (List Int)) : Fn (k + 2) (eG g) := Fn_lst (FnL_map fun r _ => Fn_eI r)
theorem Fn.shaped {d : PyData} (f : Fn 64 d) : SeqAt.shaped d = true := by
  unfold SeqAt.shaped
  rw [f.c, decide_eq_true f.d]; rfl
mutual
theorem eqv_refl : ∀ d : PyData, nod d = true → PyData.eqv d d = true
  | .none, _ => by unfold PyData.eqv; rfl
  | .bool b, _ => by unfold PyData.eqv; simp
  | .int i, _ => by unfold PyData.eqv; simp
  | .str s, _ => by unfold PyData.eqv; simp
  | .list ds, h => by unfold nod at h; unfold PyData.eqv; exact eqvAll_refl ds h
  | .tuple ds, h => by unfold nod at h; unfold PyData.eqv; exact eqvAll_refl ds h
  | .dict _, h => by unfold nod at h; cases h
theorem eqvAll_refl : ∀ ds : List PyData, nodL ds = true → PyData.eqvAll ds ds = true
  | [], _ => by unfold PyData.eqvAll; rfl
  | d :: ds, h => by
    unfold nodL at h
    have h := Bool.and_eq_true_iff.mp h
    unfold PyData.eqvAll
    rw [eqv_refl d h.1, eqvAll_refl ds h.2]; rfl
end
section
variable {h : AH} {s t : SV} {x y : PyData} {neg : Bool}
theorem q_rb (a : rb h 9 s = some x) (b : rb h 9 t = some y) (fx : Fn 64 x) (fy : Fn 64 y) : gEq neg s t h = .ok (.d (.bool (neg ^^ PyData.eqv x y))) h := by
  unfold gEq
  rw [a, b]
  simp only [fx.n, fy.n, fx.shaped, fy.shaped, Bool.and_self, if_true]
theorem q_d (fx : Fn 64 x) (fy : Fn 64 y) : gEq neg (.d x) (.d y) h = .ok (.d (.bool (neg ^^ PyData.eqv x y))) h := q_rb rb_d rb_d fx fy
theorem q_same (a : rb h 9 s = some x) (b : rb h 9 t = some x) (fx : Fn 64 x) : gEq neg s t h = .ok (.d (.bool (!neg))) h := by
  rw [q_rb a b fx fx, eqv_refl x fx.n]
  cases neg <;> simp
end
theorem eqvAll_ints : ∀ as bs : List Int, PyData.eqvAll (as.map PyData.int) (bs.map PyData.int) = decide (as = bs)
  | [], [] => by unfold PyData.eqvAll; rfl
  | [], b :: bs => by
    show PyData.eqvAll [] (_ :: _) = _
    unfold PyData.eqvAll; rfl
  | a :: as, [] => by
    show PyData.eqvAll (_ :: _) [] = _
    unfold PyData.eqvAll; rfl
  | a :: as, b :: bs => by
    show PyData.eqvAll (.int a :: as.map PyData.int) (.int b :: bs.map PyData.int) = _
    unfold PyData.eqvAll
    rw [eqvAll_ints as bs]
    unfold PyData.eqv
    by_cases e : a = b <;> by_cases e2 : as = bs <;> simp [e, e2]
theorem eqv_eI (as bs : List Int) : PyData.eqv (eI as) (eI bs) = decide (as = bs) := by
  unfold eI PyData.eqv
  exact eqvAll_ints as bs
theorem eqvAll_rows : ∀ as bs : List (List Int), PyData.eqvAll (as.map eI) (bs.map eI) = decide (as = bs)
  | [], [] => by unfold PyData.eqvAll; rfl
  | [], b :: bs => by
    show PyData.eqvAll [] (_ :: _) = _
    unfold PyData.eqvAll; rfl
  | a :: as, [] => by
    show PyData.eqvAll (_ :: _) [] = _
    unfold PyData.eqvAll; rfl
  | a :: as, b :: bs => by
    show PyData.eqvAll (eI a :: as.map eI) (eI b :: bs.map eI) = _
    unfold PyData.eqvAll
    rw [eqvAll_rows as bs, eqv_eI]
    by_cases e : a = b <;> by_cases e2 : as = bs <;> simp [e, e2]
theorem eqv_eG (as bs : List (List Int)) : PyData.eqv (eG as) (eG bs) = decide (as = bs) := by
  unfold eG PyData.eqv
  exact eqvAll_rows as bs
theorem eqv_nil (ds : List PyData) : PyData.eqv (.list ds) (.list []) = ds.isEmpty := by
  unfold PyData.eqv
  cases ds <;> (unfold PyData.eqvAll; rfl)
/-! ## heaps whose owned objects are gone -/
theorem cl_nil {s : SV} : cl s [] = [] := by unfold cl; split <;> rfl
theorem cl_r {n : Nat} {h : AH} : cl (.r n) h = h := by
  unfold cl below
  simp
theorem cl_d {x : PyData} {h : AH} : cl (.d x) h = [] := (rfl)
theorem cl_vw {x : PyData} {h : AH} : cl (.vw x) h = [] := (rfl)
theorem trim_len {L : Nat} {sl : List SV} {h : AH} (e : h.length ≤ L) : trimE L sl h = h := by
  unfold trimE
  rw [List.take_of_length_le e]
  split <;> rfl
theorem trim_ok {sl : List SV} {h : AH} (a : h.all (belowO h.length) = true) (b : sl.all (below h.length) = true) {g : AH} : trimE h.length sl (h ++ g) = h := by
  unfold trimE trimOk
  rw [List.take_left, a, b]
  rfl
theorem trim_0 {sl : List SV} {h : AH} (b : sl.all (below 0) = true) : trimE 0 sl h = [] := trim_ok (h := []) rfl b (g := h)
theorem norm_len {L : Nat} {sl0 sl : List SV} {h : AH} (e : h.length ≤ L) : norm sl0 L sl h = (reset sl0 sl, h) := by
  unfold norm
  rw [List.take_of_length_le e]
  split <;> rfl
theorem mkv_int {i : Int} : mkv (.int i) = .d (.int i) := (rfl)
theorem mkv_bool {b : Bool} : mkv (.bool b) = .d (.bool b) := (rfl)
theorem mkv_none : mkv .none = .d .none := (rfl)
theorem mkv_str {s : Str} : mkv (.str s) = .d (.str s) := (rfl)
theorem mkv_lst {ds : List PyData} : mkv (.list ds) = .vw (.list ds) := (rfl)
theorem back_r {L n : Nat} {h hn : AH} : back L h (.ok (.r n) hn) = .ok (.r (n + L)) (h ++ shh L hn) := (rfl)
theorem wide_mul {i j : Int} (a b : Nat) (ha : 0 < a) (hb : 0 < b) (hi : i.natAbs < 2 ^ a) (hj : j.natAbs < 2 ^ b) (hab : a + b < 1000000) : mulB i j = true := by
  unfold mulB
  refine decide_eq_true ?_
  have := PySem.Flt.log2_lt_of ha hi
  have := PySem.Flt.log2_lt_of hb hj
  omega
theorem nat_sq {a : Int} (h0 : 0 ≤ a) {k : Nat} (h1 : a < 2 ^ k) : a.natAbs < 2 ^ k := by
  have : (a.natAbs : Int) < ((2 ^ k : Nat) : Int) := by
    rw [Int.natAbs_of_nonneg h0, Int.natCast_pow]
    exact h1
  exact Int.ofNat_lt.mp this
theorem mulB_nn {i j : Int} (a b : Nat) (hi0 : 0 ≤ i) (hi : i < 2 ^ a) (hj0 : 0 ≤ j) (hj : j < 2 ^ b) (ha : 0 < a) (hb : 0 < b) (h : a + b < 1000000) : mulB i j = true := wide_mul a b ha hb (nat_sq hi0 hi) (nat_sq hj0 hj) h
theorem norm_e {sl0 sl : List SV} {L : Nat} : norm sl0 L sl [] = (reset sl0 sl, []) := norm_len (Nat.zero_le _)
theorem reset_un {as bs : List SV} {b : SV} : reset (.un :: as) (b :: bs) = .un :: reset as bs := by
  conv => lhs; unfold reset
theorem reset_d {as bs : List SV} {b : SV} {x : PyData} : reset (.d x :: as) (b :: bs) = b :: reset as bs := by
  conv => lhs; unfold reset
theorem reset_r {as bs : List SV} {b : SV} {n : Nat} : reset (.r n :: as) (b :: bs) = b :: reset as bs := by
  conv => lhs; unfold reset
theorem reset_vw {as bs : List SV} {b : SV} {x : PyData} : reset (.vw x :: as) (b :: bs) = b :: reset as bs := by
  conv => lhs; unfold reset
theorem reset_sc {as bs : List SV} {b : SV} {x : List Int} : reset (.sc x :: as) (b :: bs) = b :: reset as bs := by
  conv => lhs; unfold reset
theorem reset_nil {bs : List SV} : reset [] bs = bs := by unfold reset; rfl
/-! ## owned lists -/
def ownL (h : AH) (n : Nat) : Option (List SV) := match h[n]? with
  | some (some (.lst xs)) => some xs
  | _ => none
section
variable {h : AH} {n : Nat} {i : Int} {s t v : SV} {xs : List SV} {ss sl : List SV} {fo fi fe : FE}
theorem own_0 : ownL (some (.lst xs) :: h) 0 = some xs := (rfl)
theorem own_s {o : Option AO} : ownL (o :: h) (n + 1) = ownL h n := (rfl)
theorem own_last : ownL (h ++ [some (.lst xs)]) h.length = some xs := by unfold ownL; simp
theorem own_get (e : ownL h n = some xs) : h[n]? = some (some (.lst xs)) := by
  unfold ownL at e
  split at e
  · rename_i z; cases e; exact z
  · cases e
theorem own_cs (h : AH) (n : Nat) : (h[n]? = none ∧ ownL h n = none) ∨ (h[n]? = some none ∧ ownL h n = none) ∨ (∃ xs, h[n]? = some (some (.lst xs)) ∧ ownL h n = some xs) ∨ (∃ kvs, h[n]? = some (some (.dct kvs)) ∧ ownL h n = none) ∨ ∃ ts, h[n]? = some (some (.tup ts)) ∧ ownL h n = none := by
  unfold ownL
  cases e : h[n]? with
  | none => exact .inl ⟨rfl, rfl⟩
  | some o => cases o with
    | none => exact .inr (.inl ⟨rfl, rfl⟩)
    | some o => cases o with
      | lst xs => exact .inr (.inr (.inl ⟨xs, rfl, rfl⟩))
      | dct kvs => exact .inr (.inr (.inr (.inl ⟨kvs, rfl, rfl⟩)))
      | tup ts => exact .inr (.inr (.inr (.inr ⟨ts, rfl, rfl⟩)))
theorem a_own {k : List SV → List SV → AH → Option (List SV × SV)} : gOwn k (.r n) ss h = opt (ownL h n) (fun xs => opt (k xs ss h) (fun p => .ok p.2 (h.set n (some (.lst p.1)))) .st) .st := by
  rcases own_cs h n with ⟨e, e2⟩ | ⟨e, e2⟩ | ⟨xs, e, e2⟩ | ⟨kvs, e, e2⟩ | ⟨ts, e, e2⟩ <;> simp only [gOwn, e, e2, opt]
  generalize k xs ss h = r
  cases r <;> rfl
theorem o_seq : seqI (.r n) h = opt (ownL h n) (fun _ => .ok (.ow n) h) .st := by
  rcases own_cs h n with ⟨e, e2⟩ | ⟨e, e2⟩ | ⟨xs, e, e2⟩ | ⟨kvs, e, e2⟩ | ⟨ts, e, e2⟩ <;> simp only [seqI, e, e2, opt]
theorem o_run {bd : Bd} {b : FS} : runS sl bd b (.ow n) h = opt (ownL h n) (fun xs => forR sl h.length bd b n xs.length 0 sl h) .st := by
  rcases own_cs h n with ⟨e, e2⟩ | ⟨e, e2⟩ | ⟨xs, e, e2⟩ | ⟨kvs, e, e2⟩ | ⟨ts, e, e2⟩ <;> simp only [runS, e, e2, opt]
def itT (h : AH) (n : Nat) (k : List SV → R SV) : R SV := match h[n]? with
  | some (some (.tup ts)) => k ts
  | _ => .st
theorem o_ix : gIx (.r n) (.d (.int i)) h = opt (ownL h n) (fun xs => opt (atI xs i) (fun u => .ok u h) .st) (itT h n fun xs => opt (atI xs i) (fun u => .ok u h) .st) := by
  rcases own_cs h n with ⟨e, e2⟩ | ⟨e, e2⟩ | ⟨xs, e, e2⟩ | ⟨kvs, e, e2⟩ | ⟨ts, e, e2⟩ <;> simp only [gIx, itemsOf, e, e2, opt, itT]
  · cases atI xs i <;> rfl
  · cases atI ts i <;> rfl
theorem o_len : gLen [.r n] h = opt (ownL h n) (fun xs => .ok (.d (.int xs.length)) h) (itT h n fun xs => .ok (.d (.int xs.length)) h) := by
  rcases own_cs h n with ⟨e, e2⟩ | ⟨e, e2⟩ | ⟨xs, e, e2⟩ | ⟨kvs, e, e2⟩ | ⟨ts, e, e2⟩ <;> simp only [gLen, itemsOf, e, e2, opt, itT]
theorem o_lstOf : lstOf h (.r n) = ownL h n := by
  rcases own_cs h n with ⟨e, e2⟩ | ⟨e, e2⟩ | ⟨xs, e, e2⟩ | ⟨kvs, e, e2⟩ | ⟨ts, e, e2⟩ <;> simp only [lstOf, e, e2, opt]
theorem o_put : putIx (.r n) (.d (.int i)) v h = opt (ownL h n) (fun xs => opt (ixN xs.length i) (fun j => some (h.set n (some (.lst (xs.set j v))))) none) none := by
  rcases own_cs h n with ⟨e, e2⟩ | ⟨e, e2⟩ | ⟨xs, e, e2⟩ | ⟨kvs, e, e2⟩ | ⟨ts, e, e2⟩ <;> simp only [putIx, e, e2, opt]
  cases ixN xs.length i <;> rfl
theorem o_kd : kdL h (.r n) = (ownL h n).isSome := by unfold kdL; rw [o_lstOf]
theorem o_ty : tyOf h (.r n) = opt (ownL h n) (fun _ => some "list") (match h[n]? with | some (some (.tup _)) => some "tuple" | _ => none) := by
  rcases own_cs h n with ⟨e, e2⟩ | ⟨e, e2⟩ | ⟨xs, e, e2⟩ | ⟨kvs, e, e2⟩ | ⟨ts, e, e2⟩ <;> simp only [tyOf, e, e2, opt]
theorem o_list : gList [.r n] h = opt (ownL h n) (fun xs => .ok (.r h.length) (h ++ [some (.lst xs)])) (itT h n fun xs => .ok (.r h.length) (h ++ [some (.lst xs)])) := by
  rcases own_cs h n with ⟨e, e2⟩ | ⟨e, e2⟩ | ⟨xs, e, e2⟩ | ⟨kvs, e, e2⟩ | ⟨ts, e, e2⟩ <;> simp only [gList, itemsOf, e, e2, opt, itT]
theorem l_list {ds : List PyData} : gList [.d (.list ds)] h = .ok (.r h.length) (h ++ [some (.lst (ds.map SV.d))]) := by
  simp only [gList, itemsOf]
theorem l_listv {ds : List PyData} : gList [.vw (.list ds)] h = .ok (.r h.length) (h ++ [some (.lst (ds.map mkv))]) := by
  simp only [gList, itemsOf]
theorem ixN_in {m : Nat} (h0 : 0 ≤ i) (h1 : i < m) : ixN m i = some i.toNat := by
  unfold ixN
  rw [if_pos h0, if_pos h1]
theorem atI_in {α : Type} {xs : List α} (h0 : 0 ≤ i) (h1 : i < xs.length) : atI xs i = some (xs[i.toNat]'(by omega)) := by
  rw [atI_0 h0, List.getElem?_eq_getElem]
def augV (sl : List SV) (k : Int → Int → Int) (s t : SV) (a : Int) (v : SV) (h3 : AH) : O := match v with
  | .d (.int b) => opt (putIx s t (.d (.int (k a b))) h3) (fun h4 => .nx sl h4) .st
  | _ => .st
def augX (sl : List SV) (k : Int → Int → Int) (fe : FE) (s t : SV) (h2 : AH) (o : Option SV) : O := match o with
  | some (.d (.int a)) => (fe sl h2).thn sl fun v h3 => augV sl k s t a v h3
  | _ => .st
def augT (sl : List SV) (k : Int → Int → Int) (fe : FE) (s t : SV) (h2 : AH) : O := match t with
  | .d (.int i) => opt (lstOf h2 s) (fun xs => augX sl k fe s t h2 (atI xs i)) .st
  | _ => .st
theorem aug_v {k : Int → Int → Int} {a b : Int} : augV sl k s t a (.d (.int b)) h = opt (putIx s t (.d (.int (k a b))) h) (fun h4 => .nx sl h4) .st := (rfl)
theorem aug_x {k : Int → Int → Int} {a : Int} : augX sl k fe s t h (some (.d (.int a))) = (fe sl h).thn sl fun v h3 => augV sl k s t a v h3 := (rfl)
theorem aug_t {k : Int → Int → Int} : augT sl k fe s (.d (.int i)) h = opt (lstOf h s) (fun xs => augX sl k fe s (.d (.int i)) h (atI xs i)) .st := (rfl)
theorem a_augS {k : Int → Int → Int} : sAugS k fo fi fe sl h = (fo sl h).thn sl fun s h1 => (fi sl h1).thn sl fun t h2 => augT sl k fe s t h2 := by
  unfold sAugS augT
  congr 1
  funext s h1
  congr 1
  funext t h2
  split
  · unfold augX opt
    cases lstOf h2 s with
    | none => rfl
    | some xs =>
      dsimp only
      generalize atI xs _ = o
      cases o with
      | none => rfl
      | some u => cases u with
        | d x => cases x with
          | int a =>
            dsimp only
            congr 1
            funext v h3
            unfold augV opt
            cases v with
            | d y => cases y with
              | int b =>
                dsimp only
                generalize putIx _ _ _ _ = r
                cases r <;> rfl
              | _ => rfl
            | _ => rfl
          | _ => rfl
        | _ => rfl
  · rename_i hne
    first
      | rfl
      | (split
         · exact absurd rfl (hne _)
         · rfl)
theorem k_app (e : xs.length < lim) : kAppend xs [v] h = some (xs ++ [v], .d .none) := by
  unfold kAppend
  dsimp only
  rw [if_pos e]
theorem k_ext {zs : List SV} (e1 : lstOf h t = some zs) (e : xs.length + zs.length < lim) : kExtend xs [t] h = some (xs ++ zs, .d .none) := by
  unfold kExtend
  dsimp only
  rw [e1]
  dsimp only
  rw [if_pos e]
theorem k_rev : kReverse xs [] h = some (xs.reverse, .d .none) := (rfl)
theorem k_clr : kClear xs [] h = some ([], .d .none) := (rfl)
theorem seqIx {m : Nat} (h0 : 0 ≤ i) (h1 : i < m) : seqIndex? i m = some i.toNat := by
  have := ixN_in h0 h1
  exact (ixN_seq this).1
theorem k_popAt {y : SV} (h0 : 0 ≤ i) (h1 : i < xs.length) (hb : i ≤ 1000000000) (e : xs[i.toNat]? = some y) : kPopAt xs [.d (.int i)] h = some (xs.eraseIdx i.toNat, y) := by
  unfold kPopAt
  dsimp only
  rw [if_pos (inB_lt (by omega) hb), seqIx h0 h1]
  dsimp only
  rw [e]
end
/-! ## turns -/
theorem a_while {fuel : Nat} {t : FT} {b : FS} {sl : List SV} {h : AH} : sWhile fuel t b sl h = whL sl h.length t b fuel sl h := (rfl)
theorem rngI_0 {lo : Int} : rngI lo 0 = [] := (rfl)
theorem rngI_s {lo : Int} {n : Nat} : rngI lo (n + 1) = .one (.d (.int lo)) :: rngI (lo + 1) n := by
  unfold rngI
  rw [List.range_succ_eq_map, List.map_cons, List.map_map]
  congr 1
  · simp
  · apply List.map_congr_left
    intro i _
    show It1.one (.d (.int (lo + ((i + 1 : Nat) : Int)))) = It1.one (.d (.int (lo + 1 + (i : Int))))
    congr 3
    omega
theorem rngI_get {lo : Int} {n k : Nat} {x : It1} (e : (rngI lo n)[k]? = some x) : k < n ∧ x = .one (.d (.int (lo + k))) := by
  unfold rngI at e
  rw [List.getElem?_map] at e
  by_cases hk : k < n
  · rw [List.getElem?_range hk] at e
    exact ⟨hk, (Option.some.inj e).symm⟩
  · rw [List.getElem?_eq_none (by rw [List.length_range]; omega)] at e
    cases e
theorem rngI_len {lo : Int} {n : Nat} : (rngI lo n).length = n := by unfold rngI; rw [List.length_map, List.length_range]
theorem enumI_0 {k : Nat} : enumI k [] = [] := by unfold enumI; rfl
/-- what a turn leaves -/
def O.turn (sl0 : List SV) (L : Nat) : O → Option (List SV × AH)
  | .nx sl h => some (norm sl0 L sl h)
  | .ct sl h => some (norm sl0 L sl h)
  | _ => none
theorem aft_turn {sl0 : List SV} {L : Nat} {o : O} {k : List SV → AH → O} {sl : List SV} {h : AH} (e : o.turn sl0 L = some (sl, h)) : aft sl0 L o k = k sl h := by
  cases o with
  | nx a b => have e := Option.some.inj e; unfold aft; dsimp only; rw [e]
  | ct a b => have e := Option.some.inj e; unfold aft; dsimp only; rw [e]
  | bk _ _ => cases e
  | rt _ _ => cases e
  | rz _ _ _ => cases e
  | st => cases e
theorem turn_nx {sl0 sl : List SV} {L : Nat} {h : AH} : (O.nx sl h).turn sl0 L = some (norm sl0 L sl h) := (rfl)
theorem turn_ct {sl0 sl : List SV} {L : Nat} {h : AH} : (O.ct sl h).turn sl0 L = some (norm sl0 L sl h) := (rfl)
theorem i_mulL {i j : Int} {h : AH} (a : -1000000000000000000000000000000000000000000000000000000000000000000000000000000000000000000000000000000000000000000000000000000000000000000000000000000000000000000000000000000000000000000000000000000000000000000000000000000000000000000000000000000000000000000000000000000000000000000000000000000000000 < i) (b : i < 1000000000000000000000000000000000000000000000000000000000000000000000000000000000000000000000000000000000000000000000000000000000000000000000000000000000000000000000000000000000000000000000000000000000000000000000000000000000000000000000000000000000000000000000000000000000000000000000000000000000000) (c : -1000000000000000000000000000000000000000000000000000000000000000000000000000000000000000000000000000000000000000000000000000000000000000000000000000000000000000000000000000000000000000000000000000000000000000000000000000000000000000000000000000000000000000000000000000000000000000000000000000000000000 < j) (d : j < 1000000000000000000000000000000000000000000000000000000000000000000000000000000000000000000000000000000000000000000000000000000000000000000000000000000000000000000000000000000000000000000000000000000000000000000000000000000000000000000000000000000000000000000000000000000000000000000000000000000000000) : gMul (.d (.int i)) (.d (.int j)) h = .ok (.d (.int (i * j))) h := by
  have e : (1000000000000000000000000000000000000000000000000000000000000000000000000000000000000000000000000000000000000000000000000000000000000000000000000000000000000000000000000000000000000000000000000000000000000000000000000000000000000000000000000000000000000000000000000000000000000000000000000000000000000 : Nat) < 2 ^ 1000 := by decide
  exact i_mul (wide_mul 1000 1000 (by decide) (by decide) (Nat.lt_trans (by omega) e) (Nat.lt_trans (by omega) e) (by decide))
theorem for_fun {sl0 : List SV} {L : Nat} {bd : Bd} {body : FS} {S : Nat → List SV} {H : Nat → AH} : ∀ (l : List It1) (m : Nat), (∀ k x, l[k]? = some x → ∃ sl1, bd.go x (S (m + k)) = some sl1 ∧ (body sl1 (H (m + k))).turn sl0 L = some (S (m + k + 1), H (m + k + 1))) →
    forC sl0 L bd body l (S m) (H m) = .nx (S (m + l.length)) (H (m + l.length))
  | [], m, _ => c_nil
  | x :: l, m, st => by
    obtain ⟨sl1, e1, e2⟩ := st 0 x rfl
    rw [c_cons, show m + 0 = m from rfl] at *
    rw [e1]
    show aft sl0 L (body sl1 (H m)) _ = _
    rw [aft_turn e2]
    have := for_fun (S := S) (H := H) l (m + 1) fun k y e => by
      have := st (k + 1) y e
      rw [show m + (k + 1) = m + 1 + k from by omega] at this
      exact this
    rw [this, List.length_cons, show m + 1 + l.length = m + (l.length + 1) from by omega]
/-- an invariant of the turns -/
theorem for_inv {sl0 : List SV} {L : Nat} {bd : Bd} {body : FS} {P : Nat → List SV → AH → Prop} : ∀ (l : List It1) (m : Nat) (sl : List SV) (h : AH), (∀ k x sl h, l[k]? = some x → P (m + k) sl h → ∃ sl1, bd.go x sl = some sl1 ∧ ∃ sl2 h2, (body sl1 h).turn sl0 L = some (sl2, h2) ∧ P (m + k + 1) sl2 h2) → P m sl h →
    ∃ sl' h', forC sl0 L bd body l sl h = .nx sl' h' ∧ P (m + l.length) sl' h'
  | [], m, sl, h, _, p => ⟨sl, h, c_nil, p⟩
  | x :: l, m, sl, h, st, p => by
    obtain ⟨sl1, e1, sl2, h2, e2, p2⟩ := st 0 x sl h rfl p
    rw [c_cons, e1]
    obtain ⟨sl', h', e3, p3⟩ := for_inv (P := P) l (m + 1) sl2 h2 (fun k y sl h e q => by
      have := st (k + 1) y sl h e
      rw [show m + (k + 1) = m + 1 + k from by omega] at this
      exact this q) p2
    refine ⟨sl', h', ?_, ?_⟩
    · show aft sl0 L (body sl1 h) _ = _
      rw [aft_turn e2, e3]
    · rw [List.length_cons, show m + (l.length + 1) = m + 1 + l.length from by omega]
      exact p3
/-- while: the turns by number, the last one the test ends -/
theorem wh_fun {sl0 : List SV} {L : Nat} {t : FT} {body : FS} {S : Nat → List SV} {H : Nat → AH} : ∀ (n m fuel : Nat), n < fuel → (∀ k, k < n → t (S (m + k)) (H (m + k)) = .ok true (H (m + k)) ∧ (body (S (m + k)) (H (m + k))).turn sl0 L = some (S (m + k + 1), H (m + k + 1))) → t (S (m + n)) (H (m + n)) = .ok false (H (m + n)) →
    whL sl0 L t body fuel (S m) (H m) = .nx (S (m + n)) (H (m + n))
  | n, m, 0, hf, _, _ => absurd hf (Nat.not_lt_zero _)
  | 0, m, f + 1, _, _, e => by
    conv => lhs; unfold whL
    rw [show m + 0 = m from rfl] at e
    rw [e]; rfl
  | n + 1, m, f + 1, hf, st, e => by
    conv => lhs; unfold whL
    obtain ⟨e1, e2⟩ := st 0 (Nat.zero_lt_succ _)
    rw [show m + 0 = m from rfl] at e1 e2
    rw [e1]
    show aft sl0 L (body (S m) (H m)) _ = _
    rw [aft_turn e2]
    have := wh_fun (S := S) (H := H) (sl0 := sl0) (L := L) (t := t) (body := body) n (m + 1) f (by omega) (fun k hk => by
      have := st (k + 1) (by omega)
      rw [show m + (k + 1) = m + 1 + k from by omega] at this
      exact this) (by rw [show m + 1 + n = m + (n + 1) from by omega]; exact e)
    rw [this, show m + 1 + n = m + (n + 1) from by omega]
/-- while: a measure that grows less -/
theorem wh_inv {sl0 : List SV} {L : Nat} {t : FT} {body : FS} {P : Nat → List SV → AH → Prop} {R : List SV → AH → Prop} (st : ∀ n sl h, P n sl h → (t sl h = .ok false h ∧ R sl h) ∨ (t sl h = .ok true h ∧ ∃ sl2 h2 m, (body sl h).turn sl0 L = some (sl2, h2) ∧ m < n ∧ P m sl2 h2)) :
    ∀ (fuel n : Nat) (sl : List SV) (h : AH), n < fuel → P n sl h → ∃ sl' h', whL sl0 L t body fuel sl h = .nx sl' h' ∧ R sl' h'
  | 0, n, sl, h, hf, _ => absurd hf (Nat.not_lt_zero _)
  | f + 1, n, sl, h, hf, p => by
    rcases st n sl h p with ⟨e, r⟩ | ⟨e, sl2, h2, m, e2, hm, p2⟩
    · refine ⟨sl, h, ?_, r⟩
      conv => lhs; unfold whL
      rw [e]; rfl
    · obtain ⟨sl', h', e3, r⟩ := wh_inv st f m sl2 h2 (by omega) p2
      refine ⟨sl', h', ?_, r⟩
      conv => lhs; unfold whL
      rw [e]
      show aft sl0 L (body sl h) _ = _
      rw [aft_turn e2, e3]
theorem norm_ok {sl0 sl : List SV} {L : Nat} {h : AH} (a : (h.take L).all (belowO L) = true) (b : (reset sl0 sl).all (below L) = true) : norm sl0 L sl h = (reset sl0 sl, h.take L) := by
  unfold norm trimOk
  rw [a, b]
  rfl
theorem for_inv' {sl0 : List SV} {L : Nat} {bd : Bd} {body : FS} {l : List It1} {sl : List SV} {h : AH} {o : O} (ef : forC sl0 L bd body l sl h = o) {P : Nat → List SV → AH → Prop} (p : P 0 sl h)
    (st : ∀ k x sl h, l[k]? = some x → P k sl h → ∃ sl1, bd.go x sl = some sl1 ∧ ∃ sl2 h2, (body sl1 h).turn sl0 L = some (sl2, h2) ∧ P (k + 1) sl2 h2) : ∃ sl' h', o = .nx sl' h' ∧ P l.length sl' h' := by
  obtain ⟨sl', h', e, q⟩ := for_inv (P := P) l 0 sl h (fun k x sl h e q => by
    rw [Nat.zero_add] at q ⊢
    exact st k x sl h e q) p
  rw [Nat.zero_add] at q
  exact ⟨sl', h', ef.symm.trans e, q⟩
theorem wh_inv' {sl0 : List SV} {L : Nat} {t : FT} {body : FS} {fuel : Nat} {sl : List SV} {h : AH} {o : O} (ef : whL sl0 L t body fuel sl h = o) {P : Nat → List SV → AH → Prop} {R : List SV → AH → Prop} (n : Nat) (hf : n < fuel) (p : P n sl h)
    (st : ∀ n sl h, P n sl h → (t sl h = .ok false h ∧ R sl h) ∨ (t sl h = .ok true h ∧ ∃ sl2 h2 m, (body sl h).turn sl0 L = some (sl2, h2) ∧ m < n ∧ P m sl2 h2)) : ∃ sl' h', o = .nx sl' h' ∧ R sl' h' := by
  obtain ⟨sl', h', e, q⟩ := wh_inv st fuel n sl h hf p
  exact ⟨sl', h', ef.symm.trans e, q⟩
/-- list(range(..)) -/
def lrg1 (s : SV) (h : AH) : R SV := match s with
  | .d (.int j) => if (inB j && decide (j.toNat ≤ 1000000)) = true then .ok (.r h.length) (h ++ [some (.lst (rgS 0 j))]) else .st
  | _ => .st
theorem a_lrg1 {fa : FE} {sl : List SV} {h : AH} : fLstRg (fRg1 fa) sl h = (fa sl h).bind lrg1 := by
  unfold fLstRg fRg1
  generalize fa sl h = r
  cases r with
  | st => rfl
  | rz c h => rfl
  | ok s h1 =>
    show ((match s with | .d (.int n) => (.ok ((0 : Int), n) h1 : R (Int × Int)) | _ => .st).bind _) = lrg1 s h1
    unfold lrg1
    cases s with
    | d x =>
      cases x with
      | int j =>
        show (if (inB 0 && inB j && decide ((j - 0).toNat ≤ 1000000)) = true then _ else _) = _
        rw [Int.sub_zero]
        rfl
      | none => rfl
      | bool i => rfl
      | str i => rfl
      | list i => rfl
      | tuple i => rfl
      | dict i => rfl
    | un => rfl
    | vw x => rfl
    | r x => rfl
    | sc x => rfl
    | ex x => rfl
def irange (n : Nat) : List Int := (List.range n).map fun i => ((i : Nat) : Int)
theorem rgS_eq {j : Int} : rgS 0 j = ((irange j.toNat).map PyData.int).map SV.d := by
  unfold rgS irange
  rw [Int.sub_zero, List.map_map, List.map_map]
  apply List.map_congr_left
  intro i _
  show SV.d (.int (0 + (i : Int))) = SV.d (.int (i : Int))
  rw [Int.zero_add]
theorem lrg1_ok {j : Int} {h : AH} (h0 : 0 ≤ j) (h1 : j ≤ 1000000) : lrg1 (.d (.int j)) h = .ok (.r h.length) (h ++ [some (.lst (((irange j.toNat).map PyData.int).map SV.d))]) := by
  unfold lrg1
  dsimp only
  rw [inB_lt (by omega) (by omega), decide_eq_true (by omega : j.toNat ≤ 1000000), rgS_eq]
  rfl
theorem irange_mem {n : Nat} {i : Int} : i ∈ irange n ↔ 0 ≤ i ∧ i < n := by
  unfold irange
  rw [List.mem_map]
  constructor
  · rintro ⟨a, h, rfl⟩
    have := List.mem_range.mp h
    omega
  · rintro ⟨h0, h1⟩
    exact ⟨i.toNat, List.mem_range.mpr (by omega), by omega⟩
theorem irange_len {n : Nat} : (irange n).length = n := by unfold irange; rw [List.length_map, List.length_range]
/-! ## comprehensions -/
theorem lc_fun {α : Type} {L : Nat} {bd : Bd} {fe : FE} {slw : List SV} {f : α → It1} {v : α → SV} {h0 : AH} (hL : L = h0.length) : ∀ (xs : List α) (acc : List SV), (∀ x ∈ xs, ∃ sl1, bd.go (f x) slw = some sl1 ∧ ∀ acc, fe sl1 (h0 ++ [some (.lst acc)]) = .ok (v x) (h0 ++ [some (.lst acc)])) → acc.length + xs.length ≤ 1000000 →
    lcC L bd fYes fe slw (xs.map f) (h0 ++ [some (.lst acc)]) = .ok () (h0 ++ [some (.lst (acc ++ xs.map v))])
  | [], acc, _, _ => by
    show lcC L bd fYes fe slw [] _ = _
    unfold lcC
    rw [List.map_nil, List.append_nil]
  | x :: xs, acc, st, hl => by
    obtain ⟨sl1, e1, e2⟩ := st x List.mem_cons_self
    show lcC L bd fYes fe slw (f x :: xs.map f) _ = _
    unfold lcC lcOne
    rw [e1]
    dsimp only
    rw [show ∀ hh : AH, nrz (fYes sl1 hh) = .ok true hh from fun _ => rfl, b_ok, if_pos rfl, e2 acc]
    show lcPut L slw (v x) (h0 ++ [some (.lst acc)]) _ = _
    unfold lcPut
    have g : (h0 ++ [some (AO.lst acc)])[L]? = some (some (.lst acc)) := by rw [hL]; simp
    rw [g]
    dsimp only
    rw [List.length_cons] at hl
    rw [if_pos (by omega)]
    have s : (h0 ++ [some (AO.lst acc)]).set L (some (.lst (acc ++ [v x]))) = h0 ++ [some (.lst (acc ++ [v x]))] := by rw [hL]; simp
    rw [s, norm_len (by rw [hL]; simp)]
    dsimp only
    have := lc_fun hL xs (acc ++ [v x]) (fun y m => st y (List.mem_cons_of_mem _ m)) (by rw [List.length_append, List.length_singleton]; omega)
    rw [this, List.map_cons, List.append_assoc]; rfl
theorem flc_fun {α : Type} {fi : List SV → AH → R Src} {bd : Bd} {fe : FE} {vs : List Nat} {sl : List SV} {h : AH} {xs : List α} {f : α → It1} {v : α → SV} (hi : fi sl h = .ok (.cn (xs.map f)) h)
    (st : ∀ x ∈ xs, ∃ sl1, bd.go (f x) (wipeS sl vs) = some sl1 ∧ ∀ acc, fe sl1 (h ++ [some (.lst acc)]) = .ok (v x) (h ++ [some (.lst acc)])) (hl : xs.length ≤ 1000000) :
    fLc fi bd fYes fe vs sl h = .ok (.r h.length) (h ++ [some (.lst (xs.map v))]) := by
  unfold fLc
  rw [hi]
  show (lcC h.length bd fYes fe (wipeS sl vs) (xs.map f) (h ++ [some (.lst [])])).bind _ = _
  rw [lc_fun rfl xs [] st (by simpa using hl)]
  rfl
theorem fz_last {h : AH} {ds : List PyData} : fzv 9 (h ++ [some (.lst (ds.map SV.d))]) (.r h.length) = some (.list ds, h ++ [none]) := by
  rw [fzv_r (ds := ds) (by simp)]
  simp
/-- frozen comprehension of data -/
theorem fzlc_fun {α : Type} {fi : List SV → AH → R Src} {bd : Bd} {fe : FE} {vs : List Nat} {sl : List SV} {h : AH} {xs : List α} {f : α → It1} {v : α → PyData} (hi : fi sl h = .ok (.cn (xs.map f)) h)
    (st : ∀ x ∈ xs, ∃ sl1, bd.go (f x) (wipeS sl vs) = some sl1 ∧ ∀ acc, fe sl1 (h ++ [some (.lst acc)]) = .ok (.d (v x)) (h ++ [some (.lst acc)])) (hl : xs.length ≤ 1000000) (c1 : h.all (belowO h.length) = true) (c2 : sl.all (below h.length) = true) :
    fFz (fLc fi bd fYes fe vs) sl h = .ok (.d (.list (xs.map v))) h := by
  rw [a_fz, flc_fun (v := fun x => SV.d (v x)) hi st hl]
  show opt (fzv 9 (h ++ [some (.lst (xs.map fun x => SV.d (v x)))]) (.r h.length)) _ _ = _
  have := fz_last (h := h) (ds := xs.map v)
  rw [List.map_map] at this
  have e : (xs.map fun x => SV.d (v x)) = xs.map (SV.d ∘ v) := (rfl)
  rw [e, this]
  show R.ok (SV.d (.list (xs.map v))) (trimE h.length sl (h ++ [none])) = _
  rw [trim_ok c1 c2]
/-! ## freezing at the end of the heap, by lists of ints -/
abbrev oI (xs : List Int) : Option AO := some (.lst ((xs.map PyData.int).map SV.d))
theorem fzv_nil {h : AH} {n : Nat} (e : ownL h n = some []) : fzv 9 h (.r n) = some (.list [], h.set n none) := fzv_r (ds := []) (own_get e)
theorem fzv_own {h : AH} {n : Nat} {ds : List PyData} (e : ownL h n = some (ds.map SV.d)) : fzv 9 h (.r n) = some (.list ds, h.set n none) := fzv_r (own_get e)
theorem rb_own {h : AH} {n k : Nat} {ds : List PyData} (e : ownL h n = some (ds.map SV.d)) : rb h (k + 1) (.r n) = some (.list ds) := rb_r (own_get e)
theorem trim_g {L : Nat} {sl : List SV} {h : AH} (a : (h.take L).all (belowO L) = true) (b : sl.all (below L) = true) : trimE L sl h = h.take L := by
  unfold trimE trimOk
  rw [a, b]
  rfl
theorem bel_o {L : Nat} {xs : List SV} : belowO L (some (.lst xs)) = xs.all (below L) := (rfl)
theorem bel_n {L : Nat} : belowO L none = true := (rfl)
theorem bel_r {L n : Nat} : below L (.r n) = decide (n < L) := (rfl)
theorem bel_d {L : Nat} {x : PyData} : below L (.d x) = true := (rfl)
theorem bel_vw {L : Nat} {x : PyData} : below L (.vw x) = true := (rfl)
theorem bel_sc {L : Nat} {x : List Int} : below L (.sc x) = true := (rfl)
theorem bel_un {L : Nat} : below L .un = true := (rfl)
theorem mkv_ints (ns : List Int) : (ns.map PyData.int).map mkv = (ns.map PyData.int).map SV.d := by
  rw [List.map_map, List.map_map]
  exact List.map_congr_left fun i _ => mkv_int
/-! ## owned grids: the outer list, its rows behind it -/
def refs (L n : Nat) : List SV := (List.range n).map fun i => SV.r (L + 1 + i)
def OG (L : Nat) (g : List (List SV)) : AH := some (.lst (refs L g.length)) :: g.map fun r => some (.lst r)
abbrev dI (g : List (List Int)) : List (List SV) := g.map fun r => (r.map PyData.int).map SV.d
theorem refs_len {L n : Nat} : (refs L n).length = n := by unfold refs; rw [List.length_map, List.length_range]
theorem refs_s {L n : Nat} : refs L (n + 1) = .r (L + 1) :: refs (L + 1) n := by
  unfold refs
  rw [List.range_succ_eq_map, List.map_cons, List.map_map]
  congr 1
  apply List.map_congr_left
  intro i _
  show SV.r (L + 1 + (i + 1)) = SV.r (L + 1 + 1 + i)
  congr 1
  omega
theorem refs_get {L n i : Nat} (h : i < n) : (refs L n)[i]? = some (.r (L + 1 + i)) := by
  unfold refs
  rw [List.getElem?_map, List.getElem?_range h]
  rfl
theorem OG_len {L : Nat} {g : List (List SV)} : (OG L g).length = g.length + 1 := by unfold OG; rw [List.length_cons, List.length_map]
theorem shh_OG {L : Nat} {g : List (List Int)} : shh L (OG 0 (dI g)) = OG L (dI g) := by
  unfold shh OG
  rw [List.map_cons, List.map_map]
  congr 1
  · show some (AO.lst ((refs 0 (dI g).length).map (shv L))) = _
    congr 2
    unfold refs
    rw [List.map_map]
    apply List.map_congr_left
    intro i _
    show SV.r (0 + 1 + i + L) = SV.r (L + 1 + i)
    congr 1
    omega
  · apply List.map_congr_left
    intro r hr
    obtain ⟨ns, _, rfl⟩ := List.mem_map.mp hr
    show some (AO.lst ((((ns.map PyData.int).map SV.d)).map (shv L))) = _
    congr 2
    rw [List.map_map]
    rfl
theorem own_og {h : AH} {L : Nat} (hL : h.length = L) {g : List (List SV)} {t : AH} : ownL (h ++ OG L g ++ t) L = some (refs L g.length) := by
  subst hL
  unfold ownL OG
  simp
theorem own_row {h : AH} {L i : Nat} (hL : h.length = L) {g : List (List SV)} {t : AH} {r : List SV} (e : g[i]? = some r) : ownL (h ++ OG L g ++ t) (L + 1 + i) = some r := by
  subst hL
  have hi : i < g.length := (List.getElem?_eq_some_iff.mp e).1
  unfold ownL OG
  rw [List.append_assoc, List.getElem?_append_right (by omega), show h.length + 1 + i - h.length = i + 1 from by omega, List.cons_append, List.getElem?_cons_succ, List.getElem?_append_left (by rw [List.length_map]; exact hi), List.getElem?_map, e]
  rfl
theorem set_row {h : AH} {L i : Nat} (hL : h.length = L) {g : List (List SV)} {t : AH} {r : List SV} (hi : i < g.length) : (h ++ OG L g ++ t).set (L + 1 + i) (some (.lst r)) = h ++ OG L (g.set i r) ++ t := by
  subst hL
  unfold OG
  rw [List.append_assoc, List.set_append_right _ _ (by omega), show h.length + 1 + i - h.length = i + 1 from by omega, List.cons_append, List.set_cons_succ, List.set_append_left _ _ (by rw [List.length_map]; exact hi), List.length_set, List.map_set, List.append_assoc]
  rfl
theorem rbL_rows {k : Nat} : ∀ (g : List (List Int)) (pre t : AH), rbL (pre ++ (dI g).map (fun r => some (.lst r)) ++ t) (k + 1) ((List.range g.length).map fun i => SV.r (pre.length + i)) = some (g.map eI)
  | [], pre, t => by show rbL _ _ [] = _; unfold rbL; rfl
  | r :: g, pre, t => by
    have e : (List.range (r :: g).length).map (fun i => SV.r (pre.length + i)) = SV.r pre.length :: (List.range g.length).map fun i => SV.r ((pre ++ [oI r]).length + i) := by
      rw [List.length_cons, List.range_succ_eq_map, List.map_cons, List.map_map]
      congr 1
      apply List.map_congr_left
      intro i _
      show SV.r (pre.length + (i + 1)) = SV.r ((pre ++ [oI r]).length + i)
      rw [List.length_append, List.length_singleton]
      congr 1
      omega
    have e2 : pre ++ (dI (r :: g)).map (fun r => some (AO.lst r)) ++ t = (pre ++ [oI r]) ++ (dI g).map (fun r => some (AO.lst r)) ++ t := by
      show pre ++ (oI r :: (dI g).map (fun r => some (AO.lst r))) ++ t = _
      simp
    rw [e]
    unfold rbL
    have h1 : rb (pre ++ (dI (r :: g)).map (fun r => some (AO.lst r)) ++ t) (k + 1) (.r pre.length) = some (eI r) := by
      refine rb_own ?_
      rw [e2]
      unfold ownL
      rw [List.append_assoc, List.append_assoc, List.getElem?_append_right (Nat.le_refl _), Nat.sub_self]
      rfl
    rw [h1, e2, rbL_rows g (pre ++ [oI r]) t]
    rfl
theorem rb_og {h : AH} {L : Nat} (hL : h.length = L) {g : List (List Int)} {t : AH} {k : Nat} : rb (h ++ OG L (dI g) ++ t) (k + 2) (.r L) = some (eG g) := by
  subst hL
  unfold rb
  have e := own_get (own_og (h := h) rfl (g := dI g) (t := t))
  rw [e]
  dsimp only
  have := rbL_rows (k := k) g (h ++ [some (.lst (refs h.length (dI g).length))]) t
  have e2 : h ++ [some (AO.lst (refs h.length (dI g).length))] ++ (dI g).map (fun r => some (AO.lst r)) ++ t = h ++ OG h.length (dI g) ++ t := by unfold OG; simp
  rw [e2] at this
  have e3 : ((List.range g.length).map fun i => SV.r ((h ++ [some (AO.lst (refs h.length (dI g).length))]).length + i)) = refs h.length (dI g).length := by
    unfold refs
    rw [List.length_map]
    apply List.map_congr_left
    intro i _
    rw [List.length_append, List.length_singleton]
  rw [e3] at this
  rw [this]
  rfl
theorem fzL_rows : ∀ (g : List (List Int)) (pre t : AH), fzL 8 (pre ++ (dI g).map (fun r => some (.lst r)) ++ t) ((List.range g.length).map fun i => SV.r (pre.length + i)) = some (g.map eI, pre ++ List.replicate g.length none ++ t)
  | [], pre, t => by show fzL _ _ [] = _; unfold fzL; rfl
  | r :: g, pre, t => by
    have e : (List.range (r :: g).length).map (fun i => SV.r (pre.length + i)) = SV.r pre.length :: (List.range g.length).map fun i => SV.r ((pre ++ [none]).length + i) := by
      rw [List.length_cons, List.range_succ_eq_map, List.map_cons, List.map_map]
      congr 1
      apply List.map_congr_left
      intro i _
      show SV.r (pre.length + (i + 1)) = SV.r ((pre ++ [none]).length + i)
      rw [List.length_append, List.length_singleton]
      congr 1
      omega
    have e2 : pre ++ (dI (r :: g)).map (fun r => some (AO.lst r)) ++ t = pre ++ (oI r :: ((dI g).map (fun r => some (AO.lst r)) ++ t)) := by
      show pre ++ (oI r :: (dI g).map (fun r => some (AO.lst r))) ++ t = _
      simp
    rw [e, e2]
    unfold fzL
    have h1 : fzv 8 (pre ++ (oI r :: ((dI g).map (fun r => some (AO.lst r)) ++ t))) (.r pre.length) = some (eI r, (pre ++ [none]) ++ (dI g).map (fun r => some (AO.lst r)) ++ t) := by
      unfold fzv
      have q : (pre ++ (oI r :: ((dI g).map (fun r => some (AO.lst r)) ++ t)))[pre.length]? = some (oI r) := by
        rw [List.getElem?_append_right (Nat.le_refl _), Nat.sub_self]; rfl
      rw [q]
      dsimp only
      rw [fzL_d]
      dsimp only
      rw [q]
      dsimp only
      rw [if_pos ⟨rfl, rfl⟩]
      congr 2
      rw [List.set_append_right _ _ (Nat.le_refl _), Nat.sub_self, List.set_cons_zero]
      simp
    rw [h1]
    dsimp only
    rw [fzL_rows g (pre ++ [none]) t]
    dsimp only
    congr 2
    rw [List.length_cons, List.replicate_succ]
    simp
theorem fz_og {h : AH} {L : Nat} (hL : h.length = L) {g : List (List Int)} {t : AH} : fzv 9 (h ++ OG L (dI g) ++ t) (.r L) = some (eG g, h ++ [none] ++ List.replicate g.length none ++ t) := by
  subst hL
  unfold fzv
  have e := own_get (own_og (h := h) rfl (g := dI g) (t := t))
  rw [e]
  dsimp only
  have := fzL_rows g (h ++ [some (.lst (refs h.length (dI g).length))]) t
  have e2 : h ++ [some (AO.lst (refs h.length (dI g).length))] ++ (dI g).map (fun r => some (AO.lst r)) ++ t = h ++ OG h.length (dI g) ++ t := by unfold OG; simp
  rw [e2] at this
  have e3 : ((List.range g.length).map fun i => SV.r ((h ++ [some (AO.lst (refs h.length (dI g).length))]).length + i)) = refs h.length (dI g).length := by
    unfold refs
    rw [List.length_map]
    apply List.map_congr_left
    intro i _
    rw [List.length_append, List.length_singleton]
  rw [e3] at this
  rw [this]
  dsimp only
  have q : (h ++ [some (AO.lst (refs h.length (dI g).length))] ++ List.replicate g.length none ++ t)[h.length]? = some (some (.lst (refs h.length (dI g).length))) := by
    rw [List.append_assoc, List.append_assoc, List.getElem?_append_right (Nat.le_refl _), Nat.sub_self]; rfl
  rw [q]
  dsimp only
  rw [if_pos ⟨rfl, by simp [OG, refs_len]⟩]
  congr 2
  rw [List.append_assoc, List.append_assoc, List.set_append_right _ _ (Nat.le_refl _), Nat.sub_self]
  simp
/-! rows made one by one -/
theorem lc_rows {α : Type} {bd : Bd} {fe : FE} {slw : List SV} {f : α → It1} {row : α → List SV} {h0 : AH} : ∀ (xs : List α) (g : List (List SV)), (∀ x ∈ xs, ∃ sl1, bd.go (f x) slw = some sl1 ∧ ∀ hh : AH, h0.length < hh.length → fe sl1 hh = .ok (.r hh.length) (hh ++ [some (.lst (row x))])) → g.length + xs.length ≤ 1000000 →
    lcC h0.length bd fYes fe slw (xs.map f) (h0 ++ OG h0.length g) = .ok () (h0 ++ OG h0.length (g ++ xs.map row))
  | [], g, _, _ => by
    show lcC _ bd fYes fe slw [] _ = _
    unfold lcC
    rw [List.map_nil, List.append_nil]
  | x :: xs, g, st, hl => by
    obtain ⟨sl1, e1, e2⟩ := st x List.mem_cons_self
    show lcC _ bd fYes fe slw (f x :: xs.map f) _ = _
    unfold lcC lcOne
    rw [e1]
    dsimp only
    rw [show ∀ hh : AH, nrz (fYes sl1 hh) = .ok true hh from fun _ => rfl, b_ok, if_pos rfl, e2 _ (by rw [List.length_append, OG_len]; omega)]
    show lcPut h0.length slw (.r (h0 ++ OG h0.length g).length) (h0 ++ OG h0.length g ++ [some (.lst (row x))]) _ = _
    unfold lcPut
    rw [own_get (own_og rfl)]
    dsimp only
    rw [List.length_cons] at hl
    rw [if_pos (by rw [refs_len]; omega)]
    have s : (h0 ++ OG h0.length g ++ [some (AO.lst (row x))]).set h0.length (some (.lst (refs h0.length g.length ++ [.r (h0 ++ OG h0.length g).length]))) = h0 ++ OG h0.length (g ++ [row x]) := by
      have er : refs h0.length (g ++ [row x]).length = refs h0.length g.length ++ [.r (h0 ++ OG h0.length g).length] := by
        have e1 : (h0 ++ OG h0.length g).length = h0.length + 1 + g.length := by rw [List.length_append, OG_len]; omega
        rw [e1, List.length_append, List.length_singleton]
        unfold refs
        rw [List.range_succ, List.map_append]
        rfl
      rw [← er]
      unfold OG
      rw [List.append_assoc, List.set_append_right _ _ (Nat.le_refl _), Nat.sub_self, List.cons_append, List.set_cons_zero, List.map_append]
      rfl
    rw [s]
    have hd : (norm [] (h0.length + 1) slw (h0 ++ OG h0.length (g ++ [row x]))).2 = h0 ++ OG h0.length (g ++ [row x]) := by
      unfold norm
      have c : trimOk (h0.length + 1) (reset [] slw) (h0 ++ OG h0.length (g ++ [row x])) = false := by
        unfold trimOk
        have : ((h0 ++ OG h0.length (g ++ [row x])).take (h0.length + 1)).all (belowO (h0.length + 1)) = false := by
          rw [List.take_append, Nat.add_sub_cancel_left]
          rw [List.all_append]
          have : ((OG h0.length (g ++ [row x])).take 1).all (belowO (h0.length + 1)) = false := by
            unfold OG
            rw [List.take_succ_cons, List.take_zero, List.all_cons]
            have : belowO (h0.length + 1) (some (.lst (refs h0.length (g ++ [row x]).length))) = false := by
              rw [List.length_append, List.length_singleton, refs_s]
              show (below (h0.length + 1) (.r (h0.length + 1)) && _) = false
              rw [bel_r, decide_eq_false (by omega)]
              rfl
            rw [this]; rfl
          rw [this, Bool.and_false]
        rw [this]; rfl
      rw [c]; rfl
    rw [hd]
    have := lc_rows xs (g ++ [row x]) (fun y m => st y (List.mem_cons_of_mem _ m)) (by rw [List.length_append, List.length_singleton]; omega)
    rw [this, List.map_cons, List.append_assoc]; rfl
theorem flc_rows {α : Type} {fi : List SV → AH → R Src} {bd : Bd} {fe : FE} {vs : List Nat} {sl : List SV} {h : AH} {xs : List α} {f : α → It1} {row : α → List SV} (hi : fi sl h = .ok (.cn (xs.map f)) h)
    (st : ∀ x ∈ xs, ∃ sl1, bd.go (f x) (wipeS sl vs) = some sl1 ∧ ∀ hh : AH, h.length < hh.length → fe sl1 hh = .ok (.r hh.length) (hh ++ [some (.lst (row x))])) (hl : xs.length ≤ 1000000) :
    fLc fi bd fYes fe vs sl h = .ok (.r h.length) (h ++ OG h.length (xs.map row)) := by
  unfold fLc
  rw [hi]
  show (lcC h.length bd fYes fe (wipeS sl vs) (xs.map f) (h ++ [some (.lst [])])).bind _ = _
  have := lc_rows (h0 := h) xs [] st (by simpa using hl)
  have e : h ++ OG h.length [] = h ++ [some (.lst [])] := (rfl)
  rw [e] at this
  rw [this]
  rfl
/-! turns that change nothing -/
theorem for_still {sl0 : List SV} {L : Nat} {bd : Bd} {body : FS} {sl : List SV} {h : AH} : ∀ (l : List It1), (∀ x ∈ l, ∃ sl1, bd.go x sl = some sl1 ∧ (body sl1 h).turn sl0 L = some (sl, h)) → forC sl0 L bd body l sl h = .nx sl h
  | [], _ => c_nil
  | x :: l, st => by
    obtain ⟨sl1, e1, e2⟩ := st x List.mem_cons_self
    rw [c_cons, e1]
    show aft sl0 L (body sl1 h) _ = _
    rw [aft_turn e2]
    exact for_still l fun y m => st y (List.mem_cons_of_mem _ m)
theorem forR_still {sl0 : List SV} {L : Nat} {bd : Bd} {body : FS} {sl : List SV} {h : AH} {n : Nat} {xs : List SV} (e : ownL h n = some xs) (st : ∀ x ∈ xs, ∃ sl1, bd.go (.one x) sl = some sl1 ∧ (body sl1 h).turn sl0 L = some (sl, h)) : ∀ (k i : Nat), k + i = xs.length → forR sl0 L bd body n k i sl h = .nx sl h
  | 0, i, hk => by
    conv => lhs; unfold forR
    rw [own_get e]
    dsimp only
    rw [if_pos (by omega)]
  | k + 1, i, hk => by
    have hi : i < xs.length := by omega
    obtain ⟨sl1, e1, e2⟩ := st xs[i] (List.getElem_mem hi)
    conv => lhs; unfold forR
    rw [own_get e]
    dsimp only
    rw [List.getElem?_eq_getElem hi]
    dsimp only
    rw [e1]
    dsimp only
    rw [aft_turn e2]
    exact forR_still e st k (i + 1) (by omega)
/-! ## numbers added into a grid -/
theorem reset_same {s : SV} {as bs : List SV} : reset (s :: as) (s :: bs) = s :: reset as bs := by
  conv => lhs; unfold reset
  cases s <;> rfl
def addG (g : List (List Int)) (i j : Nat) (b : Int) : List (List Int) := g.set i ((g[i]?.getD []).set j (((g[i]?.getD [])[j]?.getD 0) + b))
structure Sq (n : Nat) (g : List (List Int)) : Prop where
  len : g.length = n
  row : ∀ r ∈ g, r.length = n
  nn : ∀ r ∈ g, ∀ e ∈ r, 0 ≤ e
def gsum (g : List (List Int)) : Int := (g.map List.sum).sum
theorem sum_set (r : List Int) (j : Nat) (b : Int) (h : j < r.length) : (r.set j (r[j]?.getD 0 + b)).sum = r.sum + b := by
  induction r generalizing j with
  | nil => simp at h
  | cons x r ih =>
    cases j with
    | zero => simp; omega
    | succ j =>
      have := ih j (by simpa using h)
      simp only [List.set_cons_succ, List.sum_cons, List.getElem?_cons_succ]
      rw [this]; omega
theorem sum_set_of (r : List Int) (j : Nat) (x : Int) (h : j < r.length) : (r.set j x).sum = r.sum + x - r[j]?.getD 0 := by
  have := sum_set r j (x - r[j]?.getD 0) h
  rw [show r[j]?.getD 0 + (x - r[j]?.getD 0) = x from by omega] at this
  omega
theorem getD_in {α : Type} {r : List α} {d : α} {j : Nat} (h : j < r.length) : r[j]?.getD d = r[j] := by
  rw [List.getElem?_eq_getElem h]; rfl
theorem Sq.get {n : Nat} {g : List (List Int)} (s : Sq n g) {i : Nat} (h : i < n) : ∃ r, g[i]? = some r ∧ r ∈ g ∧ r.length = n := by
  have hi : i < g.length := by rw [s.len]; exact h
  exact ⟨g[i], List.getElem?_eq_getElem hi, List.getElem_mem hi, s.row _ (List.getElem_mem hi)⟩
theorem Sq.add {n : Nat} {g : List (List Int)} (s : Sq n g) {i j : Nat} {b : Int} (hi : i < n) (hj : j < n) (hb : 0 ≤ b) : Sq n (addG g i j b) := by
  obtain ⟨r, e, hm, hl⟩ := s.get hi
  unfold addG
  rw [e]
  show Sq n (g.set i (r.set j (r[j]?.getD 0 + b)))
  refine ⟨by rw [List.length_set]; exact s.len, fun q hq => ?_, fun q hq x hx => ?_⟩
  · rcases List.mem_or_eq_of_mem_set hq with h | h
    · exact s.row q h
    · rw [h, List.length_set]; exact hl
  · rcases List.mem_or_eq_of_mem_set hq with h | h
    · exact s.nn q h x hx
    · rw [h] at hx
      rcases List.mem_or_eq_of_mem_set hx with h2 | h2
      · exact s.nn r hm x h2
      · have hj' : j < r.length := by rw [hl]; exact hj
        rw [h2, getD_in hj']
        have := s.nn r hm _ (List.getElem_mem hj')
        omega
theorem gsum_add {n : Nat} {g : List (List Int)} (s : Sq n g) {i j : Nat} {b : Int} (hi : i < n) (hj : j < n) : gsum (addG g i j b) = gsum g + b := by
  obtain ⟨r, e, hm, hl⟩ := s.get hi
  unfold addG gsum
  rw [e]
  show ((g.set i (r.set j (r[j]?.getD 0 + b))).map List.sum).sum = _
  rw [List.map_set, sum_set_of _ _ _ (by rw [List.length_map, s.len]; exact hi), sum_set r j b (by rw [hl]; exact hj), List.getElem?_map, e]
  show (g.map List.sum).sum + (r.sum + b) - r.sum = _
  omega
theorem og_ix {g : List (List SV)} {t : AH} {i : Int} (h0 : 0 ≤ i) (h1 : i < g.length) : gIx (.r 0) (.d (.int i)) (OG 0 g ++ t) = .ok (.r (1 + i.toNat)) (OG 0 g ++ t) := by
  have e := own_og (h := []) (L := 0) rfl (g := g) (t := t)
  rw [List.nil_append] at e
  rw [o_ix, e]
  show opt (atI (refs 0 g.length) i) _ _ = _
  rw [atI_0 h0, refs_get (by omega)]
  show R.ok (SV.r (0 + 1 + i.toNat)) _ = _
  rw [Nat.zero_add]
theorem og_row {g : List (List Int)} {t : AH} {i : Nat} {r : List Int} (e : g[i]? = some r) : ownL (OG 0 (dI g) ++ t) (1 + i) = some ((r.map PyData.int).map SV.d) := by
  have e2 : (dI g)[i]? = some ((r.map PyData.int).map SV.d) := by rw [List.getElem?_map, e]; rfl
  have := own_row (h := []) (L := 0) rfl (t := t) e2
  rw [List.nil_append, Nat.zero_add] at this
  exact this
theorem og_set {g : List (List Int)} {t : AH} {i : Nat} {r : List Int} (hi : i < g.length) : (OG 0 (dI g) ++ t).set (1 + i) (some (.lst ((r.map PyData.int).map SV.d))) = OG 0 (dI (g.set i r)) ++ t := by
  have := set_row (h := []) (L := 0) rfl (g := dI g) (t := t) (r := (r.map PyData.int).map SV.d) (i := i) (by rw [List.length_map]; exact hi)
  rw [List.nil_append, Nat.zero_add, List.nil_append] at this
  rw [this]
  congr 2
  show _ = (g.set i r).map _
  rw [List.map_set]
theorem aug_og {g : List (List Int)} {t : AH} {fo fi fe : FE} {sl : List SV} {i j b : Int} {n : Nat} (s : Sq n g) (ho : fo sl (OG 0 (dI g) ++ t) = .ok (.r (1 + i.toNat)) (OG 0 (dI g) ++ t)) (hi : fi sl (OG 0 (dI g) ++ t) = .ok (.d (.int j)) (OG 0 (dI g) ++ t)) (he : fe sl (OG 0 (dI g) ++ t) = .ok (.d (.int b)) (OG 0 (dI g) ++ t))
    (i0 : 0 ≤ i) (i1 : i < n) (j0 : 0 ≤ j) (j1 : j < n) : sAugS iAdd fo fi fe sl (OG 0 (dI g) ++ t) = .nx sl (OG 0 (dI (addG g i.toNat j.toNat b)) ++ t) := by
  obtain ⟨r, e, hm, hl⟩ := s.get (i := i.toNat) (by omega)
  rw [a_augS, ho, t_ok, hi, t_ok, aug_t, o_lstOf, og_row e, o_some]
  have hj : j.toNat < r.length := by omega
  rw [atI_0 j0, List.getElem?_map, List.getElem?_map, List.getElem?_eq_getElem hj]
  show augX sl iAdd fe (.r (1 + i.toNat)) (.d (.int j)) (OG 0 (dI g) ++ t) (some (.d (.int r[j.toNat]))) = _
  rw [aug_x, he, t_ok, aug_v, o_put, og_row e, o_some, ixN_in j0 (by rw [List.length_map, List.length_map]; omega), o_some, o_some]
  congr 1
  have : (((r.map PyData.int).map SV.d).set j.toNat (.d (.int (iAdd r[j.toNat] b)))) = ((r.set j.toNat (r[j.toNat] + b)).map PyData.int).map SV.d := by
    rw [List.map_set, List.map_set]; rfl
  rw [this, og_set (by rw [s.len]; omega)]
  congr 3
  unfold addG
  rw [e]
  show _ = g.set _ (r.set _ (r[j.toNat]?.getD 0 + b))
  rw [getD_in hj]
theorem OG_len' {g : List (List Int)} : (OG 0 (dI g)).length = g.length + 1 := by rw [OG_len, List.length_map]
theorem zeros_og {n : Nat} : OG 0 ((List.range n).map fun _ => (List.range n).map fun _ => SV.d (.int 0)) = OG 0 (dI (List.replicate n (List.replicate n 0))) := by
  have e : ∀ {α : Type} (m : Nat) (x : α), ((List.range m).map fun _ => x) = List.replicate m x := fun m x => by
    rw [List.map_const', List.length_range]
  rw [e, e]
  congr 1
  unfold dI
  rw [List.map_replicate, List.map_replicate, List.map_replicate]
theorem zeros_sq {n : Nat} : Sq n (List.replicate n (List.replicate n 0)) :=
  ⟨List.length_replicate, fun r h => by rw [List.eq_of_mem_replicate h, List.length_replicate], fun r h e he => by
    rw [List.eq_of_mem_replicate h] at he
    rw [List.eq_of_mem_replicate he]
    exact Int.le_refl 0⟩
theorem zeros_sum {n : Nat} : gsum (List.replicate n (List.replicate n 0)) = 0 := by
  unfold gsum
  have h0 : ∀ m : Nat, (List.replicate m (0 : Int)).sum = 0 := fun m => by
    induction m with
    | zero => rfl
    | succ m ih => rw [List.replicate_succ, List.sum_cons, ih]; rfl
  rw [List.map_replicate, h0, h0]
theorem atI_mem {os : List Int} {i : Int} (h0 : -(os.length : Int) ≤ i) (h1 : i < os.length) : ∃ o ∈ os, atI (os.map PyData.int) i = some (.int o) := by
  rw [atI_map]
  unfold atI ixN
  by_cases hi : 0 ≤ i
  · rw [if_pos hi, if_pos h1]
    have : i.toNat < os.length := by omega
    exact ⟨os[i.toNat], List.getElem_mem this, by rw [Option.bind_some, List.getElem?_eq_getElem this]; rfl⟩
  · rw [if_neg hi, if_pos h0]
    have : (i + os.length).toNat < os.length := by omega
    exact ⟨os[(i + os.length).toNat], List.getElem_mem this, by rw [Option.bind_some, List.getElem?_eq_getElem this]; rfl⟩
theorem own_g0 {g : List (List SV)} {t : AH} : ownL (OG 0 g ++ t) 0 = some (refs 0 g.length) := (rfl)
theorem own_g1 {g : List (List SV)} : ownL (OG 0 g) 0 = some (refs 0 g.length) := (rfl)
theorem og_at {n : Nat} {i : Int} (h0 : 0 ≤ i) (h1 : i < n) : atI (refs 0 n) i = some (.r (1 + i.toNat)) := by
  rw [atI_0 h0, refs_get (by omega), Nat.zero_add]
/-! ## lists put together -/
theorem cat_of {s t : SV} {h : AH} {xs ys : List SV} (a : lstOf h s = some xs) (b : lstOf h t = some ys) (l : xs.length + ys.length < lim) : gAdd s t h = .ok (.r h.length) (h ++ [some (.lst (xs ++ ys))]) := by
  have e : gI (fun _ _ => true) (fun i j => .int (i + j)) s t h = .st := by
    cases s with
    | d x => cases x <;> first | rfl | (unfold lstOf at a; cases a)
    | _ => rfl
  unfold gAdd gOr
  rw [e]
  dsimp only
  unfold gCat
  rw [a, b]
  dsimp only
  rw [if_pos l]
theorem lst_d {h : AH} {ds : List PyData} : lstOf h (.d (.list ds)) = some (ds.map SV.d) := (rfl)
theorem lst_v {h : AH} {ds : List PyData} : lstOf h (.vw (.list ds)) = some (ds.map mkv) := (rfl)
/-- frozen a + b, both data -/
theorem fz_cat {h : AH} {sl : List SV} {as bs : List PyData} (l : as.length + bs.length < lim) (c1 : h.all (belowO h.length) = true) (c2 : sl.all (below h.length) = true) :
    ((gAdd (.d (.list as)) (.d (.list bs)) h).bind fun s h1 => opt (fzv 9 h1 s) (fun p : PyData × AH => (R.ok (SV.d p.1) (trimE h.length sl p.2) : R SV)) (.st : R SV)) = .ok (.d (.list (as ++ bs))) h := by
  rw [cat_of lst_d lst_d (by rw [List.length_map, List.length_map]; exact l), b_ok]
  have := fz_last (h := h) (ds := as ++ bs)
  rw [List.map_append] at this
  rw [this, o_some]
  show R.ok _ (trimE h.length sl (h ++ [none])) = _
  rw [trim_ok c1 c2]
theorem bools_all {ds : List PyData} {h : AH} {bs : List Bool} (e : ds = bs.map PyData.bool) {k : List Bool → Bool} : gBools k [.d (.list ds)] h = .ok (.d (.bool (k bs))) h := by
  have : ∀ bs : List Bool, bolsOf ((bs.map PyData.bool).map SV.d) = some bs := fun bs => by
    induction bs with
    | nil => rfl
    | cons b bs ih =>
      show (bolsOf ((bs.map PyData.bool).map SV.d)).map (b :: ·) = _
      rw [ih]; rfl
  unfold gBools
  dsimp only
  rw [lst_d, e]
  dsimp only
  rw [this]
theorem flatMap_s {α : Type} {f : Nat → List α} {m : Nat} : (List.range (m + 1)).flatMap f = (List.range m).flatMap f ++ f m := by
  rw [List.range_succ, List.flatMap_append]
  simp
theorem flatMap_len {α : Type} {f : Nat → List α} {B : Nat} : ∀ m : Nat, (∀ i, i < m → (f i).length ≤ B) → ((List.range m).flatMap f).length ≤ m * B
  | 0, _ => by simp
  | m + 1, h => by
    rw [flatMap_s, List.length_append]
    have := flatMap_len m fun i hi => h i (Nat.lt_succ_of_lt hi)
    have := h m (Nat.lt_succ_self m)
    rw [Nat.succ_mul]
    omega
theorem og_bel {g : List (List Int)} {L : Nat} (hL : L = (OG 0 (dI g)).length) : (OG 0 (dI g)).all (belowO L) = true := by
  subst hL
  rw [OG_len']
  unfold OG
  rw [List.all_cons, Bool.and_eq_true]
  constructor
  · rw [bel_o, List.all_eq_true]
    intro s hs
    unfold refs at hs
    obtain ⟨i, hi, rfl⟩ := List.mem_map.mp hs
    have := List.mem_range.mp hi
    rw [List.length_map] at this
    rw [bel_r]
    exact decide_eq_true (by omega)
  · rw [List.all_eq_true]
    intro o ho
    obtain ⟨r, hr, rfl⟩ := List.mem_map.mp ho
    obtain ⟨ns, _, rfl⟩ := List.mem_map.mp hr
    rw [bel_o, below_d]
theorem norm_og {g : List (List Int)} {t : AH} {L : Nat} {sl0 sl : List SV} (hL : L = (OG 0 (dI g)).length) (b : (reset sl0 sl).all (below L) = true) : norm sl0 L sl (OG 0 (dI g) ++ t) = (reset sl0 sl, OG 0 (dI g)) := by
  have e : (OG 0 (dI g) ++ t).take L = OG 0 (dI g) := by rw [hL]; exact List.take_left
  rw [norm_ok (by rw [e]; exact og_bel hL) b, e]
theorem trim_og {g : List (List Int)} {t : AH} {L : Nat} {sl : List SV} (hL : L = (OG 0 (dI g)).length) (b : sl.all (below L) = true) : trimE L sl (OG 0 (dI g) ++ t) = OG 0 (dI g) := by
  have e : (OG 0 (dI g) ++ t).take L = OG 0 (dI g) := by rw [hL]; exact List.take_left
  rw [trim_g (by rw [e]; exact og_bel hL) b, e]
theorem shh_ds {L : Nat} {ds : List PyData} : shh L [some (.lst (ds.map SV.d))] = [some (.lst (ds.map SV.d))] := by
  unfold shh
  show [some (AO.lst ((ds.map SV.d).map (shv L)))] = _
  rw [List.map_map]
  rfl
theorem own_at {h : AH} {xs : List SV} {L : Nat} (hL : L = h.length) : ownL (h ++ [some (.lst xs)]) L = some xs := by rw [hL]; exact own_last
theorem set_at {h : AH} {o o' : Option AO} {L : Nat} (hL : L = h.length) : (h ++ [o]).set L o' = h ++ [o'] := by
  rw [hL, List.set_append_right _ _ (Nat.le_refl _), Nat.sub_self, List.set_cons_zero]
theorem rb_g0 {g : List (List Int)} {t : AH} : rb (OG 0 (dI g) ++ t) 9 (.r 0) = some (eG g) := by
  have := rb_og (h := []) (L := 0) rfl (g := g) (t := t) (k := 7)
  exact this
theorem rb_g1 {g : List (List Int)} : rb (OG 0 (dI g)) 9 (.r 0) = some (eG g) := by
  have := rb_g0 (g := g) (t := [])
  rw [List.append_nil] at this
  exact this
theorem ty_int {h : AH} {i : Int} : tyOf h (.d (.int i)) = some "int" := (rfl)
theorem ty_bool {h : AH} {i : Bool} : tyOf h (.d (.bool i)) = some "bool" := (rfl)
theorem ty_tup {h : AH} {i : List PyData} : tyOf h (.d (.tuple i)) = some "tuple" := (rfl)
theorem ty_list {h : AH} {i : List PyData} : tyOf h (.d (.list i)) = some "list" := (rfl)
theorem ty_none {h : AH} : tyOf h (.d .none) = some "NoneType" := (rfl)
theorem ty_vtup {h : AH} {i : List PyData} : tyOf h (.vw (.tuple i)) = some "tuple" := (rfl)
theorem ty_vlist {h : AH} {i : List PyData} : tyOf h (.vw (.list i)) = some "list" := (rfl)
theorem is_ii : isTy "int" "int" = some true := by decide
theorem is_ib : isTy "int" "bool" = some false := by decide
theorem is_bb : isTy "bool" "bool" = some true := by decide
theorem is_bi : isTy "bool" "int" = some true := by decide
theorem is_ll : isTy "list" "list" = some true := by decide
theorem is_tt : isTy "tuple" "tuple" = some true := by decide
theorem is_lt : isTy "list" "tuple" = some false := by decide
theorem is_tl : isTy "tuple" "list" = some false := by decide
/-- a frozen comprehension over an owned list that stays -/
theorem lcR_fun {L n : Nat} {bd : Bd} {fe : FE} {slw : List SV} {v : SV → SV} {h0 : AH} {xs : List SV} (hL : L = h0.length) (e : ownL h0 n = some xs) (st : ∀ x ∈ xs, ∃ sl1, bd.go (.one x) slw = some sl1 ∧ ∀ acc, fe sl1 (h0 ++ [some (.lst acc)]) = .ok (v x) (h0 ++ [some (.lst acc)])) (hl : xs.length ≤ 1000000) :
    ∀ (k i : Nat), k + i = xs.length → lcR L bd fYes fe slw n k i (h0 ++ [some (.lst ((xs.take i).map v))]) = .ok () (h0 ++ [some (.lst (xs.map v))])
  | 0, i, hk => by
    have hn : n < h0.length := (List.getElem?_eq_some_iff.mp (own_get e)).1
    have eg : ∀ acc, (h0 ++ [some (AO.lst acc)])[n]? = some (some (.lst xs)) := fun acc => by rw [List.getElem?_append_left hn]; exact own_get e
    conv => lhs; unfold lcR
    rw [eg]
    dsimp only
    rw [if_pos (by omega), List.take_of_length_le (by omega)]
  | k + 1, i, hk => by
    have hn : n < h0.length := (List.getElem?_eq_some_iff.mp (own_get e)).1
    have eg : ∀ acc, (h0 ++ [some (AO.lst acc)])[n]? = some (some (.lst xs)) := fun acc => by rw [List.getElem?_append_left hn]; exact own_get e
    have hi : i < xs.length := by omega
    obtain ⟨sl1, e1, e2⟩ := st xs[i] (List.getElem_mem hi)
    conv => lhs; unfold lcR
    rw [eg]
    dsimp only
    rw [List.getElem?_eq_getElem hi]
    dsimp only
    unfold lcOne
    rw [e1]
    dsimp only
    rw [show ∀ hh : AH, nrz (fYes sl1 hh) = .ok true hh from fun _ => rfl, b_ok, if_pos rfl, e2 _]
    show lcPut L slw (v xs[i]) (h0 ++ [some (.lst ((xs.take i).map v))]) _ = _
    unfold lcPut
    have g : (h0 ++ [some (AO.lst ((xs.take i).map v))])[L]? = some (some (.lst ((xs.take i).map v))) := by rw [hL]; simp
    rw [g]
    dsimp only
    rw [if_pos (by rw [List.length_map, List.length_take]; omega), set_at hL, norm_len (by rw [hL]; simp)]
    dsimp only
    have := lcR_fun hL e st hl k (i + 1) (by omega)
    have et : xs.take (i + 1) = xs.take i ++ [xs[i]] := by
      first
        | (rw [List.take_add_one, List.getElem?_eq_getElem hi]; rfl)
        | (rw [List.take_succ, List.getElem?_eq_getElem hi]; rfl)
        | exact (List.take_append_getElem hi).symm
    rw [et, List.map_append] at this
    exact this
theorem flcR_fun {fi : List SV → AH → R Src} {bd : Bd} {fe : FE} {vs : List Nat} {sl : List SV} {h : AH} {n : Nat} {xs : List SV} {v : SV → SV} (hi : fi sl h = .ok (.ow n) h) (e : ownL h n = some xs)
    (st : ∀ x ∈ xs, ∃ sl1, bd.go (.one x) (wipeS sl vs) = some sl1 ∧ ∀ acc, fe sl1 (h ++ [some (.lst acc)]) = .ok (v x) (h ++ [some (.lst acc)])) (hl : xs.length ≤ 1000000) :
    fLc fi bd fYes fe vs sl h = .ok (.r h.length) (h ++ [some (.lst (xs.map v))]) := by
  unfold fLc
  rw [hi, b_ok]
  dsimp only
  rw [own_get e]
  dsimp only
  have := lcR_fun (L := h.length) rfl e st hl xs.length 0 rfl
  rw [List.take_zero, List.map_nil] at this
  rw [this]
  rfl
theorem below_mono {L M : Nat} (h : L ≤ M) {s : SV} (b : below L s = true) : below M s = true := by
  cases s with
  | r n =>
    rw [bel_r] at b ⊢
    exact decide_eq_true (Nat.lt_of_lt_of_le (of_decide_eq_true b) h)
  | _ => rfl
theorem belowO_mono {L M : Nat} (h : L ≤ M) {o : Option AO} (b : belowO L o = true) : belowO M o = true := by
  cases o with
  | none => rfl
  | some o => cases o with
    | lst xs =>
      rw [bel_o, List.all_eq_true] at b ⊢
      exact fun x hx => below_mono h (b x hx)
    | dct kvs =>
      have b : (kvs.map Prod.snd).all (below L) = true := b
      show (kvs.map Prod.snd).all (below M) = true
      rw [List.all_eq_true] at b ⊢
      exact fun x hx => below_mono h (b x hx)
    | tup xs =>
      have b : xs.all (below L) = true := b
      show xs.all (below M) = true
      rw [List.all_eq_true] at b ⊢
      exact fun x hx => below_mono h (b x hx)
theorem bel_app {h : AH} {o : Option AO} (a : h.all (belowO h.length) = true) (b : belowO (h.length + 1) o = true) : (h ++ [o]).all (belowO (h ++ [o]).length) = true := by
  rw [List.length_append, List.length_singleton, List.all_append, List.all_cons, List.all_nil, b, Bool.and_true, Bool.and_true]
  rw [List.all_eq_true] at a
  exact List.all_eq_true.mpr fun x hx => belowO_mono (Nat.le_succ _) (a x hx)
theorem bel_ds {L : Nat} {ds : List PyData} : belowO L (some (.lst (ds.map SV.d))) = true := below_d ds L
theorem rbL_of {h h' : AH} {k : Nat} (ih : ∀ s x, rb h k s = some x → rb h' k s = some x) : ∀ (xs : List SV) (ds : List PyData), rbL h k xs = some ds → rbL h' k xs = some ds
  | [], ds, e => by unfold rbL at e ⊢; exact e
  | s :: xs, ds, e => by
    unfold rbL at e ⊢
    split at e
    · rename_i d ed
      split at e
      · rename_i ds2 e2
        cases e
        rw [ih s d ed]
        dsimp only
        rw [rbL_of ih xs ds2 e2]
      · cases e
    · cases e
theorem rb_app {h t : AH} : ∀ (k : Nat) (s : SV) (x : PyData), rb h k s = some x → rb (h ++ t) k s = some x
  | k, .un, x, e => by unfold rb at e; cases e
  | k, .d y, x, e => by rw [rb_d] at e ⊢; exact e
  | k, .vw y, x, e => by rw [rb_vw] at e ⊢; exact e
  | k, .sc y, x, e => by unfold rb at e; cases e
  | k, .ex y, x, e => by unfold rb at e; cases e
  | 0, .r n, x, e => by unfold rb at e; cases e
  | k + 1, .r n, x, e => by
    unfold rb at e ⊢
    split at e
    · rename_i xs hx
      rw [List.getElem?_append_left (List.getElem?_eq_some_iff.mp hx).1, hx]
      dsimp only
      cases e2 : rbL h k xs with
      | none => rw [e2] at e; cases e
      | some ds =>
        rw [e2] at e
        rw [rbL_of (rb_app k) xs ds e2]
        exact e
    · rename_i kvs hx
      rw [List.getElem?_append_left (List.getElem?_eq_some_iff.mp hx).1, hx]
      dsimp only
      cases e2 : rbL h k (kvs.map Prod.snd) with
      | none => rw [e2] at e; cases e
      | some ds =>
        rw [e2] at e
        rw [rbL_of (rb_app k) _ ds e2]
        exact e
    · rename_i xs hx
      rw [List.getElem?_append_left (List.getElem?_eq_some_iff.mp hx).1, hx]
      dsimp only
      cases e2 : rbL h k xs with
      | none => rw [e2] at e; cases e
      | some ds =>
        rw [e2] at e
        rw [rbL_of (rb_app k) xs ds e2]
        exact e
    · cases e
theorem og_row1 {g : List (List Int)} {i : Nat} {r : List Int} (e : g[i]? = some r) : ownL (OG 0 (dI g)) (1 + i) = some ((r.map PyData.int).map SV.d) := by
  have := og_row (t := []) e
  rw [List.append_nil] at this
  exact this
theorem og_set1 {g : List (List Int)} {i : Nat} {r : List Int} (hi : i < g.length) : (OG 0 (dI g)).set (1 + i) (some (.lst ((r.map PyData.int).map SV.d))) = OG 0 (dI (g.set i r)) := by
  have := og_set (t := []) (r := r) hi
  rw [List.append_nil, List.append_nil] at this
  exact this
/-- the first row put for another -/
theorem rb_swap {r z : List Int} {gs : List (List Int)} : rb (((OG 0 (dI (r :: gs))) ++ [oI z]).set 0 (some (.lst ((refs 0 (gs.length + 1)).set 0 (.r (OG 0 (dI (r :: gs))).length))))) 9 (.r 0) = some (eG (z :: gs)) := by
  rw [refs_s, List.set_cons_zero]
  generalize eL : (OG 0 (dI (r :: gs))).length = L
  have e1 : ((OG 0 (dI (r :: gs))) ++ [oI z]).set 0 (some (.lst (.r L :: refs (0 + 1) gs.length))) = [some (.lst (.r L :: refs (0 + 1) gs.length)), oI r] ++ (dI gs).map (fun r => some (.lst r)) ++ [oI z] := by
    unfold OG
    simp
  rw [e1]
  have hz : rb ([some (.lst (.r L :: refs (0 + 1) gs.length)), oI r] ++ (dI gs).map (fun r => some (.lst r)) ++ [oI z]) 8 (.r L) = some (eI z) := by
    refine rb_own (own_at ?_)
    rw [← eL, OG_len']
    simp
  have hr := rbL_rows (k := 7) gs [some (.lst (.r L :: refs (0 + 1) gs.length)), oI r] [oI z]
  unfold rb
  show ((rbL _ 8 (.r L :: refs (0 + 1) gs.length)).map PyData.list) = _
  unfold rbL
  rw [hz]
  dsimp only
  have e2 : refs (0 + 1) gs.length = (List.range gs.length).map fun i => SV.r ([some (AO.lst (.r L :: refs (0 + 1) gs.length)), oI r].length + i) := by
    unfold refs
    rfl
  rw [← e2] at hr
  rw [hr]
  rfl
end Zx

namespace Zx
open PySem PySem.Spec L2
/-! ## the program's own errors -/
/-- a class over ValueError without an __init__ of its own -/
structure ExO (K : PySem.W.Frag) (mg : Str → Option Value) (n : Str) (C : Addr) : Prop where
  g : mg n = some (.ref C)
  x : PySem.W.excIn K C [.type "ValueError", .type "Exception", .type "BaseException", .type "object"] "ValueError.__new__" = true
  k : PySem.W.keepIn K (.ref C) = true
  b : PySem.W.subIn K (.ref C) (.type "BaseException") = some true
  t : PySem.W.typeIn K (.ref C) = some (.type "type")
theorem ss_raiseO {X : Cx} {W : WX} {cl m : Str} {j : Nat} {p p2 pos pos' : Pos} (hc : X.calm = true) (tk : Takes X W) (o : ∃ C, ExO X.K X.mg cl C) (hg : Gl X cl) (hdb : (cl == ("__debug__" : Str)) = false := by decide) : SS X W (.Raise (some (.Call (.Name cl p) [.Constant (.str m) j p2] [] pos')) none pos) (sRaise cl) := by
  obtain ⟨C, o⟩ := o
  exact ss_raise hc tk o.g (pmk_own PySem.F.excBase_ValueError o.x o.g o.k (raises_own o.b o.t) hg hdb)
/-! ## frozen comprehensions of data within comprehensions -/
theorem lc_funD {α : Type} {L : Nat} {bd : Bd} {fe : FE} {slw : List SV} {f : α → It1} {v : α → PyData} {h0 : AH} (hL : L = h0.length) : ∀ (xs : List α) (ds : List PyData), (∀ x ∈ xs, ∃ sl1, bd.go (f x) slw = some sl1 ∧ ∀ ds : List PyData, fe sl1 (h0 ++ [some (.lst (ds.map SV.d))]) = .ok (.d (v x)) (h0 ++ [some (.lst (ds.map SV.d))])) → ds.length + xs.length ≤ 1000000 →
    lcC L bd fYes fe slw (xs.map f) (h0 ++ [some (.lst (ds.map SV.d))]) = .ok () (h0 ++ [some (.lst ((ds ++ xs.map v).map SV.d))])
  | [], ds, _, _ => by
    show lcC L bd fYes fe slw [] _ = _
    unfold lcC
    rw [List.map_nil, List.append_nil]
  | x :: xs, ds, st, hl => by
    obtain ⟨sl1, e1, e2⟩ := st x List.mem_cons_self
    show lcC L bd fYes fe slw (f x :: xs.map f) _ = _
    unfold lcC lcOne
    rw [e1]
    dsimp only
    rw [show ∀ hh : AH, nrz (fYes sl1 hh) = .ok true hh from fun _ => rfl, b_ok, if_pos rfl, e2 ds]
    show lcPut L slw (.d (v x)) (h0 ++ [some (.lst (ds.map SV.d))]) _ = _
    unfold lcPut
    have g : (h0 ++ [some (AO.lst (ds.map SV.d))])[L]? = some (some (.lst (ds.map SV.d))) := by rw [hL]; simp
    rw [g]
    dsimp only
    rw [List.length_cons] at hl
    rw [if_pos (by rw [List.length_map]; omega), set_at hL, norm_len (by rw [hL]; simp)]
    dsimp only
    have := lc_funD hL xs (ds ++ [v x]) (fun y m => st y (List.mem_cons_of_mem _ m)) (by rw [List.length_append, List.length_singleton]; omega)
    rw [List.map_append] at this
    rw [show (ds.map SV.d ++ [SV.d (v x)]) = ds.map SV.d ++ List.map SV.d [v x] from rfl, this, List.map_cons, List.append_assoc]; rfl
theorem fzlc_D {α : Type} {fi : List SV → AH → R Src} {bd : Bd} {fe : FE} {vs : List Nat} {sl : List SV} {h : AH} {xs : List α} {f : α → It1} {v : α → PyData} (hi : fi sl h = .ok (.cn (xs.map f)) h)
    (st : ∀ x ∈ xs, ∃ sl1, bd.go (f x) (wipeS sl vs) = some sl1 ∧ ∀ ds : List PyData, fe sl1 (h ++ [some (.lst (ds.map SV.d))]) = .ok (.d (v x)) (h ++ [some (.lst (ds.map SV.d))])) (hl : xs.length ≤ 1000000) (c1 : h.all (belowO h.length) = true) (c2 : sl.all (below h.length) = true) :
    fFz (fLc fi bd fYes fe vs) sl h = .ok (.d (.list (xs.map v))) h := by
  rw [a_fz]
  have e : fLc fi bd fYes fe vs sl h = .ok (.r h.length) (h ++ [some (.lst ((xs.map v).map SV.d))]) := by
    unfold fLc
    rw [hi]
    show (lcC h.length bd fYes fe (wipeS sl vs) (xs.map f) (h ++ [some (.lst [])])).bind _ = _
    have := lc_funD (L := h.length) (v := v) rfl xs [] st (by simpa using hl)
    rw [List.map_nil, List.nil_append] at this
    rw [this]; rfl
  rw [e, b_ok, fz_last, o_some, trim_ok c1 c2]
end Zx

namespace Zx
open PySem PySem.Spec L2
/-! ## try: .. except C as e: .. -/
def noEx : SV → Bool
  | .ex _ => false
  | _ => true
def noExO : Option AO → Bool
  | some (.lst xs) => xs.all noEx
  | some (.dct kvs) => (kvs.map Prod.snd).all noEx
  | some (.tup xs) => xs.all noEx
  | none => true
theorem RS.toEx {en : En} {w : Wd} {v : V} {s : SV} {x : Option Value} (hn : en.ex = none) (r : RS en w v s) : RS { en with ex := x } w v s := by
  cases s with
  | ex c => obtain ⟨a, _, e⟩ := r; rw [hn] at e; cases e
  | un => exact trivial
  | d y => exact r
  | vw y => exact r
  | r n => exact r
  | sc y => exact r
theorem RS.ofEx {en : En} {w : Wd} {v : V} {s : SV} {x : Option Value} (hn : noEx s = true) (r : RS { en with ex := x } w v s) : RS en w v s := by
  cases s with
  | ex c => cases hn
  | un => exact trivial
  | d y => exact r
  | vw y => exact r
  | r n => exact r
  | sc y => exact r
theorem RSL.toEx {en : En} {w : Wd} {x : Option Value} (hn : en.ex = none) : ∀ {ss : List SV} {vs : List V}, RSL en w vs ss → RSL { en with ex := x } w vs ss
  | [], vs, r => r
  | s :: ss, vs, ⟨v, q, e, a, b⟩ => ⟨v, q, e, RS.toEx hn a, RSL.toEx hn b⟩
theorem RSL.ofEx {en : En} {w : Wd} {x : Option Value} : ∀ {ss : List SV} {vs : List V}, ss.all noEx = true → RSL { en with ex := x } w vs ss → RSL en w vs ss
  | [], vs, _, r => r
  | s :: ss, vs, c, ⟨v, q, e, a, b⟩ => by
    rw [List.all_cons, Bool.and_eq_true] at c
    exact ⟨v, q, e, RS.ofEx c.1 a, RSL.ofEx c.2 b⟩
theorem SimH.toEx {en : En} {w : Wd} {H : Hp} {h : AH} {x : Option Value} (hn : en.ex = none) (S : SimH en w H h) : SimH { en with ex := x } w H h :=
  ⟨S.gh, S.fh, S.f0, S.nw, S.ti, S.len, fun n o e => by
    obtain ⟨a, ea, q, f, g⟩ := S.live n o e
    refine ⟨a, ea, ?_, f, g⟩
    cases o with
    | lst xs =>
      obtain ⟨vs, hv, rl⟩ := q
      exact ⟨vs, hv, RSL.toEx hn rl⟩
    | dct kvs =>
      obtain ⟨vs, hv, ek, rl⟩ := q
      exact ⟨vs, hv, ek, RSL.toEx hn rl⟩
    | tup xs =>
      obtain ⟨vs, hv, rl⟩ := q
      exact ⟨vs, hv, RSL.toEx hn rl⟩, S.sep⟩
theorem SimH.ofEx {en : En} {w : Wd} {H : Hp} {h : AH} {x : Option Value} (c : h.all noExO = true) (S : SimH { en with ex := x } w H h) : SimH en w H h :=
  ⟨S.gh, S.fh, S.f0, S.nw, S.ti, S.len, fun n o e => by
    obtain ⟨a, ea, q, f, g⟩ := S.live n o e
    refine ⟨a, ea, ?_, f, g⟩
    cases o with
    | lst xs =>
      obtain ⟨vs, hv, rl⟩ := q
      have := List.all_eq_true.mp c _ (List.mem_of_getElem? e)
      exact ⟨vs, hv, RSL.ofEx this rl⟩
    | dct kvs =>
      obtain ⟨vs, hv, ek, rl⟩ := q
      have := List.all_eq_true.mp c _ (List.mem_of_getElem? e)
      exact ⟨vs, hv, ek, RSL.ofEx this rl⟩
    | tup xs =>
      obtain ⟨vs, hv, rl⟩ := q
      have := List.all_eq_true.mp c _ (List.mem_of_getElem? e)
      exact ⟨vs, hv, RSL.ofEx this rl⟩, S.sep⟩
theorem Slt.toEx {en : En} {w : Wd} {σ : St} {sl : List SV} {x : Option Value} (hn : en.ex = none) (q : Slt en w σ sl) : Slt { en with ex := x } w σ sl :=
  ⟨q.1, fun i s e => (q.2 i s e).imp_right fun ⟨v, ev, r⟩ => ⟨v, ev, RS.toEx hn r⟩⟩
theorem Slt.ofEx {en : En} {w : Wd} {σ : St} {sl : List SV} {x : Option Value} (c : sl.all noEx = true) (q : Slt { en with ex := x } w σ sl) : Slt en w σ sl :=
  ⟨q.1, fun i s e => (q.2 i s e).imp_right fun ⟨v, ev, r⟩ => ⟨v, ev, RS.ofEx (List.all_eq_true.mp c _ (List.mem_of_getElem? e)) r⟩⟩
theorem Slt.unset {en : En} {w : Wd} {σ : St} {sl : List SV} (q : Slt en w σ sl) (i : Nat) : Slt en w (σ.set i none) (sl.set i .un) := by
  refine ⟨by rw [List.length_set, List.length_set]; exact q.1, fun j s e => ?_⟩
  by_cases hj : i = j
  · subst hj
    have hl : i < sl.length := by
      have := (List.getElem?_eq_some_iff.mp e).1
      rw [List.length_set] at this
      exact this
    rw [List.getElem?_set_self hl] at e
    exact .inl (Option.some.inj e).symm
  · rw [List.getElem?_set_ne hj] at e ⊢
    exact q.2 j s e
def ended (i : Nat) (o : O) : O := match o with
  | .nx sl h => if ((sl.set i .un).all noEx && h.all noExO) = true then .nx (sl.set i .un) h else .st
  | .bk sl h => if ((sl.set i .un).all noEx && h.all noExO) = true then .bk (sl.set i .un) h else .st
  | .ct sl h => if ((sl.set i .un).all noEx && h.all noExO) = true then .ct (sl.set i .un) h else .st
  | .rt s h => if (noEx s && h.all noExO) = true then .rt s h else .st
  | _ => .st
def sTryAs (i : Nat) (k : Str → Option Bool) (fb : FS) (fh : Str → FS) : FS := fun sl h => match fb sl h with
  | .rz c sl1 h1 => match k c with
    | some true => ended i (fh c (sl1.set i (.ex c)) h1)
    | some false => .rz c sl1 h1
    | none => .st
  | o => o
section
variable {X : Cx} {x n : Str} {cv : Value} {i : Nat} {body suite : List Stmt} {b₀ : Stmt} {np pos pos' : Pos} {fb : FS} {fh : Str → FS} {Wout : WX} {k : Str → Option Bool}
theorem ended_ok {en : En} {w : Wd} {a : Addr} {o : O} {D : Ends} {W2 : WX} (P : PoS X Wout en w (ended i o) D) :
    PoS (X.suite a []) W2 { en with ex := some (.ref a) } w o { nx := fun σ' H' => D.nx (σ'.set i none) H', rt := D.rt, bk := fun σ' H' => D.bk (σ'.set i none) H', ct := fun σ' H' => D.ct (σ'.set i none) H' } := by
  cases o with
  | nx sl h =>
    intro w2 σ2 H2 l S
    unfold ended at P
    dsimp only at P
    split at P
    · rename_i c
      rw [Bool.and_eq_true] at c
      exact P w2 _ H2 l ⟨SimH.ofEx c.2 S.toSimH, Slt.ofEx c.1 (Slt.unset S.slots i)⟩
    · exact False.elim P
  | bk sl h =>
    intro w2 σ2 H2 l S
    unfold ended at P
    dsimp only at P
    split at P
    · rename_i c
      rw [Bool.and_eq_true] at c
      exact P w2 _ H2 l ⟨SimH.ofEx c.2 S.toSimH, Slt.ofEx c.1 (Slt.unset S.slots i)⟩
    · exact False.elim P
  | ct sl h =>
    intro w2 σ2 H2 l S
    unfold ended at P
    dsimp only at P
    split at P
    · rename_i c
      rw [Bool.and_eq_true] at c
      exact P w2 _ H2 l ⟨SimH.ofEx c.2 S.toSimH, Slt.ofEx c.1 (Slt.unset S.slots i)⟩
    · exact False.elim P
  | rt s h =>
    intro w2 H2 v l S r
    unfold ended at P
    dsimp only at P
    split at P
    · rename_i c
      rw [Bool.and_eq_true] at c
      exact P w2 H2 v l (SimH.ofEx c.2 S) (RS.ofEx c.1 r)
    · exact False.elim P
  | rz c sl h => exact False.elim P
  | st => exact False.elim P
theorem ss_try_as (hs : X.stack = X.env :: X.outer) (hf : X.env.frame = some X.env.locals) (hN : X.N.Nodup) (hi : X.N[i]? = some n) (hln : X.env.kindOf n = some .local) (hc : Names X x cv) (tk : Takes X Wout) (hh : X.A.handled = none)
    (hk : ∀ c b u, k c = some b → X.mg c = some u → PySem.W.exmOne X.K u cv = some b)
    (hb : ∀ (W : WX) (pn : List (Addr × Obj)) (xe : Value → Shared → Prop), Takes (X.tr pn xe) W → PassesOwn (model X.prog X.w) X.A X.env xe → SSs (X.tr pn xe) W body fb)
    (hsu : ∀ (a : Addr) (oe : Obj) (cls : Value) (c : Str) (pn : List (Addr × Obj)), Zc cls none oe → (∃ vs, oe.data = .fields vs) → X.mg c = some cls → k c = some true → SSs (X.suite a ((a, oe) :: pn)) (fun _ _ _ _ => False) (b₀ :: suite) (fh c)) :
    SS X Wout (.Try body [.ExceptHandler (some (.Name x np)) (some n) (b₀ :: suite) pos'] [] [] pos) (sTryAs i k fb fh) := by
  refine PS.imp (ps_try_as (tb := fun W => tS X W fb) (ts := fun a cls d => fun D σ H => d = none ∧ ∃ c, X.mg c = some cls ∧ k c = some true ∧ tS (X.suite a []) (fun _ _ _ _ => False) (fh c) D σ H) (Wout := Wout) hs hf hN hi hln hc tk hb (fun a oe cls d pn hz hv => ?_)) ?_
  · refine ⟨fun pins s σ H D I h => ?_⟩
    obtain ⟨hd, c, h1, h2, h3⟩ := h
    subst hd
    exact (hsu a oe cls c pn hz hv h1 h2).run pins s σ H D I h3
  · rintro D σ H ⟨en, w, sl, h, eK, S, P⟩
    refine ⟨en, w, sl, h, eK, S, ?_⟩
    have hn : en.ex = none := eK.2.trans hh
    unfold sTryAs at P
    generalize fb sl h = o at P ⊢
    cases o with
    | nx sl h => exact P
    | bk sl h => exact P
    | ct sl h => exact P
    | rt s h => exact P
    | st => exact P
    | rz c sl1 h1 =>
      intro w' σ' H' l S'
      intro u hu
      dsimp only at P
      split at P
      · rename_i hkc
        refine ⟨true, hk c true u hkc hu, fun _ a na => ⟨rfl, c, hu, hkc, ?_⟩, fun (z : true = false) => nomatch z⟩
        refine ⟨{ en with ex := some (.ref a) }, w', _, h1, ⟨eK.1, rfl⟩, ?_, ended_ok (PoS.mono l P)⟩
        have S1 : Sim { en with ex := some (.ref a) } w' σ' H' sl1 h1 := ⟨SimH.toEx hn S'.toSimH, Slt.toEx hn S'.slots⟩
        exact S1.set (v := .ref a) (s := .ex c) ⟨a, rfl, rfl⟩ i
      · rename_i hkc
        exact ⟨false, hk c false u hkc hu, (fun (z : false = true) => nomatch z), fun _ => P w' σ' H' l S' u hu⟩
      · exact False.elim P
/-- except C: without a name -/
def endedO (o : O) : O := match o with
  | .nx sl h => if (sl.all noEx && h.all noExO) = true then .nx sl h else .st
  | .bk sl h => if (sl.all noEx && h.all noExO) = true then .bk sl h else .st
  | .ct sl h => if (sl.all noEx && h.all noExO) = true then .ct sl h else .st
  | .rt s h => if (noEx s && h.all noExO) = true then .rt s h else .st
  | _ => .st
def sTryO (k : Str → Option Bool) (fb : FS) (fh : Str → FS) : FS := fun sl h => match fb sl h with
  | .rz c sl1 h1 => match k c with
    | some true => endedO (fh c sl1 h1)
    | some false => .rz c sl1 h1
    | none => .st
  | o => o
theorem endedO_ok {en : En} {w : Wd} {a : Addr} {o : O} {D : Ends} {W2 : WX} (P : PoS X Wout en w (endedO o) D) :
    PoS (X.suite a []) W2 { en with ex := some (.ref a) } w o D := by
  cases o with
  | nx sl h =>
    intro w2 σ2 H2 l S
    unfold endedO at P
    dsimp only at P
    split at P
    · rename_i c
      rw [Bool.and_eq_true] at c
      exact P w2 _ H2 l ⟨SimH.ofEx c.2 S.toSimH, Slt.ofEx c.1 S.slots⟩
    · exact False.elim P
  | bk sl h =>
    intro w2 σ2 H2 l S
    unfold endedO at P
    dsimp only at P
    split at P
    · rename_i c
      rw [Bool.and_eq_true] at c
      exact P w2 _ H2 l ⟨SimH.ofEx c.2 S.toSimH, Slt.ofEx c.1 S.slots⟩
    · exact False.elim P
  | ct sl h =>
    intro w2 σ2 H2 l S
    unfold endedO at P
    dsimp only at P
    split at P
    · rename_i c
      rw [Bool.and_eq_true] at c
      exact P w2 _ H2 l ⟨SimH.ofEx c.2 S.toSimH, Slt.ofEx c.1 S.slots⟩
    · exact False.elim P
  | rt s h =>
    intro w2 H2 v l S r
    unfold endedO at P
    dsimp only at P
    split at P
    · rename_i c
      rw [Bool.and_eq_true] at c
      exact P w2 H2 v l (SimH.ofEx c.2 S) (RS.ofEx c.1 r)
    · exact False.elim P
  | rz c sl h => exact False.elim P
  | st => exact False.elim P
theorem ss_try_only (hs : X.stack = X.env :: X.outer) (hf : X.env.frame = some X.env.locals) (hc : Names X x cv) (tk : Takes X Wout) (hh : X.A.handled = none)
    (hk : ∀ c b u, k c = some b → X.mg c = some u → PySem.W.exmOne X.K u cv = some b)
    (hb : ∀ (W : WX) (pn : List (Addr × Obj)) (xe : Value → Shared → Prop), Takes (X.tr pn xe) W → PassesOwn (model X.prog X.w) X.A X.env xe → SSs (X.tr pn xe) W body fb)
    (hsu : ∀ (a : Addr) (oe : Obj) (cls : Value) (c : Str) (pn : List (Addr × Obj)), Zc cls none oe → (∃ vs, oe.data = .fields vs) → X.mg c = some cls → k c = some true → SSs (X.suite a ((a, oe) :: pn)) (fun _ _ _ _ => False) (b₀ :: suite) (fh c)) :
    SS X Wout (.Try body [.ExceptHandler (some (.Name x np)) none (b₀ :: suite) pos'] [] [] pos) (sTryO k fb fh) := by
  refine PS.imp (ps_try_only (tb := fun W => tS X W fb) (ts := fun a cls d => fun D σ H => d = none ∧ ∃ c, X.mg c = some cls ∧ k c = some true ∧ tS (X.suite a []) (fun _ _ _ _ => False) (fh c) D σ H) (Wout := Wout) hs hf hc tk hb (fun a oe cls d pn hz hv => ?_)) ?_
  · refine ⟨fun pins s σ H D I h => ?_⟩
    obtain ⟨hd, c, h1, h2, h3⟩ := h
    subst hd
    exact (hsu a oe cls c pn hz hv h1 h2).run pins s σ H D I h3
  · rintro D σ H ⟨en, w, sl, h, eK, S, P⟩
    refine ⟨en, w, sl, h, eK, S, ?_⟩
    have hn : en.ex = none := eK.2.trans hh
    unfold sTryO at P
    generalize fb sl h = o at P ⊢
    cases o with
    | nx sl h => exact P
    | bk sl h => exact P
    | ct sl h => exact P
    | rt s h => exact P
    | st => exact P
    | rz c sl1 h1 =>
      intro w' σ' H' l S'
      intro u hu
      dsimp only at P
      split at P
      · rename_i hkc
        refine ⟨true, hk c true u hkc hu, fun _ a na => ⟨rfl, c, hu, hkc, ?_⟩, fun (z : true = false) => nomatch z⟩
        exact ⟨{ en with ex := some (.ref a) }, w', _, h1, ⟨eK.1, rfl⟩, ⟨SimH.toEx hn S'.toSimH, Slt.toEx hn S'.slots⟩, endedO_ok (PoS.mono l P)⟩
      · rename_i hkc
        exact ⟨false, hk c false u hkc hu, (fun (z : false = true) => nomatch z), fun _ => P w' σ' H' l S' u hu⟩
      · exact False.elim P
end
/-! ## isinstance of what was caught -/
def lk (c : Str) : List (Str × Bool) → Option Bool
  | [] => none
  | (n, b) :: r => if c = n then some b else lk c r
/-- what an error of the class n (in the table) answers at the class cv -/
def LkP (K : PySem.W.Frag) (mg : Str → Option Value) (cv : Value) (L : List (Str × Bool)) : Prop := ∀ c b u, lk c L = some b → mg c = some u → PySem.W.exmOne K u cv = some b ∧ PySem.W.kitOne K u cv = some b
theorem lkP_nil {K : PySem.W.Frag} {mg : Str → Option Value} {cv : Value} : LkP K mg cv [] := fun c b u h => by cases h
theorem lkP_cons {K : PySem.W.Frag} {mg : Str → Option Value} {cv : Value} {n : Str} {d : Bool} {L : List (Str × Bool)} (h : ∀ u, mg n = some u → PySem.W.exmOne K u cv = some d ∧ PySem.W.kitOne K u cv = some d) (r : LkP K mg cv L) : LkP K mg cv ((n, d) :: L) := fun c b u e hm => by
  unfold lk at e
  split at e
  · rename_i z
    subst z
    cases e
    exact h u hm
  · exact r c b u e hm
/-- the errors in the table are instances that isinstance can ask -/
def LkE (K : PySem.W.Frag) (mg : Str → Option Value) (L : List (Str × Bool)) : Prop := ∀ c b u, lk c L = some b → mg c = some u → ∃ D, u = .ref D ∧ ExcC K D
theorem lkE_nil {K : PySem.W.Frag} {mg : Str → Option Value} : LkE K mg [] := fun c b u h => by cases h
theorem lkE_cons {K : PySem.W.Frag} {mg : Str → Option Value} {n : Str} {d : Bool} {L : List (Str × Bool)} (h : ∀ u, mg n = some u → ∃ D, u = .ref D ∧ ExcC K D) (r : LkE K mg L) : LkE K mg ((n, d) :: L) := fun c b u e hm => by
  unfold lk at e
  split at e
  · rename_i z
    subst z
    exact h u hm
  · exact r c b u e hm
theorem kit_ref {K : PySem.W.Frag} {D C : Addr} {b : Bool} (hd : PySem.W.hasDictIn K C = true) (ht : PySem.W.typeIn K (.ref C) = some (.type "type")) (h : PySem.W.subIn K (.ref D) (.ref C) = some b) (hs : PySem.W.subIn K (.ref C) (.ref C) = some true) : PySem.W.kitOne K (.ref D) (.ref C) = some b := by
  unfold PySem.W.kitOne
  split
  · rename_i z
    have e : D = C := Value.ref.inj (beq_iff_eq.mp z)
    subst e
    rw [hs] at h
    exact h
  · unfold PySem.W.kitCls
    dsimp only
    obtain ⟨cd, hc, _⟩ := PySem.W.any_some hd
    rw [hc, ht]
    exact h
/-- a class of the program beside another: what an error of the one answers at the other -/
structure ExQ (K : PySem.W.Frag) (mg : Str → Option Value) (n y : Str) (b : Bool) : Prop where
  ex : ∃ D C, mg n = some (.ref D) ∧ mg y = some (.ref C) ∧ PySem.W.subIn K (.ref D) (.ref C) = some b ∧ PySem.W.hasDictIn K C = true ∧ PySem.W.typeIn K (.ref C) = some (.type "type") ∧ PySem.W.subIn K (.ref C) (.type "BaseException") = some true ∧ PySem.W.subIn K (.ref C) (.ref C) = some true
theorem ExQ.lk {K : PySem.W.Frag} {mg : Str → Option Value} {n y : Str} {b : Bool} (q : ExQ K mg n y b) {cv : Value} (hy : mg y = some cv) : ∀ u, mg n = some u → PySem.W.exmOne K u cv = some b ∧ PySem.W.kitOne K u cv = some b := by
  intro u hu
  obtain ⟨D, C, h1, h2, h3, h4, h5, h6, h7⟩ := q.ex
  cases h1.symm.trans hu
  cases h2.symm.trans hy
  exact ⟨PySem.W.exm_ref h6 h4 h5 h3, kit_ref h4 h5 h3 h7⟩
def fExI (ob : Option Bool) (fa : FE) : FE := fun sl h => (fa sl h).bind fun s h1 => match s with
  | .ex _ => match ob with
    | some b => .ok (.d (.bool b)) h1
    | none => .st
  | _ => .st
section
variable {X : Cx} {W : WX} {e : Expr} {fe : FE} {a D : Addr} {oe : Obj} {pn : List (Addr × Obj)} {y : Str} {p p2 pos : Pos} {ob : Option Bool} {cv : V} {cvv : Value}
theorem se_isE (C : ExcC X.K D) (hz : Zc (.ref D) none oe) (hv : ∃ vs, oe.data = .fields vs) (hg : Gl (X.suite a ((a, oe) :: pn)) "isinstance") (hm : X.mg "isinstance" = none) (hvb : bootBuiltins "isinstance" = some (.builtin "isinstance"))
    (hT : PE (X.suite a ((a, oe) :: pn)) (.Name y p2) (tC cv)) (hcv : ∀ u, RelV cv u → u = cvv) (hk : ∀ b, ob = some b → PySem.W.kitOne X.K (.ref D) cvv = some b) (ha : SE (X.suite a ((a, oe) :: pn)) W e fe)
    (he : starEach [e, .Name y p2] X.env = (false, eval e X.env) :: starEach [.Name y p2] X.env := by rfl) (hs2 : starEach [.Name y p2] X.env = (false, eval (.Name y p2) X.env) :: starEach [] X.env := by rfl)
    (hpl : (backTo pos (starEach [.Name y p2] X.env)).any (·.1) = false := by rfl) : SE (X.suite a ((a, oe) :: pn)) W (.Call (.Name "isinstance" p) [e, .Name y p2] [] pos) (fExI ob fe) :=
  PE.imp (pe_callB (call_isE C hz hv) hg hm hvb (pa_cons ha (pa_cons hT pa_nil hs2) he) (by decide) (by decide) he hpl) (by
    rintro σ H Q ⟨en, w, sl, h, eK, S, P⟩
    refine ⟨en, w, sl, h, eK, S, Po.bind P fun s h1 v w1 H1 l1 S1 r1 P1 => ?_⟩
    cases s with
    | ex c =>
      obtain ⟨a', e1, e2⟩ := r1
      have e3 : a' = a := by
        have e4 : en.ex = some (.ref a) := eK.2
        rw [e4] at e2
        exact (Value.ref.inj (Option.some.inj e2)).symm
      subst e3
      dsimp only at P1
      split at P1
      · rename_i b
        refine ⟨cv, cvv, b, by rw [e1], hcv, hk b rfl, P1.bool S1⟩
      · exact False.elim P1
    | _ => exact False.elim P1)
end
theorem exF_lk {K : PySem.W.Frag} {mg : Str → Option Value} {n : Str} (f : ∃ D, mg n = some (.ref D) ∧ ExcC K D) : ∀ u, mg n = some u → ∃ D, u = .ref D ∧ ExcC K D := by
  intro u hu
  obtain ⟨D, h1, h2⟩ := f
  cases h1.symm.trans hu
  exact ⟨D, rfl, h2⟩
/-- what an error of the class n (in the table) answers at ValueError -/
def LkT (K : PySem.W.Frag) (mg : Str → Option Value) (L : List (Str × Bool)) : Prop := ∀ c b u, lk c L = some b → mg c = some u → PySem.W.kitOne K u (.type "ValueError") = some b
theorem lkT_nil {K : PySem.W.Frag} {mg : Str → Option Value} : LkT K mg [] := fun c b u h => by cases h
theorem lkT_cons {K : PySem.W.Frag} {mg : Str → Option Value} {n : Str} {L : List (Str × Bool)} (h : ∃ D, mg n = some (.ref D) ∧ PySem.W.subIn K (.ref D) (.type "ValueError") = some true) (r : LkT K mg L) : LkT K mg ((n, true) :: L) := fun c b u e hm => by
  unfold lk at e
  split at e
  · rename_i z
    subst z
    cases e
    obtain ⟨D, h1, h2⟩ := h
    cases h1.symm.trans hm
    exact h2
  · exact r c b u e hm
/-- a whole number that stands at the top -/
theorem se_gint {X : Cx} {W : WX} {x : Str} {i : Int} {p : Pos} (hg : Gl X x) (hm : ∃ u, X.mg x = some u ∧ RelV (.int i) u) (hd : (x == ("__debug__" : Str)) = false := by decide) : SE X W (.Name x p) (fC (.int i)) := by
  obtain ⟨u, h1, h2⟩ := hm
  exact se_c (pe_glob hg h1 h2 hd) fun F => by unfold Rp; rfl
/-! ## frozen comprehensions with a test -/
theorem lc_funF {α : Type} {L : Nat} {bd : Bd} {tt : FT} {fe : FE} {slw : List SV} {f : α → It1} {p : α → Bool} {v : α → PyData} {h0 : AH} (hL : L = h0.length) : ∀ (xs : List α) (ds : List PyData), (∀ x ∈ xs, ∃ sl1, bd.go (f x) slw = some sl1 ∧ ∀ ds : List PyData, tt sl1 (h0 ++ [some (.lst (ds.map SV.d))]) = .ok (p x) (h0 ++ [some (.lst (ds.map SV.d))]) ∧ (p x = true → fe sl1 (h0 ++ [some (.lst (ds.map SV.d))]) = .ok (.d (v x)) (h0 ++ [some (.lst (ds.map SV.d))]))) → ds.length + xs.length ≤ 1000000 →
    lcC L bd tt fe slw (xs.map f) (h0 ++ [some (.lst (ds.map SV.d))]) = .ok () (h0 ++ [some (.lst ((ds ++ (xs.filter p).map v).map SV.d))])
  | [], ds, _, _ => by
    show lcC L bd tt fe slw [] _ = _
    unfold lcC
    rw [List.filter_nil, List.map_nil, List.append_nil]
  | x :: xs, ds, st, hl => by
    obtain ⟨sl1, e1, e2⟩ := st x List.mem_cons_self
    obtain ⟨e3, e4⟩ := e2 ds
    rw [List.length_cons] at hl
    show lcC L bd tt fe slw (f x :: xs.map f) _ = _
    unfold lcC lcOne
    rw [e1]
    dsimp only
    rw [e3, show ∀ (b : Bool) (hh : AH), nrz (R.ok b hh) = .ok b hh from fun _ _ => rfl, b_ok]
    by_cases hp : p x = true
    · rw [if_pos hp, e4 hp, List.filter_cons_of_pos hp]
      show lcPut L slw (.d (v x)) (h0 ++ [some (.lst (ds.map SV.d))]) _ = _
      unfold lcPut
      have g : (h0 ++ [some (AO.lst (ds.map SV.d))])[L]? = some (some (.lst (ds.map SV.d))) := by rw [hL]; simp
      rw [g]
      dsimp only
      rw [if_pos (by rw [List.length_map]; omega), set_at hL, norm_len (by rw [hL]; simp)]
      dsimp only
      have := lc_funF hL xs (ds ++ [v x]) (fun y m => st y (List.mem_cons_of_mem _ m)) (by rw [List.length_append, List.length_singleton]; omega)
      rw [List.map_append] at this
      rw [show (ds.map SV.d ++ [SV.d (v x)]) = ds.map SV.d ++ List.map SV.d [v x] from rfl, this, List.map_cons, List.append_assoc]; rfl
    · rw [if_neg hp, List.filter_cons_of_neg hp, norm_len (by rw [hL]; simp)]
      exact lc_funF hL xs ds (fun y m => st y (List.mem_cons_of_mem _ m)) (by omega)
theorem fzlc_F {α : Type} {fi : List SV → AH → R Src} {bd : Bd} {tt : FT} {fe : FE} {vs : List Nat} {sl : List SV} {h : AH} {xs : List α} {f : α → It1} {p : α → Bool} {v : α → PyData} (hi : fi sl h = .ok (.cn (xs.map f)) h)
    (st : ∀ x ∈ xs, ∃ sl1, bd.go (f x) (wipeS sl vs) = some sl1 ∧ ∀ ds : List PyData, tt sl1 (h ++ [some (.lst (ds.map SV.d))]) = .ok (p x) (h ++ [some (.lst (ds.map SV.d))]) ∧ (p x = true → fe sl1 (h ++ [some (.lst (ds.map SV.d))]) = .ok (.d (v x)) (h ++ [some (.lst (ds.map SV.d))]))) (hl : xs.length ≤ 1000000) (c1 : h.all (belowO h.length) = true) (c2 : sl.all (below h.length) = true) :
    fFz (fLc fi bd tt fe vs) sl h = .ok (.d (.list ((xs.filter p).map v))) h := by
  rw [a_fz]
  have e : fLc fi bd tt fe vs sl h = .ok (.r h.length) (h ++ [some (.lst (((xs.filter p).map v).map SV.d))]) := by
    unfold fLc
    rw [hi]
    show (lcC h.length bd tt fe (wipeS sl vs) (xs.map f) (h ++ [some (.lst [])])).bind _ = _
    have := lc_funF (L := h.length) (p := p) (v := v) rfl xs [] st (by simpa using hl)
    rw [List.map_nil, List.nil_append] at this
    rw [this]; rfl
  rw [e, b_ok, fz_last, o_some, trim_ok c1 c2]
/-! ## isinstance(e, (C1, C2, ..)) -/
def lkAny : List (Option Bool) → Option Bool
  | [] => some false
  | some true :: _ => some true
  | some false :: r => lkAny r
  | none :: _ => none
/-- the classes of the tuple and what each answers -/
def KitL (K : PySem.W.Frag) (t : Value) : List V → List Value → List (Option Bool) → Prop
  | [], [], [] => True
  | v :: vs, u :: us, o :: os => (∀ w, RelV v w → w = u) ∧ (∀ b, o = some b → PySem.W.kitOne K t u = some b) ∧ KitL K t vs us os
  | _, _, _ => False
theorem kitL_any {K : PySem.W.Frag} {t : Value} : ∀ {vs : List V} {us : List Value} {os : List (Option Bool)} {b : Bool}, KitL K t vs us os → lkAny os = some b → PySem.W.kitAny K t us = some b
  | [], [], [], b, _, e => by unfold lkAny at e; unfold PySem.W.kitAny; exact e
  | v :: vs, u :: us, some true :: os, b, k, e => by
    unfold lkAny at e
    cases e
    unfold PySem.W.kitAny
    rw [k.2.1 true rfl]
  | v :: vs, u :: us, some false :: os, b, k, e => by
    unfold lkAny at e
    unfold PySem.W.kitAny
    rw [k.2.1 false rfl]
    exact kitL_any k.2.2 e
  | v :: vs, u :: us, none :: os, b, k, e => by unfold lkAny at e; cases e
  | [], [], _ :: _, b, k, e => False.elim k
  | [], _ :: _, _, b, k, e => False.elim k
  | _ :: _, [], _, b, k, e => False.elim k
  | _ :: _, _ :: _, [], b, k, e => False.elim k
theorem kitL_vals {K : PySem.W.Frag} {t : Value} : ∀ {vs : List V} {us ws : List Value} {os : List (Option Bool)}, KitL K t vs us os → Vals vs ws → ws = us
  | [], [], ws, [], _, r => by cases r; rfl
  | v :: vs, u :: us, ws, o :: os, k, r => by
    cases r with
    | cons r1 r2 =>
      rw [k.1 _ r1, kitL_vals k.2.2 r2]
  | [], [], _, _ :: _, k, r => False.elim k
  | [], _ :: _, _, _, k, r => False.elim k
  | _ :: _, [], _, _, k, r => False.elim k
  | _ :: _, _ :: _, _, [], k, r => False.elim k
def rIsET (K : PySem.W.Frag) (D a : Addr) : List V → Hp → VK → Prop := fun xs H Q => ∃ (tp : Addr) (cs : List V) (us : List Value) (b : Bool), xs = [.ref a, .ref tp] ∧ H tp = some (.tup cs) ∧ (∀ ws, Vals cs ws → ws = us) ∧ PySem.W.kitAny K (.ref D) us = some b ∧ Q (.bl b) H
theorem call_isET {X : Cx} {a D : Addr} {oe : Obj} {pn : List (Addr × Obj)} (C : ExcC X.K D) (hz : Zc (.ref D) none oe) (hf : ∃ vs, oe.data = .fields vs) : CallR (X.suite a ((a, oe) :: pn)) (.builtin "isinstance") (rIsET X.K D a) := by
  intro pins s σ H xs us Q I r h
  obtain ⟨tp, cs, ws, b, rfl, hT, hcs, e, q⟩ := h
  cases r with
  | cons rx rr =>
    cases rr with
    | cons rt rr =>
      cases rr
      cases rx
      cases (show _ = Value.ref tp from rt)
      obtain ⟨hget, _⟩ := I.pin (a, oe) (List.mem_append.mpr (.inl List.mem_cons_self))
      obtain ⟨vs, hv⟩ := hf
      have J : PySem.W.InstAt s.heap a oe D none := by
        obtain ⟨oc, od, oda, osl⟩ := oe
        obtain ⟨h1, h2⟩ := hz
        dsimp only at h1 h2 hv
        subst h1 h2 hv
        exact ⟨hget, rfl, rfl, trivial⟩
      obtain ⟨_, its, rv, o, h1, h2, n, h3⟩ := (show ObjOk X.prog X.w H s.heap tp (.tup cs) from I.hok tp _ hT)
      have e3 := hcs _ rv
      subst e3
      obtain ⟨oc, od, dt, sl⟩ := o
      simp only at h2 h3
      subst h2 h3
      exact PySem.W.kia_tup (PySem.W.handS_kitx_exc C.hg C.hk C.hs C.hd C.ha C.hn C.ht C.hm) I.kIn J h1 e (fun z => nomatch z) fun tk => ⟨.bl b, H, I.kept (t' := tk) fun _ _ z => z, rfl, q⟩
theorem pa_k {X : Cx} {e : Expr} {es : List Expr} {v : V} {vs : List V} (h : PE X e (tC v)) (r : PA X es (fun _ H Q => Q vs H)) (hs : starEach (e :: es) X.env = (false, eval e X.env) :: starEach es X.env := by rfl) : PA X (e :: es) (fun _ H Q => Q (v :: vs) H) := pa_cons h r hs
theorem pa_k0 {X : Cx} : PA X [] (fun _ H Q => Q [] H) := pa_nil
section
variable {X : Cx} {W : WX} {e : Expr} {es : List Expr} {fe : FE} {a D : Addr} {oe : Obj} {pn : List (Addr × Obj)} {p p2 pos : Pos} {obs : List (Option Bool)} {cs : List V} {us : List Value} {x1 : Nat}
theorem se_isET (C : ExcC X.K D) (hz : Zc (.ref D) none oe) (hv : ∃ vs, oe.data = .fields vs) (hg : Gl (X.suite a ((a, oe) :: pn)) "isinstance") (hm : X.mg "isinstance" = none) (hvb : bootBuiltins "isinstance" = some (.builtin "isinstance"))
    (hT : PA (X.suite a ((a, oe) :: pn)) es (fun _ H Q => Q cs H)) (hl : cs.length ≤ 1000) (hk : KitL X.K (.ref D) cs us obs) (ha : SE (X.suite a ((a, oe) :: pn)) W e fe)
    (he : starEach [e, .Tuple es x1 p2] X.env = (false, eval e X.env) :: starEach [.Tuple es x1 p2] X.env := by rfl) (hs2 : starEach [.Tuple es x1 p2] X.env = (false, eval (.Tuple es x1 p2) X.env) :: starEach [] X.env := by rfl)
    (hpl : (backTo pos (starEach [.Tuple es x1 p2] X.env)).any (·.1) = false := by rfl) : SE (X.suite a ((a, oe) :: pn)) W (.Call (.Name "isinstance" p) [e, .Tuple es x1 p2] [] pos) (fExI (lkAny obs) fe) :=
  PE.imp (pe_callB (call_isET C hz hv) hg hm hvb (pa_cons ha (pa_cons (pe_tup hT) pa_nil hs2) he) (by decide) (by decide) he hpl) (by
    rintro σ H Q ⟨en, w, sl, h, eK, S, P⟩
    refine ⟨en, w, sl, h, eK, S, Po.bind P fun s h1 v w1 H1 l1 S1 r1 P1 => ?_⟩
    refine ⟨Nat.le_trans hl line1000, fun t nt => ?_⟩
    have S2 := S1.newF (o := .tup cs) nt (fun _ _ z => by cases z)
    have P2 := Po.mono (le_fz (o := .tup cs) (S1.F_none nt)) P1
    cases s with
    | ex c =>
      obtain ⟨a', e1, e2⟩ := r1
      have e3 : a' = a := by
        have e4 : en.ex = some (.ref a) := eK.2
        rw [e4] at e2
        exact (Value.ref.inj (Option.some.inj e2)).symm
      subst e3
      dsimp only at P2
      split at P2
      · rename_i b hb
        exact ⟨t, cs, us, b, by rw [e1], upd_same, fun ws r => kitL_vals hk r, kitL_any hk hb, P2.bool S2⟩
      · exact False.elim P2
    | _ => exact False.elim P2)
end
end Zx

namespace Zx
open PySem PySem.Spec L2
/-! ## owned dicts: whole numbers and texts are keys -/
def keyOf : SV → Option Key
  | .d (.int i) => some (.inl i)
  | .d (.str x) => some (.inr x)
  | _ => none
theorem keyOf_ok {en : En} {w : Wd} {s : SV} {v : V} {k : Key} (r : RS en w v s) (e : keyOf s = some k) : v = kV k := by
  unfold keyOf at e
  split at e
  · cases e; cases RS.int r; rfl
  · cases e; cases RS.str r; rfl
  · cases e
def valS : List (Key × SV) → Key → Option SV
  | [], _ => none
  | p :: r, k => if p.1 = k then some p.2 else valS r k
def setS : List (Key × SV) → Key → SV → List (Key × SV)
  | [], _, _ => []
  | p :: r, k, s => (if p.1 = k then (p.1, s) else p) :: setS r k s
def putS (kvs : List (Key × SV)) (k : Key) (s : SV) : List (Key × SV) := match valS kvs k with
  | some _ => setS kvs k s
  | none => kvs ++ [(k, s)]
/-- the tracked dict and the owned one -/
def DR (en : En) (w : Wd) (kws : List (Key × V)) (kvs : List (Key × SV)) : Prop := kws.map Prod.fst = kvs.map Prod.fst ∧ RSL en w (kws.map Prod.snd) (kvs.map Prod.snd)
theorem DR.cons {en : En} {w : Wd} {p : Key × SV} {r : List (Key × SV)} {kws : List (Key × V)} (d : DR en w kws (p :: r)) : ∃ v q, kws = (p.1, v) :: q ∧ RS en w v p.2 ∧ DR en w q r := by
  obtain ⟨e, rl⟩ := d
  cases kws with
  | nil => cases e
  | cons z q =>
    rw [List.map_cons, List.map_cons] at e
    have e1 := (List.cons.inj e).1
    have e2 := (List.cons.inj e).2
    rw [List.map_cons, List.map_cons] at rl
    obtain ⟨v, vs, hv, a, b⟩ := rl
    have h1 := (List.cons.inj hv).1
    have h2 := (List.cons.inj hv).2
    obtain ⟨z1, z2⟩ := z
    dsimp only at e1 h1
    subst e1 h1
    rw [← h2] at b
    exact ⟨z2, q, rfl, a, e2, b⟩
theorem DR.mk {en : En} {w : Wd} {k : Key} {v : V} {s : SV} {q : List (Key × V)} {r : List (Key × SV)} (a : RS en w v s) (d : DR en w q r) : DR en w ((k, v) :: q) ((k, s) :: r) :=
  ⟨by rw [List.map_cons, List.map_cons, d.1], v, q.map Prod.snd, rfl, a, d.2⟩
theorem DR.nil {en : En} {w : Wd} {kws : List (Key × V)} (d : DR en w kws []) : kws = [] := by
  have := d.1
  cases kws with
  | nil => rfl
  | cons z q => cases this
theorem DR.len {en : En} {w : Wd} {kws : List (Key × V)} {kvs : List (Key × SV)} (d : DR en w kws kvs) : kws.length = kvs.length := by
  have := congrArg List.length d.1
  rw [List.length_map, List.length_map] at this
  exact this
theorem DR.val {en : En} {w : Wd} : ∀ {kvs : List (Key × SV)} {kws : List (Key × V)} (k : Key), DR en w kws kvs → (valV kws k = none ∧ valS kvs k = none) ∨ ∃ v s, valV kws k = some v ∧ valS kvs k = some s ∧ RS en w v s
  | [], kws, k, d => by rw [d.nil]; exact .inl ⟨rfl, rfl⟩
  | p :: r, kws, k, d => by
    obtain ⟨v, q, rfl, a, d2⟩ := d.cons
    unfold valS
    by_cases h : p.1 = k
    · rw [valV_pos h, if_pos h]
      exact .inr ⟨v, p.2, rfl, rfl, a⟩
    · rw [valV_neg h, if_neg h]
      exact DR.val k d2
theorem DR.set {en : En} {w : Wd} {v : V} {s : SV} (a : RS en w v s) : ∀ {kvs : List (Key × SV)} {kws : List (Key × V)} (k : Key), DR en w kws kvs → DR en w (kws.map (fun kv => if kv.1 = k then (kv.1, v) else kv)) (setS kvs k s)
  | [], kws, k, d => by rw [d.nil]; exact ⟨rfl, rfl⟩
  | p :: r, kws, k, d => by
    obtain ⟨u, q, rfl, b, d2⟩ := d.cons
    unfold setS
    rw [List.map_cons]
    by_cases h : p.1 = k
    · rw [if_pos h, if_pos h]
      exact DR.mk a (DR.set a k d2)
    · rw [if_neg h, if_neg h]
      exact DR.mk b (DR.set a k d2)
theorem DR.put {en : En} {w : Wd} {v : V} {s : SV} (a : RS en w v s) {kvs : List (Key × SV)} {kws : List (Key × V)} (k : Key) (d : DR en w kws kvs) : DR en w (putK kws k v) (putS kvs k s) := by
  unfold putK putS
  rw [valV_any]
  rcases DR.val k d with ⟨e1, e2⟩ | ⟨x, y, e1, e2, _⟩
  · rw [e1, e2]
    refine ⟨?_, ?_⟩
    · show (kws ++ [(k, v)]).map Prod.fst = _
      rw [List.map_append, List.map_append, d.1]; rfl
    · show RSL en w ((kws ++ [(k, v)]).map Prod.snd) _
      rw [List.map_append, List.map_append]
      exact RSL.app d.2 ⟨v, [], rfl, a, rfl⟩
  · rw [e1, e2]
    exact DR.set a k d
def dctOf (h : AH) : SV → Option (List (Key × SV))
  | .r n => match h[n]? with
    | some (some (.dct kvs)) => some kvs
    | _ => none
  | _ => none
theorem dct_ok {en : En} {w : Wd} {H : Hp} {h : AH} (S : SimH en w H h) {s : SV} {v : V} {kvs : List (Key × SV)} (r : RS en w v s) (e : dctOf h s = some kvs) : ∃ n a kws, s = .r n ∧ h[n]? = some (some (.dct kvs)) ∧ w.rho[n]? = some a ∧ v = .ref a ∧ H a = some (.dK kws) ∧ DR en w kws kvs := by
  unfold dctOf at e
  split at e
  · rename_i n
    split at e
    · rename_i kvs' hx
      cases e
      obtain ⟨a, e1, rfl⟩ := r
      obtain ⟨a', e2, ⟨kws, hv, ek, rl⟩, _, _⟩ := S.live n _ hx
      have ea : a' = a := Option.some.inj (e2.symm.trans e1)
      subst ea
      exact ⟨n, a', kws, rfl, hx, e1, rfl, hv, ek, rl⟩
    · cases e
  · cases e
theorem RS_mkv {en : En} {w : Wd} {H : Hp} {h : AH} (S : SimH en w H h) {v : V} {d : PyData} (r : Rp en.K en.G v d) : RS en w v (mkv d) := by
  have := RSL.ofVw S (ds := [d]) (vs := [v]) (by unfold RpL; exact ⟨v, [], rfl, r, by unfold RpL; rfl⟩)
  obtain ⟨x, r', e, a, _⟩ := this
  cases e
  exact a
/-- a dict that stands still -/
def toKS (f : PyData → SV) : List (PyData × PyData) → Option (List (Key × SV))
  | [] => some []
  | (k, d) :: r => match k, toKS f r with
    | .int i, some q => some ((.inl i, f d) :: q)
    | .str x, some q => some ((.inr x, f d) :: q)
    | _, _ => none
theorem toKS_ok {en : En} {w : Wd} {F : Hp} {f : PyData → SV} (hf : ∀ v d, Rp en.K F v d → RS en w v (f d)) : ∀ {kvs : List (PyData × PyData)} {kws : List (Key × V)} {ps : List (Key × SV)}, RpK en.K F kws kvs → toKS f kvs = some ps → DR en w kws ps
  | [], kws, ps, r, e => by
    unfold RpK at r
    unfold toKS at e
    cases e
    subst r
    exact ⟨rfl, rfl⟩
  | (k, d) :: q, kws, ps, r, e => by
    unfold RpK at r
    obtain ⟨⟨pk, pv⟩, b, rfl, r1, r2, r3⟩ := r
    unfold toKS at e
    split at e
    · rename_i i q' hq
      cases e
      unfold Rp at r1
      cases pk with
      | inl j => cases r1; exact DR.mk (hf _ _ r2) (toKS_ok hf r3 hq)
      | inr j => cases r1
    · rename_i x q' hq
      cases e
      unfold Rp at r1
      cases pk with
      | inl j => cases r1
      | inr j => cases r1; exact DR.mk (hf _ _ r2) (toKS_ok hf r3 hq)
    · cases e
def dctR (h : AH) : SV → Option (List (Key × SV))
  | .d (.dict kvs) => toKS SV.d kvs
  | .vw (.dict kvs) => toKS mkv kvs
  | s => dctOf h s
theorem dctR_ok {en : En} {w : Wd} {H : Hp} {h : AH} (S : SimH en w H h) {s : SV} {v : V} {kvs : List (Key × SV)} (r : RS en w v s) (e : dctR h s = some kvs) : ∃ a kws, v = .ref a ∧ H a = some (.dK kws) ∧ DR en w kws kvs := by
  unfold dctR at e
  split at e
  · rename_i ps
    have r : Rp en.K w.F v (.dict ps) := r
    unfold Rp at r
    obtain ⟨a, kws, rfl, hv, rk⟩ := r
    exact ⟨a, kws, rfl, S.fh _ _ hv, toKS_ok (F := w.F) (f := SV.d) (fun _ _ z => (show RS en w _ (.d _) from z)) rk e⟩
  · rename_i ps
    have r : Rp en.K en.G v (.dict ps) := r
    unfold Rp at r
    obtain ⟨a, kws, rfl, hv, rk⟩ := r
    exact ⟨a, kws, rfl, S.gh _ _ hv, toKS_ok (F := en.G) (f := mkv) (fun _ _ z => RS_mkv S z) rk e⟩
  · obtain ⟨n, a, kws, rfl, hx, ha, rfl, hH, d⟩ := dct_ok S r e
    exact ⟨a, kws, rfl, hH, d⟩
/-! {} -/
def fDct : FE := fun _ h => .ok (.r h.length) (h ++ [some (.dct [])])
section
variable {X : Cx} {W : WX} {a b i o e : Expr} {fa fb fi fo fe : FE} {pos tpos : Pos}
theorem se_dct : SE X W (.Dict [] [] pos) fDct := PE.imp pe_dnewK (by
  rintro σ H Q ⟨en, w, sl, h, eK, S, P⟩
  intro p np
  exact P _ (w.ow p) _ le_ow ⟨S.toSimH.newAO np (fun _ z => by cases z) (fun _ _ z => by cases z) (fun _ e => ⟨[], e, rfl, rfl⟩), S.slots.mono le_ow⟩ S.toSimH.rs_new)
/-! {k: v} -/
def dOne (n : Nat) (k v : SV) (h : AH) : R SV := match keyOf k, h[n]? with
  | some kk, some (some (.dct [])) => .ok (.r n) (h.set n (some (.dct [(kk, v)])))
  | _, _ => .st
def fDctO (fa fb : FE) : FE := fun sl h => (fa sl (h ++ [some (.dct [])])).bind fun k h1 => (fb sl h1).bind fun v h2 => dOne h.length k v h2
theorem se_dct1 (ha : SE X W a fa) (hb : SE X W b fb) : SE X W (.Dict [some a] [b] pos) (fDctO fa fb) := PE.imp (pe_disp (pps_cons ha hb pps_nil) rfl rfl (by simp) (by simp)) (by
  rintro σ H Q ⟨en, w, sl, h, eK, S, P⟩
  intro p np
  have S0 : Sim en (w.ow p) σ (upd H p (.dK [])) sl (h ++ [some (.dct [])]) := ⟨S.toSimH.newAO np (fun _ z => by cases z) (fun _ _ z => by cases z) (fun _ e => ⟨[], e, rfl, rfl⟩), S.slots.mono le_ow⟩
  have hp0 : (w.ow p).rho[h.length]? = some p := by
    show (w.rho ++ [p])[h.length]? = some p
    rw [← S.len, List.getElem?_append_right (Nat.le_refl _)]
    simp
  unfold tPairs
  have P0 : Po RS X W en (w.ow p) σ sl (fDctO fa fb sl h) Q := Po.mono le_ow P
  refine ⟨en, w.ow p, sl, _, eK, S0, Po.bind P0 fun k h1 xv w1 H1 l1 S1 r1 P1 => ?_⟩
  refine ⟨en, w1, sl, h1, eK, S1, Po.bind P1 fun v h2 yv w2 H2 l2 S2 r2 P2 => ?_⟩
  unfold tPairs
  unfold dOne at P2
  split at P2
  · rename_i kk hk hd
    cases keyOf_ok (RS.mono l2 r1) hk
    obtain ⟨a', e2, ⟨kws, hv, ek, rl⟩, _, _⟩ := S2.live _ _ hd
    have e3 : w2.rho[h.length]? = some p := prefix_get (l1.trans l2).1 hp0
    have ea : a' = p := Option.some.inj (e2.symm.trans e3)
    subst ea
    have kn : kws = [] := by
      cases kws with
      | nil => rfl
      | cons z q => cases ek
    subst kn
    refine ⟨hv, [(kk, yv)], rfl, by simp, ?_⟩
    refine P2 _ w2 _ (Wd.le.refl _) ⟨S2.toSimH.writeAO hd e3 (fun _ z => by cases z) (fun _ _ z => by cases z) (fun _ e => ⟨_, e, rfl, yv, [], rfl, r2, rfl⟩), S2.slots⟩ ⟨a', e3, rfl⟩
  · exact False.elim P2)
/-! k in d, k not in d -/
def dIn (neg : Bool) (y x : SV) (h : AH) : R SV := match keyOf y, dctR h x with
  | some k, some kvs => .ok (.d (.bool (neg ^^ (valS kvs k).isSome))) h
  | _, _ => .st
def fDIn (neg : Bool) (fa fb : FE) : FE := fun sl h => (fa sl h).bind fun y h1 => (fb sl h1).bind fun x h2 => dIn neg y x h2
theorem dIn_ok {en : En} {w : Wd} {σ : St} {H : Hp} {sl : List SV} {h : AH} {yv xv : V} {y x : SV} {neg : Bool} {Q : VK} (S : Sim en w σ H sl h) (ry : RS en w yv y) (rx : RS en w xv x) (P : Po RS X W en w σ sl (dIn neg y x h) Q) : ∃ a o, xv = .ref a ∧ DGet H a yv o ∧ Q (.bl (neg ^^ o.isSome)) H := by
  unfold dIn at P
  split at P
  · rename_i k kvs hk hd
    obtain ⟨a, kws, rfl, hH, d⟩ := dctR_ok S.toSimH rx hd
    cases keyOf_ok ry hk
    refine ⟨a, valV kws k, rfl, DGet.k hH, ?_⟩
    have e : (valV kws k).isSome = (valS kvs k).isSome := by
      rcases DR.val k d with ⟨e1, e2⟩ | ⟨v, s, e1, e2, _⟩ <;> rw [e1, e2] <;> rfl
    rw [e]
    exact P.bool S
  · exact False.elim P
theorem se_din (hu : X.A.units + 1 < cLine) (ha : SE X W a fa) (hb : SE X W b fb) (hm : behindInMarks .In b = false) : SE X W (.Compare a [.In] [b] pos) (fDIn false fa fb) := PE.imp (pe_cmp (pc_din hu ha hb) hm) (by
  rintro σ H Q ⟨en, w, sl, h, eK, S, P⟩
  refine ⟨en, w, sl, h, eK, S, Po.bind P fun y h1 yv w1 H1 l1 S1 r1 P1 => ?_⟩
  refine ⟨en, w1, sl, h1, eK, S1, Po.bind P1 fun x h2 xv w2 H2 l2 S2 r2 P2 => ?_⟩
  obtain ⟨c, o, e1, e2, q⟩ := dIn_ok S2 (RS.mono l2 r1) r2 P2
  exact ⟨c, o, e1, e2, by simpa using q⟩)
theorem se_dnotin (hu : X.A.units + 1 < cLine) (ha : SE X W a fa) (hb : SE X W b fb) (hm : behindInMarks .NotIn b = false) : SE X W (.Compare a [.NotIn] [b] pos) (fDIn true fa fb) := PE.imp (pe_cmp (pc_dnotin hu ha hb) hm) (by
  rintro σ H Q ⟨en, w, sl, h, eK, S, P⟩
  refine ⟨en, w, sl, h, eK, S, Po.bind P fun y h1 yv w1 H1 l1 S1 r1 P1 => ?_⟩
  refine ⟨en, w1, sl, h1, eK, S1, Po.bind P1 fun x h2 xv w2 H2 l2 S2 r2 P2 => ?_⟩
  obtain ⟨c, o, e1, e2, q⟩ := dIn_ok S2 (RS.mono l2 r1) r2 P2
  exact ⟨c, o, e1, e2, by simpa using q⟩)
theorem fTst_po {en : En} {w : Wd} {σ : St} {sl : List SV} {h : AH} {f : FE} {Q : Bool → Hp → Prop} (P : Po repB X W en w σ sl (fTst f sl h) Q) : Po RS X W en w σ sl (f sl h) (fun x H1 => ∃ c, x = .bl c ∧ Q c H1) := by
  refine Po.bind P fun s h1 v w1 H1 l1 S1 r1 P1 => ?_
  split at P1
  · rename_i k
    have r1 : Rp en.K w1.F v (.bool k) := r1
    unfold Rp at r1
    exact ⟨k, r1, P1 k w1 H1 (Wd.le.refl _) S1 rfl⟩
  · exact False.elim P1
theorem st_din (hu : X.A.units + 1 < cLine) (ha : SE X W a fa) (hb : SE X W b fb) (hm : behindInMarks .In b = false) : STt X W (.Compare a [.In] [b] pos) (fTst (fDIn false fa fb)) := PT.imp (pt_cmp (pc_din hu ha hb) hm) (by
  rintro σ H Q ⟨en, w, sl, h, eK, S, P⟩
  have P := fTst_po P
  refine ⟨en, w, sl, h, eK, S, Po.bind P fun y h1 yv w1 H1 l1 S1 r1 P1 => ?_⟩
  refine ⟨en, w1, sl, h1, eK, S1, Po.bind P1 fun x h2 xv w2 H2 l2 S2 r2 P2 => ?_⟩
  obtain ⟨c, o, e1, e2, q⟩ := dIn_ok S2 (RS.mono l2 r1) r2 P2
  exact ⟨c, o, e1, e2, by simpa using q⟩)
theorem st_dnotin (hu : X.A.units + 1 < cLine) (ha : SE X W a fa) (hb : SE X W b fb) (hm : behindInMarks .NotIn b = false) : STt X W (.Compare a [.NotIn] [b] pos) (fTst (fDIn true fa fb)) := PT.imp (pt_cmp (pc_dnotin hu ha hb) hm) (by
  rintro σ H Q ⟨en, w, sl, h, eK, S, P⟩
  have P := fTst_po P
  refine ⟨en, w, sl, h, eK, S, Po.bind P fun y h1 yv w1 H1 l1 S1 r1 P1 => ?_⟩
  refine ⟨en, w1, sl, h1, eK, S1, Po.bind P1 fun x h2 xv w2 H2 l2 S2 r2 P2 => ?_⟩
  obtain ⟨c, o, e1, e2, q⟩ := dIn_ok S2 (RS.mono l2 r1) r2 P2
  exact ⟨c, o, e1, e2, by simpa using q⟩)
/-! d[k] -/
def dGet (x y : SV) (h : AH) : R SV := match keyOf y, dctR h x with
  | some k, some kvs => match valS kvs k with
    | some s => .ok s h
    | none => .st
  | _, _ => .st
def fDGet (fo fi : FE) : FE := fun sl h => (fo sl h).bind fun x h1 => (fi sl h1).bind fun y h2 => dGet x y h2
theorem se_dget (hu : X.A.units + 1 < cLine) (ho : SE X W o fo) (hi : SE X W i fi) (hs : NoSl i) : SE X W (.Subscript o i pos) (fDGet fo fi) := PE.imp (pe_dget hu ho hi hs) (by
  rintro σ H Q ⟨en, w, sl, h, eK, S, P⟩
  refine ⟨en, w, sl, h, eK, S, Po.bind P fun x h1 xv w1 H1 l1 S1 r1 P1 => ?_⟩
  refine ⟨en, w1, sl, h1, eK, S1, Po.bind P1 fun y h2 yv w2 H2 l2 S2 r2 P2 => ?_⟩
  unfold dGet at P2
  split at P2
  · rename_i k kvs hk hd
    split at P2
    · rename_i s hs
      obtain ⟨c, kws, rfl, hH, d⟩ := dctR_ok S2.toSimH (RS.mono l2 r1) hd
      cases keyOf_ok r2 hk
      rcases DR.val k d with ⟨e1, e2⟩ | ⟨v, s', e1, e2, r⟩
      · rw [e2] at hs; cases hs
      · rw [e2] at hs
        cases hs
        exact ⟨c, v, rfl, e1 ▸ DGet.k hH, P2 v w2 H2 (Wd.le.refl _) S2 r⟩
    · exact False.elim P2
  · exact False.elim P2)
/-! d[k] = v -/
def putD (x y v : SV) (h : AH) : Option AH := match keyOf y, dctOf h x, x with
  | some k, some kvs, .r n => if kvs.length < 1000 then some (h.set n (some (.dct (putS kvs k v)))) else none
  | _, _, _ => none
def sDStore (fo fi fe : FE) : FS := fun sl h => (fe sl h).thn sl fun v h1 => (fo sl h1).thn sl fun s h2 => (fi sl h2).thn sl fun t h3 => match putD s t v h3 with
  | some h4 => .nx sl h4
  | none => .st
theorem ss_dstore (hv : SE X W e fe) (ho : SE X W o fo) (hi : SE X W i fi) (hg : PG X (.Subscript o i tpos) (L2.gSub (tE X W fo) (tE X W fi) rSetD)) (hs : swapsWithSole [.Subscript o i tpos] e pos.line X.env = pure false := by rfl) (hw : swappedStores [.Subscript o i tpos] e X.env = pure none := by rfl)
    (h1 : List.map (fun x => x.snd) (assignEach [.Subscript o i tpos] X.env) = [assign (.Subscript o i tpos) X.env] := by rfl) : SS X W (.Assign [.Subscript o i tpos] e pos) (sDStore fo fi fe) := PS.imp (ps_asg hv hg hs hw h1) (by
  rintro D σ H ⟨en, w, sl, h, eK, S, P⟩
  refine ⟨en, w, sl, h, eK, S, Po.thn P fun v h1 z w1 H1 l1 S1 r1 P1 => ?_⟩
  refine ⟨en, w1, sl, h1, eK, S1, Po.thn P1 fun s h2 x w2 H2 l2 S2 r2 P2 => ?_⟩
  refine ⟨en, w2, sl, h2, eK, S2, Po.thn P2 fun t h3 y w3 H3 l3 S3 r3 P3 => ?_⟩
  split at P3
  · rename_i h4 he
    unfold putD at he
    split at he
    · rename_i k kvs n hk hd
      split at he
      · rename_i hl
        cases he
        obtain ⟨n', c, kws, hn, hx, ha, rfl, hH, d⟩ := dct_ok S3.toSimH (RS.mono l3 r2) hd
        cases hn
        cases keyOf_ok r3 hk
        refine ⟨c, _, rfl, DPut.k hH (Nat.lt_of_lt_of_le (by rw [d.len]; exact hl) line1000), ?_⟩
        have dp := DR.put (RS.mono (l2.trans l3) r1) k d
        exact P3 w3 σ _ (Wd.le.refl _) ⟨S3.toSimH.writeAO hx ha (fun _ z => by cases z) (fun _ _ z => by cases z) (fun _ e => ⟨_, e, dp.1, dp.2⟩), S3.slots⟩
      · cases he
    · cases he
  · exact False.elim P3)
end
/-! len(d) -/
def gLenD : List SV → AH → R SV := fun ss h => match ss with
  | [s] => match dctR h s with
    | some kvs => .ok (.d (.int kvs.length)) h
    | none => .st
  | _ => .st
theorem cs_lenD {X : Cx} : CallS X (fun xs H Q => ∃ a kvs, xs = [V.ref a] ∧ H a = some (.dK kvs) ∧ Q (.int kvs.length) H) gLenD := by
  intro W en w σ H sl h xs ss Q eK S r P
  unfold gLenD at P
  split at P
  · obtain ⟨v, rfl, rv⟩ := r.one
    split at P
    · rename_i kvs hd
      obtain ⟨c, kws, rfl, hH, d⟩ := dctR_ok S.toSimH rv hd
      exact ⟨c, kws, rfl, hH, by rw [d.len]; exact P.int S⟩
    · exact False.elim P
  · exact False.elim P
end Zx

namespace Zx
open PySem PySem.Spec L2
/-! ## comprehensions over enumerate(an owned list) -/
def lcRE (L : Nat) (bd : Bd) (tt : FT) (fe : FE) (slw : List SV) (n : Nat) : Nat → Nat → AH → R Unit
  | 0, i, h => match h[n]? with
    | some (some (.lst xs)) => if xs.length ≤ i then .ok () h else .st
    | _ => .st
  | k + 1, i, h => match h[n]? with
    | some (some (.lst xs)) => match xs[i]? with
      | none => .ok () h
      | some s => lcOne L bd tt fe slw (.two (.d (.int (i : Nat))) s) h (lcRE L bd tt fe slw n k (i + 1))
    | _ => .st
def fLcE (fa : FA) (bd : Bd) (tt : FT) (fe : FE) (vs : List Nat) : FE := fun sl h => (fa sl h).bind fun ss h1 => match ss with
  | [.r n] => match h1[n]? with
    | some (some (.lst xs)) => (lcRE h1.length bd tt fe (wipeS sl vs) n xs.length 0 (h1 ++ [some (.lst [])])).bind fun _ h2 => .ok (.r h1.length) h2
    | _ => .st
  | _ => .st
theorem lc_tE {X : Cx} {W : WX} {fa : FA} {bd : Bd} {g : TG} {tt : FT} {fe : FE} {vs : List Nat} (gs : GS X bd g) (hv : ∀ i ∈ bd.is, i ∈ vs) {σ : St} {H : Hp} {Q : VK} (q : tE X W (fLcE fa bd tt fe vs) σ H Q) :
    tLc (iEnum X.K (tA X W fa)) g (tT X W0 tt) (tE X W0 fe) vs σ H Q := by
  obtain ⟨en, w, sl, h, eK, S, P⟩ := q
  refine ⟨en, w, sl, h, eK, S, Po.bind P fun ss h1 us w1 H1 l1 S1 r1 P1 => ?_⟩
  split at P1
  · rename_i n
    split at P1
    · rename_i xs0 hx0
      obtain ⟨v, rfl, rv⟩ := RSL.one r1
      obtain ⟨a, ha, rfl⟩ := rv
      obtain ⟨a', e2, ⟨us0, hv0, rv0⟩, _, _⟩ := S1.live n _ hx0
      have ea : a' = a := Option.some.inj (e2.symm.trans ha)
      subst ea
      refine ⟨a', us0, rfl, .of hv0, ?_⟩
      intro D nD
      have S2 : Sim en (w1.ow D) (wipe σ vs) (upd H1 D (.lst [])) (wipeS sl vs) (h1 ++ [some (.lst [])]) := by
        have z := S1.newO (vs := []) (xs := []) nD rfl
        exact ⟨z.toSimH, Slt.wipe vs z.slots⟩
      have hL : h1.length = w1.rho.length := S1.len.symm
      have fin : ∀ (k : AH → R Unit) w2 h2 H2, (w1.ow D).le w2 → Sim en w2 (wipe σ vs) H2 (wipeS sl vs) h2 → k h2 = .ok () h2 → Po RS X W en w1 σ sl ((k h2).bind fun _ h2 => .ok (.r h1.length) h2) Q → Q (.ref D) H2 := fun k w2 h2 H2 l2 S3 e P3 => by
        rw [e] at P3
        refine P3 (.ref D) w2 H2 (le_ow.trans l2) ⟨S3.toSimH, S1.slots.mono (le_ow.trans l2)⟩ ⟨D, prefix_get l2.1 ?_, rfl⟩
        show (w1.rho ++ [D])[h1.length]? = some D
        rw [hL, List.getElem?_append_right (Nat.le_refl _), Nat.sub_self]
        rfl
      refine ⟨fun i m H => Lt X W en w1 D σ sl vs h1.length Q (lcRE h1.length bd tt fe (wipeS sl vs) n m i) H, ⟨xs0.length, _, _, Wd.le.refl _, S2, P1⟩, ?_⟩
      rintro i m H ⟨w2, h2, le, S3, P2⟩
      have live : ∀ xs, h2[n]? = some (some (.lst xs)) → ∃ vs, H a' = some (.lst vs) ∧ RSL en w2 vs xs := fun xs hx => by
        obtain ⟨a, e2, ⟨us, hv, rv⟩, _, _⟩ := S3.live n _ hx
        have ea : a = a' := Option.some.inj (e2.symm.trans (prefix_get (le_ow.trans le).1 ha))
        subst ea
        exact ⟨us, hv, rv⟩
      cases m with
      | zero =>
        generalize ek : lcRE h1.length bd tt fe (wipeS sl vs) n 0 i = k at P2
        have ek2 := congrFun ek h2
        unfold lcRE at ek2
        split at ek2
        · rename_i xs hx
          obtain ⟨us, hu, rv⟩ := live xs hx
          split at ek2
          · rename_i hl
            exact .inl ⟨⟨us, .of hu, by rw [RSL.length rv]; exact hl⟩, fin k w2 h2 H le S3 ek2.symm P2⟩
          · rw [← ek2] at P2; exact False.elim P2
        · rw [← ek2] at P2; exact False.elim P2
      | succ m =>
        generalize ek : lcRE h1.length bd tt fe (wipeS sl vs) n (m + 1) i = k at P2
        have ek2 := congrFun ek h2
        unfold lcRE at ek2
        split at ek2
        · rename_i xs hx
          obtain ⟨us, hu, rv⟩ := live xs hx
          split at ek2
          · rename_i hxi
            exact .inl ⟨⟨us, .of hu, by rw [RSL.length rv]; exact List.getElem?_eq_none_iff.mp hxi⟩, fin k w2 h2 H le S3 ek2.symm P2⟩
          · rename_i s hs
            obtain ⟨v, ev, rs⟩ := RSL.get rv hs
            rw [← ek2] at P2
            refine .inr ⟨⟨us, v, .of hu, ev⟩, Lt X W en w1 D σ sl vs h1.length Q (lcRE h1.length bd tt fe (wipeS sl vs) n m (i + 1)), fun H' p' => ⟨m, Nat.lt_succ_self m, p'⟩, fun x H' y => ?_⟩
            obtain ⟨T, x', rfl, nT, rfl, y⟩ := y
            have z : v = x' := Option.some.inj (ev.symm.trans (y us (.of hu)))
            subst z
            have l4 := le_fz (w := w2) (p := T) (o := .tup [.int (i : Nat), v]) (S3.F_none nT)
            refine lcOne_ok (J := Ite en.K a') eK hL gs hv S1.slots (le.trans l4) (S3.newF nT (fun _ _ z => by cases z)) (it := .two (.d (.int (i : Nat))) s) ⟨T, _, _, rfl, upd_same, ?_, RS.mono l4 rs⟩ P2
            show Rp en.K (w2.fz T (.tup [.int (i : Nat), v])).F (.int (i : Nat)) (.int (i : Nat))
            exact Rp.int
        · rw [← ek2] at P2; exact False.elim P2
    · exact False.elim P1
  · exact False.elim P1
theorem se_lcE {X : Cx} {W : WX} {elt e : Expr} {ifs elts : List Expr} {kk : Nat} {tpos p ipos : Pos} {scope : Scope} {own : List (Str × Nat)} {pos : Pos} {fa : FA} {bd : Bd} {g : TG} {tt : FT} {fe : FE} (hgl : Gl X "enumerate") (hm : X.mg "enumerate" = none) (ha : SA X W [e] fa) (hc : X.calm = true) (hN : X.N.Nodup) (ok : BlkOk X.N X.env.scope scope own)
    (hg : ∀ (s : Shared) (H : Hp) (C : Addr) (cl : List (Str × Addr)) (fp : List Addr), PG (X.blk s H scope (compEnvC scope cl C X.env) fp) (.Tuple elts kk tpos) g) (ht : ∀ (s : Shared) (H : Hp) (C : Addr) (cl : List (Str × Addr)) (fp : List Addr), STs (X.blk s H scope (compEnvC scope cl C X.env) fp) W0 ifs tt)
    (he : ∀ (s : Shared) (H : Hp) (C : Addr) (cl : List (Str × Addr)) (fp : List Addr), SE (X.blk s H scope (compEnvC scope cl C X.env) fp) W0 elt fe) (gs : GS X bd g) (hv : ∀ i ∈ bd.is, i ∈ own.map (·.2)) (hsE : starEach [e] X.env = [(false, eval e X.env)] := by rfl) (hs : ∀ x, foldedSetIterable (.Call (.Name "enumerate" p) [e] [] ipos) X.env x = pure x := by intro _; rfl) :
    SE X W (.ListComp elt [⟨.Tuple elts kk tpos, .Call (.Name "enumerate" p) [e] [] ipos, ifs, 0⟩] scope pos) (fLcE fa bd tt fe (own.map (·.2))) :=
  PE.imp (pe_lc hc hN (pi_enum hgl hm ha hsE) ok hg ht he hs) fun _ _ _ q => lc_tE gs hv q
end Zx

namespace Zx
open PySem PySem.Spec L2
/-! ## behind an except clause: what was caught is wiped -/
def clnS : SV → SV
  | .ex _ => .un
  | s => s
def clnO : Option AO → Option AO
  | some (.lst xs) => some (.lst (xs.map clnS))
  | some (.dct kvs) => some (.dct (kvs.map fun p => (p.1, clnS p.2)))
  | some (.tup xs) => some (.tup (xs.map clnS))
  | none => none
theorem clnS_ok {s : SV} (c : noEx s = true) : clnS s = s := by cases s <;> first | rfl | cases c
theorem clnL_ok : ∀ {xs : List SV}, xs.all noEx = true → xs.map clnS = xs
  | [], _ => rfl
  | x :: xs, c => by
    rw [List.all_cons, Bool.and_eq_true] at c
    rw [List.map_cons, clnS_ok c.1, clnL_ok c.2]
theorem clnK_ok : ∀ {kvs : List (Key × SV)}, (kvs.map Prod.snd).all noEx = true → (kvs.map fun p => (p.1, clnS p.2)) = kvs
  | [], _ => rfl
  | x :: xs, c => by
    rw [List.map_cons, List.all_cons, Bool.and_eq_true] at c
    rw [List.map_cons, clnS_ok c.1, clnK_ok c.2]
theorem clnO_ok {o : Option AO} (c : noExO o = true) : clnO o = o := by
  cases o with
  | none => rfl
  | some o =>
    cases o with
    | lst xs => show some (AO.lst (xs.map clnS)) = _; rw [clnL_ok c]
    | dct kvs => show some (AO.dct (kvs.map fun p => (p.1, clnS p.2))) = _; rw [clnK_ok c]
    | tup xs => show some (AO.tup (xs.map clnS)) = _; rw [clnL_ok c]
theorem RS.cln {en : En} {w : Wd} {v : V} {s : SV} {x : Option Value} (r : RS { en with ex := x } w v s) : RS en w v (clnS s) := by
  cases s with
  | ex c => exact trivial
  | un => exact trivial
  | d y => exact r
  | vw y => exact r
  | r n => exact r
  | sc y => exact r
theorem RSL.cln {en : En} {w : Wd} {x : Option Value} : ∀ {ss : List SV} {vs : List V}, RSL { en with ex := x } w vs ss → RSL en w vs (ss.map clnS)
  | [], vs, r => r
  | s :: ss, vs, ⟨v, q, e, a, b⟩ => ⟨v, q, e, RS.cln a, RSL.cln b⟩
theorem SimH.cln {en : En} {w : Wd} {H : Hp} {h : AH} {x : Option Value} (S : SimH { en with ex := x } w H h) : SimH en w H (h.map clnO) := by
  have back : ∀ (n : Nat) (o : AO), (h.map clnO)[n]? = some (some o) → ∃ o', h[n]? = some (some o') ∧ clnO (some o') = some o := fun n o e => by
    rw [List.getElem?_map] at e
    cases e2 : h[n]? with
    | none => rw [e2] at e; cases e
    | some p =>
      rw [e2] at e
      have e : clnO p = some o := Option.some.inj e
      cases p with
      | none => cases e
      | some o' => exact ⟨o', rfl, e⟩
  refine ⟨S.gh, S.fh, S.f0, S.nw, S.ti, by rw [List.length_map]; exact S.len, fun n o e => ?_, fun n m a o1 o2 e1 e2 => ?_⟩
  · obtain ⟨o', e1, e2⟩ := back n o e
    obtain ⟨a, ea, q, f, g⟩ := S.live n o' e1
    refine ⟨a, ea, ?_, (fun t => f (by cases o' <;> cases e2 <;> first | rfl | exact t)), g⟩
    cases o' with
    | lst xs =>
      cases e2
      obtain ⟨vs, hv, rl⟩ := q
      exact ⟨vs, hv, RSL.cln rl⟩
    | dct kvs =>
      cases e2
      obtain ⟨vs, hv, ek, rl⟩ := q
      have em1 : (kvs.map fun p => (p.1, clnS p.2)).map Prod.fst = kvs.map Prod.fst := by rw [List.map_map]; rfl
      have em2 : (kvs.map fun p => (p.1, clnS p.2)).map Prod.snd = (kvs.map Prod.snd).map clnS := by rw [List.map_map, List.map_map]; rfl
      refine ⟨vs, ?_, ?_, ?_⟩
      · first | exact hv | (rw [em1]; exact hv)
      · first | exact ek | (rw [em1]; exact ek)
      · rw [em2]; exact RSL.cln rl
    | tup xs =>
      cases e2
      obtain ⟨vs, hv, rl⟩ := q
      exact ⟨vs, hv, RSL.cln rl⟩
  · obtain ⟨p1, f1, _⟩ := back n o1 e1
    obtain ⟨p2, f2, _⟩ := back m o2 e2
    exact S.sep n m a p1 p2 f1 f2
theorem Slt.cln {en : En} {w : Wd} {σ : St} {sl : List SV} {x : Option Value} (q : Slt { en with ex := x } w σ sl) : Slt en w σ (sl.map clnS) := by
  refine ⟨by rw [List.length_map]; exact q.1, fun i s e => ?_⟩
  rw [List.getElem?_map] at e
  cases e2 : sl[i]? with
  | none => rw [e2] at e; cases e
  | some t =>
    rw [e2] at e
    have e : clnS t = s := Option.some.inj e
    subst e
    rcases q.2 i t e2 with rfl | ⟨v, ev, r⟩
    · exact .inl rfl
    · exact .inr ⟨v, ev, RS.cln r⟩
/-- where nothing is caught, nothing caught is held -/
theorem RS.clean {en : En} {w : Wd} {v : V} {s : SV} (hn : en.ex = none) (r : RS en w v s) : noEx s = true := by
  cases s with
  | ex c => obtain ⟨a, _, e⟩ := r; rw [hn] at e; cases e
  | _ => rfl
theorem RSL.clean {en : En} {w : Wd} (hn : en.ex = none) : ∀ {ss : List SV} {vs : List V}, RSL en w vs ss → ss.all noEx = true
  | [], vs, r => rfl
  | s :: ss, vs, ⟨v, q, e, a, b⟩ => by rw [List.all_cons, RS.clean hn a, RSL.clean hn b]; rfl
theorem SimH.clean {en : En} {w : Wd} {H : Hp} {h : AH} (hn : en.ex = none) (S : SimH en w H h) : h.all noExO = true := by
  rw [List.all_eq_true]
  intro o m
  obtain ⟨n, e⟩ := List.getElem?_of_mem m
  cases o with
  | none => rfl
  | some o =>
    obtain ⟨a, ea, q, f, g⟩ := S.live n o e
    cases o with
    | lst xs =>
      obtain ⟨vs, hv, rl⟩ := q
      exact RSL.clean hn rl
    | dct kvs =>
      obtain ⟨vs, hv, ek, rl⟩ := q
      exact RSL.clean hn rl
    | tup xs =>
      obtain ⟨vs, hv, rl⟩ := q
      exact RSL.clean hn rl
theorem Slt.clean {en : En} {w : Wd} {σ : St} {sl : List SV} (hn : en.ex = none) (q : Slt en w σ sl) : sl.all noEx = true := by
  rw [List.all_eq_true]
  intro s m
  obtain ⟨n, e⟩ := List.getElem?_of_mem m
  rcases q.2 n s e with rfl | ⟨v, ev, r⟩
  · rfl
  · exact RS.clean hn r
def clnQ (sl : List SV) (h : AH) : Bool := sl.all noEx && h.all noExO
def cS (q : Bool) (sl : List SV) : List SV := if q = true then sl.map clnS else sl
def cH (q : Bool) (h : AH) : AH := if q = true then h.map clnO else h
def c1 (q : Bool) (s : SV) : SV := if q = true then clnS s else s
def endedC (q : Bool) (i : Nat) (o : O) : O := match o with
  | .nx sl h => .nx (cS q (sl.set i .un)) (cH q h)
  | .bk sl h => .bk (cS q (sl.set i .un)) (cH q h)
  | .ct sl h => .ct (cS q (sl.set i .un)) (cH q h)
  | .rt s h => .rt (c1 q s) (cH q h)
  | _ => .st
def endedOC (q : Bool) (o : O) : O := match o with
  | .nx sl h => .nx (cS q sl) (cH q h)
  | .bk sl h => .bk (cS q sl) (cH q h)
  | .ct sl h => .ct (cS q sl) (cH q h)
  | .rt s h => .rt (c1 q s) (cH q h)
  | _ => .st
def sTryAsC (i : Nat) (k : Str → Option Bool) (fb : FS) (fh : Str → FS) : FS := fun sl h => match fb sl h with
  | .rz c sl1 h1 => match k c with
    | some true => endedC (clnQ sl h) i (fh c (sl1.set i (.ex c)) h1)
    | some false => .rz c sl1 h1
    | none => .st
  | o => o
def sTryOC (k : Str → Option Bool) (fb : FS) (fh : Str → FS) : FS := fun sl h => match fb sl h with
  | .rz c sl1 h1 => match k c with
    | some true => endedOC (clnQ sl h) (fh c sl1 h1)
    | some false => .rz c sl1 h1
    | none => .st
  | o => o
section
variable {X : Cx} {x n : Str} {cv : Value} {i : Nat} {body suite : List Stmt} {b₀ : Stmt} {np pos pos' : Pos} {fb : FS} {fh : Str → FS} {Wout : WX} {k : Str → Option Bool}
theorem endedC_ok {en : En} {w : Wd} {a : Addr} {o : O} {D : Ends} {W2 : WX} {q : Bool} (hq : q = true) (P : PoS X Wout en w (endedC q i o) D) :
    PoS (X.suite a []) W2 { en with ex := some (.ref a) } w o { nx := fun σ' H' => D.nx (σ'.set i none) H', rt := D.rt, bk := fun σ' H' => D.bk (σ'.set i none) H', ct := fun σ' H' => D.ct (σ'.set i none) H' } := by
  subst hq
  cases o with
  | nx sl h => exact fun w2 σ2 H2 l S => P w2 _ H2 l ⟨SimH.cln S.toSimH, Slt.cln (Slt.unset S.slots i)⟩
  | bk sl h => exact fun w2 σ2 H2 l S => P w2 _ H2 l ⟨SimH.cln S.toSimH, Slt.cln (Slt.unset S.slots i)⟩
  | ct sl h => exact fun w2 σ2 H2 l S => P w2 _ H2 l ⟨SimH.cln S.toSimH, Slt.cln (Slt.unset S.slots i)⟩
  | rt s h => exact fun w2 H2 v l S r => P w2 H2 v l (SimH.cln S) (RS.cln r)
  | rz c sl h => exact False.elim P
  | st => exact False.elim P
theorem endedOC_ok {en : En} {w : Wd} {a : Addr} {o : O} {D : Ends} {W2 : WX} {q : Bool} (hq : q = true) (P : PoS X Wout en w (endedOC q o) D) :
    PoS (X.suite a []) W2 { en with ex := some (.ref a) } w o D := by
  subst hq
  cases o with
  | nx sl h => exact fun w2 σ2 H2 l S => P w2 _ H2 l ⟨SimH.cln S.toSimH, Slt.cln S.slots⟩
  | bk sl h => exact fun w2 σ2 H2 l S => P w2 _ H2 l ⟨SimH.cln S.toSimH, Slt.cln S.slots⟩
  | ct sl h => exact fun w2 σ2 H2 l S => P w2 _ H2 l ⟨SimH.cln S.toSimH, Slt.cln S.slots⟩
  | rt s h => exact fun w2 H2 v l S r => P w2 H2 v l (SimH.cln S) (RS.cln r)
  | rz c sl h => exact False.elim P
  | st => exact False.elim P
theorem ss_try_asC (hs : X.stack = X.env :: X.outer) (hf : X.env.frame = some X.env.locals) (hN : X.N.Nodup) (hi : X.N[i]? = some n) (hln : X.env.kindOf n = some .local) (hc : Names X x cv) (tk : Takes X Wout) (hh : X.A.handled = none)
    (hk : ∀ c b u, k c = some b → X.mg c = some u → PySem.W.exmOne X.K u cv = some b)
    (hb : ∀ (W : WX) (pn : List (Addr × Obj)) (xe : Value → Shared → Prop), Takes (X.tr pn xe) W → PassesOwn (model X.prog X.w) X.A X.env xe → SSs (X.tr pn xe) W body fb)
    (hsu : ∀ (a : Addr) (oe : Obj) (cls : Value) (c : Str) (pn : List (Addr × Obj)), Zc cls none oe → (∃ vs, oe.data = .fields vs) → X.mg c = some cls → k c = some true → SSs (X.suite a ((a, oe) :: pn)) (fun _ _ _ _ => False) (b₀ :: suite) (fh c)) :
    SS X Wout (.Try body [.ExceptHandler (some (.Name x np)) (some n) (b₀ :: suite) pos'] [] [] pos) (sTryAsC i k fb fh) := by
  refine PS.imp (ps_try_as (tb := fun W => tS X W fb) (ts := fun a cls d => fun D σ H => d = none ∧ ∃ c, X.mg c = some cls ∧ k c = some true ∧ tS (X.suite a []) (fun _ _ _ _ => False) (fh c) D σ H) (Wout := Wout) hs hf hN hi hln hc tk hb (fun a oe cls d pn hz hv => ?_)) ?_
  · refine ⟨fun pins s σ H D I h => ?_⟩
    obtain ⟨hd, c, h1, h2, h3⟩ := h
    subst hd
    exact (hsu a oe cls c pn hz hv h1 h2).run pins s σ H D I h3
  · rintro D σ H ⟨en, w, sl, h, eK, S, P⟩
    refine ⟨en, w, sl, h, eK, S, ?_⟩
    have hn : en.ex = none := eK.2.trans hh
    have hq : clnQ sl h = true := by
      unfold clnQ
      rw [Slt.clean hn S.slots, SimH.clean hn S.toSimH]; rfl
    unfold sTryAsC at P
    generalize fb sl h = o at P ⊢
    cases o with
    | nx sl h => exact P
    | bk sl h => exact P
    | ct sl h => exact P
    | rt s h => exact P
    | st => exact P
    | rz c sl1 h1 =>
      intro w' σ' H' l S'
      intro u hu
      dsimp only at P
      split at P
      · rename_i hkc
        refine ⟨true, hk c true u hkc hu, fun _ a na => ⟨rfl, c, hu, hkc, ?_⟩, fun (z : true = false) => nomatch z⟩
        refine ⟨{ en with ex := some (.ref a) }, w', _, h1, ⟨eK.1, rfl⟩, ?_, endedC_ok hq (PoS.mono l P)⟩
        have S1 : Sim { en with ex := some (.ref a) } w' σ' H' sl1 h1 := ⟨SimH.toEx hn S'.toSimH, Slt.toEx hn S'.slots⟩
        exact S1.set (v := .ref a) (s := .ex c) ⟨a, rfl, rfl⟩ i
      · rename_i hkc
        exact ⟨false, hk c false u hkc hu, (fun (z : false = true) => nomatch z), fun _ => P w' σ' H' l S' u hu⟩
      · exact False.elim P
theorem ss_try_onlyC (hs : X.stack = X.env :: X.outer) (hf : X.env.frame = some X.env.locals) (hc : Names X x cv) (tk : Takes X Wout) (hh : X.A.handled = none)
    (hk : ∀ c b u, k c = some b → X.mg c = some u → PySem.W.exmOne X.K u cv = some b)
    (hb : ∀ (W : WX) (pn : List (Addr × Obj)) (xe : Value → Shared → Prop), Takes (X.tr pn xe) W → PassesOwn (model X.prog X.w) X.A X.env xe → SSs (X.tr pn xe) W body fb)
    (hsu : ∀ (a : Addr) (oe : Obj) (cls : Value) (c : Str) (pn : List (Addr × Obj)), Zc cls none oe → (∃ vs, oe.data = .fields vs) → X.mg c = some cls → k c = some true → SSs (X.suite a ((a, oe) :: pn)) (fun _ _ _ _ => False) (b₀ :: suite) (fh c)) :
    SS X Wout (.Try body [.ExceptHandler (some (.Name x np)) none (b₀ :: suite) pos'] [] [] pos) (sTryOC k fb fh) := by
  refine PS.imp (ps_try_only (tb := fun W => tS X W fb) (ts := fun a cls d => fun D σ H => d = none ∧ ∃ c, X.mg c = some cls ∧ k c = some true ∧ tS (X.suite a []) (fun _ _ _ _ => False) (fh c) D σ H) (Wout := Wout) hs hf hc tk hb (fun a oe cls d pn hz hv => ?_)) ?_
  · refine ⟨fun pins s σ H D I h => ?_⟩
    obtain ⟨hd, c, h1, h2, h3⟩ := h
    subst hd
    exact (hsu a oe cls c pn hz hv h1 h2).run pins s σ H D I h3
  · rintro D σ H ⟨en, w, sl, h, eK, S, P⟩
    refine ⟨en, w, sl, h, eK, S, ?_⟩
    have hn : en.ex = none := eK.2.trans hh
    have hq : clnQ sl h = true := by
      unfold clnQ
      rw [Slt.clean hn S.slots, SimH.clean hn S.toSimH]; rfl
    unfold sTryOC at P
    generalize fb sl h = o at P ⊢
    cases o with
    | nx sl h => exact P
    | bk sl h => exact P
    | ct sl h => exact P
    | rt s h => exact P
    | st => exact P
    | rz c sl1 h1 =>
      intro w' σ' H' l S'
      intro u hu
      dsimp only at P
      split at P
      · rename_i hkc
        refine ⟨true, hk c true u hkc hu, fun _ a na => ⟨rfl, c, hu, hkc, ?_⟩, fun (z : true = false) => nomatch z⟩
        exact ⟨{ en with ex := some (.ref a) }, w', _, h1, ⟨eK.1, rfl⟩, ⟨SimH.toEx hn S'.toSimH, Slt.toEx hn S'.slots⟩, endedOC_ok hq (PoS.mono l P)⟩
      · rename_i hkc
        exact ⟨false, hk c false u hkc hu, (fun (z : false = true) => nomatch z), fun _ => P w' σ' H' l S' u hu⟩
      · exact False.elim P
end
end Zx

namespace RT
open PySem PySem.Spec PyProof.Rows
section
variable {prog : Program} {w : World} {A : Around} {E : Value → Shared → Prop} {s : Shared}
/-! ## list(reversed(a list)) -/
theorem call_list_rev {it l : Addr} {items : Array Value} {Q : Value → Shared → Prop} (hh : A.handled = none) (hit : s.heap.IsRevIter it l ((items.size : Int) - 1)) (hl : s.heap.IsList l items) (hne : l ≠ it) (hn : items.size ≤ sizeLine)
    (hQ : ∀ (h' : Heap) (tk : Nat) (acc : Array Value) (c : Nat), (∀ b o, b ≠ it → s.heap.get? b = some o → h'.get? b = some o) → h'.get? s.heap.objs.size = some { cls := .type "list", dict := none, data := .seq acc c, slots := #[] } →
      ItemsOf (fun i v => items[items.size - 1 - i]? = some v) acc items.size → Q (.ref s.heap.objs.size) { s with heap := h', toks := tk }) :
    wpAny (model prog w) A (call (.type "list") [.ref it]) Q E s := by
  have W := (Walks.listRev (prog := prog) (w := w) (A := A.in1.in1) hh it l hne items).toS
  obtain ⟨oi, hoi, _⟩ := id hit
  obtain ⟨ol, hol, _⟩ := id hl
  have hSi : s.heap.objs.size ≠ it := Nat.ne_of_gt (Heap.lt_size hoi)
  have hSl : s.heap.objs.size ≠ l := Nat.ne_of_gt (Heap.lt_size hol)
  have hSf : s.heap.objs.size ∉ [it, l] := by simp only [List.mem_cons, List.not_mem_nil, or_false, not_or]; exact ⟨hSi, hSl⟩
  refine callType_codes (Q₁ := fun obj s₁ => obj = .ref s.heap.objs.size ∧ s₁ = { s with heap := s.heap.push { cls := .type "list", data := .seq #[] } }) F.called_list (F.typeCall_list_1 _) F.entry_list_init
    (code_list_new (.ref it) ⟨rfl, rfl⟩) ?_
  rintro obj s₁ ⟨rfl, rfl⟩
  refine ⟨⟨_, Heap.get?_push_size _ rfl, rfl⟩, F.args_list_init_2 _ _, ?_⟩
  have hS₁ : (s.heap.push { cls := .type "list", data := .seq (#[] : Array Value) }).get? s.heap.objs.size = some { cls := .type "list", data := .seq #[] } := Heap.get?_push_size _ rfl
  have hit1 : (s.heap.push { cls := .type "list", data := .seq (#[] : Array Value) }).IsRevIter it l ((items.size : Int) - 1) := hit.at fun o e => Heap.get?_push_of_some _ e
  have hl1 : (s.heap.push { cls := .type "list", data := .seq (#[] : Array Value) }).IsList l items := hl.push _
  show wpAny _ A.in1.in1 (do let old ← Builtin.List.listItems (.ref s.heap.objs.size); Builtin.List.listUpdate (.ref s.heap.objs.size) (fun _ => #[]); letGo old.toList.reverse; Builtin.List.listExtendWith (.ref s.heap.objs.size) (.ref it) .none) _ _ _
  refine wpAny_bind ?_
  unfold Builtin.List.listItems
  refine wpAny_bind (wpAny_seqItems hS₁ rfl (wpAny_pure ?_))
  show wpAny _ A.in1.in1 (updateSeq s.heap.objs.size (fun _ => #[]) >>= fun _ => letGo (#[] : Array Value).toList.reverse >>= fun _ => Builtin.List.listExtendWith (.ref s.heap.objs.size) (.ref it) .none) _ _ _
  refine wpAny_bind (wpAny_updateSeq hS₁ rfl ?_)
  have hS₂ := Heap.get?_update_self (Obj.mapSeq (fun _ => (#[] : Array Value))) hS₁ rfl
  have oth : ∀ b o, b ≠ s.heap.objs.size → (s.heap.push { cls := .type "list", data := .seq (#[] : Array Value) }).get? b = some o → ((s.heap.push { cls := .type "list", data := .seq (#[] : Array Value) }).update s.heap.objs.size (Obj.mapSeq (fun _ => (#[] : Array Value)))).get? b = some o :=
    fun b o hb e => (Heap.get?_update_other _ _ (Ne.symm hb)).trans e
  generalize hp2 : (s.heap.push { cls := .type "list", data := .seq (#[] : Array Value) }).update s.heap.objs.size (Obj.mapSeq (fun _ => (#[] : Array Value))) = hp at hS₂ oth ⊢
  have hit2 : hp.IsRevIter it l ((items.size : Int) - 1) := hit1.at fun o e => oth it o (Ne.symm hSi) e
  have hl2 : hp.IsList l items := hl1.at fun o e => oth l o (Ne.symm hSl) e
  refine wpAny_bind (wpAny_letGo ?_)
  have hT : ({ s with heap := hp } : Shared).TypeIs (.ref it) "list_reverseiterator" := Heap.IsRevIter.typeIs (s := { s with heap := hp }) hit2
  have h1 : Builtin.List.listSameRef (.ref s.heap.objs.size) (.ref it) = false := by simp [Builtin.List.listSameRef, hSi]
  show wpAny _ A.in1.in1 (Builtin.List.listExtendWith (.ref s.heap.objs.size) (.ref it) .none) _ _ _
  unfold Builtin.List.listExtendWith
  refine wpAny_bind (wpAny_typeOf hT ?_)
  rw [if_neg (by rw [h1]; decide)]
  refine wpAny_bind (wpAny_pyIter_revIter (s := { s with heap := hp }) hit2 ?_)
  refine wpAny_bind (wpAny_holding ?_)
  unfold Builtin.List.listLengthHint
  refine wpAny_bind (wpAny_specialOf hT nolen_lri ?_)
  show wpAny _ A.in1.in1 (specialOf (Value.ref it) (Str.ofString "__length_hint__") >>= _) _ _ _
  refine wpAny_bind (wpAny_specialOf hT hint_lri ?_)
  generalize hid : ("list_reverseiterator.__length_hint__" : String) = id0
  wp_delta
  rw [show splitId id0 = some ("list_reverseiterator", "__length_hint__") from by subst hid; decide +kernel]
  subst hid
  refine wpAny_bind (wpAny_isInstance (b := true) hT (by rw [isSubtype_type]; kernel_rfl) ?_)
  refine wpAny_pure ?_
  rw [if_neg (by decide)]
  have e0 : ((items.size : Nat) : Int) - 1 - ((0 : Nat) : Int) = (items.size : Int) - 1 := by omega
  refine wpAny_pure ⟨plainId_quiet F.plain_extend_loop _, codeAny_extend_loopS W hn _ hSf _ items.size 0 _ _ _ rfl (Nat.zero_le _) ⟨Nat.zero_le _, by rw [e0]; exact hit2, hl2⟩ hS₂ (ItemsOf.nil _) fun s' acc' c' hm hS' hacc => ?_⟩
  refine ⟨rfl, ?_⟩
  rw [Moved.eq_with hm]
  refine hQ s'.heap s'.toks acc' c' (fun b o hb e => hm.heap b o (fun hmem => ?_) (oth b o (Nat.ne_of_lt (Heap.lt_size e)) (Heap.get?_push_of_some _ e))) hS' hacc
  rcases List.mem_cons.mp hmem with e' | hmem
  · exact absurd (Heap.lt_size e) (by rw [e']; exact Nat.lt_irrefl _)
  · exact hb (List.mem_singleton.mp hmem)
end
section
open L2
variable {X : Cx}
def tListRev (K : PySem.W.Frag) (te : TE) : TE := fun σ H Q => te σ H fun v H1 => ∃ (a : Addr) (xs : List V), v = .ref a ∧ SqL K H1 a xs ∧ ∀ q, H1 q = none → Q (.ref q) (upd H1 q (.lst xs.reverse))
theorem pe_listRev {e : Expr} {te : TE} {p p2 pos pos2 : Pos} (hc : X.calm = true) (hg : Gl X "list") (hm : X.mg "list" = none) (hg2 : Gl X "reversed") (hm2 : X.mg "reversed" = none) (he : PE X e te)
    (hs : starEach [e] X.env = (false, eval e X.env) :: starEach [] X.env := by rfl)
    (hs2 : starEach [.Call (.Name "reversed" p2) [e] [] pos2] X.env = (false, eval (.Call (.Name "reversed" p2) [e] [] pos2) X.env) :: starEach [] X.env := by rfl) :
    PE X (.Call (.Name "list" p) [.Call (.Name "reversed" p2) [e] [] pos2] [] pos) (tListRev X.K te) := by
  refine ⟨fun pins s σ H Q I h => ?_⟩
  refine Call_ (ld_blt I hg hm boot_list (PyProof.Rows.callWith_type1 (args_cons (Call_ (ld_blt I hg2 hm2 PyProof.Rows.boot_reversed (PyProof.Rows.callWith_type1 (args_cons (thn (he.run pins s σ H _ I h) fun u s1 ⟨v, H1, I1, r1, q1⟩ => args_nil ?_) hs) hs rfl))) hs2) hs2 rfl))
  obtain ⟨a, xs, ev, hq, q⟩ := q1
  subst ev
  obtain rfl : u = Value.ref a := r1
  obtain ⟨its, rv, p', hz⟩ := I1.list hq
  refine call_reversed_list p'.isList (args_nil ?_)
  have k0 : ∀ b o, s1.heap.get? b = some o → (s1.heap.push (revObj a ((its.toArray.size : Int) - 1))).get? b = some o := fun b o e => Heap.get?_push_of_some _ e
  have I2 : Inv X pins σ H1 { s1 with heap := s1.heap.push (revObj a ((its.toArray.size : Int) - 1)) } := I1.kept (t' := s1.toks) k0
  obtain ⟨f0, f1, f2, f3, f4, f5⟩ := I1.fpOk (H' := H1) (b := s1.heap.objs.size) (Nat.le_refl _) (I1.hok.fresh (Nat.le_refl _))
  have hl := p'.isList
  obtain ⟨ol, hol, _⟩ := id hl
  have hne : a ≠ s1.heap.objs.size := Nat.ne_of_lt (Heap.lt_size hol)
  have hn : its.toArray.size ≤ sizeLine := by rw [List.size_toArray, ← rv.length]; exact hz
  refine call_list_rev (s := { s1 with heap := s1.heap.push (revObj a ((its.toArray.size : Int) - 1)) }) (I1.ok.hd hc) ⟨_, Heap.get?_push_size _ rfl, rfl, rfl⟩ (hl.push _) hne hn fun h' tk acc c hk hS hi => ?_
  have hf : FpOk X pins H1 s1.heap.objs.size := ⟨f0, f1, f2, f3, f4, f5⟩
  have hsz : s1.heap.objs.size ≤ (s1.heap.push (revObj a ((its.toArray.size : Int) - 1))).objs.size := by simp [Heap.push]
  refine ⟨.ref _, upd H1 _ (.lst xs.reverse), I1.turnedNew (t' := tk) (ch := [s1.heap.objs.size]) (fun b o hb e => hk b o (fun z => hb (by simp [z])) (k0 b o e)) (fun b hb => by rw [List.mem_singleton.mp hb]; exact hf) hsz ?_, rfl, q _ (I1.hok.fresh hsz)⟩
  exact (show ObjOk X.prog X.w _ h' _ (.lst xs.reverse) from ⟨by rw [List.length_reverse]; exact hz, acc.toList, c, vals_rev rv hi, by rw [Array.toArray_toList]; exact hS⟩)
end
end RT
namespace Zx
open PySem PySem.Spec L2 RT
def gLRev : SV → AH → R SV := fun s h => match lstOf h s with
  | some xs => .ok (.r h.length) (h ++ [some (.lst xs.reverse)])
  | none => .st
theorem RSL.append {en : En} {w : Wd} : ∀ {ss : List SV} {vs : List V} {tt : List SV} {us : List V}, RSL en w vs ss → RSL en w us tt → RSL en w (vs ++ us) (ss ++ tt)
  | [], vs, tt, us, r, q => by
    rw [show vs = [] from r]; exact q
  | s :: ss, vs, tt, us, ⟨x, r, e, a, b⟩, q => by
    subst e
    exact ⟨x, r ++ us, rfl, a, RSL.append b q⟩
theorem RSL.reverse {en : En} {w : Wd} : ∀ {ss : List SV} {vs : List V}, RSL en w vs ss → RSL en w vs.reverse ss.reverse
  | [], vs, r => by rw [show vs = [] from r]; exact rfl
  | s :: ss, vs, ⟨x, r, e, a, b⟩ => by
    subst e
    rw [List.reverse_cons, List.reverse_cons]
    exact RSL.append (RSL.reverse b) ⟨x, [], rfl, a, rfl⟩
section
variable {X : Cx} {W : WX} {e : Expr} {fa : FE}
theorem se_listRev {p p2 pos pos2 : Pos} (hc : X.calm = true) (hg : Gl X "list") (hm : X.mg "list" = none) (hg2 : Gl X "reversed") (hm2 : X.mg "reversed" = none) (he : SE X W e fa)
    (hs : starEach [e] X.env = (false, eval e X.env) :: starEach [] X.env := by rfl)
    (hs2 : starEach [.Call (.Name "reversed" p2) [e] [] pos2] X.env = (false, eval (.Call (.Name "reversed" p2) [e] [] pos2) X.env) :: starEach [] X.env := by rfl) :
    SE X W (.Call (.Name "list" p) [.Call (.Name "reversed" p2) [e] [] pos2] [] pos) (fUn gLRev fa) :=
  PE.imp (pe_listRev hc hg hm hg2 hm2 he hs hs2) (by
    rintro σ H Q ⟨en, w, sl, h, eK, S, P⟩
    refine ⟨en, w, sl, h, eK, S, Po.bind P fun s h1 v w1 H1 l1 S1 r1 P1 => ?_⟩
    unfold gLRev at P1
    split at P1
    · rename_i xs hx
      obtain ⟨a, vs, rfl, q, rl⟩ := lst_ok S1.toSimH r1 hx
      refine ⟨a, vs, rfl, .of q, fun l nl => P1 _ (w1.ow l) _ le_ow (S1.newO nl rl.reverse) S1.toSimH.rs_new⟩
    · exact False.elim P1)
end
end Zx

namespace Zx
open PySem PySem.Spec L2
/-! ## owned tuples: what they hold may be changed -/
section
variable {X : Cx} {W : WX} {es : List Expr} {fa : FA} {pos : Pos}
/-- owned, but where all that it holds can't be changed -/
def allI (ss : List SV) : Option (List PyData) := match allD ss with
  | some ds => if immL ds = true then some ds else none
  | none => none
def fTupO (fa : FA) : FE := fun sl h => (fa sl h).bind fun ss h1 => if ss.length ≤ 1000 then match allI ss with
    | some ds => .ok (.d (.tuple ds)) h1
    | none => .ok (.r h1.length) (h1 ++ [some (.tup ss)])
  else .st
theorem se_tupO {x1} (ha : SA X W es fa) : SE X W (.Tuple es x1 pos) (fTupO fa) := PE.imp (pe_tup ha) (by
  rintro σ H Q ⟨en, w, sl, h, eK, S, P⟩
  refine ⟨en, w, sl, h, eK, S, Po.bind P fun ss h1 vs w1 H1 l1 S1 r1 P1 => ?_⟩
  split at P1
  · rename_i hl
    refine ⟨by rw [RSL.length r1]; exact Nat.le_trans hl line1000, fun p np => ?_⟩
    split at P1
    · rename_i ds hd
      have hd2 : allD ss = some ds := by
        unfold allI at hd
        split at hd
        · rename_i d2 hd2
          split at hd
          · cases hd; exact hd2
          · cases hd
        · cases hd
      have rl := allD_ok r1 hd2
      have l2 : w1.le (w1.fz p (.tup vs)) := le_fz (S1.F_none np)
      refine P1 (.ref p) (w1.fz p (.tup vs)) _ l2 (S1.newF np (fun _ _ z => by cases z)) ?_
      show Rp en.K (upd w1.F p (.tup vs)) (.ref p) (.tuple ds)
      unfold Rp
      exact ⟨p, vs, rfl, .inl (.inl upd_same), RpL.mono l2.2 ds vs rl⟩
    refine P1 (.ref p) ((w1.fz p (.tup vs)).ow p) _ ((le_fz (S1.F_none np)).trans le_ow) (S1.newT np r1) ⟨p, ?_, rfl⟩
    show (w1.rho ++ [p])[h1.length]? = some p
    rw [← S1.len, List.getElem?_append_right (Nat.le_refl _)]
    simp
  · exact False.elim P1)
end
end Zx

namespace Zx
open PySem PySem.Spec L2
open PyProof.Rows (envOfC)
/-! ## calls by reference: what is handed in is the caller's own -/
def fCallR (np N : Nat) (g : FS) (fa : FA) : FE := fun sl h => (fa sl h).bind fun ss h1 => if ss.length = np then (match g (ss ++ List.replicate (N - ss.length) .un) h1 with
  | .rt s h2 => .ok s h2
  | .nx _ h2 => .ok (.d .none) h2
  | .rz c _ h2 => .rz c h2
  | _ => .st) else .st
def spR (K : PySem.W.Frag) (mg : Str → Option Value) (np N : Nat) (g : FS) : Sp := fun vs H Q E => ∃ en w h ss, en.K = K ∧ en.ex = none ∧ SimH en w H h ∧ RSL en w vs ss ∧ ss.length = np ∧ match g (ss ++ List.replicate (N - ss.length) .un) h with
  | .rt s h' => ∀ v w' H', w.le w' → SimH en w' H' h' → RS en w' v s → Q v H'
  | .nx _ h' => ∀ w' H', w.le w' → SimH en w' H' h' → Q .non H'
  | .rz c _ h' => ∀ w' H', w.le w' → SimH en w' H' h' → ∀ u, mg c = some u → E u none H'
  | _ => False
theorem slt_start {en : En} {w : Wd} {n : Nat} : ∀ {vs : List V} {ss : List SV}, RSL en w vs ss → Slt en w (vs.map some ++ List.replicate n none) (ss ++ List.replicate n .un)
  | vs, [], r => by
    cases r
    refine ⟨by simp, fun i s e => ?_⟩
    rw [List.nil_append, List.getElem?_replicate] at e
    split at e
    · cases e; exact .inl rfl
    · cases e
  | vs, s :: ss, ⟨x, r, e, a, b⟩ => by
    subst e
    have ih := slt_start (n := n) b
    refine ⟨by rw [List.map_cons, List.cons_append, List.cons_append, List.length_cons, List.length_cons, ih.1], fun i t z => ?_⟩
    cases i with
    | zero =>
      cases z
      exact .inr ⟨x, rfl, a⟩
    | succ i => exact ih.2 i t z
section
variable {P : Program} {w : World} {K : PySem.W.Frag} {mg : Str → Option Value} {base : Heap}
theorem fn_ref {x qual : Str} {st : Stmt} {f : Addr} {fd : FuncData} {N ps : List Str} {k : Nat} {g : FS} (F : Fun K x qual st f fd) (S : FnScope N ps (defScope st)) (hb : DefOk P w K mg base N qual st k g) :
    FnOk P w K mg base (L2.CX P w) (k + 1) f fd ps (spR K mg ps.length N.length g) := by
  refine F.okX S (fun vs H Q E h => ?_) (fun cdv A outer s H vs Q E hr h => ?_)
  · obtain ⟨en, w, h, ss, _, _, _, r, hl, _⟩ := h
    exact (RSL.length r).trans hl
  · obtain ⟨en, w0, h, ss, eK, ex, S0, r, hl, q⟩ := h
    refine ⟨tS (cxOf (L2.CX P w) P w K mg base N qual (defScope st) f cdv A outer s H E) (fun cls d _ H => E cls d H) g, hb f cdv A outer s H E _ hr (takes_of rfl rfl rfl rfl) (passes_of rfl), ?_⟩
    refine ⟨en, w0, ss ++ List.replicate (N.length - ss.length) .un, h, ⟨eK, ex.trans hr.hd.symm⟩, ⟨S0, ?_⟩, ?_⟩
    · show Slt _ _ (L2.start N vs) _
      unfold L2.start
      rw [RSL.length r]
      exact slt_start r
    · generalize g (ss ++ List.replicate (N.length - ss.length) .un) h = o at q ⊢
      cases o with
      | nx sl h => exact fun w' σ' H' l S' => q w' H' l S'.toSimH
      | rt s h => exact fun w' H' v l S' r => q v w' H' l S' r
      | rz c sl h => exact fun w' σ' H' l S' u hu => q w' H' l S'.toSimH u hu
      | bk sl h => exact False.elim q
      | ct sl h => exact False.elim q
      | st => exact False.elim q
end
structure CalR (P : Program) (w : World) (K : PySem.W.Frag) (mg : Str → Option Value) (base : Heap) (x : Str) (k : Nat) (np N : Nat) (g : FS) : Prop where
  ex : ∃ f fd ps, FnOk P w K mg base (L2.CX P w) k f fd ps (spR K mg np N g) ∧ mg x = some (.ref f) ∧ PySem.W.keepIn K (.ref f) = true ∧ Binds K fd ps []
section
variable {X : Cx} {W : WX} {a : Expr} {es : List Expr} {fa : FA} {pos p : Pos} {x : Str} {k : Nat} {np N : Nat} {g : FS}
theorem callR_t (hd : X.A.handled = none) {σ : St} {H : Hp} {Q : VK} (q : tE X W (fCallR np N g fa) σ H Q) : tCallS (spR X.K X.mg np N g) (WE W) (tA X W fa) σ H Q := by
  obtain ⟨en, w, sl, h, eK, S, P⟩ := q
  refine ⟨en, w, sl, h, eK, S, Po.bind P fun ss h1 vs w1 H1 l1 S1 r1 P1 => ?_⟩
  split at P1
  · rename_i hl
    refine ⟨en, w1, h1, ss, eK.1, eK.2.trans hd, S1.toSimH, r1, hl, ?_⟩
    generalize g (ss ++ List.replicate (N - ss.length) .un) h1 = o at P1 ⊢
    cases o with
    | nx sl2 h2 => exact fun w' H' l S' => P1 .non w' H' l ⟨S', S1.slots.mono l⟩ (show Rp en.K w'.F .non .none from Rp.non)
    | rt s h2 => exact fun v w' H' l S' r => P1 v w' H' l ⟨S', S1.slots.mono l⟩ r
    | rz c sl2 h2 => exact fun w' H' l S' u hu => P1 w' H' l ⟨S', S1.slots.mono l⟩ u hu
    | bk sl2 h2 => exact False.elim P1
    | ct sl2 h2 => exact False.elim P1
    | st => exact False.elim P1
  · exact False.elim P1
theorem se_callR (c : CalR X.prog X.w X.K X.mg X.base x k np N g) (hr : Room k X.A) (hg : Gl X x) (tk : Takes X W)
    (ha : SA X W (a :: es) fa) (hdb : (x == ("__debug__" : Str)) = false := by decide) (he : starEach (a :: es) X.env = (false, eval a X.env) :: starEach es X.env := by rfl) (hpl : (backTo pos (starEach es X.env)).any (·.1) = false := by rfl) :
    SE X W (.Call (.Name x p) (a :: es) [] pos) (fCallR np N g fa) := by
  obtain ⟨f, fd, ps, F, hm, hk, hb⟩ := c.ex
  exact PE.imp (pe_callS F hr hg hm hk hb (passAt tk) ha hdb he hpl) fun _ _ _ q => callR_t hr.hd q
end
end Zx

namespace Zx
open PySem PySem.Spec L2
open PyProof.Rows (floordiv_int mod_int')
/-! ## x[i], y[j] = a, b -/
def sSwap (fo fi fo2 fj : FE) (fa : FA) : FS := fun sl h => (fa sl h).thn sl fun vs h1 => match vs with
  | [s, t] => (fo sl h1).thn sl fun o h2 => (fi sl h2).thn sl fun i h3 => match putIx o i s h3 with
    | some h4 => (fo2 sl h4).thn sl fun o2 h5 => (fj sl h5).thn sl fun j h6 => match putIx o2 j t h6 with
      | some h7 => .nx sl h7
      | none => .st
    | none => .st
  | _ => .st
section
variable {X : Cx} {W : WX} {o i o2 j : Expr} {es : List Expr} {fo fi fo2 fj : FE} {fa : FA} {pos tpos tpos2 p1 p2 : Pos} {k1 k2}
theorem ss_swap (ha : SA X W es fa) (ho : SE X W o fo) (hi : SE X W i fi) (ho2 : SE X W o2 fo2) (hj : SE X W j fj) (hc : X.calm = true)
    (hg : PG X (.Subscript o i tpos) (L2.gSub (tE X W fo) (tE X W fi) rSetL)) (hg2 : PG X (.Subscript o2 j tpos2) (L2.gSub (tE X W fo2) (tE X W fj) rSetL))
    (hs : swapsWithSole [.Tuple [.Subscript o i tpos, .Subscript o2 j tpos2] k1 p1] (.Tuple es k2 p2) pos.line X.env = pure false := by rfl) (hw : swappedStores [.Tuple [.Subscript o i tpos, .Subscript o2 j tpos2] k1 p1] (.Tuple es k2 p2) X.env = pure none := by rfl) :
    SS X W (.Assign [.Tuple [.Subscript o i tpos, .Subscript o2 j tpos2] k1 p1] (.Tuple es k2 p2) pos) (sSwap fo fi fo2 fj fa) := PS.imp (ps_asg (pe_tup ha) (pg_tup (n := 2) hc (pgs_cons hg (pgs_cons hg2 pgs_nil))) hs hw) (by
  rintro D σ H ⟨en, w, sl, h, eK, S, P⟩
  refine ⟨en, w, sl, h, eK, S, Po.thn P fun ss h1 vs w1 H1 l1 S1 r1 P1 => ?_⟩
  split at P1
  · rename_i s t
    obtain ⟨v, vr, rfl, rs, v2, vr2, rfl, rt, rfl⟩ := r1
    refine ⟨by show 2 ≤ sizeLine; exact Nat.le_trans (by decide) line1000, fun p np => ?_⟩
    have S2 : Sim en (w1.fz p (.tup [v, v2])) σ (upd H1 p (.tup [v, v2])) sl h1 := S1.newF np (fun _ _ z => by cases z)
    have l2 : w1.le (w1.fz p (.tup [v, v2])) := le_fz (S1.F_none np)
    refine ⟨p, [v, v2], rfl, .of upd_same, rfl, v, [v2], rfl, ?_⟩
    refine ⟨en, _, sl, h1, eK, S2, Po.thn (PoS.mono l2 P1) fun so h2 x w2 H2 m2 T2 q2 P2 => ?_⟩
    refine ⟨en, w2, sl, h2, eK, T2, Po.thn P2 fun si h3 y w3 H3 m3 T3 q3 P3 => ?_⟩
    split at P3
    · rename_i h4 he
      refine put_ok (D := fun σ' H' => gCons (L2.gSub (tE X W fo2) (tE X W fj) rSetL) gNil [v2] σ' H' D.nx) T3 (RS.mono m3 q2) q3 (RS.mono (l2.trans (m2.trans m3)) rs) he fun H' S' => ?_
      refine ⟨v2, [], rfl, ?_⟩
      refine ⟨en, w3, sl, h4, eK, S', Po.thn P3 fun so2 h5 x2 w5 H5 m5 T5 q5 P5 => ?_⟩
      refine ⟨en, w5, sl, h5, eK, T5, Po.thn P5 fun sj h6 y2 w6 H6 m6 T6 q6 P6 => ?_⟩
      split at P6
      · rename_i h7 he7
        refine put_ok (D := fun σ' H' => gNil [] σ' H' D.nx) T6 (RS.mono m6 q5) q6 (RS.mono (l2.trans (m2.trans (m3.trans (m5.trans m6)))) rt) he7 fun H'' S'' => ⟨rfl, P6 _ _ _ (Wd.le.refl _) S''⟩
      · exact False.elim P6
    · exact False.elim P3
  · exact False.elim P1)
end
/-! ## // and % by any divisor but 0 -/
def CDivF (_ j : Int) : Prop := j ≠ 0 ∧ j.natAbs.log2 < 9000
theorem op_fdivF {X : Cx} : OpR X (binaryOp .FloorDiv) (rI CDivF fun i j => .int (i.fdiv j)) := opI fun i j _ _ _ _ _ hc q => floordiv_int hc.1 q (.inl (PyProof.noPylong_of_log2 hc.2))
def divF (_ j : Int) : Bool := decide (j ≠ 0 ∧ j.natAbs.log2 < 9000)
def modF (_ j : Int) : Bool := decide (j ≠ 0)
def gFdv : SV → SV → AH → R SV := gI divF fun i j => .int (i.fdiv j)
def gFmd : SV → SV → AH → R SV := gI modF fun i j => .int (i.fmod j)
theorem os_fdv {X : Cx} : OpS X (rI CDivF fun i j => .int (i.fdiv j)) gFdv := os_I fun i j h => by unfold divF at h; exact (of_decide_eq_true h : j ≠ 0 ∧ j.natAbs.log2 < 9000)
theorem os_fmd {X : Cx} : OpS X (rI (fun _ j => j ≠ 0) fun i j => .int (i.fmod j)) gFmd := os_I fun i j h => by unfold modF at h; exact (of_decide_eq_true h : j ≠ 0)
/-! ## nothing is known of a call -/
theorem defOk_st {P : Program} {w : World} {K : PySem.W.Frag} {mg : Str → Option Value} {base : Heap} {N : List Str} {qual : Str} {st : Stmt} {k : Nat} : DefOk P w K mg base N qual st k (fun _ _ => .st) :=
  fun _ _ _ _ _ _ _ _ _ _ _ => ⟨fun _ _ _ _ _ _ q => by
    obtain ⟨_, _, _, _, _, _, z⟩ := q
    exact False.elim z⟩
end Zx

namespace Gn
open PySem PySem.Spec L2 Zx
/-! ### what each def computes -/
def m_ask_square : FS :=
  (sIf (fTst (fBin (gEq true) (fCB gLen (fCons (fVar 0) fNil)) (fCB gLen (fCons (fBin gIx (fVar 0) (fC (.int 0))) fNil)))) (sRaise (PySem.Str.ofString "NoGrid")) sNext)
def v_ask_square : List PyData → Zx.R SV := phi [.vw] 1 m_ask_square
def l_pivot_row_1 : FS :=
  (sFor (iRng2 (fCons (fVar 1) (fCons (fCB gLen (fCons (fVar 0) fNil)) fNil))) (.nm 2) (sIf (fTst (fBin (gEq true) (fBin gIx (fBin gIx (fVar 0) (fVar 2)) (fVar 1)) (fC (.int 0)))) (sRet (fVar 2)) sNext))
def m_pivot_row : FS :=
  (sSeq l_pivot_row_1
    (sRet (fC .none)))
def v_pivot_row : List PyData → Zx.R SV := phi [.vw, .vw] 3 m_pivot_row
def m_law_cell_at : FS :=
  (sSeq (sIf (fTst (fBin gLt (fVar 1) (fCB gLen (fCons (fVar 0) fNil)))) (sRet (fBin gIx (fVar 0) (fVar 1))) sNext)
    (sRet (fC (.int 0))))
def v_law_cell_at : List PyData → Zx.R SV := phi [.sc, .vw] 2 m_law_cell_at
def m_law_number : FS :=
  (sSeq (sSet 1 (fBin gIx (fTup (fCons (fC (.int 3)) (fCons (fC (.int 6)) (fCons (fC (.int 50)) (fCons (fBin gPow (fC (.int 10)) (fC (.int 9))) (fCons (fBin gPow (fC (.int 10)) (fC (.int 30))) fNil)))))) (fBin gMod (fVar 0) (fC (.int 5)))))
    (sSeq (sSet 0 (fBin gDiv (fVar 0) (fC (.int 5))))
    (sRet (fTup (fCons (fBin gSub (fBin gMod (fVar 0) (fBin gSub (fBin gMul (fC (.int 2)) (fVar 1)) (fC (.int 1)))) (fBin gSub (fVar 1) (fC (.int 1)))) (fCons (fBin gDiv (fVar 0) (fBin gSub (fBin gMul (fC (.int 2)) (fVar 1)) (fC (.int 1)))) fNil))))))
def v_law_number : List PyData → Zx.R SV := phi [.vw] 2 m_law_number
def e_law_copy_1 : FE :=
  (fLc (iSeq (fVar 0)) (.nm 1) fYes (fCB gList (fCons (fVar 1) fNil)) [1])
def m_law_copy : FS :=
  (sRet e_law_copy_1)
def v_law_copy : List PyData → Zx.R SV := phi [.vw] 2 m_law_copy
def e_law_product_1 : FE :=
  (fFz (fLc (iRng (fCons (fCB gLen (fCons (fVar 3) fNil)) fNil)) (.nm 6) fYes (fBin gMul (fBin gIx (fVar 3) (fVar 6)) (fBin gIx (fBin gIx (fVar 1) (fVar 6)) (fVar 5))) [6]))
def l_law_product_1 : FS :=
  (sFor (iRng (fCons (fCB gLen (fCons (fBin gIx (fVar 1) (fC (.int 0))) fNil)) fNil)) (.nm 5) (sExpr (fBM kdL (gOwn kAppend) (fVar 4) (fCons (fFz (fCB gSum (fCons e_law_product_1 fNil))) fNil))))
def l_law_product_2 : FS :=
  (sFor (iSeq (fVar 0)) (.nm 3) (sSeq (sSet 4 (fLst fNil))
    (sSeq l_law_product_1
    (sExpr (fBM kdL (gOwn kAppend) (fVar 2) (fCons (fFz (fVar 4)) fNil))))))
def m_law_product : FS :=
  (sSeq (sSet 2 (fLst fNil))
    (sSeq l_law_product_2
    (sRet (fFz (fVar 2)))))
def v_law_product : List PyData → Zx.R SV := phi [.vw, .vw] 7 m_law_product
def e_determinant_1 : FE :=
  (fFz (fLc (iZip (fCons (fBin gIx (fVar 1) (fVar 6)) (fCons (fBin gIx (fVar 1) (fVar 4)) fNil))) (.tp [8, 9]) fYes (fBin gFdv (fBin gSub (fBin gMul (fBin gIx (fBin gIx (fVar 1) (fVar 4)) (fVar 4)) (fVar 8)) (fBin gMul (fBin gIx (fBin gIx (fVar 1) (fVar 6)) (fVar 4)) (fVar 9))) (fVar 3)) [8, 9]))
def e_determinant_2 : FE :=
  (fLc (iSeq (fVar 0)) (.nm 7) fYes (fFz (fCB gList (fCons (fVar 7) fNil))) [7])
def l_determinant_1 : FS :=
  (sFor (iRng2 (fCons (fBin gAdd (fVar 4) (fC (.int 1))) (fCons (fCB gLen (fCons (fVar 1) fNil)) fNil))) (.nm 6) (sStore (fVar 1) (fVar 6) e_determinant_1))
def l_determinant_2 : FS :=
  (sFor (iRng (fCons (fCB gLen (fCons (fVar 1) fNil)) fNil)) (.nm 4) (sSeq (sSet 5 (fCall [.vw, .vw] v_pivot_row (fCons (fVar 1) (fCons (fVar 4) fNil))))
    (sSeq (sIf (fTst (fBin gIsN (fVar 5) (fC .none))) (sRet (fC (.int 0))) sNext)
    (sSeq (sIf (fTst (fBin (gEq true) (fVar 5) (fVar 4))) (sSeq (sSwap (fVar 1) (fVar 4) (fVar 1) (fVar 5) (fCons (fBin gIx (fVar 1) (fVar 5)) (fCons (fBin gIx (fVar 1) (fVar 4)) fNil)))
    (sSet 2 (fUn gNeg (fVar 2)))) sNext)
    (sSeq l_determinant_1
    (sSet 3 (fBin gIx (fBin gIx (fVar 1) (fVar 4)) (fVar 4))))))))
def m_determinant : FS :=
  (sSeq (sExpr (fCall [.vw] v_ask_square (fCons (fVar 0) fNil)))
    (sSeq (sSet 1 e_determinant_2)
    (sSeq (sSet 2 (fC (.int 1)))
    (sSeq (sSet 3 (fC (.int 1)))
    (sSeq l_determinant_2
    (sRet (fBin gMul (fVar 2) (fVar 3))))))))
def v_determinant : List PyData → Zx.R SV := phi [.vw] 10 m_determinant
def l_law_big_1 : FS :=
  (sFor (iRng (fCons (fC (.int 64)) fNil)) (.nm 5) (sSeq (sSet 6 (fBin gAdd (fBin gAdd (fBin gMod (fCall [.sc, .vw] v_law_cell_at (fCons (fVar 0) (fCons (fBin gAdd (fVar 1) (fBin gMod (fVar 5) (fC (.int 9)))) fNil))) (fBin gPow (fC (.int 10)) (fC (.int 18)))) (fBin gMul (fC (.int 7)) (fVar 5))) (fC (.int 1))))
    (sSet 4 (fBin gAdd (fBin gMul (fVar 4) (fC (.int 8191))) (fBin gMod (fBin gMul (fBin gMod (fBin gAdd (fBin gMul (fVar 6) (fVar 6)) (fBin gMul (fC (.int 31)) (fVar 5))) (fBin gIx (fVar 3) (fBin gMod (fVar 5) (fC (.int 9))))) (fBin gAdd (fVar 5) (fC (.int 3)))) (fC (.int 8191)))))))
def m_law_big : FS :=
  (sSeq (sSet 2 (fCall [.sc, .vw] v_law_cell_at (fCons (fVar 0) (fCons (fVar 1) fNil))))
    (sSeq (sIf (fTst (fBin gGe (fVar 2) (fBin gPow (fC (.int 10)) (fC (.int 18))))) (sRet (fVar 2)) sNext)
    (sSeq (sSet 3 (fTup (fCons (fC (.int 99989)) (fCons (fC (.int 99971)) (fCons (fC (.int 99961)) (fCons (fC (.int 99929)) (fCons (fC (.int 99923)) (fCons (fC (.int 99907)) (fCons (fC (.int 99901)) (fCons (fC (.int 99881)) (fCons (fC (.int 99877)) fNil)))))))))))
    (sSeq (sSet 4 (fC (.int 0)))
    (sSeq l_law_big_1
    (sRet (fVar 4)))))))
def v_law_big : List PyData → Zx.R SV := phi [.sc, .vw] 7 m_law_big
def l_law_stepped_1 : FS :=
  (sFor (iRng (fCons (fCB gLen (fCons (fBin gIx (fVar 0) (fC (.int 0))) fNil)) fNil)) (.nm 6) (sStore (fBin gIx (fVar 5) (fVar 2)) (fVar 6) (fBin gAdd (fBin gIx (fBin gIx (fVar 0) (fVar 2)) (fVar 6)) (fBin gMul (fVar 4) (fBin gIx (fBin gIx (fVar 0) (fVar 3)) (fVar 6))))))
def l_law_stepped_2 : FS :=
  (sFor (iRng (fCons (fCB gLen (fCons (fVar 0) fNil)) fNil)) (.nm 6) (sStore (fBin gIx (fVar 5) (fVar 6)) (fVar 2) (fBin gAdd (fBin gIx (fBin gIx (fVar 0) (fVar 6)) (fVar 2)) (fBin gMul (fVar 4) (fBin gIx (fBin gIx (fVar 0) (fVar 6)) (fVar 3))))))
def m_law_stepped : FS :=
  (sSeq (sSet 5 (fCall [.vw] v_law_copy (fCons (fVar 0) fNil)))
    (sSeq (sIf (fTst (fBin (gEq false) (fVar 1) (fC (.str (PySem.Str.ofString "row"))))) l_law_stepped_1 l_law_stepped_2)
    (sRet (fFz (fVar 5)))))
def v_law_stepped : List PyData → Zx.R SV := phi [.vw, .vw, .vw, .vw, .vw] 7 m_law_stepped
def l_law_grid_1 : FS :=
  (sFor (iRng (fCons (fVar 3) fNil)) (.nm 8) (sSeq (sSetT [9, 6] (fCall [.vw] v_law_number (fCons (fVar 6) fNil)))
    (sExpr (fBM kdL (gOwn kAppend) (fVar 7) (fCons (fFz (fVar 9)) fNil)))))
def l_law_grid_2 : FS :=
  (sFor (iRng (fCons (fVar 2) fNil)) (.nm 5) (sSeq (sSet 6 (fCall [.sc, .vw] v_law_big (fCons (fVar 0) (fCons (fBin gAdd (fVar 1) (fVar 5)) fNil))))
    (sSeq (sSet 7 (fLst fNil))
    (sSeq l_law_grid_1
    (sExpr (fBM kdL (gOwn kAppend) (fVar 4) (fCons (fFz (fVar 7)) fNil)))))))
def m_law_grid : FS :=
  (sSeq (sSet 4 (fLst fNil))
    (sSeq l_law_grid_2
    (sRet (fFz (fVar 4)))))
def v_law_grid : List PyData → Zx.R SV := phi [.sc, .vw, .vw, .vw] 10 m_law_grid
def e_law_1 : FE :=
  (fFz (fLc (iRng (fCons (fVar 2) fNil)) (.nm 8) fYes (fBin gIx (fBin gIx (fVar 3) (fVar 8)) (fVar 7)) [8]))
def e_law_2 : FE :=
  (fFz (fLc (iRng (fCons (fVar 2) fNil)) (.nm 7) fYes (fCB gInt (fCons (fBin (gEq false) (fVar 8) (fVar 7)) fNil)) [7]))
def l_law_1 : FS :=
  (sFor (iRng (fCons (fVar 2) fNil)) (.nm 7) (sExpr (fBM kdL (gOwn kAppend) (fVar 6) (fCons e_law_1 fNil))))
def l_law_2 : FS :=
  (sFor (iRng (fCons (fVar 2) fNil)) (.nm 8) (sExpr (fBM kdL (gOwn kAppend) (fVar 9) (fCons e_law_2 fNil))))
def m_law : FS :=
  (sSeq (sSet 1 (fCall [.sc, .vw] v_law_big (fCons (fVar 0) (fCons (fC (.int 0)) fNil))))
    (sSeq (sSet 2 (fBin gAdd (fC (.int 1)) (fBin gMod (fVar 1) (fC (.int 8)))))
    (sSeq (sSet 3 (fCall [.sc, .vw, .vw, .vw] v_law_grid (fCons (fVar 0) (fCons (fC (.int 1)) (fCons (fVar 2) (fCons (fVar 2) fNil))))))
    (sSeq (sSet 4 (fCall [.sc, .vw, .vw, .vw] v_law_grid (fCons (fVar 0) (fCons (fC (.int 9)) (fCons (fVar 2) (fCons (fVar 2) fNil))))))
    (sSeq (sSet 5 (fCall [.vw] v_determinant (fCons (fCall [.vw] v_law_copy (fCons (fVar 3) fNil)) fNil)))
    (sSeq (sIf (fTst (fBin (gEq true) (fCall [.vw] v_determinant (fCons (fCall [.vw, .vw] v_law_product (fCons (fVar 3) (fCons (fVar 4) fNil))) fNil)) (fBin gMul (fVar 5) (fCall [.vw] v_determinant (fCons (fCall [.vw] v_law_copy (fCons (fVar 4) fNil)) fNil))))) (sRet (fC (.bool false))) sNext)
    (sSeq (sSet 6 (fLst fNil))
    (sSeq l_law_1
    (sSeq (sIf (fTst (fBin (gEq true) (fCall [.vw] v_determinant (fCons (fVar 6) fNil)) (fVar 5))) (sRet (fC (.bool false))) sNext)
    (sSeq (sSet 9 (fLst fNil))
    (sSeq l_law_2
    (sSeq (sIf (fOrT (fTst (fBin (gEq true) (fCall [.vw] v_determinant (fCons (fVar 9) fNil)) (fC (.int 1)))) (fTst (fBin (gEq false) (fVar 2) (fC (.int 1))))) (sRet (fAndV (fBin (gEq false) (fVar 2) (fC (.int 1))) (fAndV (fBin (gEq false) (fCall [.vw] v_determinant (fCons (fVar 9) fNil)) (fC (.int 1))) (fBin (gEq false) (fVar 5) (fBin gIx (fBin gIx (fVar 3) (fC (.int 0))) (fC (.int 0))))))) sNext)
    (sSeq (sSet 8 (fBin gMod (fBin gDiv (fVar 1) (fC (.int 8))) (fVar 2)))
    (sSeq (sSet 7 (fBin gMod (fBin gAdd (fBin gAdd (fVar 8) (fC (.int 1))) (fBin gMod (fBin gDiv (fVar 1) (fC (.int 64))) (fBin gSub (fVar 2) (fC (.int 1))))) (fVar 2)))
    (sSeq (sSetT [10, 11] (fCall [.vw] v_law_number (fCons (fBin gDiv (fVar 1) (fC (.int 512))) fNil)))
    (sSeq (sSet 12 (fBin gIx (fTup (fCons (fC (.str (PySem.Str.ofString "row"))) (fCons (fC (.str (PySem.Str.ofString "column"))) fNil))) (fBin gMod (fBin gDiv (fVar 1) (fC (.int 448))) (fC (.int 2)))))
    (sSeq (sIf (fTst (fBin (gEq true) (fCall [.vw] v_determinant (fCons (fCall [.vw, .vw, .vw, .vw, .vw] v_law_stepped (fCons (fVar 3) (fCons (fVar 12) (fCons (fVar 8) (fCons (fVar 7) (fCons (fVar 10) fNil)))))) fNil)) (fVar 5))) (sRet (fC (.bool false))) sNext)
    (sSeq (sSet 13 (fCall [.vw] v_law_copy (fCons (fVar 3) fNil)))
    (sSeq (sStore (fVar 13) (fVar 8) (fCB gList (fCons (fBin gIx (fVar 3) (fVar 7)) fNil)))
    (sSeq (sStore (fVar 13) (fVar 7) (fCB gList (fCons (fBin gIx (fVar 3) (fVar 8)) fNil)))
    (sRet (fBin (gEq false) (fCall [.vw] v_determinant (fCons (fVar 13) fNil)) (fBin gSub (fC (.int 0)) (fVar 5))))))))))))))))))))))))
def v_law : List PyData → Zx.R SV := phi [.sc] 14 m_law
end Gn

namespace Gn
open PySem PySem.Spec L2 Zx
local macro_rules | `(tactic| walk_at "zd") => `(tactic| first | omega | with_unfolding_all (simp only [List.all_cons, List.all_nil, List.all_append, bel_o, bel_n, bel_r, bel_d, bel_vw, bel_sc, bel_un, below_d, List.take_succ_cons, List.take_zero, Bool.and_self, Bool.and_true, decide_eq_true_eq, List.length_cons, List.length_nil, List.length_map, Nat.reduceAdd, Nat.reduceLeDiff, Nat.le_refl, Nat.zero_le, own_0, own_s, reset_un, reset_d, reset_r, reset_vw, reset_sc, reset_nil, Nat.reduceLT, decide_true, decide_false]; done))
local macro_rules | `(tactic| walk_at "z") => `(tactic| simp (disch := walk_at "zd") only [phi_eq, q_nx, q_rt, q_bk, q_ct, q_rz, q_st, f_nx, f_rt, f_rz, f_st, b_ok, b_rz, b_st, t_ok, t_rz, t_st, o_some, o_none, a_seq, a_set, a_if, a_expr, a_ret, a_retN, a_next, a_break, a_cont, a_raise, a_var, p_d, p_vw, p_r, p_sc, p_ex, p_mkv, a_c, a_bin, a_un, a_tst, tst_b, a_andT, a_orT, a_notT, a_andV, a_orV, a_notV, a_chain, a_if', a_nil, a_cons, a_lst, a_tup, a_fz, a_cb, back_d, back_r, back_rz, back_st, a_call, g_nil, g_cons, g_fz, g_sc, g_vw, a_isi, a_bm, a_iseq, s_d, s_vw, a_itup, u_d, u_vw, a_irng, r1_ok, a_irng2, r2_ok, a_ienu, e_1, a_izip, z_2, l_d, l_vw, a_for, w_cn, c_nil, n_nx, n_ct, n_bk, n_rt, n_rz, n_st, a_setT, a_store, i_add, i_sub, i_div, i_mod, i_lt, i_le, i_gt, i_ge, i_eq, i_ne, i_neg, i_int, i_intb, i_abs, i_min, i_max, ix_d, ix_dt, ix_vw, ix_sc, n_d, n_dt, n_vw, n_sc, fzv_d, rb_d, rb_vw, rb_mkv, allD_map, d_nil, d_cons, Bd.go, setAll, tupItems, startS, argS, intsD_ok, List.replicate, List.getElem?_cons_zero, List.getElem?_cons_succ, List.set_cons_zero, List.set_cons_succ, List.length_cons, List.length_nil, List.length_map, List.map_nil, List.map_cons, if_true, if_false, reduceIte, Bool.false_eq_true, Bool.true_eq_false, decide_eq_true_eq, Bool.not_true, Bool.not_false, List.cons_append, List.nil_append, mkv_int, mkv_bool, mkv_none, mkv_str, mkv_lst, Int.reduceLT, Int.reduceLE, Int.reduceNeg, Nat.reduceAdd, Nat.reduceLeDiff, Int.reduceToNat, cl_nil, cl_d, cl_vw, cl_r, trim_len, trim_0, norm_nil, reset_un, reset_d, reset_r, reset_vw, reset_sc, reset_nil, Nat.le_refl, Nat.zero_le, Int.ofNat_eq_natCast, a_while, fzv_nil, trim_g, norm_ok, bel_o, bel_n, bel_r, bel_d, bel_vw, bel_sc, bel_un, below_d, List.take_succ_cons, List.take_zero, mkv_ints, a_lrg1, norm_len, own_0, own_s, a_own, o_seq, o_run, o_ix, o_len, o_lstOf, o_put, o_kd, o_ty, o_list, l_list, l_listv, k_rev, k_clr, Option.isSome_some, List.all_cons, List.all_nil, Bool.and_self, Bool.and_true, Bool.true_and, Nat.reduceLT, decide_true, decide_false, id_eq, ixN_in, shh_ds, shh_OG, List.append_nil, rb_g0, rb_g1, ty_int, ty_bool, ty_tup, ty_list, ty_none, ty_vtup, ty_vlist, is_ii, is_ib, is_bb, is_bi, is_ll, is_tt, is_lt, is_tl, k_app, Bool.or_false, Bool.or_true, Bool.and_false, Bool.false_or, Bool.true_or, Int.toNat_natCast, Option.map_some, Option.map_none, reset_same, own_g0, own_g1, og_at, refs_len, wipeS, turn_nx, turn_ct, i_mulL])
/-! ## the script's cells -/
def cellAt (ns : List Int) (k : Int) : Int := (ns[k.toNat]?).getD 0
theorem cell_at_eq {ns : List Int} {k : Int} (h0 : 0 ≤ k) : v_law_cell_at [eI ns, .int k] = .ok (.d (.int (cellAt ns k))) [] := by
  unfold v_law_cell_at m_law_cell_at
  walk_at "z"
  by_cases c : k < (ns.length : Int)
  · rw [if_pos c, atI_0 h0]
    have hk : k.toNat < ns.length := by omega
    unfold cellAt
    rw [List.getElem?_eq_getElem hk]
    walk_at "z"
    rfl
  · rw [if_neg c]
    unfold cellAt
    rw [List.getElem?_eq_none (by omega)]
    walk_at "z"
    rfl
def p18 : Int := 10 ^ (18 : Int).toNat
theorem p18_pos : 0 < p18 := by decide
theorem pw18 {h : AH} : gPow (.d (.int 10)) (.d (.int 18)) h = .ok (.d (.int p18)) h := i_pow (by decide)
/-! ## the number of a cell -/
def primes : List Int := [99989, 99971, 99961, 99929, 99923, 99907, 99901, 99881, 99877]
theorem prime_at {j : Int} (h0 : 0 ≤ j) (h1 : j < 9) : ∃ p, atI (primes.map PyData.int) j = some (.int p) ∧ 0 < p ∧ p < 100000 := by
  have : j = 0 ∨ j = 1 ∨ j = 2 ∨ j = 3 ∨ j = 4 ∨ j = 5 ∨ j = 6 ∨ j = 7 ∨ j = 8 := by omega
  rcases this with e | e | e | e | e | e | e | e | e <;> subst e <;> exact ⟨_, rfl, by decide, by decide⟩
theorem pow_le {n : Nat} (hn : n ≤ 64) : (8191 : Int) ^ n ≤ 28638903918474961204418783933674838490721739172170652529441449702311064005352904159345284265824628375429359509218999720074396860757073376700445026041564579620512874307979212102266801261478978776245040008231745247475930553606737583615358787106474295296 := by
  have h1 : (8191 : Nat) ^ n ≤ (2 ^ 13) ^ 64 := Nat.le_trans (Nat.pow_le_pow_left (by decide) n) (Nat.pow_le_pow_right (by decide) hn)
  have h2 : ((8191 ^ n : Nat) : Int) ≤ ((28638903918474961204418783933674838490721739172170652529441449702311064005352904159345284265824628375429359509218999720074396860757073376700445026041564579620512874307979212102266801261478978776245040008231745247475930553606737583615358787106474295296 : Nat) : Int) := Int.ofNat_le.mpr h1
  rw [Int.natCast_pow] at h2
  exact h2
theorem big_eq {ns : List Int} {k : Int} (h0 : 0 ≤ k) : ∃ b, 0 ≤ b ∧ v_law_big [eI ns, .int k] = .ok (.d (.int b)) [] := by
  unfold v_law_big m_law_big
  walk_at "z"
  rw [cell_at_eq h0]
  walk_at "z"
  rw [pw18]
  walk_at "z"
  by_cases c : p18 ≤ cellAt ns k
  · refine ⟨cellAt ns k, Int.le_trans (Int.le_of_lt p18_pos) c, ?_⟩
    rw [if_pos c]
    walk_at "z"
  · rw [if_neg c]
    walk_at "z"
    unfold l_law_big_1
    walk_at "z"
    generalize ef : forC _ _ _ _ _ _ _ = o
    obtain ⟨sl', h', rfl, p⟩ := for_inv' ef (P := fun m sl h => h = [] ∧ ∃ acc : Int, 0 ≤ acc ∧ acc < 8191 ^ m ∧ sl = [.sc ns, .d (.int k), .d (.int (cellAt ns k)), .d (.tuple (primes.map PyData.int)), .d (.int acc), .un, .un]) ⟨rfl, 0, by decide, by decide, rfl⟩ (by
      rintro m x sl h e ⟨rfl, acc, a0, a1, rfl⟩
      obtain ⟨hm, rfl⟩ := rngI_get e
      refine ⟨_, rfl, ?_⟩
      have hm : m < 64 := hm
      have p9 : 0 ≤ (0 + (m : Int)) % 9 ∧ (0 + (m : Int)) % 9 < 9 := by omega
      walk_at "z"
      rw [cell_at_eq (by omega)]
      walk_at "z"
      rw [pw18]
      walk_at "z"
      have c0 := Int.emod_nonneg (cellAt ns (k + (0 + (m : Int)) % 9)) (Int.ne_of_gt p18_pos)
      have c1 := Int.emod_lt_of_pos (cellAt ns (k + (0 + (m : Int)) % 9)) p18_pos
      have e18 : p18 = 1000000000000000000 := by decide
      rw [i_mod p18_pos]
      generalize cellAt ns (k + (0 + (m : Int)) % 9) % p18 = z at c0 c1 ⊢
      have ha := pow_le (Nat.le_of_lt hm)
      walk_at "z"
      obtain ⟨q, eq, q0, q1⟩ := prime_at p9.1 p9.2
      rw [eq]
      walk_at "z"
      generalize ey : ((z + 7 * (0 + (m : Int)) + 1) * (z + 7 * (0 + (m : Int)) + 1) + 31 * (0 + (m : Int))) % q = y
      have y0 : 0 ≤ y := ey ▸ Int.emod_nonneg _ (Int.ne_of_gt q0)
      have y1 : y < q := ey ▸ Int.emod_lt_of_pos _ q0
      walk_at "z"
      refine ⟨_, _, rfl, rfl, _, ?_, ?_, rfl⟩
      · have := Int.emod_nonneg (y * (0 + (m : Int) + 3)) (show (8191 : Int) ≠ 0 by decide)
        omega
      · have := Int.emod_lt_of_pos (y * (0 + (m : Int) + 3)) (show (0 : Int) < 8191 by decide)
        rw [Int.pow_succ]
        omega)
    obtain ⟨rfl, acc, a0, a1, rfl⟩ := p
    refine ⟨acc, a0, ?_⟩
    walk_at "z"
/-! ## numbers of lists and grids by place -/
def getI (v : List Int) (k : Nat) : Int := v[k]?.getD 0
def getR (g : List (List Int)) (k : Nat) : List Int := g[k]?.getD []
def getG (g : List (List Int)) (k j : Nat) : Int := getI (getR g k) j
theorem at_I {v : List Int} {k : Nat} (h : k < v.length) : atI (v.map PyData.int) (0 + (k : Int)) = some (.int (getI v k)) := by
  rw [atI_0 (by omega), List.getElem?_map, show (0 + (k : Int)).toNat = k from by omega, List.getElem?_eq_getElem h]
  unfold getI
  rw [List.getElem?_eq_getElem h]; rfl
theorem at_R {g : List (List Int)} {k : Nat} (h : k < g.length) : atI (g.map eI) (0 + (k : Int)) = some (eI (getR g k)) := by
  rw [atI_0 (by omega), List.getElem?_map, show (0 + (k : Int)).toNat = k from by omega, List.getElem?_eq_getElem h]
  unfold getR
  rw [List.getElem?_eq_getElem h]; rfl
theorem at_I0 {v : List Int} (h : 0 < v.length) : atI (v.map PyData.int) 0 = some (.int (getI v 0)) := by
  have := at_I (k := 0) h
  exact this
theorem at_R0 {g : List (List Int)} (h : 0 < g.length) : atI (g.map eI) 0 = some (eI (getR g 0)) := by
  have := at_R (k := 0) h
  exact this
theorem getI_in {v : List Int} {k : Nat} (h : k < v.length) : getI v k ∈ v := by
  unfold getI
  rw [List.getElem?_eq_getElem h]
  exact List.getElem_mem h
theorem getI_map {α : Type} {f : Nat → Int} {n k : Nat} (h : k < n) : getI ((List.range n).map f) k = f k := by
  unfold getI
  rw [List.getElem?_map, List.getElem?_range h]; rfl
theorem getR_map {f : Nat → List Int} {n k : Nat} (h : k < n) : getR ((List.range n).map f) k = f k := by
  unfold getR
  rw [List.getElem?_map, List.getElem?_range h]; rfl
theorem sum_ok {h : AH} {ns : List Int} : gSum [.d (eI ns)] h = .ok (.d (.int ns.sum)) h := by
  have : ∀ ns : List Int, intsOf ((ns.map PyData.int).map SV.d) = some ns := fun ns => by
    induction ns with
    | nil => rfl
    | cons n ns ih =>
      show (intsOf ((ns.map PyData.int).map SV.d)).map (n :: ·) = _
      rw [ih]; rfl
  unfold gSum lstInts
  dsimp only
  rw [lst_d]
  dsimp only
  rw [this]
theorem eI_map {n : Nat} {f : Nat → Int} : eI ((List.range n).map f) = .list ((List.range n).map fun k => .int (f k)) := by
  unfold eI
  rw [List.map_map]; rfl
theorem eG_map {n : Nat} {f : Nat → List Int} : eG ((List.range n).map f) = .list ((List.range n).map fun k => eI (f k)) := by
  unfold eG
  rw [List.map_map]; rfl
local macro_rules | `(tactic| walk_at "y") => `(tactic| simp (disch := walk_at "zd") only [phi_eq, q_nx, q_rt, q_bk, q_ct, q_rz, q_st, f_nx, f_rt, f_rz, f_st, b_ok, b_rz, b_st, t_ok, t_rz, t_st, o_some, o_none, a_seq, a_set, a_if, a_expr, a_ret, a_retN, a_next, a_break, a_cont, a_raise, a_var, p_d, p_vw, p_r, p_sc, p_ex, p_mkv, a_c, a_bin, a_un, a_tst, tst_b, a_andT, a_orT, a_notT, a_andV, a_orV, a_notV, a_chain, a_if', a_nil, a_cons, a_lst, a_tup, a_fz, a_cb, back_d, back_r, back_rz, back_st, a_call, g_nil, g_cons, g_fz, g_sc, g_vw, a_isi, a_bm, a_iseq, s_d, s_vw, a_itup, u_d, u_vw, a_irng, r1_ok, a_irng2, r2_ok, a_ienu, e_1, a_izip, z_2, l_d, l_vw, a_for, w_cn, c_nil, n_nx, n_ct, n_bk, n_rt, n_rz, n_st, a_setT, a_store, i_add, i_sub, i_div, i_mod, i_lt, i_le, i_gt, i_ge, i_eq, i_ne, i_neg, i_int, i_intb, i_abs, i_min, i_max, ix_d, ix_dt, ix_vw, ix_sc, n_d, n_dt, n_vw, n_sc, fzv_d, rb_d, rb_vw, rb_mkv, allD_map, d_nil, d_cons, Bd.go, setAll, tupItems, startS, argS, intsD_ok, List.replicate, List.getElem?_cons_zero, List.getElem?_cons_succ, List.set_cons_zero, List.set_cons_succ, List.length_cons, List.length_nil, List.length_map, List.map_nil, List.map_cons, if_true, if_false, reduceIte, Bool.false_eq_true, Bool.true_eq_false, decide_eq_true_eq, Bool.not_true, Bool.not_false, List.cons_append, List.nil_append, mkv_int, mkv_bool, mkv_none, mkv_str, mkv_lst, Int.reduceLT, Int.reduceLE, Int.reduceNeg, Nat.reduceAdd, Nat.reduceLeDiff, Int.reduceToNat, cl_nil, cl_d, cl_vw, cl_r, trim_len, trim_0, norm_nil, reset_un, reset_d, reset_r, reset_vw, reset_sc, reset_nil, Nat.le_refl, Nat.zero_le, Int.ofNat_eq_natCast, a_while, fzv_nil, trim_g, norm_ok, bel_o, bel_n, bel_r, bel_d, bel_vw, bel_sc, bel_un, below_d, List.take_succ_cons, List.take_zero, mkv_ints, a_lrg1, norm_len, own_0, own_s, a_own, o_seq, o_run, o_ix, o_len, o_lstOf, o_put, o_kd, o_ty, o_list, l_list, l_listv, k_rev, k_clr, Option.isSome_some, List.all_cons, List.all_nil, Bool.and_self, Bool.and_true, Bool.true_and, Nat.reduceLT, decide_true, decide_false, id_eq, ixN_in, shh_ds, shh_OG, List.append_nil, rb_g0, rb_g1, ty_int, ty_bool, ty_tup, ty_list, ty_none, ty_vtup, ty_vlist, is_ii, is_ib, is_bb, is_bi, is_ll, is_tt, is_lt, is_tl, k_app, Bool.or_false, Bool.or_true, Bool.and_false, Bool.false_or, Bool.true_or, Int.toNat_natCast, Option.map_some, Option.map_none, reset_same, own_g0, own_g1, og_at, refs_len, wipeS, at_I, at_R, at_I0, at_R0, sum_ok, turn_nx, turn_ct, i_mulL])
/-! ## drawn grids -/
structure Gr (r c : Nat) (B : Int) (g : List (List Int)) : Prop where
  len : g.length = r
  row : ∀ q ∈ g, q.length = c
  b : ∀ q ∈ g, ∀ e ∈ q, -B ≤ e ∧ e ≤ B
def p30 : Int := 1000000000000000000000000000000
theorem pw9 {h : AH} : gPow (.d (.int 10)) (.d (.int 9)) h = .ok (.d (.int 1000000000)) h := i_pow (by decide)
theorem pw30 {h : AH} : gPow (.d (.int 10)) (.d (.int 30)) h = .ok (.d (.int p30)) h := i_pow (by decide)
theorem number_eq {b : Int} (hb : 0 ≤ b) : ∃ x b' : Int, -p30 ≤ x ∧ x ≤ p30 ∧ 0 ≤ b' ∧ v_law_number [.int b] = .ok (.d (.tuple [.int x, .int b'])) [] := by
  unfold v_law_number m_law_number
  walk_at "y"
  rw [pw9]
  walk_at "y"
  rw [pw30]
  walk_at "y"
  have : ∃ s : Int, atI [PyData.int 3, .int 6, .int 50, .int 1000000000, .int p30] (b % 5) = some (.int s) ∧ 3 ≤ s ∧ s ≤ p30 := by
    have : b % 5 = 0 ∨ b % 5 = 1 ∨ b % 5 = 2 ∨ b % 5 = 3 ∨ b % 5 = 4 := by omega
    rcases this with e | e | e | e | e <;> rw [e] <;> exact ⟨_, rfl, by decide, by decide⟩
  obtain ⟨s, es, s0, s1⟩ := this
  rw [es]
  have hp : p30 = 1000000000000000000000000000000 := rfl
  have hb5 : 0 ≤ b / 5 := by omega
  walk_at "y"
  have m0 := Int.emod_nonneg (b / 5) (show 2 * s - 1 ≠ 0 by omega)
  have m1 := Int.emod_lt_of_pos (b / 5) (show 0 < 2 * s - 1 by omega)
  refine ⟨_, _, ?_, ?_, ?_, rfl⟩
  · omega
  · omega
  · exact Int.ediv_nonneg hb5 (by omega)
theorem line_eq {at0 r c i : Int} {ns : List Int} {big : Int} {n : Nat} {made : List PyData} (hn : c = n) (hn8 : n ≤ 8) (hb : 0 ≤ big) :
    ∃ (q : List Int) (b' : Int), q.length = n ∧ (∀ e ∈ q, -p30 ≤ e ∧ e ≤ p30) ∧ l_law_grid_1 [.sc ns, .d (.int at0), .d (.int r), .d (.int c), .r 0, .d (.int i), .d (.int big), .r 1, .un, .un] [some (.lst (made.map SV.d)), some (.lst [])]
      = .nx [.sc ns, .d (.int at0), .d (.int r), .d (.int c), .r 0, .d (.int i), .d (.int b'), .r 1, .un, .un] [some (.lst (made.map SV.d)), oI q] := by
  subst hn
  unfold l_law_grid_1
  walk_at "y"
  generalize ef : forC _ _ _ _ _ _ _ = o
  obtain ⟨sl', h', rfl, p⟩ := for_inv' ef (P := fun m sl h => ∃ (q : List Int) (b' : Int), q.length = m ∧ (∀ e ∈ q, -p30 ≤ e ∧ e ≤ p30) ∧ 0 ≤ b' ∧ sl = [.sc ns, .d (.int at0), .d (.int r), .d (.int n), .r 0, .d (.int i), .d (.int b'), .r 1, .un, .un] ∧ h = [some (.lst (made.map SV.d)), oI q]) ⟨[], big, rfl, by simp, hb, rfl, rfl⟩ (by
    rintro m x sl h e ⟨q, b', hl, hq, hb, rfl, rfl⟩
    obtain ⟨hk, rfl⟩ := rngI_get e
    refine ⟨_, rfl, ?_⟩
    obtain ⟨x, b2, x0, x1, hb2, ex⟩ := number_eq hb
    walk_at "y"
    rw [ex]
    walk_at "y"
    rw [k_app (by rw [List.length_map, List.length_map]; unfold lim; omega)]
    walk_at "y"
    refine ⟨_, _, rfl, q ++ [x], b2, by rw [List.length_append, List.length_singleton, hl], fun e he => ?_, hb2, rfl, ?_⟩
    · rcases List.mem_append.mp he with h | h
      · exact hq e h
      · rw [List.mem_singleton.mp h]; exact ⟨x0, x1⟩
    · simp only [oI, List.map_append, List.map_cons, List.map_nil])
  obtain ⟨q, b', hl, hq, hb', rfl, rfl⟩ := p
  rw [rngI_len] at hl
  exact ⟨q, b', hl, hq, rfl⟩
end Gn

namespace Zx.V
open PySem PySem.Spec L2
/-! ## lists side by side -/
def Fa3 {α β γ : Type} (P : α → β → γ → Prop) : List α → List β → List γ → Prop
  | [], [], [] => True
  | a :: as, b :: bs, c :: cs => P a b c ∧ Fa3 P as bs cs
  | _, _, _ => False
section
variable {α β γ : Type} {P Q : α → β → γ → Prop}
theorem Fa3.len : ∀ {as : List α} {bs : List β} {cs : List γ}, Fa3 P as bs cs → as.length = bs.length ∧ cs.length = bs.length
  | [], [], [], _ => ⟨rfl, rfl⟩
  | a :: as, b :: bs, c :: cs, ⟨_, r⟩ => by
    have := Fa3.len r
    rw [List.length_cons, List.length_cons, List.length_cons]
    omega
  | [], [], c :: cs, h => h.elim
  | [], b :: bs, [], h => h.elim
  | [], b :: bs, c :: cs, h => h.elim
  | a :: as, [], [], h => h.elim
  | a :: as, [], c :: cs, h => h.elim
  | a :: as, b :: bs, [], h => h.elim
theorem Fa3.imp {cs0 : List γ} (k : ∀ a b c, c ∈ cs0 → P a b c → Q a b c) : ∀ {as : List α} {bs : List β} {cs : List γ}, (∀ c ∈ cs, c ∈ cs0) → Fa3 P as bs cs → Fa3 Q as bs cs
  | [], [], [], _, _ => trivial
  | a :: as, b :: bs, c :: cs, m, ⟨h, r⟩ => ⟨k a b c (m c List.mem_cons_self) h, Fa3.imp k (fun c' hc => m c' (List.mem_cons_of_mem _ hc)) r⟩
  | [], [], c :: cs, _, h => h.elim
  | [], b :: bs, [], _, h => h.elim
  | [], b :: bs, c :: cs, _, h => h.elim
  | a :: as, [], [], _, h => h.elim
  | a :: as, [], c :: cs, _, h => h.elim
  | a :: as, b :: bs, [], _, h => h.elim
theorem Fa3.get : ∀ {as : List α} {bs : List β} {cs : List γ} {i : Nat} {b : β}, Fa3 P as bs cs → bs[i]? = some b → ∃ a c, as[i]? = some a ∧ cs[i]? = some c ∧ P a b c
  | a :: as, b :: bs, c :: cs, 0, b', ⟨h, r⟩, e => by
    cases e
    exact ⟨a, c, rfl, rfl, h⟩
  | a :: as, b :: bs, c :: cs, i + 1, b', ⟨h, r⟩, e => by
    have e : bs[i]? = some b' := e
    obtain ⟨x, y, e1, e2, p⟩ := Fa3.get r e
    exact ⟨x, y, e1, e2, p⟩
  | [], [], [], i, b', _, e => by simp at e
  | [], [], c :: cs, _, _, h, _ => h.elim
  | [], b :: bs, [], _, _, h, _ => h.elim
  | [], b :: bs, c :: cs, _, _, h, _ => h.elim
  | a :: as, [], [], _, _, h, _ => h.elim
  | a :: as, [], c :: cs, _, _, h, _ => h.elim
  | a :: as, b :: bs, [], _, _, h, _ => h.elim
theorem Fa3.set {a' : α} {b' : β} {c' : γ} (p : P a' b' c') : ∀ {as : List α} {bs : List β} {cs : List γ} (i : Nat), Fa3 P as bs cs → Fa3 P (as.set i a') (bs.set i b') (cs.set i c')
  | a :: as, b :: bs, c :: cs, 0, ⟨h, r⟩ => ⟨p, r⟩
  | a :: as, b :: bs, c :: cs, i + 1, ⟨h, r⟩ => ⟨h, Fa3.set p i r⟩
  | [], [], [], i, h => h
  | [], [], c :: cs, _, h => h.elim
  | [], b :: bs, [], _, h => h.elim
  | [], b :: bs, c :: cs, _, h => h.elim
  | a :: as, [], [], _, h => h.elim
  | a :: as, [], c :: cs, _, h => h.elim
  | a :: as, b :: bs, [], _, h => h.elim
theorem Fa3.erase : ∀ {as : List α} {bs : List β} {cs : List γ} (i : Nat), Fa3 P as bs cs → Fa3 P (as.eraseIdx i) (bs.eraseIdx i) (cs.eraseIdx i)
  | a :: as, b :: bs, c :: cs, 0, ⟨h, r⟩ => r
  | a :: as, b :: bs, c :: cs, i + 1, ⟨h, r⟩ => ⟨h, Fa3.erase i r⟩
  | [], [], [], i, h => h
  | [], [], c :: cs, _, h => h.elim
  | [], b :: bs, [], _, h => h.elim
  | [], b :: bs, c :: cs, _, h => h.elim
  | a :: as, [], [], _, h => h.elim
  | a :: as, [], c :: cs, _, h => h.elim
  | a :: as, b :: bs, [], _, h => h.elim
theorem Fa3.app {as' : List α} {bs' : List β} {cs' : List γ} (r' : Fa3 P as' bs' cs') : ∀ {as : List α} {bs : List β} {cs : List γ}, Fa3 P as bs cs → Fa3 P (as ++ as') (bs ++ bs') (cs ++ cs')
  | a :: as, b :: bs, c :: cs, ⟨h, r⟩ => ⟨h, Fa3.app r' r⟩
  | [], [], [], h => r'
  | [], [], c :: cs, h => h.elim
  | [], b :: bs, [], h => h.elim
  | [], b :: bs, c :: cs, h => h.elim
  | a :: as, [], [], h => h.elim
  | a :: as, [], c :: cs, h => h.elim
  | a :: as, b :: bs, [], h => h.elim
theorem Fa3.mem : ∀ {as : List α} {bs : List β} {cs : List γ} {c : γ}, Fa3 P as bs cs → c ∈ cs → ∃ a b, a ∈ as ∧ b ∈ bs ∧ P a b c
  | a :: as, b :: bs, c :: cs, c', ⟨h, r⟩, m => by
    rcases List.mem_cons.mp m with rfl | m
    · exact ⟨a, b, List.mem_cons_self, List.mem_cons_self, h⟩
    · obtain ⟨x, y, h1, h2, p⟩ := Fa3.mem r m
      exact ⟨x, y, List.mem_cons_of_mem _ h1, List.mem_cons_of_mem _ h2, p⟩
  | [], [], [], _, h, m => by cases m
  | [], [], c :: cs, _, h, _ => h.elim
  | [], b :: bs, [], _, h, _ => h.elim
  | [], b :: bs, c :: cs, _, h, _ => h.elim
  | a :: as, [], [], _, h, _ => h.elim
  | a :: as, [], c :: cs, _, h, _ => h.elim
  | a :: as, b :: bs, [], _, h, _ => h.elim
end
/-! ## footprints -/
theorem nd_set : ∀ {fs : List (List Nat)} {i : Nat} {f : List Nat}, fs.flatten.Nodup → f.Nodup → (∀ n ∈ f, n ∉ (fs.set i []).flatten) → (fs.set i f).flatten.Nodup
  | [], i, f, h, _, _ => by simpa using h
  | g :: fs, 0, f, h, hf, d => by
    rw [List.flatten_cons, List.nodup_append] at h
    show (f :: fs).flatten.Nodup
    rw [List.flatten_cons, List.nodup_append]
    refine ⟨hf, h.2.1, fun a ha b hb e => d a ha ?_⟩
    show a ∈ ([] :: fs).flatten
    rw [List.flatten_cons, List.nil_append, e]
    exact hb
  | g :: fs, i + 1, f, h, hf, d => by
    rw [List.flatten_cons, List.nodup_append] at h
    show (g :: fs.set i f).flatten.Nodup
    have d' : ∀ n ∈ f, n ∉ g ∧ n ∉ (fs.set i []).flatten := fun n hn => by
      have := d n hn
      rw [show (g :: fs).set (i + 1) [] = g :: fs.set i [] from rfl, List.flatten_cons, List.mem_append, not_or] at this
      exact this
    rw [List.flatten_cons, List.nodup_append]
    refine ⟨h.1, nd_set h.2.1 hf fun n hn => (d' n hn).2, fun a ha b hb e => ?_⟩
    subst e
    have : ∀ (fs : List (List Nat)) (i : Nat) (f : List Nat) (a : Nat), a ∈ (fs.set i f).flatten → a ∈ f ∨ a ∈ fs.flatten := by
      intro fs i f a m
      obtain ⟨l, hl, hm⟩ := List.mem_flatten.mp m
      rcases List.mem_or_eq_of_mem_set hl with h | h
      · exact .inr (List.mem_flatten.mpr ⟨l, h, hm⟩)
      · exact .inl (h ▸ hm)
    rcases this _ _ _ _ hb with z | z
    · exact (d' a z).1 ha
    · exact h.2.2 a ha a z rfl
theorem mem_set {fs : List (List Nat)} {i : Nat} {f : List Nat} {a : Nat} (m : a ∈ (fs.set i f).flatten) : a ∈ f ∨ a ∈ (fs.set i []).flatten := by
  obtain ⟨l, hl, hm⟩ := List.mem_flatten.mp m
  obtain ⟨j, hj⟩ := List.getElem?_of_mem hl
  by_cases e : i = j
  · subst e
    have hlt : i < fs.length := by
      have := (List.getElem?_eq_some_iff.mp hj).1
      rw [List.length_set] at this
      exact this
    rw [List.getElem?_set_self hlt] at hj
    cases hj
    exact .inl hm
  · rw [List.getElem?_set_ne e] at hj
    refine .inr (List.mem_flatten.mpr ⟨l, ?_, hm⟩)
    refine List.mem_of_getElem? (i := j) ?_
    rw [List.getElem?_set_ne e]; exact hj
theorem mem_rest {fs : List (List Nat)} {i : Nat} {a : Nat} (m : a ∈ (fs.set i []).flatten) : a ∈ fs.flatten := by
  obtain ⟨l, hl, hm⟩ := List.mem_flatten.mp m
  rcases List.mem_or_eq_of_mem_set hl with h | h
  · exact List.mem_flatten.mpr ⟨l, h, hm⟩
  · rw [h] at hm; cases hm
theorem mem_at {fs : List (List Nat)} {i : Nat} {f : List Nat} {a : Nat} (e : fs[i]? = some f) (m : a ∈ f) : a ∈ fs.flatten := List.mem_flatten.mpr ⟨f, List.mem_of_getElem? e, m⟩
theorem nd_at : ∀ {fs : List (List Nat)} {i : Nat} {f : List Nat}, fs.flatten.Nodup → fs[i]? = some f → f.Nodup ∧ ∀ a ∈ f, a ∉ (fs.set i []).flatten
  | g :: fs, 0, f, h, e => by
    cases e
    rw [List.flatten_cons, List.nodup_append] at h
    refine ⟨h.1, fun a ha m => ?_⟩
    have m : a ∈ ([] :: fs).flatten := m
    rw [List.flatten_cons, List.nil_append] at m
    exact h.2.2 a ha a m rfl
  | g :: fs, i + 1, f, h, e => by
    have e : fs[i]? = some f := e
    rw [List.flatten_cons, List.nodup_append] at h
    obtain ⟨h1, h2⟩ := nd_at h.2.1 e
    refine ⟨h1, fun a ha m => ?_⟩
    have m : a ∈ (g :: fs.set i []).flatten := m
    rw [List.flatten_cons, List.mem_append] at m
    rcases m with m | m
    · exact h.2.2 a m a (mem_at e ha) rfl
    · exact h2 a ha m
  | [], i, f, h, e => by simp at e
theorem nd_rest {fs : List (List Nat)} {i : Nat} (h : fs.flatten.Nodup) : (fs.set i []).flatten.Nodup := nd_set h List.nodup_nil (by simp)
/-! ## values as read -/
def isLD : PyData → Bool
  | .list _ => true
  | .dict _ => true
  | .tuple ds => !immL ds
  | _ => false
def leaf (b : Bool) (s : SV) (x : PyData) : Prop := s = .d x ∨ (b = true ∧ s = mkv x)
def RV (h : AH) (b : Bool) : Nat → SV → PyData → List Nat → Prop
  | 0, s, x, f => f = [] ∧ leaf b s x
  | k + 1, s, x, f => (f = [] ∧ leaf b s x ∧ isLD x = false) ∨ (∃ n xs ds fs, s = .r n ∧ h[n]? = some (some (.lst xs)) ∧ x = .list ds ∧ f = n :: fs.flatten ∧ Fa3 (RV h b k) xs ds fs)
    ∨ (∃ n kvs ds fs, s = .r n ∧ h[n]? = some (some (.dct kvs)) ∧ x = .dict (zipD (kvs.map Prod.fst) ds) ∧ f = n :: fs.flatten ∧ Fa3 (RV h b k) (kvs.map Prod.snd) ds fs)
    ∨ (∃ n xs ds fs, s = .r n ∧ (h[n]? = some (some (.tup xs)) ∧ immL ds = false) ∧ x = .tuple ds ∧ f = n :: fs.flatten ∧ Fa3 (RV h b k) xs ds fs)
theorem RV.frame {h h' : AH} {b : Bool} : ∀ {k : Nat} {s : SV} {x : PyData} {f : List Nat}, (∀ n ∈ f, h'[n]? = h[n]?) → RV h b k s x f → RV h' b k s x f
  | 0, s, x, f, _, r => r
  | k + 1, s, x, f, e, r => by
    unfold RV at r ⊢
    rcases r with r | ⟨n, xs, ds, fs, rfl, hn, rfl, rfl, r⟩ | ⟨n, xs, ds, fs, rfl, hn, rfl, rfl, r⟩ | ⟨n, xs, ds, fs, rfl, hn, rfl, rfl, r⟩
    · exact .inl r
    · refine .inr (.inl ⟨n, xs, ds, fs, rfl, (e n List.mem_cons_self).trans hn, rfl, rfl, ?_⟩)
      exact Fa3.imp (cs0 := fs) (fun a b' c hc p => RV.frame (fun m hm => e m (List.mem_cons_of_mem _ (List.mem_flatten.mpr ⟨c, hc, hm⟩))) p) (fun c hc => hc) r
    · refine .inr (.inr (.inl ⟨n, xs, ds, fs, rfl, (e n List.mem_cons_self).trans hn, rfl, rfl, ?_⟩))
      exact Fa3.imp (cs0 := fs) (fun a b' c hc p => RV.frame (fun m hm => e m (List.mem_cons_of_mem _ (List.mem_flatten.mpr ⟨c, hc, hm⟩))) p) (fun c hc => hc) r
    · refine .inr (.inr (.inr ⟨n, xs, ds, fs, rfl, ⟨(e n List.mem_cons_self).trans hn.1, hn.2⟩, rfl, rfl, ?_⟩))
      exact Fa3.imp (cs0 := fs) (fun a b' c hc p => RV.frame (fun m hm => e m (List.mem_cons_of_mem _ (List.mem_flatten.mpr ⟨c, hc, hm⟩))) p) (fun c hc => hc) r
theorem RV.lt {h : AH} {b : Bool} : ∀ {k : Nat} {s : SV} {x : PyData} {f : List Nat}, RV h b k s x f → ∀ n ∈ f, n < h.length
  | 0, s, x, f, r, n, m => by rw [r.1] at m; cases m
  | k + 1, s, x, f, r, n, m => by
    unfold RV at r
    rcases r with r | ⟨n', xs, ds, fs, rfl, hn, rfl, rfl, r⟩ | ⟨n', xs, ds, fs, rfl, hn, rfl, rfl, r⟩ | ⟨n', xs, ds, fs, rfl, hn, rfl, rfl, r⟩
    · rw [r.1] at m; cases m
    · rcases List.mem_cons.mp m with rfl | m
      · exact (List.getElem?_eq_some_iff.mp hn).1
      · obtain ⟨l, hl, hm⟩ := List.mem_flatten.mp m
        obtain ⟨a, d, _, _, p⟩ := Fa3.mem r hl
        exact RV.lt p n hm
    · rcases List.mem_cons.mp m with rfl | m
      · exact (List.getElem?_eq_some_iff.mp hn).1
      · obtain ⟨l, hl, hm⟩ := List.mem_flatten.mp m
        obtain ⟨a, d, _, _, p⟩ := Fa3.mem r hl
        exact RV.lt p n hm
    · rcases List.mem_cons.mp m with rfl | m
      · exact (List.getElem?_eq_some_iff.mp hn.1).1
      · obtain ⟨l, hl, hm⟩ := List.mem_flatten.mp m
        obtain ⟨a, d, _, _, p⟩ := Fa3.mem r hl
        exact RV.lt p n hm
theorem RV.app {h t : AH} {b : Bool} {k : Nat} {s : SV} {x : PyData} {f : List Nat} (r : RV h b k s x f) : RV (h ++ t) b k s x f := r.frame fun n m => by
  rw [List.getElem?_append_left (r.lt n m)]
theorem leaf_rb {h : AH} {b : Bool} {s : SV} {x : PyData} {j : Nat} (l : leaf b s x) : rb h j s = some x := by
  rcases l with rfl | ⟨_, rfl⟩
  · exact rb_d
  · exact rb_mkv
theorem RV.rb {h : AH} {b : Bool} : ∀ {k : Nat} {s : SV} {x : PyData} {f : List Nat} {j : Nat}, RV h b k s x f → k ≤ j → rb h j s = some x
  | 0, s, x, f, j, r, _ => leaf_rb r.2
  | k + 1, s, x, f, 0, r, hj => by omega
  | k + 1, s, x, f, j + 1, r, hj => by
    unfold RV at r
    have lst : ∀ (xs : List SV) (ds : List PyData) (fs : List (List Nat)), Fa3 (RV h b k) xs ds fs → rbL h j xs = some ds := by
      intro xs
      induction xs with
      | nil =>
        intro ds fs r
        cases ds with
        | nil => unfold rbL; rfl
        | cons d ds => cases fs <;> exact r.elim
      | cons a xs ih =>
        intro ds fs r
        cases ds with
        | nil => cases fs <;> exact r.elim
        | cons d ds =>
          cases fs with
          | nil => exact r.elim
          | cons f fs =>
            unfold rbL
            rw [RV.rb r.1 (by omega : k ≤ j)]
            dsimp only
            rw [ih ds fs r.2]
    rcases r with r | ⟨n', xs, ds, fs, rfl, hn, rfl, rfl, r⟩ | ⟨n', xs, ds, fs, rfl, hn, rfl, rfl, r⟩ | ⟨n', xs, ds, fs, rfl, hn, rfl, rfl, r⟩
    · exact leaf_rb r.2.1
    · unfold Zx.rb
      rw [hn]
      dsimp only
      rw [lst xs ds fs r]; rfl
    · unfold Zx.rb
      rw [hn]
      dsimp only
      rw [lst _ ds fs r]; rfl
    · unfold Zx.rb
      rw [hn.1]
      dsimp only
      rw [lst _ ds fs r]; rfl
/-- trimming: what stands below stays whole -/
theorem leaf_below {b : Bool} {s : SV} {x : PyData} {L : Nat} (l : leaf b s x) : below L s = true := by
  rcases l with rfl | ⟨_, rfl⟩
  · rfl
  · unfold mkv; split <;> rfl
theorem RV.below {h : AH} {b : Bool} {L : Nat} (hL : (h.take L).all (belowO L) = true) : ∀ {k : Nat} {s : SV} {x : PyData} {f : List Nat}, RV h b k s x f → below L s = true → ∀ n ∈ f, n < L
  | 0, s, x, f, r, _, n, m => by rw [r.1] at m; cases m
  | k + 1, s, x, f, r, hs, n, m => by
    unfold RV at r
    have lst : ∀ (xs : List SV) (ds : List PyData) (fs : List (List Nat)), Fa3 (RV h b k) xs ds fs → xs.all (Zx.below L) = true → ∀ n ∈ fs.flatten, n < L := by
      intro xs
      induction xs with
      | nil =>
        intro ds fs r
        cases ds with
        | nil => cases fs with
          | nil => intro _ n m; cases m
          | cons f fs => exact r.elim
        | cons d ds => cases fs <;> exact r.elim
      | cons a xs ih =>
        intro ds fs r
        cases ds with
        | nil => cases fs <;> exact r.elim
        | cons d ds =>
          cases fs with
          | nil => exact r.elim
          | cons f fs =>
            intro hx n m
            rw [List.all_cons, Bool.and_eq_true] at hx
            rw [List.flatten_cons, List.mem_append] at m
            rcases m with m | m
            · exact RV.below hL r.1 hx.1 n m
            · exact ih ds fs r.2 hx.2 n m
    have cell : ∀ n' o, Zx.below L (.r n') = true → h[n']? = some o → n' < L ∧ belowO L o = true := fun n' o hb hn => by
      have hlt : n' < L := of_decide_eq_true hb
      refine ⟨hlt, ?_⟩
      rw [List.all_eq_true] at hL
      refine hL o (List.mem_of_getElem? (i := n') ?_)
      rw [List.getElem?_take_of_lt hlt]; exact hn
    rcases r with r | ⟨n', xs, ds, fs, rfl, hn, rfl, rfl, r⟩ | ⟨n', xs, ds, fs, rfl, hn, rfl, rfl, r⟩ | ⟨n', xs, ds, fs, rfl, hn, rfl, rfl, r⟩
    · rw [r.1] at m; cases m
    · obtain ⟨h1, h2⟩ := cell n' _ hs hn
      rcases List.mem_cons.mp m with rfl | m
      · exact h1
      · exact lst xs ds fs r h2 n m
    · obtain ⟨h1, h2⟩ := cell n' _ hs hn
      rcases List.mem_cons.mp m with rfl | m
      · exact h1
      · exact lst _ ds fs r h2 n m
    · obtain ⟨h1, h2⟩ := cell n' _ hs hn.1
      rcases List.mem_cons.mp m with rfl | m
      · exact h1
      · exact lst _ ds fs r h2 n m
theorem RV.cut {h : AH} {b : Bool} {L : Nat} {k : Nat} {s : SV} {x : PyData} {f : List Nat} (r : RV h b k s x f) (d : ∀ n ∈ f, n < L) : RV (h.take L) b k s x f := r.frame fun n m => List.getElem?_take_of_lt (d n m)
/-! freezing -/
theorem RV.fz {b : Bool} (hb : b = false) : ∀ {k : Nat} {h : AH} {s : SV} {x : PyData} {f : List Nat} {j : Nat}, RV h b k s x f → f.Nodup → k ≤ j → ∃ h', fzv j h s = some (x, h') ∧ h'.length = h.length ∧ ∀ m, m ∉ f → h'[m]? = h[m]?
  | 0, h, s, x, f, j, r, _, _ => by
    rcases r.2 with rfl | ⟨e, _⟩
    · refine ⟨h, ?_, rfl, fun _ _ => rfl⟩
      cases j <;> (unfold fzv; rfl)
    · rw [hb] at e; cases e
  | k + 1, h, s, x, f, 0, r, _, hj => by omega
  | k + 1, h, s, x, f, j + 1, r, nd, hj => by
    unfold RV at r
    have lst : ∀ (xs : List SV) (h : AH) (ds : List PyData) (fs : List (List Nat)), Fa3 (RV h b k) xs ds fs → fs.flatten.Nodup → ∃ h', fzL j h xs = some (ds, h') ∧ h'.length = h.length ∧ ∀ m, m ∉ fs.flatten → h'[m]? = h[m]? := by
      intro xs
      induction xs with
      | nil =>
        intro h ds fs r _
        cases ds with
        | nil => exact ⟨h, by unfold fzL; rfl, rfl, fun _ _ => rfl⟩
        | cons d ds => cases fs <;> exact r.elim
      | cons a xs ih =>
        intro h ds fs r nd
        cases ds with
        | nil => cases fs <;> exact r.elim
        | cons d ds =>
          cases fs with
          | nil => exact r.elim
          | cons f fs =>
            rw [List.flatten_cons, List.nodup_append] at nd
            obtain ⟨h1, e1, l1, k1⟩ := RV.fz hb r.1 nd.1 (by omega : k ≤ j)
            have r2 : Fa3 (RV h1 b k) xs ds fs := Fa3.imp (cs0 := fs) (fun a b' c hc p => RV.frame (fun m hm => k1 m fun z => nd.2.2 m z m (List.mem_flatten.mpr ⟨c, hc, hm⟩) rfl) p) (fun c hc => hc) r.2
            obtain ⟨h2, e2, l2, k2⟩ := ih h1 ds fs r2 nd.2.1
            refine ⟨h2, ?_, l2.trans l1, fun m hm => ?_⟩
            · unfold fzL
              rw [e1]
              dsimp only
              rw [e2]
            · rw [List.flatten_cons, List.mem_append, not_or] at hm
              rw [k2 m hm.2, k1 m hm.1]
    rcases r with r | ⟨n', xs, ds, fs, rfl, hn, rfl, rfl, r⟩ | ⟨n', xs, ds, fs, rfl, hn, rfl, rfl, r⟩ | ⟨n', xs, ds, fs, rfl, hn, rfl, rfl, r⟩
    · rcases r.2.1 with rfl | ⟨e, _⟩
      · refine ⟨h, ?_, rfl, fun _ _ => rfl⟩
        unfold fzv; rfl
      · rw [hb] at e; cases e
    · rw [List.nodup_cons] at nd
      obtain ⟨h1, e1, l1, k1⟩ := lst xs h ds fs r nd.2
      refine ⟨h1.set n' none, ?_, by rw [List.length_set]; exact l1, fun m hm => ?_⟩
      · unfold fzv
        rw [hn]
        dsimp only
        rw [e1]
        dsimp only
        rw [k1 n' nd.1, hn]
        dsimp only
        rw [if_pos ⟨rfl, l1⟩]
      · rw [List.mem_cons, not_or] at hm
        rw [List.getElem?_set_ne (Ne.symm hm.1), k1 m hm.2]
    · rw [List.nodup_cons] at nd
      obtain ⟨h1, e1, l1, k1⟩ := lst _ h ds fs r nd.2
      refine ⟨h1.set n' none, ?_, by rw [List.length_set]; exact l1, fun m hm => ?_⟩
      · unfold fzv
        rw [hn]
        dsimp only
        rw [e1]
        dsimp only
        rw [k1 n' nd.1, hn]
        dsimp only
        rw [if_pos ⟨rfl, l1⟩]
      · rw [List.mem_cons, not_or] at hm
        rw [List.getElem?_set_ne (Ne.symm hm.1), k1 m hm.2]
    · rw [List.nodup_cons] at nd
      obtain ⟨h1, e1, l1, k1⟩ := lst _ h ds fs r nd.2
      refine ⟨h1.set n' none, ?_, by rw [List.length_set]; exact l1, fun m hm => ?_⟩
      · unfold fzv
        rw [hn.1]
        dsimp only
        rw [e1]
        dsimp only
        rw [k1 n' nd.1, hn.1]
        dsimp only
        rw [if_pos ⟨rfl, l1⟩]
      · rw [List.mem_cons, not_or] at hm
        rw [List.getElem?_set_ne (Ne.symm hm.1), k1 m hm.2]
/-- behind a call: the callee's cells stand behind the caller's -/
theorem RV.shift {h hn : AH} : ∀ {k : Nat} {s : SV} {x : PyData} {f : List Nat}, RV hn false k s x f → RV (h ++ shh h.length hn) false k (shv h.length s) x (f.map (· + h.length))
  | 0, s, x, f, r => by
    rcases r with ⟨rfl, rfl | ⟨e, _⟩⟩
    · exact ⟨rfl, .inl rfl⟩
    · cases e
  | k + 1, s, x, f, r => by
    unfold RV at r ⊢
    have lst : ∀ (xs : List SV) (ds : List PyData) (fs : List (List Nat)), Fa3 (RV hn false k) xs ds fs → Fa3 (RV (h ++ shh h.length hn) false k) (xs.map (shv h.length)) ds (fs.map (List.map (· + h.length))) := by
      intro xs
      induction xs with
      | nil =>
        intro ds fs r
        cases ds with
        | nil => cases fs with
          | nil => exact trivial
          | cons f fs => exact r.elim
        | cons d ds => cases fs <;> exact r.elim
      | cons a xs ih =>
        intro ds fs r
        cases ds with
        | nil => cases fs <;> exact r.elim
        | cons d ds =>
          cases fs with
          | nil => exact r.elim
          | cons f fs => exact ⟨RV.shift r.1, ih ds fs r.2⟩
    have cell : ∀ n o, hn[n]? = some (some o) → (h ++ shh h.length hn)[n + h.length]? = some (some (sho h.length o)) := fun n o e => by
      rw [List.getElem?_append_right (by omega), Nat.add_sub_cancel]
      unfold shh
      rw [List.getElem?_map, e]; rfl
    rcases r with ⟨rfl, l, hl⟩ | ⟨n', xs, ds, fs, rfl, hn, rfl, rfl, r⟩ | ⟨n', xs, ds, fs, rfl, hn, rfl, rfl, r⟩ | ⟨n', xs, ds, fs, rfl, hn, rfl, rfl, r⟩
    · rcases l with rfl | ⟨e, _⟩
      · exact .inl ⟨rfl, .inl rfl, hl⟩
      · cases e
    · refine .inr (.inl ⟨n' + h.length, xs.map (shv h.length), ds, fs.map (List.map (· + h.length)), rfl, cell _ _ hn, rfl, ?_, lst xs ds fs r⟩)
      rw [List.map_cons, List.map_flatten]
    · refine .inr (.inr (.inl ⟨n' + h.length, xs.map fun p => (p.1, shv h.length p.2), ds, fs.map (List.map (· + h.length)), rfl, cell _ _ hn, ?_, ?_, ?_⟩))
      · rw [List.map_map]; rfl
      · rw [List.map_cons, List.map_flatten]
      · have := lst _ ds fs r
        rw [List.map_map] at this ⊢
        exact this
    · refine .inr (.inr (.inr ⟨n' + h.length, xs.map (shv h.length), ds, fs.map (List.map (· + h.length)), rfl, ⟨cell _ _ hn.1, hn.2⟩, rfl, ?_, lst xs ds fs r⟩))
      rw [List.map_cons, List.map_flatten]
end Zx.V

namespace Zx.V
open PySem PySem.Spec L2
/-! ## slots by value -/
inductive VS where | un | v (x : PyData) | sc (ns : List Int) | ex (c : Str)
abbrev KD := Bool × Nat
def RS1 (h : AH) (k : KD) (s : SV) : VS → List Nat → Prop
  | .un, f => f = []
  | .v x, f => RV h k.1 k.2 s x f
  | .sc ns, f => s = .sc ns ∧ f = []
  | .ex c, f => s = .ex c ∧ f = []
def RSt (h : AH) : List KD → List SV → List VS → List (List Nat) → Prop
  | [], sl, vs, fs => sl = [] ∧ vs = [] ∧ fs = []
  | k :: D, sl, vs, fs => ∃ s sl' v vs' f fs', sl = s :: sl' ∧ vs = v :: vs' ∧ fs = f :: fs' ∧ RS1 h k s v f ∧ RSt h D sl' vs' fs'
theorem RS1.frame {h h' : AH} {k : KD} {s : SV} {v : VS} {f : List Nat} (e : ∀ n ∈ f, h'[n]? = h[n]?) (r : RS1 h k s v f) : RS1 h' k s v f := by
  cases v with
  | un => exact r
  | v x => exact RV.frame e r
  | sc x => exact r
  | ex x => exact r
theorem RS1.lt {h : AH} {k : KD} {s : SV} {v : VS} {f : List Nat} (r : RS1 h k s v f) : ∀ n ∈ f, n < h.length := by
  cases v with
  | un => intro n m; rw [show f = [] from r] at m; cases m
  | v x => exact RV.lt r
  | sc x => intro n m; rw [r.2] at m; cases m
  | ex x => intro n m; rw [r.2] at m; cases m
theorem RSt.frame {h h' : AH} : ∀ {D : List KD} {sl : List SV} {vs : List VS} {fs : List (List Nat)}, (∀ n ∈ fs.flatten, h'[n]? = h[n]?) → RSt h D sl vs fs → RSt h' D sl vs fs
  | [], sl, vs, fs, _, r => r
  | k :: D, sl, vs, fs, e, ⟨s, sl', v, vs', f, fs', h1, h2, h3, r1, r2⟩ => by
    subst h3
    exact ⟨s, sl', v, vs', f, fs', h1, h2, rfl, r1.frame fun n m => e n (List.mem_append.mpr (.inl m)), RSt.frame (fun n m => e n (List.mem_append.mpr (.inr m))) r2⟩
theorem RSt.lt {h : AH} : ∀ {D : List KD} {sl : List SV} {vs : List VS} {fs : List (List Nat)}, RSt h D sl vs fs → ∀ n ∈ fs.flatten, n < h.length
  | [], sl, vs, fs, r, n, m => by rw [r.2.2] at m; cases m
  | k :: D, sl, vs, fs, ⟨s, sl', v, vs', f, fs', h1, h2, h3, r1, r2⟩, n, m => by
    subst h3
    rcases List.mem_append.mp m with m | m
    · exact r1.lt n m
    · exact RSt.lt r2 n m
theorem RSt.app {h t : AH} {D : List KD} {sl : List SV} {vs : List VS} {fs : List (List Nat)} (r : RSt h D sl vs fs) : RSt (h ++ t) D sl vs fs := r.frame fun n m => by
  rw [List.getElem?_append_left (r.lt n m)]
theorem RSt.len {h : AH} : ∀ {D : List KD} {sl : List SV} {vs : List VS} {fs : List (List Nat)}, RSt h D sl vs fs → sl.length = D.length ∧ vs.length = D.length ∧ fs.length = D.length
  | [], sl, vs, fs, r => by rw [r.1, r.2.1, r.2.2]; exact ⟨rfl, rfl, rfl⟩
  | k :: D, sl, vs, fs, ⟨s, sl', v, vs', f, fs', h1, h2, h3, r1, r2⟩ => by
    have := RSt.len r2
    rw [h1, h2, h3, List.length_cons, List.length_cons, List.length_cons, List.length_cons]
    omega
theorem RSt.get {h : AH} : ∀ {D : List KD} {sl : List SV} {vs : List VS} {fs : List (List Nat)} {i : Nat} {k : KD}, RSt h D sl vs fs → D[i]? = some k → ∃ s v f, sl[i]? = some s ∧ vs[i]? = some v ∧ fs[i]? = some f ∧ RS1 h k s v f
  | [], sl, vs, fs, i, k, r, e => by simp at e
  | k :: D, sl, vs, fs, 0, k', ⟨s, sl', v, vs', f, fs', h1, h2, h3, r1, r2⟩, e => by
    cases e
    exact ⟨s, v, f, by rw [h1]; rfl, by rw [h2]; rfl, by rw [h3]; rfl, r1⟩
  | k :: D, sl, vs, fs, i + 1, k', ⟨s, sl', v, vs', f, fs', h1, h2, h3, r1, r2⟩, e => by
    have e : D[i]? = some k' := e
    obtain ⟨s', v', f', e1, e2, e3, r⟩ := RSt.get r2 e
    exact ⟨s', v', f', by rw [h1]; exact e1, by rw [h2]; exact e2, by rw [h3]; exact e3, r⟩
theorem RSt.set {h : AH} {s' : SV} {v' : VS} {f' : List Nat} : ∀ {D : List KD} {sl : List SV} {vs : List VS} {fs : List (List Nat)} {i : Nat} {k : KD}, RSt h D sl vs fs → D[i]? = some k → RS1 h k s' v' f' → RSt h D (sl.set i s') (vs.set i v') (fs.set i f')
  | [], sl, vs, fs, i, k, r, e, _ => by simp at e
  | k :: D, sl, vs, fs, 0, k', ⟨s, sl', v, vs', f, fs', h1, h2, h3, r1, r2⟩, e, r => by
    cases e
    exact ⟨s', sl', v', vs', f', fs', by rw [h1]; rfl, by rw [h2]; rfl, by rw [h3]; rfl, r, r2⟩
  | k :: D, sl, vs, fs, i + 1, k', ⟨s, sl', v, vs', f, fs', h1, h2, h3, r1, r2⟩, e, r => by
    have e : D[i]? = some k' := e
    exact ⟨s, sl'.set i s', v, vs'.set i v', f, fs'.set i f', by rw [h1]; rfl, by rw [h2]; rfl, by rw [h3]; rfl, r1, RSt.set r2 e r⟩
/-- a slot is forgotten on the side of the values -/
theorem RSt.drop {h : AH} : ∀ {D : List KD} {sl : List SV} {vs : List VS} {fs : List (List Nat)} (i : Nat), RSt h D sl vs fs → RSt h D sl (vs.set i .un) (fs.set i [])
  | [], sl, vs, fs, i, r => by rw [r.1, r.2.1, r.2.2]; cases i <;> exact ⟨rfl, rfl, rfl⟩
  | k :: D, sl, vs, fs, 0, ⟨s, sl', v, vs', f, fs', h1, h2, h3, r1, r2⟩ => ⟨s, sl', .un, vs', [], fs', h1, by rw [h2]; rfl, by rw [h3]; rfl, rfl, r2⟩
  | k :: D, sl, vs, fs, i + 1, ⟨s, sl', v, vs', f, fs', h1, h2, h3, r1, r2⟩ => ⟨s, sl', v, vs'.set i .un, f, fs'.set i [], h1, by rw [h2]; rfl, by rw [h3]; rfl, r1, RSt.drop i r2⟩
theorem leaf_imm {b : Bool} {s : SV} {x : PyData} (l : leaf b s x) (c : imm x = true) : s = .d x := by
  rcases l with rfl | ⟨_, rfl⟩
  · rfl
  · unfold mkv; rw [if_pos c]
theorem RV.imm {h : AH} {b : Bool} {k : Nat} {s : SV} {x : PyData} {f : List Nat} (r : RV h b k s x f) (c : Zx.imm x = true) : s = .d x ∧ f = [] := by
  cases k with
  | zero => exact ⟨leaf_imm r.2 c, r.1⟩
  | succ k =>
    unfold RV at r
    rcases r with r | ⟨n', xs, ds, fs, rfl, hn, rfl, rfl, r⟩ | ⟨n', xs, ds, fs, rfl, hn, rfl, rfl, r⟩ | ⟨n', xs, ds, fs, rfl, hn, rfl, rfl, r⟩
    · exact ⟨leaf_imm r.2.1 c, r.1⟩
    · cases c
    · cases c
    · unfold Zx.imm at c
      rw [hn.2] at c; cases c
theorem RV.d {h : AH} {b : Bool} {x : PyData} : RV h b 0 (.d x) x [] := ⟨rfl, .inl rfl⟩
theorem RV.dk {h : AH} {b : Bool} {x : PyData} (c : isLD x = false) : ∀ {k : Nat}, RV h b k (.d x) x []
  | 0 => RV.d
  | k + 1 => .inl ⟨rfl, .inl rfl, c⟩
theorem RV.bm {h : AH} {b b' : Bool} (hb : (!b || b') = true) : ∀ {k : Nat} {s : SV} {x : PyData} {f : List Nat}, RV h b k s x f → RV h b' k s x f
  | 0, s, x, f, r => ⟨r.1, r.2.imp_right fun z => ⟨by rw [z.1] at hb; simpa using hb, z.2⟩⟩
  | k + 1, s, x, f, r => by
    unfold RV at r ⊢
    rcases r with r | ⟨n', xs, ds, fs, rfl, hn, rfl, rfl, r⟩ | ⟨n', xs, ds, fs, rfl, hn, rfl, rfl, r⟩ | ⟨n', xs, ds, fs, rfl, hn, rfl, rfl, r⟩
    · exact .inl ⟨r.1, r.2.1.imp_right fun z => ⟨by rw [z.1] at hb; simpa using hb, z.2⟩, r.2.2⟩
    · exact .inr (.inl ⟨n', xs, ds, fs, rfl, hn, rfl, rfl, Fa3.imp (cs0 := fs) (fun _ _ _ _ p => RV.bm hb p) (fun _ m => m) r⟩)
    · exact .inr (.inr (.inl ⟨n', xs, ds, fs, rfl, hn, rfl, rfl, Fa3.imp (cs0 := fs) (fun _ _ _ _ p => RV.bm hb p) (fun _ m => m) r⟩))
    · exact .inr (.inr (.inr ⟨n', xs, ds, fs, rfl, hn, rfl, rfl, Fa3.imp (cs0 := fs) (fun _ _ _ _ p => RV.bm hb p) (fun _ m => m) r⟩))
/-! ## outcomes -/
inductive VR (α : Type) where
  | ok (a : α) (vs : List VS) | rz (c : Str) | st
def VR.bind {α β : Type} (r : VR α) (k : α → List VS → VR β) : VR β := match r with
  | .ok a vs => k a vs
  | .rz c => .rz c
  | .st => .st
abbrev VE := List VS → VR PyData
abbrev VA := List VS → VR (List PyData)
abbrev VT := List VS → VR Bool
def OutE (b : Bool) (k : Nat) (fr : Bool) (L : Nat) (h : AH) (vs : List VS) (r : VR PyData) (q : R SV) : Prop := match r with
  | .ok x vs' => vs' = vs ∧ ∃ s t fp, q = .ok s (h ++ t) ∧ RV (h ++ t) b k s x fp ∧ fp.Nodup ∧ (fr = true → ∀ n ∈ fp, L ≤ n)
  | .rz c => ∃ t, q = .rz c (h ++ t)
  | .st => True
/-- what is told by an outcome that is no value of the heap -/
def OutP {α β : Type} (rep : AH → β → α → Prop) (h : AH) (vs : List VS) (r : VR β) (q : R α) : Prop := match r with
  | .ok x vs' => vs' = vs ∧ ∃ a t, q = .ok a (h ++ t) ∧ rep (h ++ t) x a
  | .rz c => ∃ t, q = .rz c (h ++ t)
  | .st => True
theorem OutE.pre {b : Bool} {k : Nat} {fr : Bool} {L : Nat} {h t : AH} {vs : List VS} {r : VR PyData} {q : R SV} (o : OutE b k fr L (h ++ t) vs r q) : OutE b k fr L h vs r q := by
  cases r with
  | ok x vs' =>
    obtain ⟨e, s, t', fp, h1, h2, h3, h4⟩ := o
    rw [List.append_assoc] at h1 h2
    exact ⟨e, s, t ++ t', fp, h1, h2, h3, h4⟩
  | rz c =>
    obtain ⟨t', e⟩ := o
    rw [List.append_assoc] at e
    exact ⟨t ++ t', e⟩
  | st => trivial
theorem OutP.pre {α β : Type} {rep : AH → β → α → Prop} {h t : AH} {vs : List VS} {r : VR β} {q : R α} (o : OutP rep (h ++ t) vs r q) : OutP rep h vs r q := by
  cases r with
  | ok x vs' =>
    obtain ⟨e, a, t', h1, h2⟩ := o
    rw [List.append_assoc] at h1 h2
    exact ⟨e, a, t ++ t', h1, h2⟩
  | rz c =>
    obtain ⟨t', e⟩ := o
    rw [List.append_assoc] at e
    exact ⟨t ++ t', e⟩
  | st => trivial
theorem OutE.up {b : Bool} {k : Nat} {fr : Bool} {L M : Nat} (hl : L ≤ M) {h : AH} {vs : List VS} {r : VR PyData} {q : R SV} (o : OutE b k fr M h vs r q) : OutE b k fr L h vs r q := by
  cases r with
  | ok x vs' =>
    obtain ⟨e, s, t', fp, h1, h2, h3, h4⟩ := o
    exact ⟨e, s, t', fp, h1, h2, h3, fun z n m => Nat.le_trans hl (h4 z n m)⟩
  | rz c => exact o
  | st => trivial
theorem OutE.ee {b : Bool} {k : Nat} {fr : Bool} {L : Nat} {h : AH} {vs : List VS} {r : VR PyData} {q : R SV} (o : OutE b k fr L h vs r q) {b2 : Bool} {k2 : Nat} {fr2 : Bool} {L2 : Nat} {K : PyData → List VS → VR PyData} {K' : SV → AH → R SV}
    (c : ∀ x s t fp, RV (h ++ t) b k s x fp → fp.Nodup → (fr = true → ∀ n ∈ fp, L ≤ n) → OutE b2 k2 fr2 L2 (h ++ t) vs (K x vs) (K' s (h ++ t))) : OutE b2 k2 fr2 L2 h vs (r.bind K) (q.bind K') := by
  cases r with
  | ok x vs' =>
    obtain ⟨rfl, s, t, fp, rfl, h2, h3, h4⟩ := o
    exact (c x s t fp h2 h3 h4).pre
  | rz cc =>
    obtain ⟨t, rfl⟩ := o
    exact ⟨t, rfl⟩
  | st => trivial
theorem OutE.ep {b : Bool} {k : Nat} {fr : Bool} {L : Nat} {h : AH} {vs : List VS} {r : VR PyData} {q : R SV} (o : OutE b k fr L h vs r q) {α β : Type} {rep : AH → β → α → Prop} {K : PyData → List VS → VR β} {K' : SV → AH → R α}
    (c : ∀ x s t fp, RV (h ++ t) b k s x fp → fp.Nodup → (fr = true → ∀ n ∈ fp, L ≤ n) → OutP rep (h ++ t) vs (K x vs) (K' s (h ++ t))) : OutP rep h vs (r.bind K) (q.bind K') := by
  cases r with
  | ok x vs' =>
    obtain ⟨rfl, s, t, fp, rfl, h2, h3, h4⟩ := o
    exact (c x s t fp h2 h3 h4).pre
  | rz cc =>
    obtain ⟨t, rfl⟩ := o
    exact ⟨t, rfl⟩
  | st => trivial
theorem OutP.pe {α β : Type} {rep : AH → β → α → Prop} {h : AH} {vs : List VS} {r : VR β} {q : R α} (o : OutP rep h vs r q) {b2 : Bool} {k2 : Nat} {fr2 : Bool} {L2 : Nat} {K : β → List VS → VR PyData} {K' : α → AH → R SV}
    (c : ∀ x a t, rep (h ++ t) x a → OutE b2 k2 fr2 L2 (h ++ t) vs (K x vs) (K' a (h ++ t))) : OutE b2 k2 fr2 L2 h vs (r.bind K) (q.bind K') := by
  cases r with
  | ok x vs' =>
    obtain ⟨rfl, a, t, rfl, h2⟩ := o
    exact (c x a t h2).pre
  | rz cc =>
    obtain ⟨t, rfl⟩ := o
    exact ⟨t, rfl⟩
  | st => trivial
theorem OutP.pp {α β : Type} {rep : AH → β → α → Prop} {h : AH} {vs : List VS} {r : VR β} {q : R α} (o : OutP rep h vs r q) {α' β' : Type} {rep' : AH → β' → α' → Prop} {K : β → List VS → VR β'} {K' : α → AH → R α'}
    (c : ∀ x a t, rep (h ++ t) x a → OutP rep' (h ++ t) vs (K x vs) (K' a (h ++ t))) : OutP rep' h vs (r.bind K) (q.bind K') := by
  cases r with
  | ok x vs' =>
    obtain ⟨rfl, a, t, rfl, h2⟩ := o
    exact (c x a t h2).pre
  | rz cc =>
    obtain ⟨t, rfl⟩ := o
    exact ⟨t, rfl⟩
  | st => trivial
theorem OutE.dd {b : Bool} {k L : Nat} {fr : Bool} {h : AH} {vs : List VS} {x : PyData} (c : isLD x = false) : OutE b k fr L h vs (.ok x vs) (.ok (.d x) h) :=
  ⟨rfl, .d x, [], [], by rw [List.append_nil], RV.dk c, List.nodup_nil, fun _ _ m => by cases m⟩
theorem OutE.d0 {b : Bool} {L : Nat} {fr : Bool} {h : AH} {vs : List VS} {x : PyData} : OutE b 0 fr L h vs (.ok x vs) (.ok (.d x) h) :=
  ⟨rfl, .d x, [], [], by rw [List.append_nil], RV.d, List.nodup_nil, fun _ _ m => by cases m⟩
/-! ## the promises -/
def EV (D : List KD) (b : Bool) (k : Nat) (fr : Bool) (f : FE) (g : VE) : Prop := ∀ (h : AH) (sl : List SV) (vs : List VS) (fs : List (List Nat)), RSt h D sl vs fs → fs.flatten.Nodup → OutE b k fr h.length h vs (g vs) (f sl h)
def TV (D : List KD) (f : FT) (g : VT) : Prop := ∀ (h : AH) (sl : List SV) (vs : List VS) (fs : List (List Nat)), RSt h D sl vs fs → fs.flatten.Nodup → OutP (fun _ x a => a = x) h vs (g vs) (f sl h)
/-- arguments by kinds -/
def RA (h : AH) : List KD → List SV → List PyData → Prop
  | [], ss, ds => ss = [] ∧ ds = []
  | k :: KL, ss, ds => ∃ s ss' d ds' f, ss = s :: ss' ∧ ds = d :: ds' ∧ RV h k.1 k.2 s d f ∧ RA h KL ss' ds'
def AV (D : List KD) (KL : List KD) (f : FA) (g : VA) : Prop := ∀ (h : AH) (sl : List SV) (vs : List VS) (fs : List (List Nat)), RSt h D sl vs fs → fs.flatten.Nodup → OutP (fun h ds ss => RA h KL ss ds) h vs (g vs) (f sl h)
/-- fresh ones of one kind -/
def AF (D : List KD) (b : Bool) (k : Nat) (f : FA) (g : VA) : Prop := ∀ (h : AH) (sl : List SV) (vs : List VS) (fs : List (List Nat)), RSt h D sl vs fs → fs.flatten.Nodup → OutP (fun h' ds ss => ∃ fps, Fa3 (RV h' b k) ss ds fps ∧ fps.flatten.Nodup ∧ ∀ n ∈ fps.flatten, h.length ≤ n) h vs (g vs) (f sl h)
theorem RA.app {h t : AH} : ∀ {KL : List KD} {ss : List SV} {ds : List PyData}, RA h KL ss ds → RA (h ++ t) KL ss ds
  | [], ss, ds, r => r
  | k :: KL, ss, ds, ⟨s, ss', d, ds', f, h1, h2, r1, r2⟩ => ⟨s, ss', d, ds', f, h1, h2, r1.app, RA.app r2⟩
/-! ## the same, by value -/
def fVar (i : Nat) : VE := fun vs => match vs[i]? with
  | some (.v x) => .ok x vs
  | _ => .st
def fC (x : PyData) : VE := fun vs => .ok x vs
def fBin (g : PyData → PyData → List VS → VR PyData) (ga gb : VE) : VE := fun vs => (ga vs).bind fun x vs => (gb vs).bind fun y vs => g x y vs
def fUn (g : PyData → List VS → VR PyData) (ga : VE) : VE := fun vs => (ga vs).bind fun x vs => g x vs
def tst (x : PyData) (vs : List VS) : VR Bool := match x with
  | .bool b => .ok b vs
  | _ => .st
def fTst (g : VE) : VT := fun vs => (g vs).bind tst
def fAndT (ga gb : VT) : VT := fun vs => (ga vs).bind fun k vs => if k = true then gb vs else .ok false vs
def fOrT (ga gb : VT) : VT := fun vs => (ga vs).bind fun k vs => if k = true then .ok true vs else gb vs
def fNotT (ga : VT) : VT := fun vs => (ga vs).bind fun k vs => .ok (!k) vs
def fAndV (ga gb : VE) : VE := fun vs => (ga vs).bind fun x vs => (tst x vs).bind fun k vs => if k = true then gb vs else .ok (.bool false) vs
def fOrV (ga gb : VE) : VE := fun vs => (ga vs).bind fun x vs => (tst x vs).bind fun k vs => if k = true then .ok (.bool true) vs else gb vs
def fNotV (ga : VE) : VE := fun vs => (ga vs).bind fun x vs => (tst x vs).bind fun k vs => .ok (.bool (!k)) vs
def fIf (gt : VT) (ga gb : VE) : VE := fun vs => (gt vs).bind fun k vs => if k = true then ga vs else gb vs
def fChain (g g' : PyData → PyData → List VS → VR PyData) (ga gb gc : VE) : VE := fun vs => (ga vs).bind fun x vs => (gb vs).bind fun y vs => (g x y vs).bind fun z vs => (tst z vs).bind fun k vs => if k = true then (gc vs).bind fun u vs => g' y u vs else .ok (.bool false) vs
def fNil : VA := fun vs => .ok [] vs
def fCons (ga : VE) (gr : VA) : VA := fun vs => (ga vs).bind fun x vs => (gr vs).bind fun xs vs => .ok (x :: xs) vs
def fLst (b : Bool) (k : Nat) (ga : VA) : VE := fun vs => (ga vs).bind fun xs vs => if xs.length ≤ 1000 then .ok (.list xs) vs else .st
def fTup (ga : VA) : VE := fun vs => (ga vs).bind fun xs vs => if xs.length ≤ 1000 then .ok (.tuple xs) vs else .st
def fImm (ga : VE) : VE := fun vs => (ga vs).bind fun x vs => if imm x = true then .ok x vs else .st
def fFz (ga : VE) : VE := ga
def fCB (g : List PyData → List VS → VR PyData) (ga : VA) : VE := fun vs => (ga vs).bind fun xs vs => g xs vs
section
variable {D : List KD} {b b1 b2 b3 fr fr1 fr2 fr3 : Bool} {k k1 k2 k3 i : Nat} {fa fb fc : FE} {ga gb gc : VE} {ta tb : FT} {ua ub : VT} {ra : FA} {qa : VA} {KL : List KD}
theorem ev_var (e : D[i]? = some (b, k)) : EV D b k false (Zx.fVar i) (fVar i) := by
  intro h sl vs fs R nd
  obtain ⟨s, v, f, e1, e2, e3, r⟩ := R.get e
  unfold fVar
  rw [e2]
  cases v with
  | un => trivial
  | sc x => trivial
  | ex x => trivial
  | v x =>
    refine ⟨rfl, s, [], f, ?_, by rw [List.append_nil]; exact r, (nd_at nd e3).1, fun z => by cases z⟩
    have r : RV h b k s x f := r
    have hs : s ≠ .un := fun z => by
      subst z
      have := RV.rb (j := k) r (Nat.le_refl _)
      cases k <;> (unfold Zx.rb at this; cases this)
    rw [List.append_nil]
    unfold Zx.fVar
    rw [e1]
    cases s <;> first | rfl | exact absurd rfl hs
theorem EV.z (e : EV D b 0 fr1 fa ga) : EV D b 0 fr fa ga := by
  intro h sl vs fs R nd
  have o := e h sl vs fs R nd
  generalize ga vs = r at o ⊢
  generalize fa sl h = q at o ⊢
  cases r with
  | ok x vs' =>
    obtain ⟨h1, s, t, fp, h2, h3, h4, _⟩ := o
    refine ⟨h1, s, t, fp, h2, h3, h4, fun _ n m => ?_⟩
    rw [h3.1] at m; cases m
  | rz c => exact o
  | st => trivial
theorem ev_var0 (e : D[i]? = some (b, 0)) : EV D b 0 fr (Zx.fVar i) (fVar i) := (ev_var e).z
theorem ev_c {x : PyData} (c : isLD x = false := by rfl) : EV D b k fr (Zx.fC x) (fC x) := fun h sl vs fs R nd => OutE.dd c
theorem ev_imm (e : EV D b1 k fr1 fa ga) : EV D b 0 fr fa (fImm ga) := by
  intro h sl vs fs R nd
  have o := e h sl vs fs R nd
  unfold fImm
  generalize ga vs = r at o ⊢
  generalize fa sl h = q at o ⊢
  cases r with
  | ok x vs' =>
    obtain ⟨rfl, s, t, fp, rfl, h3, h4, _⟩ := o
    show OutE _ _ _ _ _ _ (if imm x = true then .ok x vs' else .st) _
    split
    · rename_i c
      obtain ⟨rfl, rfl⟩ := h3.imm c
      exact ⟨rfl, .d x, t, [], rfl, RV.d, List.nodup_nil, fun _ _ m => by cases m⟩
    · trivial
  | rz c => exact o
  | st => trivial
/-- two operands -/
def OpV (b1 : Bool) (k1 : Nat) (b2 : Bool) (k2 : Nat) (b : Bool) (k : Nat) (fr : Bool) (f : SV → SV → AH → R SV) (g : PyData → PyData → List VS → VR PyData) : Prop := ∀ (h : AH) (vs : List VS) (s t : SV) (x y : PyData) (f1 f2 : List Nat), RV h b1 k1 s x f1 → f1.Nodup → RV h b2 k2 t y f2 → OutE b k fr h.length h vs (g x y vs) (f s t h)
theorem ev_bin {f : SV → SV → AH → R SV} {g : PyData → PyData → List VS → VR PyData} (ho : OpV b1 k1 b2 k2 b k fr f g) (ha : EV D b1 k1 fr1 fa ga) (hb : EV D b2 k2 fr2 fb gb) : EV D b k fr (Zx.fBin f fa fb) (fBin g ga gb) := by
  intro h sl vs fs R nd
  refine (ha h sl vs fs R nd).ee fun x s t f1 r1 n1 _ => ?_
  refine ((hb (h ++ t) sl vs fs R.app nd).ee fun y s2 t2 f2 r2 n2 _ => ?_)
  exact (ho (h ++ t ++ t2) vs s s2 x y f1 f2 r1.app n1 r2).up (by rw [List.length_append, List.length_append]; omega)
def UnV (b1 : Bool) (k1 : Nat) (b : Bool) (k : Nat) (fr : Bool) (f : SV → AH → R SV) (g : PyData → List VS → VR PyData) : Prop := ∀ (h : AH) (vs : List VS) (s : SV) (x : PyData) (f1 : List Nat), RV h b1 k1 s x f1 → OutE b k fr h.length h vs (g x vs) (f s h)
theorem ev_un {f : SV → AH → R SV} {g : PyData → List VS → VR PyData} (ho : UnV b1 k1 b k fr f g) (ha : EV D b1 k1 fr1 fa ga) : EV D b k fr (Zx.fUn f fa) (fUn g ga) := by
  intro h sl vs fs R nd
  refine (ha h sl vs fs R nd).ee fun x s t f1 r1 n1 _ => ?_
  exact (ho (h ++ t) vs s x f1 r1).up (by rw [List.length_append]; omega)
/-! tests -/
theorem tst_ok {h : AH} {vs : List VS} {s : SV} {x : PyData} {f : List Nat} (r : RV h b k s x f) : OutP (fun _ x a => a = x) h vs (tst x vs) (Zx.tst s h) := by
  unfold tst
  split
  · obtain ⟨rfl, _⟩ := r.imm rfl
    exact ⟨rfl, _, [], by rw [List.append_nil]; rfl, rfl⟩
  · trivial
theorem tv_tst (ha : EV D b k fr fa ga) : TV D (Zx.fTst fa) (fTst ga) := by
  intro h sl vs fs R nd
  rw [a_tst]
  exact (ha h sl vs fs R nd).ep fun x s t f1 r1 n1 _ => tst_ok r1
theorem tv_and (ha : TV D ta ua) (hb : TV D tb ub) : TV D (Zx.fAndT ta tb) (fAndT ua ub) := by
  intro h sl vs fs R nd
  refine (ha h sl vs fs R nd).pp fun x a t e => ?_
  subst e
  cases a with
  | true => exact hb (h ++ t) sl vs fs R.app nd
  | false => exact ⟨rfl, false, [], by rw [List.append_nil]; rfl, rfl⟩
theorem tv_or (ha : TV D ta ua) (hb : TV D tb ub) : TV D (Zx.fOrT ta tb) (fOrT ua ub) := by
  intro h sl vs fs R nd
  refine (ha h sl vs fs R nd).pp fun x a t e => ?_
  subst e
  cases a with
  | false => exact hb (h ++ t) sl vs fs R.app nd
  | true => exact ⟨rfl, true, [], by rw [List.append_nil]; rfl, rfl⟩
theorem tv_not (ha : TV D ta ua) : TV D (Zx.fNotT ta) (fNotT ua) := by
  intro h sl vs fs R nd
  refine (ha h sl vs fs R nd).pp fun x a t e => ?_
  subst e
  exact ⟨rfl, !a, [], by rw [List.append_nil], rfl⟩
theorem tv_yes : TV D Zx.fYes (fun vs => .ok true vs) := fun h sl vs fs R nd => ⟨rfl, true, [], by rw [List.append_nil]; rfl, rfl⟩
theorem ev_and (ha : EV D b1 k1 fr1 fa ga) (hb : EV D b2 0 fr2 fb gb) : EV D b2 0 fr (Zx.fAndV fa fb) (fAndV ga gb) := by
  refine EV.z (fr1 := false) ?_
  intro h sl vs fs R nd
  rw [a_andV]
  refine (ha h sl vs fs R nd).ee fun x s t f1 r1 n1 _ => ?_
  refine (tst_ok r1).pe fun c a t2 e => ?_
  subst e
  cases a with
  | true =>
    have := (EV.z (fr := false) hb) (h ++ t ++ t2) sl vs fs (RSt.app (RSt.app R)) nd
    exact this.up (by rw [List.length_append, List.length_append]; omega)
  | false => exact OutE.dd rfl
theorem ev_or (ha : EV D b1 k1 fr1 fa ga) (hb : EV D b2 0 fr2 fb gb) : EV D b2 0 fr (Zx.fOrV fa fb) (fOrV ga gb) := by
  refine EV.z (fr1 := false) ?_
  intro h sl vs fs R nd
  rw [a_orV]
  refine (ha h sl vs fs R nd).ee fun x s t f1 r1 n1 _ => ?_
  refine (tst_ok r1).pe fun c a t2 e => ?_
  subst e
  cases a with
  | false =>
    have := (EV.z (fr := false) hb) (h ++ t ++ t2) sl vs fs (RSt.app (RSt.app R)) nd
    exact this.up (by rw [List.length_append, List.length_append]; omega)
  | true => exact OutE.dd rfl
theorem ev_not (ha : EV D b1 k1 fr1 fa ga) : EV D b k fr (Zx.fNotV fa) (fNotV ga) := by
  intro h sl vs fs R nd
  rw [a_notV]
  refine (ha h sl vs fs R nd).ee fun x s t f1 r1 n1 _ => ?_
  refine (tst_ok r1).pe fun c a t2 e => ?_
  subst e
  exact OutE.dd rfl
theorem ev_if (hc : TV D ta ua) (ha : EV D b1 k fr fa ga) (hb : EV D b2 k fr fb gb) (h1 : (!b1 || b) = true := by decide) (h2 : (!b2 || b) = true := by decide) : EV D b k fr (Zx.fIf ta fa fb) (fIf ua ga gb) := by
  intro h sl vs fs R nd
  refine (hc h sl vs fs R nd).pe fun x a t e => ?_
  subst e
  have wk : ∀ {b1 : Bool} {fa : FE} {ga : VE}, (!b1 || b) = true → EV D b1 k fr fa ga → OutE b k fr h.length (h ++ t) vs (ga vs) (fa sl (h ++ t)) := fun {b1 fa ga} hb e => by
    have o := (e (h ++ t) sl vs fs R.app nd).up (L := h.length) (by rw [List.length_append]; omega)
    generalize ga vs = r at o ⊢
    generalize fa sl (h ++ t) = q at o ⊢
    cases r with
    | ok x vs' =>
      obtain ⟨h1, s, t, fp, h2, h3, h4, h5⟩ := o
      exact ⟨h1, s, t, fp, h2, h3.bm hb, h4, h5⟩
    | rz c => exact o
    | st => trivial
  cases a with
  | true => exact wk h1 ha
  | false => exact wk h2 hb
theorem ev_chain {f f' : SV → SV → AH → R SV} {g g' : PyData → PyData → List VS → VR PyData} (ho : OpV b1 k1 b2 k2 false 0 false f g) (ho' : OpV b2 k2 b3 k3 false 0 false f' g') (ha : EV D b1 k1 fr1 fa ga) (hb : EV D b2 k2 fr2 fb gb) (hc : EV D b3 k3 fr3 fc gc) : EV D false 0 fr (Zx.fChain f f' fa fb fc) (fChain g g' ga gb gc) := by
  refine EV.z (fr1 := false) ?_
  intro h sl vs fs R nd
  rw [a_chain]
  refine (ha h sl vs fs R nd).ee fun x s t f1 r1 n1 _ => ?_
  refine (hb (h ++ t) sl vs fs R.app nd).ee fun y s2 t2 f2 r2 n2 _ => ?_
  refine (ho (h ++ t ++ t2) vs s s2 x y f1 f2 r1.app n1 r2).ee fun z s3 t3 f3 r3 n3 _ => ?_
  refine (tst_ok r3).pe fun c a t4 e => ?_
  subst e
  cases a with
  | true =>
    refine (hc _ sl vs fs (RSt.app (RSt.app (RSt.app (RSt.app R)))) nd).ee fun u s5 t5 f5 r5 n5 _ => ?_
    exact (ho' _ vs s2 s5 y u f2 f5 (RV.app (RV.app (RV.app r2))) n2 r5).up (by simp only [List.length_append]; omega)
  | false => exact OutE.dd rfl
/-! arguments -/
theorem av_nil : AV D [] Zx.fNil fNil := fun h sl vs fs R nd => ⟨rfl, [], [], by rw [List.append_nil]; rfl, rfl, rfl⟩
theorem av_cons (ha : EV D b k fr fa ga) (hr : AV D KL ra qa) : AV D ((b, k) :: KL) (Zx.fCons fa ra) (fCons ga qa) := by
  intro h sl vs fs R nd
  refine (ha h sl vs fs R nd).ep fun x s t f1 r1 n1 _ => ?_
  refine (hr (h ++ t) sl vs fs R.app nd).pp fun xs ss t2 r2 => ?_
  exact ⟨rfl, s :: ss, [], by rw [List.append_nil], s, ss, x, xs, f1, rfl, rfl, r1.app.app, r2.app⟩
theorem af_nil : AF D b k Zx.fNil fNil := fun h sl vs fs R nd => ⟨rfl, [], [], by rw [List.append_nil]; rfl, [], trivial, List.nodup_nil, fun _ m => by cases m⟩
theorem af_cons (ha : EV D b1 k true fa ga) (hr : AF D b k ra qa) (hb : (!b1 || b) = true := by decide) : AF D b k (Zx.fCons fa ra) (fCons ga qa) := by
  intro h sl vs fs R nd
  have := (ha h sl vs fs R nd).ep (rep := fun h' ds ss => ∃ fps, Fa3 (RV h' b k) ss ds fps ∧ fps.flatten.Nodup ∧ ∀ n ∈ fps.flatten, h.length ≤ n) (K := fun x vs => (qa vs).bind fun xs vs => .ok (x :: xs) vs) (K' := fun s h1 => (ra sl h1).bind fun ss h2 => .ok (s :: ss) h2) fun x s t f1 r1 n1 z1 => ?_
  · exact this
  refine (hr (h ++ t) sl vs fs R.app nd).pp fun xs ss t2 r2 => ?_
  obtain ⟨fps, r2, n2, z2⟩ := r2
  refine ⟨rfl, s :: ss, [], by rw [List.append_nil], f1 :: fps, ⟨(r1.app.app).bm hb, ?_⟩, ?_, ?_⟩
  · exact Fa3.imp (cs0 := fps) (fun _ _ _ _ p => RV.app p) (fun _ m => m) r2
  · rw [List.flatten_cons, List.nodup_append]
    refine ⟨n1, n2, fun a ha b hb e => ?_⟩
    have h1 := r1.lt a ha
    have h2 := z2 b hb
    omega
  · intro n m
    rw [List.flatten_cons, List.mem_append] at m
    rcases m with m | m
    · exact z1 rfl n m
    · have := z2 n m
      rw [List.length_append] at this
      omega
theorem ev_lst (ha : AF D b k ra qa) : EV D b (k + 1) fr (Zx.fLst ra) (fLst b (k + 1) qa) := by
  intro h sl vs fs R nd
  refine (ha h sl vs fs R nd).pe fun xs ss t r => ?_
  obtain ⟨fps, r, n, z⟩ := r
  show OutE _ _ _ _ _ _ (if xs.length ≤ 1000 then .ok (.list xs) vs else .st) (if ss.length ≤ 1000 then .ok (.r (h ++ t).length) (h ++ t ++ [some (.lst ss)]) else .st)
  have hl := r.len.1
  rw [hl]
  split
  · refine ⟨rfl, _, [some (.lst ss)], (h ++ t).length :: fps.flatten, rfl, ?_, ?_, fun _ n m => ?_⟩
    · unfold RV
      refine .inr (.inl ⟨_, ss, xs, fps, rfl, ?_, rfl, rfl, Fa3.imp (cs0 := fps) (fun _ _ _ _ p => RV.app p) (fun _ m => m) r⟩)
      rw [List.getElem?_append_right (Nat.le_refl _), Nat.sub_self]; rfl
    · rw [List.nodup_cons]
      refine ⟨fun m => ?_, n⟩
      obtain ⟨l, hl, hm⟩ := List.mem_flatten.mp m
      obtain ⟨a, d, _, _, p⟩ := Fa3.mem r hl
      exact Nat.lt_irrefl _ (p.lt _ hm)
    · rcases List.mem_cons.mp m with rfl | m
      · rw [List.length_append]; omega
      · exact z n m
  · trivial
theorem ra_allD {h : AH} : ∀ {n : Nat} {ss : List SV} {ds : List PyData}, RA h (List.replicate n (false, 0)) ss ds → allD ss = some ds
  | 0, ss, ds, r => by rw [r.1, r.2]; rfl
  | n + 1, ss, ds, r => by
    rw [List.replicate_succ] at r
    obtain ⟨s, ss', d, ds', f, rfl, rfl, r1, r2⟩ := r
    rcases r1.2 with rfl | ⟨e, _⟩
    · unfold allD
      rw [ra_allD r2]; rfl
    · cases e
theorem ev_tup {n : Nat} (ha : AV D KL ra qa) (hk : KL = List.replicate n (false, 0) := by rfl) : EV D false 0 fr (Zx.fTup ra) (fTup qa) := by
  subst hk
  intro h sl vs fs R nd
  refine (ha h sl vs fs R nd).pe fun xs ss t r => ?_
  show OutE _ _ _ _ _ _ (if xs.length ≤ 1000 then .ok (.tuple xs) vs else .st) (match allD ss with | some ds => if ds.length ≤ 1000 then .ok (.d (.tuple ds)) (h ++ t) else .st | none => .st)
  rw [ra_allD r]
  dsimp only
  split
  · exact OutE.d0
  · trivial
theorem ev_fz (ha : EV D false k true fa ga) (hk : k ≤ 9 := by decide) : EV D false 0 fr (Zx.fFz fa) (fFz ga) := by
  intro h sl vs fs R nd
  have o := ha h sl vs fs R nd
  rw [a_fz]
  unfold fFz
  generalize ga vs = r at o ⊢
  generalize fa sl h = q at o ⊢
  cases r with
  | ok x vs' =>
    obtain ⟨rfl, s, t, fp, rfl, h2, h3, h4⟩ := o
    obtain ⟨h', e1, l1, k1⟩ := RV.fz rfl h2 h3 hk
    show OutE _ _ _ _ _ _ _ (opt (fzv 9 (h ++ t) s) (fun p => .ok (.d p.1) (trimE h.length sl p.2)) .st)
    rw [e1]
    have hp : h'.take h.length = h := by
      apply List.ext_getElem?
      intro m
      by_cases hm : m < h.length
      · rw [List.getElem?_take_of_lt hm, k1 m fun z => absurd (h4 rfl m z) (by omega), List.getElem?_append_left hm]
      · rw [List.getElem?_eq_none (by rw [List.length_take]; omega), List.getElem?_eq_none (by omega)]
    show OutE _ _ _ _ _ _ _ (.ok (.d x) (trimE h.length sl h'))
    unfold trimE
    split
    · rw [hp]; exact OutE.d0
    · have : h' = h ++ h'.drop h.length := by
        conv => lhs; rw [← List.take_append_drop h.length h', hp]
      rw [this]
      exact OutE.pre OutE.d0
  | rz c =>
    obtain ⟨t, rfl⟩ := o
    exact ⟨t, rfl⟩
  | st => trivial
/-! built-ins -/
def CbV (KL : List KD) (b : Bool) (k : Nat) (fr : Bool) (f : List SV → AH → R SV) (g : List PyData → List VS → VR PyData) : Prop := ∀ (h : AH) (vs : List VS) (ss : List SV) (ds : List PyData), RA h KL ss ds → OutE b k fr h.length h vs (g ds vs) (f ss h)
theorem ev_cb {f : List SV → AH → R SV} {g : List PyData → List VS → VR PyData} (hc : CbV KL b k fr f g) (ha : AV D KL ra qa) : EV D b k fr (Zx.fCB f ra) (fCB g qa) := by
  intro h sl vs fs R nd
  refine (ha h sl vs fs R nd).pe fun xs ss t r => ?_
  exact (hc (h ++ t) vs ss xs r).up (by rw [List.length_append]; omega)
end
end Zx.V

namespace Zx.V
open PySem PySem.Spec L2
/-! ## operators by value -/
def gI (C : Int → Int → Bool) (kk : Int → Int → PyData) : PyData → PyData → List VS → VR PyData := fun x y vs => match x, y with
  | .int i, .int j => if C i j = true then .ok (kk i j) vs else .st
  | _, _ => .st
def gSub := gI (fun _ _ => true) fun i j => .int (i - j)
def gMul := gI mulB fun i j => .int (i * j)
def gDiv := gI divB fun i j => .int (i / j)
def gMod := gI modB fun i j => .int (i % j)
def gPow := gI powB fun i j => .int (i ^ j.toNat)
def gLt := gI (fun _ _ => true) fun i j => .bool (decide (i < j))
def gLe := gI (fun _ _ => true) fun i j => .bool (decide (i ≤ j))
def gGt := gI (fun _ _ => true) fun i j => .bool (decide (j < i))
def gGe := gI (fun _ _ => true) fun i j => .bool (decide (j ≤ i))
def gAdd : PyData → PyData → List VS → VR PyData := fun x y vs => match x, y with
  | .int i, .int j => .ok (.int (i + j)) vs
  | .str a, .str b => if a.length + b.length < lim then .ok (.str (a ++ b)) vs else .st
  | _, _ => .st
def gCat (b : Bool) : PyData → PyData → List VS → VR PyData := fun x y vs => match x, y with
  | .list xs, .list ys => if xs.length + ys.length < lim then .ok (.list (xs ++ ys)) vs else .st
  | _, _ => .st
def gEq (neg : Bool) : PyData → PyData → List VS → VR PyData := fun d e vs => if (nod d && nod e && SeqAt.shaped d && SeqAt.shaped e) = true then .ok (.bool (neg ^^ PyData.eqv d e)) vs else .st
def itemsP : PyData → Option (List PyData)
  | .list ds => some ds
  | .tuple ds => some ds
  | _ => none
def gIx : PyData → PyData → List VS → VR PyData := fun x y vs => match y with
  | .int i => match x with
    | .str z => if z.length ≤ sizeLine then match atI z.cps.toList i with
        | some c => .ok (.str ⟨#[c]⟩) vs
        | none => .st
      else .st
    | x => match itemsP x with
      | some ds => match atI ds i with
        | some u => .ok u vs
        | none => .st
      | none => .st
  | _ => .st
/-- of a list whose items are owned -/
def gIxO : PyData → PyData → List VS → VR PyData := fun x y vs => match x, y with
  | .list ds, .int i => match atI ds i with
    | some u => .ok u vs
    | none => .st
  | .tuple ds, .int i => match atI ds i with
    | some u => .ok u vs
    | none => .st
  | _, _ => .st
def gIn (neg : Bool) : PyData → PyData → List VS → VR PyData := fun x y vs => match flatD (.d x) with
  | some v => match itemsP y with
    | some ds => match flatL (ds.map SV.d) with
      | some us => .ok (.bool (if neg then !inV v us else inV v us)) vs
      | none => .st
    | none => .st
  | none => .st
def isNo : PyData → Bool
  | .none => true
  | _ => false
def gIsN : PyData → PyData → List VS → VR PyData := fun x y vs => match y with
  | .none => .ok (.bool (isNo x)) vs
  | _ => .st
def gNotN : PyData → PyData → List VS → VR PyData := fun x y vs => match y with
  | .none => .ok (.bool (!isNo x)) vs
  | _ => .st
def gNeg : PyData → List VS → VR PyData := fun x vs => match x with
  | .int i => .ok (.int (-i)) vs
  | _ => .st
section
variable {D : List KD} {b b1 b2 b3 fr fr1 fr2 fr3 : Bool} {k k1 k2 k3 i : Nat} {fa fb fc : FE} {ga gb gc : VE} {ta tb : FT} {ua ub : VT} {ra : FA} {qa : VA} {KL : List KD}
theorem ov_I {C : Int → Int → Bool} {kk : Int → Int → PyData} (hk : ∀ i j, isLD (kk i j) = false) : OpV b1 k1 b2 k2 b k fr (Zx.gI C kk) (gI C kk) := by
  intro h vs s t x y f1 f2 r1 n1 r2
  unfold gI
  split
  · obtain ⟨rfl, -⟩ := r1.imm rfl
    obtain ⟨rfl, -⟩ := r2.imm rfl
    rename_i i j
    show OutE _ _ _ _ _ _ _ (if C i j then .ok (.d (kk i j)) h else .st)
    split
    · exact OutE.dd (hk _ _)
    · trivial
  · trivial
theorem ov_sub : OpV b1 k1 b2 k2 b k fr Zx.gSub gSub := ov_I fun _ _ => rfl
theorem ov_mul : OpV b1 k1 b2 k2 b k fr Zx.gMul gMul := ov_I fun _ _ => rfl
theorem ov_div : OpV b1 k1 b2 k2 b k fr Zx.gDiv gDiv := ov_I fun _ _ => rfl
theorem ov_mod : OpV b1 k1 b2 k2 b k fr Zx.gMod gMod := ov_I fun _ _ => rfl
theorem ov_pow : OpV b1 k1 b2 k2 b k fr Zx.gPow gPow := ov_I fun _ _ => rfl
theorem ov_lt : OpV b1 k1 b2 k2 b k fr Zx.gLt gLt := ov_I fun _ _ => rfl
theorem ov_le : OpV b1 k1 b2 k2 b k fr Zx.gLe gLe := ov_I fun _ _ => rfl
theorem ov_gt : OpV b1 k1 b2 k2 b k fr Zx.gGt gGt := ov_I fun _ _ => rfl
theorem ov_ge : OpV b1 k1 b2 k2 b k fr Zx.gGe gGe := ov_I fun _ _ => rfl
theorem ov_add : OpV b1 k1 b2 k2 b k fr Zx.gAdd gAdd := by
  intro h vs s t x y f1 f2 r1 n1 r2
  unfold gAdd
  split
  · obtain ⟨rfl, -⟩ := r1.imm rfl
    obtain ⟨rfl, -⟩ := r2.imm rfl
    exact OutE.dd rfl
  · obtain ⟨rfl, -⟩ := r1.imm rfl
    obtain ⟨rfl, -⟩ := r2.imm rfl
    rename_i a c
    show OutE _ _ _ _ _ _ _ (if a.length + c.length < lim then .ok (.d (.str (a ++ c))) h else .st)
    split
    · exact OutE.dd rfl
    · trivial
  · trivial
/-! lists as they stand -/
theorem fa_leaf {h : AH} : ∀ (ds : List PyData), Fa3 (RV h b 0) (ds.map SV.d) ds (ds.map fun _ => [])
  | [] => trivial
  | d :: ds => ⟨⟨rfl, .inl rfl⟩, fa_leaf ds⟩
theorem fa_view {h : AH} : ∀ (ds : List PyData), Fa3 (RV h true 0) (ds.map mkv) ds (ds.map fun _ => [])
  | [] => trivial
  | d :: ds => ⟨⟨rfl, .inr ⟨rfl, rfl⟩⟩, fa_view ds⟩
theorem fl_nil : ∀ (ds : List PyData), (ds.map fun _ => ([] : List Nat)).flatten = []
  | [] => rfl
  | d :: ds => by rw [List.map_cons, List.flatten_cons, fl_nil ds]; rfl
theorem fa_flat0 {h : AH} : ∀ {ss : List SV} {ds : List PyData} {fs : List (List Nat)}, Fa3 (RV h b 0) ss ds fs → fs.flatten = []
  | [], [], [], _ => rfl
  | s :: ss, d :: ds, f :: fs, ⟨r, q⟩ => by rw [List.flatten_cons, fa_flat0 q, r.1]; rfl
  | [], [], c :: cs, h => h.elim
  | [], b :: bs, [], h => h.elim
  | [], b :: bs, c :: cs, h => h.elim
  | a :: as, [], [], h => h.elim
  | a :: as, [], c :: cs, h => h.elim
  | a :: as, b :: bs, [], h => h.elim
/-- a list: its items; those of an owned one are its own -/
theorem lst_of {h : AH} {s : SV} {ds : List PyData} {f : List Nat} (r : RV h b k s (.list ds) f) (hk : k ≤ 1) : ∃ ss fs, lstOf h s = some ss ∧ Fa3 (RV h b 0) ss ds fs := by
  match k, hk, r with
  | 0, _, r =>
    rcases r.2 with rfl | ⟨rfl, rfl⟩
    · exact ⟨_, _, rfl, fa_leaf ds⟩
    · exact ⟨_, _, rfl, fa_view ds⟩
  | 1, _, r =>
    unfold RV at r
    rcases r with r | ⟨n', xs, ds', fs, rfl, hn, e, rfl, r⟩ | ⟨n', xs, ds', fs, rfl, hn, e, rfl, r⟩ | ⟨n', xs, ds', fs, rfl, hn, e, rfl, r⟩
    · cases r.2.2
    · cases e
      exact ⟨xs, fs, by unfold lstOf; dsimp only; rw [hn], r⟩
    · cases e
    · cases e
theorem items_of {h : AH} {s : SV} {x : PyData} {ds : List PyData} {f : List Nat} (r : RV h b k s x f) (hk : k ≤ 1) (e : itemsP x = some ds) : ∃ ss fs, itemsOf h s = some ss ∧ Fa3 (RV h b 0) ss ds fs := by
  unfold itemsP at e
  split at e
  · cases e
    match k, hk, r with
    | 0, _, r =>
      rcases r.2 with rfl | ⟨rfl, rfl⟩
      · exact ⟨_, _, rfl, fa_leaf ds⟩
      · exact ⟨_, _, rfl, fa_view ds⟩
    | 1, _, r =>
      unfold RV at r
      rcases r with r | ⟨n', xs, ds', fs, rfl, hn, e, rfl, r⟩ | ⟨n', xs, ds', fs, rfl, hn, e, rfl, r⟩ | ⟨n', xs, ds', fs, rfl, hn, e, rfl, r⟩
      · cases r.2.2
      · cases e
        exact ⟨xs, fs, by unfold itemsOf; dsimp only; rw [hn], r⟩
      · cases e
      · cases e
  · cases e
    have l : leaf b s (.tuple ds) ∨ ∃ ss fs, itemsOf h s = some ss ∧ Fa3 (RV h b 0) ss ds fs := by
      match k, hk, r with
      | 0, _, r => exact .inl r.2
      | 1, _, r =>
        unfold RV at r
        rcases r with r | ⟨n', xs, ds', fs, rfl, hn, e, rfl, r⟩ | ⟨n', xs, ds', fs, rfl, hn, e, rfl, r⟩ | ⟨n', xs, ds', fs, rfl, hn, e, rfl, r⟩
        · exact .inl r.2.1
        · cases e
        · cases e
        · cases e
          exact .inr ⟨xs, fs, by unfold itemsOf; dsimp only; rw [hn.1], r⟩
    rcases l with (rfl | ⟨rfl, rfl⟩) | l
    · exact ⟨_, _, rfl, fa_leaf ds⟩
    · refine ⟨ds.map mkv, _, ?_, fa_view ds⟩
      unfold mkv
      split
      · rename_i c
        unfold itemsOf
        dsimp only
        congr 1
        apply List.map_congr_left
        intro d hd
        have : ∀ ds : List PyData, immL ds = true → ∀ d ∈ ds, imm d = true := by
          intro ds
          induction ds with
          | nil => intro _ d m; cases m
          | cons a ds ih =>
            intro c d m
            unfold immL at c
            rw [Bool.and_eq_true] at c
            rcases List.mem_cons.mp m with rfl | m
            · exact c.1
            · exact ih c.2 d m
        rw [if_pos (this ds (by unfold imm at c; exact c) d hd)]
      · rfl
    · exact l
  · cases e
theorem fa_at {h : AH} {ss : List SV} {ds : List PyData} {fs : List (List Nat)} {i : Int} {u : PyData} (r : Fa3 (RV h b k) ss ds fs) (e : atI ds i = some u) : ∃ (s : SV) (f : List Nat) (j : Nat), atI ss i = some s ∧ fs[j]? = some f ∧ RV h b k s u f := by
  unfold atI at e ⊢
  rw [r.len.1]
  cases c : ixN ds.length i with
  | none => rw [c] at e; cases e
  | some j =>
    rw [c] at e
    have e : ds[j]? = some u := e
    obtain ⟨s, f, h1, h2, h3⟩ := r.get e
    exact ⟨s, f, j, h1, h2, h3⟩
theorem ov_ix (hk : k1 ≤ 1 := by decide) : OpV b1 k1 b2 k2 b1 0 fr Zx.gIx gIx := by
  intro h vs s t x y f1 f2 r1 n1 r2
  unfold gIx
  split
  · obtain ⟨rfl, -⟩ := r2.imm rfl
    rename_i i
    split
    · obtain ⟨rfl, -⟩ := r1.imm rfl
      rename_i z
      show OutE _ _ _ _ _ _ _ (if z.length ≤ sizeLine then match atI z.cps.toList i with | some c => .ok (.d (.str ⟨#[c]⟩)) h | none => .st else .st)
      split
      · split
        · exact OutE.d0
        · trivial
      · trivial
    · rename_i x hx
      split
      · rename_i ds hd
        split
        · rename_i u hu
          obtain ⟨ss, fs, e1, r⟩ := items_of r1 hk hd
          obtain ⟨s', f, j, e2, _, r3⟩ := fa_at r hu
          have hs : ∀ z, s ≠ .d (.str z) := fun z e => by
            subst e
            cases e1
          have : Zx.gIx s (.d (.int i)) h = .ok s' h := by
            unfold Zx.gIx
            dsimp only
            split
            · rename_i z; exact absurd rfl (hs z)
            · rw [e1]
              dsimp only
              rw [e2]
          rw [this]
          exact ⟨rfl, s', [], [], by rw [List.append_nil], by rw [List.append_nil]; exact ⟨rfl, r3.2⟩, List.nodup_nil, fun _ _ m => by cases m⟩
        · trivial
      · trivial
  · trivial
theorem ov_ixO : OpV b1 (k + 1) b2 k2 b1 k false Zx.gIx gIxO := by
  intro h vs s t x y f1 f2 r1 n1 r2
  unfold gIxO
  split
  · obtain ⟨rfl, -⟩ := r2.imm rfl
    rename_i ds i
    split
    · rename_i u hu
      unfold RV at r1
      rcases r1 with r | ⟨n', xs, ds', fs, rfl, hn, e, rfl, r⟩ | ⟨n', xs, ds', fs, rfl, hn, e, rfl, r⟩ | ⟨n', xs, ds', fs, rfl, hn, e, rfl, r⟩
      · cases r.2.2
      · cases e
        obtain ⟨s', f, j, e2, e3, r3⟩ := fa_at r hu
        rw [show Zx.gIx (.r n') (.d (.int i)) h = .ok s' h from by rw [ix_r hn, e2]; rfl]
        rw [List.nodup_cons] at n1
        exact ⟨rfl, s', [], f, by rw [List.append_nil], by rw [List.append_nil]; exact r3, (nd_at n1.2 e3).1, fun z => by cases z⟩
      · cases e
      · cases e
    · trivial
  · obtain ⟨rfl, -⟩ := r2.imm rfl
    rename_i ds i
    split
    · rename_i u hu
      unfold RV at r1
      rcases r1 with r | ⟨n', xs, ds', fs, rfl, hn, e, rfl, r⟩ | ⟨n', xs, ds', fs, rfl, hn, e, rfl, r⟩ | ⟨n', xs, ds', fs, rfl, hn, e, rfl, r⟩
      · obtain ⟨rfl, l, c⟩ := r
        have c : immL ds = true := by
          have c : (!immL ds) = false := c
          simpa using c
        have hs : s = .d (.tuple ds) := by
          rcases l with l | ⟨_, l⟩
          · exact l
          · rw [l]; unfold mkv; rw [if_pos (by unfold imm; exact c)]
        subst hs
        rw [show Zx.gIx (.d (.tuple ds)) (.d (.int i)) h = .ok (.d u) h from by
          unfold Zx.gIx itemsOf
          dsimp only
          rw [atI_map, hu]; rfl]
        have cu : imm u = true := by
          have : ∀ ds : List PyData, immL ds = true → ∀ d ∈ ds, imm d = true := by
            intro ds
            induction ds with
            | nil => intro _ d m; cases m
            | cons a ds ih =>
              intro c d m
              unfold immL at c
              rw [Bool.and_eq_true] at c
              rcases List.mem_cons.mp m with rfl | m
              · exact c.1
              · exact ih c.2 d m
          refine this ds c u ?_
          unfold atI at hu
          cases c2 : ixN ds.length i with
          | none => rw [c2] at hu; cases hu
          | some j =>
            rw [c2] at hu
            exact List.mem_of_getElem? hu
        refine ⟨rfl, _, [], [], by rw [List.append_nil], RV.dk ?_, List.nodup_nil, fun z => by cases z⟩
        cases u with
        | list _ => unfold imm at cu; cases cu
        | dict _ => unfold imm at cu; cases cu
        | tuple us =>
          unfold imm at cu
          show (!immL us) = false
          rw [cu]; rfl
        | _ => rfl
      · cases e
      · cases e
      · cases e
        obtain ⟨s', f, j, e2, e3, r3⟩ := fa_at r hu
        rw [show Zx.gIx (.r n') (.d (.int i)) h = .ok s' h from by
          unfold Zx.gIx itemsOf
          dsimp only
          rw [hn.1]
          dsimp only
          rw [e2]]
        rw [List.nodup_cons] at n1
        exact ⟨rfl, s', [], f, by rw [List.append_nil], by rw [List.append_nil]; exact r3, (nd_at n1.2 e3).1, fun z => by cases z⟩
    · trivial
  · trivial
theorem ov_cat (h1 : k1 ≤ 1 := by decide) (h2 : k2 ≤ 1 := by decide) (hb1 : (!b1 || b) = true := by decide) (hb2 : (!b2 || b) = true := by decide) : OpV b1 k1 b2 k2 b 1 fr Zx.gAdd (gCat b) := by
  intro h vs s t x y f1 f2 r1 n1 r2
  unfold gCat
  split
  · rename_i xs ys
    split
    · rename_i hl
      obtain ⟨ss, fs, e1, q1⟩ := lst_of r1 h1
      obtain ⟨ts, gs, e2, q2⟩ := lst_of r2 h2
      have l1 := q1.len
      have l2 := q2.len
      rw [cat_of e1 e2 (by omega)]
      have z1 := fa_flat0 q1
      have z2 := fa_flat0 q2
      refine ⟨rfl, _, _, [h.length], rfl, ?_, by simp, fun _ n m => by rw [List.mem_singleton.mp m]; exact Nat.le_refl _⟩
      unfold RV
      refine .inr (.inl ⟨_, ss ++ ts, xs ++ ys, fs ++ gs, rfl, ?_, rfl, ?_, ?_⟩)
      · rw [List.getElem?_append_right (Nat.le_refl _), Nat.sub_self]; rfl
      · rw [List.flatten_append, z1, z2]; rfl
      · exact Fa3.app (Fa3.imp (cs0 := gs) (fun _ _ _ _ p => RV.bm hb2 (RV.app p)) (fun _ m => m) q2) (Fa3.imp (cs0 := fs) (fun _ _ _ _ p => RV.bm hb1 (RV.app p)) (fun _ m => m) q1)
    · trivial
  · trivial
theorem ov_eq {neg : Bool} (h1 : k1 ≤ 9 := by decide) (h2 : k2 ≤ 9 := by decide) : OpV b1 k1 b2 k2 b k fr (Zx.gEq neg) (gEq neg) := by
  intro h vs s t x y f1 f2 r1 n1 r2
  unfold gEq Zx.gEq
  rw [r1.rb h1, r2.rb h2]
  dsimp only
  split
  · exact OutE.dd rfl
  · trivial
theorem flat_rv {h : AH} {s : SV} {x : PyData} {f : List Nat} (r : RV h b k s x f) : flatD s = flatD (.d x) := by
  have l : leaf b s x ∨ (∃ n, s = .r n ∧ isLD x = true) := by
    cases k with
    | zero => exact .inl r.2
    | succ k =>
      unfold RV at r
      rcases r with r | ⟨n', xs, ds', fs, rfl, hn, rfl, rfl, r⟩ | ⟨n', xs, ds', fs, rfl, hn, rfl, rfl, r⟩ | ⟨n', xs, ds', fs, rfl, hn, rfl, rfl, r⟩
      · exact .inl r.2.1
      · exact .inr ⟨n', rfl, rfl⟩
      · exact .inr ⟨n', rfl, rfl⟩
      · exact .inr ⟨n', rfl, by show (!immL ds') = true; rw [hn.2]; rfl⟩
  rcases l with (rfl | ⟨_, rfl⟩) | ⟨n, rfl, e⟩
  · rfl
  · unfold mkv
    split
    · rfl
    · rename_i c
      cases x <;> first | rfl | exact absurd rfl c
  · cases x <;> first | rfl | cases e
theorem flat_fa {h : AH} : ∀ {ss : List SV} {ds : List PyData} {fs : List (List Nat)}, Fa3 (RV h b k) ss ds fs → flatL ss = flatL (ds.map SV.d)
  | [], [], [], _ => rfl
  | s :: ss, d :: ds, f :: fs, ⟨r, q⟩ => by
    rw [List.map_cons]
    unfold flatL
    rw [flat_rv r, flat_fa q]
  | [], [], c :: cs, h => h.elim
  | [], b :: bs, [], h => h.elim
  | [], b :: bs, c :: cs, h => h.elim
  | a :: as, [], [], h => h.elim
  | a :: as, [], c :: cs, h => h.elim
  | a :: as, b :: bs, [], h => h.elim
theorem ov_in {neg : Bool} (h2 : k2 ≤ 1 := by decide) : OpV b1 k1 b2 k2 b k fr (Zx.gIn neg) (gIn neg) := by
  intro h vs s t x y f1 f2 r1 n1 r2
  unfold gIn Zx.gIn
  rw [flat_rv r1]
  split
  · rename_i v hv
    try rw [hv]
    try dsimp only
    split
    · rename_i ds hd
      obtain ⟨ss, fs, e1, q⟩ := items_of r2 h2 hd
      split
      · rename_i us hu
        rw [e1]
        dsimp only
        rw [flat_fa q, hu]
        exact OutE.dd (x := .bool _) rfl
      · trivial
    · trivial
  · trivial
theorem no_rv {h : AH} {s : SV} {x : PyData} {f : List Nat} (r : RV h b k s x f) : isNon s = some (isNo x) := by
  have l : leaf b s x ∨ (∃ n, s = .r n ∧ isLD x = true) := by
    cases k with
    | zero => exact .inl r.2
    | succ k =>
      unfold RV at r
      rcases r with r | ⟨n', xs, ds', fs, rfl, hn, rfl, rfl, r⟩ | ⟨n', xs, ds', fs, rfl, hn, rfl, rfl, r⟩ | ⟨n', xs, ds', fs, rfl, hn, rfl, rfl, r⟩
      · exact .inl r.2.1
      · exact .inr ⟨n', rfl, rfl⟩
      · exact .inr ⟨n', rfl, rfl⟩
      · exact .inr ⟨n', rfl, by show (!immL ds') = true; rw [hn.2]; rfl⟩
  rcases l with (rfl | ⟨_, rfl⟩) | ⟨n, rfl, e⟩
  · cases x <;> rfl
  · unfold mkv
    split <;> (cases x <;> rfl)
  · cases x <;> first | rfl | cases e
theorem ov_isN : OpV b1 k1 b2 k2 b k fr Zx.gIsN gIsN := by
  intro h vs s t x y f1 f2 r1 n1 r2
  unfold gIsN
  split
  · obtain ⟨rfl, -⟩ := r2.imm rfl
    show OutE _ _ _ _ _ _ _ (match isNon s with | some b => .ok (.d (.bool b)) h | none => .st)
    rw [no_rv r1]
    exact OutE.dd rfl
  · trivial
theorem ov_notN : OpV b1 k1 b2 k2 b k fr Zx.gNotN gNotN := by
  intro h vs s t x y f1 f2 r1 n1 r2
  unfold gNotN
  split
  · obtain ⟨rfl, -⟩ := r2.imm rfl
    show OutE _ _ _ _ _ _ _ (match isNon s with | some b => .ok (.d (.bool (!b))) h | none => .st)
    rw [no_rv r1]
    exact OutE.dd rfl
  · trivial
theorem uv_neg : UnV b1 k1 b k fr Zx.gNeg gNeg := by
  intro h vs s x f1 r
  unfold gNeg
  split
  · obtain ⟨rfl, -⟩ := r.imm rfl
    exact OutE.dd rfl
  · trivial
end
/-! ## built-ins by value -/
def gLen : List PyData → List VS → VR PyData := fun ds vs => match ds with
  | [.str z] => if z.length ≤ sizeLine then .ok (.int z.length) vs else .st
  | [.list xs] => .ok (.int xs.length) vs
  | [.tuple xs] => .ok (.int xs.length) vs
  | _ => .st
def gI2 (kk : Int → Int → Int) : List PyData → List VS → VR PyData := fun ds vs => match ds with
  | [.int i, .int j] => .ok (.int (kk i j)) vs
  | _ => .st
def gI1 (kk : Int → Int) : List PyData → List VS → VR PyData := fun ds vs => match ds with
  | [.int i] => .ok (.int (kk i)) vs
  | _ => .st
def gAbs := gI1 fun i => if i < 0 then -i else i
def gMin2 := gI2 fun i j => if j < i then j else i
def gMax2 := gI2 fun i j => if j > i then j else i
def gInt : List PyData → List VS → VR PyData := fun ds vs => match ds with
  | [.int i] => .ok (.int i) vs
  | [.bool c] => .ok (.int (if c = true then 1 else 0)) vs
  | _ => .st
def gSum : List PyData → List VS → VR PyData := fun ds vs => match ds with
  | [.list xs] => match intsD xs with
    | some ns => .ok (.int ns.sum) vs
    | none => .st
  | _ => .st
def gMinL : List PyData → List VS → VR PyData := fun ds vs => match ds with
  | [.list xs] => match intsD xs with
    | some (n :: ns) => .ok (.int (lmin (n :: ns))) vs
    | _ => .st
  | _ => .st
def gMaxL : List PyData → List VS → VR PyData := fun ds vs => match ds with
  | [.list xs] => match intsD xs with
    | some (n :: ns) => .ok (.int (lmax (n :: ns))) vs
    | _ => .st
  | _ => .st
def boolsD : List PyData → Option (List Bool)
  | [] => some []
  | .bool i :: r => (boolsD r).map (i :: ·)
  | _ => none
def gBools (kk : List Bool → Bool) : List PyData → List VS → VR PyData := fun ds vs => match ds with
  | [.list xs] => match boolsD xs with
    | some bs => .ok (.bool (kk bs)) vs
    | none => .st
  | _ => .st
def gList : List PyData → List VS → VR PyData := fun ds vs => match ds with
  | [x] => match itemsP x with
    | some xs => .ok (.list xs) vs
    | none => .st
  | _ => .st
def gTuple : List PyData → List VS → VR PyData := fun ds vs => match ds with
  | [.list xs] => .ok (.tuple xs) vs
  | _ => .st
def tyP : PyData → Option String
  | .none => some "NoneType"
  | .bool _ => some "bool"
  | .int _ => some "int"
  | .str _ => some "str"
  | .list _ => some "list"
  | .tuple _ => some "tuple"
  | .dict _ => none
def fIsi (T : String) (ga : VE) : VE := fun vs => (ga vs).bind fun x vs => match tyP x with
  | some t => match isTy t T with
    | some c => .ok (.bool c) vs
    | none => .st
  | none => .st
section
variable {D : List KD} {b b1 b2 b3 fr fr1 fr2 fr3 : Bool} {k k1 k2 k3 i : Nat} {fa fb fc : FE} {ga gb gc : VE} {ta tb : FT} {ua ub : VT} {ra : FA} {qa : VA} {KL : List KD}
theorem ra_one {h : AH} {p : KD} {ss : List SV} {ds : List PyData} (r : RA h [p] ss ds) : ∃ s x f, ss = [s] ∧ ds = [x] ∧ RV h p.1 p.2 s x f := by
  obtain ⟨s, ss', d, ds', f, rfl, rfl, r1, rfl, rfl⟩ := r
  exact ⟨s, d, f, rfl, rfl, r1⟩
theorem ra_two {h : AH} {p q : KD} {ss : List SV} {ds : List PyData} (r : RA h [p, q] ss ds) : ∃ s x f t y g, ss = [s, t] ∧ ds = [x, y] ∧ RV h p.1 p.2 s x f ∧ RV h q.1 q.2 t y g := by
  obtain ⟨s, ss', d, ds', f, rfl, rfl, r1, r2⟩ := r
  obtain ⟨t, y, g, rfl, rfl, r3⟩ := ra_one r2
  exact ⟨s, d, f, t, y, g, rfl, rfl, r1, r3⟩
theorem cv_len : CbV [(b1, k1)] b k fr Zx.gLen gLen := by
  intro h vs ss ds r
  obtain ⟨s, x, f, rfl, rfl, r1⟩ := ra_one r
  clear r
  have r : RV h b1 k1 s x f := r1
  clear r1
  have it : ∀ xs, itemsP x = some xs → ∃ ss, itemsOf h s = some ss ∧ ss.length = xs.length ∧ ∀ z, s ≠ .d (.str z) := fun xs e => by
    by_cases hk : k1 ≤ 1
    · obtain ⟨ss, fs, e1, q⟩ := items_of r hk e
      exact ⟨ss, e1, q.len.1, fun z e => by subst e; cases e1⟩
    · obtain ⟨j, rfl⟩ : ∃ j, k1 = j + 1 := ⟨k1 - 1, by omega⟩
      have r : RV h b1 (j + 1) s x f := r
      unfold RV at r
      rcases r with q | ⟨n', xs', ds', fs, rfl, hn, rfl, rfl, q⟩ | ⟨n', xs', ds', fs, rfl, hn, rfl, rfl, q⟩ | ⟨n', xs', ds', fs, rfl, hn, rfl, rfl, q⟩
      · have := items_of (k := 0) (b := b1) (h := h) (s := s) (x := x) (f := []) ⟨rfl, q.2.1⟩ (by decide) e
        obtain ⟨ss, fs, e1, q⟩ := this
        exact ⟨ss, e1, q.len.1, fun z e => by subst e; cases e1⟩
      · cases e
        exact ⟨xs', by unfold itemsOf; dsimp only; rw [hn], q.len.1, fun z e => by cases e⟩
      · cases e
      · cases e
        exact ⟨xs', by unfold itemsOf; dsimp only; rw [hn.1], q.len.1, fun z e => by cases e⟩
  unfold gLen
  split
  · rename_i z e
    cases e
    obtain ⟨rfl, -⟩ := RV.imm r rfl
    show OutE _ _ _ _ _ _ _ (if z.length ≤ sizeLine then .ok (.d (.int z.length)) h else .st)
    split
    · exact OutE.dd rfl
    · trivial
  · rename_i xs e
    cases e
    obtain ⟨ss, e1, e2, e3⟩ := it xs rfl
    have : Zx.gLen [s] h = .ok (.d (.int xs.length)) h := by
      unfold Zx.gLen
      dsimp only
      split
      · exact absurd rfl (e3 _)
      · rw [e1]; dsimp only; rw [e2]
    rw [this]
    exact OutE.dd rfl
  · rename_i xs e
    cases e
    obtain ⟨ss, e1, e2, e3⟩ := it xs rfl
    have : Zx.gLen [s] h = .ok (.d (.int xs.length)) h := by
      unfold Zx.gLen
      dsimp only
      split
      · exact absurd rfl (e3 _)
      · rw [e1]; dsimp only; rw [e2]
    rw [this]
    exact OutE.dd rfl
  · trivial
theorem cv_I2 {kk : Int → Int → Int} {p q : KD} : CbV [p, q] b k fr (Zx.gI2 kk) (gI2 kk) := by
  intro h vs ss ds r
  obtain ⟨s, x, f, t, y, g, rfl, rfl, r1, r2⟩ := ra_two r
  unfold gI2
  split
  · rename_i i j e
    cases e
    obtain ⟨rfl, -⟩ := r1.imm rfl
    obtain ⟨rfl, -⟩ := r2.imm rfl
    exact OutE.dd rfl
  · trivial
theorem cv_I1 {kk : Int → Int} {p : KD} : CbV [p] b k fr (Zx.gI1 kk) (gI1 kk) := by
  intro h vs ss ds r
  obtain ⟨s, x, f, rfl, rfl, r1⟩ := ra_one r
  unfold gI1
  split
  · rename_i i e
    cases e
    obtain ⟨rfl, -⟩ := r1.imm rfl
    exact OutE.dd rfl
  · trivial
theorem cv_abs {p : KD} : CbV [p] b k fr Zx.gAbs gAbs := cv_I1
theorem cv_min2 {p q : KD} : CbV [p, q] b k fr Zx.gMin2 gMin2 := cv_I2
theorem cv_max2 {p q : KD} : CbV [p, q] b k fr Zx.gMax2 gMax2 := cv_I2
theorem cv_int {p : KD} : CbV [p] b k fr Zx.gInt gInt := by
  intro h vs ss ds r
  obtain ⟨s, x, f, rfl, rfl, r1⟩ := ra_one r
  unfold gInt
  split
  · rename_i i e
    cases e
    obtain ⟨rfl, -⟩ := r1.imm rfl
    exact OutE.dd rfl
  · rename_i i e
    cases e
    obtain ⟨rfl, -⟩ := r1.imm rfl
    exact OutE.dd rfl
  · trivial
theorem ints_fa {h : AH} : ∀ {ss : List SV} {ds : List PyData} {fs : List (List Nat)}, Fa3 (RV h b k) ss ds fs → ∀ ns, intsD ds = some ns → intsOf ss = some ns
  | [], [], [], _, ns, e => e
  | s :: ss, .int i :: ds, f :: fs, ⟨r, q⟩, ns, e => by
    obtain ⟨rfl, -⟩ := r.imm rfl
    have e : (intsD ds).map (i :: ·) = some ns := e
    cases c : intsD ds with
    | none => rw [c] at e; cases e
    | some m =>
      rw [c] at e
      cases e
      show (intsOf ss).map (i :: ·) = _
      rw [ints_fa q m c]; rfl
  | s :: ss, .none :: ds, f :: fs, _, ns, e => by cases e
  | s :: ss, .bool _ :: ds, f :: fs, _, ns, e => by cases e
  | s :: ss, .str _ :: ds, f :: fs, _, ns, e => by cases e
  | s :: ss, .list _ :: ds, f :: fs, _, ns, e => by cases e
  | s :: ss, .tuple _ :: ds, f :: fs, _, ns, e => by cases e
  | s :: ss, .dict _ :: ds, f :: fs, _, ns, e => by cases e
  | [], [], c :: cs, h, _, _ => h.elim
  | [], b :: bs, [], h, _, _ => h.elim
  | [], b :: bs, c :: cs, h, _, _ => h.elim
  | a :: as, [], [], h, _, _ => h.elim
  | a :: as, [], c :: cs, h, _, _ => h.elim
  | a :: as, b :: bs, [], h, _, _ => h.elim
theorem bools_fa {h : AH} : ∀ {ss : List SV} {ds : List PyData} {fs : List (List Nat)}, Fa3 (RV h b k) ss ds fs → ∀ ns, boolsD ds = some ns → bolsOf ss = some ns
  | [], [], [], _, ns, e => e
  | s :: ss, .bool i :: ds, f :: fs, ⟨r, q⟩, ns, e => by
    obtain ⟨rfl, -⟩ := r.imm rfl
    have e : (boolsD ds).map (i :: ·) = some ns := e
    cases c : boolsD ds with
    | none => rw [c] at e; cases e
    | some m =>
      rw [c] at e
      cases e
      show (bolsOf ss).map (i :: ·) = _
      rw [bools_fa q m c]; rfl
  | s :: ss, .none :: ds, f :: fs, _, ns, e => by cases e
  | s :: ss, .int _ :: ds, f :: fs, _, ns, e => by cases e
  | s :: ss, .str _ :: ds, f :: fs, _, ns, e => by cases e
  | s :: ss, .list _ :: ds, f :: fs, _, ns, e => by cases e
  | s :: ss, .tuple _ :: ds, f :: fs, _, ns, e => by cases e
  | s :: ss, .dict _ :: ds, f :: fs, _, ns, e => by cases e
  | [], [], c :: cs, h, _, _ => h.elim
  | [], b :: bs, [], h, _, _ => h.elim
  | [], b :: bs, c :: cs, h, _, _ => h.elim
  | a :: as, [], [], h, _, _ => h.elim
  | a :: as, [], c :: cs, h, _, _ => h.elim
  | a :: as, b :: bs, [], h, _, _ => h.elim
theorem lint {h : AH} {s : SV} {xs : List PyData} {f : List Nat} {ns : List Int} (r : RV h b k s (.list xs) f) (hk : k ≤ 1) (e : intsD xs = some ns) : lstInts h s = some ns := by
  obtain ⟨ss, fs, e1, q⟩ := lst_of r hk
  unfold lstInts
  rw [e1]
  exact ints_fa q ns e
theorem cv_sum {p : KD} (hk : p.2 ≤ 1 := by decide) : CbV [p] b k fr Zx.gSum gSum := by
  intro h vs ss ds r
  obtain ⟨s, x, f, rfl, rfl, r1⟩ := ra_one r
  unfold gSum
  split
  · rename_i xs e
    cases e
    split
    · rename_i ns hn
      unfold Zx.gSum
      dsimp only
      rw [lint r1 hk hn]
      exact OutE.dd rfl
    · trivial
  · trivial
theorem cv_minL {p : KD} (hk : p.2 ≤ 1 := by decide) : CbV [p] b k fr Zx.gMinL gMinL := by
  intro h vs ss ds r
  obtain ⟨s, x, f, rfl, rfl, r1⟩ := ra_one r
  unfold gMinL
  split
  · rename_i xs e
    cases e
    split
    · rename_i n ns hn
      unfold Zx.gMinL
      dsimp only
      rw [lint r1 hk hn]
      exact OutE.dd rfl
    · trivial
  · trivial
theorem cv_maxL {p : KD} (hk : p.2 ≤ 1 := by decide) : CbV [p] b k fr Zx.gMaxL gMaxL := by
  intro h vs ss ds r
  obtain ⟨s, x, f, rfl, rfl, r1⟩ := ra_one r
  unfold gMaxL
  split
  · rename_i xs e
    cases e
    split
    · rename_i n ns hn
      unfold Zx.gMaxL
      dsimp only
      rw [lint r1 hk hn]
      exact OutE.dd rfl
    · trivial
  · trivial
theorem cv_bools {kk : List Bool → Bool} {p : KD} (hk : p.2 ≤ 1 := by decide) : CbV [p] b k fr (Zx.gBools kk) (gBools kk) := by
  intro h vs ss ds r
  obtain ⟨s, x, f, rfl, rfl, r1⟩ := ra_one r
  unfold gBools
  split
  · rename_i xs e
    cases e
    split
    · rename_i bs hb
      obtain ⟨ss, fs, e1, q⟩ := lst_of r1 hk
      unfold Zx.gBools
      dsimp only
      rw [e1]
      dsimp only
      rw [bools_fa q bs hb]
      exact OutE.dd rfl
    · trivial
  · trivial
theorem fresh_lst {h : AH} {vs : List VS} {ss : List SV} {ds : List PyData} {fs : List (List Nat)} (q : Fa3 (RV h b 0) ss ds fs) : OutE b 1 fr h.length h vs (.ok (.list ds) vs) (.ok (.r h.length) (h ++ [some (.lst ss)])) := by
  refine ⟨rfl, _, _, [h.length], rfl, ?_, by simp, fun _ n m => by rw [List.mem_singleton.mp m]; exact Nat.le_refl _⟩
  unfold RV
  refine .inr (.inl ⟨_, ss, ds, fs, rfl, ?_, rfl, ?_, ?_⟩)
  · rw [List.getElem?_append_right (Nat.le_refl _), Nat.sub_self]; rfl
  · rw [fa_flat0 q]
  · exact Fa3.imp (cs0 := fs) (fun _ _ _ _ p => RV.app p) (fun _ m => m) q
theorem cv_list {p : KD} (hk : p.2 ≤ 1 := by decide) : CbV [p] p.1 1 fr Zx.gList gList := by
  intro h vs ss ds r
  obtain ⟨s, x, f, rfl, rfl, r1⟩ := ra_one r
  unfold gList
  dsimp only
  split
  · rename_i xs e
    obtain ⟨ss, fs, e1, q⟩ := items_of r1 hk e
    unfold Zx.gList
    dsimp only
    rw [e1]
    exact fresh_lst q
  · trivial
theorem fa_allD {h : AH} : ∀ {ss : List SV} {ds : List PyData} {fs : List (List Nat)}, Fa3 (RV h false 0) ss ds fs → allD ss = some ds
  | [], [], [], _ => rfl
  | s :: ss, d :: ds, f :: fs, ⟨r, q⟩ => by
    rcases r.2 with rfl | ⟨e, _⟩
    · unfold allD
      rw [fa_allD q]; rfl
    · cases e
  | [], [], c :: cs, h => h.elim
  | [], b :: bs, [], h => h.elim
  | [], b :: bs, c :: cs, h => h.elim
  | a :: as, [], [], h => h.elim
  | a :: as, [], c :: cs, h => h.elim
  | a :: as, b :: bs, [], h => h.elim
theorem cv_tuple (hk : k1 ≤ 1 := by decide) : CbV [(false, k1)] b 0 fr Zx.gTuple gTuple := by
  intro h vs ss ds r
  obtain ⟨s, x, f, rfl, rfl, r1⟩ := ra_one r
  unfold gTuple
  split
  · rename_i xs e
    cases e
    obtain ⟨ss, fs, e1, q⟩ := lst_of r1 hk
    unfold Zx.gTuple
    dsimp only
    rw [e1]
    dsimp only
    rw [fa_allD q]
    exact OutE.d0
  · trivial
theorem ty_rv {h : AH} {s : SV} {x : PyData} {f : List Nat} {t : String} (r : RV h b k s x f) (e : tyP x = some t) : tyOf h s = some t := by
  have l : leaf b s x ∨ (∃ n xs ds, s = .r n ∧ h[n]? = some (some (.lst xs)) ∧ x = .list ds) ∨ (∃ ds, x = .dict ds) ∨ (∃ n xs ds, s = .r n ∧ h[n]? = some (some (.tup xs)) ∧ x = .tuple ds) := by
    cases k with
    | zero => exact .inl r.2
    | succ k =>
      unfold RV at r
      rcases r with r | ⟨n', xs, ds', fs, rfl, hn, rfl, rfl, r⟩ | ⟨n', xs, ds', fs, rfl, hn, rfl, rfl, r⟩ | ⟨n', xs, ds', fs, rfl, hn, rfl, rfl, r⟩
      · exact .inl r.2.1
      · exact .inr (.inl ⟨n', _, _, rfl, hn, rfl⟩)
      · exact .inr (.inr (.inl ⟨_, rfl⟩))
      · exact .inr (.inr (.inr ⟨n', _, _, rfl, hn.1, rfl⟩))
  rcases l with (rfl | ⟨_, rfl⟩) | ⟨n, xs, ds, rfl, hn, rfl⟩ | ⟨ds, rfl⟩ | ⟨n, xs, ds, rfl, hn, rfl⟩
  · cases x <;> first | exact e | cases e
  · unfold mkv
    cases x with
    | none => exact e
    | bool _ => exact e
    | int _ => exact e
    | str _ => exact e
    | list _ => exact e
    | tuple _ => split <;> exact e
    | dict _ => cases e
  · unfold tyOf
    dsimp only
    rw [hn]
    exact e
  · cases e
  · unfold tyOf
    dsimp only
    rw [hn]
    exact e
theorem ev_isi {T : String} (ha : EV D b1 k1 fr1 fa ga) : EV D b k fr (Zx.fIsi T fa) (fIsi T ga) := by
  intro h sl vs fs R nd
  refine (ha h sl vs fs R nd).ee fun x s t f1 r1 n1 _ => ?_
  split
  · rename_i t' ht
    rw [ty_rv r1 ht]
    dsimp only
    split
    · rename_i c hc
      try rw [hc]
      exact OutE.dd (x := .bool _) rfl
    · trivial
  · trivial
end
/-! ## slices -/
abbrev VOo := List VS → VR (Option Int)
def oNo : VOo := fun vs => .ok none vs
def oSome (ga : VE) : VOo := fun vs => (ga vs).bind fun x vs => match x with
  | .int i => .ok (some i) vs
  | _ => .st
def fSlice (ga : VE) (gl gh : VOo) : VE := fun vs => (ga vs).bind fun x vs => (gl vs).bind fun lo vs => (gh vs).bind fun hi vs => match x with
  | .list ds => .ok (.list (cutX ds lo hi)) vs
  | _ => .st
section
variable {D : List KD} {b b1 b2 b3 fr fr1 fr2 fr3 : Bool} {k k1 k2 k3 i : Nat} {fa fb fc : FE} {ga gb gc : VE} {fl fh : List SV → AH → R (Option Int)} {gl gh : VOo}
def OV (D : List KD) (f : List SV → AH → R (Option Int)) (g : VOo) : Prop := ∀ (h : AH) (sl : List SV) (vs : List VS) (fs : List (List Nat)), RSt h D sl vs fs → fs.flatten.Nodup → OutP (fun _ x a => a = x) h vs (g vs) (f sl h)
theorem ov_no : OV D Zx.oNo oNo := fun h sl vs fs R nd => ⟨rfl, none, [], by rw [List.append_nil]; rfl, rfl⟩
theorem ov_some (ha : EV D b k fr fa ga) : OV D (Zx.oSome fa) (oSome ga) := by
  intro h sl vs fs R nd
  refine (ha h sl vs fs R nd).ep fun x s t f1 r1 n1 _ => ?_
  split
  · obtain ⟨rfl, -⟩ := r1.imm rfl
    exact ⟨rfl, _, [], by rw [List.append_nil], rfl⟩
  · trivial
theorem fa_take {h : AH} : ∀ {ss : List SV} {ds : List PyData} {fs : List (List Nat)} (n : Nat), Fa3 (RV h b k) ss ds fs → Fa3 (RV h b k) (ss.take n) (ds.take n) (fs.take n)
  | s :: ss, d :: ds, f :: fs, n + 1, ⟨r, q⟩ => ⟨r, fa_take n q⟩
  | s :: ss, d :: ds, f :: fs, 0, _ => trivial
  | [], [], [], n, _ => by rw [List.take_nil, List.take_nil, List.take_nil]; trivial
  | [], [], c :: cs, _, h => h.elim
  | [], b :: bs, [], _, h => h.elim
  | [], b :: bs, c :: cs, _, h => h.elim
  | a :: as, [], [], _, h => h.elim
  | a :: as, [], c :: cs, _, h => h.elim
  | a :: as, b :: bs, [], _, h => h.elim
theorem fa_drop {h : AH} : ∀ {ss : List SV} {ds : List PyData} {fs : List (List Nat)} (n : Nat), Fa3 (RV h b k) ss ds fs → Fa3 (RV h b k) (ss.drop n) (ds.drop n) (fs.drop n)
  | s :: ss, d :: ds, f :: fs, n + 1, ⟨r, q⟩ => fa_drop n q
  | s :: ss, d :: ds, f :: fs, 0, r => r
  | [], [], [], n, _ => by rw [List.drop_nil, List.drop_nil, List.drop_nil]; trivial
  | [], [], c :: cs, _, h => h.elim
  | [], b :: bs, [], _, h => h.elim
  | [], b :: bs, c :: cs, _, h => h.elim
  | a :: as, [], [], _, h => h.elim
  | a :: as, [], c :: cs, _, h => h.elim
  | a :: as, b :: bs, [], _, h => h.elim
theorem ev_slice (ha : EV D b k fr1 fa ga) (hl : OV D fl gl) (hh : OV D fh gh) (hk : k ≤ 1 := by decide) : EV D b 1 fr (Zx.fSlice fa fl fh) (fSlice ga gl gh) := by
  intro h sl vs fs R nd
  refine (ha h sl vs fs R nd).ee fun x s t f1 r1 n1 _ => ?_
  refine (hl (h ++ t) sl vs fs R.app nd).pe fun lo lo' t2 e => ?_
  subst e
  refine (hh (h ++ t ++ t2) sl vs fs (RSt.app (RSt.app R)) nd).pe fun hi hi' t3 e => ?_
  subst e
  split
  · rename_i ds
    obtain ⟨ss, gs, e1, q⟩ := lst_of (RV.app (t := t3) (RV.app (t := t2) r1)) hk
    rw [e1]
    dsimp only
    unfold cutX
    rw [q.len.1]
    exact (fresh_lst (fa_take _ (fa_drop _ q))).up (by simp only [List.length_append]; omega)
  · trivial
end
end Zx.V

namespace Zx.V
open PySem PySem.Spec L2
/-! ## dicts by value -/
def keyP : PyData → Option Key
  | .int i => some (.inl i)
  | .str x => some (.inr x)
  | _ => none
def toL : List (PyData × PyData) → Option (List (Key × PyData))
  | [] => some []
  | p :: r => match keyP p.1 with
    | some k => match toL r with
      | some q => some ((k, p.2) :: q)
      | none => none
    | none => none
def dK (l : List (Key × PyData)) : List (PyData × PyData) := l.map fun p => (kD p.1, p.2)
def valL : List (Key × PyData) → Key → Option PyData
  | [], _ => none
  | p :: r, k => if p.1 = k then some p.2 else valL r k
def setL : List (Key × PyData) → Key → PyData → List (Key × PyData)
  | [], _, _ => []
  | p :: r, k, s => (if p.1 = k then (p.1, s) else p) :: setL r k s
def putL (l : List (Key × PyData)) (k : Key) (x : PyData) : List (Key × PyData) := match valL l k with
  | some _ => setL l k x
  | none => l ++ [(k, x)]
theorem keyP_kD {k : Key} : keyP (kD k) = some k := by cases k <;> rfl
theorem toL_dK : ∀ (l : List (Key × PyData)), toL (dK l) = some l
  | [] => rfl
  | p :: r => by
    unfold dK
    rw [List.map_cons]
    unfold toL
    rw [keyP_kD]
    dsimp only
    rw [show toL (r.map fun p => (kD p.1, p.2)) = some r from toL_dK r]
theorem dK_toL : ∀ {ps : List (PyData × PyData)} {l : List (Key × PyData)}, toL ps = some l → ps = dK l
  | [], l, e => by cases e; rfl
  | p :: r, l, e => by
    unfold toL at e
    split at e
    · rename_i k hk
      split at e
      · rename_i q hq
        cases e
        have : p.1 = kD k := by
          unfold keyP at hk
          split at hk
          · rename_i z; cases hk; exact z
          · rename_i z; cases hk; exact z
          · cases hk
        show p :: r = (kD k, p.2) :: dK q
        rw [← dK_toL hq, ← this]
      · cases e
    · cases e
theorem keyOf_d {x : PyData} : keyOf (.d x) = keyP x := by cases x <;> rfl
def DV (h : AH) (b : Bool) (k : Nat) (kvs : List (Key × SV)) (l : List (Key × PyData)) (fs : List (List Nat)) : Prop := kvs.map Prod.fst = l.map Prod.fst ∧ Fa3 (RV h b k) (kvs.map Prod.snd) (l.map Prod.snd) fs
theorem zip_dK : ∀ {ks : List Key} {ds : List PyData}, ks.length = ds.length → zipD ks ds = dK (ks.zip ds)
  | [], [], _ => rfl
  | k :: ks, d :: ds, h => by
    show (kD k, d) :: zipD ks ds = (kD k, d) :: dK (ks.zip ds)
    rw [zip_dK (Nat.succ.inj h)]
  | [], d :: ds, h => by cases h
  | k :: ks, [], h => by cases h
theorem toKS_dK {f : PyData → SV} : ∀ (l : List (Key × PyData)), toKS f (dK l) = some (l.map fun p => (p.1, f p.2))
  | [] => rfl
  | (.inl i, d) :: r => by
    show toKS f ((.int i, d) :: dK r) = _
    unfold toKS
    rw [toKS_dK r]
    rfl
  | (.inr i, d) :: r => by
    show toKS f ((.str i, d) :: dK r) = _
    unfold toKS
    rw [toKS_dK r]
    rfl
section
variable {D : List KD} {b b1 b2 b3 fr fr1 fr2 fr3 : Bool} {k k1 k2 k3 i : Nat} {fa fb fc : FE} {ga gb gc : VE} {ta tb : FT} {ua ub : VT} {ra : FA} {qa : VA} {KL : List KD}
theorem dct_of {h : AH} {s : SV} {l : List (Key × PyData)} {f : List Nat} (r : RV h b k s (.dict (dK l)) f) : ∃ kvs fs k', dctR h s = some kvs ∧ DV h b k' kvs l fs ∧ k' = k - 1 := by
  have hd : (l.map fun p => (p.1, SV.d p.2)).map Prod.fst = l.map Prod.fst := by rw [List.map_map]; rfl
  have hv : (l.map fun p => (p.1, mkv p.2)).map Prod.fst = l.map Prod.fst := by rw [List.map_map]; rfl
  match k, r with
  | 0, r =>
    rcases r.2 with rfl | ⟨rfl, rfl⟩
    · refine ⟨_, (l.map Prod.snd).map fun _ => [], 0, toKS_dK l, ⟨hd, ?_⟩, rfl⟩
      have := fa_leaf (b := b) (h := h) (l.map Prod.snd)
      rw [List.map_map] at this ⊢
      exact this
    · refine ⟨_, (l.map Prod.snd).map fun _ => [], 0, toKS_dK l, ⟨hv, ?_⟩, rfl⟩
      have := fa_view (h := h) (l.map Prod.snd)
      rw [List.map_map] at this ⊢
      exact this
  | k + 1, r =>
    unfold RV at r
    rcases r with q | ⟨n', xs, ds', fs, rfl, hn, e, rfl, q⟩ | ⟨n', kvs, ds', fs, rfl, hn, e, rfl, q⟩ | ⟨n', xs, ds', fs, rfl, hn, e, rfl, q⟩
    · cases q.2.2
    · cases e
    rotate_left
    · cases e
    · have e := PyData.dict.inj e
      have hl := q.len.1
      rw [zip_dK (by rw [List.length_map] at hl ⊢; exact hl)] at e
      have e2 : l = (kvs.map Prod.fst).zip ds' := by
        have := congrArg toL e
        rw [toL_dK, toL_dK] at this
        exact Option.some.inj this
      refine ⟨kvs, fs, k, by show dctOf h (.r n') = _; unfold dctOf; dsimp only; rw [hn], ⟨?_, ?_⟩, rfl⟩
      · rw [e2, List.map_fst_zip (by rw [List.length_map] at hl ⊢; omega)]
      · rw [e2, List.map_snd_zip (by rw [List.length_map] at hl ⊢; omega)]
        exact q
theorem DV.val {h : AH} : ∀ {kvs : List (Key × SV)} {l : List (Key × PyData)} {fs : List (List Nat)} (key : Key), DV h b k kvs l fs → (valS kvs key = none ∧ valL l key = none) ∨ ∃ (s : SV) (x : PyData) (f : List Nat) (j : Nat), valS kvs key = some s ∧ valL l key = some x ∧ fs[j]? = some f ∧ RV h b k s x f
  | [], [], fs, key, d => .inl ⟨rfl, rfl⟩
  | p :: kvs, [], fs, key, d => by cases d.1
  | [], p :: l, fs, key, d => by cases d.1
  | p :: kvs, q :: l, [], key, d => d.2.elim
  | p :: kvs, q :: l, f :: fs, key, ⟨d1, d2, d3⟩ => by
    have e1 : p.1 = q.1 := (List.cons.inj d1).1
    have e2 : kvs.map Prod.fst = l.map Prod.fst := (List.cons.inj d1).2
    unfold valS valL
    rw [e1]
    by_cases h : q.1 = key
    · rw [if_pos h, if_pos h]
      exact .inr ⟨p.2, q.2, f, 0, rfl, rfl, rfl, d2⟩
    · rw [if_neg h, if_neg h]
      rcases DV.val key ⟨e2, d3⟩ with z | ⟨s, x, f', j, h1, h2, h3, h4⟩
      · exact .inl z
      · exact .inr ⟨s, x, f', j + 1, h1, h2, h3, h4⟩
/-! {} , in, not in, d[k], len -/
def fDct (b : Bool) (k : Nat) : VE := fun vs => .ok (.dict []) vs
def dIn (neg : Bool) : PyData → PyData → List VS → VR PyData := fun y x vs => match keyP y, x with
  | some key, .dict ps => match toL ps with
    | some l => .ok (.bool (neg ^^ (valL l key).isSome)) vs
    | none => .st
  | _, _ => .st
def dGet : PyData → PyData → List VS → VR PyData := fun x y vs => match keyP y, x with
  | some key, .dict ps => match toL ps with
    | some l => match valL l key with
      | some u => .ok u vs
      | none => .st
    | none => .st
  | _, _ => .st
def dGetO := dGet
def fDIn (neg : Bool) (ga gb : VE) : VE := fBin (dIn neg) ga gb
def fDGet (ga gb : VE) : VE := fBin dGet ga gb
def fDGetO (ga gb : VE) : VE := fBin dGetO ga gb
def gLenD : List PyData → List VS → VR PyData := fun ds vs => match ds with
  | [.dict ps] => match toL ps with
    | some l => .ok (.int l.length) vs
    | none => .st
  | _ => .st
theorem ev_dct : EV D b (k + 1) fr Zx.fDct (fDct b (k + 1)) := by
  intro h sl vs fs R nd
  refine ⟨rfl, _, _, [h.length], rfl, ?_, by simp, fun _ n m => by rw [List.mem_singleton.mp m]; exact Nat.le_refl _⟩
  unfold RV
  refine .inr (.inr (.inl ⟨_, [], [], [], rfl, ?_, rfl, rfl, trivial⟩))
  rw [List.getElem?_append_right (Nat.le_refl _), Nat.sub_self]; rfl
theorem key_rv {h : AH} {s : SV} {x : PyData} {f : List Nat} {key : Key} (r : RV h b k s x f) (e : keyP x = some key) : keyOf s = some key := by
  have c : imm x = true := by
    cases x <;> first | rfl | cases e
  obtain ⟨rfl, _⟩ := r.imm c
  rw [keyOf_d]; exact e
theorem ov_din {neg : Bool} : OpV b1 k1 b2 k2 b k fr (fun y x h => Zx.dIn neg y x h) (dIn neg) := by
  intro h vs s t y x f1 f2 r1 n1 r2
  unfold dIn
  split
  · rename_i key ps hk
    split
    · rename_i l hl
      rw [dK_toL hl] at r2
      obtain ⟨kvs, fs, k', e1, d, _⟩ := dct_of r2
      show OutE _ _ _ _ _ _ _ (Zx.dIn neg s t h)
      unfold Zx.dIn
      rw [key_rv r1 hk, e1]
      dsimp only
      rcases DV.val key d with ⟨z1, z2⟩ | ⟨s', x', f, j, z1, z2, _, _⟩ <;> rw [z1, z2] <;> exact OutE.dd (x := .bool _) rfl
    · trivial
  · trivial
theorem ev_din {neg : Bool} (ha : EV D b1 k1 fr1 fa ga) (hb : EV D b2 k2 fr2 fb gb) : EV D b k fr (Zx.fDIn neg fa fb) (fDIn neg ga gb) := ev_bin ov_din ha hb
theorem ov_dget (hk : k1 ≤ 1 := by decide) : OpV b1 k1 b2 k2 b1 0 fr (fun x y h => Zx.dGet x y h) dGet := by
  intro h vs s t x y f1 f2 r1 n1 r2
  unfold dGet
  split
  · rename_i key ps hk'
    split
    · rename_i l hl
      rw [dK_toL hl] at r1
      obtain ⟨kvs, fs, k', e1, d, hk2⟩ := dct_of r1
      split
      · rename_i u hu
        rcases DV.val key d with ⟨z1, z2⟩ | ⟨s', x', f, j, z1, z2, _, r3⟩
        · rw [z2] at hu; cases hu
        · rw [z2] at hu
          cases hu
          have e0 : k' = 0 := by omega
          subst e0
          show OutE _ _ _ _ _ _ _ (Zx.dGet s t h)
          unfold Zx.dGet
          rw [key_rv r2 hk', e1]
          dsimp only
          rw [z1]
          exact ⟨rfl, s', [], [], by rw [List.append_nil], by rw [List.append_nil]; exact ⟨rfl, r3.2⟩, List.nodup_nil, fun _ _ m => by cases m⟩
      · trivial
    · trivial
  · trivial
theorem ev_dget (ha : EV D b1 k1 fr1 fa ga) (hb : EV D b2 k2 fr2 fb gb) (hk : k1 ≤ 1 := by decide) : EV D b1 0 fr (Zx.fDGet fa fb) (fDGet ga gb) := ev_bin (ov_dget hk) ha hb
theorem cv_lenD {p : KD} : CbV [p] b k fr Zx.gLenD gLenD := by
  intro h vs ss ds r
  obtain ⟨s, x, f, rfl, rfl, r1⟩ := ra_one r
  unfold gLenD
  split
  · rename_i ps e
    cases e
    split
    · rename_i l hl
      rw [dK_toL hl] at r1
      obtain ⟨kvs, fs, k', e1, d, _⟩ := dct_of r1
      unfold Zx.gLenD
      dsimp only
      rw [e1]
      have := congrArg List.length d.1
      rw [List.length_map, List.length_map] at this
      dsimp only
      rw [this]
      exact OutE.dd (x := .int _) rfl
    · trivial
  · trivial
end
/-! ## sources -/
inductive VI where
  | one (x : PyData) | two (x y : PyData)
def RI (b : Bool) : It1 → VI → Prop
  | .one s, .one x => leaf b s x
  | .two s t, .two x y => leaf b s x ∧ leaf b t y
  | _, _ => False
def FI (b : Bool) : List It1 → List VI → Prop
  | [], [] => True
  | i :: is, j :: js => RI b i j ∧ FI b is js
  | _, _ => False
abbrev VSr := List VS → VR (List VI)
def IV (D : List KD) (b : Bool) (f : List SV → AH → R Src) (g : VSr) : Prop := ∀ (h : AH) (sl : List SV) (vs : List VS) (fs : List (List Nat)), RSt h D sl vs fs → fs.flatten.Nodup → OutP (fun _ l s => ∃ its, s = .cn its ∧ FI b its l) h vs (g vs) (f sl h)
def iSeq (ga : VE) : VSr := fun vs => (ga vs).bind fun x vs => match x with
  | .list ds => .ok (ds.map .one) vs
  | _ => .st
def iTupl (ga : VE) : VSr := fun vs => (ga vs).bind fun x vs => match x with
  | .tuple ds => .ok (ds.map .one) vs
  | _ => .st
def rngV (lo : Int) (n : Nat) : List VI := (List.range n).map fun i => .one (.int (lo + (i : Nat)))
def iRng (ga : VA) : VSr := fun vs => (ga vs).bind fun ds vs => match ds with
  | [.int j] => if inB j = true then .ok (rngV 0 j.toNat) vs else .st
  | _ => .st
def iRng2 (ga : VA) : VSr := fun vs => (ga vs).bind fun ds vs => match ds with
  | [.int i, .int j] => if (inB i && inB j) = true then .ok (rngV i (j - i).toNat) vs else .st
  | _ => .st
def enumV : Nat → List PyData → List VI
  | _, [] => []
  | k, x :: xs => .two (.int (k : Nat)) x :: enumV (k + 1) xs
def zipV : List PyData → List PyData → List VI
  | x :: xs, y :: ys => .two x y :: zipV xs ys
  | _, _ => []
def iEnu (ga : VA) : VSr := fun vs => (ga vs).bind fun ds vs => match ds with
  | [.list xs] => .ok (enumV 0 xs) vs
  | _ => .st
def iZip (ga : VA) : VSr := fun vs => (ga vs).bind fun ds vs => match ds with
  | [.list xs, .list ys] => .ok (zipV xs ys) vs
  | _ => .st
section
variable {D : List KD} {b b1 b2 b3 fr fr1 fr2 fr3 : Bool} {k k1 k2 k3 i : Nat} {fa fb fc : FE} {ga gb gc : VE} {ta tb : FT} {ua ub : VT} {ra : FA} {qa : VA} {KL : List KD}
theorem fi_d : ∀ (ds : List PyData), FI b (ds.map fun x => .one (.d x)) (ds.map .one)
  | [] => trivial
  | d :: ds => ⟨.inl rfl, fi_d ds⟩
theorem fi_v : ∀ (ds : List PyData), FI true (ds.map fun x => .one (mkv x)) (ds.map .one)
  | [] => trivial
  | d :: ds => ⟨.inr ⟨rfl, rfl⟩, fi_v ds⟩
theorem iv_seq (ha : EV D b 0 fr fa ga) : IV D b (Zx.iSeq fa) (iSeq ga) := by
  intro h sl vs fs R nd
  refine (ha h sl vs fs R nd).ep fun x s t f1 r1 n1 _ => ?_
  split
  · rename_i ds
    rcases r1.2 with rfl | ⟨rfl, rfl⟩
    · exact ⟨rfl, _, [], by rw [List.append_nil], _, rfl, fi_d ds⟩
    · exact ⟨rfl, _, [], by rw [List.append_nil]; rfl, _, rfl, fi_v ds⟩
  · trivial
theorem iv_tup (ha : EV D b k fr fa ga) (hk : k = 0 := by rfl) : IV D b (Zx.iTupl fa) (iTupl ga) := by
  intro h sl vs fs R nd
  refine (ha h sl vs fs R nd).ep fun x s t f1 r1 n1 _ => ?_
  split
  · rename_i ds
    have l : leaf b s (.tuple ds) := by
      cases k with
      | zero => exact r1.2
      | succ k => cases hk
    rcases l with rfl | ⟨rfl, rfl⟩
    · exact ⟨rfl, _, [], by rw [List.append_nil], _, rfl, fi_d ds⟩
    · by_cases c : imm (.tuple ds) = true
      · rw [show mkv (.tuple ds) = .d (.tuple ds) from by unfold mkv; rw [if_pos c]]
        exact ⟨rfl, _, [], by rw [List.append_nil], _, rfl, fi_d ds⟩
      · rw [show mkv (.tuple ds) = .vw (.tuple ds) from by unfold mkv; rw [if_neg c]]
        exact ⟨rfl, _, [], by rw [List.append_nil], _, rfl, fi_v ds⟩
  · trivial
theorem fi_rng {lo : Int} : ∀ l : List Nat, FI b (l.map fun i => .one (.d (.int (lo + (i : Nat))))) (l.map fun i => .one (.int (lo + (i : Nat))))
  | [] => trivial
  | d :: ds => ⟨.inl rfl, fi_rng ds⟩
theorem iv_rng {p : KD} (ha : AV D [p] ra qa) : IV D b (Zx.iRng ra) (iRng qa) := by
  intro h sl vs fs R nd
  refine (ha h sl vs fs R nd).pp fun xs ss t r => ?_
  obtain ⟨s, x, f, rfl, rfl, r1⟩ := ra_one r
  split
  · rename_i j e
    cases e
    obtain ⟨rfl, -⟩ := r1.imm rfl
    dsimp only
    split
    · exact ⟨rfl, _, [], by rw [List.append_nil]; rfl, _, rfl, fi_rng _⟩
    · trivial
  · trivial
theorem iv_rng2 {p q : KD} (ha : AV D [p, q] ra qa) : IV D b (Zx.iRng2 ra) (iRng2 qa) := by
  intro h sl vs fs R nd
  refine (ha h sl vs fs R nd).pp fun xs ss t r => ?_
  obtain ⟨s, x, f, t', y, g, rfl, rfl, r1, r2⟩ := ra_two r
  split
  · rename_i i j e
    cases e
    obtain ⟨rfl, -⟩ := r1.imm rfl
    obtain ⟨rfl, -⟩ := r2.imm rfl
    dsimp only
    split
    · exact ⟨rfl, _, [], by rw [List.append_nil]; rfl, _, rfl, fi_rng _⟩
    · trivial
  · trivial
theorem still_of {h : AH} {s : SV} {ds : List PyData} {f : List Nat} (r : RV h b 0 s (.list ds) f) : ∃ ss, stillL s = some ss ∧ ∃ fs, Fa3 (RV h b 0) ss ds fs := by
  rcases r.2 with rfl | ⟨rfl, rfl⟩
  · exact ⟨_, rfl, _, fa_leaf ds⟩
  · exact ⟨_, rfl, _, fa_view ds⟩
theorem fi_enum {h : AH} : ∀ {ss : List SV} {ds : List PyData} {fs : List (List Nat)} (n : Nat), Fa3 (RV h b 0) ss ds fs → FI b (enumI n ss) (enumV n ds)
  | [], [], [], _, _ => trivial
  | s :: ss, d :: ds, f :: fs, n, ⟨r, q⟩ => ⟨⟨.inl rfl, r.2⟩, fi_enum (n + 1) q⟩
  | [], [], c :: cs, _, h => h.elim
  | [], b :: bs, [], _, h => h.elim
  | [], b :: bs, c :: cs, _, h => h.elim
  | a :: as, [], [], _, h => h.elim
  | a :: as, [], c :: cs, _, h => h.elim
  | a :: as, b :: bs, [], _, h => h.elim
theorem iv_enu (ha : AV D [(b, 0)] ra qa) : IV D b (Zx.iEnu ra) (iEnu qa) := by
  intro h sl vs fs R nd
  refine (ha h sl vs fs R nd).pp fun xs ss t r => ?_
  obtain ⟨s, x, f, rfl, rfl, r1⟩ := ra_one r
  split
  · rename_i ds e
    cases e
    obtain ⟨ss, e1, fs, q⟩ := still_of r1
    dsimp only
    rw [e1]
    exact ⟨rfl, _, [], by rw [List.append_nil], _, rfl, fi_enum 0 q⟩
  · trivial
theorem leaf_bm {s : SV} {x : PyData} (hb : (!b1 || b) = true) (l : leaf b1 s x) : leaf b s x := l.imp_right fun z => ⟨by rw [z.1] at hb; simpa using hb, z.2⟩
theorem fi_zip {h : AH} (hb1 : (!b1 || b) = true) (hb2 : (!b2 || b) = true) : ∀ {ss : List SV} {ds : List PyData} {fs : List (List Nat)} {ts : List SV} {es : List PyData} {gs : List (List Nat)}, Fa3 (RV h b1 0) ss ds fs → Fa3 (RV h b2 0) ts es gs → FI b (zipI ss ts) (zipV ds es)
  | ss, ds, fs, ts, es, gs, p, q => by
    induction ss generalizing ds fs ts es gs with
    | nil =>
      cases ds with
      | nil => exact trivial
      | cons d ds => cases fs <;> exact p.elim
    | cons s ss ih =>
      cases ds with
      | nil => cases fs <;> exact p.elim
      | cons d ds =>
        cases fs with
        | nil => exact p.elim
        | cons f fs =>
          cases ts with
          | nil =>
            cases es with
            | nil => exact trivial
            | cons e es => cases gs <;> exact q.elim
          | cons t ts =>
            cases es with
            | nil => cases gs <;> exact q.elim
            | cons e es =>
              cases gs with
              | nil => exact q.elim
              | cons g gs => exact ⟨⟨leaf_bm hb1 p.1.2, leaf_bm hb2 q.1.2⟩, ih _ _ _ _ _ p.2 q.2⟩
theorem iv_zip (ha : AV D [(b1, 0), (b2, 0)] ra qa) (hb1 : (!b1 || b) = true := by decide) (hb2 : (!b2 || b) = true := by decide) : IV D b (Zx.iZip ra) (iZip qa) := by
  intro h sl vs fs R nd
  refine (ha h sl vs fs R nd).pp fun xs ss t r => ?_
  obtain ⟨s, x, f, t', y, g, rfl, rfl, r1, r2⟩ := ra_two r
  split
  · rename_i ds es e
    cases e
    obtain ⟨ss, e1, fs, q⟩ := still_of r1
    obtain ⟨ts, e2, gs, q2⟩ := still_of r2
    dsimp only
    rw [e1, e2]
    exact ⟨rfl, _, [], by rw [List.append_nil], _, rfl, fi_zip hb1 hb2 q q2⟩
  · trivial
end
/-! ## targets -/
def setAllV : List Nat → List PyData → List VS → Option (List VS)
  | [], [], vs => some vs
  | i :: is, x :: xs, vs => setAllV is xs (vs.set i (.v x))
  | _, _, _ => none
def goV : Bd → VI → List VS → Option (List VS)
  | .nm i, .one x, vs => some (vs.set i (.v x))
  | .tp is, .one (.tuple ds), vs => setAllV is ds vs
  | .tp is, .two x y, vs => setAllV is [x, y] vs
  | _, _, _ => none
def kdOk (D : List KD) (b : Bool) (i : Nat) : Bool := match D[i]? with
  | some (b', 0) => !b || b'
  | _ => false
def bdOk (D : List KD) (b : Bool) (bd : Bd) : Bool := bd.is.all (kdOk D b)
section
variable {D : List KD} {b : Bool}
theorem kd_set {h : AH} {sl : List SV} {vs : List VS} {fs : List (List Nat)} {i : Nat} {s : SV} {x : PyData} (c : kdOk D b i = true) (R : RSt h D sl vs fs) (nd : fs.flatten.Nodup) (l : leaf b s x) :
    ∃ fs', RSt h D (sl.set i s) (vs.set i (.v x)) fs' ∧ fs'.flatten.Nodup ∧ ∀ n ∈ fs'.flatten, n ∈ fs.flatten := by
  unfold kdOk at c
  split at c
  · rename_i b' e
    exact ⟨fs.set i [], R.set e ⟨rfl, leaf_bm c l⟩, nd_rest nd, fun n m => mem_rest m⟩
  · cases c
theorem setAll_ok {h : AH} : ∀ {is : List Nat} {xs : List SV} {ds : List PyData} {sl : List SV} {vs vs' : List VS} {fs : List (List Nat)}, is.all (kdOk D b) = true → RSt h D sl vs fs → fs.flatten.Nodup → (xs.length = ds.length ∧ ∀ (j : Nat) (s : SV) (x : PyData), xs[j]? = some s → ds[j]? = some x → leaf b s x) → setAllV is ds vs = some vs' →
    ∃ sl' fs', setAll is xs sl = some sl' ∧ RSt h D sl' vs' fs' ∧ fs'.flatten.Nodup ∧ ∀ n ∈ fs'.flatten, n ∈ fs.flatten
  | [], xs, [], sl, vs, vs', fs, c, R, nd, l, e => by
    cases e
    cases xs with
    | nil => exact ⟨sl, fs, rfl, R, nd, fun n m => m⟩
    | cons a xs => cases l.1
  | [], xs, d :: ds, sl, vs, vs', fs, c, R, nd, l, e => by cases e
  | i :: is, xs, [], sl, vs, vs', fs, c, R, nd, l, e => by cases e
  | i :: is, [], d :: ds, sl, vs, vs', fs, c, R, nd, l, e => by cases l.1
  | i :: is, a :: xs, d :: ds, sl, vs, vs', fs, c, R, nd, l, e => by
    rw [List.all_cons, Bool.and_eq_true] at c
    obtain ⟨fs1, R1, n1, m1⟩ := kd_set c.1 R nd (l.2 0 a d rfl rfl)
    obtain ⟨sl2, fs2, e2, R2, n2, m2⟩ := setAll_ok c.2 R1 n1 ⟨Nat.succ.inj l.1, fun j s x h1 h2 => l.2 (j + 1) s x h1 h2⟩ e
    exact ⟨sl2, fs2, e2, R2, n2, fun n m => m1 n (m2 n m)⟩
theorem go_ok {h : AH} {bd : Bd} {it : It1} {vi : VI} {sl : List SV} {vs vs' : List VS} {fs : List (List Nat)} (c : bdOk D b bd = true) (R : RSt h D sl vs fs) (nd : fs.flatten.Nodup) (r : RI b it vi) (e : goV bd vi vs = some vs') :
    ∃ sl' fs', bd.go it sl = some sl' ∧ RSt h D sl' vs' fs' ∧ fs'.flatten.Nodup ∧ ∀ n ∈ fs'.flatten, n ∈ fs.flatten := by
  unfold goV at e
  split at e
  · rename_i i x
    cases e
    cases it with
    | two s t => exact r.elim
    | one s =>
      unfold bdOk at c
      have c : [i].all (kdOk D b) = true := c
      rw [List.all_cons, List.all_nil, Bool.and_true] at c
      obtain ⟨fs', R', n', m'⟩ := kd_set c R nd r
      exact ⟨_, fs', rfl, R', n', m'⟩
  · rename_i is ds
    cases it with
    | two s t => exact r.elim
    | one s =>
      have r : leaf b s (.tuple ds) := r
      have gt : ∀ {α : Type} (l : List α) (f : α → SV) (j : Nat) (s : SV) (d : α), (l.map f)[j]? = some s → l[j]? = some d → s = f d := fun l f j s d h1 h2 => by
        rw [List.getElem?_map, h2] at h1; exact (Option.some.inj h1).symm
      have : ∃ xs, tupItems s = some xs ∧ xs.length = ds.length ∧ ∀ (j : Nat) (s : SV) (x : PyData), xs[j]? = some s → ds[j]? = some x → leaf b s x := by
        rcases r with rfl | ⟨rfl, rfl⟩
        · exact ⟨_, rfl, List.length_map .., fun j s x h1 h2 => .inl (gt _ _ _ _ _ h1 h2)⟩
        · unfold mkv
          split
          · exact ⟨_, rfl, List.length_map .., fun j s x h1 h2 => .inl (gt _ _ _ _ _ h1 h2)⟩
          · exact ⟨_, rfl, List.length_map .., fun j s x h1 h2 => .inr ⟨rfl, gt _ _ _ _ _ h1 h2⟩⟩
      obtain ⟨xs, e1, l⟩ := this
      obtain ⟨sl', fs', e2, rest⟩ := setAll_ok (D := D) c R nd l e
      exact ⟨sl', fs', by show (match tupItems s with | some xs => setAll is xs sl | none => none) = _; rw [e1]; exact e2, rest⟩
  · rename_i is x y
    cases it with
    | one s => exact r.elim
    | two s t =>
      have r : leaf b s x ∧ leaf b t y := r
      obtain ⟨sl', fs', e2, rest⟩ := setAll_ok (D := D) (xs := [s, t]) c R nd ⟨rfl, fun j s' x' h1 h2 => by
        match j with
        | 0 => cases h1; cases h2; exact r.1
        | 1 => cases h1; cases h2; exact r.2
        | j + 2 => cases h1⟩ e
      exact ⟨sl', fs', e2, rest⟩
  · cases e
end
end Zx.V

namespace Zx.V
open PySem PySem.Spec L2
/-! ## comprehensions by value -/
def wipeV (vs : List VS) : List Nat → List VS
  | [] => vs
  | v :: r => (wipeV vs r).set v .un
def lcV (bd : Bd) (gt : VT) (ge : VE) (vw : List VS) : List VI → Option (List PyData)
  | [] => some []
  | it :: its => match goV bd it vw with
    | none => none
    | some vs1 => match gt vs1 with
      | .ok true _ => match ge vs1 with
        | .ok x _ => match lcV bd gt ge vw its with
          | some r => some (x :: r)
          | none => none
        | _ => none
      | .ok false _ => lcV bd gt ge vw its
      | _ => none
def lcEnd (vs : List VS) (o : Option (List PyData)) : VR PyData := match o with
  | some out => if out.length ≤ 1000000 then .ok (.list out) vs else .st
  | none => .st
def fLc (b : Bool) (k : Nat) (gi : VSr) (bd : Bd) (gt : VT) (ge : VE) (vx : List Nat) : VE := fun vs => (gi vs).bind fun its vs => lcEnd vs (lcV bd gt ge (wipeV vs vx) its)
def fYes : VT := fun vs => .ok true vs
section
variable {D : List KD} {b b1 b2 b3 fr fr1 fr2 fr3 : Bool} {k k1 k2 k3 i : Nat} {fa fb fc : FE} {ga gb gc : VE} {ta tb : FT} {ua ub : VT} {ra : FA} {qa : VA} {KL : List KD}
theorem tv_yes' : TV D Zx.fYes fYes := tv_yes
theorem RSt.wipe {h : AH} {sl : List SV} {vs : List VS} {fs : List (List Nat)} (R : RSt h D sl vs fs) (nd : fs.flatten.Nodup) : ∀ (vx : List Nat), ∃ fs', RSt h D (wipeS sl vx) (wipeV vs vx) fs' ∧ fs'.flatten.Nodup ∧ ∀ n ∈ fs'.flatten, n ∈ fs.flatten
  | [] => ⟨fs, R, nd, fun _ m => m⟩
  | v :: r => by
    obtain ⟨fs', R', n', m'⟩ := RSt.wipe R nd r
    unfold wipeS wipeV
    refine ⟨fs'.set v [], ?_, nd_rest n', fun n m => m' n (mem_rest m)⟩
    cases e : D[v]? with
    | none =>
      have hl := R'.len
      have hv : D.length ≤ v := List.getElem?_eq_none_iff.mp e
      rw [List.set_eq_of_length_le (by omega), List.set_eq_of_length_le (by omega), List.set_eq_of_length_le (by omega)]
      exact R'
    | some kd => exact R'.set e (show RS1 h kd .un .un [] from rfl)
theorem norm_cs {M : Nat} {slw : List SV} {h : AH} : (norm [] M slw h).2 = h ∨ ((norm [] M slw h).2 = h.take M ∧ (h.take M).all (belowO M) = true) := by
  unfold Zx.norm
  split
  · rename_i c
    unfold trimOk at c
    rw [Bool.and_eq_true] at c
    exact .inr ⟨rfl, c.1⟩
  · exact .inl rfl
theorem fa_cut {h : AH} {M : Nat} (hL : (h.take M).all (belowO M) = true) : ∀ {ss : List SV} {ds : List PyData} {fs : List (List Nat)}, ss.all (Zx.below M) = true → Fa3 (RV h b k) ss ds fs → Fa3 (RV (h.take M) b k) ss ds fs
  | [], [], [], _, _ => trivial
  | s :: ss, d :: ds, f :: fs, c, ⟨r, q⟩ => by
    rw [List.all_cons, Bool.and_eq_true] at c
    exact ⟨r.cut (RV.below hL r c.1), fa_cut hL c.2 q⟩
  | [], [], c :: cs, _, h => h.elim
  | [], b :: bs, [], _, h => h.elim
  | [], b :: bs, c :: cs, _, h => h.elim
  | a :: as, [], [], _, h => h.elim
  | a :: as, [], c :: cs, _, h => h.elim
  | a :: as, b :: bs, [], _, h => h.elim
theorem lc_turn {h0 : AH} {slw : List SV} {acc : List SV} {accv : List PyData} {fps : List (List Nat)} {t : AH} (q : Fa3 (RV (h0 ++ [some (.lst acc)] ++ t) b k) acc accv fps) :
    ∃ t', (norm [] (h0.length + 1) slw (h0 ++ [some (.lst acc)] ++ t)).2 = h0 ++ [some (.lst acc)] ++ t' ∧ Fa3 (RV (h0 ++ [some (.lst acc)] ++ t') b k) acc accv fps := by
  rcases norm_cs (M := h0.length + 1) (slw := slw) (h := h0 ++ [some (.lst acc)] ++ t) with e | ⟨e, c⟩
  · exact ⟨t, e, q⟩
  · have ht : (h0 ++ [some (AO.lst acc)] ++ t).take (h0.length + 1) = h0 ++ [some (.lst acc)] ++ [] := by
      rw [List.append_nil, List.take_left' (by rw [List.length_append]; rfl)]
    refine ⟨[], by rw [e, ht], ?_⟩
    rw [← ht]
    refine fa_cut c ?_ q
    rw [ht, List.append_nil, List.all_append, Bool.and_eq_true] at c
    have c2 := c.2
    rw [List.all_cons, Bool.and_eq_true] at c2
    exact c2.1
theorem lcC_ok {bd : Bd} {slw : List SV} {vw : List VS} {fsw : List (List Nat)} {h0 : AH} (hbd : bdOk D b1 bd = true) (ht : TV D ta ua) (he : EV D b2 k true fa ga) (hb : (!b2 || b) = true) (R : RSt h0 D slw vw fsw) (nd : fsw.flatten.Nodup) :
    ∀ {its : List It1} {vis : List VI} {acc : List SV} {accv out : List PyData} {fps : List (List Nat)} {t : AH}, FI b1 its vis → Fa3 (RV (h0 ++ [some (.lst acc)] ++ t) b k) acc accv fps → fps.flatten.Nodup → (∀ n ∈ fps.flatten, h0.length + 1 ≤ n) → lcV bd ua ga vw vis = some out → accv.length + out.length ≤ 1000000 →
      ∃ acc' fps' t', lcC h0.length bd ta fa slw its (h0 ++ [some (.lst acc)] ++ t) = .ok () (h0 ++ [some (.lst acc')] ++ t') ∧ Fa3 (RV (h0 ++ [some (.lst acc')] ++ t') b k) acc' (accv ++ out) fps' ∧ fps'.flatten.Nodup ∧ ∀ n ∈ fps'.flatten, h0.length + 1 ≤ n
  | [], [], acc, accv, out, fps, t, fi, q, n, z, e, hl => by
    cases e
    exact ⟨acc, fps, t, rfl, by rw [List.append_nil]; exact q, n, z⟩
  | [], j :: js, acc, accv, out, fps, t, fi, q, n, z, e, hl => fi.elim
  | i :: is, [], acc, accv, out, fps, t, fi, q, n, z, e, hl => fi.elim
  | i :: is, j :: js, acc, accv, out, fps, t, ⟨f1, f2⟩, q, n, z, e, hl => by
    unfold lcV at e
    split at e
    · cases e
    · rename_i vs1 hg
      obtain ⟨sl1, fs1, e1, R1, nd1, m1⟩ := go_ok hbd R nd f1 hg
      have o1 := ht (h0 ++ [some (.lst acc)] ++ t) sl1 vs1 fs1 (RSt.app (RSt.app R1)) nd1
      unfold lcC
      unfold lcOne
      rw [e1]
      dsimp only
      split at e
      · rename_i vs2 ht1
        rw [ht1] at o1
        obtain ⟨rfl, a, t1, ea, e3⟩ := o1
        subst e3
        rw [ea]
        split at e
        · rename_i x vs3 hx
          have o2 := he (h0 ++ [some (.lst acc)] ++ t ++ t1) sl1 vs2 fs1 (RSt.app (RSt.app (RSt.app R1))) nd1
          rw [hx] at o2
          obtain ⟨rfl, s, t2, fp, es, r2, n2, z2⟩ := o2
          split at e
          · rename_i r hr
            cases e
            show ∃ acc' fps' t', ((nrz (fa sl1 (h0 ++ [some (.lst acc)] ++ t ++ t1))).bind fun s h2 => lcPut h0.length slw s h2 (lcC h0.length bd ta fa slw is)) = _ ∧ _
            rw [es]
            have hL : (h0 ++ [some (AO.lst acc)] ++ t ++ t1 ++ t2)[h0.length]? = some (some (.lst acc)) := by
              rw [List.append_assoc, List.append_assoc, List.append_assoc, List.getElem?_append_right (Nat.le_refl _), Nat.sub_self]; rfl
            have la := q.len.1
            rw [List.length_cons] at hl
            show ∃ acc' fps' t', lcPut h0.length slw s (h0 ++ [some (.lst acc)] ++ t ++ t1 ++ t2) (lcC h0.length bd ta fa slw is) = _ ∧ _
            unfold lcPut
            rw [hL]
            dsimp only
            rw [if_pos (by omega)]
            have hs : (h0 ++ [some (AO.lst acc)] ++ t ++ t1 ++ t2).set h0.length (some (.lst (acc ++ [s]))) = h0 ++ [some (.lst (acc ++ [s]))] ++ (t ++ t1 ++ t2) := by
              rw [List.append_assoc, List.append_assoc, List.append_assoc, List.set_append_right _ _ (Nat.le_refl _), Nat.sub_self]
              simp
            rw [hs]
            have fz1 : ∀ m, h0.length + 1 ≤ m → (h0 ++ [some (AO.lst (acc ++ [s]))] ++ (t ++ t1 ++ t2))[m]? = (h0 ++ [some (AO.lst acc)] ++ t ++ t1 ++ t2)[m]? := fun m hm => by
              rw [← hs, List.getElem?_set_ne (by omega)]
            have q2 : Fa3 (RV (h0 ++ [some (.lst (acc ++ [s]))] ++ (t ++ t1 ++ t2)) b k) (acc ++ [s]) (accv ++ [x]) (fps ++ [fp]) := by
              have qa : Fa3 (RV (h0 ++ [some (.lst (acc ++ [s]))] ++ (t ++ t1 ++ t2)) b k) acc accv fps := Fa3.imp (cs0 := fps) (fun a0 b0 c hc p => by
                have p2 : RV (h0 ++ [some (AO.lst acc)] ++ t ++ t1 ++ t2) b k a0 b0 c := RV.app (RV.app p)
                exact p2.frame fun m hm => fz1 m (z m (List.mem_flatten.mpr ⟨c, hc, hm⟩))) (fun _ m => m) q
              have qb : Fa3 (RV (h0 ++ [some (.lst (acc ++ [s]))] ++ (t ++ t1 ++ t2)) b k) [s] [x] [fp] := by
                refine ⟨RV.bm hb (r2.frame fun m hm => fz1 m ?_), trivial⟩
                have := z2 rfl m hm
                simp only [List.length_append, List.length_cons, List.length_nil] at this
                omega
              exact Fa3.app qb qa
            have n3 : (fps ++ [fp]).flatten.Nodup := by
              rw [List.flatten_append, List.nodup_append]
              refine ⟨n, by simpa using n2, fun a ha b' hb' e => ?_⟩
              have hb'' : b' ∈ fp := by simpa using hb'
              obtain ⟨c, hc, hm⟩ := List.mem_flatten.mp ha
              obtain ⟨_, _, _, _, p⟩ := Fa3.mem q hc
              have h1 := p.lt a hm
              have h2 := z2 rfl b' hb''
              rw [List.length_append] at h2
              omega
            have z3 : ∀ m ∈ (fps ++ [fp]).flatten, h0.length + 1 ≤ m := fun m hm => by
              rw [List.flatten_append, List.mem_append] at hm
              rcases hm with hm | hm
              · exact z m hm
              · have := z2 rfl m (by simpa using hm)
                simp only [List.length_append, List.length_cons, List.length_nil] at this
                omega
            obtain ⟨t', et, q3⟩ := lc_turn (slw := slw) q2
            rw [et]
            obtain ⟨acc', fps', t'', h1, h2, h3, h4⟩ := lcC_ok hbd ht he hb R nd f2 q3 n3 z3 hr (by rw [List.length_append, List.length_singleton]; omega)
            refine ⟨acc', fps', t'', h1, ?_, h3, h4⟩
            rw [List.append_assoc accv] at h2
            exact h2
          · cases e
        · cases e
      · rename_i vs2 ht1
        rw [ht1] at o1
        obtain ⟨rfl, a, t1, ea, e3⟩ := o1
        subst e3
        rw [ea]
        have q2 : Fa3 (RV (h0 ++ [some (.lst acc)] ++ (t ++ t1)) b k) acc accv fps := by
          rw [← List.append_assoc]
          exact Fa3.imp (cs0 := fps) (fun _ _ _ _ p => RV.app p) (fun _ m => m) q
        obtain ⟨t', et, q3⟩ := lc_turn (slw := slw) q2
        show ∃ acc' fps' t', lcC h0.length bd ta fa slw is (norm [] (h0.length + 1) slw (h0 ++ [some (.lst acc)] ++ t ++ t1)).2 = _ ∧ _
        rw [List.append_assoc (h0 ++ [some (AO.lst acc)]), et]
        exact lcC_ok hbd ht he hb R nd f2 q3 n z e hl
      · cases e
theorem ev_lc {fi : List SV → AH → R Src} {gi : VSr} {bd : Bd} {vx : List Nat} (hi : IV D b1 fi gi) (ht : TV D ta ua) (he : EV D b2 k true fa ga) (hbd : bdOk D b1 bd = true := by decide) (hb : (!b2 || b) = true := by decide) : EV D b (k + 1) fr (Zx.fLc fi bd ta fa vx) (fLc b (k + 1) gi bd ua ga vx) := by
  intro h sl vs fs R nd
  refine (hi h sl vs fs R nd).pe fun vis s t r => ?_
  obtain ⟨its, rfl, fi⟩ := r
  obtain ⟨fsw, Rw, nw, _⟩ := RSt.wipe (R.app (t := t)) nd vx
  cases e : lcV bd ua ga (wipeV vs vx) vis with
  | none => trivial
  | some out =>
    show OutE _ _ _ _ _ _ (if out.length ≤ 1000000 then .ok (.list out) vs else .st) _
    split
    · rename_i hl
      obtain ⟨acc', fps', t', h1, h2, h3, h4⟩ := lcC_ok (h0 := h ++ t) (acc := []) (accv := []) (fps := []) (t := []) hbd ht he hb Rw nw fi trivial List.nodup_nil (fun _ m => by cases m) e (by simpa using hl)
      rw [List.append_nil] at h1
      show OutE _ _ _ _ _ _ _ ((lcC (h ++ t).length bd ta fa (wipeS sl vx) its (h ++ t ++ [some (.lst [])])).bind fun _ h2 => .ok (.r (h ++ t).length) h2)
      rw [h1]
      refine ⟨rfl, .r (h ++ t).length, [some (.lst acc')] ++ t', (h ++ t).length :: fps'.flatten, by rw [← List.append_assoc]; rfl, ?_, ?_, fun _ n m => ?_⟩
      · rw [← List.append_assoc]
        unfold RV
        refine .inr (.inl ⟨_, acc', out, fps', rfl, ?_, rfl, rfl, h2⟩)
        rw [List.append_assoc (h ++ t), List.getElem?_append_right (Nat.le_refl _), Nat.sub_self]; rfl
      · rw [List.nodup_cons]
        exact ⟨fun m => absurd (h4 _ m) (by omega), h3⟩
      · rcases List.mem_cons.mp m with rfl | m
        · rw [List.length_append]; omega
        · have := h4 n m
          rw [List.length_append] at this
          omega
    · trivial
end
/-! ## calls by value -/
inductive VC where
  | ok (x : PyData) | rz (c : Str) | st
def CalV (φ : List PyData → R SV) (k : Nat) (u : List PyData → VC) : Prop := ∀ ds, match u ds with
  | .ok x => ∃ s hn fp, φ ds = .ok s hn ∧ RV hn false k s x fp ∧ fp.Nodup
  | .rz c => ∃ hn, φ ds = .rz c hn
  | .st => True
def VC.back (r : VC) (vs : List VS) : VR PyData := match r with
  | .ok x => .ok x vs
  | .rz c => .rz c
  | .st => .st
def fCall (u : List PyData → VC) (qa : VA) : VE := fun vs => (qa vs).bind fun ds vs => (u ds).back vs
def fSc (i : Nat) : VE := fun vs => match vs[i]? with
  | some (.sc ns) => .ok (.list (ns.map PyData.int)) vs
  | _ => .st
def AM (D : List KD) (ms : List Md) (f : FA) (g : VA) : Prop := ∀ (h : AH) (sl : List SV) (vs : List VS) (fs : List (List Nat)), RSt h D sl vs fs → fs.flatten.Nodup → OutP (fun h' ds ss => ∀ t, argsD (h' ++ t) ms ss = some ds) h vs (g vs) (f sl h)
section
variable {D : List KD} {b b1 b2 b3 fr fr1 fr2 fr3 : Bool} {k k1 k2 k3 i : Nat} {fa fb fc : FE} {ga gb gc : VE} {ta tb : FT} {ua ub : VT} {ra : FA} {qa : VA} {KL : List KD} {ms : List Md}
theorem am_nil : AM D [] Zx.fNil fNil := fun h sl vs fs R nd => ⟨rfl, [], [], by rw [List.append_nil]; rfl, fun _ => rfl⟩
theorem am_vw (ha : EV D b k fr fa ga) (hr : AM D ms ra qa) (hk : k ≤ 9 := by decide) : AM D (.vw :: ms) (Zx.fCons fa ra) (fCons ga qa) := by
  intro h sl vs fs R nd
  refine (ha h sl vs fs R nd).ep fun x s t f1 r1 n1 _ => ?_
  refine (hr (h ++ t) sl vs fs R.app nd).pp fun xs ss t2 r2 => ?_
  refine ⟨rfl, s :: ss, [], by rw [List.append_nil], fun t3 => ?_⟩
  rw [g_cons, g_vw, List.append_nil, RV.rb (RV.app (t := t3) (RV.app (t := t2) r1)) hk, o_some, r2 t3]
  rfl
theorem am_sc (hr : AM D ms ra qa) (hi : i < D.length := by decide) : AM D (.sc :: ms) (Zx.fCons (Zx.fVar i) ra) (fCons (fSc i) qa) := by
  intro h sl vs fs R nd
  obtain ⟨s, v, f, e1, e2, e3, r⟩ := R.get (List.getElem?_eq_getElem hi)
  unfold fCons fSc
  show OutP _ _ _ ((match vs[i]? with | some (.sc ns) => VR.ok (PyData.list (ns.map PyData.int)) vs | _ => .st).bind _) _
  rw [e2]
  cases v with
  | un => trivial
  | v x => trivial
  | ex x => trivial
  | sc ns =>
    obtain ⟨rfl, rfl⟩ := r
    have : Zx.fVar i sl h = .ok (.sc ns) h := by unfold Zx.fVar; rw [e1]
    show OutP _ _ _ ((qa vs).bind _) ((Zx.fVar i sl h).bind _)
    rw [this]
    refine (hr h sl vs fs R nd).pp fun xs ss t2 r2 => ?_
    refine ⟨rfl, .sc ns :: ss, [], by rw [List.append_nil], fun t3 => ?_⟩
    rw [g_cons, g_sc, o_some, List.append_nil, r2 t3]; rfl
theorem ev_call {φ : List PyData → R SV} {u : List PyData → VC} (hc : CalV φ k u) (ha : AM D ms ra qa) : EV D false k fr (Zx.fCall ms φ ra) (fCall u qa) := by
  intro h sl vs fs R nd
  rw [a_call]
  refine (ha h sl vs fs R nd).pe fun ds ss t r => ?_
  have r := r []
  rw [List.append_nil] at r
  rw [r, o_some]
  have c := hc ds
  cases e : u ds with
  | st => trivial
  | rz cc =>
    rw [e] at c
    obtain ⟨hn, c⟩ := c
    rw [c]
    exact ⟨[], by rw [List.append_nil]; rfl⟩
  | ok x =>
    rw [e] at c
    obtain ⟨s, hn, fp, c, r1, n1⟩ := c
    rw [c]
    refine ⟨rfl, shv (h ++ t).length s, shh (h ++ t).length hn, fp.map (· + (h ++ t).length), rfl, r1.shift, ?_, fun _ n m => ?_⟩
    · exact List.Pairwise.map _ (fun a b e z => e (by omega)) n1
    · obtain ⟨m', _, rfl⟩ := List.mem_map.mp m
      rw [List.length_append]; omega
/-- what is known of a def by its cells -/
def Knows (φ : List PyData → R SV) (k : Nat) (ds : List PyData) (x : PyData) : Prop := ∃ s hn fp, φ ds = .ok s hn ∧ RV hn false k s x fp ∧ fp.Nodup
open Classical in
noncomputable def lift (φ : List PyData → R SV) (k : Nat) : List PyData → VC := fun ds => if h : ∃ x, Knows φ k ds x then .ok h.choose else match φ ds with
  | .rz c _ => .rz c
  | _ => .st
theorem cal_lift {φ : List PyData → R SV} : CalV φ k (lift φ k) := by
  intro ds
  unfold lift
  by_cases h : ∃ x, Knows φ k ds x
  · rw [dif_pos h]
    exact h.choose_spec
  · rw [dif_neg h]
    cases e : φ ds with
    | ok a hn => trivial
    | rz c hn => exact ⟨hn, rfl⟩
    | st => trivial
theorem lift_ok {φ : List PyData → R SV} {ds : List PyData} {x : PyData} (h : Knows φ k ds x) : lift φ k ds = .ok x := by
  unfold lift
  have hx : ∃ x, Knows φ k ds x := ⟨x, h⟩
  rw [dif_pos hx]
  obtain ⟨s, hn, fp, e1, r1, _⟩ := h
  obtain ⟨s', hn', fp', e2, r2, _⟩ := hx.choose_spec
  rw [e1] at e2
  cases e2
  have := (r2.rb (Nat.le_refl _)).symm.trans (r1.rb (Nat.le_refl _))
  rw [Option.some.inj this]
theorem knows_d {φ : List PyData → R SV} {ds : List PyData} {x : PyData} {hn : AH} (e : φ ds = .ok (.d x) hn) : Knows φ 0 ds x := ⟨_, hn, [], e, RV.d, List.nodup_nil⟩
theorem lift_d {φ : List PyData → R SV} {ds : List PyData} {x : PyData} {hn : AH} (e : φ ds = .ok (.d x) hn) : lift φ 0 ds = .ok x := lift_ok (knows_d e)
theorem lift_rz {φ : List PyData → R SV} {ds : List PyData} {c : Str} {hn : AH} (e : φ ds = .rz c hn) : lift φ k ds = .rz c := by
  unfold lift
  have hx : ¬ ∃ x, Knows φ k ds x := fun ⟨x, s, hn', fp, e1, _⟩ => by rw [e] at e1; cases e1
  rw [dif_neg hx, e]
end
end Zx.V

namespace Zx.V
open PySem PySem.Spec L2
/-! ## statements by value -/
inductive VO where
  | nx (vs : List VS) | rt (x : PyData) | bk (vs : List VS) | ct (vs : List VS) | rz (c : Str) (vs : List VS) | st
abbrev VF := List VS → VO
structure Good (D : List KD) (h0 : AH) (fs0 : List (List Nat)) (h : AH) (sl : List SV) (vs : List VS) (fs : List (List Nat)) : Prop where
  R : RSt h D sl vs fs
  nd : fs.flatten.Nodup
  old : ∀ n ∈ fs.flatten, n ∈ fs0.flatten ∨ h0.length ≤ n
  fr : ∀ n, n < h0.length → n ∉ fs0.flatten → h[n]? = h0[n]?
  le : h0.length ≤ h.length
abbrev Keep (A : List Nat) (sl sl' : List SV) : Prop := ∀ i, i ∉ A → sl'[i]? = sl[i]?
section
variable {D : List KD} {h0 h1 h2 h t : AH} {fs0 fs1 fs2 fs : List (List Nat)} {sl sl0 sl1 sl2 : List SV} {vs vs0 vs1 vs2 : List VS} {A A1 A2 : List Nat}
theorem Good.trans (a : Good D h0 fs0 h1 sl1 vs1 fs1) (b : Good D h1 fs1 h2 sl2 vs2 fs2) : Good D h0 fs0 h2 sl2 vs2 fs2 where
  R := b.R
  nd := b.nd
  old n m := (b.old n m).elim (fun z => a.old n z) fun z => .inr (Nat.le_trans a.le z)
  fr n hn hm := (b.fr n (Nat.lt_of_lt_of_le hn a.le) fun z => (a.old n z).elim hm fun z => absurd hn (by omega)).trans (a.fr n hn hm)
  le := Nat.le_trans a.le b.le
theorem Good.refl (R : RSt h D sl vs fs) (nd : fs.flatten.Nodup) : Good D h fs h sl vs fs := ⟨R, nd, fun _ m => .inl m, fun _ _ _ => rfl, Nat.le_refl _⟩
theorem Good.ext (R : RSt h D sl vs fs) (nd : fs.flatten.Nodup) : Good D h fs (h ++ t) sl vs fs := ⟨R.app, nd, fun _ m => .inl m, fun n hn _ => by rw [List.getElem?_append_left hn], by rw [List.length_append]; omega⟩
theorem Good.app (a : Good D h0 fs0 h sl vs fs) : Good D h0 fs0 (h ++ t) sl vs fs := a.trans (Good.ext a.R a.nd)
theorem Good.sub (a : Good D h0 fs0 h sl vs fs) (R : RSt h D sl1 vs1 fs1) (nd : fs1.flatten.Nodup) (m : ∀ n ∈ fs1.flatten, n ∈ fs.flatten) : Good D h0 fs0 h sl1 vs1 fs1 := ⟨R, nd, fun n z => a.old n (m n z), a.fr, a.le⟩
theorem Keep.same : Keep A sl sl := fun _ _ => Eq.refl _
theorem Keep.trans (a : Keep A sl sl1) (b : Keep A sl1 sl2) : Keep A sl sl2 := fun i hi => (b i hi).trans (a i hi)
theorem Keep.l (a : Keep A1 sl sl1) : Keep (A1 ++ A2) sl sl1 := fun i hi => a i fun z => hi (List.mem_append_left _ z)
theorem Keep.r (a : Keep A2 sl sl1) : Keep (A1 ++ A2) sl sl1 := fun i hi => a i fun z => hi (List.mem_append_right _ z)
theorem Keep.set {i : Nat} {s : SV} : Keep [i] sl (sl.set i s) := fun j hj => by rw [List.getElem?_set_ne fun e => hj (by rw [e]; exact List.mem_singleton.mpr rfl)]
end
/-- what an answer leaves: what it holds was handed in or is new; all else stands -/
structure RtG (h : AH) (fs : List (List Nat)) (h' : AH) (fp : List Nat) : Prop where
  old : ∀ n ∈ fp, n ∈ fs.flatten ∨ h.length ≤ n
  fr : ∀ n, n < h.length → n ∉ fs.flatten → h'[n]? = h[n]?
  le : h.length ≤ h'.length
theorem RtG.pre {D : List KD} {h h1 h' : AH} {sl1 : List SV} {vs1 : List VS} {fs fs1 : List (List Nat)} {fp : List Nat} (G : Good D h fs h1 sl1 vs1 fs1) (r : RtG h1 fs1 h' fp) : RtG h fs h' fp where
  old n m := (r.old n m).elim (fun z => G.old n z) fun z => .inr (Nat.le_trans G.le z)
  fr n hn hm := (r.fr n (Nat.lt_of_lt_of_le hn G.le) fun z => (G.old n z).elim hm fun z => absurd hn (by omega)).trans (G.fr n hn hm)
  le := Nat.le_trans G.le r.le
def OutS (D : List KD) (A : List Nat) (rb : Bool) (rk : Nat) (h : AH) (sl : List SV) (fs : List (List Nat)) (r : VO) (q : O) : Prop := match r with
  | .nx vs' => ∃ sl' h' fs', q = .nx sl' h' ∧ Good D h fs h' sl' vs' fs' ∧ Keep A sl sl'
  | .bk vs' => ∃ sl' h' fs', q = .bk sl' h' ∧ Good D h fs h' sl' vs' fs' ∧ Keep A sl sl'
  | .ct vs' => ∃ sl' h' fs', q = .ct sl' h' ∧ Good D h fs h' sl' vs' fs' ∧ Keep A sl sl'
  | .rz c vs' => ∃ sl' h' fs', q = .rz c sl' h' ∧ Good D h fs h' sl' vs' fs' ∧ Keep A sl sl'
  | .rt x => ∃ s h' fp, q = .rt s h' ∧ RV h' rb rk s x fp ∧ fp.Nodup ∧ RtG h fs h' fp
  | .st => True
def SVp (D : List KD) (A : List Nat) (rb : Bool) (rk : Nat) (f : FS) (g : VF) : Prop := ∀ (h : AH) (sl : List SV) (vs : List VS) (fs : List (List Nat)), RSt h D sl vs fs → fs.flatten.Nodup → OutS D A rb rk h sl fs (g vs) (f sl h)
def OutX (D : List KD) (b : Bool) (k : Nat) (h : AH) (sl : List SV) (fs : List (List Nat)) (r : VR PyData) (q : R SV) : Prop := match r with
  | .ok x vs' => ∃ s h' fs' fp, q = .ok s h' ∧ Good D h fs h' sl vs' fs' ∧ RV h' b k s x fp ∧ fp.Nodup ∧ (∀ n ∈ fp, n ∉ fs'.flatten) ∧ ∀ n ∈ fp, n ∈ fs.flatten ∨ h.length ≤ n
  | .rz c => ∃ t, q = .rz c (h ++ t)
  | .st => True
/-- an expression that may change owned objects -/
def XV (D : List KD) (b : Bool) (k : Nat) (f : FE) (g : VE) : Prop := ∀ (h : AH) (sl : List SV) (vs : List VS) (fs : List (List Nat)), RSt h D sl vs fs → fs.flatten.Nodup → OutX D b k h sl fs (g vs) (f sl h)
theorem OutS.pre {D : List KD} {A A' : List Nat} {rb : Bool} {rk : Nat} {h h1 : AH} {sl sl1 : List SV} {vs1 : List VS} {fs fs1 : List (List Nat)} {r : VO} {q : O} (G : Good D h fs h1 sl1 vs1 fs1) (K : Keep A sl sl1) (hA : ∀ i, i ∉ A → i ∉ A') (o : OutS D A' rb rk h1 sl1 fs1 r q) : OutS D A rb rk h sl fs r q := by
  have kt : ∀ {sl2}, Keep A' sl1 sl2 → Keep A sl sl2 := fun k => K.trans fun i hi => k i (hA i hi)
  cases r with
  | nx vs' => obtain ⟨a, b, c, e, g, k⟩ := o; exact ⟨a, b, c, e, G.trans g, kt k⟩
  | bk vs' => obtain ⟨a, b, c, e, g, k⟩ := o; exact ⟨a, b, c, e, G.trans g, kt k⟩
  | ct vs' => obtain ⟨a, b, c, e, g, k⟩ := o; exact ⟨a, b, c, e, G.trans g, kt k⟩
  | rz cc vs' => obtain ⟨a, b, c, e, g, k⟩ := o; exact ⟨a, b, c, e, G.trans g, kt k⟩
  | rt x =>
    obtain ⟨a, b, c, e, r, n, z⟩ := o
    exact ⟨a, b, c, e, r, n, RtG.pre G z⟩
  | st => trivial
def VR.thn {α : Type} (r : VR α) (vs : List VS) (k : α → List VS → VO) : VO := match r with
  | .ok a vs' => k a vs'
  | .rz c => .rz c vs
  | .st => .st
section
variable {D : List KD} {A A1 A2 : List Nat} {rb : Bool} {rk : Nat} {b b1 b2 fr fr1 : Bool} {k k1 k2 i j : Nat} {fa fb : FE} {ga gb : VE} {f f1 f2 : FS} {g g1 g2 : VF} {ft : FT} {gt : VT}
theorem xv_ev (ha : EV D b k true fa ga) : XV D b k fa ga := by
  intro h sl vs fs R nd
  have o := ha h sl vs fs R nd
  generalize ga vs = r at o ⊢
  generalize fa sl h = q at o ⊢
  cases r with
  | ok x vs' =>
    obtain ⟨rfl, s, t, fp, rfl, h2, h3, h4⟩ := o
    exact ⟨s, h ++ t, fs, fp, rfl, Good.ext R nd, h2, h3, fun n m z => absurd (R.lt n z) (by have := h4 rfl n m; omega), fun n m => .inr (h4 rfl n m)⟩
  | rz c => exact o
  | st => trivial
theorem xv_0 (ha : EV D b 0 fr fa ga) : XV D b 0 fa ga := xv_ev ha.z
def fMv (i : Nat) : VE := fun vs => match vs[i]? with
  | some (.v x) => .ok x (vs.set i .un)
  | _ => .st
theorem xv_mv (e : D[i]? = some (b, k)) : XV D b k (Zx.fVar i) (fMv i) := by
  intro h sl vs fs R nd
  have o := ev_var e h sl vs fs R nd
  obtain ⟨s, v, f, e1, e2, e3, r⟩ := R.get e
  unfold fMv
  unfold fVar at o
  rw [e2] at o ⊢
  cases v with
  | un => trivial
  | sc x => trivial
  | ex x => trivial
  | v x =>
    have r : RV h b k s x f := r
    have hq : Zx.fVar i sl h = .ok s h := by
      obtain ⟨_, s', t, fp, h2, _⟩ := o
      unfold Zx.fVar at h2 ⊢
      rw [e1] at h2 ⊢
      revert h2
      split <;> intro h2
      · cases h2
      · cases h2
      · rename_i s1 hs hu
        cases hu; rfl
    obtain ⟨n1, n2⟩ := nd_at nd e3
    exact ⟨s, h, fs.set i [], f, hq, (Good.refl R nd).sub (R.drop i) (nd_rest nd) (fun n m => mem_rest m), r, n1, n2, fun n m => .inl (mem_at e3 m)⟩
theorem XV.bm (hx : XV D b1 k fa ga) (hb : (!b1 || b) = true := by decide) : XV D b k fa ga := by
  intro h sl vs fs R nd
  have o := hx h sl vs fs R nd
  generalize ga vs = r at o ⊢
  cases r with
  | ok x vs' =>
    obtain ⟨s, h', fs', fp, h1, h2, h3, h4, h5, h6⟩ := o
    exact ⟨s, h', fs', fp, h1, h2, h3.bm hb, h4, h5, h6⟩
  | rz c => exact o
  | st => trivial
theorem OutX.thn {h : AH} {sl : List SV} {vs : List VS} {fs : List (List Nat)} {r : VR PyData} {q : R SV} {K : PyData → List VS → VO} {K' : SV → AH → O} (R : RSt h D sl vs fs) (nd : fs.flatten.Nodup) (o : OutX D b k h sl fs r q)
    (c : ∀ x vs' s h' fs' fp, Good D h fs h' sl vs' fs' → RV h' b k s x fp → fp.Nodup → (∀ n ∈ fp, n ∉ fs'.flatten) → (∀ n ∈ fp, n ∈ fs.flatten ∨ h.length ≤ n) → OutS D A rb rk h sl fs (K x vs') (K' s h')) : OutS D A rb rk h sl fs (r.thn vs K) (q.thn sl K') := by
  cases r with
  | ok x vs' =>
    obtain ⟨s, h', fs', fp, rfl, h2, h3, h4, h5, h6⟩ := o
    exact c x vs' s h' fs' fp h2 h3 h4 h5 h6
  | rz cc =>
    obtain ⟨t, rfl⟩ := o
    exact ⟨sl, h ++ t, fs, rfl, Good.ext R nd, Keep.same⟩
  | st => trivial
theorem OutE.thn {L : Nat} {h : AH} {sl : List SV} {vs : List VS} {fs : List (List Nat)} {r : VR PyData} {q : R SV} {K : PyData → List VS → VO} {K' : SV → AH → O} (R : RSt h D sl vs fs) (nd : fs.flatten.Nodup) (o : OutE b k fr L h vs r q)
    (c : ∀ x s t fp, RV (h ++ t) b k s x fp → fp.Nodup → OutS D A rb rk h sl fs (K x vs) (K' s (h ++ t))) : OutS D A rb rk h sl fs (r.thn vs K) (q.thn sl K') := by
  cases r with
  | ok x vs' =>
    obtain ⟨rfl, s, t, fp, rfl, h2, h3, h4⟩ := o
    exact c x s t fp h2 h3
  | rz cc =>
    obtain ⟨t, rfl⟩ := o
    exact ⟨sl, h ++ t, fs, rfl, Good.ext R nd, Keep.same⟩
  | st => trivial
theorem OutP.thn {α β : Type} {rep : AH → β → α → Prop} {h : AH} {sl : List SV} {vs : List VS} {fs : List (List Nat)} {r : VR β} {q : R α} {K : β → List VS → VO} {K' : α → AH → O} (R : RSt h D sl vs fs) (nd : fs.flatten.Nodup) (o : OutP rep h vs r q)
    (c : ∀ x a t, rep (h ++ t) x a → OutS D A rb rk h sl fs (K x vs) (K' a (h ++ t))) : OutS D A rb rk h sl fs (r.thn vs K) (q.thn sl K') := by
  cases r with
  | ok x vs' =>
    obtain ⟨rfl, a, t, rfl, h2⟩ := o
    exact c x a t h2
  | rz cc =>
    obtain ⟨t, rfl⟩ := o
    exact ⟨sl, h ++ t, fs, rfl, Good.ext R nd, Keep.same⟩
  | st => trivial
def sNext : VF := fun vs => .nx vs
def sSeq (a b : VF) : VF := fun vs => match a vs with
  | .nx vs' => b vs'
  | o => o
def sExpr (ga : VE) : VF := fun vs => (ga vs).thn vs fun _ vs => .nx vs
def sRet (ga : VE) : VF := fun vs => (ga vs).thn vs fun x _ => .rt x
def sRetN : VF := fun _ => .rt .none
def sSet (i : Nat) (ga : VE) : VF := fun vs => (ga vs).thn vs fun x vs => .nx (vs.set i (.v x))
def sIf (gt : VT) (a b : VF) : VF := fun vs => (gt vs).thn vs fun k vs => if k = true then a vs else b vs
def sBreak : VF := fun vs => .bk vs
def sCont : VF := fun vs => .ct vs
def sRaise (c : Str) : VF := fun vs => .rz c vs
theorem sv_next : SVp D [] rb rk Zx.sNext sNext := fun h sl vs fs R nd => ⟨sl, h, fs, rfl, Good.refl R nd, Keep.same⟩
theorem sv_break : SVp D [] rb rk Zx.sBreak sBreak := fun h sl vs fs R nd => ⟨sl, h, fs, rfl, Good.refl R nd, Keep.same⟩
theorem sv_cont : SVp D [] rb rk Zx.sCont sCont := fun h sl vs fs R nd => ⟨sl, h, fs, rfl, Good.refl R nd, Keep.same⟩
theorem sv_raise {c : Str} : SVp D [] rb rk (Zx.sRaise c) (sRaise c) := fun h sl vs fs R nd => ⟨sl, h, fs, rfl, Good.refl R nd, Keep.same⟩
theorem sv_seq (h1 : SVp D A1 rb rk f1 g1) (h2 : SVp D A2 rb rk f2 g2) : SVp D (A1 ++ A2) rb rk (Zx.sSeq f1 f2) (sSeq g1 g2) := by
  intro h sl vs fs R nd
  have o := h1 h sl vs fs R nd
  unfold Zx.sSeq sSeq
  generalize g1 vs = r at o ⊢
  generalize f1 sl h = q at o ⊢
  cases r with
  | nx vs' =>
    obtain ⟨sl', h', fs', rfl, G, K⟩ := o
    exact OutS.pre G K.l (fun i hi z => hi (List.mem_append_right _ z)) (h2 h' sl' vs' fs' G.R G.nd)
  | bk vs' => obtain ⟨a, b, c, rfl, g, k⟩ := o; exact ⟨a, b, c, rfl, g, k.l⟩
  | ct vs' => obtain ⟨a, b, c, rfl, g, k⟩ := o; exact ⟨a, b, c, rfl, g, k.l⟩
  | rz cc vs' => obtain ⟨a, b, c, rfl, g, k⟩ := o; exact ⟨a, b, c, rfl, g, k.l⟩
  | rt x => obtain ⟨a, b, c, rfl, g, k⟩ := o; exact ⟨a, b, c, rfl, g, k⟩
  | st => trivial
theorem sv_if (ht : TV D ft gt) (h1 : SVp D A1 rb rk f1 g1) (h2 : SVp D A2 rb rk f2 g2) : SVp D (A1 ++ A2) rb rk (Zx.sIf ft f1 f2) (sIf gt g1 g2) := by
  intro h sl vs fs R nd
  refine (ht h sl vs fs R nd).thn R nd fun x a t e => ?_
  subst e
  cases a with
  | true => exact OutS.pre (Good.ext R nd) Keep.same (fun i hi z => hi (List.mem_append_left _ z)) (h1 (h ++ t) sl vs fs R.app nd)
  | false => exact OutS.pre (Good.ext R nd) Keep.same (fun i hi z => hi (List.mem_append_right _ z)) (h2 (h ++ t) sl vs fs R.app nd)
theorem sv_expr (ha : XV D b k fa ga) : SVp D [] rb rk (Zx.sExpr fa) (sExpr ga) := by
  intro h sl vs fs R nd
  exact (ha h sl vs fs R nd).thn R nd fun x vs' s h' fs' fp G _ _ _ _ => ⟨sl, h', fs', rfl, G, Keep.same⟩
theorem sv_retX (ha : XV D b rk fa ga) (hb : (!b || rb) = true := by decide) : SVp D [] rb rk (Zx.sRet fa) (sRet ga) := by
  intro h sl vs fs R nd
  exact (ha h sl vs fs R nd).thn R nd fun x vs' s h' fs' fp G r n _ o => ⟨s, h', fp, rfl, r.bm hb, n, ⟨o, G.fr, G.le⟩⟩
theorem sv_ret (ha : EV D b rk true fa ga) (hb : (!b || rb) = true := by decide) : SVp D [] rb rk (Zx.sRet fa) (sRet ga) := sv_retX (xv_ev ha) hb
theorem sv_retN : SVp D [] rb rk Zx.sRetN sRetN := fun h sl vs fs R nd => ⟨.d .none, h, [], rfl, RV.dk rfl, List.nodup_nil, ⟨fun _ m => (by cases m), fun _ _ _ => rfl, Nat.le_refl _⟩⟩
theorem Good.put {h0 h : AH} {fs0 fs : List (List Nat)} {sl : List SV} {vs : List VS} (G : Good D h0 fs0 h sl vs fs) (e : D[i]? = some (b, k)) {s : SV} {x : PyData} {fp : List Nat} (r : RV h b k s x fp) (n : fp.Nodup) (d : ∀ n ∈ fp, n ∉ fs.flatten) (o : ∀ n ∈ fp, n ∈ fs0.flatten ∨ h0.length ≤ n) : Good D h0 fs0 h (sl.set i s) (vs.set i (.v x)) (fs.set i fp) := by
  refine ⟨G.R.set e r, nd_set G.nd n fun a m z => d a m (mem_rest z), fun a m => ?_, G.fr, G.le⟩
  rcases mem_set m with z | z
  · exact o a z
  · exact G.old a (mem_rest z)
theorem sv_set (ha : XV D b1 k fa ga) (e : D[i]? = some (b, k) := by rfl) (hb : (!b1 || b) = true := by decide) : SVp D [i] rb rk (Zx.sSet i fa) (sSet i ga) := by
  intro h sl vs fs R nd
  exact (ha h sl vs fs R nd).thn R nd fun x vs' s h' fs' fp G r n d o => ⟨_, h', _, rfl, G.put e (r.bm hb) n d o, Keep.set⟩
/-! targets -/
theorem keep_all : ∀ {is : List Nat} {xs : List SV} {sl sl' : List SV}, setAll is xs sl = some sl' → Keep is sl sl'
  | [], [], sl, sl', e => by cases e; exact Keep.same
  | [], x :: xs, sl, sl', e => by cases e
  | i :: is, [], sl, sl', e => by cases e
  | i :: is, x :: xs, sl, sl', e => by
    have := keep_all (is := is) (xs := xs) (sl := sl.set i x) e
    intro j hj
    rw [List.mem_cons, not_or] at hj
    rw [this j hj.2, List.getElem?_set_ne (Ne.symm hj.1)]
theorem keep_go {bd : Bd} {it : It1} {sl sl' : List SV} (e : bd.go it sl = some sl') : Keep bd.is sl sl' := by
  cases bd with
  | nm i =>
    cases it with
    | one s => cases e; exact Keep.set
    | two s t => cases e
  | tp is =>
    cases it with
    | one s =>
      unfold Bd.go at e
      dsimp only at e
      split at e
      · exact keep_all e
      · cases e
    | two s t =>
      unfold Bd.go at e
      exact keep_all e
def sSetT (is : List Nat) (ga : VE) : VF := fun vs => (ga vs).thn vs fun x vs => match goV (.tp is) (.one x) vs with
  | some vs' => .nx vs'
  | none => .st
theorem sv_setT {is : List Nat} (ha : EV D b 0 fr fa ga) (c : bdOk D b (.tp is) = true := by decide) : SVp D is rb rk (Zx.sSetT is fa) (sSetT is ga) := by
  intro h sl vs fs R nd
  refine (ha h sl vs fs R nd).thn R nd fun x s t fp r n => ?_
  split
  · rename_i vs' e
    obtain ⟨sl', fs', e1, R', n', m'⟩ := go_ok (it := .one s) c (R.app (t := t)) nd (show RI b (.one s) (.one x) from r.2) e
    rw [e1]
    exact ⟨sl', h ++ t, fs', rfl, (Good.ext R nd).sub R' n' m', keep_go e1⟩
  · trivial
def sPar (i j : Nat) (qa : VA) : VF := fun vs => (qa vs).thn vs fun xs vs => match xs with
  | [x, y] => .nx ((vs.set i (.v x)).set j (.v y))
  | _ => .st
theorem sv_par {ra : FA} {qa : VA} (ha : AV D [(b1, 0), (b2, 0)] ra qa) (c1 : kdOk D b1 i = true := by decide) (c2 : kdOk D b2 j = true := by decide) : SVp D [i, j] rb rk (Zx.sPar i j ra) (sPar i j qa) := by
  intro h sl vs fs R nd
  refine (ha h sl vs fs R nd).thn R nd fun xs ss t r => ?_
  obtain ⟨s, x, f, t', y, f', rfl, rfl, r1, r2⟩ := ra_two r
  obtain ⟨fs1, R1, n1, m1⟩ := kd_set c1 (R.app (t := t)) nd r1.2
  obtain ⟨fs2, R2, n2, m2⟩ := kd_set c2 R1 n1 r2.2
  refine ⟨_, _, fs2, rfl, (Good.ext R nd).sub R2 n2 fun n m => m1 n (m2 n m), fun a ha => ?_⟩
  rw [List.mem_cons, List.mem_singleton, not_or] at ha
  rw [List.getElem?_set_ne (Ne.symm ha.2), List.getElem?_set_ne (Ne.symm ha.1)]
def sAug (j : Nat) (gv : PyData → PyData → List VS → VR PyData) (ga : VE) : VF := fun vs => match vs[j]? with
  | some (.v x) => (ga vs).thn vs fun y vs => match gv x y vs with
    | .ok z vs => .nx (vs.set j (.v z))
    | _ => .st
  | _ => .st
theorem sv_aug {gs : SV → SV → AH → R SV} {gv : PyData → PyData → List VS → VR PyData} (ho : OpV b 0 b2 k2 b 0 true gs gv) (ha : EV D b2 k2 fr fa ga) (e : D[j]? = some (b, 0) := by rfl) : SVp D [j] rb rk (Zx.sAug j gs fa) (sAug j gv ga) := by
  intro h sl vs fs R nd
  have o := xv_mv e h sl vs fs R nd
  obtain ⟨s, v, f, e1, e2, e3, r⟩ := R.get e
  unfold sAug
  unfold fMv at o
  rw [e2] at o ⊢
  cases v with
  | un => trivial
  | sc x => trivial
  | ex x => trivial
  | v x =>
    have r : RV h b 0 s x f := r
    obtain ⟨s', h', fs', fp, hq, G', r', _⟩ := o
    have hq2 : Zx.fVar j sl h = .ok s h := by
      unfold Zx.fVar at hq ⊢
      rw [e1] at hq ⊢
      revert hq
      split <;> intro hq
      · cases hq
      · cases hq
      · rename_i s1 hs hu
        cases hu; rfl
    unfold Zx.sAug
    rw [hq2]
    show OutS _ _ _ _ _ _ _ _ ((fa sl h).thn sl fun t h2 => (gs s t h2).thn sl fun v h3 => .nx (sl.set j v) h3)
    refine (ha h sl vs fs R nd).thn R nd fun y s2 t fp2 r2 n2 => ?_
    have o2 := ho (h ++ t) vs s s2 x y f fp2 r.app (by rw [r.1]; exact List.nodup_nil) r2
    generalize gv x y vs = rr at o2 ⊢
    generalize gs s s2 (h ++ t) = qq at o2 ⊢
    cases rr with
    | ok z vs' =>
      obtain ⟨rfl, s3, t3, fp3, rfl, r3, n3, d3⟩ := o2
      refine ⟨_, _, _, rfl, ((Good.ext (t := t) R nd).app (t := t3)).put e r3 n3 (fun n m => ?_) (fun n m => ?_), Keep.set⟩
      · rw [r3.1] at m; cases m
      · rw [r3.1] at m; cases m
    | rz c => trivial
    | st => trivial
end
/-! ## a def -/
def argV : Md → PyData → VS
  | .sc, .list ds => match intsD ds with
    | some ns => .sc ns
    | none => .un
  | .sc, _ => .un
  | _, d => .v d
def startV : List Md → List PyData → Nat → List VS
  | m :: ms, d :: ds, n + 1 => argV m d :: startV ms ds n
  | _, _, n => List.replicate n .un
def phiV (ms : List Md) (n : Nat) (g : VF) : List PyData → VC := fun ds => match g (startV ms ds n) with
  | .rt x => .ok x
  | .nx _ => .ok .none
  | .rz c _ => .rz c
  | _ => .st
def stOk : List Md → List KD → Bool
  | [], _ => true
  | .sc :: ms, _ :: D => stOk ms D
  | .fz :: ms, k :: D => k.2 == 0 && stOk ms D
  | .vw :: ms, k :: D => k.1 && k.2 == 0 && stOk ms D
  | _, [] => false
theorem rst_un : ∀ {D : List KD}, RSt [] D (List.replicate D.length .un) (List.replicate D.length .un) (List.replicate D.length [])
  | [] => ⟨rfl, rfl, rfl⟩
  | k :: D => ⟨_, _, _, _, _, _, rfl, rfl, rfl, rfl, rst_un⟩
theorem rst_start : ∀ {ms : List Md} {ds : List PyData} {D : List KD}, stOk ms D = true → RSt [] D (startS ms ds D.length) (startV ms ds D.length) (List.replicate D.length [])
  | [], ds, D, _ => by unfold startS startV; exact rst_un
  | m :: ms, [], D, _ => by unfold startS startV; exact rst_un
  | m :: ms, d :: ds, [], c => by cases m <;> cases c
  | m :: ms, d :: ds, k :: D, c => by
    show RSt [] (k :: D) (argS m d :: startS ms ds D.length) (argV m d :: startV ms ds D.length) ([] :: List.replicate D.length [])
    cases m with
    | sc =>
      refine ⟨_, _, _, _, _, _, rfl, rfl, rfl, ?_, rst_start (ms := ms) c⟩
      unfold argS argV
      cases d <;> try exact rfl
      rename_i xs
      show RS1 [] k (match intsD xs with | some ns => SV.sc ns | none => .un) (match intsD xs with | some ns => VS.sc ns | none => .un) []
      cases e : intsD xs with
      | none => exact (show ([] : List Nat) = [] from rfl)
      | some ns => exact ⟨rfl, rfl⟩
    | fz =>
      unfold stOk at c
      rw [Bool.and_eq_true] at c
      refine ⟨_, _, _, _, _, _, rfl, rfl, rfl, ?_, rst_start (ms := ms) c.2⟩
      show RV [] k.1 k.2 (.d d) d []
      rw [eq_of_beq c.1]
      exact RV.d
    | vw =>
      unfold stOk at c
      rw [Bool.and_eq_true, Bool.and_eq_true] at c
      refine ⟨_, _, _, _, _, _, rfl, rfl, rfl, ?_, rst_start (ms := ms) c.2⟩
      show RV [] k.1 k.2 (mkv d) d []
      rw [eq_of_beq c.1.2]
      exact ⟨rfl, .inr ⟨c.1.1, rfl⟩⟩
theorem fl_rep : ∀ n : Nat, (List.replicate n ([] : List Nat)).flatten = []
  | 0 => rfl
  | n + 1 => by rw [List.replicate_succ, List.flatten_cons, fl_rep n]; rfl
theorem cal_phi {ms : List Md} {D : List KD} {A : List Nat} {n k : Nat} {f : FS} {g : VF} (hs : SVp D A false k f g) (hn : n = D.length := by rfl) (hm : stOk ms D = true := by decide) : CalV (phi ms n f) k (phiV ms n g) := by
  subst hn
  intro ds
  have o := hs [] _ _ _ (rst_start (ms := ms) (ds := ds) hm) (by rw [fl_rep]; exact List.nodup_nil)
  unfold phiV phi
  generalize g (startV ms ds D.length) = r at o ⊢
  generalize f (startS ms ds D.length) [] = q at o ⊢
  cases r with
  | nx vs' =>
    obtain ⟨sl', h', fs', rfl, G, K⟩ := o
    exact ⟨.d .none, [], [], rfl, RV.dk rfl, List.nodup_nil⟩
  | bk vs' => trivial
  | ct vs' => trivial
  | rz cc vs' =>
    obtain ⟨sl', h', fs', rfl, G, K⟩ := o
    exact ⟨h', rfl⟩
  | rt x =>
    obtain ⟨s, h', fp, rfl, r, n⟩ := o
    refine ⟨s, _, fp, rfl, ?_, n.1⟩
    unfold cl
    split
    · rename_i c
      refine r.frame fun m hm => ?_
      have := RV.below (L := 0) (h := h') (by simp) r c m hm
      omega
    · exact r
  | st => trivial
end Zx.V

namespace Zx.V
open PySem PySem.Spec L2
/-! ## a place within a value -/
def getAt : List Int → PyData → Option PyData
  | [], x => some x
  | j :: js, x => match x with
    | .list ds => match atI ds j with
      | some d => getAt js d
      | none => none
    | .tuple ds => if immL ds = false then match atI ds j with
        | some d => getAt js d
        | none => none
      else none
    | _ => none
def putAt : List Int → PyData → PyData → PyData
  | [], y, _ => y
  | j :: js, y, x => match x with
    | .list ds => match ixN ds.length j with
      | some p => match ds[p]? with
        | some d => .list (ds.set p (putAt js y d))
        | none => x
      | none => x
    | .tuple ds => match ixN ds.length j with
      | some p => match ds[p]? with
        | some d => .tuple (ds.set p (putAt js y d))
        | none => x
      | none => x
    | _ => x
def walkR (h : AH) : List Int → SV → Option SV
  | [], s => some s
  | j :: js, .r n => match h[n]? with
    | some (some (.lst xs)) => match atI xs j with
      | some s => walkR h js s
      | none => none
    | some (some (.tup xs)) => match atI xs j with
      | some s => walkR h js s
      | none => none
    | _ => none
  | _ :: _, _ => none
theorem putAt_t {j : Int} {js : List Int} {y d : PyData} {ds : List PyData} {p : Nat} (e1 : ixN ds.length j = some p) (e2 : ds[p]? = some d) : putAt (j :: js) y (.tuple ds) = .tuple (ds.set p (putAt js y d)) := by
  have : putAt (j :: js) y (.tuple ds) = (match ixN ds.length j with
      | some p => match ds[p]? with
        | some d => .tuple (ds.set p (putAt js y d))
        | none => .tuple ds
      | none => .tuple ds) := rfl
  rw [this, e1]
  dsimp only
  rw [e2]
theorem immL_set {z : PyData} (hz : imm z = false) : ∀ {ds : List PyData} {p : Nat} {d : PyData}, ds[p]? = some d → immL (ds.set p z) = false
  | a :: ds, 0, d, _ => by
    show immL (z :: ds) = false
    unfold immL
    rw [hz]; rfl
  | a :: ds, p + 1, d, e => by
    show immL (a :: ds.set p z) = false
    unfold immL
    rw [immL_set hz (d := d) (by simpa using e), Bool.and_false]
  | [], p, d, e => by simp at e
theorem putAt_imm {y : PyData} (hy : imm y = false) : ∀ {js : List Int} {x x' : PyData}, getAt js x = some x' → imm (putAt js y x) = false
  | [], x, x', _ => hy
  | j :: js, x, x', e => by
    unfold getAt at e
    split at e
    · rename_i ds
      unfold putAt
      dsimp only
      split
      · split
        · unfold imm; rfl
        · unfold imm; rfl
      · unfold imm; rfl
    · rename_i ds
      split at e
      · rename_i hi
        split at e
        · rename_i d hd
          unfold atI at hd
          cases q : ixN ds.length j with
          | none => rw [q] at hd; cases hd
          | some p =>
            rw [q] at hd
            have hd : ds[p]? = some d := hd
            rw [putAt_t q hd]
            unfold imm
            exact immL_set (putAt_imm hy e) hd
        · cases e
      · cases e
    · cases e
theorem putAt_c {j : Int} {js : List Int} {y d : PyData} {ds : List PyData} {p : Nat} (e1 : ixN ds.length j = some p) (e2 : ds[p]? = some d) : putAt (j :: js) y (.list ds) = .list (ds.set p (putAt js y d)) := by
  have : putAt (j :: js) y (.list ds) = (match ixN ds.length j with
      | some p => match ds[p]? with
        | some d => .list (ds.set p (putAt js y d))
        | none => .list ds
      | none => .list ds) := rfl
  rw [this, e1]
  dsimp only
  rw [e2]
/-- a value may be put there: a tuple stays one that holds what can be changed -/
def okP : List Int → PyData → PyData → Prop
  | [], _, _ => True
  | j :: js, y, x => match x with
    | .list ds => ∀ d, atI ds j = some d → okP js y d
    | .tuple _ => imm y = false
    | _ => True
theorem okP_imm {y : PyData} (h : imm y = false) : ∀ {js : List Int} {x : PyData}, okP js y x
  | [], _ => trivial
  | j :: js, x => by
    unfold okP
    split
    · exact fun d _ => okP_imm h
    · exact h
    · trivial
theorem walkR_app {h t : AH} : ∀ {js : List Int} {s s' : SV}, walkR h js s = some s' → walkR (h ++ t) js s = some s'
  | [], s, s', e => e
  | j :: js, s, s', e => by
    cases s with
    | r n =>
      unfold walkR at e ⊢
      split at e
      · rename_i xs hx
        rw [List.getElem?_append_left (List.getElem?_eq_some_iff.mp hx).1, hx]
        dsimp only
        split at e
        · rename_i s1 h1
          exact walkR_app e
        · cases e
      · rename_i xs hx
        rw [List.getElem?_append_left (List.getElem?_eq_some_iff.mp hx).1, hx]
        dsimp only
        split at e
        · rename_i s1 h1
          exact walkR_app e
        · cases e
      · cases e
    | un => cases e
    | d x => cases e
    | vw x => cases e
    | sc x => cases e
    | ex x => cases e
theorem fa_ix {α β γ : Type} {P : α → β → γ → Prop} {as : List α} {bs : List β} {cs : List γ} {i : Int} {u : β} (r : Fa3 P as bs cs) (e : atI bs i = some u) : ∃ (p : Nat) (a : α) (c : γ), ixN bs.length i = some p ∧ bs[p]? = some u ∧ as[p]? = some a ∧ cs[p]? = some c ∧ atI as i = some a ∧ P a u c := by
  unfold atI at e ⊢
  rw [r.len.1]
  cases q : ixN bs.length i with
  | none => rw [q] at e; cases e
  | some p =>
    rw [q] at e
    have e : bs[p]? = some u := e
    obtain ⟨a, c, h1, h2, h3⟩ := r.get e
    exact ⟨p, a, c, rfl, e, h1, h2, h1, h3⟩
theorem fa_put {α β : Type} {P Q : α → β → List Nat → Prop} {f1 f2 F : List Nat} {a1 : α} {b2 : β} (k : ∀ a b c, P a b c → (∀ n ∈ c, n ∉ f1 ∧ n ∈ F) → Q a b c) (q : Q a1 b2 f2) :
    ∀ {as : List α} {bs : List β} {cs : List (List Nat)} {p : Nat}, Fa3 P as bs cs → cs.flatten.Nodup → (∀ n ∈ cs.flatten, n ∈ F) → cs[p]? = some f1 → as[p]? = some a1 → Fa3 Q as (bs.set p b2) (cs.set p f2)
  | a :: as, b :: bs, c :: cs, 0, ⟨r1, r2⟩, nd, hF, e, ea => by
    cases e
    cases ea
    rw [List.flatten_cons, List.nodup_append] at nd
    exact ⟨q, Fa3.imp (cs0 := cs) (fun a b c' hc z => k a b c' z fun n m => ⟨fun w => nd.2.2 n w n (List.mem_flatten.mpr ⟨c', hc, m⟩) rfl, hF n (by rw [List.flatten_cons, List.mem_append]; exact .inr (List.mem_flatten.mpr ⟨c', hc, m⟩))⟩) (fun _ m => m) r2⟩
  | a :: as, b :: bs, c :: cs, p + 1, ⟨r1, r2⟩, nd, hF, e, ea => by
    rw [List.flatten_cons, List.nodup_append] at nd
    have e : cs[p]? = some f1 := e
    have ea : as[p]? = some a1 := ea
    exact ⟨k a b c r1 fun n m => ⟨fun w => nd.2.2 n m n (mem_at e w) rfl, hF n (by rw [List.flatten_cons, List.mem_append]; exact .inl m)⟩, fa_put k q r2 nd.2.1 (fun n m => hF n (by rw [List.flatten_cons, List.mem_append]; exact .inr m)) e ea⟩
  | [], [], [], p, _, _, _, e, _ => by simp at e
  | [], [], c :: cs, _, h, _, _, _, _ => h.elim
  | [], b :: bs, [], _, h, _, _, _, _ => h.elim
  | [], b :: bs, c :: cs, _, h, _, _, _, _ => h.elim
  | a :: as, [], [], _, h, _, _, _, _ => h.elim
  | a :: as, [], c :: cs, _, h, _, _, _, _ => h.elim
  | a :: as, b :: bs, [], _, h, _, _, _, _ => h.elim
/-- an owned list -/
theorem RV.isL {h : AH} {b : Bool} {k : Nat} {s : SV} {ds : List PyData} {f : List Nat} (r : RV h b (k + 1) s (.list ds) f) : ∃ n xs fl, s = .r n ∧ h[n]? = some (some (.lst xs)) ∧ f = n :: fl.flatten ∧ Fa3 (RV h b k) xs ds fl := by
  unfold RV at r
  rcases r with r | ⟨n', xs, ds', fs, rfl, hn, e, rfl, r⟩ | ⟨n', xs, ds', fs, rfl, hn, e, rfl, r⟩ | ⟨n', xs, ds', fs, rfl, hn, e, rfl, r⟩
  · cases r.2.2
  · cases e
    exact ⟨n', xs, fs, rfl, hn, rfl, r⟩
  · cases e
  · cases e
/-- an owned tuple -/
theorem RV.isT {h : AH} {b : Bool} {k : Nat} {s : SV} {ds : List PyData} {f : List Nat} (r : RV h b (k + 1) s (.tuple ds) f) (c : immL ds = false) : ∃ n xs fl, s = .r n ∧ h[n]? = some (some (.tup xs)) ∧ f = n :: fl.flatten ∧ Fa3 (RV h b k) xs ds fl := by
  unfold RV at r
  rcases r with r | ⟨n', xs, ds', fs, rfl, hn, e, rfl, r⟩ | ⟨n', xs, ds', fs, rfl, hn, e, rfl, r⟩ | ⟨n', xs, ds', fs, rfl, hn, e, rfl, r⟩
  · have := r.2.2
    have : (!immL ds) = false := this
    rw [c] at this; cases this
  · cases e
  · cases e
  · cases e
    exact ⟨n', xs, fs, rfl, hn.1, rfl, r⟩
theorem RV.ofT {h : AH} {b : Bool} {k : Nat} {n : Nat} {xs : List SV} {ds : List PyData} {fl : List (List Nat)} (hn : h[n]? = some (some (.tup xs))) (c : immL ds = false) (r : Fa3 (RV h b k) xs ds fl) : RV h b (k + 1) (.r n) (.tuple ds) (n :: fl.flatten) := by
  unfold RV
  exact .inr (.inr (.inr ⟨n, xs, ds, fl, rfl, ⟨hn, c⟩, rfl, rfl, r⟩))
theorem RV.ofL {h : AH} {b : Bool} {k : Nat} {n : Nat} {xs : List SV} {ds : List PyData} {fl : List (List Nat)} (hn : h[n]? = some (some (.lst xs))) (r : Fa3 (RV h b k) xs ds fl) : RV h b (k + 1) (.r n) (.list ds) (n :: fl.flatten) := by
  unfold RV
  exact .inr (.inl ⟨n, xs, ds, fl, rfl, hn, rfl, rfl, r⟩)
theorem foc {h : AH} {b : Bool} {k : Nat} : ∀ {js : List Int} {K : Nat} {s : SV} {x x' : PyData} {f : List Nat}, RV h b K s x f → K = js.length + k → f.Nodup → getAt js x = some x' →
    ∃ s' f', walkR h js s = some s' ∧ RV h b k s' x' f' ∧ f'.Nodup ∧ (∀ n ∈ f', n ∈ f) ∧
      ∀ (h2 : AH) (x2 : PyData) (f2 : List Nat), (∀ n ∈ f, n ∉ f' → h2[n]? = h[n]?) → okP js x2 x → RV h2 b k s' x2 f2 → f2.Nodup → (∀ n ∈ f2, n ∈ f' ∨ n ∉ f) →
        ∃ f3, RV h2 b K s (putAt js x2 x) f3 ∧ f3.Nodup ∧ ∀ n ∈ f3, n ∈ f2 ∨ (n ∈ f ∧ n ∉ f')
  | [], K, s, x, x', f, r, hK, nd, e => by
    cases e
    have hK : K = k := by rw [hK]; exact Nat.zero_add k
    subst hK
    exact ⟨s, f, rfl, r, nd, fun _ m => m, fun h2 x2 f2 _ _ r2 n2 _ => ⟨f2, r2, n2, fun n m => .inl m⟩⟩
  | j :: js, K, s, x, x', f, r, hK, nd, e => by
    obtain ⟨K', rfl⟩ : ∃ K', K = K' + 1 := ⟨js.length + k, by rw [hK, List.length_cons]; omega⟩
    have hK' : K' = js.length + k := by rw [List.length_cons] at hK; omega
    unfold getAt at e
    split at e
    · rename_i ds
      split at e
      · rename_i d hd
        obtain ⟨n, xs, fl, rfl, hn, rfl, q⟩ := r.isL
        obtain ⟨p, s1, f1, e1, e2, e3, e4, e5, r1⟩ := fa_ix q hd
        rw [List.nodup_cons] at nd
        obtain ⟨nf, dj⟩ := nd_at nd.2 e4
        obtain ⟨s', f', w, r', n', m', put⟩ := foc r1 hK' nf e
        have inf : ∀ a ∈ f', a ∈ fl.flatten := fun a m => mem_at e4 (m' a m)
        refine ⟨s', f', ?_, r', n', fun a m => List.mem_cons_of_mem _ (inf a m), fun h2 x2 f2 ag i2 r2 n2 m2 => ?_⟩
        · unfold walkR
          rw [hn]
          dsimp only
          rw [e5]
          exact w
        · obtain ⟨f3, r3, n3, m3⟩ := put h2 x2 f2 (fun a m z => ag a (List.mem_cons_of_mem _ (mem_at e4 m)) z) (i2 d hd) r2 n2 fun a m => (m2 a m).imp_right fun z w => z (List.mem_cons_of_mem _ (mem_at e4 w))
          refine ⟨n :: (fl.set p f3).flatten, ?_, ?_, fun a m => ?_⟩
          · rw [putAt_c e1 e2]
            refine RV.ofL ((ag n List.mem_cons_self fun z => nd.1 (inf n z)).trans hn) ?_
            exact fa_put (P := RV h b K') (f1 := f1) (F := fl.flatten) (fun a' b' c' z dz => z.frame fun m hm => ag m (List.mem_cons_of_mem _ (dz m hm).2) fun w => (dz m hm).1 (m' m w)) r3 q nd.2 (fun _ m => m) e4 e3
          · rw [List.nodup_cons]
            refine ⟨fun m => ?_, nd_set nd.2 n3 fun a m z => ?_⟩
            · rcases mem_set m with z | z
              · rcases m3 n z with z | z
                · rcases m2 n z with z | z
                  · exact nd.1 (inf n z)
                  · exact z List.mem_cons_self
                · exact nd.1 (mem_at e4 z.1)
              · exact nd.1 (mem_rest z)
            · rcases m3 a m with w | w
              · rcases m2 a w with w | w
                · exact dj a (m' a w) z
                · exact w (List.mem_cons_of_mem _ (mem_rest z))
              · exact dj a w.1 z
          · rcases List.mem_cons.mp m with rfl | m
            · exact .inr ⟨List.mem_cons_self, fun z => nd.1 (inf _ z)⟩
            · rcases mem_set m with z | z
              · exact (m3 a z).imp_right fun w => ⟨List.mem_cons_of_mem _ (mem_at e4 w.1), w.2⟩
              · exact .inr ⟨List.mem_cons_of_mem _ (mem_rest z), fun w => dj a (m' a w) z⟩
      · cases e
    · rename_i ds
      split at e
      rotate_left
      · cases e
      rename_i cimm
      split at e
      · rename_i d hd
        obtain ⟨n, xs, fl, rfl, hn, rfl, q⟩ := r.isT cimm
        obtain ⟨p, s1, f1, e1, e2, e3, e4, e5, r1⟩ := fa_ix q hd
        rw [List.nodup_cons] at nd
        obtain ⟨nf, dj⟩ := nd_at nd.2 e4
        obtain ⟨s', f', w, r', n', m', put⟩ := foc r1 hK' nf e
        have inf : ∀ a ∈ f', a ∈ fl.flatten := fun a m => mem_at e4 (m' a m)
        refine ⟨s', f', ?_, r', n', fun a m => List.mem_cons_of_mem _ (inf a m), fun h2 x2 f2 ag i2 r2 n2 m2 => ?_⟩
        · unfold walkR
          rw [hn]
          dsimp only
          rw [e5]
          exact w
        · obtain ⟨f3, r3, n3, m3⟩ := put h2 x2 f2 (fun a m z => ag a (List.mem_cons_of_mem _ (mem_at e4 m)) z) (okP_imm i2) r2 n2 fun a m => (m2 a m).imp_right fun z w => z (List.mem_cons_of_mem _ (mem_at e4 w))
          refine ⟨n :: (fl.set p f3).flatten, ?_, ?_, fun a m => ?_⟩
          · rw [putAt_t e1 e2]
            refine RV.ofT ((ag n List.mem_cons_self fun z => nd.1 (inf n z)).trans hn) (immL_set (putAt_imm i2 e) e2) ?_
            exact fa_put (P := RV h b K') (f1 := f1) (F := fl.flatten) (fun a' b' c' z dz => z.frame fun m hm => ag m (List.mem_cons_of_mem _ (dz m hm).2) fun w => (dz m hm).1 (m' m w)) r3 q nd.2 (fun _ m => m) e4 e3
          · rw [List.nodup_cons]
            refine ⟨fun m => ?_, nd_set nd.2 n3 fun a m z => ?_⟩
            · rcases mem_set m with z | z
              · rcases m3 n z with z | z
                · rcases m2 n z with z | z
                  · exact nd.1 (inf n z)
                  · exact z List.mem_cons_self
                · exact nd.1 (mem_at e4 z.1)
              · exact nd.1 (mem_rest z)
            · rcases m3 a m with w | w
              · rcases m2 a w with w | w
                · exact dj a (m' a w) z
                · exact w (List.mem_cons_of_mem _ (mem_rest z))
              · exact dj a w.1 z
          · rcases List.mem_cons.mp m with rfl | m
            · exact .inr ⟨List.mem_cons_self, fun z => nd.1 (inf _ z)⟩
            · rcases mem_set m with z | z
              · exact (m3 a z).imp_right fun w => ⟨List.mem_cons_of_mem _ (mem_at e4 w.1), w.2⟩
              · exact .inr ⟨List.mem_cons_of_mem _ (mem_rest z), fun w => dj a (m' a w) z⟩
      · cases e
    · cases e

section
variable {D : List KD} {A A1 A2 : List Nat} {rb : Bool} {rk : Nat} {b b1 b2 bi fr fr1 fr2 : Bool} {k k1 k2 ki i j n m : Nat} {fa fb fo fi fe : FE} {ga gb gi ge : VE} {ra : FA} {qa : VA} {h0 h : AH} {fs0 fs : List (List Nat)} {sl : List SV} {vs : List VS}
/-- an owned list within a slot is changed -/
theorem Good.mut (G : Good D h0 fs0 h sl vs fs) {js : List Int} {x : PyData} {ds : List PyData} (e : D[i]? = some (b, js.length + (m + 1))) (ev : vs[i]? = some (.v x)) (eg : getAt js x = some (.list ds)) :
    ∃ s0 n xs fl, sl[i]? = some s0 ∧ walkR h js s0 = some (.r n) ∧ h[n]? = some (some (.lst xs)) ∧ Fa3 (RV h b m) xs ds fl ∧ fl.flatten.Nodup ∧ (∀ a ∈ fl.flatten, a ∈ fs.flatten) ∧ n ∉ fl.flatten ∧ n ∈ fs.flatten ∧
      ∀ xs2 ds2 fl2, Fa3 (RV h b m) xs2 ds2 fl2 → fl2.flatten.Nodup → (∀ a ∈ fl2.flatten, a ∈ fl.flatten ∨ (a ∉ fs.flatten ∧ (a ∈ fs0.flatten ∨ h0.length ≤ a))) →
        ∃ fs', Good D h0 fs0 (h.set n (some (.lst xs2))) sl (vs.set i (.v (putAt js (.list ds2) x))) fs' ∧ ∀ a ∈ fs'.flatten, a ∈ fl2.flatten ∨ (a ∈ fs.flatten ∧ a ∉ fl.flatten) := by
  obtain ⟨s0, v, f, e1, e2, e3, r⟩ := G.R.get e
  rw [ev] at e2
  cases e2
  have r : RV h b (js.length + (m + 1)) s0 x f := r
  obtain ⟨nf, dj⟩ := nd_at G.nd e3
  obtain ⟨s', f', w, r', n', m', put⟩ := foc r rfl nf eg
  obtain ⟨n, xs, fl, rfl, hn, rfl, q⟩ := r'.isL
  rw [List.nodup_cons] at n'
  have inf : ∀ a ∈ fl.flatten, a ∈ f := fun a z => m' a (List.mem_cons_of_mem _ z)
  have nfs : n ∈ fs.flatten := mem_at e3 (m' n List.mem_cons_self)
  refine ⟨s0, n, xs, fl, e1, w, hn, q, n'.2, fun a z => mem_at e3 (inf a z), n'.1, nfs, fun xs2 ds2 fl2 q2 n2 m2 => ?_⟩
  have hlt := (List.getElem?_eq_some_iff.mp hn).1
  have ne : ∀ a ∈ fl2.flatten, a ≠ n := fun a z w => by
    subst w
    rcases m2 a z with w | w
    · exact n'.1 w
    · exact w.1 nfs
  have rl : RV (h.set n (some (.lst xs2))) b (m + 1) (.r n) (.list ds2) (n :: fl2.flatten) := by
    refine RV.ofL (by rw [List.getElem?_set_self hlt]) ?_
    exact Fa3.imp (cs0 := fl2) (fun _ _ c hc z => z.frame fun a ha => List.getElem?_set_ne (Ne.symm (ne a (List.mem_flatten.mpr ⟨c, hc, ha⟩)))) (fun _ z => z) q2
  obtain ⟨f3, r3, n3, m3⟩ := put (h.set n (some (.lst xs2))) (.list ds2) (n :: fl2.flatten) (fun a ha z => List.getElem?_set_ne fun (e : n = a) => z (e ▸ List.mem_cons_self)) (okP_imm (by unfold imm; rfl)) rl (by rw [List.nodup_cons]; exact ⟨fun z => ne n z rfl, n2⟩) fun a ha => by
    rcases List.mem_cons.mp ha with rfl | ha
    · exact .inl List.mem_cons_self
    · rcases m2 a ha with z | z
      · exact .inl (List.mem_cons_of_mem _ z)
      · exact .inr fun w => z.1 (mem_at e3 w)
  have m4 : ∀ a ∈ f3, a ∈ fl2.flatten ∨ (a ∈ f ∧ a ∉ fl.flatten) := fun a ha => by
    rcases m3 a ha with z | z
    · rcases List.mem_cons.mp z with rfl | z
      · exact .inr ⟨m' a List.mem_cons_self, n'.1⟩
      · exact .inl z
    · exact .inr ⟨z.1, fun w => z.2 (List.mem_cons_of_mem _ w)⟩
  have ndr : ∀ a ∈ f3, a ∉ (fs.set i []).flatten := fun a ha z => by
    rcases m4 a ha with w | w
    · rcases m2 a w with u | u
      · exact dj a (inf a u) z
      · exact u.1 (mem_rest z)
    · exact dj a w.1 z
  have R1 : RSt (h.set n (some (.lst xs2))) D sl (vs.set i .un) (fs.set i []) := (G.R.drop i).frame fun a ha => List.getElem?_set_ne fun (e : n = a) => dj n (m' n List.mem_cons_self) (e ▸ ha)
  have R2 := R1.set (s' := s0) (v' := .v (putAt js (.list ds2) x)) (f' := f3) e r3
  have es : sl.set i s0 = sl := by
    obtain ⟨hi, e1⟩ := List.getElem?_eq_some_iff.mp e1
    rw [← e1]; exact List.set_getElem_self hi
  rw [es, List.set_set, List.set_set] at R2
  refine ⟨fs.set i f3, ⟨R2, nd_set G.nd n3 ndr, fun a ha => ?_, fun a ha hz => ?_, by rw [List.length_set]; exact G.le⟩, fun a ha => ?_⟩
  · rcases mem_set ha with z | z
    · rcases m4 a z with w | w
      · rcases m2 a w with u | u
        · exact G.old a (mem_at e3 (inf a u))
        · exact u.2
      · exact G.old a (mem_at e3 w.1)
    · exact G.old a (mem_rest z)
  · rw [List.getElem?_set_ne fun e => ?_, G.fr a ha hz]
    subst e
    rcases G.old n nfs with z | z
    · exact hz z
    · omega
  · rcases mem_set ha with z | z
    · exact (m4 a z).imp_right fun w => ⟨mem_at e3 w.1, w.2⟩
    · exact .inr ⟨mem_rest z, fun w => dj a (inf a w) z⟩
/-! paths -/
abbrev VP := List VS → Option (List Int)
def PV (D : List KD) (i n : Nat) (fo : FE) (gp : VP) : Prop := ∀ (h : AH) (sl : List SV) (vs : List VS) (fs : List (List Nat)), RSt h D sl vs fs → fs.flatten.Nodup → ∀ js, gp vs = some js → js.length = n ∧ ∀ x y, vs[i]? = some (.v x) → getAt js x = some y →
  ∃ s0 s t, sl[i]? = some s0 ∧ fo sl h = .ok s (h ++ t) ∧ walkR (h ++ t) js s0 = some s
def pVar : VP := fun _ => some []
def pIx (gp : VP) (ge : VE) : VP := fun vs => match gp vs with
  | some js => match ge vs with
    | .ok (.int j) _ => some (js ++ [j])
    | _ => none
  | none => none
theorem pv_var (e : D[i]? = some (b, k)) : PV D i 0 (Zx.fVar i) pVar := by
  intro h sl vs fs R nd js ej
  cases ej
  refine ⟨rfl, fun x y ev eg => ?_⟩
  obtain ⟨s, v, f, e1, e2, e3, r⟩ := R.get e
  rw [ev] at e2
  cases e2
  have r : RV h b k s x f := r
  refine ⟨s, s, [], e1, ?_, rfl⟩
  have hs : s ≠ .un := fun z => by
    subst z
    have := RV.rb (j := k) r (Nat.le_refl _)
    cases k <;> (unfold Zx.rb at this; cases this)
  rw [List.append_nil]
  unfold Zx.fVar
  rw [e1]
  cases s <;> first | rfl | exact absurd rfl hs
theorem getAt_snoc : ∀ {js : List Int} {j : Int} {x y : PyData}, getAt (js ++ [j]) x = some y → ∃ ds, (getAt js x = some (.list ds) ∨ (getAt js x = some (.tuple ds) ∧ immL ds = false)) ∧ atI ds j = some y
  | [], j, x, y, e => by
    have e : getAt [j] x = some y := e
    cases x with
    | list ds =>
      unfold getAt at e
      dsimp only at e
      split at e
      · rename_i d hd
        cases e
        exact ⟨ds, .inl rfl, hd⟩
      · cases e
    | tuple ds =>
      unfold getAt at e
      dsimp only at e
      split at e
      · rename_i c
        split at e
        · rename_i d hd
          cases e
          exact ⟨ds, .inr ⟨rfl, c⟩, hd⟩
        · cases e
      · cases e
    | none => cases e
    | bool _ => cases e
    | int _ => cases e
    | str _ => cases e
    | dict _ => cases e
  | a :: js, j, x, y, e => by
    have e : getAt (a :: (js ++ [j])) x = some y := e
    unfold getAt at e
    split at e
    · rename_i ds
      split at e
      · rename_i d hd
        obtain ⟨ds', h1, h2⟩ := getAt_snoc e
        refine ⟨ds', ?_, h2⟩
        unfold getAt
        dsimp only
        rw [hd]
        exact h1
      · cases e
    · rename_i ds
      split at e
      · rename_i c
        split at e
        · rename_i d hd
          obtain ⟨ds', h1, h2⟩ := getAt_snoc e
          refine ⟨ds', ?_, h2⟩
          unfold getAt
          dsimp only
          rw [if_pos c, hd]
          exact h1
        · cases e
      · cases e
    · cases e
theorem walkR_snoc {h : AH} : ∀ {js : List Int} {j : Int} {s s1 : SV} {n : Nat} {xs : List SV}, walkR h js s = some (.r n) → (h[n]? = some (some (.lst xs)) ∨ h[n]? = some (some (.tup xs))) → atI xs j = some s1 → walkR h (js ++ [j]) s = some s1
  | [], j, s, s1, n, xs, w, hn, e => by
    cases w
    show walkR h [j] (.r n) = some s1
    unfold walkR
    rcases hn with hn | hn <;> (rw [hn]; dsimp only; rw [e]; rfl)
  | a :: js, j, s, s1, n, xs, w, hn, e => by
    show walkR h (a :: (js ++ [j])) s = some s1
    unfold walkR at w ⊢
    cases s with
    | r m =>
      dsimp only at w ⊢
      split at w
      · rename_i ys hy
        split at w
        · rename_i s2 h2
          exact walkR_snoc w hn e
        · cases w
      · rename_i ys hy
        split at w
        · rename_i s2 h2
          exact walkR_snoc w hn e
        · cases w
      · cases w
    | un => cases w
    | d x => cases w
    | vw x => cases w
    | sc x => cases w
    | ex x => cases w
theorem pv_ix (hp : PV D i n fo gp) (he : EV D b1 k1 fr1 fe ge) (e : D[i]? = some (b, n + (m + 1))) : PV D i (n + 1) (Zx.fBin Zx.gIx fo fe) (pIx gp ge) := by
  intro h sl vs fs R nd js ej
  unfold pIx at ej
  split at ej
  · rename_i js' hj
    split at ej
    · rename_i j vs' hje
      cases ej
      obtain ⟨hl, c⟩ := hp h sl vs fs R nd js' hj
      refine ⟨by rw [List.length_append, hl]; rfl, fun x y ev eg => ?_⟩
      obtain ⟨ds, g1, g2⟩ := getAt_snoc eg
      obtain ⟨y', gy⟩ : ∃ y', getAt js' x = some y' := by
        rcases g1 with g | ⟨g, _⟩ <;> exact ⟨_, g⟩
      obtain ⟨s0, s, t, e1, e2, e3⟩ := c x y' ev gy
      have o := he (h ++ t) sl vs fs R.app nd
      rw [hje] at o
      obtain ⟨rfl, sj, t2, fp, e4, r4, _, _⟩ := o
      obtain ⟨rfl, _⟩ := r4.imm rfl
      have G : Good D h fs (h ++ t ++ t2) sl vs' fs := (Good.ext (t := t) R nd).app
      obtain ⟨s0', v, f, f1, fv, f3, rr⟩ := G.R.get e
      rw [ev] at fv
      cases fv
      have rr : RV (h ++ t ++ t2) b (n + (m + 1)) s0' x f := rr
      rw [e1] at f1
      cases f1
      obtain ⟨nf, _⟩ := nd_at G.nd f3
      obtain ⟨s', f', w, r', _⟩ := foc rr (by rw [hl]) nf gy
      have e5 := walkR_app (t := t2) e3
      rw [w] at e5
      cases e5
      have cell : ∃ n' xs fl, s = .r n' ∧ ((h ++ t ++ t2)[n']? = some (some (.lst xs)) ∨ (h ++ t ++ t2)[n']? = some (some (.tup xs))) ∧ Fa3 (RV (h ++ t ++ t2) b m) xs ds fl := by
        rcases g1 with g | ⟨g, ci⟩
        · cases gy.symm.trans g
          obtain ⟨n', xs, fl, rfl, hn, _, q⟩ := r'.isL
          exact ⟨n', xs, fl, rfl, .inl hn, q⟩
        · cases gy.symm.trans g
          obtain ⟨n', xs, fl, rfl, hn, _, q⟩ := r'.isT ci
          exact ⟨n', xs, fl, rfl, .inr hn, q⟩
      obtain ⟨n', xs, fl, rfl, hn, f4⟩ := cell
      obtain ⟨p, s1, c1, _, _, _, _, i5, _⟩ := fa_ix f4 g2
      refine ⟨s0, s1, t ++ t2, e1, ?_, ?_⟩
      · unfold Zx.fBin
        rw [e2]
        show ((fe sl (h ++ t)).bind fun y h2 => Zx.gIx (.r n') y h2) = _
        rw [e4]
        show Zx.gIx (.r n') (.d (.int j)) (h ++ t ++ t2) = _
        rw [List.append_assoc] at hn ⊢
        unfold Zx.gIx itemsOf
        dsimp only
        rcases hn with hn | hn <;> (rw [hn]; dsimp only; rw [i5])
      · rw [← List.append_assoc]
        exact walkR_snoc w hn i5
    · cases ej
  · cases ej

theorem fa_set {P : SV → PyData → List Nat → Prop} {as : List SV} {bs : List PyData} {cs : List (List Nat)} {a : SV} {y : PyData} {c : List Nat} (q : P a y c) (p : Nat) (r : Fa3 P as bs cs) : Fa3 P (as.set p a) (bs.set p y) (cs.set p c) := Fa3.set q p r
/-! methods -/
def KV (b : Bool) (m : Nat) (ba : Bool) (ka : Nat) (bo : Bool) (ko : Nat) (k : List SV → List SV → AH → Option (List SV × SV)) (kV : List PyData → List PyData → Option (List PyData × PyData)) : Prop :=
  ∀ (h : AH) (xs : List SV) (ds : List PyData) (fl : List (List Nat)) (ss : List SV) (as : List PyData) (fa : List (List Nat)) (ds2 : List PyData) (y : PyData), Fa3 (RV h b m) xs ds fl → Fa3 (RV h ba ka) ss as fa → (fl.flatten ++ fa.flatten).Nodup → kV ds as = some (ds2, y) →
    ∃ xs2 sy fl2 fy, k xs ss h = some (xs2, sy) ∧ Fa3 (RV h b m) xs2 ds2 fl2 ∧ RV h bo ko sy y fy ∧ (fl2.flatten ++ fy).Nodup ∧ ∀ a ∈ fl2.flatten ++ fy, a ∈ fl.flatten ++ fa.flatten
def fMt (i : Nat) (gp : VP) (kV : List PyData → List PyData → Option (List PyData × PyData)) (qa : VA) : VE := fun vs => match vs[i]?, gp vs with
  | some (.v x), some js => match getAt js x with
    | some (.list ds) => (qa vs).bind fun as vs => match kV ds as with
      | some p => .ok p.2 (vs.set i (.v (putAt js (.list p.1) x)))
      | none => .st
    | _ => .st
  | _, _ => .st
theorem xv_mt {ba bo : Bool} {ka ko : Nat} {kk : List SV → List SV → AH → Option (List SV × SV)} {kV : List PyData → List PyData → Option (List PyData × PyData)} {gp : VP} (hk : KV b m ba ka bo ko kk kV) (hp : PV D i n fo gp) (ha : AF D ba ka ra qa) (e : D[i]? = some (b, n + (m + 1))) :
    XV D bo ko (Zx.fBM Zx.kdL (Zx.gOwn kk) fo ra) (fMt i gp kV qa) := by
  intro h sl vs fs R nd
  unfold fMt
  split
  · rename_i x js ev ej
    split
    · rename_i ds eg
      obtain ⟨hl, c⟩ := hp h sl vs fs R nd js ej
      obtain ⟨s0, s, t, e1, e2, e3⟩ := c x _ ev eg
      obtain ⟨s0', n', xs, fl, f1, f2, f3, f4, f5, f6, f7, f8, _⟩ := (Good.ext (t := t) R nd).mut (js := js) (m := m) (by rw [hl]; exact e) ev eg
      rw [e1] at f1
      cases f1
      rw [e3] at f2
      cases f2
      have hkd : Zx.kdL (h ++ t) (.r n') = true := by
        unfold Zx.kdL lstOf
        dsimp only
        rw [f3]; rfl
      unfold Zx.fBM
      rw [e2]
      show OutX _ _ _ _ _ _ _ (if Zx.kdL (h ++ t) (.r n') = true then (ra sl (h ++ t)).bind fun ss h2 => Zx.gOwn kk (.r n') ss h2 else .st)
      rw [if_pos hkd]
      have o := ha (h ++ t) sl vs fs R.app nd
      generalize qa vs = rr at o ⊢
      generalize ra sl (h ++ t) = qq at o ⊢
      cases rr with
      | st => trivial
      | rz cc =>
        obtain ⟨t2, rfl⟩ := o
        exact ⟨t ++ t2, by rw [← List.append_assoc]; rfl⟩
      | ok as vs' =>
        obtain ⟨rfl, ss, t2, rfl, fa, q2, n2, z2⟩ := o
        show OutX _ _ _ _ _ _ (match kV ds as with | some p => .ok p.2 (vs'.set i (.v (putAt js (.list p.1) x))) | none => .st) (Zx.gOwn kk (.r n') ss (h ++ t ++ t2))
        cases ek : kV ds as with
        | none => trivial
        | some p =>
          obtain ⟨s0', n'', xs', fl', g1, g2, g3, g4, g5, g6, g7, g8, put⟩ := ((Good.ext (t := t) R nd).app (t := t2)).mut (js := js) (m := m) (by rw [hl]; exact e) ev eg
          rw [e1] at g1
          cases g1
          rw [walkR_app e3] at g2
          cases g2
          have fresh : ∀ a ∈ fa.flatten, h.length ≤ a ∧ a ∉ fs.flatten := fun a hm => by
            have h1 := z2 a hm
            rw [List.length_append] at h1
            exact ⟨by omega, fun z => absurd (R.lt a z) (by omega)⟩
          have dj : (fl'.flatten ++ fa.flatten).Nodup := by
            rw [List.nodup_append]
            exact ⟨g5, n2, fun a h1 b' h2 e => by subst e; exact (fresh a h2).2 (g6 a h1)⟩
          obtain ⟨xs2, sy, fl2, fy, k1, k2, k3, k4, k5⟩ := hk _ xs' ds fl' ss as fa p.1 p.2 g4 q2 dj ek
          rw [List.nodup_append] at k4
          have mm : ∀ a ∈ fl2.flatten ++ fy, a ∈ fl'.flatten ∨ (a ∉ fs.flatten ∧ h.length ≤ a) := fun a hm => by
            rcases List.mem_append.mp (k5 a hm) with z | z
            · exact .inl z
            · exact .inr ⟨(fresh a z).2, (fresh a z).1⟩
          obtain ⟨fs', G', m'⟩ := put xs2 p.1 fl2 k2 k4.1 fun a hm => (mm a (List.mem_append_left _ hm)).imp_right fun z => ⟨z.1, .inr z.2⟩
          have hgo : Zx.gOwn kk (.r n') ss (h ++ t ++ t2) = .ok sy ((h ++ t ++ t2).set n' (some (.lst xs2))) := by
            unfold Zx.gOwn
            dsimp only
            rw [g3]
            dsimp only
            rw [k1]
          rw [hgo]
          refine ⟨sy, _, fs', fy, rfl, G', k3.frame fun a hm => List.getElem?_set_ne fun (e : n' = a) => ?_, k4.2.1, fun a hm z => ?_, fun a hm => ?_⟩
          · subst e
            rcases mm n' (List.mem_append_right _ hm) with z | z
            · exact g7 z
            · exact z.1 g8
          · rcases m' a z with z | z
            · exact k4.2.2 a z a hm rfl
            · rcases mm a (List.mem_append_right _ hm) with w | w
              · exact z.2 w
              · exact w.1 z.1
          · rcases mm a (List.mem_append_right _ hm) with w | w
            · exact .inl (g6 a w)
            · exact .inr w.2
    · trivial
  · trivial
def kApp : List PyData → List PyData → Option (List PyData × PyData) := fun ds as => match as with
  | [x] => if ds.length < lim then some (ds ++ [x], .none) else none
  | _ => none
def kRev : List PyData → List PyData → Option (List PyData × PyData) := fun ds as => match as with
  | [] => some (ds.reverse, .none)
  | _ => none
def kClr : List PyData → List PyData → Option (List PyData × PyData) := fun _ as => match as with
  | [] => some ([], .none)
  | _ => none
def kPpA : List PyData → List PyData → Option (List PyData × PyData) := fun ds as => match as with
  | [.int i] => if inB i = true then match seqIndex? i ds.length with
      | some p => match ds[p]? with
        | some y => some (ds.eraseIdx p, y)
        | none => none
      | none => none
    else none
  | _ => none
def kPp : List PyData → List PyData → Option (List PyData × PyData) := fun ds as => match as with
  | [] => match ds[ds.length - 1]? with
    | some y => some (ds.dropLast, y)
    | none => none
  | _ => none
theorem fa_rev {α β γ : Type} {P : α → β → γ → Prop} : ∀ {as : List α} {bs : List β} {cs : List γ}, Fa3 P as bs cs → Fa3 P as.reverse bs.reverse cs.reverse
  | [], [], [], r => r
  | a :: as, b :: bs, c :: cs, ⟨h, r⟩ => by
    rw [List.reverse_cons, List.reverse_cons, List.reverse_cons]
    exact Fa3.app (show Fa3 P [a] [b] [c] from ⟨h, trivial⟩) (fa_rev r)
  | [], [], c :: cs, h => h.elim
  | [], b :: bs, [], h => h.elim
  | [], b :: bs, c :: cs, h => h.elim
  | a :: as, [], [], h => h.elim
  | a :: as, [], c :: cs, h => h.elim
  | a :: as, b :: bs, [], h => h.elim
theorem kv_rev : KV b m b1 k1 b2 k2 Zx.kReverse kRev := by
  intro h xs ds fl ss as fa ds2 y r q nd e
  unfold kRev at e
  split at e
  · cases e
    cases ss with
    | cons s ss => cases fa <;> exact q.elim
    | nil =>
      refine ⟨_, _, fl.reverse, [], rfl, fa_rev r, RV.dk rfl, ?_, fun a m => ?_⟩
      · rw [List.append_nil]
        rw [List.nodup_append] at nd
        have hp : fl.reverse.flatten.Perm fl.flatten := by
          exact (List.reverse_perm fl).flatten
        exact hp.nodup_iff.mpr nd.1
      · rw [List.append_nil] at m
        obtain ⟨l, h1, h2⟩ := List.mem_flatten.mp m
        exact List.mem_append_left _ (List.mem_flatten.mpr ⟨l, List.mem_reverse.mp h1, h2⟩)
  · cases e
theorem kv_clr : KV b m b1 k1 b2 k2 Zx.kClear kClr := by
  intro h xs ds fl ss as fa ds2 y r q nd e
  unfold kClr at e
  split at e
  · cases e
    cases ss with
    | cons s ss => cases fa <;> exact q.elim
    | nil => exact ⟨_, _, [], [], rfl, trivial, RV.dk rfl, List.nodup_nil, fun a m => by cases m⟩
  · cases e
theorem kv_app (hb : (!b1 || b) = true := by decide) : KV b m b1 m b2 k2 Zx.kAppend kApp := by
  intro h xs ds fl ss as fa ds2 y r q nd e
  unfold kApp at e
  split at e
  · rename_i x
    split at e
    · rename_i hlt
      cases e
      match ss, fa, q with
      | [s], [f], ⟨q1, _⟩ =>
        have hl := r.len.1
        refine ⟨xs ++ [s], .d .none, fl ++ [f], [], ?_, Fa3.app (show Fa3 (RV h b m) [s] [x] [f] from ⟨q1.bm hb, trivial⟩) r, RV.dk rfl, ?_, fun a m => ?_⟩
        · unfold Zx.kAppend
          dsimp only
          rw [if_pos (by omega)]
        · rw [List.append_nil, List.flatten_append]; exact nd
        · rw [List.append_nil, List.flatten_append] at m; exact m
      | [], [], q => exact q.elim
      | [], f :: fa, q => exact q.elim
      | s :: s2 :: ss, f :: f2 :: fa, q => exact q.2.elim
      | [s], f :: f2 :: fa, q => exact q.2.elim
      | s :: s2 :: ss, [f], q => exact q.2.elim
      | s :: ss, [], q => exact q.elim
    · cases e
  · cases e
theorem fl_erase : ∀ {fs : List (List Nat)} {p : Nat} {f : List Nat}, fs.flatten.Nodup → fs[p]? = some f → ((fs.eraseIdx p).flatten ++ f).Nodup ∧ ∀ a ∈ (fs.eraseIdx p).flatten ++ f, a ∈ fs.flatten
  | [], p, f, _, e => by simp at e
  | g :: fs, 0, f, nd, e => by
    cases e
    rw [List.flatten_cons] at nd
    show (fs.flatten ++ g).Nodup ∧ ∀ a ∈ fs.flatten ++ g, a ∈ g ++ fs.flatten
    exact ⟨(List.perm_append_comm).nodup_iff.mp nd, fun a m => (List.mem_append.mp m).elim (fun z => List.mem_append_right _ z) fun z => List.mem_append_left _ z⟩
  | g :: fs, p + 1, f, nd, e => by
    have e : fs[p]? = some f := e
    rw [List.flatten_cons, List.nodup_append] at nd
    obtain ⟨h1, h2⟩ := fl_erase nd.2.1 e
    show ((g ++ (fs.eraseIdx p).flatten) ++ f).Nodup ∧ ∀ a ∈ (g ++ (fs.eraseIdx p).flatten) ++ f, a ∈ g ++ fs.flatten
    rw [List.append_assoc]
    refine ⟨?_, fun a m => ?_⟩
    · rw [List.nodup_append]
      exact ⟨nd.1, h1, fun a ha c hc e => nd.2.2 a ha c (h2 c hc) e⟩
    · rcases List.mem_append.mp m with z | z
      · exact List.mem_append_left _ z
      · exact List.mem_append_right _ (h2 a z)
theorem kv_ppA : KV b m b1 k1 b m Zx.kPopAt kPpA := by
  intro h xs ds fl ss as fa ds2 y r q nd e
  unfold kPpA at e
  split at e
  · rename_i i
    split at e
    · rename_i hb
      split at e
      · rename_i p hp
        split at e
        · rename_i y' hy
          cases e
          rw [List.nodup_append] at nd
          obtain ⟨s, f, h1, h2, h3⟩ := r.get hy
          obtain ⟨n1, m1⟩ := fl_erase nd.1 h2
          match ss, fa, q with
          | [si], [fi], ⟨q1, _⟩ =>
            obtain ⟨rfl, _⟩ := q1.imm rfl
            refine ⟨xs.eraseIdx p, s, fl.eraseIdx p, f, ?_, Fa3.erase p r, h3, n1, fun a m => List.mem_append_left _ (m1 a m)⟩
            unfold Zx.kPopAt
            dsimp only
            rw [if_pos hb, r.len.1, hp]
            dsimp only
            rw [h1]
          | [], [], q => exact q.elim
          | [], f :: fa, q => exact q.elim
          | s :: s2 :: ss, f :: f2 :: fa, q => exact q.2.elim
          | [s], f :: f2 :: fa, q => exact q.2.elim
          | s :: s2 :: ss, [f], q => exact q.2.elim
          | s :: ss, [], q => exact q.elim
        · cases e
      · cases e
    · cases e
  · cases e
theorem eraseLast {α : Type} : ∀ l : List α, l.dropLast = l.eraseIdx (l.length - 1)
  | [] => rfl
  | [a] => rfl
  | a :: b :: l => by
    show a :: (b :: l).dropLast = a :: (b :: l).eraseIdx ((b :: l).length - 1)
    rw [eraseLast (b :: l)]
theorem kv_pp : KV b m b1 k1 b m Zx.kPop kPp := by
  intro h xs ds fl ss as fa ds2 y r q nd e
  unfold kPp at e
  split at e
  · split at e
    · rename_i y' hy
      cases e
      rw [List.nodup_append] at nd
      obtain ⟨s, f, h1, h2, h3⟩ := r.get hy
      obtain ⟨n1, m1⟩ := fl_erase nd.1 h2
      cases ss with
      | cons s ss => cases fa <;> exact q.elim
      | nil =>
        refine ⟨xs.dropLast, s, fl.eraseIdx (ds.length - 1), f, ?_, ?_, h3, n1, fun a m => List.mem_append_left _ (m1 a m)⟩
        · unfold Zx.kPop
          dsimp only
          rw [r.len.1, h1]
        · rw [eraseLast, eraseLast, r.len.1]
          exact Fa3.erase _ r
    · cases e
  · cases e
/-- xs.append(e), where e may change other lists -/
def fApp (i : Nat) (ga : VE) : VE := fun vs => match vs[i]? with
  | some (.v (.list _)) => (ga vs).bind fun x vs1 => match vs1[i]? with
    | some (.v (.list ds)) => if ds.length < lim then .ok .none (vs1.set i (.v (.list (ds ++ [x])))) else .st
    | _ => .st
  | _ => .st
theorem xv_app (ha : XV D b1 m fa ga) (e : D[i]? = some (b, m + 1) := by rfl) (hb : (!b1 || b) = true := by decide) : XV D bi ki (Zx.fBM Zx.kdL (Zx.gOwn Zx.kAppend) (Zx.fVar i) (Zx.fCons fa Zx.fNil)) (fApp i ga) := by
  intro h sl vs fs R nd
  unfold fApp
  split
  · rename_i ds0 ev
    obtain ⟨_, c⟩ := pv_var e h sl vs fs R nd [] rfl
    obtain ⟨s0, s, t, e1, e2, e3⟩ := c _ _ ev rfl
    cases e3
    obtain ⟨s0', n', xs, fl, f1, f2, f3, _⟩ := (Good.ext (t := t) R nd).mut (js := []) (m := m) (b := b) (by rw [e]; show some (b, m + 1) = some (b, 0 + (m + 1)); rw [Nat.zero_add]) ev rfl
    rw [e1] at f1
    cases f1
    cases f2
    have hkd : Zx.kdL (h ++ t) (.r n') = true := by
      unfold Zx.kdL lstOf
      dsimp only
      rw [f3]; rfl
    unfold Zx.fBM
    rw [e2]
    show OutX _ _ _ _ _ _ _ (if Zx.kdL (h ++ t) (.r n') = true then (Zx.fCons fa Zx.fNil sl (h ++ t)).bind fun ss h2 => Zx.gOwn Zx.kAppend (.r n') ss h2 else .st)
    rw [if_pos hkd]
    show OutX _ _ _ _ _ _ _ (((fa sl (h ++ t)).bind fun s h1 => .ok [s] h1).bind fun ss h2 => Zx.gOwn Zx.kAppend (.r n') ss h2)
    have o := ha (h ++ t) sl vs fs R.app nd
    generalize ga vs = rr at o ⊢
    generalize fa sl (h ++ t) = qq at o ⊢
    cases rr with
    | st => trivial
    | rz cc =>
      obtain ⟨t2, rfl⟩ := o
      exact ⟨t ++ t2, by rw [← List.append_assoc]; rfl⟩
    | ok x vs1 =>
      obtain ⟨sx, h1, fs1, fp, rfl, G1, r1, n1, d1, o1⟩ := o
      show OutX _ _ _ _ _ _ (match vs1[i]? with | some (.v (.list ds)) => if ds.length < lim then .ok .none (vs1.set i (.v (.list (ds ++ [x])))) else .st | _ => .st) (Zx.gOwn Zx.kAppend (.r n') [sx] h1)
      split
      · rename_i ds ev1
        split
        · rename_i hlt
          have G2 := (Good.ext (t := t) R nd).trans G1
          obtain ⟨s0', n'', xs', fl', g1, g2, g3, g4, g5, g6, g7, g8, put⟩ := G2.mut (js := []) (m := m) (b := b) (by rw [e]; show some (b, m + 1) = some (b, 0 + (m + 1)); rw [Nat.zero_add]) ev1 rfl
          rw [e1] at g1
          cases g1
          cases g2
          obtain ⟨fs', G', m'⟩ := put (xs' ++ [sx]) (ds ++ [x]) (fl' ++ [fp]) (Fa3.app (show Fa3 (RV h1 b m) [sx] [x] [fp] from ⟨r1.bm hb, trivial⟩) g4) (by
              rw [List.flatten_append, List.nodup_append]
              refine ⟨g5, by simpa using n1, fun a ha c hc e => ?_⟩
              subst e
              exact d1 a (by simpa using hc) (g6 a ha)) (fun a hm => by
              rw [List.flatten_append, List.mem_append] at hm
              refine hm.imp_right fun z => ?_
              have z : a ∈ fp := by simpa using z
              refine ⟨d1 a z, (o1 a z).imp_right fun w => ?_⟩
              rw [List.length_append] at w; omega)
          have hgo : Zx.gOwn Zx.kAppend (.r n') [sx] h1 = .ok (.d .none) (h1.set n' (some (.lst (xs' ++ [sx])))) := by
            have hl := g4.len.1
            unfold Zx.gOwn
            dsimp only
            rw [g3]
            show (match (if xs'.length < lim then some (xs' ++ [sx], SV.d .none) else none) with | some (ys, v) => Zx.R.ok v (h1.set n' (some (.lst ys))) | none => Zx.R.st) = _
            rw [if_pos (by omega)]
          rw [hgo]
          exact ⟨_, _, fs', [], rfl, G', RV.dk rfl, List.nodup_nil, (fun a m => by cases m), (fun a m => by cases m)⟩
        · trivial
      · trivial
  · trivial
/-! stores -/
def sStore (i : Nat) (gp : VP) (gi ge : VE) : VF := fun vs => (ge vs).thn vs fun x vs => match gp vs with
  | some js => match gi vs with
    | .ok (.int j) _ => match vs[i]? with
      | some (.v y) => match getAt js y with
        | some (.list ds) => match ixN ds.length j with
          | some p => .nx (vs.set i (.v (putAt js (.list (ds.set p x)) y)))
          | none => .st
        | _ => .st
      | _ => .st
    | _ => .st
  | none => .st
theorem sv_store {gp : VP} (hp : PV D i n fo gp) (hi : EV D b2 k2 fr2 fi gi) (he : XV D b1 m fe ge) (e : D[i]? = some (b, n + (m + 1)) := by rfl) (hb : (!b1 || b) = true := by decide) : SVp D [] rb rk (Zx.sStore fo fi fe) (sStore i gp gi ge) := by
  intro h sl vs fs R nd
  refine (he h sl vs fs R nd).thn R nd fun x vs1 s h1 fs1 fp G r n1 d o => ?_
  split
  · rename_i js ej
    split
    · rename_i j vs2 hij
      split
      · rename_i y ev
        split
        · rename_i ds eg
          split
          · rename_i p hpp
            obtain ⟨hl, c⟩ := hp h1 sl vs1 fs1 G.R G.nd js ej
            obtain ⟨s0, so, t, e1, e2, e3⟩ := c y _ ev eg
            rw [e2]
            have oi := hi (h1 ++ t) sl vs1 fs1 G.R.app G.nd
            rw [hij] at oi
            obtain ⟨rfl, sj, t2, fj, e4, r4, _, _⟩ := oi
            obtain ⟨rfl, _⟩ := r4.imm rfl
            show OutS _ _ _ _ _ _ _ _ ((fi sl (h1 ++ t)).thn sl fun t h3 => match putIx so t s h3 with | some h4 => .nx sl h4 | none => .st)
            rw [e4]
            obtain ⟨s0', n', xs, fl, g1, g2, g3, g4, g5, g6, g7, g8, put⟩ := ((G.app (t := t)).app (t := t2)).mut (js := js) (m := m) (by rw [hl]; exact e) ev eg
            rw [e1] at g1
            cases g1
            rw [walkR_app e3] at g2
            cases g2
            obtain ⟨fs', G', m'⟩ := put (xs.set p s) (ds.set p x) (fl.set p fp) (Fa3.set ((r.app.app).bm hb) p g4) (nd_set g5 n1 fun a ha z => d a ha (g6 a (mem_rest z))) (fun a hm => by
              rcases mem_set hm with z | z
              · exact .inr ⟨d a z, o a z⟩
              · exact .inl (mem_rest z))
            have hput : putIx (.r n') (.d (.int j)) s (h1 ++ t ++ t2) = some ((h1 ++ t ++ t2).set n' (some (.lst (xs.set p s)))) := by
              unfold putIx
              dsimp only
              rw [g3]
              dsimp only
              rw [g4.len.1, hpp]
            show OutS _ _ _ _ _ _ _ _ (match putIx (.r n') (.d (.int j)) s (h1 ++ t ++ t2) with | some h4 => .nx sl h4 | none => .st)
            rw [hput]
            exact ⟨sl, _, fs', rfl, G', Keep.same⟩
          · trivial
        · trivial
      · trivial
    · trivial
  · trivial
def sAugS (kk : Int → Int → Int) (i : Nat) (gp : VP) (gi ge : VE) : VF := fun vs => match gp vs with
  | some js => match gi vs with
    | .ok (.int j) _ => match vs[i]? with
      | some (.v y) => match getAt js y with
        | some (.list ds) => match ixN ds.length j with
          | some p => match ds[p]? with
            | some (.int a) => match ge vs with
              | .ok (.int c) _ => .nx (vs.set i (.v (putAt js (.list (ds.set p (.int (kk a c)))) y)))
              | _ => .st
            | _ => .st
          | none => .st
        | _ => .st
      | _ => .st
    | _ => .st
  | none => .st
theorem sv_augS {gp : VP} {kk : Int → Int → Int} (hp : PV D i n fo gp) (hi : EV D b2 k2 fr2 fi gi) (he : EV D b1 k1 fr1 fe ge) (e : D[i]? = some (b, n + (m + 1)) := by rfl) : SVp D [] rb rk (Zx.sAugS kk fo fi fe) (sAugS kk i gp gi ge) := by
  intro h sl vs fs R nd
  unfold sAugS
  split
  · rename_i js ej
    split
    · rename_i j vs2 hij
      split
      · rename_i y ev
        split
        · rename_i ds eg
          split
          · rename_i p hpp
            split
            · rename_i a hda
              split
              · rename_i c vs3 hec
                obtain ⟨hl, cc⟩ := hp h sl vs fs R nd js ej
                obtain ⟨s0, so, t, e1, e2, e3⟩ := cc y _ ev eg
                have oi := hi (h ++ t) sl vs fs R.app nd
                rw [hij] at oi
                obtain ⟨rfl, sj, t2, fj, e4, r4, _, _⟩ := oi
                obtain ⟨rfl, _⟩ := r4.imm rfl
                have oe := he (h ++ t ++ t2) sl _ fs (RSt.app (RSt.app R)) nd
                rw [hec] at oe
                obtain ⟨rfl, sc, t3, fc, e5, r5, _, _⟩ := oe
                obtain ⟨rfl, _⟩ := r5.imm rfl
                obtain ⟨s0', n', xs, fl, g1, g2, g3, g4, g5, g6, g7, g8, put⟩ := (((Good.ext (t := t) R nd).app (t := t2)).app (t := t3)).mut (js := js) (m := m) (by rw [hl]; exact e) ev eg
                obtain ⟨s1', n1', xs1, fl1, k1, k2, k3, k4, _⟩ := ((Good.ext (t := t) R nd).app (t := t2)).mut (js := js) (m := m) (by rw [hl]; exact e) ev eg
                rw [e1] at g1 k1
                cases g1
                cases k1
                rw [walkR_app (walkR_app e3)] at g2
                cases g2
                rw [walkR_app e3] at k2
                cases k2
                have exs : xs1 = xs := by
                  rw [List.getElem?_append_left (List.getElem?_eq_some_iff.mp k3).1, k3] at g3
                  cases g3; rfl
                subst exs
                obtain ⟨s1, f1, i1, i2, i3⟩ := g4.get hda
                obtain ⟨rfl, rfl⟩ := i3.imm rfl
                obtain ⟨fs', G', m'⟩ := put (xs1.set p (.d (.int (kk a c)))) (ds.set p (.int (kk a c))) (fl.set p []) (Fa3.set (RV.dk rfl) p g4) (nd_rest g5) (fun a hm => .inl (mem_rest hm))
                unfold Zx.sAugS
                rw [e2]
                show OutS _ _ _ _ _ _ _ _ ((fi sl (h ++ t)).thn sl fun t h2 => match t with
                  | .d (.int i) => match lstOf h2 (.r n') with
                    | some xs => match atI xs i with
                      | some (.d (.int a)) => (fe sl h2).thn sl fun v h3 => match v with
                        | .d (.int b) => match putIx (.r n') t (.d (.int (kk a b))) h3 with
                          | some h4 => .nx sl h4
                          | none => .st
                        | _ => .st
                      | _ => .st
                    | none => .st
                  | _ => .st)
                rw [e4]
                have hl1 : lstOf (h ++ t ++ t2) (.r n') = some xs1 := by unfold lstOf; dsimp only; rw [k3]
                have hat : atI xs1 j = some (.d (.int a)) := by
                  unfold atI
                  rw [g4.len.1, hpp]
                  exact i1
                show OutS _ _ _ _ _ _ _ _ (match lstOf (h ++ t ++ t2) (.r n') with
                    | some xs => match atI xs j with
                      | some (.d (.int a)) => (fe sl (h ++ t ++ t2)).thn sl fun v h3 => match v with
                        | .d (.int b) => match putIx (.r n') (.d (.int j)) (.d (.int (kk a b))) h3 with
                          | some h4 => .nx sl h4
                          | none => .st
                        | _ => .st
                      | _ => .st
                    | none => .st)
                rw [hl1]
                dsimp only
                rw [hat]
                dsimp only
                rw [e5]
                have hput : putIx (.r n') (.d (.int j)) (.d (.int (kk a c))) (h ++ t ++ t2 ++ t3) = some ((h ++ t ++ t2 ++ t3).set n' (some (.lst (xs1.set p (.d (.int (kk a c))))))) := by
                  unfold putIx
                  dsimp only
                  rw [g3]
                  dsimp only
                  rw [g4.len.1, hpp]
                show OutS _ _ _ _ _ _ _ _ (match putIx (.r n') (.d (.int j)) (.d (.int (kk a c))) (h ++ t ++ t2 ++ t3) with | some h4 => .nx sl h4 | none => .st)
                rw [hput]
                exact ⟨sl, _, fs', rfl, G', Keep.same⟩
              · trivial
            · trivial
          · trivial
        · trivial
      · trivial
    · trivial
  · trivial
end
end Zx.V

namespace Zx.V
open PySem PySem.Spec L2
/-! ## behind a turn -/
def resetV : List VS → List VS → List VS
  | a :: as, b :: bs => (match a with | .un => .un | _ => b) :: resetV as bs
  | _, bs => bs
theorem rv_un {h : AH} {b : Bool} {k : Nat} {x : PyData} {f : List Nat} (r : RV h b k .un x f) : False := by
  have := RV.rb (j := k) r (Nat.le_refl _)
  cases k <;> (unfold Zx.rb at this; cases this)
theorem reset_rst {h0 h : AH} : ∀ {D : List KD} {sl0 sl : List SV} {vs0 vs : List VS} {fs0 fs : List (List Nat)}, RSt h0 D sl0 vs0 fs0 → RSt h D sl vs fs → ∃ fs', RSt h D (reset sl0 sl) (resetV vs0 vs) fs' ∧ fs'.flatten.Sublist fs.flatten
  | [], sl0, sl, vs0, vs, fs0, fs, r0, r => by
    rw [r0.1, r0.2.1, r.1, r.2.1, r.2.2]
    exact ⟨[], ⟨rfl, rfl, rfl⟩, List.Sublist.refl _⟩
  | k :: D, sl0, sl, vs0, vs, fs0, fs, ⟨s0, sl0', v0, vs0', f0, fs0', a1, a2, a3, q1, q2⟩, ⟨s, sl', v, vs', f, fs', b1, b2, b3, r1, r2⟩ => by
    subst a1 a2 a3 b1 b2 b3
    obtain ⟨fs2, R2, m2⟩ := reset_rst q2 r2
    cases v0 with
    | un => exact ⟨[] :: fs2, ⟨_, _, .un, _, _, _, rfl, rfl, rfl, rfl, R2⟩, by rw [List.flatten_cons, List.flatten_cons]; exact List.Sublist.append (List.nil_sublist _) m2⟩
    | v x =>
      have hs : s0 ≠ .un := fun z => by subst z; exact rv_un q1
      refine ⟨f :: fs2, ⟨s, _, v, _, f, _, ?_, rfl, rfl, r1, R2⟩, by rw [List.flatten_cons, List.flatten_cons]; exact List.Sublist.append (List.Sublist.refl _) m2⟩
      cases s0 <;> first | rfl | exact absurd rfl hs
    | sc x =>
      obtain ⟨rfl, rfl⟩ := q1
      exact ⟨f :: fs2, ⟨s, _, v, _, f, _, rfl, rfl, rfl, r1, R2⟩, by rw [List.flatten_cons, List.flatten_cons]; exact List.Sublist.append (List.Sublist.refl _) m2⟩
    | ex x =>
      obtain ⟨rfl, rfl⟩ := q1
      exact ⟨f :: fs2, ⟨s, _, v, _, f, _, rfl, rfl, rfl, r1, R2⟩, by rw [List.flatten_cons, List.flatten_cons]; exact List.Sublist.append (List.Sublist.refl _) m2⟩
theorem RSt.below {h : AH} {L : Nat} (hL : (h.take L).all (belowO L) = true) : ∀ {D : List KD} {sl : List SV} {vs : List VS} {fs : List (List Nat)}, sl.all (Zx.below L) = true → RSt h D sl vs fs → ∀ n ∈ fs.flatten, n < L
  | [], sl, vs, fs, _, r, n, m => by rw [r.2.2] at m; cases m
  | k :: D, sl, vs, fs, c, ⟨s, sl', v, vs', f, fs', h1, h2, h3, r1, r2⟩, n, m => by
    subst h1 h2 h3
    rw [List.all_cons, Bool.and_eq_true] at c
    rcases List.mem_append.mp m with m | m
    · cases v with
      | un => rw [show f = [] from r1] at m; cases m
      | v x => exact RV.below hL r1 c.1 n m
      | sc x => rw [r1.2] at m; cases m
      | ex x => rw [r1.2] at m; cases m
    · exact RSt.below hL c.2 r2 n m
theorem norm_1 {sl0 : List SV} {L : Nat} {sl : List SV} {h : AH} : (norm sl0 L sl h).1 = reset sl0 sl := by
  unfold Zx.norm
  split <;> rfl
theorem norm_2 {sl0 : List SV} {L : Nat} {sl : List SV} {h : AH} : (norm sl0 L sl h).2 = h ∨ ((norm sl0 L sl h).2 = h.take L ∧ (h.take L).all (belowO L) = true ∧ (reset sl0 sl).all (Zx.below L) = true) := by
  unfold Zx.norm
  split
  · rename_i c
    unfold trimOk at c
    rw [Bool.and_eq_true] at c
    exact .inr ⟨rfl, c.1, c.2⟩
  · exact .inl rfl
theorem reset_keep {sl0 sl : List SV} {i : Nat} (e : sl[i]? = sl0[i]?) : (reset sl0 sl)[i]? = sl0[i]? := by
  induction sl0 generalizing sl i with
  | nil => unfold reset; exact e
  | cons a as ih =>
    cases sl with
    | nil => unfold reset; exact e
    | cons b bs =>
      unfold reset
      cases i with
      | zero =>
        have e' : b = a := Option.some.inj e
        subst e'
        cases b <;> rfl
      | succ i => exact ih (sl := bs) (i := i) e
section
variable {D : List KD} {A A1 A2 : List Nat} {rb : Bool} {rk : Nat} {b b1 b2 bi fr fr1 fr2 : Bool} {k k1 k2 ki i j n m : Nat} {fa fb fo fe : FE} {ga gb ge : VE} {ra : FA} {qa : VA} {h0 h : AH} {fs0 fs : List (List Nat)} {sl sl0 : List SV} {vs vs0 : List VS} {f f1 f2 : FS} {g g1 g2 : VF} {ft : FT} {gt : VT} {bd : Bd}
theorem Good.norm' {fs00 : List (List Nat)} (R0 : RSt h0 D sl0 vs0 fs00) (G : Good D h0 fs0 h sl vs fs) : ∃ fs', Good D h0 fs0 (norm sl0 h0.length sl h).2 (norm sl0 h0.length sl h).1 (resetV vs0 vs) fs' ∧ (∀ a ∈ fs'.flatten, a ∈ fs.flatten) ∧ ∀ (b : Bool) (k : Nat) (s : SV) (x : PyData) (F : List Nat), RV h b k s x F → Zx.below h0.length s = true → RV (norm sl0 h0.length sl h).2 b k s x F := by
  obtain ⟨fs', R, sb⟩ := reset_rst R0 G.R
  have G1 : Good D h0 fs0 h (reset sl0 sl) (resetV vs0 vs) fs' := G.sub R (sb.nodup G.nd) fun n m => sb.subset m
  rw [norm_1]
  rcases norm_2 (sl0 := sl0) (L := h0.length) (sl := sl) (h := h) with e | ⟨e, c1, c2⟩
  · rw [e]; exact ⟨fs', G1, fun n m => sb.subset m, fun b k s x F r _ => r⟩
  · rw [e]
    have hb := RSt.below c1 c2 R
    refine ⟨fs', ⟨R.frame fun n m => List.getElem?_take_of_lt (hb n m), G1.nd, G1.old, fun n hn hm => ?_, ?_⟩, fun n m => sb.subset m, fun b k s x F r c => r.cut (RV.below c1 r c)⟩
    · rw [List.getElem?_take_of_lt hn]; exact G1.fr n hn hm
    · rw [List.length_take]; have := G1.le; omega
theorem Good.norm {fs00 : List (List Nat)} (R0 : RSt h0 D sl0 vs0 fs00) (G : Good D h0 fs0 h sl vs fs) : ∃ fs', Good D h0 fs0 (norm sl0 h0.length sl h).2 (norm sl0 h0.length sl h).1 (resetV vs0 vs) fs' := (Good.norm' R0 G).imp fun _ z => z.1
def aftV (vs0 : List VS) (o : VO) (k : List VS → VO) : VO := match o with
  | .nx vs => k (resetV vs0 vs)
  | .ct vs => k (resetV vs0 vs)
  | .bk vs => .nx (resetV vs0 vs)
  | .rt x => .rt x
  | .rz c vs => .rz c vs
  | .st => .st
theorem aft_out {q : O} {r : VO} {K : List VS → VO} {K' : List SV → AH → O} (R0 : RSt h0 D sl0 vs0 fs0) (o : OutS D A rb rk h0 sl0 fs0 r q)
    (c : ∀ sl vs h fs, Good D h0 fs0 h sl vs fs → Keep A sl0 sl → OutS D A rb rk h0 sl0 fs0 (K vs) (K' sl h)) : OutS D A rb rk h0 sl0 fs0 (aftV vs0 r K) (aft sl0 h0.length q K') := by
  have kk : ∀ {sl' : List SV} {h' : AH}, Keep A sl0 sl' → Keep A sl0 (norm sl0 h0.length sl' h').1 := fun k => by
    rw [norm_1]
    exact fun i hi => reset_keep (k i hi)
  cases r with
  | nx vs' =>
    obtain ⟨sl', h', fs', rfl, G, K⟩ := o
    obtain ⟨fs'', G'⟩ := Good.norm R0 G
    exact c _ _ _ _ G' (kk K)
  | ct vs' =>
    obtain ⟨sl', h', fs', rfl, G, K⟩ := o
    obtain ⟨fs'', G'⟩ := Good.norm R0 G
    exact c _ _ _ _ G' (kk K)
  | bk vs' =>
    obtain ⟨sl', h', fs', rfl, G, K⟩ := o
    obtain ⟨fs'', G'⟩ := Good.norm R0 G
    exact ⟨_, _, _, rfl, G', kk K⟩
  | rz cc vs' =>
    obtain ⟨sl', h', fs', rfl, G, K⟩ := o
    exact ⟨_, _, _, rfl, G, K⟩
  | rt x =>
    obtain ⟨s, h', fp, rfl, r, n⟩ := o
    exact ⟨s, h', fp, rfl, r, n⟩
  | st => trivial
/-! ## for -/
def forV (vs0 : List VS) (bd : Bd) (body : VF) : List VI → List VS → VO
  | [], vs => .nx vs
  | x :: xs, vs => match goV bd x vs with
    | none => .st
    | some vs1 => aftV vs0 (body vs1) (forV vs0 bd body xs)
def sFor (gi : VSr) (bd : Bd) (body : VF) : VF := fun vs => (gi vs).thn vs fun l vs => forV vs bd body l vs
theorem forC_out (R0 : RSt h0 D sl0 vs0 fs0) (hb : SVp D A rb rk f g) (hbd : bdOk D b bd = true) : ∀ {its : List It1} {vis : List VI} {sl : List SV} {vs : List VS} {h : AH} {fs : List (List Nat)}, FI b its vis → Good D h0 fs0 h sl vs fs → Keep (bd.is ++ A) sl0 sl →
    OutS D (bd.is ++ A) rb rk h0 sl0 fs0 (forV vs0 bd g vis vs) (forC sl0 h0.length bd f its sl h)
  | [], [], sl, vs, h, fs, _, G, K => ⟨sl, h, fs, rfl, G, K⟩
  | [], y :: ys, sl, vs, h, fs, r, G, K => r.elim
  | x :: xs, [], sl, vs, h, fs, r, G, K => r.elim
  | x :: xs, y :: ys, sl, vs, h, fs, ⟨r1, r2⟩, G, K => by
    unfold forV
    split
    · trivial
    · rename_i vs1 e
      obtain ⟨sl1, fs1, e1, R1, n1, m1⟩ := go_ok hbd G.R G.nd r1 e
      unfold forC
      rw [e1]
      dsimp only
      have G1 := G.sub R1 n1 m1
      exact aft_out R0 (OutS.pre G1 (K.trans (keep_go e1).l) (fun i hi z => hi (List.mem_append_right _ z)) (hb h sl1 vs1 fs1 R1 n1)) fun sl2 vs2 h2 fs2 G2 K2 => forC_out R0 hb hbd r2 G2 K2
theorem sv_for {fi : List SV → AH → Zx.R Src} {gi : VSr} (hi : IV D b fi gi) (hb : SVp D A rb rk f g) (hbd : bdOk D b bd = true := by decide) : SVp D (bd.is ++ A) rb rk (Zx.sFor fi bd f) (sFor gi bd g) := by
  intro h sl vs fs R nd
  refine (hi h sl vs fs R nd).thn R nd fun l s t r => ?_
  obtain ⟨its, rfl, fi⟩ := r
  have G := Good.ext (t := t) R nd
  exact OutS.pre G Keep.same (fun _ hi => hi) (forC_out R.app hb hbd fi (Good.refl R.app nd) Keep.same)
/-! over an owned list whose items are data: read anew at each turn -/
def forVarV (vs0 : List VS) (l : Nat) (bd : Bd) (body : VF) : Nat → Nat → List VS → VO
  | 0, j, vs => match vs[l]? with
    | some (.v (.list ds)) => if ds.length ≤ j then .nx vs else .st
    | _ => .st
  | c + 1, j, vs => match vs[l]? with
    | some (.v (.list ds)) => match ds[j]? with
      | none => .nx vs
      | some x => match goV bd (.one x) vs with
        | none => .st
        | some vs1 => aftV vs0 (body vs1) (forVarV vs0 l bd body c (j + 1))
    | _ => .st
def sForVar (l : Nat) (bd : Bd) (body : VF) : VF := fun vs => match vs[l]? with
  | some (.v (.list ds)) => forVarV vs l bd body ds.length 0 vs
  | _ => .st
theorem slotL (e : D[i]? = some (b, m + 1)) (R : RSt h D sl vs fs) {ds : List PyData} (ev : vs[i]? = some (.v (.list ds))) : ∃ n xs fl, sl[i]? = some (.r n) ∧ fs[i]? = some (n :: fl.flatten) ∧ h[n]? = some (some (.lst xs)) ∧ Fa3 (RV h b m) xs ds fl := by
  obtain ⟨s, v, f, e1, e2, e3, r⟩ := R.get e
  rw [ev] at e2
  cases e2
  obtain ⟨n, xs, fl, rfl, hn, rfl, q⟩ := RV.isL r
  exact ⟨n, xs, fl, e1, e3, hn, q⟩
theorem forR_out {l n : Nat} (R0 : RSt h0 D sl0 vs0 fs0) (hb : SVp D A rb rk f g) (hbd : bdOk D b bd = true) (el : D[l]? = some (b, 1)) (hl : l ∉ bd.is ++ A) (hn : sl0[l]? = some (.r n)) : ∀ {c j : Nat} {sl : List SV} {vs : List VS} {h : AH} {fs : List (List Nat)}, Good D h0 fs0 h sl vs fs → Keep (bd.is ++ A) sl0 sl →
    OutS D (bd.is ++ A) rb rk h0 sl0 fs0 (forVarV vs0 l bd g c j vs) (forR sl0 h0.length bd f n c j sl h)
  | 0, j, sl, vs, h, fs, G, K => by
    unfold forVarV
    split
    · rename_i ds ev
      obtain ⟨n', xs, fl, e1, e2, e3, q⟩ := slotL el G.R ev
      rw [K l hl, hn] at e1
      cases e1
      unfold forR
      rw [e3]
      dsimp only
      rw [q.len.1]
      split
      · exact ⟨sl, h, fs, rfl, G, K⟩
      · trivial
    · trivial
  | c + 1, j, sl, vs, h, fs, G, K => by
    unfold forVarV
    split
    · rename_i ds ev
      obtain ⟨n', xs, fl, e1, e2, e3, q⟩ := slotL el G.R ev
      rw [K l hl, hn] at e1
      cases e1
      unfold forR
      rw [e3]
      dsimp only
      split
      · rename_i hx
        have hxs : xs[j]? = none := List.getElem?_eq_none_iff.mpr (by have := List.getElem?_eq_none_iff.mp hx; rw [q.len.1]; exact this)
        rw [hxs]
        exact ⟨sl, h, fs, rfl, G, K⟩
      · rename_i x hx
        obtain ⟨s, fx, e4, e5, rx⟩ := q.get hx
        rw [e4]
        dsimp only
        split
        · trivial
        · rename_i vs1 e
          obtain ⟨sl1, fs1, e6, R1, n1, m1⟩ := go_ok (it := .one s) hbd G.R G.nd (show RI b (.one s) (.one x) from rx.2) e
          rw [e6]
          dsimp only
          have G1 := G.sub R1 n1 m1
          exact aft_out R0 (OutS.pre G1 (K.trans (keep_go e6).l) (fun i hi z => hi (List.mem_append_right _ z)) (hb h sl1 vs1 fs1 R1 n1)) fun sl2 vs2 h2 fs2 G2 K2 => forR_out R0 hb hbd el hl hn G2 K2
    · trivial
theorem iSeq_var {l n : Nat} {xs : List SV} (e : sl[l]? = some (.r n)) (hn : h[n]? = some (some (.lst xs))) : Zx.iSeq (Zx.fVar l) sl h = .ok (.ow n) h := by
  unfold Zx.iSeq Zx.fVar
  rw [e]
  show (match h[n]? with | some (some (.lst _)) => Zx.R.ok (Src.ow n) h | _ => Zx.R.st) = _
  rw [hn]
theorem sv_forVar {l : Nat} (hb : SVp D A rb rk f g) (el : D[l]? = some (b, 1) := by rfl) (hbd : bdOk D b bd = true := by decide) (hl : l ∉ bd.is ++ A := by decide) : SVp D (bd.is ++ A) rb rk (Zx.sFor (Zx.iSeq (Zx.fVar l)) bd f) (sForVar l bd g) := by
  intro h sl vs fs R nd
  unfold sForVar
  split
  · rename_i ds ev
    obtain ⟨n, xs, fl, e1, e2, e3, q⟩ := slotL el R ev
    unfold Zx.sFor
    rw [iSeq_var e1 e3]
    show OutS _ _ _ _ _ _ _ _ (match h[n]? with | some (some (.lst xs)) => forR sl h.length bd f n xs.length 0 sl h | _ => .st)
    rw [e3]
    dsimp only
    rw [q.len.1]
    exact forR_out R hb hbd el hl e1 (Good.refl R nd) Keep.same
  · trivial
/-! over an owned list of owned items: each is lent to its name for a turn -/
def forOwnV (vs0 : List VS) (l i : Nat) (body : VF) : Nat → Nat → PyData → List VS → VO
  | 0, j, y, vs => match y with
    | .list ds => if ds.length ≤ j then .nx (vs.set l (.v y)) else .st
    | _ => .st
  | c + 1, j, y, vs => match getAt [(j : Int)] y with
    | none => .st
    | some x => match body (vs.set i (.v x)) with
      | .nx vs' => match vs'[i]? with
        | some (.v x') => forOwnV vs0 l i body c (j + 1) (putAt [(j : Int)] x' y) (resetV vs0 (vs'.set i .un))
        | _ => .st
      | .ct vs' => match vs'[i]? with
        | some (.v x') => forOwnV vs0 l i body c (j + 1) (putAt [(j : Int)] x' y) (resetV vs0 (vs'.set i .un))
        | _ => .st
      | .bk vs' => match vs'[i]? with
        | some (.v x') => .nx ((resetV vs0 (vs'.set i .un)).set l (.v (putAt [(j : Int)] x' y)))
        | _ => .st
      | .rt x => .rt x
      | _ => .st
def sForOwn (l i : Nat) (body : VF) : VF := fun vs => match vs[l]? with
  | some (.v (.list ds)) => forOwnV (vs.set l .un) l i body ds.length 0 (.list ds) (vs.set l .un)
  | _ => .st
theorem atI_nat {α : Type} {xs : List α} {j : Nat} {s : α} (e : atI xs (j : Int) = some s) : xs[j]? = some s := by
  rw [atI_0 (by omega)] at e
  simpa using e
theorem lent (G : Good D h0 fs0 h sl vs fs) (K : Keep (i :: A) sl0 sl) (hs : sl0[l]? = some (.r n)) (hl : l ∉ i :: A) (ei : D[i]? = some (b, m)) (hi : i ∉ A) {y : PyData} {F : List Nat} (rl : RV h b (m + 1) (.r n) y F) (nF : F.Nodup) (dF : ∀ a ∈ F, a ∉ fs.flatten) (oF : ∀ a ∈ F, a ∈ fs0.flatten ∨ h0.length ≤ a) {j : Nat} {x : PyData} (ex : getAt [(j : Int)] y = some x) (hy : ∃ ds, y = .list ds) :
    ∃ xs s f', h[n]? = some (some (.lst xs)) ∧ xs[j]? = some s ∧ RSt h D (sl.set i s) (vs.set i (.v x)) (fs.set i f') ∧ (fs.set i f').flatten.Nodup ∧ Good D h0 fs0 h (sl.set i s) (vs.set i (.v x)) (fs.set i f') ∧
      ∀ sl2 h2 vs' fs2 x', Good D h (fs.set i f') h2 sl2 vs' fs2 → Keep A (sl.set i s) sl2 → vs'[i]? = some (.v x') →
        ∃ fs3 F3, Good D h0 fs0 h2 sl2 (vs'.set i .un) fs3 ∧ Keep (i :: A) sl0 sl2 ∧ RV h2 b (m + 1) (.r n) (putAt [(j : Int)] x' y) F3 ∧ F3.Nodup ∧ (∀ a ∈ F3, a ∉ fs3.flatten) ∧ ∀ a ∈ F3, a ∈ fs0.flatten ∨ h0.length ≤ a := by
  obtain ⟨s, f', w, r', n', m', put⟩ := foc (js := [(j : Int)]) (k := m) rl (by show m + 1 = 1 + m; omega) nF ex
  obtain ⟨ds, rfl⟩ := hy
  obtain ⟨n1, xs1, fl1, e1, hn1, _, _⟩ := rl.isL
  cases e1
  have okx : ∀ x2, okP [(j : Int)] x2 (.list ds) := fun x2 d _ => trivial
  unfold walkR at w
  split at w
  · rename_i xs hx
    split at w
    · rename_i s1 h1
      cases w
      have d' : ∀ a ∈ f', a ∉ fs.flatten := fun a z => dF a (m' a z)
      have R1 : RSt h D (sl.set i s) (vs.set i (.v x)) (fs.set i f') := G.R.set ei r'
      have nd1 : (fs.set i f').flatten.Nodup := nd_set G.nd n' fun a z w => d' a z (mem_rest w)
      have G1 : Good D h0 fs0 h (sl.set i s) (vs.set i (.v x)) (fs.set i f') := G.put ei r' n' d' fun a z => oF a (m' a z)
      refine ⟨xs, s, f', hx, atI_nat h1, R1, nd1, G1, fun sl2 h2 vs' fs2 x' Gb Kb ev => ?_⟩
      obtain ⟨s2, v2, f2, c1, c2, c3, r2⟩ := Gb.R.get ei
      rw [ev] at c2
      cases c2
      have hlen : i < sl.length := by
        have := G.R.len.1
        have := (List.getElem?_eq_some_iff.mp ei).1
        omega
      rw [Kb i hi, List.getElem?_set_self hlen] at c1
      cases c1
      have r2 : RV h2 b m s x' f2 := r2
      obtain ⟨nf2, dj2⟩ := nd_at Gb.nd c3
      have inF : ∀ a ∈ F, a ∉ f' → a ∉ fs2.flatten := fun a z w u => by
        rcases Gb.old a u with u | u
        · rcases mem_set u with u | u
          · exact w u
          · exact dF a z (mem_rest u)
        · exact absurd (rl.lt a z) (by omega)
      obtain ⟨f3, r3, n3, m3⟩ := put h2 x' f2 (fun a z w => Gb.fr a (rl.lt a z) fun u => (mem_set u).elim w fun u => dF a z (mem_rest u)) (okx x') r2 nf2 fun a z => by
        rcases Gb.old a (mem_at c3 z) with u | u
        · rcases mem_set u with u | u
          · exact .inl u
          · exact .inr fun w => dF a w (mem_rest u)
        · exact .inr fun w => absurd (rl.lt a w) (by omega)
      have G2 := G1.trans Gb
      refine ⟨fs2.set i [], f3, G2.sub (Gb.R.drop i) (nd_rest Gb.nd) (fun a z => mem_rest z), (K.trans (Keep.l (A2 := A) (Keep.set (i := i) (s := s)))).trans (Keep.r (A1 := [i]) Kb), r3, n3, fun a z w => ?_, fun a z => ?_⟩
      · rcases m3 a z with u | u
        · exact dj2 a u w
        · exact inF a u.1 u.2 (mem_rest w)
      · rcases m3 a z with u | u
        · exact G2.old a (mem_at c3 u)
        · exact oF a u.1
    · cases w
  · rename_i xs hx
    rw [hn1] at hx; cases hx
  · cases w
theorem forOwn_out {l n : Nat} {fs00 : List (List Nat)} (R0 : RSt h0 D sl0 vs0 fs00) (hb : SVp D A rb rk f g) (el : D[l]? = some (b, m + 1)) (ei : D[i]? = some (b, m)) (hl : l ∉ i :: A) (hi : i ∉ A) (hn : sl0[l]? = some (.r n)) (hnl : n < h0.length) : ∀ {c j : Nat} {sl : List SV} {vs : List VS} {h : AH} {fs : List (List Nat)} {y : PyData} {F : List Nat}, Good D h0 fs0 h sl vs fs → Keep (i :: A) sl0 sl →
    RV h b (m + 1) (.r n) y F → F.Nodup → (∀ a ∈ F, a ∉ fs.flatten) → (∀ a ∈ F, a ∈ fs0.flatten ∨ h0.length ≤ a) → (∃ ds, y = .list ds) →
    OutS D (i :: A) rb rk h0 sl0 fs0 (forOwnV vs0 l i g c j y vs) (forR sl0 h0.length (.nm i) f n c j sl h)
  | 0, j, sl, vs, h, fs, y, F, G, K, rl, nF, dF, oF, _ => by
    unfold forOwnV
    split
    · rename_i ds
      obtain ⟨n', xs, fl, e1, e2, e3, q⟩ := rl.isL
      cases e1
      unfold forR
      rw [e2]
      dsimp only
      rw [q.len.1]
      split
      · have es : sl.set l (.r n) = sl := by
          have e1 := (K l hl).trans hn
          obtain ⟨hi, e1⟩ := List.getElem?_eq_some_iff.mp e1
          rw [← e1]; exact List.set_getElem_self hi
        have := G.put el rl nF dF oF
        rw [es] at this
        exact ⟨sl, h, _, rfl, this, K⟩
      · trivial
    · trivial
  | c + 1, j, sl, vs, h, fs, y, F, G, K, rl, nF, dF, oF, hy => by
    have hy2 : ∀ x', ∃ ds, putAt [(j : Int)] x' y = .list ds := fun x' => by
      obtain ⟨ds, rfl⟩ := hy
      unfold putAt
      dsimp only
      split
      · split <;> exact ⟨_, rfl⟩
      · exact ⟨_, rfl⟩
    unfold forOwnV
    split
    · trivial
    · rename_i x ex
      obtain ⟨xs, s, f', hx, hxs, R1, nd1, G1, back⟩ := lent G K hn hl ei hi rl nF dF oF ex hy
      have o := hb h _ _ _ R1 nd1
      unfold forR
      rw [hx]
      dsimp only
      rw [hxs]
      show OutS _ _ _ _ _ _ _ _ (aft sl0 h0.length (f (sl.set i s) h) (forR sl0 h0.length (.nm i) f n c (j + 1)))
      generalize g (vs.set i (.v x)) = r at o ⊢
      generalize f (sl.set i s) h = q at o ⊢
      have kk : ∀ {sl' : List SV} {h' : AH}, Keep (i :: A) sl0 sl' → Keep (i :: A) sl0 (norm sl0 h0.length sl' h').1 := fun k => by
        rw [norm_1]
        exact fun i hi => reset_keep (k i hi)
      have hbel : Zx.below h0.length (.r n) = true := decide_eq_true hnl
      cases r with
      | nx vs' =>
        obtain ⟨sl2, h2, fs2, rfl, Gb, Kb⟩ := o
        dsimp only
        split
        · rename_i x' ev
          obtain ⟨fs3, F3, G3, K3, r3, n3, d3, o3⟩ := back sl2 h2 vs' fs2 x' Gb Kb ev
          obtain ⟨fs4, G4, m4, r4⟩ := Good.norm' R0 G3
          exact forOwn_out R0 hb el ei hl hi hn hnl G4 (kk K3) (r4 _ _ _ _ _ r3 hbel) n3 (fun a z w => d3 a z (m4 a w)) o3 (hy2 x')
        · trivial
      | ct vs' =>
        obtain ⟨sl2, h2, fs2, rfl, Gb, Kb⟩ := o
        dsimp only
        split
        · rename_i x' ev
          obtain ⟨fs3, F3, G3, K3, r3, n3, d3, o3⟩ := back sl2 h2 vs' fs2 x' Gb Kb ev
          obtain ⟨fs4, G4, m4, r4⟩ := Good.norm' R0 G3
          exact forOwn_out R0 hb el ei hl hi hn hnl G4 (kk K3) (r4 _ _ _ _ _ r3 hbel) n3 (fun a z w => d3 a z (m4 a w)) o3 (hy2 x')
        · trivial
      | bk vs' =>
        obtain ⟨sl2, h2, fs2, rfl, Gb, Kb⟩ := o
        dsimp only
        split
        · rename_i x' ev
          obtain ⟨fs3, F3, G3, K3, r3, n3, d3, o3⟩ := back sl2 h2 vs' fs2 x' Gb Kb ev
          obtain ⟨fs4, G4, m4, r4⟩ := Good.norm' R0 G3
          have es : (norm sl0 h0.length sl2 h2).1.set l (.r n) = (norm sl0 h0.length sl2 h2).1 := by
            have e1 := (kk (h' := h2) K3 l hl).trans hn
            obtain ⟨hi, e1⟩ := List.getElem?_eq_some_iff.mp e1
            rw [← e1]; exact List.set_getElem_self hi
          have := G4.put el (r4 _ _ _ _ _ r3 hbel) n3 (fun a z w => d3 a z (m4 a w)) o3
          rw [es] at this
          exact ⟨_, _, _, rfl, this, kk K3⟩
        · trivial
      | rt x =>
        obtain ⟨s, h', fp, rfl, r, n, z⟩ := o
        exact ⟨s, h', fp, rfl, r, n, RtG.pre G1 z⟩
      | rz c v => trivial
      | st => trivial
theorem sv_forOwn {l : Nat} (hb : SVp D A rb rk f g) (el : D[l]? = some (b, m + 1) := by rfl) (ei : D[i]? = some (b, m) := by rfl) (hl : l ∉ i :: A := by decide) (hi : i ∉ A := by decide) : SVp D (i :: A) rb rk (Zx.sFor (Zx.iSeq (Zx.fVar l)) (.nm i) f) (sForOwn l i g) := by
  intro h sl vs fs R nd
  unfold sForOwn
  split
  · rename_i ds ev
    obtain ⟨n, xs, fl, e1, e2, e3, q⟩ := slotL el R ev
    unfold Zx.sFor
    rw [iSeq_var e1 e3]
    show OutS _ _ _ _ _ _ _ _ (match h[n]? with | some (some (.lst xs)) => forR sl h.length (.nm i) f n xs.length 0 sl h | _ => .st)
    rw [e3]
    dsimp only
    rw [q.len.1]
    obtain ⟨n1, d1⟩ := nd_at nd e2
    exact forOwn_out (R.drop l) hb el ei hl hi e1 (List.getElem?_eq_some_iff.mp e3).1 ((Good.refl R nd).sub (R.drop l) (nd_rest nd) fun a z => mem_rest z) Keep.same (RV.ofL e3 q) n1 d1 (fun a z => .inl (mem_at e2 z)) ⟨ds, rfl⟩
  · trivial
/-! over a fresh list -/
def sForF (ge : VE) (bd : Bd) (body : VF) : VF := fun vs => (ge vs).thn vs fun x vs => match x with
  | .list ds => forV vs bd body (ds.map .one) vs
  | _ => .st
theorem forRF_out {n : Nat} {xs : List SV} (R0 : RSt h0 D sl0 vs0 fs0) (hb : SVp D A rb rk f g) (hbd : bdOk D b bd = true) (hn : h0[n]? = some (some (.lst xs))) (hnf : n ∉ fs0.flatten) : ∀ {c j : Nat} {ds : List PyData} {fl : List (List Nat)} {sl : List SV} {vs : List VS} {h : AH} {fs : List (List Nat)}, c + j = xs.length → Fa3 (RV h0 b 0) (xs.drop j) ds fl → Good D h0 fs0 h sl vs fs → Keep (bd.is ++ A) sl0 sl →
    OutS D (bd.is ++ A) rb rk h0 sl0 fs0 (forV vs0 bd g (ds.map .one) vs) (forR sl0 h0.length bd f n c j sl h)
  | 0, j, ds, fl, sl, vs, h, fs, hc, q, G, K => by
    have hcell := (G.fr n (List.getElem?_eq_some_iff.mp hn).1 hnf).trans hn
    rw [List.drop_eq_nil_of_le (by omega)] at q
    cases ds with
    | cons d ds => cases fl <;> exact q.elim
    | nil =>
      unfold forR
      rw [hcell]
      dsimp only
      rw [if_pos (by omega)]
      exact ⟨sl, h, fs, rfl, G, K⟩
  | c + 1, j, ds, fl, sl, vs, h, fs, hc, q, G, K => by
    have hcell := (G.fr n (List.getElem?_eq_some_iff.mp hn).1 hnf).trans hn
    have hj : j < xs.length := by omega
    rw [List.drop_eq_getElem_cons hj] at q
    match ds, fl, q with
    | d :: ds, f1 :: fl, ⟨q1, q2⟩ =>
      unfold forR
      rw [hcell]
      dsimp only
      rw [List.getElem?_eq_getElem hj]
      dsimp only
      rw [List.map_cons]
      unfold forV
      split
      · trivial
      · rename_i vs1 e
        obtain ⟨sl1, fs1, e1, R1, n1, m1⟩ := go_ok (it := .one xs[j]) hbd G.R G.nd (show RI b (.one xs[j]) (.one d) from q1.2) e
        rw [e1]
        dsimp only
        have G1 := G.sub R1 n1 m1
        exact aft_out R0 (OutS.pre G1 (K.trans (keep_go e1).l) (fun i hi z => hi (List.mem_append_right _ z)) (hb h sl1 vs1 fs1 R1 n1)) fun sl2 vs2 h2 fs2 G2 K2 => forRF_out R0 hb hbd hn hnf (by omega) q2 G2 K2
    | [], [], q => exact q.elim
    | [], f1 :: fl, q => exact q.elim
    | d :: ds, [], q => exact q.elim
theorem sv_forF (he : EV D b 1 true fe ge) (hb : SVp D A rb rk f g) (hbd : bdOk D b bd = true := by decide) : SVp D (bd.is ++ A) rb rk (Zx.sFor (Zx.iSeq fe) bd f) (sForF ge bd g) := by
  intro h sl vs fs R nd
  have o := he h sl vs fs R nd
  unfold sForF Zx.sFor Zx.iSeq
  generalize ge vs = rr at o ⊢
  generalize fe sl h = qq at o ⊢
  cases rr with
  | st => trivial
  | rz cc =>
    obtain ⟨t2, rfl⟩ := o
    exact ⟨sl, _, fs, rfl, Good.ext R nd, Keep.same⟩
  | ok x vs' =>
    obtain ⟨rfl, s, t, fp, rfl, r, n1, z⟩ := o
    cases x
    case list ds =>
      obtain ⟨n, xs, fl, rfl, hn, rfl, q⟩ := r.isL
      have hx : (match (h ++ t)[n]? with | some (some (AO.lst _)) => Zx.R.ok (Src.ow n) (h ++ t) | _ => Zx.R.st) = .ok (.ow n) (h ++ t) := by rw [hn]
      show OutS _ _ _ _ _ _ _ (forV vs' bd g (ds.map .one) vs') ((match (h ++ t)[n]? with | some (some (AO.lst _)) => Zx.R.ok (Src.ow n) (h ++ t) | _ => Zx.R.st).thn sl fun s h1 => match s with
        | .cn l => forC sl h1.length bd f l sl h1
        | .ow n => match h1[n]? with
          | some (some (.lst xs)) => forR sl h1.length bd f n xs.length 0 sl h1
          | _ => .st)
      rw [hx]
      show OutS _ _ _ _ _ _ _ _ (match (h ++ t)[n]? with
          | some (some (.lst xs)) => forR sl (h ++ t).length bd f n xs.length 0 sl (h ++ t)
          | _ => .st)
      rw [hn]
      dsimp only
      have G := Good.ext (t := t) R nd
      refine OutS.pre G Keep.same (fun _ hi => hi) (forRF_out R.app hb hbd hn (fun w => ?_) (by omega) (by rw [List.drop_zero]; exact q) (Good.refl R.app nd) Keep.same)
      have h1 := R.lt n w
      have h2 := z rfl n List.mem_cons_self
      omega
    all_goals trivial
/-! while -/
def whV (vs0 : List VS) (gt : VT) (body : VF) : Nat → List VS → VO
  | 0, _ => .st
  | k + 1, vs => (gt vs).thn vs fun c vs => if c = true then aftV vs0 (body vs) (whV vs0 gt body k) else .nx vs
def sWhile (fuel : Nat) (gt : VT) (body : VF) : VF := fun vs => whV vs gt body fuel vs
theorem wh_out (R0 : RSt h0 D sl0 vs0 fs0) (ht : TV D ft gt) (hb : SVp D A rb rk f g) : ∀ {c : Nat} {sl : List SV} {vs : List VS} {h : AH} {fs : List (List Nat)}, Good D h0 fs0 h sl vs fs → Keep A sl0 sl → OutS D A rb rk h0 sl0 fs0 (whV vs0 gt g c vs) (whL sl0 h0.length ft f c sl h)
  | 0, sl, vs, h, fs, G, K => trivial
  | c + 1, sl, vs, h, fs, G, K => by
    unfold whV whL
    have o := ht h sl vs fs G.R G.nd
    generalize gt vs = rr at o ⊢
    generalize ft sl h = qq at o ⊢
    cases rr with
    | st => trivial
    | rz cc =>
      obtain ⟨t, rfl⟩ := o
      exact ⟨sl, _, fs, rfl, G.app, K⟩
    | ok x vs' =>
      obtain ⟨rfl, a, t, rfl, e⟩ := o
      subst e
      cases a with
      | false => exact ⟨sl, h ++ t, fs, rfl, G.app, K⟩
      | true => exact aft_out R0 (OutS.pre G.app K (fun _ hi => hi) (hb (h ++ t) sl vs' fs G.R.app G.nd)) fun sl2 vs2 h2 fs2 G2 K2 => wh_out R0 ht hb G2 K2
theorem sv_while {fuel : Nat} (ht : TV D ft gt) (hb : SVp D A rb rk f g) : SVp D A rb rk (Zx.sWhile fuel ft f) (sWhile fuel gt g) := fun h sl vs fs R nd => wh_out R ht hb (Good.refl R nd) Keep.same
/-! d[k] = x -/
def sDStore (i : Nat) (gi ge : VE) : VF := fun vs => (ge vs).thn vs fun x vs => match gi vs with
  | .ok y _ => match keyP y with
    | some key => match vs[i]? with
      | some (.v (.dict ps)) => match toL ps with
        | some l => if l.length < 1000 then .nx (vs.set i (.v (.dict (dK (putL l key x))))) else .st
        | none => .st
      | _ => .st
    | none => .st
  | _ => .st
theorem DV.len {kvs : List (Key × SV)} {l : List (Key × PyData)} {fs : List (List Nat)} (d : DV h b k kvs l fs) : kvs.length = l.length := by
  have := congrArg List.length d.1
  rwa [List.length_map, List.length_map] at this
theorem DV.put0 {s : SV} {x : PyData} (lf : leaf b s x) : ∀ {kvs : List (Key × SV)} {l : List (Key × PyData)} {fs : List (List Nat)} (key : Key), DV h b 0 kvs l fs → DV h b 0 (setS kvs key s) (setL l key x) fs
  | [], [], fs, key, d => d
  | p :: kvs, [], fs, key, d => by cases d.1
  | [], p :: l, fs, key, d => by cases d.1
  | p :: kvs, q :: l, [], key, d => d.2.elim
  | p :: kvs, q :: l, f :: fs, key, ⟨d1, d2, d3⟩ => by
    have e1 : p.1 = q.1 := (List.cons.inj d1).1
    have e2 : kvs.map Prod.fst = l.map Prod.fst := (List.cons.inj d1).2
    obtain ⟨z1, z2⟩ := DV.put0 lf key ⟨e2, d3⟩
    unfold setS setL
    rw [e1]
    by_cases h : q.1 = key
    · rw [if_pos h, if_pos h]
      refine ⟨?_, ⟨d2.1, lf⟩, z2⟩
      rw [List.map_cons, List.map_cons, z1]
    · rw [if_neg h, if_neg h]
      refine ⟨?_, d2, z2⟩
      rw [List.map_cons, List.map_cons, z1, e1]
theorem DV.put {s : SV} {x : PyData} (lf : leaf b s x) {kvs : List (Key × SV)} {l : List (Key × PyData)} {fs : List (List Nat)} (key : Key) (d : DV h b 0 kvs l fs) : ∃ fs', DV h b 0 (putS kvs key s) (putL l key x) fs' := by
  unfold putS putL
  rcases DV.val key d with ⟨z1, z2⟩ | ⟨s', x', f, j, z1, z2, _, _⟩
  · rw [z1, z2]
    refine ⟨fs ++ [[]], ?_, ?_⟩
    · rw [List.map_append, List.map_append, d.1]; rfl
    · rw [List.map_append, List.map_append]
      exact Fa3.app (show Fa3 (RV h b 0) [s] [x] [[]] from ⟨⟨rfl, lf⟩, trivial⟩) d.2
  · rw [z1, z2]
    exact ⟨fs, DV.put0 lf key d⟩
theorem slotD (e : D[i]? = some (b, m + 1)) (R : RSt h D sl vs fs) {l : List (Key × PyData)} (ev : vs[i]? = some (.v (.dict (dK l)))) : ∃ n kvs fl, sl[i]? = some (.r n) ∧ fs[i]? = some (n :: fl.flatten) ∧ h[n]? = some (some (.dct kvs)) ∧ DV h b m kvs l fl := by
  obtain ⟨s, v, f, e1, e2, e3, r⟩ := R.get e
  rw [ev] at e2
  cases e2
  have r : RV h b (m + 1) s (.dict (dK l)) f := r
  unfold RV at r
  rcases r with q | ⟨n', xs, ds', fs, rfl, hn, e, rfl, q⟩ | ⟨n', kvs, ds', fs, rfl, hn, e, rfl, q⟩ | ⟨n', xs, ds', fs, rfl, hn, e, rfl, q⟩
  · cases q.2.2
  · cases e
  rotate_left
  · cases e
  · have e := PyData.dict.inj e
    have hl := q.len.1
    rw [zip_dK (by rw [List.length_map] at hl ⊢; exact hl)] at e
    have e2 : l = (kvs.map Prod.fst).zip ds' := by
      have := congrArg toL e
      rw [toL_dK, toL_dK] at this
      exact Option.some.inj this
    refine ⟨n', kvs, fs, e1, e3, hn, ?_, ?_⟩
    · rw [e2, List.map_fst_zip (by rw [List.length_map] at hl ⊢; omega)]
    · rw [e2, List.map_snd_zip (by rw [List.length_map] at hl ⊢; omega)]
      exact q
theorem RV.ofD {kvs : List (Key × SV)} {l : List (Key × PyData)} {fl : List (List Nat)} {n : Nat} (hn : h[n]? = some (some (.dct kvs))) (d : DV h b k kvs l fl) : RV h b (k + 1) (.r n) (.dict (dK l)) (n :: fl.flatten) := by
  unfold RV
  refine .inr (.inr (.inl ⟨n, kvs, l.map Prod.snd, fl, rfl, hn, ?_, rfl, d.2⟩))
  rw [d.1, zip_dK (by rw [List.length_map, List.length_map])]
  congr 1
  have : (l.map Prod.fst).zip (l.map Prod.snd) = l := by
    clear hn d
    induction l with
    | nil => rfl
    | cons p l ih => rw [List.map_cons, List.map_cons, List.zip_cons_cons, ih]
  rw [this]
theorem sv_dstore {fi : FE} {gi : VE} (hi : EV D b2 k2 fr2 fi gi) (he : XV D b1 0 fe ge) (e : D[i]? = some (b, 1) := by rfl) (hb : (!b1 || b) = true := by decide) : SVp D [] rb rk (Zx.sDStore (Zx.fVar i) fi fe) (sDStore i gi ge) := by
  intro h sl vs fs R nd
  refine (he h sl vs fs R nd).thn R nd fun x vs1 s h1 fs1 fp G r n1 d o => ?_
  split
  · rename_i y vs2 hy
    split
    · rename_i key hk
      split
      · rename_i ps ev
        split
        · rename_i l hl
          split
          · rename_i hlen
            rw [dK_toL hl] at ev
            obtain ⟨n, kvs, fl, e1, e2, e3, dv⟩ := slotD e G.R ev
            have hv : Zx.fVar i sl h1 = .ok (.r n) h1 := by
              unfold Zx.fVar
              rw [e1]
            show OutS _ _ _ _ _ _ _ _ ((Zx.fVar i sl h1).thn sl fun s' h2 => (fi sl h2).thn sl fun t h3 => match putD s' t s h3 with | some h4 => .nx sl h4 | none => .st)
            rw [hv]
            show OutS _ _ _ _ _ _ _ _ ((fi sl h1).thn sl fun t h3 => match putD (.r n) t s h3 with | some h4 => .nx sl h4 | none => .st)
            have oi := hi h1 sl vs1 fs1 G.R G.nd
            rw [hy] at oi
            obtain ⟨rfl, sy, t2, fy, e4, r4, _, _⟩ := oi
            rw [e4]
            show OutS _ _ _ _ _ _ _ _ (match putD (.r n) sy s (h1 ++ t2) with | some h4 => .nx sl h4 | none => .st)
            have e5 : (h1 ++ t2)[n]? = some (some (.dct kvs)) := by rw [List.getElem?_append_left (List.getElem?_eq_some_iff.mp e3).1, e3]
            have hp : putD (.r n) sy s (h1 ++ t2) = some ((h1 ++ t2).set n (some (.dct (putS kvs key s)))) := by
              unfold putD
              rw [key_rv r4 hk]
              have : dctOf (h1 ++ t2) (.r n) = some kvs := by unfold dctOf; dsimp only; rw [e5]
              rw [this]
              dsimp only
              rw [if_pos (by rw [dv.len]; exact hlen)]
            rw [hp]
            have G2 := G.app (t := t2)
            have dv2 : DV (h1 ++ t2) b 0 kvs l fl := ⟨dv.1, Fa3.imp (cs0 := fl) (fun _ _ _ _ p => RV.app p) (fun _ m => m) dv.2⟩
            obtain ⟨fl', dv3⟩ := DV.put (leaf_bm hb r.2) key dv2
            obtain ⟨nn, dd⟩ := nd_at G.nd e2
            have hlt := (List.getElem?_eq_some_iff.mp e5).1
            have R1 : RSt ((h1 ++ t2).set n (some (.dct (putS kvs key s)))) D sl (vs2.set i .un) (fs1.set i []) := (G2.R.drop i).frame fun a ha => List.getElem?_set_ne fun (e : n = a) => dd n List.mem_cons_self (e ▸ ha)
            have dv4 : DV ((h1 ++ t2).set n (some (.dct (putS kvs key s)))) b 0 (putS kvs key s) (putL l key x) fl' := ⟨dv3.1, Fa3.imp (cs0 := fl') (fun _ _ _ _ p => ⟨p.1, p.2⟩) (fun _ m => m) dv3.2⟩
            have R2 := R1.set (s' := .r n) (v' := .v (.dict (dK (putL l key x)))) (f' := n :: fl'.flatten) e (RV.ofD (by rw [List.getElem?_set_self hlt]) dv4)
            have z0 : fl'.flatten = [] := fa_flat0 dv3.2
            have es : sl.set i (.r n) = sl := by
              obtain ⟨hi, e1⟩ := List.getElem?_eq_some_iff.mp e1
              rw [← e1]; exact List.set_getElem_self hi
            rw [es, List.set_set, List.set_set, z0] at R2
            refine ⟨sl, _, fs1.set i [n], rfl, ⟨R2, nd_set G.nd (by simp) fun a ha z => ?_, fun a ha => ?_, fun a ha hz => ?_, by rw [List.length_set]; exact G2.le⟩, Keep.same⟩
            · rw [List.mem_singleton.mp ha] at z
              exact dd n List.mem_cons_self z
            · rcases mem_set ha with z | z
              · rw [List.mem_singleton.mp z]; exact G.old n (mem_at e2 List.mem_cons_self)
              · exact G.old a (mem_rest z)
            · rw [List.getElem?_set_ne fun e => ?_, G2.fr a ha hz]
              subst e
              rcases G.old n (mem_at e2 List.mem_cons_self) with z | z
              · exact hz z
              · omega
          · trivial
        · trivial
      · trivial
    · trivial
  · trivial
end
end Zx.V

namespace Zx.V
open PySem PySem.Spec L2
/-! ## comprehensions over owned lists -/
section
variable {D : List KD} {A : List Nat} {b b1 b2 b3 fr fr1 : Bool} {k k1 m i l a : Nat} {fa fb : FE} {ga gb : VE} {ta : FT} {ua : VT} {bd : Bd} {slw sl1 sl : List SV} {vw vs1 vs2 vs3 vs : List VS} {fs1 fs : List (List Nat)} {h0 : AH} {vx : List Nat}
theorem lcOne_ok {it : It1} {bb : Bool} {x : PyData} (ego : bd.go it slw = some sl1) (R1 : RSt h0 D sl1 vs1 fs1) (nd1 : fs1.flatten.Nodup) (ht : TV D ta ua) (he : EV D b2 k true fa ga) (hb : (!b2 || b) = true) {acc : List SV} {accv : List PyData} {fps : List (List Nat)} {t : AH}
    (q : Fa3 (RV (h0 ++ [some (.lst acc)] ++ t) b k) acc accv fps) (n : fps.flatten.Nodup) (z : ∀ n ∈ fps.flatten, h0.length + 1 ≤ n) (hl : bb = true → accv.length < 1000000) (e1 : ua vs1 = .ok bb vs2) (e2 : bb = true → ga vs1 = .ok x vs3) :
    ∃ acc' fps' t', (∀ kk, lcOne h0.length bd ta fa slw it (h0 ++ [some (.lst acc)] ++ t) kk = kk (h0 ++ [some (.lst acc')] ++ t')) ∧ Fa3 (RV (h0 ++ [some (.lst acc')] ++ t') b k) acc' (if bb = true then accv ++ [x] else accv) fps' ∧ fps'.flatten.Nodup ∧ ∀ n ∈ fps'.flatten, h0.length + 1 ≤ n := by
  have o1 := ht (h0 ++ [some (.lst acc)] ++ t) sl1 vs1 fs1 (RSt.app (RSt.app R1)) nd1
  rw [e1] at o1
  obtain ⟨rfl, a, t1, ea, e3⟩ := o1
  subst e3
  cases a with
  | false =>
    have q2 : Fa3 (RV (h0 ++ [some (.lst acc)] ++ (t ++ t1)) b k) acc accv fps := by
      rw [← List.append_assoc]
      exact Fa3.imp (cs0 := fps) (fun _ _ _ _ p => RV.app p) (fun _ m => m) q
    obtain ⟨t', et, q3⟩ := lc_turn (slw := slw) q2
    refine ⟨acc, fps, t', fun kk => ?_, by rw [if_neg (by decide)]; exact q3, n, z⟩
    unfold lcOne
    rw [ego]
    dsimp only
    rw [ea]
    show kk (norm [] (h0.length + 1) slw (h0 ++ [some (.lst acc)] ++ t ++ t1)).2 = _
    rw [List.append_assoc (h0 ++ [some (AO.lst acc)]), et]
  | true =>
    have o2 := he (h0 ++ [some (.lst acc)] ++ t ++ t1) sl1 vs2 fs1 (RSt.app (RSt.app (RSt.app R1))) nd1
    rw [e2 rfl] at o2
    obtain ⟨rfl, s, t2, fp, es, r2, n2, z2⟩ := o2
    have hL : (h0 ++ [some (AO.lst acc)] ++ t ++ t1 ++ t2)[h0.length]? = some (some (.lst acc)) := by
      rw [List.append_assoc, List.append_assoc, List.append_assoc, List.getElem?_append_right (Nat.le_refl _), Nat.sub_self]; rfl
    have la := q.len.1
    have hs : (h0 ++ [some (AO.lst acc)] ++ t ++ t1 ++ t2).set h0.length (some (.lst (acc ++ [s]))) = h0 ++ [some (.lst (acc ++ [s]))] ++ (t ++ t1 ++ t2) := by
      rw [List.append_assoc, List.append_assoc, List.append_assoc, List.set_append_right _ _ (Nat.le_refl _), Nat.sub_self]
      simp
    have fz1 : ∀ m, h0.length + 1 ≤ m → (h0 ++ [some (AO.lst (acc ++ [s]))] ++ (t ++ t1 ++ t2))[m]? = (h0 ++ [some (AO.lst acc)] ++ t ++ t1 ++ t2)[m]? := fun m hm => by
      rw [← hs, List.getElem?_set_ne (by omega)]
    have q2 : Fa3 (RV (h0 ++ [some (.lst (acc ++ [s]))] ++ (t ++ t1 ++ t2)) b k) (acc ++ [s]) (accv ++ [x]) (fps ++ [fp]) := by
      have qa : Fa3 (RV (h0 ++ [some (.lst (acc ++ [s]))] ++ (t ++ t1 ++ t2)) b k) acc accv fps := Fa3.imp (cs0 := fps) (fun a0 b0 c hc p => by
        have p2 : RV (h0 ++ [some (AO.lst acc)] ++ t ++ t1 ++ t2) b k a0 b0 c := RV.app (RV.app p)
        exact p2.frame fun m hm => fz1 m (z m (List.mem_flatten.mpr ⟨c, hc, hm⟩))) (fun _ m => m) q
      have qb : Fa3 (RV (h0 ++ [some (.lst (acc ++ [s]))] ++ (t ++ t1 ++ t2)) b k) [s] [x] [fp] := by
        refine ⟨RV.bm hb (r2.frame fun m hm => fz1 m ?_), trivial⟩
        have := z2 rfl m hm
        simp only [List.length_append, List.length_cons, List.length_nil] at this
        omega
      exact Fa3.app qb qa
    have n3 : (fps ++ [fp]).flatten.Nodup := by
      rw [List.flatten_append, List.nodup_append]
      refine ⟨n, by simpa using n2, fun a ha b' hb' e => ?_⟩
      have hb'' : b' ∈ fp := by simpa using hb'
      obtain ⟨c, hc, hm⟩ := List.mem_flatten.mp ha
      obtain ⟨_, _, _, _, p⟩ := Fa3.mem q hc
      have h1 := p.lt a hm
      have h2 := z2 rfl b' hb''
      rw [List.length_append] at h2
      omega
    have z3 : ∀ m ∈ (fps ++ [fp]).flatten, h0.length + 1 ≤ m := fun m hm => by
      rw [List.flatten_append, List.mem_append] at hm
      rcases hm with hm | hm
      · exact z m hm
      · have := z2 rfl m (by simpa using hm)
        simp only [List.length_append, List.length_cons, List.length_nil] at this
        omega
    obtain ⟨t', et, q3⟩ := lc_turn (slw := slw) q2
    refine ⟨acc ++ [s], fps ++ [fp], t', fun kk => ?_, by rw [if_pos rfl]; exact q3, n3, z3⟩
    unfold lcOne
    rw [ego]
    dsimp only
    rw [ea]
    show ((nrz (fa sl1 (h0 ++ [some (.lst acc)] ++ t ++ t1))).bind fun s h2 => lcPut h0.length slw s h2 kk) = _
    rw [es]
    show lcPut h0.length slw s (h0 ++ [some (.lst acc)] ++ t ++ t1 ++ t2) kk = _
    unfold lcPut
    rw [hL]
    dsimp only
    have hl := hl rfl
    rw [if_pos (by omega), hs, et]
/-- what an item needs -/
def StepOk (D : List KD) (h0 : AH) (bd : Bd) (slw : List SV) (vw : List VS) (P : SV → PyData → List Nat → Prop) (w : Nat → SV → It1) (wv : Nat → PyData → VI) : Prop := ∀ (j : Nat) (s : SV) (x : PyData) (f : List Nat) (vs1 : List VS), P s x f → goV bd (wv j x) vw = some vs1 → ∃ sl1 fs1, bd.go (w j s) slw = some sl1 ∧ RSt h0 D sl1 vs1 fs1 ∧ fs1.flatten.Nodup
def numV (wv : Nat → PyData → VI) : Nat → List PyData → List VI
  | _, [] => []
  | j, d :: ds => wv j d :: numV wv (j + 1) ds
theorem num_one : ∀ (j : Nat) (ds : List PyData), numV (fun _ x => .one x) j ds = ds.map .one
  | _, [] => rfl
  | j, d :: ds => by
    show VI.one d :: numV _ (j + 1) ds = _
    rw [num_one (j + 1) ds]; rfl
theorem num_two : ∀ (j : Nat) (ds : List PyData), numV (fun j x => .two (.int (j : Nat)) x) j ds = enumV j ds
  | _, [] => rfl
  | j, d :: ds => by
    show VI.two (.int (j : Nat)) d :: numV _ (j + 1) ds = _
    rw [num_two (j + 1) ds]; rfl
theorem lcV_cons {it : VI} {its : List VI} {out : List PyData} (e : lcV bd ua ga vw (it :: its) = some out) : ∃ vs1 bb x vs2 vs3 out', goV bd it vw = some vs1 ∧ ua vs1 = .ok bb vs2 ∧ (bb = true → ga vs1 = .ok x vs3) ∧ lcV bd ua ga vw its = some out' ∧ out = (if bb = true then x :: out' else out') := by
  unfold lcV at e
  split at e
  · cases e
  · rename_i vs1 hg
    split at e
    · rename_i vs2 ht1
      split at e
      · rename_i x vs3 hx
        split at e
        · rename_i r hr
          cases e
          exact ⟨vs1, true, x, vs2, vs3, r, hg, ht1, fun _ => hx, hr, by rw [if_pos rfl]⟩
        · cases e
      · cases e
    · rename_i vs2 ht1
      exact ⟨vs1, false, .none, vs2, vs2, out, hg, ht1, (fun z => by cases z), e, (by rw [if_neg (by decide)])⟩
    · cases e
theorem lcR_ok {n : Nat} {xs : List SV} {P : SV → PyData → List Nat → Prop} (st : StepOk D h0 bd slw vw P (fun _ s => .one s) (fun _ x => .one x)) (ht : TV D ta ua) (he : EV D b2 k true fa ga) (hb : (!b2 || b) = true) (hn : h0[n]? = some (some (.lst xs))) :
    ∀ {c j : Nat} {ds : List PyData} {fl : List (List Nat)} {acc : List SV} {accv out : List PyData} {fps : List (List Nat)} {t : AH}, c + j = xs.length → Fa3 P (xs.drop j) ds fl → Fa3 (RV (h0 ++ [some (.lst acc)] ++ t) b k) acc accv fps → fps.flatten.Nodup → (∀ n ∈ fps.flatten, h0.length + 1 ≤ n) → lcV bd ua ga vw (numV (fun _ x => .one x) j ds) = some out → accv.length + out.length ≤ 1000000 →
      ∃ acc' fps' t', lcR h0.length bd ta fa slw n c j (h0 ++ [some (.lst acc)] ++ t) = .ok () (h0 ++ [some (.lst acc')] ++ t') ∧ Fa3 (RV (h0 ++ [some (.lst acc')] ++ t') b k) acc' (accv ++ out) fps' ∧ fps'.flatten.Nodup ∧ ∀ n ∈ fps'.flatten, h0.length + 1 ≤ n
  | c, j, ds, fl, acc, accv, out, fps, t, hc, q0, q, nd, z, e, hl => by
    have hcell : (h0 ++ [some (AO.lst acc)] ++ t)[n]? = some (some (.lst xs)) := by
      have := (List.getElem?_eq_some_iff.mp hn).1
      rw [List.append_assoc, List.getElem?_append_left this, hn]
    match c with
    | 0 =>
      rw [List.drop_eq_nil_of_le (by omega)] at q0
      cases ds with
      | cons d ds => cases fl <;> exact q0.elim
      | nil =>
        cases e
        refine ⟨acc, fps, t, ?_, by rw [List.append_nil]; exact q, nd, z⟩
        unfold lcR
        rw [hcell]
        dsimp only
        rw [if_pos (by omega)]
    | c + 1 =>
      have hj : j < xs.length := by omega
      rw [List.drop_eq_getElem_cons hj] at q0
      match ds, fl, q0 with
      | d :: ds, f1 :: fl, ⟨q1, q2⟩ =>
        obtain ⟨vs1, bb, x, vs2, vs3, out', hg, h1, h2, h3, rfl⟩ := lcV_cons e
        obtain ⟨sl1, fs1, e1, R1, n1⟩ := st j _ d f1 vs1 q1 hg
        obtain ⟨acc', fps', t', g1, g2, g3, g4⟩ := lcOne_ok e1 R1 n1 ht he hb q nd z (fun z => by
          subst z
          rw [if_pos rfl, List.length_cons] at hl
          omega) h1 h2
        have lens : (if bb = true then accv ++ [x] else accv).length + out'.length ≤ 1000000 := by
          cases bb with
          | true => rw [if_pos rfl, List.length_cons] at hl; rw [if_pos rfl, List.length_append, List.length_singleton]; omega
          | false => rw [if_neg (by decide)] at hl ⊢; exact hl
        obtain ⟨acc2, fps2, t2, k1, k2, k3, k4⟩ := lcR_ok st ht he hb hn (by omega : c + (j + 1) = xs.length) q2 g2 g3 g4 h3 lens
        refine ⟨acc2, fps2, t2, ?_, ?_, k3, k4⟩
        · unfold lcR
          rw [hcell]
          dsimp only
          rw [List.getElem?_eq_getElem hj]
          dsimp only
          rw [g1]; exact k1
        · cases bb with
          | true => rw [if_pos rfl] at k2 ⊢; rw [List.append_assoc accv] at k2; exact k2
          | false => rw [if_neg (by decide)] at k2 ⊢; exact k2
      | [], [], q => exact q.elim
      | [], f1 :: fl, q => exact q.elim
      | d :: ds, [], q => exact q.elim
theorem lcRE_ok {n : Nat} {xs : List SV} {P : SV → PyData → List Nat → Prop} (st : StepOk D h0 bd slw vw P (fun j s => .two (.d (.int (j : Nat))) s) (fun j x => .two (.int (j : Nat)) x)) (ht : TV D ta ua) (he : EV D b2 k true fa ga) (hb : (!b2 || b) = true) (hn : h0[n]? = some (some (.lst xs))) :
    ∀ {c j : Nat} {ds : List PyData} {fl : List (List Nat)} {acc : List SV} {accv out : List PyData} {fps : List (List Nat)} {t : AH}, c + j = xs.length → Fa3 P (xs.drop j) ds fl → Fa3 (RV (h0 ++ [some (.lst acc)] ++ t) b k) acc accv fps → fps.flatten.Nodup → (∀ n ∈ fps.flatten, h0.length + 1 ≤ n) → lcV bd ua ga vw (numV (fun j x => .two (.int (j : Nat)) x) j ds) = some out → accv.length + out.length ≤ 1000000 →
      ∃ acc' fps' t', lcRE h0.length bd ta fa slw n c j (h0 ++ [some (.lst acc)] ++ t) = .ok () (h0 ++ [some (.lst acc')] ++ t') ∧ Fa3 (RV (h0 ++ [some (.lst acc')] ++ t') b k) acc' (accv ++ out) fps' ∧ fps'.flatten.Nodup ∧ ∀ n ∈ fps'.flatten, h0.length + 1 ≤ n
  | c, j, ds, fl, acc, accv, out, fps, t, hc, q0, q, nd, z, e, hl => by
    have hcell : (h0 ++ [some (AO.lst acc)] ++ t)[n]? = some (some (.lst xs)) := by
      have := (List.getElem?_eq_some_iff.mp hn).1
      rw [List.append_assoc, List.getElem?_append_left this, hn]
    match c with
    | 0 =>
      rw [List.drop_eq_nil_of_le (by omega)] at q0
      cases ds with
      | cons d ds => cases fl <;> exact q0.elim
      | nil =>
        cases e
        refine ⟨acc, fps, t, ?_, by rw [List.append_nil]; exact q, nd, z⟩
        unfold lcRE
        rw [hcell]
        dsimp only
        rw [if_pos (by omega)]
    | c + 1 =>
      have hj : j < xs.length := by omega
      rw [List.drop_eq_getElem_cons hj] at q0
      match ds, fl, q0 with
      | d :: ds, f1 :: fl, ⟨q1, q2⟩ =>
        obtain ⟨vs1, bb, x, vs2, vs3, out', hg, h1, h2, h3, rfl⟩ := lcV_cons e
        obtain ⟨sl1, fs1, e1, R1, n1⟩ := st j _ d f1 vs1 q1 hg
        obtain ⟨acc', fps', t', g1, g2, g3, g4⟩ := lcOne_ok e1 R1 n1 ht he hb q nd z (fun z => by
          subst z
          rw [if_pos rfl, List.length_cons] at hl
          omega) h1 h2
        have lens : (if bb = true then accv ++ [x] else accv).length + out'.length ≤ 1000000 := by
          cases bb with
          | true => rw [if_pos rfl, List.length_cons] at hl; rw [if_pos rfl, List.length_append, List.length_singleton]; omega
          | false => rw [if_neg (by decide)] at hl ⊢; exact hl
        obtain ⟨acc2, fps2, t2, k1, k2, k3, k4⟩ := lcRE_ok st ht he hb hn (by omega : c + (j + 1) = xs.length) q2 g2 g3 g4 h3 lens
        refine ⟨acc2, fps2, t2, ?_, ?_, k3, k4⟩
        · unfold lcRE
          rw [hcell]
          dsimp only
          rw [List.getElem?_eq_getElem hj]
          dsimp only
          rw [g1]; exact k1
        · cases bb with
          | true => rw [if_pos rfl] at k2 ⊢; rw [List.append_assoc accv] at k2; exact k2
          | false => rw [if_neg (by decide)] at k2 ⊢; exact k2
      | [], [], q => exact q.elim
      | [], f1 :: fl, q => exact q.elim
      | d :: ds, [], q => exact q.elim

/-! the rules -/
def fLcVar (b : Bool) (k : Nat) (l : Nat) (bd : Bd) (gt : VT) (ge : VE) (vx : List Nat) : VE := fun vs => match vs[l]? with
  | some (.v (.list ds)) => lcEnd vs (lcV bd gt ge (wipeV vs vx) (ds.map .one))
  | _ => .st
def fLcEV (b : Bool) (k : Nat) (l : Nat) (bd : Bd) (gt : VT) (ge : VE) (vx : List Nat) : VE := fun vs => match vs[l]? with
  | some (.v (.list ds)) => lcEnd vs (lcV bd gt ge (wipeV vs vx) (enumV 0 ds))
  | _ => .st
def fLcOwn (b : Bool) (k : Nat) (l i : Nat) (gt : VT) (ge : VE) (vx : List Nat) : VE := fun vs => match vs[l]? with
  | some (.v (.list ds)) => lcEnd vs (lcV (.nm i) gt ge (wipeV (vs.set l .un) vx) (ds.map .one))
  | _ => .st
theorem step_leaf {n : Nat} {xs : List SV} {fsw : List (List Nat)} (hbd : bdOk D b1 bd = true) (Rw : RSt h0 D slw vw fsw) (nw : fsw.flatten.Nodup) : StepOk D h0 bd slw vw (RV h0 b1 0) (fun _ s => .one s) (fun _ x => .one x) := by
  intro j s x f vs1 r hg
  obtain ⟨sl1, fs1, e1, R1, nd1, m1⟩ := go_ok (it := .one s) hbd Rw nw (show RI b1 (.one s) (.one x) from r.2) hg
  exact ⟨sl1, fs1, e1, R1, nd1⟩
theorem step_leafE {n : Nat} {xs : List SV} {fsw : List (List Nat)} (hbd : bdOk D b1 bd = true) (Rw : RSt h0 D slw vw fsw) (nw : fsw.flatten.Nodup) : StepOk D h0 bd slw vw (RV h0 b1 0) (fun j s => .two (.d (.int (j : Nat))) s) (fun j x => .two (.int (j : Nat)) x) := by
  intro j s x f vs1 r hg
  obtain ⟨sl1, fs1, e1, R1, nd1, m1⟩ := go_ok (it := .two (.d (.int (j : Nat))) s) hbd Rw nw (show RI b1 (.two (.d (.int (j : Nat))) s) (.two (.int (j : Nat)) x) from ⟨.inl rfl, r.2⟩) hg
  exact ⟨sl1, fs1, e1, R1, nd1⟩
theorem step_own {fsw : List (List Nat)} {F : List Nat} (ei : D[i]? = some (b1, m)) (Rw : RSt h0 D slw vw fsw) (nw : fsw.flatten.Nodup) (dF : ∀ a ∈ F, a ∉ fsw.flatten) : StepOk D h0 (.nm i) slw vw (fun s x f => RV h0 b1 m s x f ∧ f.Nodup ∧ ∀ a ∈ f, a ∈ F) (fun _ s => .one s) (fun _ x => .one x) := by
  intro j s x f vs1 r hg
  cases hg
  exact ⟨slw.set i s, fsw.set i f, rfl, Rw.set ei r.1, nd_set nw r.2.1 fun a z w => dF a (r.2.2 a z) (mem_rest w)⟩
theorem fa_and {h : AH} {F : List Nat} : ∀ {ss : List SV} {ds : List PyData} {fs : List (List Nat)}, Fa3 (RV h b k) ss ds fs → fs.flatten.Nodup → (∀ a ∈ fs.flatten, a ∈ F) → Fa3 (fun s x f => RV h b k s x f ∧ f.Nodup ∧ ∀ a ∈ f, a ∈ F) ss ds fs
  | [], [], [], _, _, _ => trivial
  | s :: ss, d :: ds, f :: fs, ⟨r, q⟩, nd, hF => by
    rw [List.flatten_cons, List.nodup_append] at nd
    exact ⟨⟨r, nd.1, fun a z => hF a (List.mem_append_left _ z)⟩, fa_and q nd.2.1 fun a z => hF a (List.mem_append_right _ z)⟩
  | [], [], c :: cs, h, _, _ => h.elim
  | [], b :: bs, [], h, _, _ => h.elim
  | [], b :: bs, c :: cs, h, _, _ => h.elim
  | a :: as, [], [], h, _, _ => h.elim
  | a :: as, [], c :: cs, h, _, _ => h.elim
  | a :: as, b :: bs, [], h, _, _ => h.elim
theorem lc_end {h : AH} {acc' : List SV} {out : List PyData} {fps' : List (List Nat)} {t' : AH} (h2 : Fa3 (RV (h ++ [some (.lst acc')] ++ t') b k) acc' out fps') (h3 : fps'.flatten.Nodup) (h4 : ∀ n ∈ fps'.flatten, h.length + 1 ≤ n) : OutE b (k + 1) fr h.length h vs (.ok (.list out) vs) (.ok (.r h.length) (h ++ [some (.lst acc')] ++ t')) := by
  refine ⟨rfl, .r h.length, [some (.lst acc')] ++ t', h.length :: fps'.flatten, by rw [← List.append_assoc], ?_, ?_, fun _ n m => ?_⟩
  · rw [← List.append_assoc]
    refine RV.ofL ?_ h2
    rw [List.append_assoc h, List.getElem?_append_right (Nat.le_refl _), Nat.sub_self]; rfl
  · rw [List.nodup_cons]
    exact ⟨fun m => absurd (h4 _ m) (by omega), h3⟩
  · rcases List.mem_cons.mp m with rfl | m
    · exact Nat.le_refl _
    · have := h4 n m
      omega
theorem ev_lcVar (ht : TV D ta ua) (he : EV D b2 k true fa ga) (el : D[l]? = some (b1, 1) := by rfl) (hbd : bdOk D b1 bd = true := by decide) (hb : (!b2 || b) = true := by decide) : EV D b (k + 1) fr (Zx.fLc (Zx.iSeq (Zx.fVar l)) bd ta fa vx) (fLcVar b (k + 1) l bd ua ga vx) := by
  intro h sl vs fs R nd
  unfold fLcVar
  split
  · rename_i ds ev
    obtain ⟨n, xs, fl, e1, e2, e3, q⟩ := slotL el R ev
    obtain ⟨fsw, Rw, nw, _⟩ := RSt.wipe R nd vx
    cases e : lcV bd ua ga (wipeV vs vx) (ds.map .one) with
    | none => trivial
    | some out =>
      show OutE _ _ _ _ _ _ (if out.length ≤ 1000000 then .ok (.list out) vs else .st) _
      split
      · rename_i hl
        obtain ⟨acc', fps', t', h1, h2, h3, h4⟩ := lcR_ok (c := xs.length) (j := 0) (acc := []) (accv := []) (fps := []) (t := []) (step_leaf (n := n) (xs := xs) hbd Rw nw) ht he hb e3 (by omega) (by rw [List.drop_zero]; exact q) trivial List.nodup_nil (fun _ m => by cases m) (by rw [num_one]; exact e) (by simpa using hl)
        rw [List.append_nil] at h1
        unfold Zx.fLc
        rw [iSeq_var e1 e3]
        show OutE _ _ _ _ _ _ _ (match h[n]? with | some (some (.lst xs)) => (lcR h.length bd ta fa (wipeS sl vx) n xs.length 0 (h ++ [some (.lst [])])).bind fun _ h2 => .ok (.r h.length) h2 | _ => .st)
        rw [e3]
        dsimp only
        rw [h1]
        exact lc_end h2 h3 h4
      · trivial
  · trivial
theorem ev_lcEV (ht : TV D ta ua) (he : EV D b2 k true fa ga) (el : D[l]? = some (b1, 1) := by rfl) (hbd : bdOk D b1 bd = true := by decide) (hb : (!b2 || b) = true := by decide) : EV D b (k + 1) fr (Zx.fLcE (Zx.fCons (Zx.fVar l) Zx.fNil) bd ta fa vx) (fLcEV b (k + 1) l bd ua ga vx) := by
  intro h sl vs fs R nd
  unfold fLcEV
  split
  · rename_i ds ev
    obtain ⟨n, xs, fl, e1, e2, e3, q⟩ := slotL el R ev
    obtain ⟨fsw, Rw, nw, _⟩ := RSt.wipe R nd vx
    cases e : lcV bd ua ga (wipeV vs vx) (enumV 0 ds) with
    | none => trivial
    | some out =>
      show OutE _ _ _ _ _ _ (if out.length ≤ 1000000 then .ok (.list out) vs else .st) _
      split
      · rename_i hl
        obtain ⟨acc', fps', t', h1, h2, h3, h4⟩ := lcRE_ok (c := xs.length) (j := 0) (acc := []) (accv := []) (fps := []) (t := []) (step_leafE (n := n) (xs := xs) hbd Rw nw) ht he hb e3 (by omega) (by rw [List.drop_zero]; exact q) trivial List.nodup_nil (fun _ m => by cases m) (by rw [num_two]; exact e) (by simpa using hl)
        rw [List.append_nil] at h1
        have hv : Zx.fVar l sl h = .ok (.r n) h := by unfold Zx.fVar; rw [e1]
        unfold Zx.fLcE
        show OutE _ _ _ _ _ _ _ (((Zx.fVar l sl h).bind fun s h1 => .ok [s] h1).bind _)
        rw [hv]
        show OutE _ _ _ _ _ _ _ (match h[n]? with | some (some (.lst xs)) => (lcRE h.length bd ta fa (wipeS sl vx) n xs.length 0 (h ++ [some (.lst [])])).bind fun _ h2 => .ok (.r h.length) h2 | _ => .st)
        rw [e3]
        dsimp only
        rw [h1]
        exact lc_end h2 h3 h4
      · trivial
  · trivial
theorem ev_lcOwn (ht : TV D ta ua) (he : EV D b2 k true fa ga) (el : D[l]? = some (b1, m + 1) := by rfl) (ei : D[i]? = some (b1, m) := by rfl) (hb : (!b2 || b) = true := by decide) : EV D b (k + 1) fr (Zx.fLc (Zx.iSeq (Zx.fVar l)) (.nm i) ta fa vx) (fLcOwn b (k + 1) l i ua ga vx) := by
  intro h sl vs fs R nd
  unfold fLcOwn
  split
  · rename_i ds ev
    obtain ⟨n, xs, fl, e1, e2, e3, q⟩ := slotL el R ev
    obtain ⟨fsw, Rw, nw, mw⟩ := RSt.wipe (R.drop l) (nd_rest nd) vx
    obtain ⟨n1, d1⟩ := nd_at nd e2
    cases e : lcV (.nm i) ua ga (wipeV (vs.set l .un) vx) (ds.map .one) with
    | none => trivial
    | some out =>
      show OutE _ _ _ _ _ _ (if out.length ≤ 1000000 then .ok (.list out) vs else .st) _
      split
      · rename_i hl
        obtain ⟨acc', fps', t', h1, h2, h3, h4⟩ := lcR_ok (c := xs.length) (j := 0) (acc := []) (accv := []) (fps := []) (t := []) (step_own (F := fl.flatten) ei Rw nw fun a z w => d1 a (List.mem_cons_of_mem _ z) (mw a w)) ht he hb e3 (by omega) (by rw [List.drop_zero]; exact fa_and q (List.nodup_cons.mp n1).2 fun a z => z) trivial List.nodup_nil (fun _ m => by cases m) (by rw [num_one]; exact e) (by simpa using hl)
        rw [List.append_nil] at h1
        unfold Zx.fLc
        rw [iSeq_var e1 e3]
        show OutE _ _ _ _ _ _ _ (match h[n]? with | some (some (.lst xs)) => (lcR h.length (.nm i) ta fa (wipeS sl vx) n xs.length 0 (h ++ [some (.lst [])])).bind fun _ h2 => .ok (.r h.length) h2 | _ => .st)
        rw [e3]
        dsimp only
        rw [h1]
        exact lc_end h2 h3 h4
      · trivial
  · trivial
/-! [x for j, x in enumerate(xs) if ..]: its items are those of xs -/
def fLcMv (l a i : Nat) (gt : VT) (vx : List Nat) : VE := fun vs => match vs[l]? with
  | some (.v (.list ds)) => lcEnd (vs.set l .un) (lcV (.tp [a, i]) gt (fVar i) (wipeV (vs.set l .un) vx) (enumV 0 ds))
  | _ => .st
theorem lcRM_ok {n : Nat} {xs : List SV} {fsw : List (List Nat)} {F : List Nat} (ha : kdOk D false a = true) (ei : D[i]? = some (b, m)) (hai : a ≠ i) (Rw : RSt h0 D slw vw fsw) (nw : fsw.flatten.Nodup) (dF : ∀ c ∈ F, c ∉ fsw.flatten) (ht : TV D ta ua) (hn : h0[n]? = some (some (.lst xs))) :
    ∀ {c j : Nat} {ds : List PyData} {fl : List (List Nat)} {acc : List SV} {accv out : List PyData} {fps : List (List Nat)} {t : AH}, c + j = xs.length → Fa3 (RV h0 b m) (xs.drop j) ds fl → Fa3 (RV h0 b m) acc accv fps → (fps.flatten ++ fl.flatten).Nodup → (∀ n ∈ fps.flatten ++ fl.flatten, n ∈ F) → lcV (.tp [a, i]) ua (fVar i) vw (enumV j ds) = some out → accv.length + out.length ≤ 1000000 →
      ∃ acc' fps' t', lcRE h0.length (.tp [a, i]) ta (Zx.fVar i) slw n c j (h0 ++ [some (.lst acc)] ++ t) = .ok () (h0 ++ [some (.lst acc')] ++ t') ∧ Fa3 (RV h0 b m) acc' (accv ++ out) fps' ∧ fps'.flatten.Nodup ∧ ∀ n ∈ fps'.flatten, n ∈ F
  | c, j, ds, fl, acc, accv, out, fps, t, hc, q0, q, nd, hF, e, hl => by
    have hcell : (h0 ++ [some (AO.lst acc)] ++ t)[n]? = some (some (.lst xs)) := by
      have := (List.getElem?_eq_some_iff.mp hn).1
      rw [List.append_assoc, List.getElem?_append_left this, hn]
    match c with
    | 0 =>
      rw [List.drop_eq_nil_of_le (by omega)] at q0
      cases ds with
      | cons d ds => cases fl <;> exact q0.elim
      | nil =>
        cases e
        refine ⟨acc, fps, t, ?_, by rw [List.append_nil]; exact q, (List.nodup_append.mp nd).1, fun n z => hF n (List.mem_append_left _ z)⟩
        unfold lcRE
        rw [hcell]
        dsimp only
        rw [if_pos (by omega)]
    | c + 1 =>
      have hj : j < xs.length := by omega
      rw [List.drop_eq_getElem_cons hj] at q0
      match ds, fl, q0 with
      | d :: ds, f1 :: fl, ⟨q1, q2⟩ =>
        have e : lcV (.tp [a, i]) ua (fVar i) vw (.two (.int (j : Nat)) d :: enumV (j + 1) ds) = some out := e
        obtain ⟨vs1, bb, x, vs2, vs3, out', hg, h1, h2, h3, rfl⟩ := lcV_cons e
        have hg : some ((vw.set a (.v (.int (j : Nat)))).set i (.v d)) = some vs1 := hg
        cases hg
        rw [List.flatten_cons] at nd hF
        have nd2 := List.nodup_append.mp nd
        have nf1 := (List.nodup_append.mp nd2.2.1).1
        obtain ⟨fsa, Ra, na, ma⟩ := kd_set (s := .d (.int (j : Nat))) (x := .int (j : Nat)) ha Rw nw (.inl rfl)
        have dR : ∀ c ∈ f1, c ∉ fsa.flatten := fun c z w => dF c (hF c (List.mem_append_right _ (List.mem_append_left _ z))) (ma c w)
        have R1 : RSt h0 D ((slw.set a (.d (.int (j : Nat)))).set i xs[j]) ((vw.set a (.v (.int (j : Nat)))).set i (.v d)) (fsa.set i f1) := Ra.set ei q1
        have nd1 : (fsa.set i f1).flatten.Nodup := nd_set na nf1 fun c z w => dR c z (mem_rest w)
        have o1 := ht (h0 ++ [some (.lst acc)] ++ t) _ _ _ (RSt.app (RSt.app R1)) nd1
        rw [h1] at o1
        obtain ⟨rfl, bb', t1, ea, e3⟩ := o1
        subst e3
        have ego : (Bd.tp [a, i]).go (.two (.d (.int (j : Nat))) xs[j]) slw = some ((slw.set a (.d (.int (j : Nat)))).set i xs[j]) := rfl
        have la := q.len.1
        cases bb' with
        | false =>
          rw [if_neg (by decide)] at hl
          rw [if_neg (by decide)]
          obtain ⟨t', et, _⟩ := lc_turn (b := b) (k := m) (slw := slw) (h0 := h0) (acc := acc) (t := t ++ t1) (Fa3.imp (cs0 := fps) (fun _ _ _ _ p => RV.app (RV.app p)) (fun _ m => m) q)
          obtain ⟨acc', fps', t2, k1, k2, k3, k4⟩ := lcRM_ok (t := t') ha ei hai Rw nw dF ht hn (by omega : c + (j + 1) = xs.length) q2 q (List.nodup_append.mpr ⟨nd2.1, (List.nodup_append.mp nd2.2.1).2.1, fun a h1 b h2 => nd2.2.2 a h1 b (List.mem_append_right _ h2)⟩) (fun n z => hF n ((List.mem_append.mp z).elim (fun z => List.mem_append_left _ z) fun z => List.mem_append_right _ (List.mem_append_right _ z))) h3 hl
          refine ⟨acc', fps', t2, ?_, k2, k3, k4⟩
          unfold lcRE
          rw [hcell]
          dsimp only
          rw [List.getElem?_eq_getElem hj]
          dsimp only
          unfold lcOne
          rw [ego]
          dsimp only
          rw [ea]
          show lcRE h0.length (.tp [a, i]) ta (Zx.fVar i) slw n c (j + 1) (norm [] (h0.length + 1) slw (h0 ++ [some (.lst acc)] ++ t ++ t1)).2 = _
          rw [List.append_assoc (h0 ++ [some (AO.lst acc)]), et]
          exact k1
        | true =>
          rw [if_pos rfl, List.length_cons] at hl
          rw [if_pos rfl]
          have hx := h2 rfl
          unfold fVar at hx
          have hlen : i < vw.length := by
            have := Rw.len.2.1
            have := (List.getElem?_eq_some_iff.mp ei).1
            omega
          rw [List.getElem?_set_self (by rw [List.length_set]; exact hlen)] at hx
          cases hx
          have hlen' : i < slw.length := by
            have := Rw.len.1
            have := (List.getElem?_eq_some_iff.mp ei).1
            omega
          have hs : xs[j] ≠ .un := fun z => by rw [z] at q1; exact rv_un q1
          have hv : Zx.fVar i ((slw.set a (.d (.int (j : Nat)))).set i xs[j]) (h0 ++ [some (.lst acc)] ++ t ++ t1) = .ok xs[j] (h0 ++ [some (.lst acc)] ++ t ++ t1) := by
            unfold Zx.fVar
            rw [List.getElem?_set_self (by rw [List.length_set]; exact hlen')]
            generalize xs[j] = s at hs
            cases s <;> first | rfl | exact absurd rfl hs
          have hL : (h0 ++ [some (AO.lst acc)] ++ t ++ t1)[h0.length]? = some (some (.lst acc)) := by
            rw [List.append_assoc, List.append_assoc, List.getElem?_append_right (Nat.le_refl _), Nat.sub_self]; rfl
          have hst : (h0 ++ [some (AO.lst acc)] ++ t ++ t1).set h0.length (some (.lst (acc ++ [xs[j]]))) = h0 ++ [some (.lst (acc ++ [xs[j]]))] ++ (t ++ t1) := by
            rw [List.append_assoc, List.append_assoc, List.set_append_right _ _ (Nat.le_refl _), Nat.sub_self]
            simp
          have qq : Fa3 (RV h0 b m) (acc ++ [xs[j]]) (accv ++ [d]) (fps ++ [f1]) := Fa3.app (show Fa3 (RV h0 b m) [xs[j]] [d] [f1] from ⟨q1, trivial⟩) q
          obtain ⟨t', et, _⟩ := lc_turn (b := b) (k := m) (slw := slw) (h0 := h0) (acc := acc ++ [xs[j]]) (t := t ++ t1) (Fa3.imp (cs0 := fps ++ [f1]) (fun _ _ _ _ p => RV.app (RV.app p)) (fun _ m => m) qq)
          have ef : (fps ++ [f1]).flatten ++ fl.flatten = fps.flatten ++ (f1 ++ fl.flatten) := by
            rw [List.flatten_append, List.append_assoc]
            simp
          obtain ⟨acc', fps', t2, k1, k2, k3, k4⟩ := lcRM_ok (t := t') ha ei hai Rw nw dF ht hn (by omega : c + (j + 1) = xs.length) q2 qq (by rw [ef]; exact nd) (by rw [ef]; exact hF) h3 (by rw [List.length_append, List.length_singleton]; omega)
          refine ⟨acc', fps', t2, ?_, by rw [List.append_assoc] at k2; exact k2, k3, k4⟩
          unfold lcRE
          rw [hcell]
          dsimp only
          rw [List.getElem?_eq_getElem hj]
          dsimp only
          unfold lcOne
          rw [ego]
          dsimp only
          rw [ea]
          show ((nrz (Zx.fVar i _ _)).bind fun s h2 => lcPut h0.length slw s h2 (lcRE h0.length (.tp [a, i]) ta (Zx.fVar i) slw n c (j + 1))) = _
          rw [hv]
          show lcPut h0.length slw xs[j] (h0 ++ [some (.lst acc)] ++ t ++ t1) _ = _
          unfold lcPut
          rw [hL]
          dsimp only
          rw [if_pos (by omega), hst, et]
          exact k1
      | [], [], q => exact q.elim
      | [], f1 :: fl, q => exact q.elim
      | d :: ds, [], q => exact q.elim
theorem xv_lcMv (ht : TV D ta ua) (el : D[l]? = some (b, m + 1) := by rfl) (ei : D[i]? = some (b, m) := by rfl) (ha : kdOk D false a = true := by decide) (hai : a ≠ i := by decide) : XV D b (m + 1) (Zx.fLcE (Zx.fCons (Zx.fVar l) Zx.fNil) (.tp [a, i]) ta (Zx.fVar i) vx) (fLcMv l a i ua vx) := by
  intro h sl vs fs R nd
  unfold fLcMv
  split
  · rename_i ds ev
    obtain ⟨n, xs, fl, e1, e2, e3, q⟩ := slotL el R ev
    obtain ⟨fsw, Rw, nw, mw⟩ := RSt.wipe (R.drop l) (nd_rest nd) vx
    obtain ⟨n1, d1⟩ := nd_at nd e2
    cases e : lcV (.tp [a, i]) ua (fVar i) (wipeV (vs.set l .un) vx) (enumV 0 ds) with
    | none => trivial
    | some out =>
      show OutX _ _ _ _ _ _ (if out.length ≤ 1000000 then .ok (.list out) (vs.set l .un) else .st) _
      split
      · rename_i hl
        obtain ⟨acc', fps', t', h1, h2, h3, h4⟩ := lcRM_ok (c := xs.length) (j := 0) (acc := []) (accv := []) (fps := []) (t := []) (F := fl.flatten) ha ei hai Rw nw (fun c z w => d1 c (List.mem_cons_of_mem _ z) (mw c w)) ht e3 (by omega) (by rw [List.drop_zero]; exact q) trivial (by simpa using (List.nodup_cons.mp n1).2) (fun n z => by simpa using z) e (by simpa using hl)
        rw [List.append_nil] at h1
        have hv : Zx.fVar l sl h = .ok (.r n) h := by unfold Zx.fVar; rw [e1]
        unfold Zx.fLcE
        show OutX _ _ _ _ _ _ _ (((Zx.fVar l sl h).bind fun s h1 => .ok [s] h1).bind _)
        rw [hv]
        show OutX _ _ _ _ _ _ _ (match h[n]? with | some (some (.lst xs)) => (lcRE h.length (.tp [a, i]) ta (Zx.fVar i) (wipeS sl vx) n xs.length 0 (h ++ [some (.lst [])])).bind fun _ h2 => .ok (.r h.length) h2 | _ => .st)
        rw [e3]
        dsimp only
        rw [h1]
        have h2 : Fa3 (RV h b m) acc' out fps' := by simpa using h2
        refine ⟨.r h.length, _, fs.set l [], h.length :: fps'.flatten, rfl, ?_, ?_, ?_, ?_, ?_⟩
        · rw [List.append_assoc]
          exact (Good.ext R nd).sub ((R.drop l).app) (nd_rest nd) fun n z => mem_rest z
        · refine RV.ofL ?_ (Fa3.imp (cs0 := fps') (fun _ _ _ _ p => RV.app (RV.app p)) (fun _ m => m) h2)
          rw [List.append_assoc h, List.getElem?_append_right (Nat.le_refl _), Nat.sub_self]; rfl
        · rw [List.nodup_cons]
          refine ⟨fun z => ?_, h3⟩
          have := R.lt _ (mem_at e2 (List.mem_cons_of_mem _ (h4 _ z)))
          omega
        · intro c z w
          rcases List.mem_cons.mp z with rfl | z
          · have := R.lt _ (mem_rest w)
            omega
          · exact d1 c (List.mem_cons_of_mem _ (h4 c z)) w
        · intro c z
          rcases List.mem_cons.mp z with rfl | z
          · exact .inr (Nat.le_refl _)
          · exact .inl (mem_at e2 (List.mem_cons_of_mem _ (h4 c z)))
      · trivial
  · trivial
end
end Zx.V

namespace Zx.V
open PySem PySem.Spec L2
/-! ## what else is needed by the printed texts -/
mutual
def pureK : Nat → PyData → Bool
  | 0, x => imm x
  | k + 1, .list ds => pureL k ds
  | k + 1, .dict ps => pureD k ps
  | k + 1, .tuple ds => pureL k ds
  | _ + 1, x => imm x
def pureL : Nat → List PyData → Bool
  | _, [] => true
  | k, d :: ds => pureK k d && pureL k ds
def pureD : Nat → List (PyData × PyData) → Bool
  | _, [] => true
  | k, p :: ps => pureK k p.2 && pureD k ps
end
theorem pureD_zip {k : Nat} : ∀ {ks : List Key} {ds : List PyData}, ks.length = ds.length → pureD k (zipD ks ds) = true → pureL k ds = true
  | [], [], _, _ => by unfold pureL; rfl
  | key :: ks, d :: ds, h, e => by
    have e : pureD k ((kD key, d) :: zipD ks ds) = true := e
    unfold pureD at e
    rw [Bool.and_eq_true] at e
    unfold pureL
    rw [e.1, pureD_zip (Nat.succ.inj h) e.2]; rfl
  | [], d :: ds, h, _ => by cases h
  | k :: ks, [], h, _ => by cases h
theorem RV.pure {h : AH} {b : Bool} : ∀ {k : Nat} {s : SV} {x : PyData} {f : List Nat}, RV h b k s x f → pureK k x = true → RV h false k s x f
  | 0, s, x, f, r, c => ⟨r.1, .inl (leaf_imm r.2 (by unfold pureK at c; exact c))⟩
  | k + 1, s, x, f, r, c => by
    have lst : ∀ {xs : List SV} {ds : List PyData} {fs : List (List Nat)}, Fa3 (RV h b k) xs ds fs → pureL k ds = true → Fa3 (RV h false k) xs ds fs := by
      intro xs
      induction xs with
      | nil =>
        intro ds fs q c
        cases ds with
        | nil => cases fs with
          | nil => exact trivial
          | cons f fs => exact q.elim
        | cons d ds => cases fs <;> exact q.elim
      | cons a xs ih =>
        intro ds fs q c
        cases ds with
        | nil => cases fs <;> exact q.elim
        | cons d ds =>
          cases fs with
          | nil => exact q.elim
          | cons f fs =>
            unfold pureL at c
            rw [Bool.and_eq_true] at c
            exact ⟨RV.pure q.1 c.1, ih q.2 c.2⟩
    unfold RV at r ⊢
    rcases r with r | ⟨n, xs, ds, fs, rfl, hn, rfl, rfl, r⟩ | ⟨n, xs, ds, fs, rfl, hn, rfl, rfl, r⟩ | ⟨n, xs, ds, fs, rfl, hn, rfl, rfl, r⟩
    · refine .inl ⟨r.1, .inl (leaf_imm r.2.1 ?_), r.2.2⟩
      cases x with
      | tuple ds =>
        have q : (!immL ds) = false := r.2.2
        unfold Zx.imm
        simpa using q
      | list _ => cases r.2.2
      | dict _ => cases r.2.2
      | _ => exact c
    · exact .inr (.inl ⟨n, xs, ds, fs, rfl, hn, rfl, rfl, lst r (by unfold pureK at c; exact c)⟩)
    · exact .inr (.inr (.inl ⟨n, xs, ds, fs, rfl, hn, rfl, rfl, lst r (pureD_zip (ks := xs.map Prod.fst) (by have := r.len.1; simpa using this) (by unfold pureK at c; exact c))⟩))
    · exact .inr (.inr (.inr ⟨n, xs, ds, fs, rfl, hn, rfl, rfl, lst r (by unfold pureK at c; exact c)⟩))
def fPure (k : Nat) (ga : VE) : VE := fun vs => (ga vs).bind fun x vs => if pureK k x = true then .ok x vs else .st
section
variable {D : List KD} {b b1 b2 fr fr1 : Bool} {k k1 k2 i : Nat} {fa fb : FE} {ga gb : VE} {ra : FA} {qa : VA} {ms : List Md}
theorem ev_pure (ha : EV D b k fr fa ga) : EV D false k fr fa (fPure k ga) := by
  intro h sl vs fs R nd
  have o := ha h sl vs fs R nd
  unfold fPure
  generalize ga vs = r at o ⊢
  generalize fa sl h = q at o ⊢
  cases r with
  | ok x vs' =>
    obtain ⟨rfl, s, t, fp, rfl, h3, h4⟩ := o
    show OutE _ _ _ _ _ _ (if pureK k x = true then .ok x vs' else .st) _
    split
    · rename_i c
      exact ⟨rfl, s, t, fp, rfl, h3.pure c, h4⟩
    · trivial
  | rz c => exact o
  | st => trivial
theorem xv_pure (ha : XV D b k fa ga) : XV D false k fa (fPure k ga) := by
  intro h sl vs fs R nd
  have o := ha h sl vs fs R nd
  unfold fPure
  generalize ga vs = r at o ⊢
  generalize fa sl h = q at o ⊢
  cases r with
  | ok x vs' =>
    obtain ⟨s, h', fs', fp, h1, h2, h3, h4, h5, h6⟩ := o
    show OutX _ _ _ _ _ _ (if pureK k x = true then .ok x vs' else .st) _
    split
    · rename_i c
      exact ⟨s, h', fs', fp, h1, h2, h3.pure c, h4, h5, h6⟩
    · trivial
  | rz c => exact o
  | st => trivial
theorem ev_fz0 (ha : EV D false k true fa ga) (hk : k ≤ 9 := by decide) : EV D false 0 fr (Zx.fFz fa) ga := ev_fz ha hk
theorem xv_fz (ha : XV D false k fa ga) (hk : k ≤ 9 := by decide) : XV D false 0 (Zx.fFz fa) ga := by
  intro h sl vs fs R nd
  have o := ha h sl vs fs R nd
  rw [a_fz]
  generalize ga vs = r at o ⊢
  generalize fa sl h = q at o ⊢
  cases r with
  | ok x vs' =>
    obtain ⟨s, h', fs', fp, rfl, G, r3, n4, d5, o6⟩ := o
    obtain ⟨h2, e1, l1, k1⟩ := RV.fz rfl r3 n4 hk
    show OutX _ _ _ _ _ _ _ (opt (fzv 9 h' s) (fun p => .ok (.d p.1) (trimE h.length sl p.2)) .st)
    rw [e1]
    show OutX _ _ _ _ _ _ _ (.ok (.d x) (trimE h.length sl h2))
    have G2 : Good D h fs h2 sl vs' fs' := by
      refine ⟨G.R.frame fun n m => k1 n fun z => d5 n z m, G.nd, G.old, fun n hn hm => ?_, by rw [l1]; exact G.le⟩
      rw [k1 n fun z => (o6 n z).elim hm fun w => by omega]
      exact G.fr n hn hm
    have fin : ∀ h3, Good D h fs h3 sl vs' fs' → OutX D false 0 h sl fs (.ok x vs') (.ok (.d x) h3) := fun h3 G3 => ⟨.d x, h3, fs', [], rfl, G3, RV.d, List.nodup_nil, (fun n m => by cases m), (fun n m => by cases m)⟩
    unfold trimE
    split
    · rename_i c
      unfold trimOk at c
      rw [Bool.and_eq_true] at c
      have hb := RSt.below c.1 c.2 G2.R
      refine fin _ ⟨G2.R.frame fun n m => List.getElem?_take_of_lt (hb n m), G2.nd, G2.old, fun n hn hm => ?_, ?_⟩
      · rw [List.getElem?_take_of_lt hn]; exact G2.fr n hn hm
      · rw [List.length_take]; have := G2.le; omega
    · exact fin _ G2
  | rz c =>
    obtain ⟨t, rfl⟩ := o
    exact ⟨t, rfl⟩
  | st => trivial
theorem am_fz (ha : EV D false 0 fr fa ga) (hr : AM D ms ra qa) : AM D (.fz :: ms) (Zx.fCons fa ra) (fCons ga qa) := by
  intro h sl vs fs R nd
  refine (ha h sl vs fs R nd).ep fun x s t f1 r1 n1 _ => ?_
  refine (hr (h ++ t) sl vs fs R.app nd).pp fun xs ss t2 r2 => ?_
  refine ⟨rfl, s :: ss, [], by rw [List.append_nil], fun t3 => ?_⟩
  rcases r1.2 with rfl | ⟨e, _⟩
  · rw [g_cons, g_fz, List.append_nil, o_some, r2 t3]; rfl
  · cases e
/-! list(range(..)) -/
def rgV (a b : Int) : List PyData := (List.range (b - a).toNat).map fun i => PyData.int (a + (i : Nat))
def fLrg (a b : Int) (vs : List VS) : VR PyData := if (inB a && inB b && decide ((b - a).toNat ≤ 1000000)) = true then .ok (.list (rgV a b)) vs else .st
def fLrg1 (ga : VE) : VE := fun vs => (ga vs).bind fun x vs => match x with
  | .int j => fLrg 0 j vs
  | _ => .st
def fLrg2 (ga gb : VE) : VE := fun vs => (ga vs).bind fun x vs => (gb vs).bind fun y vs => match x with
  | .int i => match y with
    | .int j => fLrg i j vs
    | _ => .st
  | _ => .st
theorem fa_rg {h : AH} {a : Int} : ∀ (l : List Nat), Fa3 (RV h b 0) (l.map fun i => SV.d (.int (a + (i : Nat)))) (l.map fun i => PyData.int (a + (i : Nat))) (l.map fun _ => [])
  | [] => trivial
  | i :: l => ⟨⟨rfl, .inl rfl⟩, fa_rg l⟩
theorem lrg_ok {h : AH} {vs : List VS} {i j : Int} : OutE b 1 fr h.length h vs (fLrg i j vs) (if (inB i && inB j && decide ((j - i).toNat ≤ 1000000)) = true then .ok (.r h.length) (h ++ [some (.lst (rgS i j))]) else .st) := by
  unfold fLrg
  split
  · exact fresh_lst (fa_rg (List.range (j - i).toNat))
  · trivial
theorem ev_lrg1 (ha : EV D b1 k1 fr1 fa ga) : EV D b 1 fr (Zx.fLstRg (Zx.fRg1 fa)) (fLrg1 ga) := by
  intro h sl vs fs R nd
  have o := ha h sl vs fs R nd
  unfold fLrg1 Zx.fLstRg Zx.fRg1
  generalize ga vs = r at o ⊢
  generalize fa sl h = q at o ⊢
  cases r with
  | ok x vs' =>
    obtain ⟨rfl, s, t, fp, rfl, h3, h4⟩ := o
    cases x
    case int j =>
      obtain ⟨rfl, _⟩ := h3.imm rfl
      exact (lrg_ok (h := h ++ t) (i := 0) (j := j)).pre.up (by rw [List.length_append]; omega)
    all_goals trivial
  | rz c =>
    obtain ⟨t, rfl⟩ := o
    exact ⟨t, rfl⟩
  | st => trivial
theorem ev_lrg2 (ha : EV D b1 k1 fr1 fa ga) (hb : EV D b2 k2 fr2 fb gb) : EV D b 1 fr (Zx.fLstRg (Zx.fRg2 fa fb)) (fLrg2 ga gb) := by
  intro h sl vs fs R nd
  have o := ha h sl vs fs R nd
  unfold fLrg2 Zx.fLstRg Zx.fRg2
  generalize ga vs = r at o ⊢
  generalize fa sl h = q at o ⊢
  cases r with
  | ok x vs' =>
    obtain ⟨rfl, s, t, fp, rfl, h3, h4⟩ := o
    have o2 := hb (h ++ t) sl vs' fs R.app nd
    show OutE _ _ _ _ _ _ ((gb vs').bind fun y vs => match (generalizing := false) x with
      | .int i => match (generalizing := false) y with
        | .int j => fLrg i j vs
        | _ => .st
      | _ => .st) (((fb sl (h ++ t)).bind fun t h2 => match (generalizing := false) s, t with | .d (.int i), .d (.int j) => .ok (i, j) h2 | _, _ => .st).bind _)
    generalize gb vs' = r2 at o2 ⊢
    generalize fb sl (h ++ t) = q2 at o2 ⊢
    cases r2 with
    | ok y vs2 =>
      obtain ⟨rfl, s2, t2, fp2, rfl, k3, k4⟩ := o2
      cases x
      case int i =>
        obtain ⟨rfl, _⟩ := h3.imm rfl
        cases y
        case int j =>
          obtain ⟨rfl, _⟩ := k3.imm rfl
          exact ((lrg_ok (h := h ++ t ++ t2) (i := i) (j := j)).pre.pre).up (by simp only [List.length_append]; omega)
        all_goals trivial
      all_goals trivial
    | rz c =>
      obtain ⟨t2, rfl⟩ := o2
      exact ⟨t ++ t2, by rw [← List.append_assoc]; rfl⟩
    | st => trivial
  | rz c =>
    obtain ⟨t, rfl⟩ := o
    exact ⟨t, rfl⟩
  | st => trivial
/-! {k: v} -/
def fDctO (ga gb : VE) : VE := fun vs => (ga vs).bind fun x vs => (gb vs).bind fun y vs => match keyP x with
  | some key => .ok (.dict [(kD key, y)]) vs
  | none => .st
theorem ev_dct1 (ha : EV D b1 k1 fr1 fa ga) (hb : EV D b2 k true fb gb) (hbb : (!b2 || b) = true := by decide) : EV D b (k + 1) fr (Zx.fDctO fa fb) (fDctO ga gb) := by
  intro h sl vs fs R nd
  have o := ha (h ++ [some (.dct [])]) sl vs fs R.app nd
  unfold fDctO Zx.fDctO
  generalize ga vs = r at o ⊢
  generalize fa sl (h ++ [some (.dct [])]) = q at o ⊢
  cases r with
  | ok x vs' =>
    obtain ⟨rfl, s, t, fp, rfl, h3, h4⟩ := o
    have o2 := hb (h ++ [some (.dct [])] ++ t) sl vs' fs (RSt.app (RSt.app R)) nd
    show OutE _ _ _ _ _ _ ((gb vs').bind fun y vs => match (generalizing := false) keyP x with | some key => .ok (.dict [(kD key, y)]) vs | none => .st) ((fb sl (h ++ [some (.dct [])] ++ t)).bind fun v h2 => dOne h.length s v h2)
    generalize gb vs' = r2 at o2 ⊢
    generalize fb sl (h ++ [some (.dct [])] ++ t) = q2 at o2 ⊢
    cases r2 with
    | ok y vs2 =>
      obtain ⟨rfl, s2, t2, fp2, rfl, k3, k4, k5⟩ := o2
      show OutE _ _ _ _ _ _ (match keyP x with | some key => .ok (.dict [(kD key, y)]) vs2 | none => .st) (dOne h.length s s2 (h ++ [some (.dct [])] ++ t ++ t2))
      split
      · rename_i key hk
        have hL : (h ++ [some (AO.dct [])] ++ t ++ t2)[h.length]? = some (some (.dct [])) := by
          rw [List.append_assoc, List.append_assoc, List.getElem?_append_right (Nat.le_refl _), Nat.sub_self]; rfl
        have hst : (h ++ [some (AO.dct [])] ++ t ++ t2).set h.length (some (.dct [(key, s2)])) = h ++ ([some (.dct [(key, s2)])] ++ (t ++ t2)) := by
          rw [List.append_assoc, List.append_assoc, List.set_append_right _ _ (Nat.le_refl _), Nat.sub_self]
          simp
        unfold dOne
        rw [key_rv h3 hk, hL]
        dsimp only
        have k6 : ∀ a ∈ fp2, h.length + 1 ≤ a := fun a m => by
          have := k5 rfl a m
          simp only [List.length_append, List.length_cons, List.length_nil] at this
          omega
        rw [hst]
        refine ⟨rfl, .r h.length, [some (.dct [(key, s2)])] ++ (t ++ t2), h.length :: [fp2].flatten, rfl, ?_, ?_, fun _ a m => ?_⟩
        · refine RV.ofD (l := [(key, y)]) (kvs := [(key, s2)]) (fl := [fp2]) ?_ ⟨rfl, ⟨RV.bm hbb (k3.frame fun a m => ?_), trivial⟩⟩
          · rw [List.getElem?_append_right (Nat.le_refl _), Nat.sub_self]; rfl
          · rw [← hst, List.getElem?_set_ne (by have := k6 a m; omega)]
        · rw [List.nodup_cons]
          refine ⟨fun m => ?_, by simpa using k4⟩
          have := k6 _ (by simpa using m)
          omega
        · rcases List.mem_cons.mp m with rfl | m
          · exact Nat.le_refl _
          · have := k6 a (by simpa using m)
            omega
      · trivial
    | rz c =>
      obtain ⟨t2, rfl⟩ := o2
      exact ⟨[some (.dct [])] ++ (t ++ t2), by simp only [List.append_assoc]; rfl⟩
    | st => trivial
  | rz c =>
    obtain ⟨t, rfl⟩ := o
    exact ⟨[some (.dct [])] ++ t, by simp only [List.append_assoc]; rfl⟩
  | st => trivial
end
/-! the law -/
theorem law_by {φ : List PyData → Zx.R SV} {u : List PyData → VC} (c : CalV φ 0 u) {ds : List PyData} (e : u ds = .ok (.bool true)) : ∃ h, φ ds = .ok (.d (.bool true)) h := by
  have := c ds
  rw [e] at this
  obtain ⟨s, hn, fp, h1, h2, _⟩ := this
  obtain ⟨rfl, _⟩ := h2.imm rfl
  exact ⟨hn, h1⟩
end Zx.V

namespace Zx.V
open PySem PySem.Spec L2
/-! ## the values' side as equations -/
section
variable {α β : Type}
def gv (o : Option VS) (k : PyData → β) (z : β) : β := match o with
  | some (.v x) => k x
  | _ => z
def gl (x : PyData) (k : List PyData → β) (z : β) : β := match x with
  | .list ds => k ds
  | _ => z
def gn (x : PyData) (k : Int → β) (z : β) : β := match x with
  | .int i => k i
  | _ => z
def rv (r : VR PyData) (k : PyData → β) (z : β) : β := match r with
  | .ok x _ => k x
  | _ => z
theorem gv_v {x : PyData} {k : PyData → β} {z : β} : gv (some (.v x)) k z = k x := (rfl)
theorem gl_l {ds : List PyData} {k : List PyData → β} {z : β} : gl (.list ds) k z = k ds := (rfl)
theorem gn_i {i : Int} {k : Int → β} {z : β} : gn (.int i) k z = k i := (rfl)
theorem rv_k {x : PyData} {vs : List VS} {k : PyData → β} {z : β} : rv (.ok x vs) k z = k x := (rfl)
end
def capp {β : Type} (n : Nat) (x z : β) : β := if n < lim then x else z
theorem capp_ok {β : Type} {n : Nat} {x z : β} (h : n < 1000000) : capp n x z = x := if_pos h
def VO.sq (o : VO) (b : VF) : VO := match o with
  | .nx vs => b vs
  | .rt x => .rt x
  | .bk vs => .bk vs
  | .ct vs => .ct vs
  | .rz c vs => .rz c vs
  | .st => .st
def VO.fin (o : VO) : VC := match o with
  | .rt x => .ok x
  | .nx _ => .ok .none
  | .rz c _ => .rz c
  | _ => .st
section
variable {α β : Type} {a b : VF} {ga gb gc : VE} {ta tb : VT} {qa : VA} {vs vs' : List VS} {x y : PyData} {i j : Nat} {m n : Int} {c : Str} {k : α → List VS → VR β} {ko : α → List VS → VO} {xs ys : List PyData} {u : List PyData → VC} {ms : List Md} {N : Nat} {gt : VT} {bd : Bd} {kk : Nat} {bb : Bool}
theorem t_nx : (VO.nx vs).sq b = b vs := (rfl)
theorem t_rt : (VO.rt x).sq b = .rt x := (rfl)
theorem t_bk : (VO.bk vs).sq b = .bk vs := (rfl)
theorem t_ct : (VO.ct vs).sq b = .ct vs := (rfl)
theorem t_rz : (VO.rz c vs).sq b = .rz c vs := (rfl)
theorem h_rt : (VO.rt x).fin = .ok x := (rfl)
theorem h_nx : (VO.nx vs).fin = .ok .none := (rfl)
theorem h_rz : (VO.rz c vs).fin = .rz c := (rfl)
theorem d_ok {a : α} : (VR.ok a vs).bind k = k a vs := (rfl)
theorem d_rz : (VR.rz c : VR α).bind k = .rz c := (rfl)
theorem d_st : (VR.st : VR α).bind k = .st := (rfl)
theorem e_ok {a : α} : (VR.ok a vs').thn vs ko = ko a vs' := (rfl)
theorem e_rz : (VR.rz c : VR α).thn vs ko = .rz c vs := (rfl)
theorem e_st : (VR.st : VR α).thn vs ko = .st := (rfl)
theorem u_phi {g : VF} {ds : List PyData} : phiV ms N g ds = (g (startV ms ds N)).fin := (rfl)
theorem u_seq : sSeq a b vs = (a vs).sq b := by unfold sSeq VO.sq; cases a vs <;> rfl
theorem u_set : sSet i ga vs = (ga vs).thn vs fun x vs => .nx (vs.set i (.v x)) := (rfl)
theorem u_if : sIf gt a b vs = (gt vs).thn vs fun k vs => if k = true then a vs else b vs := (rfl)
theorem u_expr : sExpr ga vs = (ga vs).thn vs fun _ vs => .nx vs := (rfl)
theorem u_ret : sRet ga vs = (ga vs).thn vs fun x _ => .rt x := (rfl)
theorem u_retN : sRetN vs = .rt .none := (rfl)
theorem u_next : sNext vs = .nx vs := (rfl)
theorem u_break : sBreak vs = .bk vs := (rfl)
theorem u_cont : sCont vs = .ct vs := (rfl)
theorem u_raise : sRaise c vs = .rz c vs := (rfl)
theorem u_setT {is : List Nat} : sSetT is ga vs = (ga vs).thn vs fun x vs => opt (goV (.tp is) (.one x) vs) (fun vs' => .nx vs') .st := by
  unfold sSetT opt
  congr 1
  funext x vs
  cases goV (.tp is) (.one x) vs <;> rfl
theorem u_par : sPar i j qa vs = (qa vs).thn vs fun xs vs => match xs with | [x, y] => .nx ((vs.set i (.v x)).set j (.v y)) | _ => .st := (rfl)
theorem u_var : fVar i vs = gv vs[i]? (fun x => .ok x vs) .st := by
  unfold fVar gv
  rcases vs[i]? with _ | (_ | _ | _ | _) <;> rfl
theorem u_mv : fMv i vs = gv vs[i]? (fun x => .ok x (vs.set i .un)) .st := by
  unfold fMv gv
  rcases vs[i]? with _ | (_ | _ | _ | _) <;> rfl
theorem u_c : fC x vs = .ok x vs := (rfl)
theorem u_bin {g : PyData → PyData → List VS → VR PyData} : fBin g ga gb vs = (ga vs).bind fun x vs => (gb vs).bind fun y vs => g x y vs := (rfl)
theorem u_un {g : PyData → List VS → VR PyData} : fUn g ga vs = (ga vs).bind fun x vs => g x vs := (rfl)
theorem u_tst : fTst ga vs = (ga vs).bind tst := (rfl)
theorem tst_b : tst (.bool bb) vs = .ok bb vs := (rfl)
theorem u_andT : fAndT ta tb vs = (ta vs).bind fun k vs => if k = true then tb vs else .ok false vs := (rfl)
theorem u_orT : fOrT ta tb vs = (ta vs).bind fun k vs => if k = true then .ok true vs else tb vs := (rfl)
theorem u_notT : fNotT ta vs = (ta vs).bind fun k vs => .ok (!k) vs := (rfl)
theorem u_yes : fYes vs = .ok true vs := (rfl)
theorem u_andV : fAndV ga gb vs = (ga vs).bind fun x vs => (tst x vs).bind fun k vs => if k = true then gb vs else .ok (.bool false) vs := (rfl)
theorem u_orV : fOrV ga gb vs = (ga vs).bind fun x vs => (tst x vs).bind fun k vs => if k = true then .ok (.bool true) vs else gb vs := (rfl)
theorem u_notV : fNotV ga vs = (ga vs).bind fun x vs => (tst x vs).bind fun k vs => .ok (.bool (!k)) vs := (rfl)
theorem u_if' : fIf ta ga gb vs = (ta vs).bind fun k vs => if k = true then ga vs else gb vs := (rfl)
theorem u_chain {g g' : PyData → PyData → List VS → VR PyData} : fChain g g' ga gb gc vs = (ga vs).bind fun x vs => (gb vs).bind fun y vs => (g x y vs).bind fun z vs => (tst z vs).bind fun k vs => if k = true then (gc vs).bind fun u vs => g' y u vs else .ok (.bool false) vs := (rfl)
theorem u_nil : fNil vs = .ok [] vs := (rfl)
theorem u_cons : fCons ga qa vs = (ga vs).bind fun x vs => (qa vs).bind fun xs vs => .ok (x :: xs) vs := (rfl)
theorem u_lst : fLst bb kk qa vs = (qa vs).bind fun xs vs => if xs.length ≤ 1000 then .ok (.list xs) vs else .st := (rfl)
theorem u_tup : fTup qa vs = (qa vs).bind fun xs vs => if xs.length ≤ 1000 then .ok (.tuple xs) vs else .st := (rfl)
theorem u_imm : fImm ga vs = (ga vs).bind fun x vs => if imm x = true then .ok x vs else .st := (rfl)
theorem u_pure : fPure kk ga vs = (ga vs).bind fun x vs => if pureK kk x = true then .ok x vs else .st := (rfl)
theorem u_cb {g : List PyData → List VS → VR PyData} : fCB g qa vs = (qa vs).bind fun xs vs => g xs vs := (rfl)
theorem u_call : fCall u qa vs = (qa vs).bind fun ds vs => (u ds).back vs := (rfl)
theorem bk_ok : (VC.ok x).back vs = .ok x vs := (rfl)
theorem bk_rz : (VC.rz c).back vs = .rz c := (rfl)
theorem u_sc : fSc i vs = match vs[i]? with | some (.sc ns) => .ok (.list (ns.map PyData.int)) vs | _ => .st := (rfl)
theorem u_isi {T : String} : fIsi T ga vs = (ga vs).bind fun x vs => opt (tyP x) (fun t => opt (isTy t T) (fun c => .ok (.bool c) vs) .st) .st := by
  unfold fIsi opt
  congr 1
  funext x vs
  cases tyP x with
  | none => rfl
  | some t =>
    dsimp only
    cases isTy t T <;> rfl
/-! operators -/
theorem o_add : gAdd (.int m) (.int n) vs = .ok (.int (m + n)) vs := (rfl)
theorem o_sub : gSub (.int m) (.int n) vs = .ok (.int (m - n)) vs := (rfl)
theorem o_mul (h : mulB m n = true) : gMul (.int m) (.int n) vs = .ok (.int (m * n)) vs := by
  show (if mulB m n = true then _ else _) = _
  rw [if_pos h]
theorem o_div (h0 : 0 < n) (h1 : n < 340282366920938463463374607431768211456) : gDiv (.int m) (.int n) vs = .ok (.int (m / n)) vs := by
  show (if divB m n = true then _ else _) = _
  rw [if_pos (divB_ok h0 h1)]
theorem o_mod (h0 : 0 < n) : gMod (.int m) (.int n) vs = .ok (.int (m % n)) vs := by
  show (if modB m n = true then _ else _) = _
  rw [if_pos (by unfold modB; exact decide_eq_true h0)]
theorem o_lt : gLt (.int m) (.int n) vs = .ok (.bool (decide (m < n))) vs := (rfl)
theorem o_le : gLe (.int m) (.int n) vs = .ok (.bool (decide (m ≤ n))) vs := (rfl)
theorem o_gt : gGt (.int m) (.int n) vs = .ok (.bool (decide (n < m))) vs := (rfl)
theorem o_ge : gGe (.int m) (.int n) vs = .ok (.bool (decide (n ≤ m))) vs := (rfl)
theorem o_eq : gEq false (.int m) (.int n) vs = .ok (.bool (decide (m = n))) vs := by
  unfold gEq
  simp [nod, shaped_int, PyData.eqv]
  by_cases e : m = n <;> simp [e]
theorem o_ne : gEq true (.int m) (.int n) vs = .ok (.bool (!decide (m = n))) vs := by
  unfold gEq
  simp [nod, shaped_int, PyData.eqv]
  by_cases e : m = n <;> simp [e]
theorem eq_fn {neg : Bool} (fx : Fn 64 x) (fy : Fn 64 y) : gEq neg x y vs = .ok (.bool (neg ^^ PyData.eqv x y)) vs := by
  unfold gEq
  rw [fx.n, fy.n, fx.shaped, fy.shaped]; rfl
theorem eq_same {neg : Bool} (fx : Fn 64 x) : gEq neg x x vs = .ok (.bool (!neg)) vs := by
  rw [eq_fn fx fx, eqv_refl x fx.n]
  cases neg <;> rfl
theorem o_neg : gNeg (.int m) vs = .ok (.int (-m)) vs := (rfl)
theorem o_len : gLen [.list xs] vs = .ok (.int xs.length) vs := (rfl)
theorem o_lent : gLen [.tuple xs] vs = .ok (.int xs.length) vs := (rfl)
theorem o_ix : gIx (.list xs) (.int m) vs = opt (atI xs m) (fun u => .ok u vs) .st := by
  show (match atI xs m with | some u => VR.ok u vs | none => .st) = _
  unfold opt
  cases atI xs m <;> rfl
theorem o_ixt : gIx (.tuple xs) (.int m) vs = opt (atI xs m) (fun u => .ok u vs) .st := by
  show (match atI xs m with | some u => VR.ok u vs | none => .st) = _
  unfold opt
  cases atI xs m <;> rfl
theorem o_ixO : gIxO (.list xs) (.int m) vs = opt (atI xs m) (fun u => .ok u vs) .st := by
  show (match atI xs m with | some u => VR.ok u vs | none => .st) = _
  unfold opt
  cases atI xs m <;> rfl
theorem o_cat (h : xs.length + ys.length < lim) : gCat bb (.list xs) (.list ys) vs = .ok (.list (xs ++ ys)) vs := by
  unfold gCat
  dsimp only
  rw [if_pos h]
theorem o_isN : gIsN x .none vs = .ok (.bool (isNo x)) vs := (rfl)
theorem o_notN : gNotN x .none vs = .ok (.bool (!isNo x)) vs := (rfl)
theorem o_min : gMin2 [.int m, .int n] vs = .ok (.int (if n < m then n else m)) vs := (rfl)
theorem o_max : gMax2 [.int m, .int n] vs = .ok (.int (if n > m then n else m)) vs := (rfl)
theorem o_abs : gAbs [.int m] vs = .ok (.int (if m < 0 then -m else m)) vs := (rfl)
theorem o_int : gInt [.int m] vs = .ok (.int m) vs := (rfl)
theorem o_intb : gInt [.bool bb] vs = .ok (.int (if bb = true then 1 else 0)) vs := (rfl)
theorem o_list : gList [.list xs] vs = .ok (.list xs) vs := (rfl)
theorem o_listt : gList [.tuple xs] vs = .ok (.list xs) vs := (rfl)
theorem o_tuple : gTuple [.list xs] vs = .ok (.tuple xs) vs := (rfl)
theorem o_sum {ns : List Int} : gSum [.list (ns.map PyData.int)] vs = .ok (.int ns.sum) vs := by
  unfold gSum
  dsimp only
  rw [intsD_ok]
theorem boolsD_ok : ∀ bs : List Bool, boolsD (bs.map PyData.bool) = some bs
  | [] => rfl
  | b :: bs => by
    show (boolsD (bs.map PyData.bool)).map (b :: ·) = _
    rw [boolsD_ok bs]; rfl
theorem o_bools {kb : List Bool → Bool} {bs : List Bool} : gBools kb [.list (bs.map PyData.bool)] vs = .ok (.bool (kb bs)) vs := by
  unfold gBools
  dsimp only
  rw [boolsD_ok]
/-! dicts -/
theorem u_dct : fDct bb kk vs = .ok (.dict []) vs := (rfl)
theorem u_din {neg : Bool} : fDIn neg ga gb vs = (ga vs).bind fun x vs => (gb vs).bind fun y vs => dIn neg x y vs := (rfl)
theorem u_dget : fDGet ga gb vs = (ga vs).bind fun x vs => (gb vs).bind fun y vs => dGet x y vs := (rfl)
theorem o_din {neg : Bool} {key : Key} {l : List (Key × PyData)} : dIn neg (kD key) (.dict (dK l)) vs = .ok (.bool (neg ^^ (valL l key).isSome)) vs := by
  unfold dIn
  rw [keyP_kD]
  dsimp only
  rw [toL_dK]
theorem o_dget {key : Key} {l : List (Key × PyData)} {x : PyData} (e : valL l key = some x) : dGet (.dict (dK l)) (kD key) vs = .ok x vs := by
  unfold dGet
  rw [keyP_kD]
  dsimp only
  rw [toL_dK]
  dsimp only
  rw [e]
theorem o_lenD {l : List (Key × PyData)} : gLenD [.dict (dK l)] vs = .ok (.int l.length) vs := by
  unfold gLenD
  dsimp only
  rw [toL_dK]
/-! places -/
theorem p_var : pVar vs = some [] := (rfl)
theorem p_ix {gp : VP} : pIx gp ga vs = opt (gp vs) (fun js => rv (ga vs) (fun x => gn x (fun j => some (js ++ [j])) none) none) none := by
  unfold pIx opt rv gn
  cases gp vs with
  | none => rfl
  | some js =>
    cases ga vs with
    | ok x vs' => cases x <;> rfl
    | rz c => rfl
    | st => rfl
theorem u_store {gp : VP} {gi ge : VE} : sStore i gp gi ge vs = (ge vs).thn vs fun x vs => opt (gp vs) (fun js => rv (gi vs) (fun w => gn w (fun j => gv vs[i]? (fun y => opt (getAt js y) (fun z => gl z (fun ds => opt (ixN ds.length j) (fun p => .nx (vs.set i (.v (putAt js (.list (ds.set p x)) y)))) .st) .st) .st) .st) .st) .st) .st := by
  unfold sStore opt rv gn gv gl
  congr 1
  funext x vs
  cases gp vs with
  | none => rfl
  | some js =>
    cases gi vs with
    | rz c => rfl
    | st => rfl
    | ok w vs' =>
      cases w <;> try rfl
      rename_i j
      rcases vs[i]? with _ | (_ | y | _ | _) <;> try rfl
      dsimp only
      cases getAt js y with
      | none => rfl
      | some z =>
        cases z <;> try rfl
        rename_i ds
        dsimp only
        cases ixN ds.length j <;> rfl
theorem u_augS {f : Int → Int → Int} {gp : VP} {gi ge : VE} : sAugS f i gp gi ge vs = opt (gp vs) (fun js => rv (gi vs) (fun w => gn w (fun j => gv vs[i]? (fun y => opt (getAt js y) (fun z => gl z (fun ds => opt (ixN ds.length j) (fun p => opt ds[p]? (fun d => gn d (fun a => rv (ge vs) (fun e => gn e (fun c => .nx (vs.set i (.v (putAt js (.list (ds.set p (.int (f a c)))) y)))) .st) .st) .st) .st) .st) .st) .st) .st) .st) .st) .st := by
  unfold sAugS opt rv gn gv gl
  cases gp vs with
  | none => rfl
  | some js =>
    cases gi vs with
    | rz c => rfl
    | st => rfl
    | ok w vs' =>
      cases w <;> try rfl
      rename_i j
      rcases vs[i]? with _ | (_ | y | _ | _) <;> try rfl
      dsimp only
      cases getAt js y with
      | none => rfl
      | some z =>
        cases z <;> try rfl
        rename_i ds
        dsimp only
        cases ixN ds.length j with
        | none => rfl
        | some p =>
          dsimp only
          cases ds[p]? with
          | none => rfl
          | some d =>
            cases d <;> try rfl
            dsimp only
            cases ge vs with
            | rz c => rfl
            | st => rfl
            | ok e vs2 => cases e <;> rfl
theorem u_app : fApp i ga vs = gv vs[i]? (fun y => gl y (fun _ => (ga vs).bind fun x vs1 => gv vs1[i]? (fun y => gl y (fun ds => capp ds.length (.ok .none (vs1.set i (.v (.list (ds ++ [x]))))) .st) .st) .st) .st) .st := by
  unfold fApp gv gl capp
  rcases vs[i]? with _ | (_ | y | _ | _) <;> try rfl
  cases y <;> try rfl
  dsimp only
  congr 1
  funext x vs1
  rcases vs1[i]? with _ | (_ | z | _ | _) <;> try rfl
  cases z <;> rfl
theorem u_mt {gp : VP} {kV : List PyData → List PyData → Option (List PyData × PyData)} : fMt i gp kV qa vs = gv vs[i]? (fun x => opt (gp vs) (fun js => opt (getAt js x) (fun z => gl z (fun ds => (qa vs).bind fun as vs => opt (kV ds as) (fun p => .ok p.2 (vs.set i (.v (putAt js (.list p.1) x)))) .st) .st) .st) .st) .st := by
  unfold fMt gv gl opt
  rcases vs[i]? with _ | (_ | y | _ | _) <;> try rfl
  cases gp vs with
  | none => rfl
  | some js =>
    dsimp only
    cases getAt js y with
    | none => rfl
    | some z =>
      cases z <;> try rfl
      dsimp only
      congr 1
      funext as vs
      cases kV _ as <;> rfl
theorem ge_nil : getAt [] x = some x := (rfl)
theorem ge_c {js : List Int} : getAt (m :: js) (.list xs) = opt (atI xs m) (getAt js) none := by
  show (match atI xs m with | some d => getAt js d | none => none) = _
  unfold opt
  cases atI xs m <;> rfl
theorem pt_nil : putAt [] y x = y := (rfl)
theorem u_dstore {gi ge : VE} : sDStore i gi ge vs = (ge vs).thn vs fun x vs => rv (gi vs) (fun y => opt (keyP y) (fun key => gv vs[i]? (fun z => match z with | .dict ps => opt (toL ps) (fun l => if l.length < 1000 then .nx (vs.set i (.v (.dict (dK (putL l key x))))) else .st) .st | _ => .st) .st) .st) .st := by
  unfold sDStore opt rv gv
  congr 1
  funext x vs
  cases gi vs with
  | rz c => rfl
  | st => rfl
  | ok y vs' =>
    dsimp only
    cases keyP y with
    | none => rfl
    | some key =>
      dsimp only
      rcases vs[i]? with _ | (_ | z | _ | _) <;> try rfl
      cases z <;> try rfl
      dsimp only
      cases toL _ <;> rfl
theorem u_aug {g : PyData → PyData → List VS → VR PyData} : sAug i g ga vs = gv vs[i]? (fun x => (ga vs).thn vs fun y vs => match g x y vs with | .ok z vs => .nx (vs.set i (.v z)) | _ => .st) .st := by
  unfold sAug gv
  rcases vs[i]? with _ | (_ | y | _ | _) <;> rfl
/-! sources -/
def rngq (ds : List PyData) (vs : List VS) : VR (List VI) := match ds with
  | [.int j] => if inB j = true then .ok (rngV 0 j.toNat) vs else .st
  | _ => .st
def rngq2 (ds : List PyData) (vs : List VS) : VR (List VI) := match ds with
  | [.int i, .int j] => if (inB i && inB j) = true then .ok (rngV i (j - i).toNat) vs else .st
  | _ => .st
theorem u_irng : iRng qa vs = (qa vs).bind rngq := (rfl)
theorem u_irng2 : iRng2 qa vs = (qa vs).bind rngq2 := (rfl)
theorem g1_ok (h0 : -1000000000 ≤ m) (h1 : m ≤ 1000000000) : rngq [.int m] vs = .ok (rngV 0 m.toNat) vs := by
  unfold rngq
  simp only [inB_lt h0 h1, if_true]
theorem g2_ok (h0 : -1000000000 ≤ m) (h1 : m ≤ 1000000000) (h2 : -1000000000 ≤ n) (h3 : n ≤ 1000000000) : rngq2 [.int m, .int n] vs = .ok (rngV m (n - m).toNat) vs := by
  unfold rngq2
  simp only [inB_lt h0 h1, inB_lt h2 h3, Bool.and_self, if_true]
theorem u_iseq : iSeq ga vs = (ga vs).bind fun x vs => gl x (fun ds => .ok (ds.map .one) vs) .st := by
  unfold iSeq gl
  congr 1
theorem u_itup : iTupl ga vs = (ga vs).bind fun x vs => match x with | .tuple ds => .ok (ds.map .one) vs | _ => .st := (rfl)
theorem u_ienu : iEnu qa vs = (qa vs).bind fun ds vs => match ds with | [.list xs] => .ok (enumV 0 xs) vs | _ => .st := (rfl)
theorem u_izip : iZip qa vs = (qa vs).bind fun ds vs => match ds with | [.list xs, .list ys] => .ok (zipV xs ys) vs | _ => .st := (rfl)
theorem rng_len {lo : Int} {n : Nat} : (rngV lo n).length = n := by unfold rngV; rw [List.length_map, List.length_range]
/-! loops and comprehensions -/
theorem u_for {gi : VSr} : sFor gi bd a vs = (gi vs).thn vs fun l vs => forV vs bd a l vs := (rfl)
theorem u_forVar : sForVar i bd a vs = gv vs[i]? (fun y => gl y (fun ds => forVarV vs i bd a ds.length 0 vs) .st) .st := by
  unfold sForVar gv gl
  rcases vs[i]? with _ | (_ | y | _ | _) <;> try rfl
  cases y <;> rfl
theorem u_forOwn : sForOwn i j a vs = gv vs[i]? (fun y => gl y (fun ds => forOwnV (vs.set i .un) i j a ds.length 0 (.list ds) (vs.set i .un)) .st) .st := by
  unfold sForOwn gv gl
  rcases vs[i]? with _ | (_ | y | _ | _) <;> try rfl
  cases y <;> rfl
theorem u_forF : sForF ga bd a vs = (ga vs).thn vs fun x vs => gl x (fun ds => forV vs bd a (ds.map .one) vs) .st := by
  unfold sForF gl
  congr 1
theorem u_while {fuel : Nat} : sWhile fuel gt a vs = whV vs gt a fuel vs := (rfl)
theorem u_lc {gi : VSr} {vx : List Nat} : fLc bb kk gi bd gt ga vx vs = (gi vs).bind fun its vs => lcEnd vs (lcV bd gt ga (wipeV vs vx) its) := (rfl)
theorem u_lcVar {vx : List Nat} : fLcVar bb kk i bd gt ga vx vs = gv vs[i]? (fun y => gl y (fun ds => lcEnd vs (lcV bd gt ga (wipeV vs vx) (ds.map .one))) .st) .st := by
  unfold fLcVar gv gl
  rcases vs[i]? with _ | (_ | y | _ | _) <;> try rfl
  cases y <;> rfl
theorem u_lcEV {vx : List Nat} : fLcEV bb kk i bd gt ga vx vs = gv vs[i]? (fun y => gl y (fun ds => lcEnd vs (lcV bd gt ga (wipeV vs vx) (enumV 0 ds))) .st) .st := by
  unfold fLcEV gv gl
  rcases vs[i]? with _ | (_ | y | _ | _) <;> try rfl
  cases y <;> rfl
theorem u_lcOwn {vx : List Nat} : fLcOwn bb kk i j gt ga vx vs = gv vs[i]? (fun y => gl y (fun ds => lcEnd vs (lcV (.nm j) gt ga (wipeV (vs.set i .un) vx) (ds.map .one))) .st) .st := by
  unfold fLcOwn gv gl
  rcases vs[i]? with _ | (_ | y | _ | _) <;> try rfl
  cases y <;> rfl
theorem u_lcMv {l p q : Nat} {vx : List Nat} : fLcMv l p q gt vx vs = gv vs[l]? (fun y => gl y (fun ds => lcEnd (vs.set l .un) (lcV (.tp [p, q]) gt (fVar q) (wipeV (vs.set l .un) vx) (enumV 0 ds))) .st) .st := by
  unfold fLcMv gv gl
  rcases vs[l]? with _ | (_ | y | _ | _) <;> try rfl
  cases y <;> rfl
theorem lcEnd_some {out : List PyData} (h : out.length ≤ 1000000) : lcEnd vs (some out) = .ok (.list out) vs := by
  unfold lcEnd
  dsimp only
  rw [if_pos h]
theorem f_nx {vs0 : List VS} {K : List VS → VO} : aftV vs0 (.nx vs) K = K (resetV vs0 vs) := (rfl)
theorem f_ct {vs0 : List VS} {K : List VS → VO} : aftV vs0 (.ct vs) K = K (resetV vs0 vs) := (rfl)
theorem f_bk {vs0 : List VS} {K : List VS → VO} : aftV vs0 (.bk vs) K = .nx (resetV vs0 vs) := (rfl)
theorem f_rt {vs0 : List VS} {K : List VS → VO} : aftV vs0 (.rt x) K = .rt x := (rfl)
theorem f_rz {vs0 : List VS} {K : List VS → VO} : aftV vs0 (.rz c vs) K = .rz c vs := (rfl)
theorem rs_un {v : VS} : resetV (.un :: vs) (v :: vs') = .un :: resetV vs vs' := (rfl)
theorem rs_v {v : VS} : resetV (.v x :: vs) (v :: vs') = v :: resetV vs vs' := (rfl)
theorem rs_sc {v : VS} {ns : List Int} : resetV (.sc ns :: vs) (v :: vs') = v :: resetV vs vs' := (rfl)
theorem rs_nil : resetV [] vs = vs := by unfold resetV; rfl
end
/-! ## rules -/
section
variable {bd : Bd} {body : VF} {vs0 : List VS} {gt : VT} {ge : VE} {vw : List VS}
def turnV (vs0 : List VS) (bd : Bd) (body : VF) (it : VI) (vs : List VS) (K : List VS → VO) : VO := match goV bd it vs with
  | none => .st
  | some vs1 => aftV vs0 (body vs1) K
theorem for_c {it : VI} {its : List VI} {vs : List VS} : forV vs0 bd body (it :: its) vs = turnV vs0 bd body it vs (forV vs0 bd body its) := (rfl)
/-- each turn leads from f i to f (i + 1) -/
theorem for_run {f : Nat → List VS} : ∀ {its : List VI} {i : Nat}, (∀ (j : Nat) (it : VI), its[j]? = some it → ∀ K, turnV vs0 bd body it (f (i + j)) K = K (f (i + j + 1))) → forV vs0 bd body its (f i) = .nx (f (i + its.length))
  | [], i, _ => rfl
  | it :: its, i, h => by
    have h0 := h 0 it rfl
    rw [Nat.add_zero] at h0
    rw [for_c, h0, for_run (i := i + 1) fun j it e K => by
      have := h (j + 1) it e K
      rw [show i + (j + 1) = i + 1 + j from by omega] at this
      exact this]
    congr 2
    rw [List.length_cons]; omega
theorem for_rng {f : Nat → List VS} {lo : Int} {n : Nat} (h : ∀ i, i < n → ∀ K, turnV vs0 bd body (.one (.int (lo + (i : Nat)))) (f i) K = K (f (i + 1))) : forV vs0 bd body (rngV lo n) (f 0) = .nx (f n) := by
  rw [for_run (i := 0) fun j it e K => ?_, rng_len, Nat.zero_add]
  unfold rngV at e
  rw [List.getElem?_map] at e
  cases q : (List.range n)[j]? with
  | none => rw [q] at e; cases e
  | some m =>
    rw [q] at e
    cases e
    obtain ⟨hj, hm⟩ := List.getElem?_eq_some_iff.mp q
    rw [List.length_range] at hj
    rw [List.getElem_range] at hm
    subst hm
    rw [Nat.zero_add]
    exact h j hj K
/-- an invariant -/
theorem for_inv {P : Nat → List VS → Prop} : ∀ {its : List VI} {i : Nat} {vs : List VS}, P i vs → (∀ (j : Nat) (it : VI) (vs : List VS), its[j]? = some it → P (i + j) vs → ∃ vs', P (i + j + 1) vs' ∧ ∀ K, turnV vs0 bd body it vs K = K vs') → ∃ vs', P (i + its.length) vs' ∧ forV vs0 bd body its vs = .nx vs'
  | [], i, vs, p, _ => ⟨vs, p, rfl⟩
  | it :: its, i, vs, p, h => by
    obtain ⟨vs1, p1, e1⟩ := h 0 it vs rfl p
    obtain ⟨vs2, p2, e2⟩ := for_inv (i := i + 1) p1 fun j it vs e q => by
      obtain ⟨vs', q', e'⟩ := h (j + 1) it vs e (by rw [show i + (j + 1) = i + 1 + j from by omega]; exact q)
      exact ⟨vs', by rw [show i + 1 + j + 1 = i + (j + 1) + 1 from by omega]; exact q', e'⟩
    refine ⟨vs2, by rw [List.length_cons, show i + (its.length + 1) = i + 1 + its.length from by omega]; exact p2, ?_⟩
    rw [for_c, e1, e2]
theorem for_rinv {P : Nat → List VS → Prop} {lo : Int} {n : Nat} {vs : List VS} (p : P 0 vs) (h : ∀ i vs, i < n → P i vs → ∃ vs', P (i + 1) vs' ∧ ∀ K, turnV vs0 bd body (.one (.int (lo + (i : Nat)))) vs K = K vs') : ∃ vs', P n vs' ∧ forV vs0 bd body (rngV lo n) vs = .nx vs' := by
  obtain ⟨vs', p', e⟩ := for_inv (i := 0) (its := rngV lo n) p fun j it vs e q => by
    unfold rngV at e
    rw [List.getElem?_map] at e
    cases q' : (List.range n)[j]? with
    | none => rw [q'] at e; cases e
    | some m =>
      rw [q'] at e
      cases e
      obtain ⟨hj, hm⟩ := List.getElem?_eq_some_iff.mp q'
      rw [List.length_range] at hj
      rw [List.getElem_range] at hm
      subst hm
      rw [Nat.zero_add] at q ⊢
      exact h j vs hj q
  rw [rng_len, Nat.zero_add] at p'
  exact ⟨vs', p', e⟩
/-- a loop that may return: the first item with Q returns -/
theorem for_ret {Q : VI → Prop} {vs : List VS} {x : PyData} : ∀ {its : List VI}, (∀ it ∈ its, (Q it ∧ ∀ K, turnV vs0 bd body it vs K = .rt x) ∨ (¬ Q it ∧ ∀ K, turnV vs0 bd body it vs K = K vs)) → ((∃ it ∈ its, Q it) ∧ forV vs0 bd body its vs = .rt x) ∨ ((∀ it ∈ its, ¬ Q it) ∧ forV vs0 bd body its vs = .nx vs)
  | [], _ => .inr ⟨(fun it m => by cases m), rfl⟩
  | it :: its, h => by
    rcases h it List.mem_cons_self with ⟨q, e⟩ | ⟨q, e⟩
    · exact .inl ⟨⟨it, List.mem_cons_self, q⟩, by rw [for_c, e]⟩
    · rcases for_ret fun it m => h it (List.mem_cons_of_mem _ m) with ⟨⟨it', m, q'⟩, e'⟩ | ⟨q', e'⟩
      · exact .inl ⟨⟨it', List.mem_cons_of_mem _ m, q'⟩, by rw [for_c, e, e']⟩
      · refine .inr ⟨fun it' m => ?_, by rw [for_c, e, e']⟩
        rcases List.mem_cons.mp m with rfl | m
        · exact q
        · exact q' it' m
theorem for_still {vs : List VS} {its : List VI} (h : ∀ it ∈ its, ∀ K, turnV vs0 bd body it vs K = K vs) : forV vs0 bd body its vs = .nx vs := by
  rcases for_ret (Q := fun _ => False) (x := .none) fun it m => .inr ⟨id, h it m⟩ with ⟨⟨_, _, z⟩, _⟩ | ⟨_, e⟩
  · exact z.elim
  · exact e
/-- one item of a comprehension -/
def lc1 (bd : Bd) (gt : VT) (ge : VE) (vw : List VS) (it : VI) : Option (Option PyData) := match goV bd it vw with
  | none => none
  | some vs1 => match gt vs1 with
    | .ok true _ => rv (ge vs1) (fun x => some (some x)) none
    | .ok false _ => some none
    | _ => none
theorem lc_all : ∀ {its : List VI} {o : VI → Option PyData}, (∀ it ∈ its, lc1 bd gt ge vw it = some (o it)) → lcV bd gt ge vw its = some (its.filterMap o)
  | [], o, _ => rfl
  | it :: its, o, h => by
    have e := h it List.mem_cons_self
    have r := lc_all (its := its) (o := o) fun it m => h it (List.mem_cons_of_mem _ m)
    unfold lcV
    unfold lc1 at e
    split at e
    · cases e
    · rename_i vs1 hg
      try rw [hg]
      try dsimp only
      split at e
      · rename_i v2 ht
        try rw [ht]
        try dsimp only
        unfold rv at e
        split at e
        · rename_i x v3 hx
          try rw [hx]
          try dsimp only
          rw [r]
          try dsimp only
          have e := Option.some.inj e
          rw [List.filterMap_cons, ← e]
        · cases e
      · rename_i v2 ht
        try rw [ht]
        try dsimp only
        rw [r]
        have e := Option.some.inj e
        rw [List.filterMap_cons, ← e]
      · cases e
theorem fm_some {α γ : Type} {f : α → γ} : ∀ l : List α, l.filterMap (fun x => some (f x)) = l.map f
  | [] => rfl
  | a :: l => by rw [List.filterMap_cons, List.map_cons, fm_some l]
theorem lc_rng {lo : Int} {n : Nat} {o : Nat → Option PyData} (h : ∀ i, i < n → lc1 bd gt ge vw (.one (.int (lo + (i : Nat)))) = some (o i)) : lcV bd gt ge vw (rngV lo n) = some ((List.range n).filterMap o) := by
  have key : ∀ l : List Nat, (∀ i ∈ l, lc1 bd gt ge vw (.one (.int (lo + (i : Nat)))) = some (o i)) → lcV bd gt ge vw (l.map fun i => .one (.int (lo + (i : Nat)))) = some (l.filterMap o) := by
    intro l hl
    have : ∀ l : List Nat, (∀ i ∈ l, lc1 bd gt ge vw (.one (.int (lo + (i : Nat)))) = some (o i)) → lcV bd gt ge vw (l.map fun i => .one (.int (lo + (i : Nat)))) = some (l.filterMap o) := by
      intro l
      induction l with
      | nil => intro _; rfl
      | cons a l ih =>
        intro h
        have e := h a List.mem_cons_self
        have r := ih fun i m => h i (List.mem_cons_of_mem _ m)
        rw [List.map_cons]
        unfold lcV
        unfold lc1 at e
        split at e
        · cases e
        · rename_i vs1 hg
          try rw [hg]
          try dsimp only
          split at e
          · rename_i v2 ht
            try rw [ht]
            try dsimp only
            unfold rv at e
            split at e
            · rename_i x v3 hx
              try rw [hx]
              try dsimp only
              rw [r]
              try dsimp only
              have e := Option.some.inj e
              rw [List.filterMap_cons, ← e]
            · cases e
          · rename_i v2 ht
            try rw [ht]
            try dsimp only
            rw [r]
            have e := Option.some.inj e
            rw [List.filterMap_cons, ← e]
          · cases e
    exact this l hl
  exact key _ fun i m => h i (List.mem_range.mp m)
theorem lc_rmap {lo : Int} {n : Nat} {o : Nat → PyData} (h : ∀ i, i < n → lc1 bd gt ge vw (.one (.int (lo + (i : Nat)))) = some (some (o i))) : lcV bd gt ge vw (rngV lo n) = some ((List.range n).map o) := by
  rw [lc_rng (o := fun i => some (o i)) h, fm_some]
theorem lc_map {its : List VI} {o : VI → PyData} (h : ∀ it ∈ its, lc1 bd gt ge vw it = some (some (o it))) : lcV bd gt ge vw its = some (its.map o) := by
  rw [lc_all (o := fun i => some (o i)) h, fm_some]
/-- over owned items: each is changed by f -/
theorem own_run {vs : List VS} {l i : Nat} {f : PyData → PyData} (hl : ∀ x w, body (vs.set i (.v x)) = w → True) : ∀ {ds done : List PyData}, (∀ x ∈ ds, ∃ w, (body (vs.set i (.v x)) = .nx w ∨ body (vs.set i (.v x)) = .ct w) ∧ w[i]? = some (.v (f x)) ∧ resetV vs0 (w.set i .un) = vs) →
    forOwnV vs0 l i body ds.length done.length (.list (done ++ ds)) vs = .nx (vs.set l (.v (.list (done ++ ds.map f))))
  | [], done, _ => by
    show (if (done ++ []).length ≤ done.length then VO.nx (vs.set l (.v (.list (done ++ [])))) else .st) = _
    rw [List.append_nil, if_pos (Nat.le_refl _), List.map_nil, List.append_nil]
  | x :: ds, done, h => by
    obtain ⟨w, hw, e1, e2⟩ := h x List.mem_cons_self
    have hlt : (done.length : Int) < ((done ++ x :: ds).length : Nat) := by rw [List.length_append, List.length_cons]; omega
    have hat : atI (done ++ x :: ds) (done.length : Int) = some x := by
      rw [atI_0 (by omega)]
      simp
    have hg : getAt [(done.length : Int)] (.list (done ++ x :: ds)) = some x := by
      rw [ge_c, hat]; rfl
    have hp : putAt [(done.length : Int)] (f x) (.list (done ++ x :: ds)) = .list ((done ++ [f x]) ++ ds) := by
      rw [putAt_c (p := done.length) (d := x)]
      · rw [pt_nil]
        simp
      · rw [ixN_in (by omega) hlt]; simp
      · simp
    have ih := own_run (vs := vs) (l := l) (i := i) (f := f) hl (ds := ds) (done := done ++ [f x]) fun y m => h y (List.mem_cons_of_mem _ m)
    rw [List.length_append, List.length_singleton, List.append_assoc, List.append_assoc] at ih
    rw [List.length_cons]
    unfold forOwnV
    try rw [hg]
    try dsimp only
    rcases hw with hw | hw
    · rw [hw]
      dsimp only
      rw [e1]
      dsimp only
      rw [e2, hp, List.append_assoc, ih]
      rfl
    · rw [hw]
      dsimp only
      rw [e1]
      dsimp only
      rw [e2, hp, List.append_assoc, ih]
      rfl
def rt {β : Type} (r : VR Bool) (k : Bool → β) (z : β) : β := match r with
  | .ok b _ => k b
  | _ => z
theorem rt_k {β : Type} {b : Bool} {vs : List VS} {k : Bool → β} {z : β} : rt (.ok b vs) k z = k b := (rfl)
theorem lc1_eq {it : VI} : lc1 bd gt ge vw it = opt (goV bd it vw) (fun vs1 => rt (gt vs1) (fun b => if b = true then rv (ge vs1) (fun x => some (some x)) none else some none) none) none := by
  unfold lc1 opt rt
  cases goV bd it vw with
  | none => rfl
  | some vs1 =>
    dsimp only
    cases gt vs1 with
    | ok b v => cases b <;> rfl
    | rz c => rfl
    | st => rfl
theorem turn_eq {it : VI} {vs : List VS} {K : List VS → VO} : turnV vs0 bd body it vs K = opt (goV bd it vs) (fun vs1 => aftV vs0 (body vs1) K) .st := by
  unfold turnV opt
  cases goV bd it vs <;> rfl
theorem fm_filter {α γ : Type} {t : α → Bool} {g : α → γ} : ∀ l : List α, l.filterMap (fun x => if t x = true then some (g x) else none) = (l.filter t).map g
  | [] => rfl
  | a :: l => by
    rw [List.filterMap_cons, List.filter_cons]
    by_cases h : t a = true
    · rw [if_pos h, if_pos h, List.map_cons, fm_filter l]
    · rw [if_neg h, if_neg h, fm_filter l]
theorem lc_rflt {lo : Int} {n : Nat} {t : Nat → Bool} {o : Nat → PyData} (h : ∀ i, i < n → lc1 bd gt ge vw (.one (.int (lo + (i : Nat)))) = some (if t i = true then some (o i) else none)) : lcV bd gt ge vw (rngV lo n) = some (((List.range n).filter t).map o) := by
  rw [lc_rng (o := fun i => if t i = true then some (o i) else none) h, fm_filter]
/-- over an enumeration -/
theorem enum_map {n : Nat} {F : Nat → PyData} : ∀ (k : Nat), enumV k ((List.range n).map fun i => F (k + i)) = (List.range n).map fun (i : Nat) => VI.two (.int ((k + i : Nat) : Int)) (F (k + i)) := by
  have key : ∀ (l : List Nat) (k : Nat) (G : Nat → PyData), (∀ j, j < l.length → l[j]? = some j) → enumV k (l.map G) = l.map fun (i : Nat) => VI.two (.int ((k + i : Nat) : Int)) (G i) := by
    intro l
    intro k G hl
    have gen : ∀ (l : List Nat) (k b : Nat), (∀ j, j < l.length → l[j]? = some (b + j)) → enumV (k + b) (l.map G) = l.map fun (i : Nat) => VI.two (.int ((k + i : Nat) : Int)) (G i) := by
      intro l
      induction l with
      | nil => intro k b _; rfl
      | cons a l ih =>
        intro k b h
        have h0 := h 0 (by rw [List.length_cons]; omega)
        have ha : a = b := Option.some.inj h0
        subst ha
        show VI.two (.int ((k + a : Nat) : Int)) (G a) :: enumV (k + a + 1) (l.map G) = _
        rw [show k + a + 1 = k + (a + 1) from by omega, ih k (a + 1) fun j hj => by
          have := h (j + 1) (by rw [List.length_cons]; omega)
          rw [show a + 1 + j = a + (j + 1) from by omega]
          exact this]
        rfl
    have := gen l k 0 fun j hj => by rw [Nat.zero_add]; exact hl j hj
    exact this
  intro k
  exact key (List.range n) k (fun i => F (k + i)) fun j hj => by
    rw [List.length_range] at hj
    rw [List.getElem?_range hj]
theorem enum_rng {n : Nat} {F : Nat → PyData} : enumV 0 ((List.range n).map F) = (List.range n).map fun (i : Nat) => VI.two (.int (i : Int)) (F i) := by
  have := enum_map (n := n) (F := F) 0
  simpa using this
theorem lc_list {α : Type} {w : α → VI} {o : α → Option PyData} : ∀ (l : List α), (∀ a ∈ l, lc1 bd gt ge vw (w a) = some (o a)) → lcV bd gt ge vw (l.map w) = some (l.filterMap o)
  | [], _ => rfl
  | a :: l, h => by
    have r := lc_list l fun a m => h a (List.mem_cons_of_mem _ m)
    have e := h a List.mem_cons_self
    rw [List.map_cons, List.filterMap_cons]
    unfold lcV
    unfold lc1 at e
    split at e
    · cases e
    · rename_i vs1 hg
      try rw [hg]
      try dsimp only
      split at e
      · rename_i v2 ht
        try rw [ht]
        try dsimp only
        unfold rv at e
        split at e
        · rename_i x v3 hx
          try rw [hx]
          try dsimp only
          rw [r]
          try dsimp only
          have e := Option.some.inj e
          rw [← e]
        · cases e
      · rename_i v2 ht
        try rw [ht]
        try dsimp only
        rw [r]
        have e := Option.some.inj e
        rw [← e]
      · cases e
theorem lc_lflt {α : Type} {w : α → VI} {t : α → Bool} {o : α → PyData} {l : List α} (h : ∀ a ∈ l, lc1 bd gt ge vw (w a) = some (if t a = true then some (o a) else none)) : lcV bd gt ge vw (l.map w) = some ((l.filter t).map o) := by
  rw [lc_list l (o := fun a => if t a = true then some (o a) else none) h, fm_filter]
theorem lc_lmap {α : Type} {w : α → VI} {o : α → PyData} {l : List α} (h : ∀ a ∈ l, lc1 bd gt ge vw (w a) = some (some (o a))) : lcV bd gt ge vw (l.map w) = some (l.map o) := by
  rw [lc_list l (o := fun a => some (o a)) h, fm_some]
theorem at_rng {α : Type} {F : Nat → α} {p n : Nat} (h : p < n) : atI ((List.range n).map F) (p : Int) = some (F p) := by
  rw [atI_0 (by omega), List.getElem?_map, Int.toNat_natCast, List.getElem?_range h]; rfl
theorem o_dini {neg : Bool} {m : Int} {l : List (Key × PyData)} {vs : List VS} : dIn neg (.int m) (.dict (dK l)) vs = .ok (.bool (neg ^^ (valL l (.inl m)).isSome)) vs := o_din (key := .inl m)
theorem o_dgeti {m : Int} {l : List (Key × PyData)} {x : PyData} {vs : List VS} (e : valL l (.inl m) = some x) : dGet (.dict (dK l)) (.int m) vs = .ok x vs := o_dget (key := .inl m) e
theorem valL_some {k : Key} : ∀ {l : List (Key × PyData)}, (valL l k).isSome = true ↔ k ∈ l.map Prod.fst
  | [] => by unfold valL; simp
  | p :: l => by
    unfold valL
    rw [List.map_cons, List.mem_cons]
    by_cases h : p.1 = k
    · rw [if_pos h]
      exact ⟨fun _ => .inl h.symm, fun _ => rfl⟩
    · rw [if_neg h, valL_some]
      exact ⟨fun z => .inr z, fun z => z.elim (fun e => absurd e.symm h) id⟩
theorem flatL_ints : ∀ l : List Int, flatL ((l.map PyData.int).map SV.d) = some (l.map V.int)
  | [] => rfl
  | a :: l => by
    show (match flatL ((l.map PyData.int).map SV.d) with | some vs => some (V.int a :: vs) | none => none) = _
    rw [flatL_ints l]; rfl
theorem inV_ints {m : Int} : ∀ l : List Int, inV (.int m) (l.map V.int) = decide (m ∈ l)
  | [] => rfl
  | a :: l => by
    have ih := inV_ints (m := m) l
    unfold inV at ih ⊢
    rw [List.map_cons, List.any_cons, ih]
    show ((a == m) || decide (m ∈ l)) = _
    by_cases h : a = m
    · subst h; simp
    · have h2 : m ≠ a := fun e => h e.symm
      simp [h, h2]
theorem o_in {neg : Bool} {m : Int} {l : List Int} {vs : List VS} : gIn neg (.int m) (.list (l.map PyData.int)) vs = .ok (.bool (if neg then !decide (m ∈ l) else decide (m ∈ l))) vs := by
  show (match flatL ((l.map PyData.int).map SV.d) with | some us => VR.ok (PyData.bool (if neg then !inV (.int m) us else inV (.int m) us)) vs | none => VR.st) = _
  rw [flatL_ints]
  dsimp only
  rw [inV_ints]
theorem forVar_run {l : Nat} {ds : List PyData} {f : Nat → List VS} (hf : ∀ j, (f j)[l]? = some (.v (.list ds))) (h : ∀ j x, ds[j]? = some x → ∀ K, turnV vs0 bd body (.one x) (f j) K = K (f (j + 1))) : ∀ {c j : Nat}, c + j = ds.length → forVarV vs0 l bd body c j (f j) = .nx (f ds.length)
  | 0, j, e => by
    unfold forVarV
    rw [hf j]
    dsimp only
    rw [if_pos (by omega)]
    congr 2; omega
  | c + 1, j, e => by
    unfold forVarV
    rw [hf j]
    dsimp only
    have hj : j < ds.length := by omega
    rw [List.getElem?_eq_getElem hj]
    dsimp only
    have h1 := h j _ (List.getElem?_eq_getElem hj) (forVarV vs0 l bd body c (j + 1))
    exact Eq.trans h1 (forVar_run hf h (by omega))
theorem forVar_still {l : Nat} {ds : List PyData} {vs : List VS} (hf : vs[l]? = some (.v (.list ds))) (h : ∀ x ∈ ds, ∀ K, turnV vs0 bd body (.one x) vs K = K vs) : forVarV vs0 l bd body ds.length 0 vs = .nx vs :=
  forVar_run (f := fun _ => vs) (fun _ => hf) (fun j x e K => h x (List.mem_of_getElem? e) K) (by omega)
theorem for_rngE {f : Nat → List VS} {lo : Int} {n : Nat} {vs : List VS} (h0 : f 0 = vs) (h : ∀ i, i < n → ∀ K, turnV vs0 bd body (.one (.int (lo + (i : Nat)))) (f i) K = K (f (i + 1))) : forV vs0 bd body (rngV lo n) vs = .nx (f n) := by
  subst h0
  exact for_rng h
theorem for_runE {f : Nat → List VS} {its : List VI} {vs : List VS} (h0 : f 0 = vs) (h : ∀ (j : Nat) (it : VI), its[j]? = some it → ∀ K, turnV vs0 bd body it (f j) K = K (f (j + 1))) : forV vs0 bd body its vs = .nx (f its.length) := by
  subst h0
  have := for_run (i := 0) (f := f) (its := its) (vs0 := vs0) (bd := bd) (body := body) fun j it e K => by rw [Nat.zero_add]; exact h j it e K
  rw [Nat.zero_add] at this
  exact this
theorem forVar_stillE {l c : Nat} {ds : List PyData} {vs : List VS} (hf : vs[l]? = some (.v (.list ds))) (hc : c = ds.length) (h : ∀ x ∈ ds, ∀ K, turnV vs0 bd body (.one x) vs K = K vs) : forVarV vs0 l bd body c 0 vs = .nx vs := by
  subst hc
  exact forVar_still hf h
theorem rng_mem {lo : Int} {n : Nat} {it : VI} (h : it ∈ rngV lo n) : ∃ i, i < n ∧ it = .one (.int (lo + (i : Nat))) := by
  obtain ⟨i, hi, rfl⟩ := List.mem_map.mp h
  exact ⟨i, List.mem_range.mp hi, rfl⟩
end
end Zx.V

namespace Zx.V
open PySem PySem.Spec L2
/-! ## try by value -/
theorem leaf_noEx {b : Bool} {s : SV} {x : PyData} (l : leaf b s x) : noEx s = true := by
  rcases l with rfl | ⟨_, rfl⟩
  · rfl
  · unfold mkv; split <;> rfl
theorem RV.noEx {h : AH} {b : Bool} {k : Nat} {s : SV} {x : PyData} {f : List Nat} (r : RV h b k s x f) : Zx.noEx s = true := by
  cases k with
  | zero => exact leaf_noEx r.2
  | succ k =>
    unfold RV at r
    rcases r with r | ⟨n, xs, ds, fs, rfl, _⟩ | ⟨n, xs, ds, fs, rfl, _⟩ | ⟨n, xs, ds, fs, rfl, _⟩
    · exact leaf_noEx r.2.1
    · rfl
    · rfl
    · rfl
theorem fa3_noEx {h : AH} {b : Bool} {k : Nat} : ∀ {xs : List SV} {ds : List PyData} {fs : List (List Nat)}, Fa3 (RV h b k) xs ds fs → xs.all Zx.noEx = true
  | [], [], [], _ => rfl
  | a :: as, d :: ds, f :: fs, ⟨r, q⟩ => by rw [List.all_cons, RV.noEx r, fa3_noEx q]; rfl
  | [], [], c :: cs, h => h.elim
  | [], b :: bs, [], h => h.elim
  | [], b :: bs, c :: cs, h => h.elim
  | a :: as, [], [], h => h.elim
  | a :: as, [], c :: cs, h => h.elim
  | a :: as, b :: bs, [], h => h.elim
theorem RV.cell {h : AH} {b : Bool} : ∀ {k : Nat} {s : SV} {x : PyData} {f : List Nat}, RV h b k s x f → ∀ n ∈ f, ∃ o, h[n]? = some o ∧ noExO o = true
  | 0, s, x, f, r, n, m => by rw [r.1] at m; cases m
  | k + 1, s, x, f, r, n, m => by
    unfold RV at r
    rcases r with r | ⟨n', xs, ds, fs, rfl, hn, rfl, rfl, r⟩ | ⟨n', xs, ds, fs, rfl, hn, rfl, rfl, r⟩ | ⟨n', xs, ds, fs, rfl, hn, rfl, rfl, r⟩
    · rw [r.1] at m; cases m
    · rcases List.mem_cons.mp m with rfl | m
      · exact ⟨_, hn, fa3_noEx r⟩
      · obtain ⟨l, hl, hm⟩ := List.mem_flatten.mp m
        obtain ⟨a, d, _, _, p⟩ := Fa3.mem r hl
        exact RV.cell p n hm
    · rcases List.mem_cons.mp m with rfl | m
      · exact ⟨_, hn, fa3_noEx r⟩
      · obtain ⟨l, hl, hm⟩ := List.mem_flatten.mp m
        obtain ⟨a, d, _, _, p⟩ := Fa3.mem r hl
        exact RV.cell p n hm
    · rcases List.mem_cons.mp m with rfl | m
      · exact ⟨_, hn.1, fa3_noEx r⟩
      · obtain ⟨l, hl, hm⟩ := List.mem_flatten.mp m
        obtain ⟨a, d, _, _, p⟩ := Fa3.mem r hl
        exact RV.cell p n hm
theorem cH_len {q : Bool} {h : AH} : (cH q h).length = h.length := by
  unfold cH; split
  · rw [List.length_map]
  · rfl
theorem cH_at {q : Bool} {h : AH} {n : Nat} {o : Option AO} (e : h[n]? = some o) (c : noExO o = true) : (cH q h)[n]? = h[n]? := by
  unfold cH; split
  · rw [List.getElem?_map, e]
    show some (clnO o) = _
    rw [clnO_ok c]
  · rfl
theorem RV.clc {h : AH} {b q : Bool} {k : Nat} {s : SV} {x : PyData} {f : List Nat} (r : RV h b k s x f) : RV (cH q h) b k s x f := r.frame fun n m => by
  obtain ⟨o, e, c⟩ := RV.cell r n m
  exact cH_at e c
theorem RV.c1 {h : AH} {b q : Bool} {k : Nat} {s : SV} {x : PyData} {f : List Nat} (r : RV h b k s x f) : Zx.c1 q s = s := by
  unfold Zx.c1; split
  · exact clnS_ok r.noEx
  · rfl
def clnV : VS → VS
  | .ex _ => .un
  | v => v
theorem cS_cons {q : Bool} {s : SV} {sl : List SV} : cS q (s :: sl) = Zx.c1 q s :: cS q sl := by
  unfold cS Zx.c1; split <;> rfl
theorem cS_nil {q : Bool} : cS q [] = [] := by unfold cS; split <;> rfl
theorem RSt.clc {h : AH} {q : Bool} : ∀ {D : List KD} {sl : List SV} {vs : List VS} {fs : List (List Nat)}, RSt h D sl vs fs → RSt (cH q h) D (cS q sl) (vs.map clnV) fs
  | [], sl, vs, fs, r => by rw [r.1, r.2.1, r.2.2]; exact ⟨cS_nil, rfl, rfl⟩
  | k :: D, sl, vs, fs, ⟨s, sl', v, vs', f, fs', h1, h2, h3, r1, r2⟩ => by
    subst h1 h2 h3
    rw [cS_cons]
    refine ⟨_, _, _, _, _, _, rfl, rfl, rfl, ?_, RSt.clc r2⟩
    cases v with
    | un => exact r1
    | ex c => exact r1.2
    | sc ns =>
      obtain ⟨rfl, e⟩ := r1
      refine ⟨?_, e⟩
      unfold Zx.c1; split <;> rfl
    | v x =>
      have r1 : RV h k.1 k.2 s x f := r1
      show RV _ _ _ _ _ _
      rw [r1.c1]
      exact r1.clc
theorem cS_at {q : Bool} {sl : List SV} {i : Nat} : (cS q sl)[i]? = (sl[i]?).map (Zx.c1 q) := by
  unfold cS; split
  · rename_i e; rw [List.getElem?_map]
    cases sl[i]? with
    | none => rfl
    | some s => show some _ = some _; unfold Zx.c1; rw [if_pos e]
  · rename_i e
    cases sl[i]? with
    | none => rfl
    | some s => show some _ = some _; unfold Zx.c1; rw [if_neg e]
theorem Good.clc {D : List KD} {h0 h : AH} {fs0 fs : List (List Nat)} {sl0 sl : List SV} {vs : List VS} (G : Good D h0 fs0 h sl vs fs) : Good D h0 fs0 (cH (clnQ sl0 h0) h) (cS (clnQ sl0 h0) sl) (vs.map clnV) fs where
  R := G.R.clc
  nd := G.nd
  old := G.old
  fr n hn hm := by
    have e := G.fr n hn hm
    cases hq : clnQ sl0 h0 with
    | false => exact e
    | true =>
      unfold clnQ at hq
      rw [Bool.and_eq_true] at hq
      have e0 : h0[n]? = some h0[n] := List.getElem?_eq_getElem hn
      rw [cH_at (e.trans e0) (List.all_eq_true.mp hq.2 _ (List.getElem_mem hn))]
      exact e
  le := by rw [cH_len]; exact G.le
theorem RtG.clc {h h' : AH} {sl : List SV} {fs : List (List Nat)} {fp : List Nat} (G : RtG h fs h' fp) : RtG h fs (cH (clnQ sl h) h') fp where
  old := G.old
  fr n hn hm := by
    have e := G.fr n hn hm
    cases hq : clnQ sl h with
    | false => exact e
    | true =>
      unfold clnQ at hq
      rw [Bool.and_eq_true] at hq
      have e0 : h[n]? = some h[n] := List.getElem?_eq_getElem hn
      rw [cH_at (e.trans e0) (List.all_eq_true.mp hq.2 _ (List.getElem_mem hn))]
      exact e
  le := by rw [cH_len]; exact G.le
theorem keep_clc {A : List Nat} {h0 : AH} {sl sl' : List SV} (K : Keep A sl sl') : Keep A sl (cS (clnQ sl h0) sl') := fun i hi => by
  rw [cS_at, K i hi]
  cases hq : clnQ sl h0 with
  | false => cases sl[i]? with
    | none => rfl
    | some s => rfl
  | true =>
    unfold clnQ at hq
    rw [Bool.and_eq_true] at hq
    cases e : sl[i]? with
    | none => rfl
    | some s =>
      show some (Zx.c1 true s) = _
      unfold Zx.c1
      rw [if_pos rfl, clnS_ok (List.all_eq_true.mp hq.1 _ (List.mem_of_getElem? e))]
def endedAs (i : Nat) (o : VO) : VO := match o with
  | .nx vs => .nx ((vs.set i .un).map clnV)
  | .bk vs => .bk ((vs.set i .un).map clnV)
  | .ct vs => .ct ((vs.set i .un).map clnV)
  | .rt x => .rt x
  | _ => .st
def endedO (o : VO) : VO := match o with
  | .nx vs => .nx (vs.map clnV)
  | .bk vs => .bk (vs.map clnV)
  | .ct vs => .ct (vs.map clnV)
  | .rt x => .rt x
  | _ => .st
def sTryAs (i : Nat) (k : Str → Option Bool) (gb : VF) (gh : Str → VF) : VF := fun vs => match gb vs with
  | .rz c vs1 => match k c with
    | some true => endedAs i (gh c (vs1.set i (.ex c)))
    | some false => .rz c vs1
    | none => .st
  | o => o
def sTryO (k : Str → Option Bool) (gb : VF) (gh : Str → VF) : VF := fun vs => match gb vs with
  | .rz c vs1 => match k c with
    | some true => endedO (gh c vs1)
    | some false => .rz c vs1
    | none => .st
  | o => o
section
variable {D : List KD} {A A1 A2 : List Nat} {rb : Bool} {rk : Nat} {i : Nat} {kd : KD} {fb : FS} {gb : VF} {fh : Str → FS} {gh : Str → VF} {kk : Str → Option Bool}
theorem Good.unset {h0 h : AH} {fs0 fs : List (List Nat)} {sl : List SV} {vs : List VS} (e : D[i]? = some kd) (s : SV) (G : Good D h0 fs0 h sl vs fs) : Good D h0 fs0 h (sl.set i s) (vs.set i .un) (fs.set i []) :=
  G.sub (G.R.set e (show ([] : List Nat) = [] from rfl)) (nd_rest G.nd) fun n m => mem_rest m
theorem out_endedAs {h : AH} {sl : List SV} {fs : List (List Nat)} {r : VO} {q : O} (e : D[i]? = some kd) (hi : i ∈ A) (o : OutS D A rb rk h sl fs r q) : OutS D A rb rk h sl fs (endedAs i r) (endedC (clnQ sl h) i q) := by
  have kp : ∀ {sl' : List SV}, Keep A sl sl' → Keep A sl (sl'.set i .un) := fun k j hj => by
    rw [List.getElem?_set_ne (fun z : i = j => hj (by rw [← z]; exact hi))]; exact k j hj
  cases r with
  | nx vs' => obtain ⟨a, b, c, rfl, g, k⟩ := o; exact ⟨_, _, _, rfl, (Good.unset e .un g).clc, keep_clc (kp k)⟩
  | bk vs' => obtain ⟨a, b, c, rfl, g, k⟩ := o; exact ⟨_, _, _, rfl, (Good.unset e .un g).clc, keep_clc (kp k)⟩
  | ct vs' => obtain ⟨a, b, c, rfl, g, k⟩ := o; exact ⟨_, _, _, rfl, (Good.unset e .un g).clc, keep_clc (kp k)⟩
  | rt x =>
    obtain ⟨s, h', fp, rfl, r, n, z⟩ := o
    exact ⟨_, _, fp, rfl, by rw [r.c1]; exact r.clc, n, z.clc⟩
  | rz c vs' => trivial
  | st => trivial
theorem out_endedO {h : AH} {sl : List SV} {fs : List (List Nat)} {r : VO} {q : O} (o : OutS D A rb rk h sl fs r q) : OutS D A rb rk h sl fs (endedO r) (endedOC (clnQ sl h) q) := by
  cases r with
  | nx vs' => obtain ⟨a, b, c, rfl, g, k⟩ := o; exact ⟨_, _, _, rfl, g.clc, keep_clc k⟩
  | bk vs' => obtain ⟨a, b, c, rfl, g, k⟩ := o; exact ⟨_, _, _, rfl, g.clc, keep_clc k⟩
  | ct vs' => obtain ⟨a, b, c, rfl, g, k⟩ := o; exact ⟨_, _, _, rfl, g.clc, keep_clc k⟩
  | rt x =>
    obtain ⟨s, h', fp, rfl, r, n, z⟩ := o
    exact ⟨_, _, fp, rfl, by rw [r.c1]; exact r.clc, n, z.clc⟩
  | rz c vs' => trivial
  | st => trivial
theorem sv_tryAs (hb : SVp D A1 rb rk fb gb) (hh : ∀ c, SVp D A2 rb rk (fh c) (gh c)) (e : D[i]? = some kd := by rfl) : SVp D (i :: (A1 ++ A2)) rb rk (Zx.sTryAsC i kk fb fh) (sTryAs i kk gb gh) := by
  intro h sl vs fs R nd
  have o := hb h sl vs fs R nd
  have ka : ∀ {sl' : List SV}, Keep A1 sl sl' → Keep (i :: (A1 ++ A2)) sl sl' := fun k j hj => k j fun z => hj (List.mem_cons_of_mem _ (List.mem_append_left _ z))
  unfold Zx.sTryAsC sTryAs
  generalize gb vs = r at o ⊢
  generalize fb sl h = q at o ⊢
  cases r with
  | nx vs' => obtain ⟨a, b, c, rfl, g, k⟩ := o; exact ⟨a, b, c, rfl, g, ka k⟩
  | bk vs' => obtain ⟨a, b, c, rfl, g, k⟩ := o; exact ⟨a, b, c, rfl, g, ka k⟩
  | ct vs' => obtain ⟨a, b, c, rfl, g, k⟩ := o; exact ⟨a, b, c, rfl, g, ka k⟩
  | rt x => obtain ⟨a, b, c, rfl, g, k⟩ := o; exact ⟨a, b, c, rfl, g, k⟩
  | st => trivial
  | rz c vs1 =>
    obtain ⟨sl1, h1, fs1, rfl, g, k⟩ := o
    dsimp only
    cases kk c with
    | none => trivial
    | some t =>
      cases t with
      | false => exact ⟨sl1, h1, fs1, rfl, g, ka k⟩
      | true =>
        dsimp only
        refine out_endedAs e List.mem_cons_self ?_
        have G2 : Good D h fs h1 (sl1.set i (.ex c)) (vs1.set i (.ex c)) (fs1.set i []) := g.sub (g.R.set e ⟨rfl, rfl⟩) (nd_rest g.nd) fun n m => mem_rest m
        refine OutS.pre G2 (fun j hj => ?_) (fun j hj z => hj (List.mem_cons_of_mem _ (List.mem_append_right _ z))) (hh c h1 _ _ _ G2.R G2.nd)
        rw [List.getElem?_set_ne (fun z : i = j => hj (by rw [← z]; exact List.mem_cons_self))]
        exact ka k j hj
theorem sv_tryO (hb : SVp D A1 rb rk fb gb) (hh : ∀ c, SVp D A2 rb rk (fh c) (gh c)) : SVp D (A1 ++ A2) rb rk (Zx.sTryOC kk fb fh) (sTryO kk gb gh) := by
  intro h sl vs fs R nd
  have o := hb h sl vs fs R nd
  unfold Zx.sTryOC sTryO
  generalize gb vs = r at o ⊢
  generalize fb sl h = q at o ⊢
  cases r with
  | nx vs' => obtain ⟨a, b, c, rfl, g, k⟩ := o; exact ⟨a, b, c, rfl, g, k.l⟩
  | bk vs' => obtain ⟨a, b, c, rfl, g, k⟩ := o; exact ⟨a, b, c, rfl, g, k.l⟩
  | ct vs' => obtain ⟨a, b, c, rfl, g, k⟩ := o; exact ⟨a, b, c, rfl, g, k.l⟩
  | rt x => obtain ⟨a, b, c, rfl, g, k⟩ := o; exact ⟨a, b, c, rfl, g, k⟩
  | st => trivial
  | rz c vs1 =>
    obtain ⟨sl1, h1, fs1, rfl, g, k⟩ := o
    dsimp only
    cases kk c with
    | none => trivial
    | some t =>
      cases t with
      | false => exact ⟨sl1, h1, fs1, rfl, g, k.l⟩
      | true =>
        dsimp only
        refine out_endedO ?_
        exact OutS.pre g k.l (fun j hj z => hj (List.mem_append_right _ z)) (hh c h1 _ _ _ g.R g.nd)
def fExI (ob : Option Bool) (i : Nat) : VE := fun vs => match vs[i]? with
  | some (.ex _) => match ob with
    | some b => .ok (.bool b) vs
    | none => .st
  | _ => .st
theorem ev_exI {b fr : Bool} {k : Nat} {ob : Option Bool} (e : D[i]? = some kd := by rfl) : EV D b k fr (Zx.fExI ob (Zx.fVar i)) (fExI ob i) := by
  intro h sl vs fs R nd
  obtain ⟨s, v, f, e1, e2, e3, r⟩ := R.get e
  unfold fExI
  rw [e2]
  cases v with
  | un => trivial
  | sc x => trivial
  | v x => trivial
  | ex c =>
    obtain ⟨rfl, _⟩ := r
    unfold Zx.fExI Zx.fVar
    rw [e1]
    cases ob with
    | none => trivial
    | some t => exact OutE.dd rfl
/-! list(reversed(x)) -/
def gLRev : PyData → List VS → VR PyData := fun x vs => match x with
  | .list ds => .ok (.list ds.reverse) vs
  | _ => .st
theorem Fa3.rev {α β γ : Type} {P : α → β → γ → Prop} : ∀ {as : List α} {bs : List β} {cs : List γ}, Fa3 P as bs cs → Fa3 P as.reverse bs.reverse cs.reverse
  | [], [], [], _ => trivial
  | a :: as, b :: bs, c :: cs, ⟨h, r⟩ => by
    rw [List.reverse_cons, List.reverse_cons, List.reverse_cons]
    exact Fa3.app (show Fa3 P [a] [b] [c] from ⟨h, trivial⟩) (Fa3.rev r)
  | [], [], c :: cs, h => h.elim
  | [], b :: bs, [], h => h.elim
  | [], b :: bs, c :: cs, h => h.elim
  | a :: as, [], [], h => h.elim
  | a :: as, [], c :: cs, h => h.elim
  | a :: as, b :: bs, [], h => h.elim
theorem uv_rev {b fr : Bool} {k1 : Nat} (hk : k1 ≤ 1 := by decide) : UnV b k1 b 1 fr Zx.gLRev gLRev := by
  intro h vs s x f1 r
  unfold gLRev
  split
  · rename_i ds
    obtain ⟨ss, fs, e1, q⟩ := lst_of r hk
    unfold Zx.gLRev
    rw [e1]
    exact fresh_lst (Fa3.rev q)
  · trivial
end
section
variable {i : Nat} {k : Str → Option Bool} {gb : VF} {gh : Str → VF} {vs : List VS} {c : Str} {b : Bool} {x : PyData} {ds : List PyData}
def VO.tryA (i : Nat) (k : Str → Option Bool) (gh : Str → VF) (o : VO) : VO := match o with
  | .rz c vs1 => match k c with
    | some true => endedAs i (gh c (vs1.set i (.ex c)))
    | some false => .rz c vs1
    | none => .st
  | o => o
def VO.tryO (k : Str → Option Bool) (gh : Str → VF) (o : VO) : VO := match o with
  | .rz c vs1 => match k c with
    | some true => endedO (gh c vs1)
    | some false => .rz c vs1
    | none => .st
  | o => o
theorem u_tryAs : sTryAs i k gb gh vs = VO.tryA i k gh (gb vs) := by
  unfold sTryAs VO.tryA
  generalize gb vs = o
  cases o <;> rfl
theorem u_tryO : sTryO k gb gh vs = VO.tryO k gh (gb vs) := by
  unfold sTryO VO.tryO
  generalize gb vs = o
  cases o <;> rfl
theorem tA_nx : VO.tryA i k gh (.nx vs) = .nx vs := (rfl)
theorem tA_bk : VO.tryA i k gh (.bk vs) = .bk vs := (rfl)
theorem tA_ct : VO.tryA i k gh (.ct vs) = .ct vs := (rfl)
theorem tA_rt : VO.tryA i k gh (.rt x) = .rt x := (rfl)
theorem tA_rz (e : k c = some true) : VO.tryA i k gh (.rz c vs) = endedAs i (gh c (vs.set i (.ex c))) := by
  unfold VO.tryA
  dsimp only
  rw [e]
theorem tO_nx : VO.tryO k gh (.nx vs) = .nx vs := (rfl)
theorem tO_bk : VO.tryO k gh (.bk vs) = .bk vs := (rfl)
theorem tO_ct : VO.tryO k gh (.ct vs) = .ct vs := (rfl)
theorem tO_rt : VO.tryO k gh (.rt x) = .rt x := (rfl)
theorem tO_rz (e : k c = some true) : VO.tryO k gh (.rz c vs) = endedO (gh c vs) := by
  unfold VO.tryO
  dsimp only
  rw [e]
theorem eA_rt : endedAs i (.rt x) = .rt x := (rfl)
theorem eO_rt : endedO (.rt x) = .rt x := (rfl)
theorem eA_nx : endedAs i (.nx vs) = .nx ((vs.set i .un).map clnV) := (rfl)
theorem eO_nx : endedO (.nx vs) = .nx (vs.map clnV) := (rfl)
theorem vk_1 {r : List (Str × Bool)} : lk c ((c, b) :: r) = some b := by unfold lk; rw [if_pos rfl]
def exv (b : Bool) (vs : List VS) (o : Option VS) : VR PyData := match o with
  | some (.ex _) => .ok (.bool b) vs
  | _ => .st
theorem u_exi : fExI (some b) i vs = exv b vs vs[i]? := (rfl)
theorem exv_ex : exv b vs (some (.ex c)) = .ok (.bool b) vs := (rfl)
theorem vAny_0 : lkAny [] = some false := (rfl)
theorem vAny_t {r : List (Option Bool)} : lkAny (some true :: r) = some true := (rfl)
theorem vAny_f {r : List (Option Bool)} : lkAny (some false :: r) = lkAny r := by
  conv => lhs; unfold lkAny
theorem o_lrev : gLRev (.list ds) vs = .ok (.list ds.reverse) vs := (rfl)
end
end Zx.V

namespace Zx.V
open PySem PySem.Spec L2
open Zx (SV AO AH FE FA FT FS Md Bd It1 Src O RpS En Wd inB iAdd iSub imm immL nod mulB divB modB powB lim flatD flatL isTy cutX kD opt eI eG Fn FnL Fn_int Fn_lst FnL_nil FnL_map eqv_nil)
/-! ## loops with an invariant, by the equation that tells their outcome -/
section
variable {bd : Bd} {body : VF} {vs0 vs : List VS} {gt : VT} {o : VO}
theorem wh_rinv {P : Nat → List VS → Prop} {R : List VS → Prop} : ∀ (c M : Nat) {vs : List VS}, M < c → P M vs → (∀ M vs, P M vs → (gt vs = .ok false vs ∧ R vs) ∨ (gt vs = .ok true vs ∧ ∃ vs' M', M' < M ∧ P M' vs' ∧ ∀ K, aftV vs0 (body vs) K = K vs')) → ∃ vs', R vs' ∧ whV vs0 gt body c vs = .nx vs'
  | 0, M, vs, h, _, _ => absurd h (Nat.not_lt_zero _)
  | c + 1, M, vs, h, p, st => by
    unfold whV
    rcases st M vs p with ⟨e, r⟩ | ⟨e, vs', M', hM, p', k⟩
    · rw [e]; exact ⟨vs, r, rfl⟩
    · rw [e]
      show ∃ v, R v ∧ (if true = true then aftV vs0 (body vs) (whV vs0 gt body c) else .nx vs) = .nx v
      rw [if_pos rfl, k]
      exact wh_rinv c M' (by omega) p' st
theorem wh_inv' {c : Nat} (e : whV vs0 gt body c vs = o) {P : Nat → List VS → Prop} {R : List VS → Prop} (M : Nat) (hM : M < c) (p : P M vs) (st : ∀ M vs, P M vs → (gt vs = .ok false vs ∧ R vs) ∨ (gt vs = .ok true vs ∧ ∃ vs' M', M' < M ∧ P M' vs' ∧ ∀ K, aftV vs0 (body vs) K = K vs')) : ∃ vs', o = .nx vs' ∧ R vs' := by
  obtain ⟨v, r, q⟩ := wh_rinv (vs0 := vs0) c M hM p st
  exact ⟨v, e.symm.trans q, r⟩
theorem for_inv' {its : List VI} (e : forV vs0 bd body its vs = o) {P : Nat → List VS → Prop} (p : P 0 vs) (h : ∀ (j : Nat) (it : VI) (vs : List VS), its[j]? = some it → P j vs → ∃ vs', P (j + 1) vs' ∧ ∀ K, turnV vs0 bd body it vs K = K vs') : ∃ vs', o = .nx vs' ∧ P its.length vs' := by
  obtain ⟨v, r, q⟩ := for_inv (vs0 := vs0) (bd := bd) (body := body) (i := 0) (its := its) (P := P) p fun j it vs e q => by
    rw [Nat.zero_add] at q ⊢
    exact h j it vs e q
  rw [Nat.zero_add] at r
  exact ⟨v, e.symm.trans q, r⟩
end
/-! ## small facts -/
theorem pureL_imm : ∀ {ds : List PyData}, (∀ d ∈ ds, imm d = true) → pureL 0 ds = true
  | [], _ => by unfold pureL; rfl
  | d :: ds, h => by
    unfold pureL pureK
    rw [h d List.mem_cons_self, pureL_imm fun x m => h x (List.mem_cons_of_mem _ m)]; rfl
theorem pure_lst {ds : List PyData} (h : ∀ d ∈ ds, imm d = true) : pureK 1 (.list ds) = true := by
  unfold pureK
  exact pureL_imm h
theorem pureD_imm : ∀ {l : List (Key × PyData)}, (∀ p ∈ l, imm p.2 = true) → pureD 0 (dK l) = true
  | [], _ => by unfold dK pureD; rfl
  | p :: l, h => by
    show pureD 0 ((kD p.1, p.2) :: dK l) = true
    unfold pureD pureK
    rw [h p List.mem_cons_self, pureD_imm fun x m => h x (List.mem_cons_of_mem _ m)]; rfl
theorem pure_dct {l : List (Key × PyData)} (h : ∀ p ∈ l, imm p.2 = true) : pureK 1 (.dict (dK l)) = true := by
  unfold pureK
  exact pureD_imm h
theorem pop_0 {x : PyData} {ds : List PyData} : kPpA (x :: ds) [.int 0] = some (ds, x) := by
  unfold kPpA
  dsimp only
  rw [if_pos (by decide)]
  have : seqIndex? 0 (x :: ds).length = some 0 := by
    unfold seqIndex?
    simp
  rw [this]
  rfl
theorem keyP_i {i : Int} : keyP (.int i) = some (.inl i) := (rfl)
theorem at_c0 {α : Type} {x : α} {xs : List α} : atI (x :: xs) 0 = some x := by
  unfold atI ixN
  rw [if_pos (by decide), if_pos (by rw [List.length_cons]; omega)]; rfl
theorem at_c1 {α : Type} {x y : α} {xs : List α} : atI (x :: y :: xs) 1 = some y := by
  unfold atI ixN
  rw [if_pos (by decide), if_pos (by rw [List.length_cons, List.length_cons]; omega)]; rfl
theorem at_c2 {α : Type} {x y z : α} {xs : List α} : atI (x :: y :: z :: xs) 2 = some z := by
  unfold atI ixN
  rw [if_pos (by decide), if_pos (by rw [List.length_cons, List.length_cons, List.length_cons]; omega)]; rfl
theorem imm_int {i : Int} : imm (.int i) = true := by unfold imm; rfl
theorem set_rng {α : Type} {n j : Nat} {F : Nat → α} {v : α} : ((List.range n).map F).set j v = (List.range n).map fun x => if x = j then v else F x := by
  apply List.ext_getElem?
  intro i
  rw [List.getElem?_set, List.getElem?_map, List.getElem?_map, List.length_map, List.length_range]
  by_cases h : j = i
  · subst h
    rw [if_pos rfl]
    by_cases hj : j < n
    · rw [if_pos hj, List.getElem?_range hj]
      simp
    · rw [if_neg hj, List.getElem?_eq_none (by rw [List.length_range]; omega)]; rfl
  · rw [if_neg h]
    by_cases hi : i < n
    · rw [List.getElem?_range hi]
      have : ¬ i = j := fun z => h z.symm
      simp [this]
    · rw [List.getElem?_eq_none (by rw [List.length_range]; omega)]; rfl
end Zx.V

namespace Zx.V
open PySem PySem.Spec L2
open Zx (SV AO AH FE FA FT FS Md Bd It1 Src O RpS En Wd inB iAdd iSub imm immL nod mulB divB modB powB lim flatD flatL isTy cutX kD opt allD allI)
/-! ## owned tuples -/
theorem rv_d {h : AH} {b : Bool} {k : Nat} {y x : PyData} {f : List Nat} (r : RV h b k (.d y) x f) : x = y := by
  have l : leaf b (.d y) x := by
    cases k with
    | zero => exact r.2
    | succ k =>
      unfold RV at r
      rcases r with r | ⟨_, _, _, _, e, _⟩ | ⟨_, _, _, _, e, _⟩ | ⟨_, _, _, _, e, _⟩
      · exact r.2.1
      · cases e
      · cases e
      · cases e
  rcases l with e | ⟨_, e⟩
  · exact (SV.d.inj e).symm
  · unfold mkv at e
    split at e
    · exact (SV.d.inj e).symm
    · cases e
theorem fa_allD_eq {h : AH} {b : Bool} {k : Nat} : ∀ {ss : List SV} {xs : List PyData} {fs : List (List Nat)} {ds : List PyData}, Fa3 (RV h b k) ss xs fs → allD ss = some ds → ds = xs
  | [], [], [], ds, _, e => by cases e; rfl
  | s :: ss, x :: xs, f :: fs, ds, ⟨r, q⟩, e => by
    cases s with
    | d y =>
      unfold allD at e
      cases e2 : allD ss with
      | none => rw [e2] at e; cases e
      | some d2 =>
        rw [e2] at e
        cases e
        rw [rv_d r, fa_allD_eq q e2]
    | un => cases e
    | vw y => cases e
    | r n => cases e
    | sc n => cases e
    | ex n => cases e
  | [], [], c :: cs, _, h, _ => h.elim
  | [], b :: bs, [], _, h, _ => h.elim
  | [], b :: bs, c :: cs, _, h, _ => h.elim
  | a :: as, [], [], _, h, _ => h.elim
  | a :: as, [], c :: cs, _, h, _ => h.elim
  | a :: as, b :: bs, [], _, h, _ => h.elim
theorem fa_imm {h : AH} {b : Bool} {k : Nat} : ∀ {ss : List SV} {xs : List PyData} {fs : List (List Nat)}, Fa3 (RV h b k) ss xs fs → immL xs = true → allD ss = some xs
  | [], [], [], _, _ => rfl
  | s :: ss, x :: xs, f :: fs, ⟨r, q⟩, e => by
    unfold immL at e
    rw [Bool.and_eq_true] at e
    obtain ⟨rfl, _⟩ := r.imm e.1
    unfold allD
    rw [fa_imm q e.2]; rfl
  | [], [], c :: cs, h, _ => h.elim
  | [], b :: bs, [], h, _ => h.elim
  | [], b :: bs, c :: cs, h, _ => h.elim
  | a :: as, [], [], h, _ => h.elim
  | a :: as, [], c :: cs, h, _ => h.elim
  | a :: as, b :: bs, [], h, _ => h.elim
section
variable {D : List KD} {b b1 fr fr1 : Bool} {k k1 : Nat} {fa : FE} {ga : VE} {ra : FA} {qa : VA}
theorem ev_tupO (ha : AF D b k ra qa) : EV D b (k + 1) fr (Zx.fTupO ra) (fTup qa) := by
  intro h sl vs fs R nd
  refine (ha h sl vs fs R nd).pe fun xs ss t r => ?_
  obtain ⟨fps, r, n, z⟩ := r
  show OutE _ _ _ _ _ _ (if xs.length ≤ 1000 then .ok (.tuple xs) vs else .st) (if ss.length ≤ 1000 then (match allI ss with | some ds => .ok (.d (.tuple ds)) (h ++ t) | none => .ok (.r (h ++ t).length) (h ++ t ++ [some (.tup ss)])) else .st)
  have hl := r.len.1
  rw [hl]
  split
  · cases ei : allI ss with
    | some ds =>
      dsimp only
      unfold allI at ei
      split at ei
      · rename_i d2 hd
        split at ei
        · rename_i hi
          cases ei
          have := fa_allD_eq r hd
          rw [this] at hi ⊢
          exact OutE.dd (by show (!immL xs) = false; rw [hi]; rfl)
        · cases ei
      · cases ei
    | none =>
      dsimp only
      have hi : immL xs = false := by
        cases c : immL xs with
        | false => rfl
        | true =>
          unfold allI at ei
          rw [fa_imm r c] at ei
          dsimp only at ei
          rw [if_pos c] at ei
          cases ei
      refine ⟨rfl, _, [some (.tup ss)], (h ++ t).length :: fps.flatten, rfl, ?_, ?_, fun _ n m => ?_⟩
      · refine RV.ofT ?_ hi (Fa3.imp (cs0 := fps) (fun _ _ _ _ p => RV.app p) (fun _ m => m) r)
        rw [List.getElem?_append_right (Nat.le_refl _), Nat.sub_self]; rfl
      · rw [List.nodup_cons]
        refine ⟨fun m => ?_, n⟩
        obtain ⟨l, hl, hm⟩ := List.mem_flatten.mp m
        obtain ⟨a, d, _, _, p⟩ := Fa3.mem r hl
        exact Nat.lt_irrefl _ (p.lt _ hm)
      · rcases List.mem_cons.mp m with rfl | m
        · rw [List.length_append]; omega
        · exact z n m
  · trivial
theorem u_dctO {gb : VE} {vs : List VS} : fDctO ga gb vs = (ga vs).bind fun x vs => (gb vs).bind fun y vs => opt (keyP x) (fun key => .ok (.dict [(kD key, y)]) vs) .st := by
  unfold fDctO opt
  congr 1
  funext x vs
  congr 1
  funext y vs
  cases keyP x <;> rfl
theorem o_ixOt {xs : List PyData} {m : Int} {vs : List VS} : gIxO (.tuple xs) (.int m) vs = opt (atI xs m) (fun u => .ok u vs) .st := by
  show (match atI xs m with | some u => VR.ok u vs | none => .st) = _
  unfold opt
  cases atI xs m <;> rfl
theorem ge_t {js : List Int} {xs : List PyData} {m : Int} (h : immL xs = false) : getAt (m :: js) (.tuple xs) = opt (atI xs m) (getAt js) none := by
  show (if immL xs = false then (match atI xs m with | some d => getAt js d | none => none) else none) = _
  rw [if_pos h]
  unfold opt
  cases atI xs m <;> rfl
/-- what can't be changed, at any depth -/
theorem ev_immK (e : EV D b1 k1 fr1 fa ga) : EV D b k fr fa (fImm ga) := by
  intro h sl vs fs R nd
  have o := e h sl vs fs R nd
  unfold fImm
  generalize ga vs = r at o ⊢
  generalize fa sl h = q at o ⊢
  cases r with
  | ok x vs' =>
    obtain ⟨rfl, s, t, fp, rfl, h3, h4, _⟩ := o
    show OutE _ _ _ _ _ _ (if imm x = true then .ok x vs' else .st) _
    split
    · rename_i c
      obtain ⟨rfl, rfl⟩ := h3.imm c
      refine ⟨rfl, .d x, t, [], rfl, RV.dk ?_, List.nodup_nil, fun _ _ m => by cases m⟩
      cases x with
      | tuple ds =>
        unfold Zx.imm at c
        show (!immL ds) = false
        rw [c]; rfl
      | list _ => unfold Zx.imm at c; cases c
      | dict _ => unfold Zx.imm at c; cases c
      | _ => rfl
    · trivial
  | rz c => exact o
  | st => trivial
end
/-! ## over an owned list of owned items that stands within a value -/
theorem focW {h : AH} {b : Bool} {k : Nat} : ∀ {js : List Int} {K : Nat} {s : SV} {x x' : PyData} {f : List Nat}, RV h b K s x f → K = js.length + k → f.Nodup → getAt js x = some x' →
    ∃ s' f', walkR h js s = some s' ∧ RV h b k s' x' f' ∧ f'.Nodup ∧ (∀ n ∈ f', n ∈ f) ∧
      ∀ (h2 : AH) (x2 : PyData) (f2 : List Nat), (∀ n ∈ f, n ∉ f' → h2[n]? = h[n]?) → okP js x2 x → RV h2 b k s' x2 f2 → f2.Nodup → (∀ n ∈ f2, n ∈ f' ∨ n ∉ f) →
        ∃ f3, RV h2 b K s (putAt js x2 x) f3 ∧ f3.Nodup ∧ (∀ n ∈ f3, n ∈ f2 ∨ (n ∈ f ∧ n ∉ f')) ∧ walkR h2 js s = some s'
  | [], K, s, x, x', f, r, hK, nd, e => by
    cases e
    have hK : K = k := by rw [hK]; exact Nat.zero_add k
    subst hK
    exact ⟨s, f, rfl, r, nd, fun _ m => m, fun h2 x2 f2 _ _ r2 n2 _ => ⟨f2, r2, n2, fun n m => .inl m, rfl⟩⟩
  | j :: js, K, s, x, x', f, r, hK, nd, e => by
    obtain ⟨K', rfl⟩ : ∃ K', K = K' + 1 := ⟨js.length + k, by rw [hK, List.length_cons]; omega⟩
    have hK' : K' = js.length + k := by rw [List.length_cons] at hK; omega
    unfold getAt at e
    split at e
    · rename_i ds
      split at e
      · rename_i d hd
        obtain ⟨n, xs, fl, rfl, hn, rfl, q⟩ := r.isL
        obtain ⟨p, s1, f1, e1, e2, e3, e4, e5, r1⟩ := fa_ix q hd
        rw [List.nodup_cons] at nd
        obtain ⟨nf, dj⟩ := nd_at nd.2 e4
        obtain ⟨s', f', w, r', n', m', put⟩ := focW r1 hK' nf e
        have inf : ∀ a ∈ f', a ∈ fl.flatten := fun a m => mem_at e4 (m' a m)
        refine ⟨s', f', ?_, r', n', fun a m => List.mem_cons_of_mem _ (inf a m), fun h2 x2 f2 ag i2 r2 n2 m2 => ?_⟩
        · unfold walkR
          rw [hn]
          dsimp only
          rw [e5]
          exact w
        · obtain ⟨f3, r3, n3, m3, w3⟩ := put h2 x2 f2 (fun a m z => ag a (List.mem_cons_of_mem _ (mem_at e4 m)) z) (i2 d hd) r2 n2 fun a m => (m2 a m).imp_right fun z w => z (List.mem_cons_of_mem _ (mem_at e4 w))
          refine ⟨n :: (fl.set p f3).flatten, ?_, ?_, fun a m => ?_, ?_⟩
          · rw [putAt_c e1 e2]
            refine RV.ofL ((ag n List.mem_cons_self fun z => nd.1 (inf n z)).trans hn) ?_
            exact fa_put (P := RV h b K') (f1 := f1) (F := fl.flatten) (fun a' b' c' z dz => z.frame fun m hm => ag m (List.mem_cons_of_mem _ (dz m hm).2) fun w => (dz m hm).1 (m' m w)) r3 q nd.2 (fun _ m => m) e4 e3
          · rw [List.nodup_cons]
            refine ⟨fun m => ?_, nd_set nd.2 n3 fun a m z => ?_⟩
            · rcases mem_set m with z | z
              · rcases m3 n z with z | z
                · rcases m2 n z with z | z
                  · exact nd.1 (inf n z)
                  · exact z List.mem_cons_self
                · exact nd.1 (mem_at e4 z.1)
              · exact nd.1 (mem_rest z)
            · rcases m3 a m with w | w
              · rcases m2 a w with w | w
                · exact dj a (m' a w) z
                · exact w (List.mem_cons_of_mem _ (mem_rest z))
              · exact dj a w.1 z
          · rcases List.mem_cons.mp m with rfl | m
            · exact .inr ⟨List.mem_cons_self, fun z => nd.1 (inf _ z)⟩
            · rcases mem_set m with z | z
              · exact (m3 a z).imp_right fun w => ⟨List.mem_cons_of_mem _ (mem_at e4 w.1), w.2⟩
              · exact .inr ⟨List.mem_cons_of_mem _ (mem_rest z), fun w => dj a (m' a w) z⟩
          · unfold walkR
            rw [(ag n List.mem_cons_self fun z => nd.1 (inf n z)).trans hn]
            dsimp only
            rw [e5]
            exact w3
      · cases e
    · rename_i ds
      split at e
      rotate_left
      · cases e
      rename_i cimm
      split at e
      · rename_i d hd
        obtain ⟨n, xs, fl, rfl, hn, rfl, q⟩ := r.isT cimm
        obtain ⟨p, s1, f1, e1, e2, e3, e4, e5, r1⟩ := fa_ix q hd
        rw [List.nodup_cons] at nd
        obtain ⟨nf, dj⟩ := nd_at nd.2 e4
        obtain ⟨s', f', w, r', n', m', put⟩ := focW r1 hK' nf e
        have inf : ∀ a ∈ f', a ∈ fl.flatten := fun a m => mem_at e4 (m' a m)
        refine ⟨s', f', ?_, r', n', fun a m => List.mem_cons_of_mem _ (inf a m), fun h2 x2 f2 ag i2 r2 n2 m2 => ?_⟩
        · unfold walkR
          rw [hn]
          dsimp only
          rw [e5]
          exact w
        · obtain ⟨f3, r3, n3, m3, w3⟩ := put h2 x2 f2 (fun a m z => ag a (List.mem_cons_of_mem _ (mem_at e4 m)) z) (okP_imm i2) r2 n2 fun a m => (m2 a m).imp_right fun z w => z (List.mem_cons_of_mem _ (mem_at e4 w))
          refine ⟨n :: (fl.set p f3).flatten, ?_, ?_, fun a m => ?_, ?_⟩
          · rw [putAt_t e1 e2]
            refine RV.ofT ((ag n List.mem_cons_self fun z => nd.1 (inf n z)).trans hn) (immL_set (putAt_imm i2 e) e2) ?_
            exact fa_put (P := RV h b K') (f1 := f1) (F := fl.flatten) (fun a' b' c' z dz => z.frame fun m hm => ag m (List.mem_cons_of_mem _ (dz m hm).2) fun w => (dz m hm).1 (m' m w)) r3 q nd.2 (fun _ m => m) e4 e3
          · rw [List.nodup_cons]
            refine ⟨fun m => ?_, nd_set nd.2 n3 fun a m z => ?_⟩
            · rcases mem_set m with z | z
              · rcases m3 n z with z | z
                · rcases m2 n z with z | z
                  · exact nd.1 (inf n z)
                  · exact z List.mem_cons_self
                · exact nd.1 (mem_at e4 z.1)
              · exact nd.1 (mem_rest z)
            · rcases m3 a m with w | w
              · rcases m2 a w with w | w
                · exact dj a (m' a w) z
                · exact w (List.mem_cons_of_mem _ (mem_rest z))
              · exact dj a w.1 z
          · rcases List.mem_cons.mp m with rfl | m
            · exact .inr ⟨List.mem_cons_self, fun z => nd.1 (inf _ z)⟩
            · rcases mem_set m with z | z
              · exact (m3 a z).imp_right fun w => ⟨List.mem_cons_of_mem _ (mem_at e4 w.1), w.2⟩
              · exact .inr ⟨List.mem_cons_of_mem _ (mem_rest z), fun w => dj a (m' a w) z⟩
          · unfold walkR
            rw [(ag n List.mem_cons_self fun z => nd.1 (inf n z)).trans hn]
            dsimp only
            rw [e5]
            exact w3
      · cases e
    · cases e

theorem norm_app {sl0 : List SV} {L : Nat} {sl : List SV} {h : AH} : ∃ t, h = (norm sl0 L sl h).2 ++ t := by
  rcases norm_2 (sl0 := sl0) (L := L) (sl := sl) (h := h) with e | ⟨e, _⟩
  · exact ⟨[], by rw [e, List.append_nil]⟩
  · exact ⟨h.drop L, by rw [e, List.take_append_drop]⟩
theorem putAt_l {j : Nat} {x d : PyData} {ds : List PyData} (e : atI ds (j : Int) = some d) : putAt [(j : Int)] x (.list ds) = .list (ds.set j x) ∧ ds[j]? = some d := by
  have hj := atI_nat e
  have hl := (List.getElem?_eq_some_iff.mp hj).1
  rw [putAt_c (p := j) (d := d) (by rw [Zx.ixN_in (by omega) (by omega)]; simp) hj]
  exact ⟨rfl, hj⟩
theorem getAt_putAt {z : PyData} (hz : imm z = false) : ∀ {js : List Int} {x x' : PyData}, getAt js x = some x' → getAt js (putAt js z x) = some z
  | [], x, x', _ => rfl
  | j :: js, x, x', e => by
    unfold getAt at e
    split at e
    · rename_i ds
      split at e
      · rename_i d hd
        unfold atI at hd
        cases q : ixN ds.length j with
        | none => rw [q] at hd; cases hd
        | some p =>
          rw [q] at hd
          have hd : ds[p]? = some d := hd
          have hp := (List.getElem?_eq_some_iff.mp hd).1
          rw [putAt_c q hd]
          unfold getAt
          dsimp only
          have : atI (ds.set p (putAt js z d)) j = some (putAt js z d) := by
            unfold atI
            rw [List.length_set, q]
            show (ds.set p (putAt js z d))[p]? = _
            rw [List.getElem?_set_self hp]
          rw [this]
          exact getAt_putAt hz e
      · cases e
    · rename_i ds
      split at e
      · rename_i hi
        split at e
        · rename_i d hd
          unfold atI at hd
          cases q : ixN ds.length j with
          | none => rw [q] at hd; cases hd
          | some p =>
            rw [q] at hd
            have hd : ds[p]? = some d := hd
            have hp := (List.getElem?_eq_some_iff.mp hd).1
            rw [putAt_t q hd]
            unfold getAt
            dsimp only
            have : atI (ds.set p (putAt js z d)) j = some (putAt js z d) := by
              unfold atI
              rw [List.length_set, q]
              show (ds.set p (putAt js z d))[p]? = _
              rw [List.getElem?_set_self hp]
            rw [if_pos (immL_set (putAt_imm hz e) hd), this]
            exact getAt_putAt hz e
        · cases e
      · cases e
    · cases e
/-- the value y holds the list at js; the item j of it is lent to the name i -/
def forOwnPV (vs0 : List VS) (l i : Nat) (js : List Int) (body : VF) : Nat → Nat → PyData → List VS → VO
  | 0, j, y, vs => match getAt js y with
    | some (.list ds) => if ds.length ≤ j then .nx (vs.set l (.v y)) else .st
    | _ => .st
  | c + 1, j, y, vs => match getAt js y with
    | some (.list ds) => match atI ds (j : Int) with
      | none => .st
      | some x => match body (vs.set i (.v x)) with
        | .nx vs' => match vs'[i]? with
          | some (.v x') => forOwnPV vs0 l i js body c (j + 1) (putAt js (.list (ds.set j x')) y) (resetV vs0 (vs'.set i .un))
          | _ => .st
        | .ct vs' => match vs'[i]? with
          | some (.v x') => forOwnPV vs0 l i js body c (j + 1) (putAt js (.list (ds.set j x')) y) (resetV vs0 (vs'.set i .un))
          | _ => .st
        | .bk vs' => match vs'[i]? with
          | some (.v x') => .nx ((resetV vs0 (vs'.set i .un)).set l (.v (putAt js (.list (ds.set j x')) y)))
          | _ => .st
        | .rt x => .rt x
        | _ => .st
    | _ => .st
def sForOwnP (l i : Nat) (js : List Int) (body : VF) : VF := fun vs => match vs[l]? with
  | some (.v y) => match getAt js y with
    | some (.list ds) => forOwnPV (vs.set l .un) l i js body ds.length 0 y (vs.set l .un)
    | _ => .st
  | _ => .st
section
variable {D : List KD} {A : List Nat} {rb : Bool} {rk : Nat} {b : Bool} {k i j n m : Nat} {h0 h : AH} {fs0 fs : List (List Nat)} {sl sl0 : List SV} {vs vs0 : List VS} {f : FS} {g : VF} {js : List Int}
theorem lentP (G : Good D h0 fs0 h sl vs fs) (K : Keep (i :: A) sl0 sl) (ei : D[i]? = some (b, m)) (hi : i ∉ A) {s0 : SV} {y : PyData} {F : List Nat} (rl : RV h b (js.length + (m + 1)) s0 y F) (nF : F.Nodup) (dF : ∀ a ∈ F, a ∉ fs.flatten) (oF : ∀ a ∈ F, a ∈ fs0.flatten ∨ h0.length ≤ a) (hw : walkR h js s0 = some (.r n)) {ds : List PyData} (eg : getAt js y = some (.list ds)) {j : Nat} {x : PyData} (ex : atI ds (j : Int) = some x) :
    ∃ xs s f', h[n]? = some (some (.lst xs)) ∧ xs[j]? = some s ∧ RSt h D (sl.set i s) (vs.set i (.v x)) (fs.set i f') ∧ (fs.set i f').flatten.Nodup ∧ Good D h0 fs0 h (sl.set i s) (vs.set i (.v x)) (fs.set i f') ∧
      ∀ sl2 h2 vs' fs2 x', Good D h (fs.set i f') h2 sl2 vs' fs2 → Keep A (sl.set i s) sl2 → vs'[i]? = some (.v x') →
        ∃ fs3 F3, Good D h0 fs0 h2 sl2 (vs'.set i .un) fs3 ∧ Keep (i :: A) sl0 sl2 ∧ RV h2 b (js.length + (m + 1)) s0 (putAt js (.list (ds.set j x')) y) F3 ∧ F3.Nodup ∧ (∀ a ∈ F3, a ∉ fs3.flatten) ∧ (∀ a ∈ F3, a ∈ fs0.flatten ∨ h0.length ≤ a) ∧ walkR h2 js s0 = some (.r n) := by
  obtain ⟨s1, f1, w1, r1, n1, m1, put1⟩ := focW (js := js) (k := m + 1) rl rfl nF eg
  rw [hw] at w1
  cases w1
  obtain ⟨ep, hp⟩ := putAt_l (x := x) ex
  obtain ⟨n', xs, fl, e1, hx, rfl, q⟩ := r1.isL
  cases e1
  obtain ⟨s, f', h1, h2', h3⟩ := q.get hp
  rw [List.nodup_cons] at n1
  obtain ⟨nf', dj'⟩ := nd_at n1.2 h2'
  have inl : ∀ a ∈ f', a ∈ fl.flatten := fun a z => mem_at h2' z
  have m' : ∀ a ∈ f', a ∈ F := fun a z => m1 a (List.mem_cons_of_mem _ (inl a z))
  have d' : ∀ a ∈ f', a ∉ fs.flatten := fun a z => dF a (m' a z)
  have R1 : RSt h D (sl.set i s) (vs.set i (.v x)) (fs.set i f') := G.R.set ei h3
  have nd1 : (fs.set i f').flatten.Nodup := nd_set G.nd nf' fun a z w => d' a z (mem_rest w)
  have G1 : Good D h0 fs0 h (sl.set i s) (vs.set i (.v x)) (fs.set i f') := G.put ei h3 nf' d' fun a z => oF a (m' a z)
  refine ⟨xs, s, f', hx, h1, R1, nd1, G1, fun sl2 h2 vs' fs2 x' Gb Kb ev => ?_⟩
  obtain ⟨s2, v2, f2, c1, c2, c3, r2⟩ := Gb.R.get ei
  rw [ev] at c2
  cases c2
  have hlen : i < sl.length := by
    have := G.R.len.1
    have := (List.getElem?_eq_some_iff.mp ei).1
    omega
  rw [Kb i hi, List.getElem?_set_self hlen] at c1
  cases c1
  have r2 : RV h2 b m s x' f2 := r2
  obtain ⟨nf2, dj2⟩ := nd_at Gb.nd c3
  have inF : ∀ a ∈ F, a ∉ f' → a ∉ fs2.flatten := fun a z w u => by
    rcases Gb.old a u with u | u
    · rcases mem_set u with u | u
      · exact w u
      · exact dF a z (mem_rest u)
    · exact absurd (rl.lt a z) (by omega)
  have ag : ∀ a ∈ F, a ∉ f' → h2[a]? = h[a]? := fun a z w => Gb.fr a (rl.lt a z) fun u => (mem_set u).elim w fun u => dF a z (mem_rest u)
  have f2o : ∀ a ∈ f2, a ∈ f' ∨ a ∉ F := fun a z => by
    rcases Gb.old a (mem_at c3 z) with u | u
    · rcases mem_set u with u | u
      · exact .inl u
      · exact .inr fun w => dF a w (mem_rest u)
    · exact .inr fun w => absurd (rl.lt a w) (by omega)
  -- the list
  have nn : n ∉ f' := fun z => n1.1 (inl n z)
  have rl2 : RV h2 b (m + 1) (.r n) (.list (ds.set j x')) (n :: (fl.set j f2).flatten) := by
    refine RV.ofL ((ag n (m1 n List.mem_cons_self) nn).trans hx) ?_
    exact fa_put (P := RV h b m) (f1 := f') (F := fl.flatten) (fun a' b' c' z dz => z.frame fun a hm => ag a (m1 a (List.mem_cons_of_mem _ (dz a hm).2)) (dz a hm).1) r2 q n1.2 (fun _ z => z) h2' h1
  have ml : ∀ a ∈ (fl.set j f2).flatten, a ∈ f2 ∨ (a ∈ fl.flatten ∧ a ∉ f') := fun a z => by
    rcases mem_set z with z | z
    · exact .inl z
    · exact .inr ⟨mem_rest z, fun w => dj' a w z⟩
  have ndl : (n :: (fl.set j f2).flatten).Nodup := by
    rw [List.nodup_cons]
    refine ⟨fun z => ?_, nd_set n1.2 nf2 fun a z w => ?_⟩
    · rcases ml n z with z | z
      · rcases f2o n z with z | z
        · exact nn z
        · exact z (m1 n List.mem_cons_self)
      · exact n1.1 z.1
    · rcases f2o a z with u | u
      · exact dj' a u w
      · exact u (m1 a (List.mem_cons_of_mem _ (mem_rest w)))
  obtain ⟨f3, r3, n3, m3, w3⟩ := put1 h2 (.list (ds.set j x')) _ (fun a z w => ag a z fun u => w (List.mem_cons_of_mem _ (inl a u))) (okP_imm (by unfold Zx.imm; rfl)) rl2 ndl fun a z => by
    rcases List.mem_cons.mp z with rfl | z
    · exact .inl List.mem_cons_self
    · rcases ml a z with z | z
      · exact (f2o a z).imp_left fun u => List.mem_cons_of_mem _ (inl a u)
      · exact .inl (List.mem_cons_of_mem _ z.1)
  have m4 : ∀ a ∈ f3, a ∈ f2 ∨ (a ∈ F ∧ a ∉ f') := fun a z => by
    rcases m3 a z with z | z
    · rcases List.mem_cons.mp z with rfl | z
      · exact .inr ⟨m1 a List.mem_cons_self, nn⟩
      · exact (ml a z).imp_right fun u => ⟨m1 a (List.mem_cons_of_mem _ u.1), u.2⟩
    · exact .inr ⟨z.1, fun u => z.2 (List.mem_cons_of_mem _ (inl a u))⟩
  have G2 := G1.trans Gb
  refine ⟨fs2.set i [], f3, G2.sub (Gb.R.drop i) (nd_rest Gb.nd) (fun a z => mem_rest z), (K.trans (Keep.l (A2 := A) (Keep.set (i := i) (s := s)))).trans (Keep.r (A1 := [i]) Kb), r3, n3, fun a z w => ?_, fun a z => ?_, w3⟩
  · rcases m4 a z with u | u
    · exact dj2 a u w
    · exact inF a u.1 u.2 (mem_rest w)
  · rcases m4 a z with u | u
    · exact G2.old a (mem_at c3 u)
    · exact oF a u.1
theorem forOwnP_out {l n : Nat} {s0 : SV} {fs00 : List (List Nat)} (R0 : RSt h0 D sl0 vs0 fs00) (hb : SVp D A rb rk f g) (el : D[l]? = some (b, js.length + (m + 1))) (ei : D[i]? = some (b, m)) (hl : l ∉ i :: A) (hi : i ∉ A) (hn : sl0[l]? = some s0) (hbel : Zx.below h0.length s0 = true) : ∀ {c j : Nat} {sl : List SV} {vs : List VS} {h : AH} {fs : List (List Nat)} {y : PyData} {F : List Nat} {ds : List PyData}, Good D h0 fs0 h sl vs fs → Keep (i :: A) sl0 sl →
    RV h b (js.length + (m + 1)) s0 y F → F.Nodup → (∀ a ∈ F, a ∉ fs.flatten) → (∀ a ∈ F, a ∈ fs0.flatten ∨ h0.length ≤ a) → walkR h js s0 = some (.r n) → getAt js y = some (.list ds) →
    OutS D (i :: A) rb rk h0 sl0 fs0 (forOwnPV vs0 l i js g c j y vs) (forR sl0 h0.length (.nm i) f n c j sl h)
  | 0, j, sl, vs, h, fs, y, F, ds, G, K, rl, nF, dF, oF, hw, eg => by
    unfold forOwnPV
    rw [eg]
    dsimp only
    obtain ⟨s1, f1, w1, r1, _⟩ := focW (js := js) (k := m + 1) rl rfl nF eg
    rw [hw] at w1
    cases w1
    obtain ⟨n', xs, fl, e1, e2, e3, q⟩ := r1.isL
    cases e1
    unfold forR
    rw [e2]
    dsimp only
    rw [q.len.1]
    split
    · have es : sl.set l s0 = sl := by
        have e1 := (K l hl).trans hn
        obtain ⟨hi, e1⟩ := List.getElem?_eq_some_iff.mp e1
        rw [← e1]; exact List.set_getElem_self hi
      have := G.put el rl nF dF oF
      rw [es] at this
      exact ⟨sl, h, _, rfl, this, K⟩
    · trivial
  | c + 1, j, sl, vs, h, fs, y, F, ds, G, K, rl, nF, dF, oF, hw, eg => by
    unfold forOwnPV
    rw [eg]
    dsimp only
    cases ex : atI ds (j : Int) with
    | none => trivial
    | some x =>
      dsimp only
      obtain ⟨xs, s, f', hx, hxs, R1, nd1, G1, back⟩ := lentP G K ei hi rl nF dF oF hw eg ex
      have o := hb h _ _ _ R1 nd1
      unfold forR
      rw [hx]
      dsimp only
      rw [hxs]
      show OutS _ _ _ _ _ _ _ _ (aft sl0 h0.length (f (sl.set i s) h) (forR sl0 h0.length (.nm i) f n c (j + 1)))
      generalize g (vs.set i (.v x)) = r at o ⊢
      generalize f (sl.set i s) h = q at o ⊢
      have kk : ∀ {sl' : List SV} {h' : AH}, Keep (i :: A) sl0 sl' → Keep (i :: A) sl0 (norm sl0 h0.length sl' h').1 := fun k => by
        rw [norm_1]
        exact fun i hi => reset_keep (k i hi)
      have ww : ∀ {sl' : List SV} {h' : AH} {y' : PyData} {F' : List Nat}, RV (norm sl0 h0.length sl' h').2 b (js.length + (m + 1)) s0 y' F' → F'.Nodup → (∃ x', getAt js y' = some x') → walkR h' js s0 = some (.r n) → walkR (norm sl0 h0.length sl' h').2 js s0 = some (.r n) := fun {sl' h' y' F'} r nd' ⟨x', ex'⟩ w => by
        obtain ⟨s1, f1, w1, _⟩ := focW (js := js) (k := m + 1) r rfl nd' ex'
        obtain ⟨t, et⟩ := norm_app (sl0 := sl0) (L := h0.length) (sl := sl') (h := h')
        have := walkR_app (t := t) w1
        rw [← et, w] at this
        cases this
        exact w1
      have gg : ∀ x', getAt js (putAt js (.list (ds.set j x')) y) = some (.list (ds.set j x')) := fun x' => getAt_putAt (by unfold Zx.imm; rfl) eg
      cases r with
      | nx vs' =>
        obtain ⟨sl2, h2, fs2, rfl, Gb, Kb⟩ := o
        dsimp only
        split
        · rename_i x' ev
          obtain ⟨fs3, F3, G3, K3, r3, n3, d3, o3, w3⟩ := back sl2 h2 vs' fs2 x' Gb Kb ev
          obtain ⟨fs4, G4, m4, r4⟩ := Good.norm' R0 G3
          have r5 := r4 _ _ _ _ _ r3 hbel
          exact forOwnP_out R0 hb el ei hl hi hn hbel G4 (kk K3) r5 n3 (fun a z w => d3 a z (m4 a w)) o3 (ww r5 n3 ⟨_, gg x'⟩ w3) (gg x')
        · trivial
      | ct vs' =>
        obtain ⟨sl2, h2, fs2, rfl, Gb, Kb⟩ := o
        dsimp only
        split
        · rename_i x' ev
          obtain ⟨fs3, F3, G3, K3, r3, n3, d3, o3, w3⟩ := back sl2 h2 vs' fs2 x' Gb Kb ev
          obtain ⟨fs4, G4, m4, r4⟩ := Good.norm' R0 G3
          have r5 := r4 _ _ _ _ _ r3 hbel
          exact forOwnP_out R0 hb el ei hl hi hn hbel G4 (kk K3) r5 n3 (fun a z w => d3 a z (m4 a w)) o3 (ww r5 n3 ⟨_, gg x'⟩ w3) (gg x')
        · trivial
      | bk vs' =>
        obtain ⟨sl2, h2, fs2, rfl, Gb, Kb⟩ := o
        dsimp only
        split
        · rename_i x' ev
          obtain ⟨fs3, F3, G3, K3, r3, n3, d3, o3, w3⟩ := back sl2 h2 vs' fs2 x' Gb Kb ev
          obtain ⟨fs4, G4, m4, r4⟩ := Good.norm' R0 G3
          have es : (norm sl0 h0.length sl2 h2).1.set l s0 = (norm sl0 h0.length sl2 h2).1 := by
            have e1 := (kk (h' := h2) K3 l hl).trans hn
            obtain ⟨hi, e1⟩ := List.getElem?_eq_some_iff.mp e1
            rw [← e1]; exact List.set_getElem_self hi
          have := G4.put el (r4 _ _ _ _ _ r3 hbel) n3 (fun a z w => d3 a z (m4 a w)) o3
          rw [es] at this
          exact ⟨_, _, _, rfl, this, kk K3⟩
        · trivial
      | rt x =>
        obtain ⟨s, h', fp, rfl, r, n, z⟩ := o
        exact ⟨s, h', fp, rfl, r, n, RtG.pre G1 z⟩
      | rz c v => trivial
      | st => trivial
/-- fo: the expression by which the list is reached; gp: its place -/
theorem sv_forOwnP {l n : Nat} {fo : FE} {gp : VP} (hp : PV D l n fo gp) (hb : SVp D A rb rk f g) (hjs : ∀ vs, gp vs = some js) (hn : js.length = n := by rfl) (el : D[l]? = some (b, n + (m + 1)) := by rfl) (ei : D[i]? = some (b, m) := by rfl) (hl : l ∉ i :: A := by decide) (hi : i ∉ A := by decide) : SVp D (i :: A) rb rk (Zx.sFor (Zx.iSeq fo) (.nm i) f) (sForOwnP l i js g) := by
  subst hn
  intro h sl vs fs R nd
  unfold sForOwnP
  split
  · rename_i y ev
    split
    · rename_i ds eg
      obtain ⟨_, c⟩ := hp h sl vs fs R nd js (hjs vs)
      obtain ⟨s0, s, t, e1, e2, e3⟩ := c y _ ev eg
      have G0 : Good D h fs (h ++ t) sl vs fs := Good.ext R nd
      obtain ⟨s0', v, F, f1, f2, f3, r⟩ := G0.R.get el
      rw [ev] at f2
      cases f2
      rw [e1] at f1
      cases f1
      have r : RV (h ++ t) b (js.length + (m + 1)) s0 y F := r
      obtain ⟨n1, d1⟩ := nd_at nd f3
      obtain ⟨s1, f1', w1, r1, _⟩ := focW (js := js) (k := m + 1) r rfl n1 eg
      rw [e3] at w1
      cases w1
      obtain ⟨n', xs, fl, rfl, hx, _, q⟩ := r1.isL
      unfold Zx.sFor
      have hs : Zx.iSeq fo sl h = .ok (.ow n') (h ++ t) := by
        unfold Zx.iSeq
        rw [e2]
        show (match (h ++ t)[n']? with | some (some (.lst _)) => Zx.R.ok (Src.ow n') (h ++ t) | _ => Zx.R.st) = _
        rw [hx]
      rw [hs]
      show OutS _ _ _ _ _ _ _ _ (match (h ++ t)[n']? with | some (some (.lst xs)) => forR sl (h ++ t).length (.nm i) f n' xs.length 0 sl (h ++ t) | _ => .st)
      rw [hx]
      dsimp only
      rw [q.len.1]
      refine OutS.pre G0 Keep.same (fun _ hi => hi) ?_
      have R' : RSt (h ++ t) D sl (vs.set l .un) (fs.set l []) := G0.R.drop l
      have hbel : Zx.below (h ++ t).length s0 = true := by
        cases s0 with
        | r n0 =>
          have : ∃ o, (h ++ t)[n0]? = some o := by
            cases js with
            | nil =>
              have w3 : walkR (h ++ t) [] (.r n0) = some (.r n') := by assumption
              have w4 : SV.r n0 = SV.r n' := Option.some.inj w3
              exact ⟨_, SV.r.inj w4 ▸ hx⟩
            | cons j js =>
              have w3 : walkR (h ++ t) (j :: js) (.r n0) = some (.r n') := by assumption
              unfold walkR at w3
              split at w3
              · rename_i hz; exact ⟨_, hz⟩
              · rename_i hz; exact ⟨_, hz⟩
              · cases w3
          obtain ⟨o, ho⟩ := this
          exact decide_eq_true (List.getElem?_eq_some_iff.mp ho).1
        | _ => rfl
      exact forOwnP_out R' hb el ei hl hi e1 hbel ((Good.refl G0.R nd).sub R' (nd_rest nd) fun a z => mem_rest z) Keep.same r n1 d1 (fun a z => .inl (mem_at f3 z)) (by assumption) eg
    · trivial
  · trivial
end
theorem u_forOwnP {l i : Nat} {js : List Int} {a : VF} {vs : List VS} : sForOwnP l i js a vs = gv vs[l]? (fun y => opt (getAt js y) (fun z => gl z (fun ds => forOwnPV (vs.set l .un) l i js a ds.length 0 y (vs.set l .un)) .st) .st) .st := by
  unfold sForOwnP gv gl opt
  rcases vs[l]? with _ | (_ | y | _ | _) <;> try rfl
  dsimp only
  cases getAt js y with
  | none => rfl
  | some z => cases z <;> rfl
end Zx.V

namespace Zx.V
open PySem PySem.Spec L2
open Zx (SV AO AH FE FA FT FS Md Bd It1 Src O RpS En Wd inB iAdd iSub imm immL nod mulB divB modB powB lim flatD flatL isTy cutX kD opt allD allI lstOf)
/-! ## calls by reference -/
def AX (D KL : List KD) (f : FA) (g : VA) : Prop := ∀ (h : AH) (sl : List SV) (vs : List VS) (fs : List (List Nat)), RSt h D sl vs fs → fs.flatten.Nodup → match g vs with
  | .ok ds vs' => ∃ ss h' fs' fps, f sl h = .ok ss h' ∧ Good D h fs h' sl vs' fs' ∧ RSt h' KL ss (ds.map VS.v) fps ∧ fps.flatten.Nodup ∧ (∀ n ∈ fps.flatten, n ∉ fs'.flatten) ∧ ∀ n ∈ fps.flatten, n ∈ fs.flatten ∨ h.length ≤ n
  | .rz c => ∃ t, f sl h = .rz c (h ++ t)
  | .st => True
def fConsX (ga : VE) (gr : VA) : VA := fun vs => (ga vs).bind fun x vs => match gr vs with
  | .ok xs vs => .ok (x :: xs) vs
  | _ => .st
def fCallRV (N : Nat) (g : VF) (qa : VA) : VE := fun vs => (qa vs).bind fun ds vs => match g (ds.map VS.v ++ List.replicate (N - ds.length) .un) with
  | .rt x => .ok x vs
  | .nx _ => .ok .none vs
  | _ => .st
theorem rst_ext {h : AH} : ∀ {KL KR : List KD} {ss : List SV} {vs : List VS} {fps : List (List Nat)}, RSt h KL ss vs fps → RSt h (KL ++ KR) (ss ++ List.replicate KR.length .un) (vs ++ List.replicate KR.length .un) (fps ++ List.replicate KR.length [])
  | [], [], ss, vs, fps, r => by
    rw [r.1, r.2.1, r.2.2]
    exact ⟨rfl, rfl, rfl⟩
  | [], k :: KR, ss, vs, fps, r => by
    have := rst_ext (h := h) (KL := []) (KR := KR) ⟨rfl, rfl, rfl⟩
    rw [r.1, r.2.1, r.2.2]
    exact ⟨_, _, _, _, _, _, rfl, rfl, rfl, rfl, this⟩
  | k :: KL, KR, ss, vs, fps, ⟨s, ss', v, vs', f, fps', h1, h2, h3, r1, r2⟩ => by
    subst h1 h2 h3
    exact ⟨s, _, v, _, f, _, rfl, rfl, rfl, r1, rst_ext r2⟩
section
variable {D K KL KR : List KD} {A : List Nat} {b b1 fr : Bool} {k rk np N : Nat} {fa : FE} {ga : VE} {ra : FA} {qa : VA} {f : FS} {g : VF}
theorem ax_nil : AX D [] Zx.fNil fNil := fun h sl vs fs R nd => ⟨[], h, fs, [], rfl, Good.refl R nd, ⟨rfl, rfl, rfl⟩, List.nodup_nil, fun _ m => (by cases m), fun _ m => (by cases m)⟩
theorem ax_cons (ha : XV D b1 k fa ga) (hr : AX D KL ra qa) (hb : (!b1 || b) = true := by decide) : AX D ((b, k) :: KL) (Zx.fCons fa ra) (fConsX ga qa) := by
  intro h sl vs fs R nd
  have o := ha h sl vs fs R nd
  unfold fConsX Zx.fCons
  generalize ga vs = r at o ⊢
  generalize fa sl h = q at o ⊢
  cases r with
  | st => trivial
  | rz c =>
    obtain ⟨t, rfl⟩ := o
    exact ⟨t, rfl⟩
  | ok x vs1 =>
    obtain ⟨s, h1, fs1, fp, rfl, G, r, n, d, od⟩ := o
    have o2 := hr h1 sl vs1 fs1 G.R G.nd
    dsimp only [VR.bind, Zx.R.bind]
    generalize qa vs1 = r2 at o2 ⊢
    generalize ra sl h1 = q2 at o2 ⊢
    cases r2 with
    | st => trivial
    | rz c => trivial
    | ok xs vs2 =>
      obtain ⟨ss, h2, fs2, fps, rfl, G2, R2, n2, d2, od2⟩ := o2
      dsimp only
      have lt : ∀ a ∈ fp, a < h1.length := fun a m => r.lt a m
      refine ⟨s :: ss, h2, fs2, fp :: fps, rfl, G.trans G2, ⟨s, ss, .v x, xs.map VS.v, fp, fps, rfl, rfl, rfl, ?_, R2⟩, ?_, fun a m => ?_, fun a m => ?_⟩
      · exact (r.bm hb).frame fun a m => G2.fr a (lt a m) (d a m)
      · rw [List.flatten_cons, List.nodup_append]
        refine ⟨n, n2, fun a ha c hc e => ?_⟩
        subst e
        rcases od2 a hc with z | z
        · exact d a ha z
        · exact absurd (lt a ha) (by omega)
      · rcases List.mem_append.mp m with m | m
        · intro z
          rcases G2.old a z with z | z
          · exact d a m z
          · exact absurd (lt a m) (by omega)
        · exact d2 a m
      · rcases List.mem_append.mp m with m | m
        · exact od a m
        · rcases od2 a m with z | z
          · exact G.old a z
          · exact .inr (Nat.le_trans G.le z)
theorem map_un {ds : List PyData} {n : Nat} : (ds.map VS.v ++ List.replicate n VS.un).length = ds.length + n := by simp
theorem xv_callR (hs : SVp K A false rk f g) (ha : AX D KL ra qa) (hK : K = KL ++ KR := by rfl) (hN : K.length = N := by rfl) (hp : KL.length = np := by rfl) : XV D false rk (Zx.fCallR np N f ra) (fCallRV N g qa) := by
  subst hK hN hp
  intro h sl vs fs R nd
  have o := ha h sl vs fs R nd
  unfold fCallRV Zx.fCallR
  generalize qa vs = r at o ⊢
  generalize ra sl h = q at o ⊢
  cases r with
  | st => trivial
  | rz c =>
    obtain ⟨t, rfl⟩ := o
    exact ⟨t, rfl⟩
  | ok ds vs1 =>
    obtain ⟨ss, h1, fs1, fps, rfl, G, R1, n1, d1, od1⟩ := o
    dsimp only [VR.bind, Zx.R.bind]
    have l := R1.len
    rw [List.length_map] at l
    rw [if_pos l.1]
    have hn1 : (KL ++ KR).length - ds.length = KR.length := by rw [List.length_append]; omega
    have hn2 : (KL ++ KR).length - ss.length = KR.length := by rw [List.length_append]; omega
    rw [hn1, hn2]
    have fl : (fps ++ List.replicate KR.length ([] : List Nat)).flatten = fps.flatten := by rw [List.flatten_append, fl_rep, List.append_nil]
    have o2 := hs h1 _ _ _ (rst_ext (KR := KR) R1) (by rw [fl]; exact n1)
    generalize g (ds.map VS.v ++ List.replicate KR.length VS.un) = r2 at o2 ⊢
    generalize f (ss ++ List.replicate KR.length SV.un) h1 = q2 at o2 ⊢
    have fin : ∀ {h2 : AH}, (∀ n, n < h1.length → n ∉ fps.flatten → h2[n]? = h1[n]?) → h1.length ≤ h2.length → Good D h fs h2 sl vs1 fs1 := fun {h2} fr le => {
      R := G.R.frame fun n m => fr n (G.R.lt n m) fun z => d1 n z m
      nd := G.nd
      old := G.old
      fr := fun n hn hm => (fr n (Nat.lt_of_lt_of_le hn G.le) fun z => (od1 n z).elim hm fun z => absurd hn (by omega)).trans (G.fr n hn hm)
      le := Nat.le_trans G.le le }
    cases r2 with
    | st => trivial
    | rz c v => trivial
    | bk v => trivial
    | ct v => trivial
    | nx v =>
      obtain ⟨sl2, h2, fs2, rfl, G2, _⟩ := o2
      refine ⟨.d .none, h2, fs1, [], rfl, fin (fun n hn hm => G2.fr n hn (by rw [fl]; exact hm)) G2.le, RV.dk rfl, List.nodup_nil, fun _ m => (by cases m), fun _ m => (by cases m)⟩
    | rt x =>
      obtain ⟨s, h2, fp, rfl, r, n, z⟩ := o2
      refine ⟨s, h2, fs1, fp, rfl, fin (fun n hn hm => z.fr n hn (by rw [fl]; exact hm)) z.le, r, n, fun a m w => ?_, fun a m => ?_⟩
      · rcases z.old a m with u | u
        · rw [fl] at u; exact d1 a u w
        · exact absurd (G.R.lt a w) (by omega)
      · rcases z.old a m with u | u
        · rw [fl] at u; exact od1 a u
        · exact .inr (Nat.le_trans G.le u)
end
/-! ## parts of an owned list of owned items, put together anew -/
theorem cut_lo {α : Type} {xs : List α} {a : Int} (h : 0 ≤ a) : cutX xs none (some a) = xs.take a.toNat := by
  unfold cutX HT.sIx
  simp only [List.drop_zero, Nat.sub_zero]
  have : ¬ a < 0 := by omega
  simp only [this, if_false]
  rw [List.take_eq_take_iff]
  omega
theorem cut_hi {α : Type} {xs : List α} {a : Int} (h : 0 ≤ a) : cutX xs (some a) none = xs.drop a.toNat := by
  unfold cutX HT.sIx
  have : ¬ a < 0 := by omega
  simp only [this, if_false]
  by_cases hl : a.toNat ≤ xs.length
  · rw [Nat.min_eq_left hl, List.take_of_length_le (by rw [List.length_drop]; omega)]
  · rw [Nat.min_eq_right (by omega), List.drop_of_length_le (Nat.le_refl _), List.drop_of_length_le (by omega), List.take_nil]
section
variable {β : Type}
theorem gv_inv {o : Option VS} {k : PyData → β} {z : β} : gv o k z = z ∨ ∃ x, o = some (.v x) ∧ gv o k z = k x := by
  unfold gv
  split
  · exact .inr ⟨_, rfl, rfl⟩
  · exact .inl rfl
theorem gl_inv {x : PyData} {k : List PyData → β} {z : β} : gl x k z = z ∨ ∃ ds, x = .list ds ∧ gl x k z = k ds := by
  unfold gl
  split
  · exact .inr ⟨_, rfl, rfl⟩
  · exact .inl rfl
theorem gn_inv {x : PyData} {k : Int → β} {z : β} : gn x k z = z ∨ ∃ i, x = .int i ∧ gn x k z = k i := by
  unfold gn
  split
  · exact .inr ⟨_, rfl, rfl⟩
  · exact .inl rfl
theorem rv_inv {r : VR PyData} {k : PyData → β} {z : β} : rv r k z = z ∨ ∃ x vs, r = .ok x vs ∧ rv r k z = k x := by
  unfold rv
  split
  · exact .inr ⟨_, _, rfl, rfl⟩
  · exact .inl rfl
end
def fCut (i : Nat) (g1 g2 : VE) : VE := fun vs => gv vs[i]? (fun y => gl y (fun ds => rv (g1 vs) (fun x => gn x (fun a => rv (g2 vs) (fun y => gn y (fun c => if 0 ≤ a ∧ a ≤ c ∧ ds.length < lim then .ok (.list (ds.take a.toNat ++ ds.drop c.toNat)) (vs.set i .un) else .st) .st) .st) .st) .st) .st) .st
theorem u_cut {i : Nat} {g1 g2 : VE} {vs : List VS} : fCut i g1 g2 vs = gv vs[i]? (fun y => gl y (fun ds => rv (g1 vs) (fun x => gn x (fun a => rv (g2 vs) (fun y => gn y (fun c => if 0 ≤ a ∧ a ≤ c ∧ ds.length < lim then .ok (.list (ds.take a.toNat ++ ds.drop c.toNat)) (vs.set i .un) else .st) .st) .st) .st) .st) .st) .st := (rfl)
theorem flat_sub {α : Type} {a b : List (List α)} (h : a.Sublist b) : a.flatten.Sublist b.flatten := by
  induction h with
  | slnil => exact List.Sublist.refl _
  | cons x _ ih => rw [List.flatten_cons]; exact ih.trans (List.sublist_append_right _ _)
  | cons_cons x _ ih => rw [List.flatten_cons, List.flatten_cons]; exact List.Sublist.append (List.Sublist.refl _) ih
theorem flat_take_drop {α : Type} {fl : List (List α)} {a c : Nat} (h : a ≤ c) : (fl.take a ++ fl.drop c).flatten.Sublist fl.flatten := by
  have e : fl = fl.take a ++ fl.drop a := (List.take_append_drop a fl).symm
  have s : (fl.drop c).Sublist (fl.drop a) := by
    have : fl.drop c = (fl.drop a).drop (c - a) := by rw [List.drop_drop]; congr 1; omega
    rw [this]
    exact List.drop_sublist _ _
  conv => rhs; rw [e]
  exact flat_sub (List.Sublist.append (List.Sublist.refl _) s)
theorem lst_at {h : AH} {n : Nat} {xs : List SV} (hn : h[n]? = some (some (.lst xs))) : lstOf h (.r n) = some xs := by
  unfold lstOf
  dsimp only
  rw [hn]
theorem sl_lo {h : AH} {sl : List SV} {n i : Nat} {xs : List SV} {f1 : FE} {a : Int} {t : AH} (e : Zx.fVar i sl h = .ok (.r n) h) (e1 : f1 sl h = .ok (.d (.int a)) (h ++ t)) (hn : h[n]? = some (some (.lst xs))) (ha : 0 ≤ a) : Zx.fSlice (Zx.fVar i) Zx.oNo (Zx.oSome f1) sl h = .ok (.r (h ++ t).length) (h ++ t ++ [some (.lst (xs.take a.toNat))]) := by
  unfold Zx.fSlice
  rw [e]
  show ((Zx.oSome f1 sl h).bind _) = _
  unfold Zx.oSome
  rw [e1]
  show (match lstOf (h ++ t) (.r n) with | some xs => Zx.R.ok (SV.r (h ++ t).length) (h ++ t ++ [some (AO.lst (cutX xs none (some a)))]) | none => .st) = _
  have : lstOf (h ++ t) (.r n) = some xs := by
    have hn' : (h ++ t)[n]? = some (some (.lst xs)) := by rw [List.getElem?_append_left (List.getElem?_eq_some_iff.mp hn).1]; exact hn
    exact lst_at hn'
  rw [this]
  dsimp only
  rw [cut_lo ha]
theorem sl_hi {h : AH} {sl : List SV} {n i : Nat} {xs : List SV} {f1 : FE} {a : Int} {t : AH} (e : Zx.fVar i sl h = .ok (.r n) h) (e1 : f1 sl h = .ok (.d (.int a)) (h ++ t)) (hn : h[n]? = some (some (.lst xs))) (ha : 0 ≤ a) : Zx.fSlice (Zx.fVar i) (Zx.oSome f1) Zx.oNo sl h = .ok (.r (h ++ t).length) (h ++ t ++ [some (.lst (xs.drop a.toNat))]) := by
  unfold Zx.fSlice
  rw [e]
  show ((Zx.oSome f1 sl h).bind _) = _
  unfold Zx.oSome
  rw [e1]
  show (match lstOf (h ++ t) (.r n) with | some xs => Zx.R.ok (SV.r (h ++ t).length) (h ++ t ++ [some (AO.lst (cutX xs (some a) none))]) | none => .st) = _
  have : lstOf (h ++ t) (.r n) = some xs := by
    have hn' : (h ++ t)[n]? = some (some (.lst xs)) := by rw [List.getElem?_append_left (List.getElem?_eq_some_iff.mp hn).1]; exact hn
    exact lst_at hn'
  rw [this]
  dsimp only
  rw [cut_hi ha]
theorem var_r {h : AH} {sl : List SV} {i n : Nat} (e : sl[i]? = some (.r n)) : Zx.fVar i sl h = .ok (.r n) h := by
  unfold Zx.fVar; rw [e]
theorem lst_new {h t : AH} {xs : List SV} : lstOf (h ++ [some (.lst xs)] ++ t) (.r h.length) = some xs := lst_at (by
  rw [List.append_assoc, List.getElem?_append_right (Nat.le_refl _), Nat.sub_self]; rfl)
theorem int_of {h : AH} {vs vs' : List VS} {b fr : Bool} {k L : Nat} {a : Int} {q : Zx.R SV} (o : OutE b k fr L h vs (.ok (.int a) vs') q) : vs' = vs ∧ ∃ t, q = .ok (.d (.int a)) (h ++ t) := by
  obtain ⟨e, s, t, fp, rfl, r, _⟩ := o
  obtain ⟨rfl, _⟩ := r.imm rfl
  exact ⟨e, t, rfl⟩
section
variable {D : List KD} {b b1 b2 fr1 fr2 : Bool} {k1 k2 m i : Nat} {f1 f2 : FE} {g1 g2 : VE}
theorem xv_cut (h1 : EV D b1 k1 fr1 f1 g1) (h2 : EV D b2 k2 fr2 f2 g2) (e : D[i]? = some (b, m + 1) := by rfl) : XV D b (m + 1) (Zx.fBin Zx.gAdd (Zx.fSlice (Zx.fVar i) Zx.oNo (Zx.oSome f1)) (Zx.fSlice (Zx.fVar i) (Zx.oSome f2) Zx.oNo)) (fCut i g1 g2) := by
  intro h sl vs fs R nd
  rw [u_cut]
  rcases gv_inv (o := vs[i]?) with e0 | ⟨y0, ev, e0⟩ <;> rw [e0]
  · trivial
  rcases gl_inv (x := y0) with e0 | ⟨ds, rfl, e0⟩ <;> rw [e0]
  · trivial
  rcases rv_inv (r := g1 vs) with e0 | ⟨y1, vs1, r1, e0⟩ <;> rw [e0]
  · trivial
  rcases gn_inv (x := y1) with e0 | ⟨a, rfl, e0⟩ <;> rw [e0]
  · trivial
  rcases rv_inv (r := g2 vs) with e0 | ⟨y2, vs2, r2, e0⟩ <;> rw [e0]
  · trivial
  rcases gn_inv (x := y2) with e0 | ⟨c, rfl, e0⟩ <;> rw [e0]
  · trivial
  split
  · rename_i hc
    obtain ⟨ha, hac, hl⟩ := hc
    obtain ⟨n, xs, fl, e1, e3, hn, q⟩ := slotL e R ev
    have o1 := h1 h sl vs fs R nd
    rw [r1] at o1
    obtain ⟨e4, t1, q1⟩ := int_of o1
    have R2 : RSt (h ++ t1 ++ [some (.lst (xs.take a.toNat))]) D sl vs fs := RSt.app (RSt.app R)
    have o2 := h2 _ sl vs fs R2 nd
    rw [r2] at o2
    obtain ⟨e5, t2, q2⟩ := int_of o2
    have hn1 : (h ++ t1 ++ [some (AO.lst (xs.take a.toNat))])[n]? = some (some (.lst xs)) := by
      have := (List.getElem?_eq_some_iff.mp hn).1
      rw [List.append_assoc, List.getElem?_append_left this]; exact hn
    have lq := q.len
    have E : Zx.fBin Zx.gAdd (Zx.fSlice (Zx.fVar i) Zx.oNo (Zx.oSome f1)) (Zx.fSlice (Zx.fVar i) (Zx.oSome f2) Zx.oNo) sl h = .ok (.r (h ++ t1 ++ [some (AO.lst (xs.take a.toNat))] ++ t2 ++ [some (AO.lst (xs.drop c.toNat))]).length) (h ++ t1 ++ [some (AO.lst (xs.take a.toNat))] ++ t2 ++ [some (AO.lst (xs.drop c.toNat))] ++ [some (AO.lst (xs.take a.toNat ++ xs.drop c.toNat))]) := by
      unfold Zx.fBin
      rw [sl_lo (var_r e1) q1 hn ha]
      show ((Zx.fSlice _ _ _ sl (h ++ t1 ++ [some (AO.lst (xs.take a.toNat))])).bind _) = _
      rw [sl_hi (var_r e1) q2 hn1 (by omega)]
      show Zx.gAdd _ _ _ = _
      rw [cat_of (xs := xs.take a.toNat) (ys := xs.drop c.toNat)]
      · rw [show h ++ t1 ++ [some (AO.lst (xs.take a.toNat))] ++ t2 ++ [some (AO.lst (xs.drop c.toNat))] = h ++ t1 ++ [some (AO.lst (xs.take a.toNat))] ++ (t2 ++ [some (AO.lst (xs.drop c.toNat))]) from by simp only [List.append_assoc]]
        exact lst_new
      · exact lst_at (by rw [List.getElem?_append_right (Nat.le_refl _), Nat.sub_self]; rfl)
      · rw [List.length_take, List.length_drop]; omega
    rw [E]
    obtain ⟨n1, n2⟩ := nd_at nd e3
    rw [List.nodup_cons] at n1
    have sb := flat_take_drop (fl := fl) (a := a.toNat) (c := c.toNat) (by omega)
    have G : Good D h fs (h ++ t1 ++ [some (AO.lst (xs.take a.toNat))] ++ t2 ++ [some (AO.lst (xs.drop c.toNat))] ++ [some (AO.lst (xs.take a.toNat ++ xs.drop c.toNat))]) sl (vs.set i .un) (fs.set i []) := (Good.app (Good.app (Good.app (Good.app (Good.ext R nd))))).sub (RSt.app (RSt.app (RSt.app (RSt.app (RSt.app (R.drop i)))))) (nd_rest nd) fun n m => mem_rest m
    refine ⟨_, _, fs.set i [], (h ++ t1 ++ [some (AO.lst (xs.take a.toNat))] ++ t2 ++ [some (AO.lst (xs.drop c.toNat))]).length :: (fl.take a.toNat ++ fl.drop c.toNat).flatten, rfl, G, RV.ofL (by rw [List.getElem?_append_right (Nat.le_refl _), Nat.sub_self]; rfl) ?_, ?_, fun z hz => ?_, fun z hz => ?_⟩
    · refine Fa3.app ?_ ?_
      · exact Fa3.imp (cs0 := fl.drop c.toNat) (fun _ _ _ _ p => RV.app (RV.app (RV.app (RV.app (RV.app p))))) (fun _ m => m) (fa_drop _ q)
      · exact Fa3.imp (cs0 := fl.take a.toNat) (fun _ _ _ _ p => RV.app (RV.app (RV.app (RV.app (RV.app p))))) (fun _ m => m) (fa_take _ q)
    · rw [List.nodup_cons]
      refine ⟨fun z => ?_, sb.nodup n1.2⟩
      have := R.lt _ (mem_at e3 (List.mem_cons_of_mem _ (sb.subset z)))
      simp only [List.length_append] at this
      omega
    · rcases List.mem_cons.mp hz with rfl | hz
      · intro w
        have := R.lt _ (mem_rest w)
        simp only [List.length_append] at this
        omega
      · exact n2 z (List.mem_cons_of_mem _ (sb.subset hz))
    · rcases List.mem_cons.mp hz with rfl | hz
      · right; simp only [List.length_append]; omega
      · exact .inl (mem_at e3 (List.mem_cons_of_mem _ (sb.subset hz)))
  · trivial
/-- x[:p] + [y] + x[p:]: y is laid into the list x -/
def fPut (i j : Nat) (g1 g2 : VE) : VE := fun vs => gv vs[i]? (fun y => gl y (fun ds => gv vs[j]? (fun x => rv (g1 vs) (fun w => gn w (fun a => rv (g2 vs) (fun u => gn u (fun c => if 0 ≤ a ∧ a ≤ c ∧ ds.length < lim - 1 then .ok (.list (ds.take a.toNat ++ [x] ++ ds.drop c.toNat)) ((vs.set j .un).set i .un) else .st) .st) .st) .st) .st) .st) .st) .st
theorem u_put {i j : Nat} {g1 g2 : VE} {vs : List VS} : fPut i j g1 g2 vs = gv vs[i]? (fun y => gl y (fun ds => gv vs[j]? (fun x => rv (g1 vs) (fun w => gn w (fun a => rv (g2 vs) (fun u => gn u (fun c => if 0 ≤ a ∧ a ≤ c ∧ ds.length < lim - 1 then .ok (.list (ds.take a.toNat ++ [x] ++ ds.drop c.toNat)) ((vs.set j .un).set i .un) else .st) .st) .st) .st) .st) .st) .st) .st := (rfl)
theorem xv_put {j : Nat} (h1 : EV D b1 k1 fr1 f1 g1) (h2 : EV D b2 k2 fr2 f2 g2) (e : D[i]? = some (b, m + 1) := by rfl) (ej : D[j]? = some (b, m) := by rfl) (hij : i ≠ j := by decide) : XV D b (m + 1) (Zx.fBin Zx.gAdd (Zx.fBin Zx.gAdd (Zx.fSlice (Zx.fVar i) Zx.oNo (Zx.oSome f1)) (Zx.fLst (Zx.fCons (Zx.fVar j) Zx.fNil))) (Zx.fSlice (Zx.fVar i) (Zx.oSome f2) Zx.oNo)) (fPut i j g1 g2) := by
  intro h sl vs fs R nd
  rw [u_put]
  rcases gv_inv (o := vs[i]?) with e0 | ⟨y0, ev, e0⟩ <;> rw [e0]
  · trivial
  rcases gl_inv (x := y0) with e0 | ⟨ds, rfl, e0⟩ <;> rw [e0]
  · trivial
  rcases gv_inv (o := vs[j]?) with e0 | ⟨x, evj, e0⟩ <;> rw [e0]
  · trivial
  rcases rv_inv (r := g1 vs) with e0 | ⟨y1, vs1, r1, e0⟩ <;> rw [e0]
  · trivial
  rcases gn_inv (x := y1) with e0 | ⟨a, rfl, e0⟩ <;> rw [e0]
  · trivial
  rcases rv_inv (r := g2 vs) with e0 | ⟨y2, vs2, r2, e0⟩ <;> rw [e0]
  · trivial
  rcases gn_inv (x := y2) with e0 | ⟨c, rfl, e0⟩ <;> rw [e0]
  · trivial
  split
  · rename_i hc
    obtain ⟨ha, hac, hl⟩ := hc
    have hlim : lim = 1000000 := rfl
    obtain ⟨n, xs, fl, e1, e3, hn, q⟩ := slotL e R ev
    have o1 := h1 h sl vs fs R nd
    rw [r1] at o1
    obtain ⟨e4, t1, q1⟩ := int_of o1
    obtain ⟨s, v', fj, ej1, ej2, ej3, rj⟩ := R.get ej
    rw [evj] at ej2
    cases ej2
    have rj : RV h b m s x fj := rj
    let hA := h ++ t1 ++ [some (AO.lst (xs.take a.toNat))]
    let hB := hA ++ [some (AO.lst [s])] ++ [some (AO.lst (xs.take a.toNat ++ [s]))]
    have RA : RSt hA D sl vs fs := RSt.app (RSt.app R)
    have RB : RSt hB D sl vs fs := RSt.app (RSt.app RA)
    have hn1 : hB[n]? = some (some (.lst xs)) := by
      have := (List.getElem?_eq_some_iff.mp hn).1
      show (h ++ t1 ++ [some (AO.lst (xs.take a.toNat))] ++ [some (AO.lst [s])] ++ [some (AO.lst (xs.take a.toNat ++ [s]))])[n]? = _
      rw [List.append_assoc, List.append_assoc, List.append_assoc, List.getElem?_append_left this]; exact hn
    have o2 := h2 hB sl vs fs RB nd
    rw [r2] at o2
    obtain ⟨e5, t2, q2⟩ := int_of o2
    have lq := q.len
    have qx : Zx.fVar j sl hA = .ok s hA := by
      have hu : s ≠ .un := fun z => by subst z; exact rv_un rj
      unfold Zx.fVar
      rw [ej1]
      cases s <;> first | rfl | exact absurd rfl hu
    have E1 : Zx.fBin Zx.gAdd (Zx.fSlice (Zx.fVar i) Zx.oNo (Zx.oSome f1)) (Zx.fLst (Zx.fCons (Zx.fVar j) Zx.fNil)) sl h = .ok (.r (hA ++ [some (AO.lst [s])]).length) hB := by
      unfold Zx.fBin
      rw [sl_lo (var_r e1) q1 hn ha]
      show ((Zx.fLst (Zx.fCons (Zx.fVar j) Zx.fNil) sl hA).bind _) = _
      have E0 : Zx.fLst (Zx.fCons (Zx.fVar j) Zx.fNil) sl hA = .ok (.r hA.length) (hA ++ [some (AO.lst [s])]) := by
        unfold Zx.fLst Zx.fCons
        rw [qx]; rfl
      rw [E0]
      show Zx.gAdd _ _ _ = _
      rw [cat_of (xs := xs.take a.toNat) (ys := [s])]
      · exact lst_new
      · exact lst_at (by rw [List.getElem?_append_right (Nat.le_refl _), Nat.sub_self]; rfl)
      · rw [List.length_take, List.length_singleton]; omega
    have E : Zx.fBin Zx.gAdd (Zx.fBin Zx.gAdd (Zx.fSlice (Zx.fVar i) Zx.oNo (Zx.oSome f1)) (Zx.fLst (Zx.fCons (Zx.fVar j) Zx.fNil))) (Zx.fSlice (Zx.fVar i) (Zx.oSome f2) Zx.oNo) sl h = .ok (.r (hB ++ t2 ++ [some (AO.lst (xs.drop c.toNat))]).length) (hB ++ t2 ++ [some (AO.lst (xs.drop c.toNat))] ++ [some (AO.lst (xs.take a.toNat ++ [s] ++ xs.drop c.toNat))]) := by
      show ((Zx.fBin Zx.gAdd (Zx.fSlice (Zx.fVar i) Zx.oNo (Zx.oSome f1)) (Zx.fLst (Zx.fCons (Zx.fVar j) Zx.fNil)) sl h).bind _) = _
      rw [E1]
      show ((Zx.fSlice _ _ _ sl hB).bind _) = _
      rw [sl_hi (var_r e1) q2 hn1 (by omega)]
      show Zx.gAdd _ _ _ = _
      rw [cat_of (xs := xs.take a.toNat ++ [s]) (ys := xs.drop c.toNat)]
      · rw [List.append_assoc (as := hB)]
        exact lst_new
      · exact lst_at (by rw [List.getElem?_append_right (Nat.le_refl _), Nat.sub_self]; rfl)
      · rw [List.length_append, List.length_take, List.length_drop, List.length_singleton]; omega
    rw [E]
    obtain ⟨n1, n2⟩ := nd_at nd e3
    obtain ⟨nj1, nj2⟩ := nd_at nd ej3
    rw [List.nodup_cons] at n1
    have sb := flat_take_drop (fl := fl) (a := a.toNat) (c := c.toNat) (by omega)
    have hs1 : ∀ z, z ∈ (fl.take a.toNat ++ [fj] ++ fl.drop c.toNat).flatten → z ∈ (fl.take a.toNat ++ fl.drop c.toNat).flatten ∨ z ∈ fj := fun z hz => by
      simp only [List.flatten_append, List.mem_append, List.flatten_cons, List.flatten_nil, List.append_nil] at hz ⊢
      rcases hz with (hz | hz) | hz
      · exact .inl (.inl hz)
      · exact .inr hz
      · exact .inl (.inr hz)
    have lti : ∀ z, z ∈ (fl.take a.toNat ++ fl.drop c.toNat).flatten → z ∈ n :: fl.flatten := fun z hz => List.mem_cons_of_mem _ (sb.subset hz)
    have dij : ∀ z ∈ n :: fl.flatten, z ∉ fj := fun z hz w => by
      refine n2 z hz (List.mem_flatten.mpr ⟨fj, ?_, w⟩)
      refine List.mem_of_getElem? (i := j) ?_
      rw [List.getElem?_set_ne hij]; exact ej3
    have rest : ∀ z, z ∈ ((fs.set j []).set i []).flatten → z ∈ (fs.set i []).flatten ∧ z ∈ (fs.set j []).flatten := fun z hz => by
      refine ⟨?_, mem_rest hz⟩
      rw [List.set_comm _ _ (Ne.symm hij)] at hz
      exact mem_rest hz
    have G : Good D h fs (hB ++ t2 ++ [some (AO.lst (xs.drop c.toNat))] ++ [some (AO.lst (xs.take a.toNat ++ [s] ++ xs.drop c.toNat))]) sl ((vs.set j .un).set i .un) ((fs.set j []).set i []) := (Good.app (Good.app (Good.app (Good.app (Good.app (Good.app (Good.ext R nd))))))).sub (RSt.app (RSt.app (RSt.app (RSt.app (RSt.app (RSt.app (RSt.app ((R.drop j).drop i)))))))) (nd_rest (nd_rest nd)) fun n m => mem_rest (rest n m).1
    have gl : h.length ≤ (hB ++ t2 ++ [some (AO.lst (xs.drop c.toNat))]).length := by
      show h.length ≤ (h ++ t1 ++ [some (AO.lst (xs.take a.toNat))] ++ [some (AO.lst [s])] ++ [some (AO.lst (xs.take a.toNat ++ [s]))] ++ t2 ++ [some (AO.lst (xs.drop c.toNat))]).length
      simp only [List.length_append]; omega
    refine ⟨_, _, (fs.set j []).set i [], (hB ++ t2 ++ [some (AO.lst (xs.drop c.toNat))]).length :: (fl.take a.toNat ++ [fj] ++ fl.drop c.toNat).flatten, rfl, G, RV.ofL (by rw [List.getElem?_append_right (Nat.le_refl _), Nat.sub_self]; rfl) ?_, ?_, fun z hz => ?_, fun z hz => ?_⟩
    · have up : ∀ {s : SV} {x : PyData} {f : List Nat}, RV h b m s x f → RV (hB ++ t2 ++ [some (AO.lst (xs.drop c.toNat))] ++ [some (AO.lst (xs.take a.toNat ++ [s] ++ xs.drop c.toNat))]) b m s x f := fun p => RV.app (RV.app (RV.app (RV.app (RV.app (RV.app (RV.app p))))))
      have up2 : ∀ {s' : SV} {x : PyData} {f : List Nat}, RV h b m s' x f → RV (hB ++ t2 ++ [some (AO.lst (xs.drop c.toNat))] ++ [some (AO.lst (xs.take a.toNat ++ [s] ++ xs.drop c.toNat))]) b m s' x f := fun p => RV.app (RV.app (RV.app (RV.app (RV.app (RV.app (RV.app p))))))
      have one : Fa3 (RV (hB ++ t2 ++ [some (AO.lst (xs.drop c.toNat))] ++ [some (AO.lst (xs.take a.toNat ++ [s] ++ xs.drop c.toNat))]) b m) [s] [x] [fj] := ⟨up2 rj, trivial⟩
      refine Fa3.app ?_ (Fa3.app one ?_)
      · exact Fa3.imp (cs0 := fl.drop c.toNat) (fun _ _ _ _ p => up2 p) (fun _ m => m) (fa_drop _ q)
      · exact Fa3.imp (cs0 := fl.take a.toNat) (fun _ _ _ _ p => up2 p) (fun _ m => m) (fa_take _ q)
    · rw [List.nodup_cons]
      refine ⟨fun z => ?_, ?_⟩
      · have : (hB ++ t2 ++ [some (AO.lst (xs.drop c.toNat))]).length < h.length := by
          rcases hs1 _ z with z | z
          · exact R.lt _ (mem_at e3 (lti _ z))
          · exact R.lt _ (mem_at ej3 z)
        omega
      · have p : (fl.take a.toNat ++ [fj] ++ fl.drop c.toNat).flatten.Perm (fj ++ (fl.take a.toNat ++ fl.drop c.toNat).flatten) := by
          simp only [List.flatten_append, List.flatten_cons, List.flatten_nil, List.append_nil]
          rw [← List.append_assoc]
          exact List.Perm.append_right _ (List.perm_append_comm)
        refine (p.nodup_iff).mpr ?_
        rw [List.nodup_append]
        exact ⟨nj1, sb.nodup n1.2, fun z hz w hw e => dij w (lti w hw) (e ▸ hz)⟩
    · rcases List.mem_cons.mp hz with rfl | hz
      · intro w
        have := R.lt _ (mem_rest (rest _ w).1)
        omega
      · intro w
        rcases hs1 z hz with u | u
        · exact n2 z (lti z u) (rest z w).1
        · exact nj2 z u (rest z w).2
    · rcases List.mem_cons.mp hz with rfl | hz
      · exact .inr gl
      · rcases hs1 z hz with u | u
        · exact .inl (mem_at e3 (lti z u))
        · exact .inl (mem_at ej3 u)
  · trivial
end
/-! ## equations -/
def VO.cb (o : VO) (vs : List VS) : VR PyData := match o with
  | .rt x => .ok x vs
  | .nx _ => .ok .none vs
  | _ => .st
def VR.ac (r : VR (List PyData)) (x : PyData) : VR (List PyData) := match r with
  | .ok xs vs => .ok (x :: xs) vs
  | _ => .st
section
variable {vs vs' : List VS} {ga : VE} {qa : VA} {N : Nat} {g : VF} {x : PyData} {xs : List PyData}
theorem u_callR : fCallRV N g qa vs = (qa vs).bind fun ds vs => (g (ds.map VS.v ++ List.replicate (N - ds.length) .un)).cb vs := (rfl)
theorem cb_ok : (VO.rt x).cb vs = .ok x vs := (rfl)
theorem cb_nx : (VO.nx vs').cb vs = .ok .none vs := (rfl)
theorem u_consX : fConsX ga qa vs = (ga vs).bind fun x vs => (qa vs).ac x := (rfl)
theorem ac_ok : (VR.ok xs vs).ac x = .ok (x :: xs) vs := (rfl)
end
end Zx.V

namespace Zx.V
open PySem PySem.Spec L2
open Zx (SV AO AH FE FA FT FS Md Bd It1 Src O RpS En Wd inB iAdd iSub imm immL nod mulB divB modB powB lim flatD flatL isTy cutX kD opt o_some allD allI lstOf divF modF putIx)
/-! ## two items exchanged -/
def sSwp (l : Nat) (gi gj : VE) : VF := fun vs => gv vs[l]? (fun y => gl y (fun ds => rv (gi vs) (fun a => gn a (fun i => rv (gj vs) (fun c => gn c (fun j => rv (gj (vs.set l .un)) (fun c' => gn c' (fun j' => opt (ixN ds.length i) (fun p => opt (ixN ds.length j) (fun q => opt ds[q]? (fun d => opt ds[p]? (fun e => if j' = j then .nx (vs.set l (.v (.list ((ds.set p d).set q e)))) else .st) .st) .st) .st) .st) .st) .st) .st) .st) .st) .st) .st) .st
theorem u_swp {l : Nat} {gi gj : VE} {vs : List VS} : sSwp l gi gj vs = gv vs[l]? (fun y => gl y (fun ds => rv (gi vs) (fun a => gn a (fun i => rv (gj vs) (fun c => gn c (fun j => rv (gj (vs.set l .un)) (fun c' => gn c' (fun j' => opt (ixN ds.length i) (fun p => opt (ixN ds.length j) (fun q => opt ds[q]? (fun d => opt ds[p]? (fun e => if j' = j then .nx (vs.set l (.v (.list ((ds.set p d).set q e)))) else .st) .st) .st) .st) .st) .st) .st) .st) .st) .st) .st) .st) .st := (rfl)
theorem opt_inv {α β : Type} {o : Option α} {k : α → β} {z : β} : opt o k z = z ∨ ∃ x, o = some x ∧ opt o k z = k x := by
  unfold opt
  cases o with
  | none => exact .inl rfl
  | some x => exact .inr ⟨x, rfl, rfl⟩
theorem set_set_ne {α : Type} {xs : List α} {i j : Nat} {a b : α} (h : i ≠ j) : (xs.set i a).set j b = (xs.set j b).set i a := List.set_comm _ _ h
theorem nd_swap {fl : List (List Nat)} {p q : Nat} {fp fq : List Nat} (nd : fl.flatten.Nodup) (ep : fl[p]? = some fp) (eq : fl[q]? = some fq) : ((fl.set p fq).set q fp).flatten.Nodup ∧ ∀ a ∈ ((fl.set p fq).set q fp).flatten, a ∈ fl.flatten := by
  have mem : ∀ a ∈ ((fl.set p fq).set q fp).flatten, a ∈ fl.flatten := fun a m => by
    rcases mem_set m with m | m
    · exact mem_at ep m
    · have m := mem_rest m
      rcases mem_set m with m | m
      · exact mem_at eq m
      · exact mem_rest m
  refine ⟨?_, mem⟩
  by_cases h : p = q
  · subst h
    rw [List.set_set]
    have : fl.set p fp = fl := by
      obtain ⟨hi, e⟩ := List.getElem?_eq_some_iff.mp ep
      rw [← e]; exact List.set_getElem_self hi
    rw [this]; exact nd
  · obtain ⟨np, dp⟩ := nd_at nd ep
    obtain ⟨nq, dq⟩ := nd_at nd eq
    have e : (fl.set p fq).set q fp = (((fl.set p []).set q []).set p fq).set q fp := by
      rw [set_set_ne (Ne.symm h), List.set_set, set_set_ne h, List.set_set, set_set_ne (Ne.symm h)]
    rw [e]
    have n0 : ((fl.set p []).set q []).flatten.Nodup := nd_rest (nd_rest nd)
    have n1 : (((fl.set p []).set q []).set p fq).flatten.Nodup := nd_set n0 nq fun a m z => by
      have z := mem_rest z
      rw [set_set_ne h] at z
      exact dq a m (mem_rest z)
    refine nd_set n1 np fun a m z => ?_
    have z := mem_rest z
    rcases mem_set z with z | z
    · exact dp a m (mem_at (by rw [List.getElem?_set_ne h]; exact eq) z)
    · have z := mem_rest z
      exact dp a m (mem_rest z)
section
variable {D : List KD} {rb : Bool} {rk : Nat} {b b1 b2 b3 fr1 fr2 fr3 : Bool} {k1 k2 k3 m l : Nat} {fi fj : FE} {gi gj : VE}
theorem ix_of {h : AH} {sl : List SV} {n i : Nat} {xs : List SV} {s : SV} {f1 : FE} {a : Int} {t : AH} {p : Nat} (e : sl[i]? = some (.r n)) (e1 : f1 sl h = .ok (.d (.int a)) (h ++ t)) (hn : h[n]? = some (some (.lst xs))) (hp : ixN xs.length a = some p) (hs : xs[p]? = some s) : Zx.fBin Zx.gIx (Zx.fVar i) f1 sl h = .ok s (h ++ t) := by
  have hn' : (h ++ t)[n]? = some (some (.lst xs)) := by rw [List.getElem?_append_left (List.getElem?_eq_some_iff.mp hn).1]; exact hn
  unfold Zx.fBin
  rw [var_r e]
  show ((f1 sl h).bind _) = _
  rw [e1]
  show Zx.gIx (.r n) (.d (.int a)) (h ++ t) = _
  rw [Zx.o_ix]
  unfold Zx.ownL
  rw [hn']
  show opt (atI xs a) _ _ = _
  unfold atI
  rw [hp]
  show opt xs[p]? _ _ = _
  rw [hs]; rfl
theorem sv_swp (h1 : EV D b1 k1 fr1 fi gi) (h2 : EV D b2 k2 fr2 fj gj) (e : D[l]? = some (b, m + 1) := by rfl) : SVp D [] rb rk (Zx.sSwap (Zx.fVar l) fi (Zx.fVar l) fj (Zx.fCons (Zx.fBin Zx.gIx (Zx.fVar l) fj) (Zx.fCons (Zx.fBin Zx.gIx (Zx.fVar l) fi) Zx.fNil))) (sSwp l gi gj) := by
  intro h sl vs fs R nd
  rw [u_swp]
  rcases gv_inv (o := vs[l]?) with e0 | ⟨y0, ev, e0⟩ <;> rw [e0]
  · trivial
  rcases gl_inv (x := y0) with e0 | ⟨ds, rfl, e0⟩ <;> rw [e0]
  · trivial
  rcases rv_inv (r := gi vs) with e0 | ⟨y1, vs1, r1, e0⟩ <;> rw [e0]
  · trivial
  rcases gn_inv (x := y1) with e0 | ⟨i, rfl, e0⟩ <;> rw [e0]
  · trivial
  rcases rv_inv (r := gj vs) with e0 | ⟨y2, vs2, r2, e0⟩ <;> rw [e0]
  · trivial
  rcases gn_inv (x := y2) with e0 | ⟨j, rfl, e0⟩ <;> rw [e0]
  · trivial
  rcases rv_inv (r := gj (vs.set l .un)) with e0 | ⟨y3, vs3, r3, e0⟩ <;> rw [e0]
  · trivial
  rcases gn_inv (x := y3) with e0 | ⟨j', rfl, e0⟩ <;> rw [e0]
  · trivial
  rcases opt_inv (o := ixN ds.length i) with e0 | ⟨p, hp, e0⟩ <;> rw [e0]
  · trivial
  rcases opt_inv (o := ixN ds.length j) with e0 | ⟨q, hq, e0⟩ <;> rw [e0]
  · trivial
  rcases opt_inv (o := ds[q]?) with e0 | ⟨d, hd, e0⟩ <;> rw [e0]
  · trivial
  rcases opt_inv (o := ds[p]?) with e0 | ⟨d2, hd2, e0⟩ <;> rw [e0]
  · trivial
  split
  · rename_i hj
    subst hj
    obtain ⟨n, xs, fl, e1, e3, hn, qq⟩ := slotL e R ev
    have lq := qq.len
    have hp' : ixN xs.length i = some p := by rw [lq.1]; exact hp
    have hq' : ixN xs.length j' = some q := by rw [lq.1]; exact hq
    obtain ⟨sq, fq, hsq, hfq, Rq⟩ := qq.get hd
    obtain ⟨sp, fp, hsp, hfp, Rp⟩ := qq.get hd2
    -- the values
    have o1 := h2 h sl vs fs R nd
    rw [r2] at o1
    obtain ⟨_, t1, q1⟩ := int_of o1
    have R1 : RSt (h ++ t1) D sl vs fs := RSt.app R
    have hn1 : (h ++ t1)[n]? = some (some (.lst xs)) := by rw [List.getElem?_append_left (List.getElem?_eq_some_iff.mp hn).1]; exact hn
    have o2 := h1 (h ++ t1) sl vs fs R1 nd
    rw [r1] at o2
    obtain ⟨_, t2, q2⟩ := int_of o2
    have R2 : RSt (h ++ t1 ++ t2) D sl vs fs := RSt.app R1
    have hn2 : (h ++ t1 ++ t2)[n]? = some (some (.lst xs)) := by rw [List.getElem?_append_left (List.getElem?_eq_some_iff.mp hn1).1]; exact hn1
    have o3 := h1 (h ++ t1 ++ t2) sl vs fs R2 nd
    rw [r1] at o3
    obtain ⟨_, t3, q3⟩ := int_of o3
    have R3 : RSt (h ++ t1 ++ t2 ++ t3) D sl vs fs := RSt.app R2
    have hn3 : (h ++ t1 ++ t2 ++ t3)[n]? = some (some (.lst xs)) := by rw [List.getElem?_append_left (List.getElem?_eq_some_iff.mp hn2).1]; exact hn2
    obtain ⟨n1, d1⟩ := nd_at nd e3
    rw [List.nodup_cons] at n1
    let H3 := h ++ t1 ++ t2 ++ t3
    let H4 := H3.set n (some (AO.lst (xs.set p sq)))
    have hlt : n < H3.length := (List.getElem?_eq_some_iff.mp hn3).1
    have R4 : RSt H4 D sl (vs.set l .un) (fs.set l []) := (R3.drop l).frame fun a ma => by
      have : a ≠ n := fun z => d1 n List.mem_cons_self (z ▸ ma)
      exact List.getElem?_set_ne (Ne.symm this)
    have o4 := h2 H4 sl _ _ R4 (nd_rest nd)
    rw [r3] at o4
    obtain ⟨_, t5, q5⟩ := int_of o4
    have hn4 : H4[n]? = some (some (.lst (xs.set p sq))) := List.getElem?_set_self hlt
    have hn5 : (H4 ++ t5)[n]? = some (some (.lst (xs.set p sq))) := by rw [List.getElem?_append_left (List.getElem?_eq_some_iff.mp hn4).1]; exact hn4
    have E : Zx.sSwap (Zx.fVar l) fi (Zx.fVar l) fj (Zx.fCons (Zx.fBin Zx.gIx (Zx.fVar l) fj) (Zx.fCons (Zx.fBin Zx.gIx (Zx.fVar l) fi) Zx.fNil)) sl h = .nx sl ((H4 ++ t5).set n (some (.lst ((xs.set p sq).set q sp)))) := by
      have a1 : Zx.fCons (Zx.fBin Zx.gIx (Zx.fVar l) fj) (Zx.fCons (Zx.fBin Zx.gIx (Zx.fVar l) fi) Zx.fNil) sl h = .ok [sq, sp] (h ++ t1 ++ t2) := by
        unfold Zx.fCons
        rw [ix_of e1 q1 hn hq' hsq]
        show ((Zx.fBin Zx.gIx (Zx.fVar l) fi sl (h ++ t1)).bind _).bind _ = _
        rw [ix_of e1 q2 hn1 hp' hsp]; rfl
      unfold Zx.sSwap
      rw [a1]
      show ((Zx.fVar l sl (h ++ t1 ++ t2)).thn sl _) = _
      rw [var_r e1]
      show ((fi sl (h ++ t1 ++ t2)).thn sl _) = _
      rw [q3]
      show (match putIx (.r n) (.d (.int i)) sq H3 with | some h4 => _ | none => _) = _
      have p1 : putIx (.r n) (.d (.int i)) sq H3 = some H4 := by
        rw [Zx.o_put]
        unfold Zx.ownL
        rw [hn3]
        show opt (ixN xs.length i) _ _ = _
        rw [hp']; rfl
      rw [p1]
      show ((Zx.fVar l sl H4).thn sl _) = _
      rw [var_r e1]
      show ((fj sl H4).thn sl _) = _
      rw [q5]
      show (match putIx (.r n) (.d (.int j')) sp (H4 ++ t5) with | some h4 => _ | none => _) = _
      have p2 : putIx (.r n) (.d (.int j')) sp (H4 ++ t5) = some ((H4 ++ t5).set n (some (.lst ((xs.set p sq).set q sp)))) := by
        rw [Zx.o_put]
        unfold Zx.ownL
        rw [hn5]
        show opt (ixN (xs.set p sq).length j') _ _ = _
        rw [List.length_set, hq']; rfl
      rw [p2]
    rw [E]
    let H6 := (H4 ++ t5).set n (some (AO.lst ((xs.set p sq).set q sp)))
    have hlt5 : n < (H4 ++ t5).length := (List.getElem?_eq_some_iff.mp hn5).1
    have at6 : ∀ a, a ≠ n → a < H3.length → H6[a]? = H3[a]? := fun a ha hl => by
      show ((H4 ++ t5).set n _)[a]? = _
      rw [List.getElem?_set_ne (Ne.symm ha), List.getElem?_append_left (by show a < (H3.set n _).length; rw [List.length_set]; exact hl)]
      exact List.getElem?_set_ne (Ne.symm ha)
    have hle : h.length ≤ H3.length := by
      show h.length ≤ (h ++ t1 ++ t2 ++ t3).length
      simp only [List.length_append]; omega
    have at6' : ∀ a, a ≠ n → a < h.length → H6[a]? = h[a]? := fun a ha hl => by
      rw [at6 a ha (by omega)]
      show (h ++ t1 ++ t2 ++ t3)[a]? = _
      rw [List.append_assoc, List.append_assoc, List.getElem?_append_left hl]
    obtain ⟨nds, ms⟩ := nd_swap n1.2 hfp hfq
    have q6 : Fa3 (RV H6 b m) ((xs.set p sq).set q sp) ((ds.set p d).set q d2) ((fl.set p fq).set q fp) := by
      refine Fa3.imp (cs0 := (fl.set p fq).set q fp) (P := RV h b m) (fun a' b' c' mc pr => pr.frame fun z hz => ?_) (fun _ mm => mm) (Fa3.set Rp q (Fa3.set Rq p qq))
      have : z ∈ fl.flatten := ms z (List.mem_flatten.mpr ⟨c', mc, hz⟩)
      exact at6' z (fun w => n1.1 (w ▸ this)) (R.lt z (mem_at e3 (List.mem_cons_of_mem _ this)))
    have hn6 : H6[n]? = some (some (.lst ((xs.set p sq).set q sp))) := List.getElem?_set_self hlt5
    have rv6 : RV H6 b (m + 1) (.r n) (.list ((ds.set p d).set q d2)) (n :: ((fl.set p fq).set q fp).flatten) := RV.ofL hn6 q6
    have sub : ∀ a ∈ n :: ((fl.set p fq).set q fp).flatten, a ∈ n :: fl.flatten := fun a ma => by
      rcases List.mem_cons.mp ma with rfl | ma
      · exact List.mem_cons_self
      · exact List.mem_cons_of_mem _ (ms a ma)
    have G0 : Good D h fs H6 sl (vs.set l .un) (fs.set l []) := {
      R := (R.drop l).frame fun a ma => at6' a (fun z => d1 n List.mem_cons_self (z ▸ ma)) (R.lt a (mem_rest ma))
      nd := nd_rest nd
      old := fun a ma => .inl (mem_rest ma)
      fr := fun a ha hm => at6' a (fun z => hm (z ▸ mem_at e3 List.mem_cons_self)) ha
      le := by
        show h.length ≤ ((H4 ++ t5).set n _).length
        rw [List.length_set, List.length_append]
        show h.length ≤ (H3.set n _).length + t5.length
        rw [List.length_set]; omega }
    have G := G0.put e rv6 (by rw [List.nodup_cons]; exact ⟨fun z => n1.1 (ms n z), nds⟩) (fun a ma z => d1 a (sub a ma) z) (fun a ma => .inl (mem_at e3 (sub a ma)))
    have es : sl.set l (.r n) = sl := by
      obtain ⟨hi, e1⟩ := List.getElem?_eq_some_iff.mp e1
      rw [← e1]; exact List.set_getElem_self hi
    rw [es, List.set_set, List.set_set] at G
    exact ⟨sl, H6, _, rfl, G, Keep.same⟩
  · trivial
end
/-! ## // and % by any divisor but 0 -/
def gFdv := gI divF fun i j => .int (i.fdiv j)
def gFmd := gI modF fun i j => .int (i.fmod j)
theorem ov_fdv {b1 b2 b fr : Bool} {k1 k2 k : Nat} : OpV b1 k1 b2 k2 b k fr Zx.gFdv gFdv := ov_I fun _ _ => rfl
theorem ov_fmd {b1 b2 b fr : Bool} {k1 k2 k : Nat} : OpV b1 k1 b2 k2 b k fr Zx.gFmd gFmd := ov_I fun _ _ => rfl
theorem o_fdv {m n : Int} {vs : List VS} (h : divF m n = true) : gFdv (.int m) (.int n) vs = .ok (.int (m.fdiv n)) vs := by
  unfold gFdv gI
  dsimp only
  rw [if_pos h]
theorem o_fmd {m n : Int} {vs : List VS} (h : n ≠ 0) : gFmd (.int m) (.int n) vs = .ok (.int (m.fmod n)) vs := by
  unfold gFmd gI
  dsimp only
  rw [if_pos (by unfold modF; exact decide_eq_true h)]
end Zx.V

namespace Zx.V
open PySem PySem.Spec L2
open Zx (SV AO AH FE FA FT FS Md Bd It1 Src O RpS En Wd inB iAdd iSub imm immL nod mulB divB modB powB lim flatD flatL isTy cutX kD opt o_some allD allI lstOf divF modF putIx wipeS lcR)
/-! ## a comprehension over a new list of items that are looked at only -/
def fLcF (b : Bool) (k : Nat) (gs : VE) (bd : Bd) (gt : VT) (ge : VE) (vx : List Nat) : VE := fun vs => (gs vs).bind fun x vs => match x with
  | .list ds => lcEnd vs (lcV bd gt ge (wipeV vs vx) (ds.map .one))
  | _ => .st
theorem u_lcF {b : Bool} {k : Nat} {gs : VE} {bd : Bd} {gt : VT} {ge : VE} {vx : List Nat} {vs : List VS} : fLcF b k gs bd gt ge vx vs = (gs vs).bind fun x vs => gl x (fun ds => lcEnd vs (lcV bd gt ge (wipeV vs vx) (ds.map .one))) .st := by
  unfold fLcF gl
  congr 1
section
variable {D : List KD} {b b1 b2 fr : Bool} {k : Nat} {fs fa : FE} {gs ga : VE} {ta : FT} {ua : VT} {bd : Bd} {vx : List Nat}
theorem ev_lcF (hs : EV D b1 1 true fs gs) (ht : TV D ta ua) (he : EV D b2 k true fa ga) (hbd : bdOk D b1 bd = true := by decide) (hb : (!b2 || b) = true := by decide) : EV D b (k + 1) fr (Zx.fLc (Zx.iSeq fs) bd ta fa vx) (fLcF b (k + 1) gs bd ua ga vx) := by
  intro h sl vs ff R nd
  have o := hs h sl vs ff R nd
  unfold fLcF Zx.fLc Zx.iSeq
  generalize gs vs = rr at o ⊢
  generalize fs sl h = qq at o ⊢
  cases rr with
  | st => trivial
  | rz cc =>
    obtain ⟨t, rfl⟩ := o
    exact ⟨t, rfl⟩
  | ok x vs' =>
    obtain ⟨rfl, s, t, fp, rfl, r, n1, z⟩ := o
    cases x
    case list ds =>
      obtain ⟨n, xs, fl, rfl, hn, rfl, q⟩ := r.isL
      have hx : (match (h ++ t)[n]? with | some (some (AO.lst _)) => Zx.R.ok (Src.ow n) (h ++ t) | _ => Zx.R.st) = .ok (.ow n) (h ++ t) := by rw [hn]
      obtain ⟨fsw, Rw, nw, _⟩ := RSt.wipe (RSt.app (t := t) R) nd vx
      cases e : lcV bd ua ga (wipeV vs' vx) (ds.map .one) with
      | none => 
        show OutE _ _ _ _ _ _ (lcEnd vs' (lcV bd ua ga (wipeV vs' vx) (ds.map .one))) _
        rw [e]; trivial
      | some out =>
        show OutE _ _ _ _ _ _ (lcEnd vs' (lcV bd ua ga (wipeV vs' vx) (ds.map .one))) _
        rw [e]
        show OutE _ _ _ _ _ _ (if out.length ≤ 1000000 then .ok (.list out) vs' else .st) _
        split
        · rename_i hl
          obtain ⟨acc', fps', t', h1, h2, h3, h4⟩ := lcR_ok (c := xs.length) (j := 0) (acc := []) (accv := []) (fps := []) (t := []) (step_leaf (n := n) (xs := xs) hbd Rw nw) ht he hb hn (by omega) (by rw [List.drop_zero]; exact q) trivial List.nodup_nil (fun _ m => by cases m) (by rw [num_one]; exact e) (by simpa using hl)
          rw [List.append_nil] at h1
          show OutE _ _ _ _ _ _ _ ((match (h ++ t)[n]? with | some (some (AO.lst _)) => Zx.R.ok (Src.ow n) (h ++ t) | _ => Zx.R.st).bind _)
          rw [hx]
          show OutE _ _ _ _ _ _ _ (match (h ++ t)[n]? with | some (some (AO.lst xs)) => (lcR (h ++ t).length bd ta fa (wipeS sl vx) n xs.length 0 (h ++ t ++ [some (AO.lst [])])).bind fun _ h2 => .ok (.r (h ++ t).length) h2 | _ => .st)
          rw [hn]
          dsimp only
          rw [h1]
          have o2 := lc_end (fr := fr) (vs := vs') h2 h3 h4
          refine OutE.pre (OutE.up (by rw [List.length_append]; omega) o2)
        · trivial
    all_goals trivial
end
end Zx.V

namespace Gn.V
open PySem PySem.Spec L2 Zx.V
open Zx (SV AO AH FE FA FT FS Md Bd It1 Src O RpS En Wd inB iAdd iSub imm nod mulB divB modB powB lim flatD flatL isTy cutX lk lkAny)
noncomputable def em_ask_square : VF :=
  (sIf (fTst (fBin (gEq true) (fCB gLen (fCons (fVar 0) fNil)) (fCB gLen (fCons (fBin gIx (fVar 0) (fC (.int 0))) fNil)))) (sRaise (PySem.Str.ofString "NoGrid")) sNext)
noncomputable def w_ask_square : List PyData → VC := phiV [.vw] 1 em_ask_square
abbrev K_ask_square : List KD := [(true, 0)]
theorem k_ask_square : CalV v_ask_square 0 w_ask_square := by
  have s : ∃ A, SVp K_ask_square A false 0 m_ask_square em_ask_square := by
    delta m_ask_square em_ask_square
    exact ⟨_, (sv_if (tv_tst (ev_bin (b := false) (k := 0) (fr := true) ov_eq (ev_cb (b := false) (k := 0) (fr := true) cv_len (av_cons (ev_var0 (b := true) (fr := true) (i := 0) rfl) av_nil)) (ev_cb (b := false) (k := 0) (fr := true) cv_len (av_cons (ev_bin (b := true) (k := 0) (fr := true) (ov_ix (k1 := 0)) (ev_var0 (b := true) (fr := true) (i := 0) rfl) (ev_c (x := (.int 0)) (b := false) (k := 0) (fr := true))) av_nil)))) sv_raise sv_next)⟩
  exact s.elim fun _ s => cal_phi s
noncomputable def el_pivot_row_1 : VF :=
  (sFor (iRng2 (fCons (fVar 1) (fCons (fCB gLen (fCons (fVar 0) fNil)) fNil))) (.nm 2) (sIf (fTst (fBin (gEq true) (fBin gIx (fBin gIx (fVar 0) (fVar 2)) (fVar 1)) (fC (.int 0)))) (sRet (fVar 2)) sNext))
noncomputable def em_pivot_row : VF :=
  (sSeq el_pivot_row_1
    (sRet (fC .none)))
noncomputable def w_pivot_row : List PyData → VC := phiV [.vw, .vw] 3 em_pivot_row
abbrev K_pivot_row : List KD := [(true, 0), (true, 0), (false, 0)]
theorem k_pivot_row : CalV v_pivot_row 0 w_pivot_row := by
  have s : ∃ A, SVp K_pivot_row A false 0 m_pivot_row em_pivot_row := by
    delta m_pivot_row em_pivot_row l_pivot_row_1 el_pivot_row_1
    exact ⟨_, (sv_seq (sv_for (iv_rng2 (b := false) (av_cons (ev_var0 (b := true) (fr := true) (i := 1) rfl) (av_cons (ev_cb (b := false) (k := 0) (fr := true) cv_len (av_cons (ev_var0 (b := true) (fr := true) (i := 0) rfl) av_nil)) av_nil))) (sv_if (tv_tst (ev_bin (b := false) (k := 0) (fr := true) ov_eq (ev_bin (b := true) (k := 0) (fr := true) (ov_ix (k1 := 0)) (ev_bin (b := true) (k := 0) (fr := true) (ov_ix (k1 := 0)) (ev_var0 (b := true) (fr := true) (i := 0) rfl) (ev_var0 (b := false) (fr := true) (i := 2) rfl)) (ev_var0 (b := true) (fr := true) (i := 1) rfl)) (ev_c (x := (.int 0)) (b := false) (k := 0) (fr := true)))) (sv_ret (ev_var0 (b := false) (fr := true) (i := 2) rfl)) sv_next))
    (sv_ret (ev_c (x := .none) (b := false) (k := 0) (fr := true))))⟩
  exact s.elim fun _ s => cal_phi s
noncomputable def w_law_cell_at : List PyData → VC := lift v_law_cell_at 0
theorem k_law_cell_at : CalV v_law_cell_at 0 w_law_cell_at := cal_lift
noncomputable def w_law_number : List PyData → VC := lift v_law_number 0
theorem k_law_number : CalV v_law_number 0 w_law_number := cal_lift
noncomputable def ee_law_copy_1 : VE :=
  (fLc true 2 (iSeq (fVar 0)) (.nm 1) fYes (fCB gList (fCons (fVar 1) fNil)) [1])
noncomputable def em_law_copy : VF :=
  (sRet (fPure 2 ee_law_copy_1))
noncomputable def w_law_copy : List PyData → VC := phiV [.vw] 2 em_law_copy
abbrev K_law_copy : List KD := [(true, 0), (true, 0)]
theorem k_law_copy : CalV v_law_copy 2 w_law_copy := by
  have s : ∃ A, SVp K_law_copy A false 2 m_law_copy em_law_copy := by
    delta m_law_copy em_law_copy e_law_copy_1 ee_law_copy_1
    exact ⟨_, (sv_ret (ev_pure (ev_lc (b := true) (fr := true) (iv_seq (ev_var0 (b := true) (fr := true) (i := 0) rfl)) tv_yes (ev_cb (fr := true) cv_list (av_cons (ev_var0 (b := true) (fr := true) (i := 1) rfl) av_nil)))))⟩
  exact s.elim fun _ s => cal_phi s
noncomputable def ee_law_product_1 : VE :=
  (fLc false 1 (iRng (fCons (fCB gLen (fCons (fVar 3) fNil)) fNil)) (.nm 6) fYes (fBin gMul (fBin gIx (fVar 3) (fVar 6)) (fBin gIx (fBin gIx (fVar 1) (fVar 6)) (fVar 5))) [6])
noncomputable def el_law_product_1 : VF :=
  (sFor (iRng (fCons (fCB gLen (fCons (fBin gIx (fVar 1) (fC (.int 0))) fNil)) fNil)) (.nm 5) (sExpr (fApp 4 (fCB gSum (fCons ee_law_product_1 fNil)))))
noncomputable def el_law_product_2 : VF :=
  (sFor (iSeq (fVar 0)) (.nm 3) (sSeq (sSet 4 (fLst false 1 fNil))
    (sSeq el_law_product_1
    (sExpr (fApp 2 (fMv 4))))))
noncomputable def em_law_product : VF :=
  (sSeq (sSet 2 (fLst false 1 fNil))
    (sSeq el_law_product_2
    (sRet (fMv 2))))
noncomputable def w_law_product : List PyData → VC := phiV [.vw, .vw] 7 em_law_product
abbrev K_law_product : List KD := [(true, 0), (true, 0), (false, 1), (true, 0), (false, 1), (false, 0), (false, 0)]
theorem k_law_product : CalV v_law_product 0 w_law_product := by
  have s : ∃ A, SVp K_law_product A false 0 m_law_product em_law_product := by
    delta m_law_product em_law_product l_law_product_2 l_law_product_1 e_law_product_1 el_law_product_2 el_law_product_1 ee_law_product_1
    exact ⟨_, (sv_seq (sv_set (i := 2) (xv_ev (ev_lst (fr := true) (af_nil (b := false) (k := 0)))))
    (sv_seq (sv_for (iv_seq (ev_var0 (b := true) (fr := true) (i := 0) rfl)) (sv_seq (sv_set (i := 4) (xv_ev (ev_lst (fr := true) (af_nil (b := false) (k := 0)))))
    (sv_seq (sv_for (iv_rng (b := false) (av_cons (ev_cb (b := false) (k := 0) (fr := true) cv_len (av_cons (ev_bin (b := true) (k := 0) (fr := true) (ov_ix (k1 := 0)) (ev_var0 (b := true) (fr := true) (i := 1) rfl) (ev_c (x := (.int 0)) (b := false) (k := 0) (fr := true))) av_nil)) av_nil)) (sv_expr (xv_app (bi := false) (ki := 0) (i := 4) (m := 0) (xv_ev (ev_fz0 (k := 0) (fr := true) (ev_cb (b := false) (k := 0) (fr := true) cv_sum (av_cons (ev_fz0 (k := 1) (fr := true) (ev_lc (b := false) (fr := true) (iv_rng (b := false) (av_cons (ev_cb (b := false) (k := 0) (fr := true) cv_len (av_cons (ev_var0 (b := true) (fr := true) (i := 3) rfl) av_nil)) av_nil)) tv_yes (ev_bin (b := false) (k := 0) (fr := true) ov_mul (ev_bin (b := true) (k := 0) (fr := true) (ov_ix (k1 := 0)) (ev_var0 (b := true) (fr := true) (i := 3) rfl) (ev_var0 (b := false) (fr := true) (i := 6) rfl)) (ev_bin (b := true) (k := 0) (fr := true) (ov_ix (k1 := 0)) (ev_bin (b := true) (k := 0) (fr := true) (ov_ix (k1 := 0)) (ev_var0 (b := true) (fr := true) (i := 1) rfl) (ev_var0 (b := false) (fr := true) (i := 6) rfl)) (ev_var0 (b := false) (fr := true) (i := 5) rfl))))) av_nil)))))))
    (sv_expr (xv_app (bi := false) (ki := 0) (i := 2) (m := 0) (xv_fz (k := 1) (xv_mv (b := false) (k := 1) (i := 4) rfl)))))))
    (sv_retX (xv_fz (k := 1) (xv_mv (b := false) (k := 1) (i := 2) rfl)))))⟩
  exact s.elim fun _ s => cal_phi s
noncomputable def ee_determinant_2 : VE :=
  (fLc false 1 (iSeq (fVar 0)) (.nm 7) fYes (fPure 1 (fCB gList (fCons (fVar 7) fNil))) [7])
noncomputable def ee_determinant_1 : VE :=
  (fLc false 1 (iZip (fCons (fBin gIx (fVar 1) (fVar 6)) (fCons (fBin gIx (fVar 1) (fVar 4)) fNil))) (.tp [8, 9]) fYes (fBin gFdv (fBin gSub (fBin gMul (fBin gIx (fBin gIx (fVar 1) (fVar 4)) (fVar 4)) (fVar 8)) (fBin gMul (fBin gIx (fBin gIx (fVar 1) (fVar 6)) (fVar 4)) (fVar 9))) (fVar 3)) [8, 9])
noncomputable def el_determinant_1 : VF :=
  (sFor (iRng2 (fCons (fBin gAdd (fVar 4) (fC (.int 1))) (fCons (fCB gLen (fCons (fVar 1) fNil)) fNil))) (.nm 6) (sStore 1 pVar (fVar 6) ee_determinant_1))
noncomputable def el_determinant_2 : VF :=
  (sFor (iRng (fCons (fCB gLen (fCons (fVar 1) fNil)) fNil)) (.nm 4) (sSeq (sSet 5 (fCall w_pivot_row (fCons (fVar 1) (fCons (fVar 4) fNil))))
    (sSeq (sIf (fTst (fBin gIsN (fVar 5) (fC .none))) (sRet (fC (.int 0))) sNext)
    (sSeq (sIf (fTst (fBin (gEq true) (fVar 5) (fVar 4))) (sSeq (sSwp 1 (fVar 4) (fVar 5))
    (sSet 2 (fUn gNeg (fVar 2)))) sNext)
    (sSeq el_determinant_1
    (sSet 3 (fBin gIx (fBin gIx (fVar 1) (fVar 4)) (fVar 4))))))))
noncomputable def em_determinant : VF :=
  (sSeq (sExpr (fCall w_ask_square (fCons (fVar 0) fNil)))
    (sSeq (sSet 1 ee_determinant_2)
    (sSeq (sSet 2 (fC (.int 1)))
    (sSeq (sSet 3 (fC (.int 1)))
    (sSeq el_determinant_2
    (sRet (fBin gMul (fVar 2) (fVar 3))))))))
noncomputable def w_determinant : List PyData → VC := phiV [.vw] 10 em_determinant
abbrev K_determinant : List KD := [(true, 0), (false, 1), (false, 0), (false, 0), (false, 0), (false, 0), (false, 0), (true, 0), (false, 0), (false, 0)]
theorem k_determinant : CalV v_determinant 0 w_determinant := by
  have s : ∃ A, SVp K_determinant A false 0 m_determinant em_determinant := by
    delta m_determinant em_determinant l_determinant_2 l_determinant_1 e_determinant_2 e_determinant_1 el_determinant_2 el_determinant_1 ee_determinant_1 ee_determinant_2
    exact ⟨_, (sv_seq (sv_expr (xv_ev (ev_call (k := 0) (fr := true) k_ask_square (am_vw (ev_var0 (b := true) (fr := true) (i := 0) rfl) am_nil))))
    (sv_seq (sv_set (i := 1) (xv_ev (ev_lc (b := false) (fr := true) (iv_seq (ev_var0 (b := true) (fr := true) (i := 0) rfl)) tv_yes (ev_fz0 (k := 1) (fr := true) (ev_pure (ev_cb (fr := true) cv_list (av_cons (ev_var0 (b := true) (fr := true) (i := 7) rfl) av_nil)))))))
    (sv_seq (sv_set (i := 2) (xv_ev (ev_c (x := (.int 1)) (b := false) (k := 0) (fr := true))))
    (sv_seq (sv_set (i := 3) (xv_ev (ev_c (x := (.int 1)) (b := false) (k := 0) (fr := true))))
    (sv_seq (sv_for (iv_rng (b := false) (av_cons (ev_cb (b := false) (k := 0) (fr := true) cv_len (av_cons (ev_var (b := false) (k := 1) (i := 1) rfl) av_nil)) av_nil)) (sv_seq (sv_set (i := 5) (xv_ev (ev_call (k := 0) (fr := true) k_pivot_row (am_vw (ev_var (b := false) (k := 1) (i := 1) rfl) (am_vw (ev_var0 (b := false) (fr := true) (i := 4) rfl) am_nil)))))
    (sv_seq (sv_if (tv_tst (ev_bin (b := false) (k := 0) (fr := true) ov_isN (ev_var0 (b := false) (fr := true) (i := 5) rfl) (ev_c (x := .none) (b := false) (k := 0) (fr := true)))) (sv_ret (ev_c (x := (.int 0)) (b := false) (k := 0) (fr := true))) sv_next)
    (sv_seq (sv_if (tv_tst (ev_bin (b := false) (k := 0) (fr := true) ov_eq (ev_var0 (b := false) (fr := true) (i := 5) rfl) (ev_var0 (b := false) (fr := true) (i := 4) rfl))) (sv_seq (sv_swp (l := 1) (ev_var0 (b := false) (fr := true) (i := 4) rfl) (ev_var0 (b := false) (fr := true) (i := 5) rfl))
    (sv_set (i := 2) (xv_ev (ev_un (b := false) (k := 0) (fr := true) uv_neg (ev_var0 (b := false) (fr := true) (i := 2) rfl))))) sv_next)
    (sv_seq (sv_for (iv_rng2 (b := false) (av_cons (ev_bin (b := false) (k := 0) (fr := true) ov_add (ev_var0 (b := false) (fr := true) (i := 4) rfl) (ev_c (x := (.int 1)) (b := false) (k := 0) (fr := true))) (av_cons (ev_cb (b := false) (k := 0) (fr := true) cv_len (av_cons (ev_var (b := false) (k := 1) (i := 1) rfl) av_nil)) av_nil))) (sv_store (m := 0) (pv_var (i := 1) rfl) (ev_var0 (b := false) (fr := true) (i := 6) rfl) (xv_ev (ev_fz0 (k := 1) (fr := true) (ev_lc (b := false) (fr := true) (iv_zip (b := false) (av_cons (ev_bin (b := false) (k := 0) (fr := true) (ov_ix (k1 := 1)) (ev_var (b := false) (k := 1) (i := 1) rfl) (ev_var0 (b := false) (fr := true) (i := 6) rfl)) (av_cons (ev_bin (b := false) (k := 0) (fr := true) (ov_ix (k1 := 1)) (ev_var (b := false) (k := 1) (i := 1) rfl) (ev_var0 (b := false) (fr := true) (i := 4) rfl)) av_nil))) tv_yes (ev_bin (b := false) (k := 0) (fr := true) ov_fdv (ev_bin (b := false) (k := 0) (fr := true) ov_sub (ev_bin (b := false) (k := 0) (fr := true) ov_mul (ev_bin (b := false) (k := 0) (fr := true) (ov_ix (k1 := 0)) (ev_bin (b := false) (k := 0) (fr := true) (ov_ix (k1 := 1)) (ev_var (b := false) (k := 1) (i := 1) rfl) (ev_var0 (b := false) (fr := true) (i := 4) rfl)) (ev_var0 (b := false) (fr := true) (i := 4) rfl)) (ev_var0 (b := false) (fr := true) (i := 8) rfl)) (ev_bin (b := false) (k := 0) (fr := true) ov_mul (ev_bin (b := false) (k := 0) (fr := true) (ov_ix (k1 := 0)) (ev_bin (b := false) (k := 0) (fr := true) (ov_ix (k1 := 1)) (ev_var (b := false) (k := 1) (i := 1) rfl) (ev_var0 (b := false) (fr := true) (i := 6) rfl)) (ev_var0 (b := false) (fr := true) (i := 4) rfl)) (ev_var0 (b := false) (fr := true) (i := 9) rfl))) (ev_var0 (b := false) (fr := true) (i := 3) rfl)))))))
    (sv_set (i := 3) (xv_ev (ev_bin (b := false) (k := 0) (fr := true) (ov_ix (k1 := 0)) (ev_bin (b := false) (k := 0) (fr := true) (ov_ix (k1 := 1)) (ev_var (b := false) (k := 1) (i := 1) rfl) (ev_var0 (b := false) (fr := true) (i := 4) rfl)) (ev_var0 (b := false) (fr := true) (i := 4) rfl)))))))))
    (sv_ret (ev_bin (b := false) (k := 0) (fr := true) ov_mul (ev_var0 (b := false) (fr := true) (i := 2) rfl) (ev_var0 (b := false) (fr := true) (i := 3) rfl))))))))⟩
  exact s.elim fun _ s => cal_phi s
noncomputable def w_law_big : List PyData → VC := lift v_law_big 0
theorem k_law_big : CalV v_law_big 0 w_law_big := cal_lift
noncomputable def el_law_stepped_1 : VF :=
  (sFor (iRng (fCons (fCB gLen (fCons (fBin gIx (fVar 0) (fC (.int 0))) fNil)) fNil)) (.nm 6) (sStore 5 (pIx pVar (fVar 2)) (fVar 6) (fBin gAdd (fBin gIx (fBin gIx (fVar 0) (fVar 2)) (fVar 6)) (fBin gMul (fVar 4) (fBin gIx (fBin gIx (fVar 0) (fVar 3)) (fVar 6))))))
noncomputable def el_law_stepped_2 : VF :=
  (sFor (iRng (fCons (fCB gLen (fCons (fVar 0) fNil)) fNil)) (.nm 6) (sStore 5 (pIx pVar (fVar 6)) (fVar 2) (fBin gAdd (fBin gIx (fBin gIx (fVar 0) (fVar 6)) (fVar 2)) (fBin gMul (fVar 4) (fBin gIx (fBin gIx (fVar 0) (fVar 6)) (fVar 3))))))
noncomputable def em_law_stepped : VF :=
  (sSeq (sSet 5 (fCall w_law_copy (fCons (fVar 0) fNil)))
    (sSeq (sIf (fTst (fBin (gEq false) (fVar 1) (fC (.str (PySem.Str.ofString "row"))))) el_law_stepped_1 el_law_stepped_2)
    (sRet (fMv 5))))
noncomputable def w_law_stepped : List PyData → VC := phiV [.vw, .vw, .vw, .vw, .vw] 7 em_law_stepped
abbrev K_law_stepped : List KD := [(true, 0), (true, 0), (true, 0), (true, 0), (true, 0), (false, 2), (false, 0)]
theorem k_law_stepped : CalV v_law_stepped 0 w_law_stepped := by
  have s : ∃ A, SVp K_law_stepped A false 0 m_law_stepped em_law_stepped := by
    delta m_law_stepped em_law_stepped l_law_stepped_2 l_law_stepped_1 el_law_stepped_2 el_law_stepped_1
    exact ⟨_, (sv_seq (sv_set (i := 5) (xv_ev (ev_call (k := 2) (fr := true) k_law_copy (am_vw (ev_var0 (b := true) (fr := true) (i := 0) rfl) am_nil))))
    (sv_seq (sv_if (tv_tst (ev_bin (b := false) (k := 0) (fr := true) ov_eq (ev_var0 (b := true) (fr := true) (i := 1) rfl) (ev_c (x := (.str (PySem.Str.ofString "row"))) (b := false) (k := 0) (fr := true)))) (sv_for (iv_rng (b := false) (av_cons (ev_cb (b := false) (k := 0) (fr := true) cv_len (av_cons (ev_bin (b := true) (k := 0) (fr := true) (ov_ix (k1 := 0)) (ev_var0 (b := true) (fr := true) (i := 0) rfl) (ev_c (x := (.int 0)) (b := false) (k := 0) (fr := true))) av_nil)) av_nil)) (sv_store (m := 0) (pv_ix (b := false) (i := 5) (n := 0) (m := 1) (pv_var (i := 5) rfl) (ev_var0 (b := true) (fr := true) (i := 2) rfl) rfl) (ev_var0 (b := false) (fr := true) (i := 6) rfl) (xv_ev (ev_bin (b := false) (k := 0) (fr := true) ov_add (ev_bin (b := true) (k := 0) (fr := true) (ov_ix (k1 := 0)) (ev_bin (b := true) (k := 0) (fr := true) (ov_ix (k1 := 0)) (ev_var0 (b := true) (fr := true) (i := 0) rfl) (ev_var0 (b := true) (fr := true) (i := 2) rfl)) (ev_var0 (b := false) (fr := true) (i := 6) rfl)) (ev_bin (b := false) (k := 0) (fr := true) ov_mul (ev_var0 (b := true) (fr := true) (i := 4) rfl) (ev_bin (b := true) (k := 0) (fr := true) (ov_ix (k1 := 0)) (ev_bin (b := true) (k := 0) (fr := true) (ov_ix (k1 := 0)) (ev_var0 (b := true) (fr := true) (i := 0) rfl) (ev_var0 (b := true) (fr := true) (i := 3) rfl)) (ev_var0 (b := false) (fr := true) (i := 6) rfl))))))) (sv_for (iv_rng (b := false) (av_cons (ev_cb (b := false) (k := 0) (fr := true) cv_len (av_cons (ev_var0 (b := true) (fr := true) (i := 0) rfl) av_nil)) av_nil)) (sv_store (m := 0) (pv_ix (b := false) (i := 5) (n := 0) (m := 1) (pv_var (i := 5) rfl) (ev_var0 (b := false) (fr := true) (i := 6) rfl) rfl) (ev_var0 (b := true) (fr := true) (i := 2) rfl) (xv_ev (ev_bin (b := false) (k := 0) (fr := true) ov_add (ev_bin (b := true) (k := 0) (fr := true) (ov_ix (k1 := 0)) (ev_bin (b := true) (k := 0) (fr := true) (ov_ix (k1 := 0)) (ev_var0 (b := true) (fr := true) (i := 0) rfl) (ev_var0 (b := false) (fr := true) (i := 6) rfl)) (ev_var0 (b := true) (fr := true) (i := 2) rfl)) (ev_bin (b := false) (k := 0) (fr := true) ov_mul (ev_var0 (b := true) (fr := true) (i := 4) rfl) (ev_bin (b := true) (k := 0) (fr := true) (ov_ix (k1 := 0)) (ev_bin (b := true) (k := 0) (fr := true) (ov_ix (k1 := 0)) (ev_var0 (b := true) (fr := true) (i := 0) rfl) (ev_var0 (b := false) (fr := true) (i := 6) rfl)) (ev_var0 (b := true) (fr := true) (i := 3) rfl))))))))
    (sv_retX (xv_fz (k := 2) (xv_mv (b := false) (k := 2) (i := 5) rfl)))))⟩
  exact s.elim fun _ s => cal_phi s
noncomputable def el_law_grid_1 : VF :=
  (sFor (iRng (fCons (fVar 3) fNil)) (.nm 8) (sSeq (sSetT [9, 6] (fCall w_law_number (fCons (fVar 6) fNil)))
    (sExpr (fApp 7 (fVar 9)))))
noncomputable def el_law_grid_2 : VF :=
  (sFor (iRng (fCons (fVar 2) fNil)) (.nm 5) (sSeq (sSet 6 (fCall w_law_big (fCons (fSc 0) (fCons (fBin gAdd (fVar 1) (fVar 5)) fNil))))
    (sSeq (sSet 7 (fLst false 1 fNil))
    (sSeq el_law_grid_1
    (sExpr (fApp 4 (fMv 7)))))))
noncomputable def em_law_grid : VF :=
  (sSeq (sSet 4 (fLst false 1 fNil))
    (sSeq el_law_grid_2
    (sRet (fMv 4))))
noncomputable def w_law_grid : List PyData → VC := phiV [.sc, .vw, .vw, .vw] 10 em_law_grid
abbrev K_law_grid : List KD := [(false, 0), (true, 0), (true, 0), (true, 0), (false, 1), (false, 0), (false, 0), (false, 1), (false, 0), (false, 0)]
theorem k_law_grid : CalV v_law_grid 0 w_law_grid := by
  have s : ∃ A, SVp K_law_grid A false 0 m_law_grid em_law_grid := by
    delta m_law_grid em_law_grid l_law_grid_2 l_law_grid_1 el_law_grid_2 el_law_grid_1
    exact ⟨_, (sv_seq (sv_set (i := 4) (xv_ev (ev_lst (fr := true) (af_nil (b := false) (k := 0)))))
    (sv_seq (sv_for (iv_rng (b := false) (av_cons (ev_var0 (b := true) (fr := true) (i := 2) rfl) av_nil)) (sv_seq (sv_set (i := 6) (xv_ev (ev_call (k := 0) (fr := true) k_law_big (am_sc (i := 0) (am_vw (ev_bin (b := false) (k := 0) (fr := true) ov_add (ev_var0 (b := true) (fr := true) (i := 1) rfl) (ev_var0 (b := false) (fr := true) (i := 5) rfl)) am_nil)))))
    (sv_seq (sv_set (i := 7) (xv_ev (ev_lst (fr := true) (af_nil (b := false) (k := 0)))))
    (sv_seq (sv_for (iv_rng (b := false) (av_cons (ev_var0 (b := true) (fr := true) (i := 3) rfl) av_nil)) (sv_seq (sv_setT (is := [9, 6]) (ev_call (k := 0) (fr := true) k_law_number (am_vw (ev_var0 (b := false) (fr := true) (i := 6) rfl) am_nil)))
    (sv_expr (xv_app (bi := false) (ki := 0) (i := 7) (m := 0) (xv_ev (ev_fz0 (k := 0) (fr := true) (ev_var0 (b := false) (fr := true) (i := 9) rfl)))))))
    (sv_expr (xv_app (bi := false) (ki := 0) (i := 4) (m := 0) (xv_fz (k := 1) (xv_mv (b := false) (k := 1) (i := 7) rfl))))))))
    (sv_retX (xv_fz (k := 1) (xv_mv (b := false) (k := 1) (i := 4) rfl)))))⟩
  exact s.elim fun _ s => cal_phi s
noncomputable def ee_law_1 : VE :=
  (fLc false 1 (iRng (fCons (fVar 2) fNil)) (.nm 8) fYes (fBin gIx (fBin gIx (fVar 3) (fVar 8)) (fVar 7)) [8])
noncomputable def el_law_1 : VF :=
  (sFor (iRng (fCons (fVar 2) fNil)) (.nm 7) (sExpr (fApp 6 ee_law_1)))
noncomputable def ee_law_2 : VE :=
  (fLc false 1 (iRng (fCons (fVar 2) fNil)) (.nm 7) fYes (fCB gInt (fCons (fBin (gEq false) (fVar 8) (fVar 7)) fNil)) [7])
noncomputable def el_law_2 : VF :=
  (sFor (iRng (fCons (fVar 2) fNil)) (.nm 8) (sExpr (fApp 9 ee_law_2)))
noncomputable def em_law : VF :=
  (sSeq (sSet 1 (fCall w_law_big (fCons (fSc 0) (fCons (fC (.int 0)) fNil))))
    (sSeq (sSet 2 (fBin gAdd (fC (.int 1)) (fBin gMod (fVar 1) (fC (.int 8)))))
    (sSeq (sSet 3 (fCall w_law_grid (fCons (fSc 0) (fCons (fC (.int 1)) (fCons (fVar 2) (fCons (fVar 2) fNil))))))
    (sSeq (sSet 4 (fCall w_law_grid (fCons (fSc 0) (fCons (fC (.int 9)) (fCons (fVar 2) (fCons (fVar 2) fNil))))))
    (sSeq (sSet 5 (fCall w_determinant (fCons (fCall w_law_copy (fCons (fVar 3) fNil)) fNil)))
    (sSeq (sIf (fTst (fBin (gEq true) (fCall w_determinant (fCons (fCall w_law_product (fCons (fVar 3) (fCons (fVar 4) fNil))) fNil)) (fBin gMul (fVar 5) (fCall w_determinant (fCons (fCall w_law_copy (fCons (fVar 4) fNil)) fNil))))) (sRet (fC (.bool false))) sNext)
    (sSeq (sSet 6 (fLst false 1 fNil))
    (sSeq el_law_1
    (sSeq (sIf (fTst (fBin (gEq true) (fCall w_determinant (fCons (fVar 6) fNil)) (fVar 5))) (sRet (fC (.bool false))) sNext)
    (sSeq (sSet 9 (fLst false 1 fNil))
    (sSeq el_law_2
    (sSeq (sIf (fOrT (fTst (fBin (gEq true) (fCall w_determinant (fCons (fVar 9) fNil)) (fC (.int 1)))) (fTst (fBin (gEq false) (fVar 2) (fC (.int 1))))) (sRet (fAndV (fBin (gEq false) (fVar 2) (fC (.int 1))) (fAndV (fBin (gEq false) (fCall w_determinant (fCons (fVar 9) fNil)) (fC (.int 1))) (fBin (gEq false) (fVar 5) (fBin gIx (fBin gIx (fVar 3) (fC (.int 0))) (fC (.int 0))))))) sNext)
    (sSeq (sSet 8 (fBin gMod (fBin gDiv (fVar 1) (fC (.int 8))) (fVar 2)))
    (sSeq (sSet 7 (fBin gMod (fBin gAdd (fBin gAdd (fVar 8) (fC (.int 1))) (fBin gMod (fBin gDiv (fVar 1) (fC (.int 64))) (fBin gSub (fVar 2) (fC (.int 1))))) (fVar 2)))
    (sSeq (sSetT [10, 11] (fCall w_law_number (fCons (fBin gDiv (fVar 1) (fC (.int 512))) fNil)))
    (sSeq (sSet 12 (fBin gIx (fTup (fCons (fC (.str (PySem.Str.ofString "row"))) (fCons (fC (.str (PySem.Str.ofString "column"))) fNil))) (fBin gMod (fBin gDiv (fVar 1) (fC (.int 448))) (fC (.int 2)))))
    (sSeq (sIf (fTst (fBin (gEq true) (fCall w_determinant (fCons (fCall w_law_stepped (fCons (fVar 3) (fCons (fVar 12) (fCons (fVar 8) (fCons (fVar 7) (fCons (fVar 10) fNil)))))) fNil)) (fVar 5))) (sRet (fC (.bool false))) sNext)
    (sSeq (sSet 13 (fCall w_law_copy (fCons (fVar 3) fNil)))
    (sSeq (sStore 13 pVar (fVar 8) (fCB gList (fCons (fBin gIx (fVar 3) (fVar 7)) fNil)))
    (sSeq (sStore 13 pVar (fVar 7) (fCB gList (fCons (fBin gIx (fVar 3) (fVar 8)) fNil)))
    (sRet (fBin (gEq false) (fCall w_determinant (fCons (fVar 13) fNil)) (fBin gSub (fC (.int 0)) (fVar 5))))))))))))))))))))))))
noncomputable def w_law : List PyData → VC := phiV [.sc] 14 em_law
abbrev K_law : List KD := [(false, 0), (false, 0), (false, 0), (false, 0), (false, 0), (false, 0), (false, 1), (false, 0), (false, 0), (false, 1), (false, 0), (false, 0), (false, 0), (false, 2)]
theorem k_law : CalV v_law 0 w_law := by
  have s : ∃ A, SVp K_law A false 0 m_law em_law := by
    delta m_law em_law l_law_2 l_law_1 e_law_2 e_law_1 el_law_2 ee_law_2 el_law_1 ee_law_1
    exact ⟨_, (sv_seq (sv_set (i := 1) (xv_ev (ev_call (k := 0) (fr := true) k_law_big (am_sc (i := 0) (am_vw (ev_c (x := (.int 0)) (b := false) (k := 0) (fr := true)) am_nil)))))
    (sv_seq (sv_set (i := 2) (xv_ev (ev_bin (b := false) (k := 0) (fr := true) ov_add (ev_c (x := (.int 1)) (b := false) (k := 0) (fr := true)) (ev_bin (b := false) (k := 0) (fr := true) ov_mod (ev_var0 (b := false) (fr := true) (i := 1) rfl) (ev_c (x := (.int 8)) (b := false) (k := 0) (fr := true))))))
    (sv_seq (sv_set (i := 3) (xv_ev (ev_call (k := 0) (fr := true) k_law_grid (am_sc (i := 0) (am_vw (ev_c (x := (.int 1)) (b := false) (k := 0) (fr := true)) (am_vw (ev_var0 (b := false) (fr := true) (i := 2) rfl) (am_vw (ev_var0 (b := false) (fr := true) (i := 2) rfl) am_nil)))))))
    (sv_seq (sv_set (i := 4) (xv_ev (ev_call (k := 0) (fr := true) k_law_grid (am_sc (i := 0) (am_vw (ev_c (x := (.int 9)) (b := false) (k := 0) (fr := true)) (am_vw (ev_var0 (b := false) (fr := true) (i := 2) rfl) (am_vw (ev_var0 (b := false) (fr := true) (i := 2) rfl) am_nil)))))))
    (sv_seq (sv_set (i := 5) (xv_ev (ev_call (k := 0) (fr := true) k_determinant (am_vw (ev_call (k := 2) (fr := true) k_law_copy (am_vw (ev_var0 (b := false) (fr := true) (i := 3) rfl) am_nil)) am_nil))))
    (sv_seq (sv_if (tv_tst (ev_bin (b := false) (k := 0) (fr := true) ov_eq (ev_call (k := 0) (fr := true) k_determinant (am_vw (ev_call (k := 0) (fr := true) k_law_product (am_vw (ev_var0 (b := false) (fr := true) (i := 3) rfl) (am_vw (ev_var0 (b := false) (fr := true) (i := 4) rfl) am_nil))) am_nil)) (ev_bin (b := false) (k := 0) (fr := true) ov_mul (ev_var0 (b := false) (fr := true) (i := 5) rfl) (ev_call (k := 0) (fr := true) k_determinant (am_vw (ev_call (k := 2) (fr := true) k_law_copy (am_vw (ev_var0 (b := false) (fr := true) (i := 4) rfl) am_nil)) am_nil))))) (sv_ret (ev_c (x := (.bool false)) (b := false) (k := 0) (fr := true))) sv_next)
    (sv_seq (sv_set (i := 6) (xv_ev (ev_lst (fr := true) (af_nil (b := false) (k := 0)))))
    (sv_seq (sv_for (iv_rng (b := false) (av_cons (ev_var0 (b := false) (fr := true) (i := 2) rfl) av_nil)) (sv_expr (xv_app (bi := false) (ki := 0) (i := 6) (m := 0) (xv_ev (ev_fz0 (k := 1) (fr := true) (ev_lc (b := false) (fr := true) (iv_rng (b := false) (av_cons (ev_var0 (b := false) (fr := true) (i := 2) rfl) av_nil)) tv_yes (ev_bin (b := false) (k := 0) (fr := true) (ov_ix (k1 := 0)) (ev_bin (b := false) (k := 0) (fr := true) (ov_ix (k1 := 0)) (ev_var0 (b := false) (fr := true) (i := 3) rfl) (ev_var0 (b := false) (fr := true) (i := 8) rfl)) (ev_var0 (b := false) (fr := true) (i := 7) rfl))))))))
    (sv_seq (sv_if (tv_tst (ev_bin (b := false) (k := 0) (fr := true) ov_eq (ev_call (k := 0) (fr := true) k_determinant (am_vw (ev_var (b := false) (k := 1) (i := 6) rfl) am_nil)) (ev_var0 (b := false) (fr := true) (i := 5) rfl))) (sv_ret (ev_c (x := (.bool false)) (b := false) (k := 0) (fr := true))) sv_next)
    (sv_seq (sv_set (i := 9) (xv_ev (ev_lst (fr := true) (af_nil (b := false) (k := 0)))))
    (sv_seq (sv_for (iv_rng (b := false) (av_cons (ev_var0 (b := false) (fr := true) (i := 2) rfl) av_nil)) (sv_expr (xv_app (bi := false) (ki := 0) (i := 9) (m := 0) (xv_ev (ev_fz0 (k := 1) (fr := true) (ev_lc (b := false) (fr := true) (iv_rng (b := false) (av_cons (ev_var0 (b := false) (fr := true) (i := 2) rfl) av_nil)) tv_yes (ev_cb (b := false) (k := 0) (fr := true) cv_int (av_cons (ev_bin (b := false) (k := 0) (fr := true) ov_eq (ev_var0 (b := false) (fr := true) (i := 8) rfl) (ev_var0 (b := false) (fr := true) (i := 7) rfl)) av_nil))))))))
    (sv_seq (sv_if (tv_or (tv_tst (ev_bin (b := false) (k := 0) (fr := true) ov_eq (ev_call (k := 0) (fr := true) k_determinant (am_vw (ev_var (b := false) (k := 1) (i := 9) rfl) am_nil)) (ev_c (x := (.int 1)) (b := false) (k := 0) (fr := true)))) (tv_tst (ev_bin (b := false) (k := 0) (fr := true) ov_eq (ev_var0 (b := false) (fr := true) (i := 2) rfl) (ev_c (x := (.int 1)) (b := false) (k := 0) (fr := true))))) (sv_ret (ev_and (fr := true) (ev_bin (b := false) (k := 0) (fr := true) ov_eq (ev_var0 (b := false) (fr := true) (i := 2) rfl) (ev_c (x := (.int 1)) (b := false) (k := 0) (fr := true))) (ev_and (fr := true) (ev_bin (b := false) (k := 0) (fr := true) ov_eq (ev_call (k := 0) (fr := true) k_determinant (am_vw (ev_var (b := false) (k := 1) (i := 9) rfl) am_nil)) (ev_c (x := (.int 1)) (b := false) (k := 0) (fr := true))) (ev_bin (b := false) (k := 0) (fr := true) ov_eq (ev_var0 (b := false) (fr := true) (i := 5) rfl) (ev_bin (b := false) (k := 0) (fr := true) (ov_ix (k1 := 0)) (ev_bin (b := false) (k := 0) (fr := true) (ov_ix (k1 := 0)) (ev_var0 (b := false) (fr := true) (i := 3) rfl) (ev_c (x := (.int 0)) (b := false) (k := 0) (fr := true))) (ev_c (x := (.int 0)) (b := false) (k := 0) (fr := true))))))) sv_next)
    (sv_seq (sv_set (i := 8) (xv_ev (ev_bin (b := false) (k := 0) (fr := true) ov_mod (ev_bin (b := false) (k := 0) (fr := true) ov_div (ev_var0 (b := false) (fr := true) (i := 1) rfl) (ev_c (x := (.int 8)) (b := false) (k := 0) (fr := true))) (ev_var0 (b := false) (fr := true) (i := 2) rfl))))
    (sv_seq (sv_set (i := 7) (xv_ev (ev_bin (b := false) (k := 0) (fr := true) ov_mod (ev_bin (b := false) (k := 0) (fr := true) ov_add (ev_bin (b := false) (k := 0) (fr := true) ov_add (ev_var0 (b := false) (fr := true) (i := 8) rfl) (ev_c (x := (.int 1)) (b := false) (k := 0) (fr := true))) (ev_bin (b := false) (k := 0) (fr := true) ov_mod (ev_bin (b := false) (k := 0) (fr := true) ov_div (ev_var0 (b := false) (fr := true) (i := 1) rfl) (ev_c (x := (.int 64)) (b := false) (k := 0) (fr := true))) (ev_bin (b := false) (k := 0) (fr := true) ov_sub (ev_var0 (b := false) (fr := true) (i := 2) rfl) (ev_c (x := (.int 1)) (b := false) (k := 0) (fr := true))))) (ev_var0 (b := false) (fr := true) (i := 2) rfl))))
    (sv_seq (sv_setT (is := [10, 11]) (ev_call (k := 0) (fr := true) k_law_number (am_vw (ev_bin (b := false) (k := 0) (fr := true) ov_div (ev_var0 (b := false) (fr := true) (i := 1) rfl) (ev_c (x := (.int 512)) (b := false) (k := 0) (fr := true))) am_nil)))
    (sv_seq (sv_set (i := 12) (xv_ev (ev_bin (b := false) (k := 0) (fr := true) (ov_ix (k1 := 0)) (ev_tup (fr := true) (n := 2) (av_cons (ev_c (x := (.str (PySem.Str.ofString "row"))) (b := false) (k := 0) (fr := true)) (av_cons (ev_c (x := (.str (PySem.Str.ofString "column"))) (b := false) (k := 0) (fr := true)) av_nil))) (ev_bin (b := false) (k := 0) (fr := true) ov_mod (ev_bin (b := false) (k := 0) (fr := true) ov_div (ev_var0 (b := false) (fr := true) (i := 1) rfl) (ev_c (x := (.int 448)) (b := false) (k := 0) (fr := true))) (ev_c (x := (.int 2)) (b := false) (k := 0) (fr := true))))))
    (sv_seq (sv_if (tv_tst (ev_bin (b := false) (k := 0) (fr := true) ov_eq (ev_call (k := 0) (fr := true) k_determinant (am_vw (ev_call (k := 0) (fr := true) k_law_stepped (am_vw (ev_var0 (b := false) (fr := true) (i := 3) rfl) (am_vw (ev_var0 (b := false) (fr := true) (i := 12) rfl) (am_vw (ev_var0 (b := false) (fr := true) (i := 8) rfl) (am_vw (ev_var0 (b := false) (fr := true) (i := 7) rfl) (am_vw (ev_var0 (b := false) (fr := true) (i := 10) rfl) am_nil)))))) am_nil)) (ev_var0 (b := false) (fr := true) (i := 5) rfl))) (sv_ret (ev_c (x := (.bool false)) (b := false) (k := 0) (fr := true))) sv_next)
    (sv_seq (sv_set (i := 13) (xv_ev (ev_call (k := 2) (fr := true) k_law_copy (am_vw (ev_var0 (b := false) (fr := true) (i := 3) rfl) am_nil))))
    (sv_seq (sv_store (m := 1) (pv_var (i := 13) rfl) (ev_var0 (b := false) (fr := true) (i := 8) rfl) (xv_ev (ev_cb (fr := true) cv_list (av_cons (ev_bin (b := false) (k := 0) (fr := true) (ov_ix (k1 := 0)) (ev_var0 (b := false) (fr := true) (i := 3) rfl) (ev_var0 (b := false) (fr := true) (i := 7) rfl)) av_nil))))
    (sv_seq (sv_store (m := 1) (pv_var (i := 13) rfl) (ev_var0 (b := false) (fr := true) (i := 7) rfl) (xv_ev (ev_cb (fr := true) cv_list (av_cons (ev_bin (b := false) (k := 0) (fr := true) (ov_ix (k1 := 0)) (ev_var0 (b := false) (fr := true) (i := 3) rfl) (ev_var0 (b := false) (fr := true) (i := 8) rfl)) av_nil))))
    (sv_ret (ev_bin (b := false) (k := 0) (fr := true) ov_eq (ev_call (k := 0) (fr := true) k_determinant (am_vw (ev_var (b := false) (k := 2) (i := 13) rfl) am_nil)) (ev_bin (b := false) (k := 0) (fr := true) ov_sub (ev_c (x := (.int 0)) (b := false) (k := 0) (fr := true)) (ev_var0 (b := false) (fr := true) (i := 5) rfl))))))))))))))))))))))))⟩
  exact s.elim fun _ s => cal_phi s
end Gn.V

namespace Gn.V
open PySem PySem.Spec L2 Zx.V
open Zx (SV AO AH FE FA FT FS Md Bd It1 Src O RpS En Wd inB iAdd iSub imm immL nod mulB divB modB powB lim flatD flatL isTy cutX kD opt o_some o_none eI eG Fn FnL Fn_int Fn_bool Fn_none Fn_lst Fn_eI Fn_eG FnL_map FnL_of FnL_nil FnL_cons Fn_tup eqv_refl intsD intsD_ok is_ii is_ib is_bb is_bi is_ll is_tt is_lt is_tl Sq gsum atI_0 atI_in ixN_in atI_map inB_lt wide_mul eqvAll_ints shaped_int)
local macro_rules | `(tactic| walk_at "wd") => `(tactic| first | omega | assumption | with_unfolding_all (simp only [List.length_cons, List.length_nil, List.length_map, List.length_range, List.length_append, Nat.reduceAdd, Nat.reduceLeDiff, Nat.le_refl, Nat.zero_le, decide_true]; done) | (simp only [List.length_cons, List.length_nil, List.length_map, List.length_range, List.length_append] <;> omega))
local macro_rules | `(tactic| walk_at "w") => `(tactic| simp (disch := walk_at "wd") only [u_phi, t_nx, t_rt, t_bk, t_ct, t_rz, h_rt, h_nx, h_rz, d_ok, d_rz, d_st, e_ok, e_rz, e_st, u_seq, u_set, u_if, u_expr, u_ret, u_retN, u_next, u_break, u_cont, u_raise, u_setT, u_par, u_var, u_mv, u_c, u_bin, u_un, u_tst, tst_b, u_andT, u_orT, u_notT, u_yes, u_andV, u_orV, u_notV, u_if', u_chain, u_nil, u_cons, u_lst, u_tup, u_imm, u_pure, u_cb, u_call, bk_ok, bk_rz, u_sc, u_isi, o_add, o_sub, o_div, o_mod, o_lt, o_le, o_gt, o_ge, o_eq, o_ne, o_neg, o_len, o_lent, o_ix, o_ixt, o_ixO, o_isN, o_notN, o_min, o_max, o_abs, o_int, o_intb, o_list, o_listt, o_tuple, o_sum, o_bools, u_dct, u_din, u_dget, o_lenD, p_var, p_ix, u_store, u_augS, u_app, capp_ok, lcEnd_some, u_mt, ge_nil, ge_c, pt_nil, u_dstore, u_aug, u_tryAs, u_tryO, tA_nx, tA_bk, tA_ct, tA_rt, tO_nx, tO_bk, tO_ct, tO_rt, eA_rt, eO_rt, vk_1, vAny_0, vAny_t, vAny_f, u_exi, exv_ex, o_lrev, keyP_i, toL_dK, at_c0, at_c1, at_c2, u_dctO, o_ixOt, u_forOwnP, u_irng, u_irng2, g1_ok, g2_ok, u_iseq, u_itup, u_ienu, u_izip, rng_len, u_for, u_forVar, u_forOwn, u_forF, u_while, u_lc, u_lcVar, u_lcEV, u_lcOwn, u_lcMv, f_nx, f_ct, f_bk, f_rt, f_rz, rs_un, rs_v, rs_sc, rs_nil, gv_v, gl_l, gn_i, rv_k, o_some, o_none, startV, argV, intsD_ok, List.replicate, turn_eq, at_rng, o_dini, Bool.bne_false, Bool.false_bne, Bool.xor_false, Bool.false_xor, goV, setAllV, lc1_eq, rt_k, wipeV, tyP, is_ii, is_ib, is_bb, is_bi, is_ll, is_tt, is_lt, is_tl, isNo, List.getElem?_cons_zero, List.getElem?_cons_succ, List.set_cons_zero, List.set_cons_succ, List.length_cons, List.length_nil, List.length_map, List.length_range, List.map_nil, List.map_cons, if_true, if_false, reduceIte, Bool.false_eq_true, Bool.true_eq_false, decide_eq_true_eq, Bool.not_true, Bool.not_false, List.cons_append, List.nil_append, Int.reduceLT, Int.reduceLE, Int.reduceNeg, Nat.reduceAdd, Nat.reduceLeDiff, Int.reduceToNat, Nat.le_refl, Nat.zero_le, Int.ofNat_eq_natCast, Bool.and_self, Bool.and_true, Bool.true_and, Bool.or_false, Bool.or_true, Bool.and_false, Bool.false_or, Bool.true_or, Bool.false_and, decide_true, decide_false, id_eq, Int.toNat_natCast, Option.map_some, Option.map_none, Option.isSome_some, Option.isSome_none, Int.zero_add])
theorem big_v {ns : List Int} {k : Int} (h0 : 0 ≤ k) : ∃ b, 0 ≤ b ∧ w_law_big [eI ns, .int k] = .ok (.int b) := by
  obtain ⟨b, hb, e⟩ := big_eq (ns := ns) h0
  exact ⟨b, hb, lift_d e⟩
theorem number_v {b : Int} (hb : 0 ≤ b) : ∃ x b' : Int, -p30 ≤ x ∧ x ≤ p30 ∧ 0 ≤ b' ∧ w_law_number [.int b] = .ok (.tuple [.int x, .int b']) := by
  obtain ⟨x, b', h1, h2, h3, e⟩ := number_eq hb
  exact ⟨x, b', h1, h2, h3, lift_d e⟩
theorem at_Rv {g : List (List Int)} {k : Nat} (h : k < g.length) : atI (g.map eI) (k : Int) = some (eI (getR g k)) := by
  have := at_R (g := g) h
  rwa [Int.zero_add] at this
theorem at_Iv {v : List Int} {k : Nat} (h : k < v.length) : atI (v.map PyData.int) (k : Int) = some (.int (getI v k)) := by
  have := at_I (v := v) h
  rwa [Int.zero_add] at this
theorem row_len {n k : Nat} {g : List (List Int)} (s : Sq n g) (h : k < n) : (getR g k).length = n := by
  obtain ⟨r, e, hr, hl⟩ := s.get h
  unfold getR
  rw [e]; exact hl
/-! ## tables by value: the places but one -/
theorem imm_bool {b : Bool} : imm (.bool b) = true := by unfold imm; rfl
theorem imm_str {x : Str} : imm (.str x) = true := by unfold imm; rfl
theorem Fn_str {k : Nat} {x : Str} (h : PyData.strOk x = true) : Fn k (.str x) := ⟨by unfold nod; rfl, by unfold PyData.canLay0; exact h, by unfold PyData.depth; exact Nat.zero_le _⟩
theorem pure_eI {v : List Int} : pureK 1 (eI v) = true := pure_lst fun d h => by
  obtain ⟨k, _, rfl⟩ := List.mem_map.mp h
  exact imm_int
theorem pureL_all {k : Nat} : ∀ {ds : List PyData}, (∀ d ∈ ds, pureK k d = true) → pureL k ds = true
  | [], _ => by unfold pureL; rfl
  | d :: ds, h => by
    unfold pureL
    rw [h d List.mem_cons_self, pureL_all fun x m => h x (List.mem_cons_of_mem _ m)]; rfl
theorem pure_lsK {k : Nat} {ds : List PyData} (h : ∀ d ∈ ds, pureK k d = true) : pureK (k + 1) (.list ds) = true := by
  unfold pureK
  exact pureL_all h
theorem pure_eG {g : List (List Int)} : pureK 2 (eG g) = true := pure_lsK fun d h => by
  obtain ⟨k, _, rfl⟩ := List.mem_map.mp h
  exact pure_eI
theorem rows_rng {n : Nat} {g : List (List Int)} (hl : g.length = n) {α : Type} {f : List Int → α} : g.map f = (List.range n).map fun i => f (getR g i) := by
  apply List.ext_getElem?
  intro i
  rw [List.getElem?_map, List.getElem?_map]
  by_cases h : i < n
  · rw [List.getElem?_range h]
    unfold getR
    have hi : i < g.length := by omega
    rw [Option.map_some, List.getElem?_eq_getElem hi]; rfl
  · rw [List.getElem?_eq_none (by omega), List.getElem?_eq_none (by rw [List.length_range]; omega)]; rfl
theorem row_rng {n : Nat} {v : List Int} (hl : v.length = n) : v = (List.range n).map fun k => getI v k := by
  apply List.ext_getElem?
  intro i
  rw [List.getElem?_map]
  by_cases h : i < n
  · rw [List.getElem?_range h]
    unfold getI
    have hi : i < v.length := by omega
    rw [Option.map_some, List.getElem?_eq_getElem hi]; rfl
  · rw [List.getElem?_eq_none (by omega), List.getElem?_eq_none (by rw [List.length_range]; omega)]; rfl
theorem grid_rng {n : Nat} {g : List (List Int)} (s : Sq n g) : g = (List.range n).map fun i => (List.range n).map fun k => getG g i k := by
  have := rows_rng (f := id) s.len
  rw [List.map_id] at this
  conv => lhs; rw [this]
  refine List.map_congr_left fun i hi => ?_
  exact row_rng (row_len s (List.mem_range.mp hi))
theorem getG_mem {n i k : Nat} {g : List (List Int)} (s : Sq n g) (hi : i < n) (hk : k < n) : ∃ r ∈ g, r.length = n ∧ getR g i = r ∧ getG g i k ∈ r := by
  obtain ⟨r, e, hr, hl⟩ := s.get hi
  have er : getR g i = r := by unfold getR; rw [e]; rfl
  refine ⟨r, hr, hl, er, ?_⟩
  unfold getG
  rw [er]
  exact getI_in (by omega)
theorem getG_nn {n i k : Nat} {g : List (List Int)} (s : Sq n g) (hi : i < n) (hk : k < n) : 0 ≤ getG g i k := by
  obtain ⟨r, hr, _, _, m⟩ := getG_mem s hi hk
  exact s.nn r hr _ m
theorem sum_nn : ∀ {r : List Int}, (∀ x ∈ r, 0 ≤ x) → 0 ≤ r.sum
  | [], _ => by simp
  | x :: r, h => by
    rw [List.sum_cons]
    have := h x List.mem_cons_self
    have := sum_nn fun y m => h y (List.mem_cons_of_mem _ m)
    omega
theorem le_sum : ∀ {r : List Int} {x : Int}, (∀ x ∈ r, 0 ≤ x) → x ∈ r → x ≤ r.sum
  | y :: r, x, h, m => by
    rw [List.sum_cons]
    have hy := h y List.mem_cons_self
    have hs := sum_nn fun y m => h y (List.mem_cons_of_mem _ m)
    rcases List.mem_cons.mp m with rfl | m
    · omega
    · have := le_sum (fun y m => h y (List.mem_cons_of_mem _ m)) m
      omega
theorem getG_le {n i k : Nat} {g : List (List Int)} (s : Sq n g) (hi : i < n) (hk : k < n) : getG g i k ≤ gsum g := by
  obtain ⟨r, hr, _, _, m⟩ := getG_mem s hi hk
  have h1 := le_sum (s.nn r hr) m
  have h2 : r.sum ≤ gsum g := by
    unfold gsum
    refine le_sum (fun x hx => ?_) (List.mem_map.mpr ⟨r, hr, rfl⟩)
    obtain ⟨q, hq, rfl⟩ := List.mem_map.mp hx
    exact sum_nn (s.nn q hq)
  omega
theorem mul_small {i j : Int} (hi : -1000000 ≤ i) (hi2 : i ≤ 1000000) (hj : -1000000 ≤ j) (hj2 : j ≤ 1000000) : mulB i j = true := Zx.wide_mul 20 20 (by decide) (by decide) (by omega) (by omega) (by decide)
def left (n p : Nat) : List Nat := (List.range n).filter fun i => !decide (i = p)
theorem left_split {n p : Nat} (h : p < n) : (List.range n).take p ++ (List.range n).drop (p + 1) = left n p := by
  unfold left
  have e : List.range n = (List.range n).take p ++ ([p] ++ (List.range n).drop (p + 1)) := by
    conv => lhs; rw [← List.take_append_drop p (List.range n)]
    congr 1
    rw [List.drop_eq_getElem_cons (by rw [List.length_range]; exact h), List.getElem_range]; rfl
  conv => rhs; rw [e]
  rw [List.filter_append, List.filter_append]
  have h1 : ((List.range n).take p).filter (fun i => !decide (i = p)) = (List.range n).take p := by
    rw [List.filter_eq_self]
    intro a ha
    rw [List.take_range] at ha
    have := List.mem_range.mp ha
    have : ¬ a = p := by omega
    simp [this]
  have h2 : ([p] : List Nat).filter (fun i => !decide (i = p)) = [] := by simp
  have h3 : ((List.range n).drop (p + 1)).filter (fun i => !decide (i = p)) = (List.range n).drop (p + 1) := by
    rw [List.filter_eq_self]
    intro a ha
    obtain ⟨k, hk, rfl⟩ := List.getElem_of_mem ha
    rw [List.getElem_drop, List.getElem_range]
    have : ¬ p + 1 + k = p := by omega
    simp [this]
  rw [h1, h2, h3, List.nil_append]
theorem cut_map {α : Type} {n p : Nat} {F : Nat → α} (h : p < n) : ((List.range n).map F).take p ++ ((List.range n).map F).drop (p + 1) = (left n p).map F := by
  rw [← List.map_take, ← List.map_drop, ← List.map_append, left_split h]
theorem left_lt {n p i : Nat} (h : i ∈ left n p) : i < n ∧ i ≠ p := by
  unfold left at h
  have := List.mem_filter.mp h
  refine ⟨List.mem_range.mp this.1, fun e => ?_⟩
  subst e
  simp at this
theorem left_len {n p : Nat} : (left n p).length ≤ n := by
  have := List.length_filter_le (fun i => !decide (i = p)) (List.range n)
  rw [List.length_range] at this
  exact this
/-- the program's own numbers of a place: 0 <= p < n as a natural number -/
theorem nat_of {p : Int} {n : Nat} (h : 0 ≤ p ∧ p < n) : ∃ q : Nat, p = q ∧ q < n := ⟨p.toNat, by omega, by omega⟩
theorem cutX_lo {α : Type} {xs : List α} {a : Nat} : cutX xs none (some (a : Int)) = xs.take a := by
  rw [cut_lo (by omega)]; simp
theorem cutX_hi {α : Type} {xs : List α} {a : Nat} : cutX xs (some (a : Int)) none = xs.drop a := by
  rw [cut_hi (by omega)]; simp
theorem o_slice {ds : List PyData} {ga : VE} {gl gh : VOo} {vs : List VS} {lo hi : Option Int} (e : ga vs = .ok (.list ds) vs) (e1 : gl vs = .ok lo vs) (e2 : gh vs = .ok hi vs) : fSlice ga gl gh vs = .ok (.list (cutX ds lo hi)) vs := by
  unfold fSlice
  rw [e]
  show (gl vs).bind _ = _
  rw [e1]
  show (gh vs).bind _ = _
  rw [e2]; rfl
theorem u_slice {ga : VE} {gl gh : VOo} {vs : List VS} : fSlice ga gl gh vs = (ga vs).bind fun x vs => (gl vs).bind fun lo vs => (gh vs).bind fun hi vs => Zx.V.gl x (fun ds => .ok (.list (cutX ds lo hi)) vs) .st := by
  unfold fSlice Zx.V.gl
  congr 1
theorem o_oNo {vs : List VS} : oNo vs = .ok none vs := rfl
theorem u_oSome {ga : VE} {vs : List VS} : oSome ga vs = (ga vs).bind fun x vs => gn x (fun i => .ok (some i) vs) .st := by
  unfold oSome gn
  congr 1
theorem cat_ok {b : Bool} {xs ys : List PyData} {vs : List VS} (h : xs.length + ys.length < 1000000) : gCat b (.list xs) (.list ys) vs = .ok (.list (xs ++ ys)) vs := o_cat h
theorem if_t {α : Type} {c : Bool} {a b : α} (h : c = true) : (if c = true then a else b) = a := if_pos h
theorem for_lstE {vs0 : List VS} {bd : Bd} {body : VF} {n : Nat} {w : Nat → VI} {f : Nat → List VS} {vs : List VS} (h0 : f 0 = vs) (h : ∀ i, i < n → ∀ K, turnV vs0 bd body (w i) (f i) K = K (f (i + 1))) : forV vs0 bd body ((List.range n).map w) vs = .nx (f n) := by
  subst h0
  have := for_run (vs0 := vs0) (bd := bd) (body := body) (f := f) (its := (List.range n).map w) (i := 0) fun j it e K => by
    rw [List.getElem?_map] at e
    by_cases hj : j < n
    · rw [List.getElem?_range hj] at e
      cases e
      rw [Nat.zero_add]
      exact h j hj K
    · rw [List.getElem?_eq_none (by rw [List.length_range]; omega)] at e
      cases e
  rw [this, List.length_map, List.length_range, Nat.zero_add]
theorem eI_lst {α : Type} {l : List α} {f : α → Int} : eI (l.map f) = .list (l.map fun k => .int (f k)) := by
  unfold eI
  rw [List.map_map]; rfl
theorem eG_lst {α : Type} {l : List α} {f : α → List Int} : eG (l.map f) = .list (l.map fun k => eI (f k)) := by
  unfold eG
  rw [List.map_map]; rfl
theorem map_s {α : Type} {i : Nat} {F : Nat → α} : (List.range (i + 1)).map F = (List.range i).map F ++ [F i] := by
  rw [List.range_succ, List.map_append]; rfl
theorem for_out {Q : VI → Prop} {vs0 : List VS} {bd : Bd} {body : VF} {vs : List VS} {o : VO} : ∀ {its : List VI}, (∀ it ∈ its, (Q it ∧ ∀ K, turnV vs0 bd body it vs K = o) ∨ (¬ Q it ∧ ∀ K, turnV vs0 bd body it vs K = K vs)) → ((∃ it ∈ its, Q it) ∧ forV vs0 bd body its vs = o) ∨ ((∀ it ∈ its, ¬ Q it) ∧ forV vs0 bd body its vs = .nx vs)
  | [], _ => .inr ⟨(fun _ m => by cases m), rfl⟩
  | it :: its, h => by
    rcases h it List.mem_cons_self with ⟨q, e⟩ | ⟨q, e⟩
    · exact .inl ⟨⟨it, List.mem_cons_self, q⟩, by rw [for_c, e]⟩
    · rcases for_out (its := its) fun i m => h i (List.mem_cons_of_mem _ m) with ⟨⟨i, m, qi⟩, e2⟩ | ⟨qn, e2⟩
      · exact .inl ⟨⟨i, List.mem_cons_of_mem _ m, qi⟩, by rw [for_c, e, e2]⟩
      · refine .inr ⟨fun i m => ?_, by rw [for_c, e, e2]⟩
        rcases List.mem_cons.mp m with rfl | m
        · exact q
        · exact qn i m
/-- over range(n): the first turn that ends ends the loop -/
theorem for_rngO {Q : Nat → Prop} {vs0 : List VS} {bd : Bd} {body : VF} {vs : List VS} {o : VO} {n : Nat} (h : ∀ i, i < n → (Q i ∧ ∀ K, turnV vs0 bd body (.one (.int (0 + (i : Nat)))) vs K = o) ∨ (¬ Q i ∧ ∀ K, turnV vs0 bd body (.one (.int (0 + (i : Nat)))) vs K = K vs)) : ((∃ i, i < n ∧ Q i) ∧ forV vs0 bd body (rngV 0 n) vs = o) ∨ ((∀ i, i < n → ¬ Q i) ∧ forV vs0 bd body (rngV 0 n) vs = .nx vs) := by
  have := for_out (Q := fun it => ∃ i, i < n ∧ it = .one (.int (0 + (i : Nat))) ∧ Q i) (vs0 := vs0) (bd := bd) (body := body) (vs := vs) (o := o) (its := rngV 0 n) fun it m => by
    obtain ⟨i, hi, rfl⟩ := rng_mem m
    rcases h i hi with ⟨q, e⟩ | ⟨q, e⟩
    · exact .inl ⟨⟨i, hi, rfl, q⟩, e⟩
    · refine .inr ⟨fun ⟨j, hj, ej, qj⟩ => q ?_, e⟩
      have : j = i := by
        injection ej with ej
        injection ej with ej
        omega
      exact this ▸ qj
  rcases this with ⟨⟨it, m, i, hi, _, q⟩, e⟩ | ⟨q, e⟩
  · exact .inl ⟨⟨i, hi, q⟩, e⟩
  · refine .inr ⟨fun i hi qi => q (.one (.int (0 + (i : Nat)))) ?_ ⟨i, hi, rfl, qi⟩, e⟩
    unfold rngV
    exact List.mem_map.mpr ⟨i, List.mem_range.mpr hi, rfl⟩
theorem ne_nilI {l : List Int} {vs : List VS} : gEq true (.list (l.map PyData.int)) (.list []) vs = .ok (.bool (!l.isEmpty)) vs := by
  rw [eq_fn (Fn.mono (Fn_lst (k := 0) (FnL_map fun _ _ => Fn_int)) (by decide)) (Fn_lst FnL_nil), Zx.eqv_nil]
  cases l <;> rfl
theorem o_minL {l : List Int} {vs : List VS} (h : l ≠ []) : gMinL [.list (l.map PyData.int)] vs = .ok (.int (Zx.lmin l)) vs := by
  cases l with
  | nil => exact absurd rfl h
  | cons a l =>
    unfold gMinL
    dsimp only
    rw [intsD_ok]
theorem o_maxL {l : List Int} {vs : List VS} (h : l ≠ []) : gMaxL [.list (l.map PyData.int)] vs = .ok (.int (Zx.lmax l)) vs := by
  cases l with
  | nil => exact absurd rfl h
  | cons a l =>
    unfold gMaxL
    dsimp only
    rw [intsD_ok]
def putL {α : Type} (l : List α) (p : Nat) (x : α) : List α := l.take p ++ [x] ++ l.drop p
theorem putL_len {α : Type} {l : List α} {p : Nat} {x : α} (h : p ≤ l.length) : (putL l p x).length = l.length + 1 := by
  unfold putL
  rw [List.length_append, List.length_append, List.length_take, List.length_drop, List.length_singleton]
  omega
theorem putL_map {α β : Type} {l : List α} {p : Nat} {x : α} {f : α → β} : (putL l p x).map f = putL (l.map f) p (f x) := by
  unfold putL
  rw [List.map_append, List.map_append, List.map_take, List.map_drop]; rfl
/-- the same, the outcome of the turn that ends by its number -/
theorem for_rngX {Q : Nat → Prop} {vs0 : List VS} {bd : Bd} {body : VF} {vs : List VS} {o : Nat → VO} : ∀ {n : Nat}, (∀ i, i < n → (Q i ∧ ∀ K, turnV vs0 bd body (.one (.int (0 + (i : Nat)))) vs K = o i) ∨ (¬ Q i ∧ ∀ K, turnV vs0 bd body (.one (.int (0 + (i : Nat)))) vs K = K vs)) → (∃ i, i < n ∧ Q i ∧ forV vs0 bd body (rngV 0 n) vs = o i) ∨ ((∀ i, i < n → ¬ Q i) ∧ forV vs0 bd body (rngV 0 n) vs = .nx vs) := by
  have gen : ∀ (n k : Nat), (∀ i, k ≤ i → i < k + n → (Q i ∧ ∀ K, turnV vs0 bd body (.one (.int (0 + (i : Nat)))) vs K = o i) ∨ (¬ Q i ∧ ∀ K, turnV vs0 bd body (.one (.int (0 + (i : Nat)))) vs K = K vs)) → (∃ i, k ≤ i ∧ i < k + n ∧ Q i ∧ forV vs0 bd body ((List.range' k n).map fun i => VI.one (.int (0 + (i : Nat)))) vs = o i) ∨ ((∀ i, k ≤ i → i < k + n → ¬ Q i) ∧ forV vs0 bd body ((List.range' k n).map fun i => VI.one (.int (0 + (i : Nat)))) vs = .nx vs) := by
    intro n
    induction n with
    | zero => exact fun k _ => .inr ⟨fun i h1 h2 => by omega, rfl⟩
    | succ n ih =>
      intro k h
      rw [List.range'_succ, List.map_cons, for_c]
      rcases h k (Nat.le_refl _) (by omega) with ⟨q, e⟩ | ⟨q, e⟩
      · exact .inl ⟨k, Nat.le_refl _, by omega, q, by rw [e]⟩
      · rw [e]
        rcases ih (k + 1) (fun i h1 h2 => h i (by omega) (by omega)) with ⟨i, h1, h2, qi, ei⟩ | ⟨qn, en⟩
        · exact .inl ⟨i, by omega, by omega, qi, ei⟩
        · refine .inr ⟨fun i h1 h2 => ?_, en⟩
          by_cases hk : i = k
          · subst hk; exact q
          · exact qn i (by omega) (by omega)
  intro n h
  have er : rngV 0 n = (List.range' 0 n).map fun i => VI.one (.int (0 + (i : Nat))) := by
    unfold rngV
    rw [List.range_eq_range']
  rw [er]
  rcases gen n 0 (fun i _ h2 => h i (by omega)) with ⟨i, _, h2, qi, ei⟩ | ⟨qn, en⟩
  · exact .inl ⟨i, by omega, qi, ei⟩
  · exact .inr ⟨fun i hi => qn i (Nat.zero_le _) (by omega), en⟩
theorem for_rngX' {vs0 : List VS} {bd : Bd} {body : VF} {vs : List VS} {n : Nat} {F : VO} (e : forV vs0 bd body (rngV 0 n) vs = F) (Q : Nat → Prop) (o : Nat → VO) (h : ∀ i, i < n → (Q i ∧ ∀ K, turnV vs0 bd body (.one (.int (0 + (i : Nat)))) vs K = o i) ∨ (¬ Q i ∧ ∀ K, turnV vs0 bd body (.one (.int (0 + (i : Nat)))) vs K = K vs)) : (∃ i, i < n ∧ Q i ∧ F = o i) ∨ ((∀ i, i < n → ¬ Q i) ∧ F = .nx vs) := by
  subst e
  exact for_rngX h
theorem filter_ne {α : Type} {l : List α} {t : α → Bool} : (l.filter t).isEmpty = false ↔ ∃ a ∈ l, t a = true := by
  cases e : l.filter t with
  | nil =>
    simp only [List.isEmpty_nil, Bool.true_eq_false, false_iff, not_exists, not_and]
    intro a m h
    have : a ∈ l.filter t := List.mem_filter.mpr ⟨m, h⟩
    rw [e] at this; cases this
  | cons a r =>
    simp only [List.isEmpty_cons, true_iff]
    have : a ∈ l.filter t := by rw [e]; exact List.mem_cons_self
    exact ⟨a, List.mem_filter.mp this⟩
theorem nats_ints (l : List Nat) : l.map (fun (k : Nat) => PyData.int k) = (l.map fun (k : Nat) => (k : Int)).map PyData.int := by
  rw [List.map_map]; rfl
theorem ne_nilNat {l : List Nat} {vs : List VS} : gEq true (.list (l.map fun (k : Nat) => PyData.int k)) (.list []) vs = .ok (.bool (!l.isEmpty)) vs := by
  rw [nats_ints, ne_nilI]
  cases l <;> rfl
theorem bools_map {α : Type} {kb : List Bool → Bool} {l : List α} {t : α → Bool} {vs : List VS} : gBools kb [.list (l.map fun a => .bool (t a))] vs = .ok (.bool (kb (l.map t))) vs := by
  have := o_bools (kb := kb) (bs := l.map t) (vs := vs)
  rw [List.map_map] at this
  exact this
theorem bools_tt {α : Type} {l : List α} {vs : List VS} : gBools (fun bs => bs.all id) [.list (l.map fun _ => .bool true)] vs = .ok (.bool true) vs := by
  rw [bools_map (t := fun _ => true)]
  congr 2
  simp
theorem at_c3 {α : Type} {a b c x : α} {xs : List α} : atI (a :: b :: c :: x :: xs) 3 = some x := by
  unfold atI ixN
  rw [if_pos (by decide), if_pos (by simp only [List.length_cons]; omega)]; rfl
theorem at_c4 {α : Type} {a b c d x : α} {xs : List α} : atI (a :: b :: c :: d :: x :: xs) 4 = some x := by
  unfold atI ixN
  rw [if_pos (by decide), if_pos (by simp only [List.length_cons]; omega)]; rfl
theorem at_c5 {α : Type} {a b c d e x : α} {xs : List α} : atI (a :: b :: c :: d :: e :: x :: xs) 5 = some x := by
  unfold atI ixN
  rw [if_pos (by decide), if_pos (by simp only [List.length_cons]; omega)]; rfl
theorem immL_c {d : PyData} {ds : List PyData} : immL (d :: ds) = (imm d && immL ds) := by conv => lhs; unfold immL
theorem immL_n : immL [] = true := by unfold immL; rfl
theorem imm_lst {ds : List PyData} : imm (.list ds) = false := by unfold imm; rfl
theorem imm_tup {ds : List PyData} : imm (.tuple ds) = immL ds := by conv => lhs; unfold imm
theorem imm_none : imm .none = true := by unfold imm; rfl
theorem ix_c {n j : Nat} (h : j < n) : ixN n (j : Int) = some j := by
  rw [Zx.ixN_in (by omega) (by omega)]; simp
theorem pt_t0 {js : List Int} {y a : PyData} {r : List PyData} : putAt (0 :: js) y (.tuple (a :: r)) = .tuple (putAt js y a :: r) := putAt_t (ix_c (j := 0) (by simp)) rfl
theorem pt_t1 {js : List Int} {y a b : PyData} {r : List PyData} : putAt (1 :: js) y (.tuple (a :: b :: r)) = .tuple (a :: putAt js y b :: r) := putAt_t (ix_c (j := 1) (by simp)) rfl
theorem pt_t2 {js : List Int} {y a b c : PyData} {r : List PyData} : putAt (2 :: js) y (.tuple (a :: b :: c :: r)) = .tuple (a :: b :: putAt js y c :: r) := putAt_t (ix_c (j := 2) (by simp)) rfl
theorem pt_t3 {js : List Int} {y a b c d : PyData} {r : List PyData} : putAt (3 :: js) y (.tuple (a :: b :: c :: d :: r)) = .tuple (a :: b :: c :: putAt js y d :: r) := putAt_t (ix_c (j := 3) (by simp)) rfl
theorem kApp_ok {ds : List PyData} {x : PyData} (h : ds.length < 1000000) : kApp ds [x] = some (ds ++ [x], .none) := if_pos h
/-- over a list that stands within a value: each item is changed by f -/
theorem own_runP {vs0 vs : List VS} {l i : Nat} {js : List Int} {body : VF} {f : PyData → PyData} : ∀ {ds done : List PyData} {y : PyData}, getAt js y = some (.list (done ++ ds)) → (∀ x ∈ ds, ∃ w, (body (vs.set i (.v x)) = .nx w ∨ body (vs.set i (.v x)) = .ct w) ∧ w[i]? = some (.v (f x)) ∧ resetV vs0 (w.set i .un) = vs) →
    ∃ y', forOwnPV vs0 l i js body ds.length done.length y vs = .nx (vs.set l (.v y')) ∧ getAt js y' = some (.list (done ++ ds.map f))
  | [], done, y, e, _ => by
    refine ⟨y, ?_, by rw [e]; rfl⟩
    show forOwnPV vs0 l i js body 0 done.length y vs = _
    unfold forOwnPV
    rw [e]
    dsimp only
    rw [List.append_nil, if_pos (Nat.le_refl _)]
  | x :: ds, done, y, e, h => by
    obtain ⟨w, hw, e1, e2⟩ := h x List.mem_cons_self
    have hat : atI (done ++ x :: ds) (done.length : Int) = some x := by
      rw [atI_0 (by omega)]
      simp
    have hset : (done ++ x :: ds).set done.length (f x) = (done ++ [f x]) ++ ds := by simp
    have hg : getAt js (putAt js (.list ((done ++ x :: ds).set done.length (f x))) y) = some (.list ((done ++ [f x]) ++ ds)) := by
      rw [getAt_putAt imm_lst e, hset]
    obtain ⟨y', a, b⟩ := own_runP (ds := ds) (done := done ++ [f x]) (l := l) (vs0 := vs0) (body := body) (f := f) hg fun z m => h z (List.mem_cons_of_mem _ m)
    rw [List.length_append, List.length_singleton] at a
    refine ⟨y', ?_, by rw [b, List.append_assoc]; rfl⟩
    rw [List.length_cons]
    conv => lhs; unfold forOwnPV
    rw [e]
    dsimp only
    rw [hat]
    dsimp only
    rcases hw with hw | hw
    · rw [hw]
      dsimp only
      rw [e1]
      dsimp only
      rw [e2, a]
    · rw [hw]
      dsimp only
      rw [e1]
      dsimp only
      rw [e2, a]
local macro_rules | `(tactic| walk_at "td") => `(tactic| first | omega | assumption | (simp only [immL_c, immL_n, imm_lst, imm_tup, imm_int, imm_bool, imm_str, imm_none, Bool.and_false, Bool.false_and, Bool.and_true, Bool.true_and]; done) | (rw [row_len (by assumption) (by omega)]; omega) | (simp only [List.length_map, List.length_range, List.length_cons, List.length_nil, List.length_append, List.length_take, List.length_drop] <;> omega) | with_unfolding_all (simp only [List.length_cons, List.length_nil, List.length_map, List.length_range, List.length_append, Nat.reduceAdd, Nat.reduceLeDiff, Nat.le_refl, Nat.zero_le, decide_true]; done))
local macro_rules | `(tactic| walk_at "t") => `(tactic| simp (disch := walk_at "td") only [u_phi, t_nx, t_rt, t_bk, t_ct, t_rz, h_rt, h_nx, h_rz, d_ok, d_rz, d_st, e_ok, e_rz, e_st, u_seq, u_set, u_if, u_expr, u_ret, u_retN, u_next, u_break, u_cont, u_raise, u_setT, u_par, u_var, u_mv, u_c, u_bin, u_un, u_tst, tst_b, u_andT, u_orT, u_notT, u_yes, u_andV, u_orV, u_notV, u_if', u_chain, u_nil, u_cons, u_lst, u_tup, u_imm, u_pure, u_cb, u_call, bk_ok, bk_rz, u_sc, u_isi, o_add, o_sub, o_div, o_mod, o_lt, o_le, o_gt, o_ge, o_eq, o_ne, o_neg, o_len, o_lent, o_ix, o_ixt, o_ixO, o_isN, o_notN, o_min, o_max, o_abs, o_int, o_intb, o_list, o_listt, o_tuple, o_sum, o_bools, u_dct, u_din, u_dget, o_lenD, p_var, p_ix, u_store, u_augS, u_app, capp_ok, lcEnd_some, u_mt, ge_nil, ge_c, pt_nil, u_dstore, u_aug, u_tryAs, u_tryO, tA_nx, tA_bk, tA_ct, tA_rt, tO_nx, tO_bk, tO_ct, tO_rt, eA_rt, eO_rt, vk_1, vAny_0, vAny_t, vAny_f, u_exi, exv_ex, o_lrev, keyP_i, toL_dK, at_c0, at_c1, at_c2, u_dctO, o_ixOt, u_forOwnP, u_irng, u_irng2, g1_ok, g2_ok, u_iseq, u_itup, u_ienu, u_izip, rng_len, u_for, u_forVar, u_forOwn, u_forF, u_while, u_lc, u_lcVar, u_lcEV, u_lcOwn, u_lcMv, f_nx, f_ct, f_bk, f_rt, f_rz, rs_un, rs_v, rs_sc, rs_nil, gv_v, gl_l, gn_i, rv_k, o_some, o_none, startV, argV, intsD_ok, List.replicate, turn_eq, at_rng, o_dini, Bool.bne_false, Bool.false_bne, Bool.xor_false, Bool.false_xor, goV, setAllV, lc1_eq, rt_k, wipeV, tyP, is_ii, is_ib, is_bb, is_bi, is_ll, is_tt, is_lt, is_tl, isNo, List.getElem?_cons_zero, List.getElem?_cons_succ, List.set_cons_zero, List.set_cons_succ, List.length_cons, List.length_nil, List.length_map, List.length_range, List.map_nil, List.map_cons, if_true, if_false, reduceIte, Bool.false_eq_true, Bool.true_eq_false, decide_eq_true_eq, Bool.not_true, Bool.not_false, List.cons_append, List.nil_append, Int.reduceLT, Int.reduceLE, Int.reduceNeg, Nat.reduceAdd, Nat.reduceLeDiff, Int.reduceToNat, Nat.le_refl, Nat.zero_le, Int.ofNat_eq_natCast, Bool.and_self, Bool.and_true, Bool.true_and, Bool.or_false, Bool.or_true, Bool.and_false, Bool.false_or, Bool.true_or, Bool.false_and, decide_true, decide_false, id_eq, Int.toNat_natCast, Option.map_some, Option.map_none, Option.isSome_some, Option.isSome_none, Int.zero_add, at_Rv, at_Iv, u_cut, u_put, u_callR, u_consX, cb_ok, cb_nx, ac_ok, Nat.reduceSub, List.append_nil, if_pos, if_neg, decide_eq_true, decide_eq_false, u_slice, u_oSome, o_oNo, cutX_lo, cutX_hi, cat_ok, lcEnd_some, pure_eI, pure_eG, List.map_map, capp_ok, List.length_take, List.length_drop, Function.comp_apply, at_c3, at_c4, at_c5, ge_t, pt_t1, pt_t2, pt_t3, pt_t0])
/-! ## drawn grids by value -/
theorem for_rinvF {P : Nat → List VS → Prop} {vs0 : List VS} {bd : Bd} {body : VF} {lo : Int} {n : Nat} {vs : List VS} {F : VO} (ef : forV vs0 bd body (rngV lo n) vs = F) (p : P 0 vs) (h : ∀ i vs, i < n → P i vs → ∃ vs', P (i + 1) vs' ∧ ∀ K, turnV vs0 bd body (.one (.int (lo + (i : Nat)))) vs K = K vs') : ∃ vs', P n vs' ∧ F = .nx vs' := by
  obtain ⟨vs', p, e⟩ := for_rinv p h
  exact ⟨vs', p, ef ▸ e⟩
theorem line_v {at0 r i : Int} {n : Nat} {ns : List Int} {big : Int} {g : List PyData} (hn8 : n ≤ 8) (hb : 0 ≤ big) :
    ∃ (q : List Int) (b' : Int), q.length = n ∧ (∀ e ∈ q, -p30 ≤ e ∧ e ≤ p30) ∧ el_law_grid_1 [.sc ns, .v (.int at0), .v (.int r), .v (.int n), .v (.list g), .v (.int i), .v (.int big), .v (.list []), .un, .un]
      = .nx [.sc ns, .v (.int at0), .v (.int r), .v (.int n), .v (.list g), .v (.int i), .v (.int b'), .v (eI q), .un, .un] := by
  unfold el_law_grid_1
  walk_at "t"
  generalize ef : forV _ _ _ _ _ = F
  obtain ⟨vs', ⟨q, b', hl, hq, _, rfl⟩, rfl⟩ := for_rinvF ef (P := fun m vs => ∃ (q : List Int) (b' : Int), q.length = m ∧ (∀ e ∈ q, -p30 ≤ e ∧ e ≤ p30) ∧ 0 ≤ b' ∧ vs = [.sc ns, .v (.int at0), .v (.int r), .v (.int n), .v (.list g), .v (.int i), .v (.int b'), .v (eI q), .un, .un]) ⟨[], big, rfl, (by simp), hb, rfl⟩ (by
    rintro m vs hm ⟨q, b', hl, hq, hb, rfl⟩
    obtain ⟨x, b2, x0, x1, hb2, ex⟩ := number_v hb
    refine ⟨_, ⟨q ++ [x], b2, by rw [List.length_append, List.length_singleton, hl], fun e he => ?_, hb2, rfl⟩, fun K => ?_⟩
    · rcases List.mem_append.mp he with h | h
      · exact hq e h
      · rw [List.mem_singleton.mp h]; exact ⟨x0, x1⟩
    · walk_at "t"
      rw [ex]
      walk_at "t"
      simp only [eI, List.map_append, List.map_cons, List.map_nil])
  exact ⟨q, b', by simpa using hl, hq, rfl⟩
theorem grid_v {ns : List Int} {at0 : Int} {r c : Nat} (h0 : 0 ≤ at0) (hr : r ≤ 8) (hc : c ≤ 8) : ∃ g, Gr r c p30 g ∧ w_law_grid [eI ns, .int at0, .int r, .int c] = .ok (eG g) := by
  unfold w_law_grid em_law_grid
  walk_at "t"
  unfold el_law_grid_2
  walk_at "t"
  generalize ef : forV _ _ _ _ _ = F
  obtain ⟨vs', ⟨g, G, rfl⟩, rfl⟩ := for_rinvF ef (P := fun m vs => ∃ g, Gr m c p30 g ∧ vs = [.sc ns, .v (.int at0), .v (.int r), .v (.int c), .v (eG g), .un, .un, .un, .un, .un]) ⟨[], ⟨rfl, by simp, by simp⟩, rfl⟩ (by
    rintro m vs hm ⟨g, G, rfl⟩
    have hgl := G.len
    obtain ⟨b, b0, eb⟩ := big_v (ns := ns) (k := at0 + m) (by omega)
    obtain ⟨q, b', hl, hq, el⟩ := line_v (ns := ns) (at0 := at0) (r := r) (i := m) (g := g.map eI) (n := c) hc b0
    refine ⟨_, ⟨g ++ [q], ⟨by rw [List.length_append, List.length_singleton, hgl], fun z hz => ?_, fun z hz => ?_⟩, rfl⟩, fun K => ?_⟩
    · rcases List.mem_append.mp hz with h | h
      · exact G.row z h
      · rw [List.mem_singleton.mp h]; exact hl
    · rcases List.mem_append.mp hz with h | h
      · exact G.b z h
      · rw [List.mem_singleton.mp h]; exact hq
    · walk_at "t"
      rw [eb]
      walk_at "t"
      rw [el]
      walk_at "t"
      show _ = K [_, _, _, _, .v (.list ((g ++ [q]).map eI)), _, _, _, _, _]
      rw [List.map_append]
      rfl)
  refine ⟨g, by simpa using G, ?_⟩
  walk_at "t"
/-! ## grids given by a function -/
abbrev mkR (c : Nat) (v : Nat → Int) : PyData := .list ((List.range c).map fun j => .int (v j))
abbrev mkP (r c : Nat) (w : Nat → Nat → Int) : PyData := .list ((List.range r).map fun i => mkR c (w i))
theorem mkR_e {c : Nat} {v : Nat → Int} : mkR c v = eI ((List.range c).map v) := by
  rw [eI_lst]
theorem mkP_e {r c : Nat} {w : Nat → Nat → Int} : mkP r c w = eG ((List.range r).map fun i => (List.range c).map (w i)) := by
  show PyData.list _ = .list _
  rw [List.map_map]
  congr 1
  exact List.map_congr_left fun i _ => mkR_e
theorem mkR_congr {c : Nat} {v v' : Nat → Int} (h : ∀ k, k < c → v k = v' k) : mkR c v = mkR c v' := by
  show PyData.list _ = .list _
  congr 1
  exact List.map_congr_left fun i hi => by rw [h i (List.mem_range.mp hi)]
theorem mkP_congr {r c : Nat} {w w' : Nat → Nat → Int} (h : ∀ i k, i < r → k < c → w i k = w' i k) : mkP r c w = mkP r c w' := by
  show PyData.list _ = .list _
  congr 1
  exact List.map_congr_left fun i hi => mkR_congr fun k hk => h i k (List.mem_range.mp hi) hk
theorem map_set {α : Type} {n p : Nat} {F : Nat → α} {x : α} : ((List.range n).map F).set p x = (List.range n).map fun i => if i = p then x else F i := by
  apply List.ext_getElem?
  intro i
  rw [List.getElem?_map, List.getElem?_set, List.getElem?_map, List.length_map, List.length_range]
  by_cases h : i < n
  · rw [List.getElem?_range h]
    by_cases h2 : p = i
    · subst h2; simp [h]
    · rw [if_neg h2]
      have : ¬ i = p := fun e => h2 e.symm
      simp [this]
  · rw [List.getElem?_eq_none (by rw [List.length_range]; omega)]
    by_cases h2 : p = i
    · subst h2; simp [h]
    · rw [if_neg h2]; rfl
theorem mkP_set {r c p : Nat} {w : Nat → Nat → Int} {v : Nat → Int} : ((List.range r).map fun i => mkR c (w i)).set p (mkR c v) = (List.range r).map fun i => mkR c (if i = p then v else w i) := by
  rw [map_set]
  exact List.map_congr_left fun i _ => by split <;> rfl
theorem zip_map {l : List Nat} {F G : Nat → PyData} : zipV (l.map F) (l.map G) = l.map fun i => .two (F i) (G i) := by
  induction l with
  | nil => rfl
  | cons a l ih =>
    show VI.two (F a) (G a) :: zipV (l.map F) (l.map G) = _
    rw [ih]; rfl
theorem gr_get {r c : Nat} {B : Int} {g : List (List Int)} (G : Gr r c B g) {k : Nat} (hk : k < r) : getR g k ∈ g ∧ (getR g k).length = c := by
  have hk' : k < g.length := by rw [G.len]; exact hk
  have e : getR g k = g[k] := by
    unfold getR
    rw [List.getElem?_eq_getElem hk']; rfl
  rw [e]
  exact ⟨List.getElem_mem hk', G.row _ (List.getElem_mem hk')⟩
theorem gr_ent {r c : Nat} {B : Int} {g : List (List Int)} (G : Gr r c B g) {k j : Nat} (hk : k < r) (hj : j < c) : -B ≤ getG g k j ∧ getG g k j ≤ B := by
  obtain ⟨hr, hl⟩ := gr_get G hk
  exact G.b _ hr _ (getI_in (by omega))
theorem gr_rng {r c : Nat} {B : Int} {g : List (List Int)} (G : Gr r c B g) : g = (List.range r).map fun i => (List.range c).map fun k => getG g i k := by
  have := rows_rng (f := id) G.len
  rw [List.map_id] at this
  conv => lhs; rw [this]
  refine List.map_congr_left fun i hi => ?_
  exact row_rng (gr_get G (List.mem_range.mp hi)).2
theorem gr_mk {r c : Nat} {B : Int} {g : List (List Int)} (G : Gr r c B g) : eG g = mkP r c (getG g) := by
  rw [mkP_e]
  conv => lhs; rw [gr_rng G]
/-- the first turn that ends, of a range from lo on -/
theorem for_rngXl {vs0 : List VS} {bd : Bd} {body : VF} {vs : List VS} {lo : Int} {n : Nat} {F : VO} (e : forV vs0 bd body (rngV lo n) vs = F) (Q : Nat → Prop) (o : Nat → VO) (h : ∀ i, i < n → (Q i ∧ ∀ K, turnV vs0 bd body (.one (.int (lo + (i : Nat)))) vs K = o i) ∨ (¬ Q i ∧ ∀ K, turnV vs0 bd body (.one (.int (lo + (i : Nat)))) vs K = K vs)) : (∃ i, i < n ∧ Q i ∧ F = o i) ∨ ((∀ i, i < n → ¬ Q i) ∧ F = .nx vs) := by
  have gen : ∀ (n k : Nat), (∀ i, k ≤ i → i < k + n → (Q i ∧ ∀ K, turnV vs0 bd body (.one (.int (lo + (i : Nat)))) vs K = o i) ∨ (¬ Q i ∧ ∀ K, turnV vs0 bd body (.one (.int (lo + (i : Nat)))) vs K = K vs)) → (∃ i, k ≤ i ∧ i < k + n ∧ Q i ∧ forV vs0 bd body ((List.range' k n).map fun i => VI.one (.int (lo + (i : Nat)))) vs = o i) ∨ ((∀ i, k ≤ i → i < k + n → ¬ Q i) ∧ forV vs0 bd body ((List.range' k n).map fun i => VI.one (.int (lo + (i : Nat)))) vs = .nx vs) := by
    intro n
    induction n with
    | zero => exact fun k _ => .inr ⟨fun i h1 h2 => by omega, rfl⟩
    | succ n ih =>
      intro k h
      rw [List.range'_succ, List.map_cons, for_c]
      rcases h k (Nat.le_refl _) (by omega) with ⟨q, e⟩ | ⟨q, e⟩
      · exact .inl ⟨k, Nat.le_refl _, by omega, q, by rw [e]⟩
      · rw [e]
        rcases ih (k + 1) (fun i h1 h2 => h i (by omega) (by omega)) with ⟨i, h1, h2, qi, ei⟩ | ⟨qn, en⟩
        · exact .inl ⟨i, by omega, by omega, qi, ei⟩
        · refine .inr ⟨fun i h1 h2 => ?_, en⟩
          by_cases hk : i = k
          · subst hk; exact q
          · exact qn i (by omega) (by omega)
  have er : rngV lo n = (List.range' 0 n).map fun i => VI.one (.int (lo + (i : Nat))) := by
    unfold rngV
    rw [List.range_eq_range']
  rw [er] at e
  rcases gen n 0 (fun i _ h2 => h i (by omega)) with ⟨i, _, h2, qi, ei⟩ | ⟨qn, en⟩
  · exact .inl ⟨i, by omega, qi, e.symm.trans ei⟩
  · exact .inr ⟨fun i hi => qn i (Nat.zero_le _) (by omega), e.symm.trans en⟩
/-! ## determinants: sums, the first row opened up -/
namespace Dt
def sm : Nat → (Nat → Int) → Int
  | 0, _ => 0
  | n + 1, f => sm n f + f n
theorem sm_congr {n : Nat} {f g : Nat → Int} (h : ∀ i, i < n → f i = g i) : sm n f = sm n g := by
  induction n with
  | zero => rfl
  | succ n ih =>
    unfold sm
    rw [ih fun i hi => h i (by omega), h n (by omega)]
theorem sm_zero {n : Nat} {f : Nat → Int} (h : ∀ i, i < n → f i = 0) : sm n f = 0 := by
  induction n with
  | zero => rfl
  | succ n ih =>
    unfold sm
    rw [ih fun i hi => h i (by omega), h n (by omega)]; rfl
theorem sm_lin {n : Nat} {a b : Int} {f g : Nat → Int} : sm n (fun i => a * f i + b * g i) = a * sm n f + b * sm n g := by
  induction n with
  | zero => simp [sm]
  | succ n ih =>
    unfold sm
    rw [ih]
    grind
theorem sm_add {n : Nat} {f g : Nat → Int} : sm n (fun i => f i + g i) = sm n f + sm n g := by
  have := sm_lin (n := n) (a := 1) (b := 1) (f := f) (g := g)
  simp only [Int.one_mul] at this
  exact this
theorem sm_mul {n : Nat} {a : Int} {f : Nat → Int} : sm n (fun i => a * f i) = a * sm n f := by
  have := sm_lin (n := n) (a := a) (b := 0) (f := f) (g := fun _ => 0)
  simp only [Int.zero_mul, Int.add_zero] at this
  exact this
theorem sm_one {n j : Nat} {f : Nat → Int} (hj : j < n) (h : ∀ i, i < n → i ≠ j → f i = 0) : sm n f = f j := by
  induction n with
  | zero => omega
  | succ n ih =>
    unfold sm
    by_cases e : j = n
    · subst e
      rw [sm_zero fun i hi => h i (by omega) (by omega), Int.zero_add]
    · rw [ih (by omega) fun i hi hne => h i (by omega) hne, h n (by omega) (fun z => e z.symm), Int.add_zero]
theorem sm_first {n : Nat} {f : Nat → Int} : sm (n + 1) f = f 0 + sm n fun i => f (i + 1) := by
  induction n with
  | zero => simp [sm]
  | succ n ih =>
    unfold sm
    rw [ih]
    unfold sm
    grind
/-- sums of sums -/
theorem sm_comm {n m : Nat} {f : Nat → Nat → Int} : sm n (fun i => sm m fun j => f i j) = sm m fun j => sm n fun i => f i j := by
  induction n with
  | zero => exact (sm_zero fun _ _ => rfl).symm
  | succ n ih =>
    show sm n (fun i => sm m fun j => f i j) + sm m (fun j => f n j) = _
    rw [ih, ← sm_add]
    rfl
/-- what cancels by pairs -/
theorem sm_pairs {T : Nat → Nat → Int} : ∀ (m : Nat), (∀ j k, j ≤ k → k < m → T (k + 1) j = - T j k) → sm (m + 1) (fun j => sm m fun k => T j k) = 0
  | 0, _ => by simp [sm]
  | m + 1, h => by
    have ih := sm_pairs m fun j k h1 h2 => h j k h1 (by omega)
    have e1 : sm (m + 1 + 1) (fun j => sm (m + 1) fun k => T j k) = sm (m + 1) (fun j => sm m (fun k => T j k) + T j m) + sm (m + 1) (fun k => T (m + 1) k) := rfl
    rw [e1, sm_add, ih, Int.zero_add, ← sm_add]
    refine sm_zero fun j hj => ?_
    rw [h j m (by omega) (by omega)]
    omega
def sk (p b : Nat) : Nat := if b < p then b else b + 1
def sgn (j : Nat) : Int := if j % 2 = 0 then 1 else -1
theorem sgn_s {j : Nat} : sgn (j + 1) = - sgn j := by
  unfold sgn
  by_cases h : j % 2 = 0
  · rw [if_neg (by omega), if_pos h]
  · rw [if_pos (by omega), if_neg h]; rfl
theorem sgn_sq {j : Nat} : sgn j * sgn j = 1 := by
  unfold sgn
  split <;> rfl
abbrev Mt := Nat → Nat → Int
def mn (A : Mt) (j : Nat) : Mt := fun i k => A (i + 1) (sk j k)
def D : Nat → Mt → Int
  | 0, _ => 1
  | n + 1, A => sm (n + 1) fun j => sgn j * A 0 j * D n (mn A j)
theorem D_s {n : Nat} {A : Mt} : D (n + 1) A = sm (n + 1) fun j => sgn j * A 0 j * D n (mn A j) := rfl
theorem sk_lt {n p b : Nat} (h : b < n) : sk p b < n + 1 := by unfold sk; split <;> omega
theorem sk_ne {p b : Nat} : sk p b ≠ p := by unfold sk; split <;> omega
theorem D_congr : ∀ {n : Nat} {A B : Mt}, (∀ i k, i < n → k < n → A i k = B i k) → D n A = D n B
  | 0, A, B, _ => rfl
  | n + 1, A, B, h => by
    rw [D_s, D_s]
    refine sm_congr fun j hj => ?_
    rw [h 0 j (by omega) hj, D_congr (n := n) (A := mn A j) (B := mn B j) fun i k hi hk => h (i + 1) (sk j k) (by omega) (sk_lt hk)]
/-- row r of A is v -/
def rw' (A : Mt) (r : Nat) (v : Nat → Int) : Mt := fun i k => if i = r then v k else A i k
/-- what is linear in each row, and 0 where two neighbouring rows are one -/
structure Alt (n : Nat) (f : Mt → Int) : Prop where
  congr : ∀ A B : Mt, (∀ i k, i < n → k < n → A i k = B i k) → f A = f B
  lin : ∀ (A : Mt) (r : Nat) (a b : Int) (u v : Nat → Int), r < n → f (rw' A r fun k => a * u k + b * v k) = a * f (rw' A r u) + b * f (rw' A r v)
  adj : ∀ (A : Mt) (r : Nat), r + 1 < n → (∀ k, k < n → A r k = A (r + 1) k) → f A = 0
theorem mn_rw0 {A : Mt} {j : Nat} {v : Nat → Int} : mn (rw' A 0 v) j = mn A j := by
  funext i k
  unfold mn rw'
  rw [if_neg (by omega)]
theorem mn_rws {A : Mt} {r j : Nat} {v : Nat → Int} : mn (rw' A (r + 1) v) j = rw' (mn A j) r fun k => v (sk j k) := by
  funext i k
  unfold mn rw'
  by_cases h : i = r
  · subst h; simp
  · rw [if_neg (by omega), if_neg h]
theorem D_lin : ∀ {n : Nat} (A : Mt) (r : Nat) (a b : Int) (u v : Nat → Int), r < n → D n (rw' A r fun k => a * u k + b * v k) = a * D n (rw' A r u) + b * D n (rw' A r v)
  | 0, _, r, _, _, _, _, h => by omega
  | n + 1, A, 0, a, b, u, v, _ => by
    simp only [D_s, mn_rw0]
    rw [← sm_lin]
    refine sm_congr fun j _ => ?_
    simp only [rw', if_true]
    grind
  | n + 1, A, r + 1, a, b, u, v, h => by
    simp only [D_s, mn_rws]
    rw [← sm_lin]
    refine sm_congr fun j _ => ?_
    rw [D_lin (mn A j) r a b (fun k => u (sk j k)) (fun k => v (sk j k)) (by omega)]
    simp only [rw']
    rw [if_neg (by omega), if_neg (by omega), if_neg (by omega)]
    grind
theorem sk_sk {j k c : Nat} (h : j ≤ k) : sk j (sk k c) = sk (k + 1) (sk j c) := by
  unfold sk
  by_cases h1 : c < k
  · rw [if_pos h1]
    by_cases h2 : c < j
    · rw [if_pos h2, if_pos (by omega)]
    · rw [if_neg h2, if_pos (by omega)]
  · rw [if_neg h1, if_neg (by omega : ¬ c + 1 < j), if_neg (by omega : ¬ c < j), if_neg (by omega)]
theorem D_adj : ∀ {n : Nat} (A : Mt) (r : Nat), r + 1 < n → (∀ k, k < n → A r k = A (r + 1) k) → D n A = 0
  | 0, A, r, h, _ => by omega
  | 1, A, r, h, _ => by omega
  | n + 2, A, 0, _, e => by
    rw [D_s]
    have : ∀ j, j < n + 1 + 1 → sgn j * A 0 j * D (n + 1) (mn A j) = sm (n + 1) fun k => sgn j * A 0 j * (sgn k * A 0 (sk j k) * D n (mn (mn A j) k)) := by
      intro j hj
      rw [D_s, ← sm_mul]
      refine sm_congr fun k hk => ?_
      show _ * (sgn k * A 1 (sk j k) * _) = _
      rw [← e (sk j k) (sk_lt hk)]
    rw [sm_congr this]
    refine sm_pairs (n + 1) fun j k h1 h2 => ?_
    have e1 : sk (k + 1) j = j := by unfold sk; rw [if_pos (by omega)]
    have e2 : sk j k = k + 1 := by unfold sk; rw [if_neg (by omega)]
    have e3 : mn (mn A (k + 1)) j = mn (mn A j) k := by
      funext i c
      show A (i + 1 + 1) (sk (k + 1) (sk j c)) = A (i + 1 + 1) (sk j (sk k c))
      rw [sk_sk h1]
    rw [e1, e2, e3, sgn_s]
    grind
  | n + 2, A, r + 1, h, e => by
    rw [D_s]
    refine sm_zero fun j hj => ?_
    rw [D_adj (mn A j) r (by omega) fun k hk => e (sk j k) (sk_lt hk), Int.mul_zero]
theorem D_alt (n : Nat) : Alt n (D n) := ⟨fun _ _ h => D_congr h, D_lin, D_adj⟩
end Dt
/-! ## determinants: what is alternating is a multiple of D -/
namespace Dt
theorem rw_same {A : Mt} {r : Nat} : rw' A r (A r) = A := by
  funext i k
  unfold rw'
  split
  · rename_i h; rw [h]
  · rfl
theorem rw_rw {A : Mt} {r : Nat} {u v : Nat → Int} : rw' (rw' A r u) r v = rw' A r v := by
  funext i k
  unfold rw'
  split <;> rfl
theorem rw_comm {A : Mt} {r s : Nat} {u v : Nat → Int} (h : r ≠ s) : rw' (rw' A r u) s v = rw' (rw' A s v) r u := by
  funext i k
  unfold rw'
  by_cases h1 : i = s
  · by_cases h2 : i = r
    · omega
    · rw [if_pos h1, if_neg h2, if_pos h1]
  · rw [if_neg h1]
    by_cases h2 : i = r
    · rw [if_pos h2, if_pos h2]
    · rw [if_neg h2, if_neg h2, if_neg h1]
section
variable {n : Nat} {f : Mt → Int}
theorem Alt.zero (F : Alt n f) {A : Mt} {r : Nat} (hr : r < n) (h : ∀ k, k < n → A r k = 0) : f A = 0 := by
  have e := F.lin A r 0 0 (A r) (A r) hr
  have e : f (rw' A r fun k => 0 * A r k + 0 * A r k) = 0 := by rw [e]; omega
  rw [← e]
  refine F.congr _ _ fun i k _ hk => ?_
  unfold rw'
  dsimp only
  split
  · rename_i hi; rw [hi, h k hk]; omega
  · rfl
theorem Alt.add (F : Alt n f) {A : Mt} {r : Nat} {u v : Nat → Int} (hr : r < n) : f (rw' A r fun k => u k + v k) = f (rw' A r u) + f (rw' A r v) := by
  have e := F.lin A r 1 1 u v hr
  rw [Int.one_mul, Int.one_mul] at e
  rw [← e]
  congr 1
  funext i k
  unfold rw'
  split <;> simp
theorem Alt.scale (F : Alt n f) {A : Mt} {r : Nat} {a : Int} {u : Nat → Int} (hr : r < n) : f (rw' A r fun k => a * u k) = a * f (rw' A r u) := by
  have e := F.lin A r a 0 u u hr
  rw [Int.zero_mul, Int.add_zero] at e
  rw [← e]
  congr 1
  funext i k
  unfold rw'
  split <;> simp
theorem Alt.sum (F : Alt n f) {A : Mt} {r : Nat} (hr : r < n) {c : Nat → Int} {u : Nat → Nat → Int} : ∀ m : Nat, f (rw' A r fun k => sm m fun j => c j * u j k) = sm m fun j => c j * f (rw' A r (u j))
  | 0 => F.zero hr fun k _ => by unfold rw'; rw [if_pos rfl]; rfl
  | m + 1 => by
    show f (rw' A r fun k => sm m (fun j => c j * u j k) + c m * u m k) = _
    rw [F.add hr, F.scale hr, F.sum hr m]
    rfl
/-- two neighbouring rows exchanged -/
def sw (A : Mt) (r s : Nat) : Mt := rw' (rw' A r (A s)) s (A r)
theorem Alt.swAdj (F : Alt n f) {A : Mt} {r : Nat} (hr : r + 1 < n) : f (sw A r (r + 1)) = - f A := by
  have z : ∀ u : Nat → Int, f (rw' (rw' A r u) (r + 1) u) = 0 := fun u => F.adj _ r hr fun k _ => by
    unfold rw'
    rw [if_neg (by omega), if_pos rfl, if_pos rfl]
  have h0 := z fun k => A r k + A (r + 1) k
  have split2 : ∀ u : Nat → Int, f (rw' (rw' A r u) (r + 1) fun k => A r k + A (r + 1) k) = f (rw' (rw' A r u) (r + 1) (A r)) + f (rw' (rw' A r u) (r + 1) (A (r + 1))) := fun u => F.add hr
  rw [split2] at h0
  have sp : ∀ w : Nat → Int, f (rw' (rw' A r fun k => A r k + A (r + 1) k) (r + 1) w) = f (rw' (rw' A r (A r)) (r + 1) w) + f (rw' (rw' A r (A (r + 1))) (r + 1) w) := fun w => by
    rw [rw_comm (by omega), rw_comm (r := r) (s := r + 1) (u := A r) (by omega), rw_comm (r := r) (s := r + 1) (u := A (r + 1)) (by omega)]
    exact F.add (by omega)
  rw [sp, sp, z (A r), z (A (r + 1)), rw_same, rw_same] at h0
  show f (sw A r (r + 1)) = _
  unfold sw
  omega
theorem sw_get {A : Mt} {r s i k : Nat} : sw A r s i k = if i = s then A r k else if i = r then A s k else A i k := by
  unfold sw rw'
  split
  · rfl
  · split <;> rfl
/-- two rows that are one -/
theorem Alt.two (F : Alt n f) : ∀ (d : Nat) {A : Mt} {r : Nat}, r + (d + 1) < n → (∀ k, k < n → A r k = A (r + (d + 1)) k) → f A = 0
  | 0, A, r, h, e => F.adj A r h e
  | d + 1, A, r, h, e => by
    have s := F.swAdj (A := A) (r := r + (d + 1)) (by omega)
    have z := F.two d (A := sw A (r + (d + 1)) (r + (d + 1) + 1)) (r := r) (by omega) fun k hk => by
      rw [sw_get, sw_get, if_neg (by omega), if_neg (by omega), if_neg (by omega), if_pos rfl, e k hk]
      rfl
    omega
theorem Alt.eq (F : Alt n f) {A : Mt} {r s : Nat} (hr : r < n) (hs : s < n) (hrs : r ≠ s) (e : ∀ k, k < n → A r k = A s k) : f A = 0 := by
  rcases Nat.lt_or_gt_of_ne hrs with h | h
  · obtain ⟨d, rfl⟩ : ∃ d, s = r + (d + 1) := ⟨s - r - 1, by omega⟩
    exact F.two d hs e
  · obtain ⟨d, rfl⟩ : ∃ d, r = s + (d + 1) := ⟨r - s - 1, by omega⟩
    exact F.two d hr fun k hk => (e k hk).symm
/-- a step of rows -/
theorem Alt.step (F : Alt n f) {A : Mt} {r s : Nat} {q : Int} (hr : r < n) (hs : s < n) (hrs : r ≠ s) : f (rw' A r fun k => A r k + q * A s k) = f A := by
  rw [F.add hr (u := A r) (v := fun k => q * A s k), rw_same, F.scale hr (u := A s), F.eq (A := rw' A r (A s)) hr hs hrs fun k _ => by
    unfold rw'
    rw [if_pos rfl, if_neg (Ne.symm hrs)]]
  omega
theorem Alt.swap (F : Alt n f) {A : Mt} {r s : Nat} (hr : r < n) (hs : s < n) (hrs : r ≠ s) : f (sw A r s) = - f A := by
  have z : ∀ u : Nat → Int, f (rw' (rw' A r u) s u) = 0 := fun u => F.eq hr hs hrs fun k _ => by
    unfold rw'
    rw [if_neg hrs, if_pos rfl, if_pos rfl]
  have h0 := z fun k => A r k + A s k
  have split2 : ∀ u : Nat → Int, f (rw' (rw' A r u) s fun k => A r k + A s k) = f (rw' (rw' A r u) s (A r)) + f (rw' (rw' A r u) s (A s)) := fun u => F.add hs
  rw [split2] at h0
  have sp : ∀ w : Nat → Int, f (rw' (rw' A r fun k => A r k + A s k) s w) = f (rw' (rw' A r (A r)) s w) + f (rw' (rw' A r (A s)) s w) := fun w => by
    rw [rw_comm hrs, rw_comm (u := A r) hrs, rw_comm (u := A s) hrs]
    exact F.add hr
  rw [sp, sp, z (A r), z (A s), rw_same, rw_same] at h0
  show f (sw A r s) = _
  unfold sw
  omega
end
/-- the unit rows -/
def e1 (j : Nat) : Nat → Int := fun k => if k = j then 1 else 0
def I1 : Mt := fun i => e1 i
/-- B with a row e_j ahead, a column of noughts at j -/
def lay (j : Nat) (B : Mt) : Mt := fun i k => if i = 0 then e1 j k else if k < j then B (i - 1) k else if k = j then 0 else B (i - 1) (k - 1)
section
variable {n : Nat} {f : Mt → Int}
theorem lay_0 {j k : Nat} {B : Mt} : lay j B 0 k = e1 j k := by unfold lay; rw [if_pos rfl]
theorem lay_s {j i k : Nat} {B : Mt} : lay j B (i + 1) k = if k < j then B i k else if k = j then 0 else B i (k - 1) := by
  unfold lay
  rw [if_neg (by omega)]
  simp only [Nat.add_sub_cancel]
theorem lay_rw {j r : Nat} {B : Mt} {v : Nat → Int} : lay j (rw' B r v) = rw' (lay j B) (r + 1) fun k => if k < j then v k else if k = j then 0 else v (k - 1) := by
  funext i k
  cases i with
  | zero =>
    rw [lay_0]
    unfold rw'
    rw [if_neg (by omega), lay_0]
  | succ i =>
    rw [lay_s]
    unfold rw'
    dsimp only
    by_cases h1 : i = r
    · subst h1; simp
    · have h2 : ¬ i + 1 = r + 1 := by omega
      simp only [h1, h2, if_false]
      rw [lay_s]
theorem Alt.layer (F : Alt (n + 1) f) {j : Nat} (hj : j < n + 1) : Alt n fun B => f (lay j B) where
  congr A B h := F.congr _ _ fun i k hi hk => by
    cases i with
    | zero => rw [lay_0, lay_0]
    | succ i =>
      rw [lay_s, lay_s]
      split
      · exact h _ _ (by omega) (by omega)
      · split
        · rfl
        · exact h _ _ (by omega) (by omega)
  lin A r a b u v hr := by
    show f (lay j (rw' A r _)) = a * f (lay j (rw' A r u)) + b * f (lay j (rw' A r v))
    rw [lay_rw, lay_rw, lay_rw, ← F.lin _ _ _ _ _ _ (by omega)]
    congr 2
    funext k
    split
    · rfl
    · split
      · omega
      · rfl
  adj A r hr e := F.adj _ (r + 1) (by omega) fun k hk => by
    rw [lay_s, lay_s]
    split
    · exact e k (by omega)
    · split
      · rfl
      · exact e _ (by omega)
theorem Alt.clear (F : Alt (n + 1) f) {A : Mt} {j : Nat} (hj : j < n + 1) (h0 : A 0 = e1 j) : ∀ m, m ≤ n → f (fun i k => if i ≠ 0 ∧ i ≤ m then A i k - A i j * e1 j k else A i k) = f A
  | 0, _ => by
    congr 1
    funext i k
    rw [if_neg (by omega)]
  | m + 1, hm => by
    rw [← F.clear hj h0 m (by omega)]
    have := F.step (A := fun i k => if i ≠ 0 ∧ i ≤ m then A i k - A i j * e1 j k else A i k) (r := m + 1) (s := 0) (q := - A (m + 1) j) (by omega) (by omega) (by omega)
    rw [← this]
    refine F.congr _ _ fun i k _ _ => ?_
    unfold rw'
    by_cases h : i = m + 1
    · subst h
      have n1 : ¬ (m + 1 ≠ 0 ∧ m + 1 ≤ m) := by omega
      have n2 : ¬ ((0 : Nat) ≠ 0 ∧ 0 ≤ m) := by omega
      rw [if_pos rfl, if_pos ⟨by omega, by omega⟩]
      simp only [n1, n2, if_false, h0]
      grind
    · rw [if_neg h]
      by_cases h2 : i ≠ 0 ∧ i ≤ m
      · have h3 : i ≠ 0 ∧ i ≤ m + 1 := by omega
        simp only [h2, h3, if_true]
      · have h3 : ¬ (i ≠ 0 ∧ i ≤ m + 1) := by omega
        simp only [h2, h3, if_false]
theorem lay_mn {A : Mt} {j : Nat} {i k : Nat} (h0 : A 0 = e1 j) : lay j (mn A j) i k = if i ≠ 0 then A i k - A i j * e1 j k else A i k := by
  cases i with
  | zero => rw [lay_0, if_neg (by omega), h0]
  | succ i =>
    rw [if_pos (show i + 1 ≠ 0 by omega), lay_s]
    unfold e1 mn sk
    by_cases h1 : k < j
    · rw [if_pos h1, if_pos h1, if_neg (by omega : ¬ k = j)]; omega
    · rw [if_neg h1]
      by_cases h2 : k = j
      · subst h2
        rw [if_pos rfl, if_pos rfl]; omega
      · rw [if_neg h2, if_neg h2, if_neg (by omega : ¬ k - 1 < j), show k - 1 + 1 = k from by omega]; omega
/-- the unit rows with e_j ahead -/
theorem Alt.units (F : Alt (n + 1) f) : ∀ j, j < n + 1 → f (lay j I1) = sgn j * f I1
  | 0, _ => by
    have : f (lay 0 I1) = f I1 := F.congr _ _ fun i k _ _ => by
      unfold lay I1 e1
      grind
    rw [this]
    unfold sgn
    simp
  | j + 1, hj => by
    have ih := F.units j (by omega)
    have s := F.swap (A := lay j I1) (r := 0) (s := j + 1) (by omega) hj (by omega)
    have : f (lay (j + 1) I1) = f (sw (lay j I1) 0 (j + 1)) := F.congr _ _ fun i k _ _ => by
      rw [sw_get]
      unfold lay I1 e1
      grind
    rw [this, s, ih, sgn_s]
    grind
theorem Alt.unique : ∀ {n : Nat} {f : Mt → Int}, Alt n f → ∀ A, f A = D n A * f I1
  | 0, f, F, A => by
    show f A = 1 * f I1
    rw [F.congr A I1 fun i k hi _ => absurd hi (by omega)]; omega
  | n + 1, f, F, A => by
    have h1 : f A = sm (n + 1) fun j => A 0 j * f (rw' A 0 (e1 j)) := by
      rw [← F.sum (by omega) (n + 1)]
      refine F.congr _ _ fun i k _ hk => ?_
      unfold rw'
      split
      · rename_i hi
        subst hi
        dsimp only
        rw [sm_one (f := fun j => A 0 j * e1 j k) hk fun j _ hj => by unfold e1; rw [if_neg (Ne.symm hj)]; omega]
        unfold e1; simp
      · rfl
    rw [h1, D_s, ← Int.mul_comm, ← sm_mul]
    refine sm_congr fun j hj => ?_
    have h2 : f (rw' A 0 (e1 j)) = f (lay j (mn A j)) := by
      have z : rw' A 0 (e1 j) 0 = e1 j := by unfold rw'; funext k; rw [if_pos rfl]
      rw [← F.clear hj z n (Nat.le_refl _)]
      refine F.congr _ _ fun i k hi hk => ?_
      rw [← mn_rw0 (v := e1 j), lay_mn z]
      by_cases h : i = 0
      · rw [if_neg (by omega), if_neg (by omega)]
      · rw [if_pos ⟨h, by omega⟩, if_pos h]
    rw [h2, (F.layer hj).unique (mn A j), F.units j hj]
    grind
end
theorem D_one : ∀ n, D n I1 = 1
  | 0 => rfl
  | n + 1 => by
    rw [D_s, sm_one (j := 0) (by omega) fun j _ hj => by unfold I1 e1; rw [if_neg hj]; grind]
    have : D n (mn I1 0) = D n I1 := D_congr fun i k _ _ => by
      unfold mn I1 e1 sk
      grind
    rw [this, D_one n]
    unfold sgn I1 e1
    simp
/-! products -/
def mul (n : Nat) (A B : Mt) : Mt := fun i k => sm n fun l => A i l * B l k
theorem D_mul {n : Nat} {A B : Mt} : D n (mul n A B) = D n A * D n B := by
  have F : Alt n fun A => D n (mul n A B) := {
    congr := fun A A' h => D_congr fun i k hi hk => by
      unfold mul
      exact sm_congr fun l hl => by rw [h i l hi hl]
    lin := fun A r a b u v hr => by
      have e : ∀ w : Nat → Int, mul n (rw' A r w) B = rw' (mul n A B) r fun k => sm n fun l => w l * B l k := fun w => by
        funext i k
        unfold mul rw'
        split <;> rfl
      show D n (mul n (rw' A r _) B) = a * D n (mul n (rw' A r u) B) + b * D n (mul n (rw' A r v) B)
      rw [e, e, e, ← D_lin _ _ _ _ _ _ hr]
      congr 2
      funext k
      rw [← sm_lin]
      exact sm_congr fun l _ => by grind
    adj := fun A r hr e => D_adj _ r hr fun k hk => by
      unfold mul
      exact sm_congr fun l hl => by rw [e l hl] }
  rw [F.unique A]
  congr 1
  refine D_congr fun i k hi hk => ?_
  unfold mul I1 e1
  rw [sm_one hi fun l _ hl => by rw [if_neg hl]; omega, if_pos rfl, Int.one_mul]
/-! rows as columns -/
def tr (A : Mt) : Mt := fun i k => A k i
theorem C_lin : ∀ {n : Nat} (A : Mt) (c : Nat) (a b : Int) (u v : Nat → Int), c < n → D n (tr (rw' (tr A) c fun k => a * u k + b * v k)) = a * D n (tr (rw' (tr A) c u)) + b * D n (tr (rw' (tr A) c v))
  | 0, _, _, _, _, _, _, h => by omega
  | n + 1, A, c, a, b, u, v, h => by
    rw [D_s, D_s, D_s, ← sm_lin]
    refine sm_congr fun j hj => ?_
    have same : ∀ w : Nat → Int, j = c → mn (tr (rw' (tr A) c w)) j = mn A j := fun w e => by
      subst e
      funext i k
      unfold mn tr rw'
      rw [if_neg sk_ne]
    have other : ∀ (w : Nat → Int) (c' : Nat), sk j c' = c → mn (tr (rw' (tr A) c w)) j = tr (rw' (tr (mn A j)) c' fun i => w (i + 1)) := fun w c' e => by
      funext i k
      unfold mn tr rw'
      by_cases h2 : k = c'
      · rw [if_pos h2, if_pos (by rw [h2]; exact e)]
      · rw [if_neg h2, if_neg fun z => h2 (by
          have : sk j k = sk j c' := z.trans e.symm
          unfold sk at this
          split at this <;> split at this <;> omega)]
    by_cases hc : j = c
    · rw [same _ hc, same _ hc, same _ hc]
      subst hc
      unfold tr rw'
      simp only [if_true]
      grind
    · obtain ⟨c', hc', hl⟩ : ∃ c', sk j c' = c ∧ c' < n := by
        unfold sk
        by_cases h1 : c < j
        · exact ⟨c, by rw [if_pos h1], by omega⟩
        · exact ⟨c - 1, by rw [if_neg (by omega)]; omega, by omega⟩
      rw [other _ c' hc', other _ c' hc', other _ c' hc', C_lin (mn A j) c' a b (fun i => u (i + 1)) (fun i => v (i + 1)) hl]
      unfold tr rw'
      rw [if_neg hc, if_neg hc, if_neg hc]
      grind
theorem C_adj : ∀ {n : Nat} (A : Mt) (c : Nat), c + 1 < n → (∀ k, k < n → A k c = A k (c + 1)) → D n A = 0
  | 0, A, c, h, _ => by omega
  | n + 1, A, c, h, e => by
    have z : ∀ j, j < n + 1 → j ≠ c → j ≠ c + 1 → sgn j * A 0 j * D n (mn A j) = 0 := fun j hj h1 h2 => by
      have : D n (mn A j) = 0 := by
        by_cases hl : j < c
        · refine C_adj (mn A j) (c - 1) (by omega) fun k hk => ?_
          unfold mn sk
          rw [if_neg (by omega), if_neg (by omega), show c - 1 + 1 = c from by omega]
          exact e _ (by omega)
        · refine C_adj (mn A j) c (by omega) fun k hk => ?_
          unfold mn sk
          rw [if_pos (by omega), if_pos (by omega)]
          exact e _ (by omega)
      rw [this, Int.mul_zero]
    have two : ∀ (m : Nat) (g : Nat → Int), c + 1 < m → (∀ j, j < m → j ≠ c → j ≠ c + 1 → g j = 0) → sm m g = g c + g (c + 1) := fun m g hm hz => by
      have h1 : sm m g = sm m (fun j => if j = c then g c else 0) + sm m (fun j => if j = c then 0 else g j) := by
        rw [← sm_add]
        refine sm_congr fun j _ => ?_
        split
        · rename_i hj; rw [hj]; omega
        · omega
      rw [h1, sm_one (j := c) (by omega) fun j _ hj => if_neg hj, sm_one (j := c + 1) hm fun j hj hne => by
        split
        · rfl
        · rename_i hc; exact hz j hj hc hne]
      rw [if_pos rfl, if_neg (by omega)]
    rw [D_s, two (n + 1) _ h z, sgn_s, ← e 0 (by omega)]
    have : D n (mn A (c + 1)) = D n (mn A c) := D_congr fun i k hi hk => by
      unfold mn sk
      by_cases h1 : k < c
      · rw [if_pos (by omega), if_pos h1]
      · by_cases h2 : k = c
        · subst h2
          rw [if_pos (by omega), if_neg (by omega)]
          exact e _ (by omega)
        · rw [if_neg (by omega), if_neg h1]
    rw [this]
    grind
theorem C_alt (n : Nat) : Alt n fun A => D n (tr A) where
  congr A B h := D_congr fun i k hi hk => h k i hk hi
  lin A r a b u v hr := C_lin (tr A) r a b u v hr
  adj A r hr e := C_adj (tr A) r hr fun k hk => e k hk
theorem D_tr {n : Nat} {A : Mt} : D n (tr A) = D n A := by
  have := (C_alt n).unique A
  have e : tr I1 = I1 := by
    funext i k
    unfold tr I1 e1
    by_cases h : i = k
    · rw [if_pos h, if_pos h.symm]
    · rw [if_neg h, if_neg (fun z => h z.symm)]
  rw [e, D_one, Int.mul_one] at this
  exact this
end Dt
/-! ## determinants: by steps without fractions -/
namespace Dt
theorem cramer {m : Nat} (C : Mt) (r : Nat → Int) : ∃ a : Nat → Int, ∀ j, j < m → sm m (fun i => a i * C j i) = D m C * r j := by
  let E : Nat → Int := fun i => D m fun k c => if sk i c < m then C k (sk i c) else r k
  have hE : E m = D m C := D_congr fun k c _ hc => by
    have : sk m c = c := by unfold sk; rw [if_pos hc]
    rw [this, if_pos hc]
  refine ⟨fun i => - sgn m * sgn i * E i, fun j hj => ?_⟩
  let N : Mt := fun i c => if c < m then C (if i = 0 then j else i - 1) c else r (if i = 0 then j else i - 1)
  have z : D (m + 1) N = 0 := (D_alt (m + 1)).eq (r := 0) (s := j + 1) (by omega) (by omega) (by omega) fun k _ => by
    simp only [N]
    simp
  rw [D_s] at z
  have e : ∀ i, D m (mn N i) = E i := fun i => D_congr fun k c _ _ => by
    simp only [mn, N]
    simp
  have z2 : sm m (fun i => sgn i * C j i * E i) + sgn m * r j * E m = 0 := by
    have zz : sm m (fun j => sgn j * N 0 j * D m (mn N j)) + sgn m * N 0 m * D m (mn N m) = 0 := z
    rw [← zz, e m]
    have w : sm m (fun i => sgn i * C j i * E i) = sm m (fun j => sgn j * N 0 j * D m (mn N j)) := sm_congr fun i hi => by
      rw [e]
      simp only [N]
      simp [hi]
    rw [w]
    simp only [N]
    simp
  have s1 : sm m (fun i => - sgn m * sgn i * E i * C j i) = - sgn m * sm m (fun i => sgn i * C j i * E i) := by
    rw [← sm_mul]
    exact sm_congr fun i _ => by grind
  rw [s1]
  have := sgn_sq (j := m)
  rw [hE] at z2
  grind
/-- a last row of noughts but at its end -/
theorem D_end : ∀ {m : Nat} {M : Mt}, (∀ k, k < m → M m k = 0) → D (m + 1) M = M m m * D m M
  | 0, M, _ => by
    simp [D, sm, sgn]
  | m + 1, M, h => by
    show sm (m + 1) (fun j => sgn j * M 0 j * D (m + 1) (mn M j)) + sgn (m + 1) * M 0 (m + 1) * D (m + 1) (mn M (m + 1)) = _
    have z : D (m + 1) (mn M (m + 1)) = 0 := (D_alt (m + 1)).zero (r := m) (by omega) fun k hk => by
      unfold mn sk
      rw [if_pos hk]
      exact h k hk
    rw [z, Int.mul_zero, Int.add_zero, D_s, ← sm_mul]
    refine sm_congr fun j hj => ?_
    have e1 : sk j m = m + 1 := by unfold sk; rw [if_neg (by omega)]
    rw [D_end (m := m) (M := mn M j) fun k hk => h (sk j k) (by unfold sk; split <;> omega)]
    show _ * (M (m + 1) (sk j m) * _) = _
    rw [e1]
    grind
/-- a row times a, and others times something, where the others stand ahead -/
theorem D_comb {n m r : Nat} {M : Mt} {a : Int} {g : Nat → Int} (hm : m ≤ r) (hr : r < n) : D n (rw' M r fun c => a * M r c + sm m fun i => g i * M i c) = a * D n M := by
  have F := D_alt n
  rw [F.add hr (u := fun c => a * M r c), F.scale hr (u := M r), rw_same, F.sum hr m (c := g) (u := M)]
  rw [sm_zero fun i hi => by
    rw [F.eq (A := rw' M r (M i)) (r := r) (s := i) hr (by omega) (by omega) fun k _ => by
      unfold rw'
      rw [if_pos rfl, if_neg (by omega)]]
    omega]
  omega
/-- the first m rows and the row k, the first m columns and the column j -/
def bd (m : Nat) (M : Mt) (k j : Nat) : Mt := fun i c => M (if i < m then i else k) (if c < m then c else j)
theorem red {m : Nat} {M : Mt} (hD : D m M ≠ 0) (k : Nat) : ∃ a : Nat → Int, (∀ c, c < m → D m M * M k c + sm m (fun i => a i * M i c) = 0) ∧ ∀ j, D (m + 1) (bd m M k j) = D m M * M k j + sm m (fun i => a i * M i j) := by
  obtain ⟨a, ha⟩ := cramer (m := m) (tr M) (M k)
  rw [D_tr] at ha
  have ha : ∀ c, c < m → sm m (fun i => a i * M i c) = D m M * M k c := ha
  have neg : ∀ c, sm m (fun i => (- a i) * M i c) = - sm m (fun i => a i * M i c) := fun c => by
    have := sm_mul (n := m) (a := -1) (f := fun i => a i * M i c)
    rw [show - sm m (fun i => a i * M i c) = -1 * sm m (fun i => a i * M i c) from by omega, ← this]
    exact sm_congr fun i _ => by grind
  refine ⟨fun i => - a i, fun c hc => by rw [neg, ha c hc]; omega, fun j => ?_⟩
  have h1 := D_comb (n := m + 1) (m := m) (r := m) (M := bd m M k j) (a := D m M) (g := fun i => - a i) (Nat.le_refl _) (by omega)
  have row : ∀ c, c ≤ m → (D m M * bd m M k j m c + sm m fun i => (- a i) * bd m M k j i c) = D m M * M k (if c < m then c else j) + sm m (fun i => (- a i) * M i (if c < m then c else j)) := fun c _ => by
    unfold bd
    rw [if_neg (Nat.lt_irrefl _)]
    congr 1
    exact sm_congr fun i hi => by rw [if_pos hi]
  have h2 : D (m + 1) (rw' (bd m M k j) m fun c => D m M * bd m M k j m c + sm m fun i => (- a i) * bd m M k j i c) = (D m M * M k j + sm m (fun i => (- a i) * M i j)) * D m M := by
    rw [D_end (m := m) fun c hc => by
      unfold rw'
      rw [if_pos rfl]
      dsimp only
      rw [row c (by omega), if_pos hc, neg, ha c hc]; omega]
    congr 1
    · unfold rw'
      rw [if_pos rfl]
      dsimp only
      rw [row m (by omega), if_neg (Nat.lt_irrefl _)]
    · exact D_congr fun i c hi hc => by
        unfold rw' bd
        rw [if_neg (by omega), if_pos hi, if_pos hc]
  rw [h2] at h1
  have h3 : D m M * (D m M * M k j + sm m (fun i => (- a i) * M i j)) = D m M * D (m + 1) (bd m M k j) := by rw [← h1]; grind
  exact (Int.eq_of_mul_eq_mul_left hD h3).symm
theorem sylvester {m : Nat} {M : Mt} (hD : D m M ≠ 0) (hp : D (m + 1) (bd m M m m) ≠ 0) : D (m + 1) (bd m M m m) * D (m + 1) (bd m M (m + 1) (m + 1)) - D (m + 1) (bd m M (m + 1) m) * D (m + 1) (bd m M m (m + 1)) = D m M * D (m + 2) M := by
  obtain ⟨a, a0, a1⟩ := red hD m
  obtain ⟨b, b0, b1⟩ := red hD (m + 1)
  let R : Nat → Int := fun c => D m M * M m c + sm m (fun i => a i * M i c)
  let R' : Nat → Int := fun c => D m M * M (m + 1) c + sm m (fun i => b i * M i c)
  have F := D_alt (m + 2)
  have s1 : D (m + 2) (rw' M m R) = D m M * D (m + 2) M := D_comb (Nat.le_refl _) (by omega)
  have s2 : D (m + 2) (rw' (rw' M m R) (m + 1) R') = D m M * D (m + 2) (rw' M m R) := by
    have := D_comb (n := m + 2) (m := m) (r := m + 1) (M := rw' M m R) (a := D m M) (g := b) (by omega) (by omega)
    rw [← this]
    congr 2
    funext c
    simp only [R']
    unfold rw'
    rw [if_neg (by omega)]
    congr 1
    exact sm_congr fun i hi => by rw [if_neg (by omega)]
  rw [a1 m] at hp
  rw [a1 m, b1 (m + 1), b1 m, a1 (m + 1)]
  change R m ≠ 0 at hp
  show R m * R' (m + 1) - R' m * R (m + 1) = _
  have hz : ∀ c, c < m → R c = 0 := a0
  have hz' : ∀ c, c < m → R' c = 0 := b0
  have s3 : D (m + 2) (rw' (rw' M m R) (m + 1) fun c => R m * R' c + (- R' m) * R c) = R m * D (m + 2) (rw' (rw' M m R) (m + 1) R') := by
    rw [F.lin _ _ _ _ _ _ (by omega)]
    rw [F.eq (A := rw' (rw' M m R) (m + 1) R) (r := m) (s := m + 1) (by omega) (by omega) (by omega) fun k _ => by
      unfold rw'
      rw [if_neg (by omega), if_pos rfl, if_pos rfl]]
    omega
  have s4 : D (m + 2) (rw' (rw' M m R) (m + 1) fun c => R m * R' c + (- R' m) * R c) = (R m * R' (m + 1) - R' m * R (m + 1)) * (R m * D m M) := by
    rw [D_end (m := m + 1) fun c hc => by
      unfold rw'
      rw [if_pos rfl]
      dsimp only
      by_cases h : c = m
      · subst h; grind
      · rw [hz c (by omega), hz' c (by omega)]; omega]
    rw [D_end (m := m) fun c hc => by
      unfold rw'
      rw [if_neg (by omega), if_pos rfl]
      exact hz c hc]
    congr 1
    · unfold rw'
      rw [if_pos rfl]; grind
    · congr 1
      · unfold rw'
        rw [if_neg (by omega), if_pos rfl]
      · exact D_congr fun i c hi _ => by
          unfold rw'
          rw [if_neg (by omega), if_neg (by omega)]
  rw [s4, s2, s1] at s3
  have h1 : (R m * D m M) * (R m * R' (m + 1) - R' m * R (m + 1)) = (R m * D m M) * (D m M * D (m + 2) M) := by grind
  exact Int.eq_of_mul_eq_mul_left (Int.mul_ne_zero hp hD) h1
/-- one step -/
theorem bareiss {t k j : Nat} {A : Mt} (hk : t < k) (hD : D t A ≠ 0) (hp : D (t + 1) (bd t A t t) ≠ 0) : D (t + 1) (bd t A t t) * D (t + 1) (bd t A k j) - D (t + 1) (bd t A k t) * D (t + 1) (bd t A t j) = D t A * D (t + 2) (bd (t + 1) A k j) := by
  let M : Mt := fun i c => A (if i < t then i else if i = t then t else k) (if c < t then c else if c = t then t else j)
  have c0 : D t M = D t A := D_congr fun i c hi hc => by simp only [M]; rw [if_pos hi, if_pos hc]
  have c1 : D (t + 1) (bd t M t t) = D (t + 1) (bd t A t t) := D_congr fun i c hi hc => by simp only [M, bd]; grind
  have c2 : D (t + 1) (bd t M (t + 1) (t + 1)) = D (t + 1) (bd t A k j) := D_congr fun i c hi hc => by simp only [M, bd]; grind
  have c3 : D (t + 1) (bd t M (t + 1) t) = D (t + 1) (bd t A k t) := D_congr fun i c hi hc => by simp only [M, bd]; grind
  have c4 : D (t + 1) (bd t M t (t + 1)) = D (t + 1) (bd t A t j) := D_congr fun i c hi hc => by simp only [M, bd]; grind
  have c5 : D (t + 2) M = D (t + 2) (bd (t + 1) A k j) := D_congr fun i c hi hc => by simp only [M, bd]; grind
  have := sylvester (m := t) (M := M) (by rw [c0]; exact hD) (by rw [c1]; exact hp)
  rw [c0, c1, c2, c3, c4, c5] at this
  exact this
/-- no pivot: the determinant is 0 -/
theorem no_pivot {n t : Nat} {A : Mt} (ht : t < n) (hD : D t A ≠ 0) (h : ∀ k, t ≤ k → k < n → D (t + 1) (bd t A k t) = 0) : D n A = 0 := by
  have hD' : D t (tr A) ≠ 0 := by rw [D_tr]; exact hD
  obtain ⟨a, a0, a1⟩ := red hD' t
  have z : ∀ c, c < n → D t (tr A) * tr A t c + sm t (fun i => a i * tr A i c) = 0 := fun c hc => by
    by_cases h1 : c < t
    · exact a0 c h1
    · rw [← a1 c]
      have := h c (by omega) hc
      rw [← this, ← D_tr (A := bd t A c t)]
      rfl
  have h1 := D_comb (n := n) (m := t) (r := t) (M := tr A) (a := D t (tr A)) (g := a) (Nat.le_refl _) ht
  rw [(D_alt n).zero (A := rw' (tr A) t _) (r := t) ht fun c hc => by
    unfold rw'
    rw [if_pos rfl]
    exact z c hc, D_tr, D_tr] at h1
  rcases Int.mul_eq_zero.mp h1.symm with e | e
  · exact absurd e hD
  · exact e
end Dt
/-! ## how great a determinant can be; the steps without fractions -/
namespace Dt
theorem sm_le {n : Nat} {f : Nat → Int} {b : Nat} (h : ∀ i, i < n → (f i).natAbs ≤ b) : (sm n f).natAbs ≤ n * b := by
  induction n with
  | zero => simp [sm]
  | succ n ih =>
    unfold sm
    have h1 := ih fun i hi => h i (by omega)
    have h2 := h n (by omega)
    have h3 := Int.natAbs_add_le (sm n f) (f n)
    rw [Nat.succ_mul]
    omega
def fb : Nat → Nat → Nat
  | 0, _ => 1
  | n + 1, b => (n + 1) * (b * fb n b)
theorem D_le : ∀ {n b : Nat} {A : Mt}, (∀ i k, i < n → k < n → (A i k).natAbs ≤ b) → (D n A).natAbs ≤ fb n b
  | 0, b, A, _ => by unfold D fb; decide
  | n + 1, b, A, h => by
    rw [D_s]
    unfold fb
    refine sm_le fun j hj => ?_
    have h1 : (D n (mn A j)).natAbs ≤ fb n b := D_le fun i k hi hk => h _ _ (by omega) (sk_lt hk)
    have h2 := h 0 j (by omega) hj
    have h3 : (sgn j).natAbs = 1 := by unfold sgn; split <;> rfl
    rw [Int.natAbs_mul, Int.natAbs_mul, h3, Nat.one_mul]
    exact Nat.mul_le_mul h2 h1
theorem fb_mono {n m b : Nat} (h : n ≤ m) (hb : 1 ≤ b) : fb n b ≤ fb m b := by
  induction m with
  | zero => rw [Nat.le_zero.mp h]; exact Nat.le_refl _
  | succ m ih =>
    by_cases e : n = m + 1
    · rw [e]; exact Nat.le_refl _
    · refine Nat.le_trans (ih (by omega)) ?_
      conv => rhs; unfold fb
      have : 1 * (1 * fb m b) ≤ (m + 1) * (b * fb m b) := Nat.mul_le_mul (by omega) (Nat.mul_le_mul hb (Nat.le_refl _))
      omega
/-- entries below 10^62, at most eight rows -/
def p62 : Nat := 10 ^ 62
theorem D_small {n : Nat} {A : Mt} (hn : n ≤ 8) (h : ∀ i k, i < n → k < n → (A i k).natAbs ≤ p62) : (D n A).natAbs < 2 ^ 2000 :=
  Nat.lt_of_le_of_lt (Nat.le_trans (D_le h) (fb_mono hn (by decide))) (by decide +kernel)
theorem log_lt {x : Int} {k : Nat} (hk : 0 < k) (h : x.natAbs < 2 ^ k) : x.natAbs.log2 < k := by
  by_cases e : x.natAbs = 0
  · rw [e]; exact hk
  · exact (Nat.log2_lt e).mpr h
/-- what stands when t steps are done -/
structure Br (n : Nat) (A0 : Mt) (t : Nat) (w : Mt) (s l : Int) (A : Mt) : Prop where
  fl : l = D t A
  nz : l ≠ 0
  fw : ∀ k j, t ≤ k → k < n → t ≤ j → j < n → w k j = D (t + 1) (bd t A k j)
  fz : ∀ k j, t ≤ k → k < n → j < t → w k j = 0
  fs : s = 1 ∨ s = -1
  fd : s * D n A = D n A0
  fb : ∀ i k, i < n → k < n → (A i k).natAbs ≤ p62
theorem Br.start {n : Nat} {A0 : Mt} (hb : ∀ i k, i < n → k < n → (A0 i k).natAbs ≤ p62) : Br n A0 0 A0 1 1 A0 where
  fl := rfl
  nz := by decide
  fw k j _ _ _ _ := by
    rw [D_s]
    unfold sm sm D sgn bd
    simp
  fz k j _ _ h := by omega
  fs := .inl rfl
  fd := by rw [Int.one_mul]
  fb := hb
variable {n t : Nat} {A0 w A : Mt} {s l : Int}
theorem bd_tt : D (t + 1) (bd t A t t) = D (t + 1) A := D_congr fun i c hi hc => by unfold bd; grind
theorem Br.small (I : Br n A0 t w s l A) (hn : n ≤ 8) (ht : t < n) {k j : Nat} (hk : t ≤ k) (hkn : k < n) (hj : j < n) : (w k j).natAbs < 2 ^ 2000 := by
  by_cases h : j < t
  · rw [I.fz k j hk hkn h]; decide +kernel
  · rw [I.fw k j hk hkn (by omega) hj]
    refine D_small (by omega) fun i c hi hc => I.fb _ _ ?_ ?_ <;> split <;> omega
theorem Br.lsm (I : Br n A0 t w s l A) (hn : n ≤ 8) (ht : t ≤ n) : l.natAbs < 2 ^ 2000 := by
  rw [I.fl]
  exact D_small (by omega) fun i c hi hc => I.fb _ _ (by omega) (by omega)
theorem Br.none (I : Br n A0 t w s l A) (ht : t < n) (h : ∀ k, t ≤ k → k < n → w k t = 0) : D n A0 = 0 := by
  rw [← I.fd, no_pivot ht (by rw [← I.fl]; exact I.nz) fun k h1 h2 => by rw [← I.fw k t h1 h2 (Nat.le_refl _) ht]; exact h k h1 h2, Int.mul_zero]
theorem Br.swp (I : Br n A0 t w s l A) {p : Nat} (ht : t < p) (hp : p < n) : Br n A0 t (fun i => if i = p then w t else if i = t then w p else w i) (-s) l (sw A t p) where
  fl := by
    rw [I.fl]
    exact D_congr fun i c hi hc => by rw [sw_get, if_neg (by omega), if_neg (by omega)]
  nz := I.nz
  fw k j h1 h2 h3 h4 := by
    have e : ∀ q, k ≠ p → k ≠ t ∨ q = p → True := fun _ _ _ => trivial
    have key : ∀ q, t ≤ q → q < n → (∀ c, sw A t p k c = A q c) → D (t + 1) (bd t (sw A t p) k j) = D (t + 1) (bd t A q j) := fun q _ _ hq => D_congr fun i c hi hc => by
      unfold bd
      by_cases h : i < t
      · rw [if_pos h, if_pos h, sw_get, if_neg (by omega), if_neg (by omega)]
      · rw [if_neg h, if_neg h, hq]
    by_cases hk : k = p
    · subst hk
      rw [if_pos rfl, key t (Nat.le_refl _) (by omega) fun c => by rw [sw_get, if_pos rfl]]
      exact I.fw t j (Nat.le_refl _) (by omega) h3 h4
    · rw [if_neg hk]
      by_cases hkt : k = t
      · subst hkt
        rw [if_pos rfl, key p (by omega) hp fun c => by rw [sw_get, if_neg hk, if_pos rfl]]
        exact I.fw p j (by omega) hp h3 h4
      · rw [if_neg hkt, key k h1 h2 fun c => by rw [sw_get, if_neg hk, if_neg hkt]]
        exact I.fw k j h1 h2 h3 h4
  fz k j h1 h2 h3 := by
    split
    · exact I.fz t j (Nat.le_refl _) (by omega) h3
    · split
      · exact I.fz p j (by omega) hp h3
      · exact I.fz k j h1 h2 h3
  fs := by have := I.fs; omega
  fd := by
    rw [(D_alt n).swap (by omega) hp (by omega), ← I.fd, Int.neg_mul_neg]
  fb i k hi hk := by
    rw [sw_get]
    split
    · exact I.fb _ _ (by omega) hk
    · split
      · exact I.fb _ _ hp hk
      · exact I.fb _ _ hi hk
/-- one step: what the rows behind become -/
theorem Br.div (I : Br n A0 t w s l A) (hp : w t t ≠ 0) {k j : Nat} (hk : t < k) (hkn : k < n) (hj : j < n) : (w t t * w k j - w k t * w t j).fdiv l = if j ≤ t then 0 else D (t + 2) (bd (t + 1) A k j) := by
  have htn : t < n := by omega
  by_cases h : j < t
  · rw [if_pos (by omega), I.fz k j (by omega) hkn h, I.fz t j (Nat.le_refl _) htn h]; simp
  · by_cases h2 : j = t
    · subst h2
      rw [if_pos (Nat.le_refl _), show w j j * w k j - w k j * w j j = 0 by grind]; simp
    · rw [if_neg (by omega)]
      rw [I.fw k j (by omega) hkn (by omega) hj, I.fw k t (by omega) hkn (Nat.le_refl _) htn, I.fw t j (Nat.le_refl _) htn (by omega) hj, I.fw t t (Nat.le_refl _) htn (Nat.le_refl _) htn]
      have hl := I.nz
      rw [bareiss hk (by rw [← I.fl]; exact hl) (by rw [← I.fw t t (Nat.le_refl _) htn (Nat.le_refl _) htn]; exact hp), ← I.fl]
      exact Int.mul_fdiv_cancel_left _ hl
theorem Br.step (I : Br n A0 t w s l A) (ht : t < n) (hp : w t t ≠ 0) : Br n A0 (t + 1) (fun k => if t < k ∧ k < n then fun j => (w t t * w k j - w k t * w t j).fdiv l else w k) s (w t t) A where
  fl := by rw [I.fw t t (Nat.le_refl _) ht (Nat.le_refl _) ht, bd_tt]
  nz := hp
  fw k j h1 h2 h3 h4 := by
    rw [if_pos ⟨by omega, h2⟩, I.div hp (by omega) h2 h4, if_neg (by omega)]
  fz k j h1 h2 h3 := by
    rw [if_pos ⟨by omega, h2⟩, I.div hp (by omega) h2 (by omega), if_pos (by omega)]
  fs := I.fs
  fd := I.fd
  fb := I.fb
theorem Br.done (I : Br n A0 n w s l A) : s * l = D n A0 := by rw [I.fl, I.fd]
end Dt
/-! ## the program's determinant -/
theorem zip_mapR {c : Nat} {F G : Nat → PyData} : zipV ((List.range c).map F) ((List.range c).map G) = (List.range c).map fun i => .two (F i) (G i) := zip_map
theorem pivot_v {n c t : Nat} {w : Nat → Nat → Int} (hn : n ≤ 8) (ht : t < n) (hc : t < c) : (∃ i : Nat, t ≤ i ∧ i < n ∧ w i t ≠ 0 ∧ w_pivot_row [mkP n c w, .int t] = .ok (.int i)) ∨ ((∀ k, t ≤ k → k < n → w k t = 0) ∧ w_pivot_row [mkP n c w, .int t] = .ok .none) := by
  unfold w_pivot_row em_pivot_row
  walk_at "t"
  unfold el_pivot_row_1
  walk_at "t"
  generalize ef : forV _ _ _ _ _ = F
  rcases for_rngXl ef (fun i => w (t + i) t ≠ 0) (fun i => .rt (.int ((t + i : Nat) : Int))) (fun i hi => by
    have hi' : t + i < n := by omega
    rw [show (t : Int) + (i : Nat) = ((t + i : Nat) : Int) by omega]
    by_cases h : w (t + i) t = 0
    · refine .inr ⟨fun z => z h, fun K => ?_⟩
      walk_at "t"
    · refine .inl ⟨h, fun K => ?_⟩
      walk_at "t") with ⟨i, hi, q, rfl⟩ | ⟨q, rfl⟩
  · refine .inl ⟨t + i, by omega, by omega, q, ?_⟩
    walk_at "t"
  · refine .inr ⟨fun k h1 h2 => ?_, ?_⟩
    · have := q (k - t) (by omega)
      rw [show t + (k - t) = k by omega] at this
      exact Classical.not_not.mp this
    · walk_at "t"
theorem mul_ok {a b : Int} (h1 : a.natAbs < 2 ^ 2000) (h2 : b.natAbs < 2 ^ 2000) : mulB a b = true := by
  have := Dt.log_lt (by omega) h1
  have := Dt.log_lt (by omega) h2
  unfold mulB
  exact decide_eq_true (by omega)
theorem div_ok {a l : Int} (h0 : l ≠ 0) (h1 : l.natAbs < 2 ^ 2000) : Zx.divF a l = true := by
  have := Dt.log_lt (by omega) h1
  unfold Zx.divF
  exact decide_eq_true ⟨h0, by omega⟩
open Dt in
theorem line5_v {n t k : Nat} {A0 A w u : Nat → Nat → Int} {s l : Int} {g i5 : PyData} (I : Br n A0 t w s l A) (hn : n ≤ 8) (ht : t < k) (hk : k < n) (e1 : u t = w t) (e2 : u k = w k) :
    ee_determinant_1 [.v g, .v (mkP n n u), .v (.int s), .v (.int l), .v (.int t), .v i5, .v (.int k), .un, .un, .un] = .ok (mkR n fun j => (w t t * w k j - w k t * w t j).fdiv l) [.v g, .v (mkP n n u), .v (.int s), .v (.int l), .v (.int t), .v i5, .v (.int k), .un, .un, .un] := by
  have htn : t < n := by omega
  simp only [← e1, ← e2]
  unfold ee_determinant_1
  walk_at "t"
  rw [zip_map, lc_lmap (o := fun j => .int ((u t t * u k j - u k t * u t j).fdiv l)) fun j hj => ?_]
  · walk_at "t"
  · have hj := List.mem_range.mp hj
    have b1 := I.small hn htn (Nat.le_refl _) htn htn
    have b2 := I.small hn htn (k := k) (by omega) hk hj
    have b3 := I.small hn htn (k := k) (by omega) hk htn
    have b4 := I.small hn htn (Nat.le_refl _) htn hj
    rw [← e1] at b1 b4
    rw [← e2] at b2 b3
    have h1 := mul_ok b1 b2
    have h2 := mul_ok b3 b4
    have h3 := div_ok (a := u t t * u k j - u k t * u t j) I.nz (I.lsm hn (by omega))
    walk_at "t"
    rw [o_mul h1]
    walk_at "t"
    rw [o_mul h2]
    walk_at "t"
    rw [o_fdv h3]
    walk_at "t"
open Dt in
theorem rows5_v {n t : Nat} {A0 A w : Nat → Nat → Int} {s l : Int} {g i5 : PyData} (I : Br n A0 t w s l A) (hn : n ≤ 8) (ht : t < n) :
    el_determinant_1 [.v g, .v (mkP n n w), .v (.int s), .v (.int l), .v (.int t), .v i5, .un, .un, .un, .un] = .nx [.v g, .v (mkP n n fun k => if t < k ∧ k < n then fun j => (w t t * w k j - w k t * w t j).fdiv l else w k), .v (.int s), .v (.int l), .v (.int t), .v i5, .un, .un, .un, .un] := by
  unfold el_determinant_1
  walk_at "t"
  let f : Nat → Nat → Nat → Int := fun m k => if t < k ∧ k < t + 1 + m then fun j => (w t t * w k j - w k t * w t j).fdiv l else w k
  rw [for_rngE (f := fun m => [.v g, .v (mkP n n (f m)), .v (.int s), .v (.int l), .v (.int t), .v i5, .un, .un, .un, .un])]
  · congr 4
    refine mkP_congr fun i k hi hk => ?_
    simp only [f]
    by_cases h : t < i
    · rw [if_pos ⟨h, by omega⟩, if_pos ⟨h, hi⟩]
    · rw [if_neg (by omega), if_neg (by omega)]
  · congr 3
    refine mkP_congr fun i k hi hk => ?_
    simp only [f]
    rw [if_neg (by omega)]
  · intro m hm K
    have hk : t + 1 + m < n := by omega
    rw [show (t : Int) + 1 + (m : Nat) = ((t + 1 + m : Nat) : Int) by omega]
    walk_at "t"
    rw [line5_v I hn (by omega) hk (by simp only [f]; rw [if_neg (by omega)]) (by simp only [f]; rw [if_neg (by omega)])]
    walk_at "t"
    rw [ix_c hk]
    walk_at "t"
    rw [mkP_set]
    congr 4
    refine mkP_congr fun i k hi hk => ?_
    simp only [f]
    by_cases h : i = t + 1 + m
    · subst h
      rw [if_pos rfl, if_pos ⟨by omega, by omega⟩]
    · rw [if_neg h]
      by_cases h2 : t < i ∧ i < t + 1 + m
      · rw [if_pos h2, if_pos ⟨h2.1, by omega⟩]
      · rw [if_neg h2, if_neg (by omega)]
/-- a loop with an invariant, that may end early in one way -/
theorem for_rex {P : Nat → List VS → Prop} {R : Prop} {o : VO} {vs0 : List VS} {bd : Bd} {body : VF} {lo : Int} {n : Nat} {vs : List VS} {F : VO} (e : forV vs0 bd body (rngV lo n) vs = F) (p : P 0 vs) (h : ∀ i vs, i < n → P i vs → (∃ vs', P (i + 1) vs' ∧ ∀ K, turnV vs0 bd body (.one (.int (lo + (i : Nat)))) vs K = K vs') ∨ (R ∧ ∀ K, turnV vs0 bd body (.one (.int (lo + (i : Nat)))) vs K = o)) : (∃ vs', P n vs' ∧ F = .nx vs') ∨ (R ∧ F = o) := by
  have gen : ∀ (m k : Nat) (vs : List VS), P k vs → k + m = n → (∃ vs', P n vs' ∧ forV vs0 bd body ((List.range' k m).map fun i => VI.one (.int (lo + (i : Nat)))) vs = .nx vs') ∨ (R ∧ forV vs0 bd body ((List.range' k m).map fun i => VI.one (.int (lo + (i : Nat)))) vs = o) := by
    intro m
    induction m with
    | zero =>
      intro k vs p e
      have : k = n := by omega
      subst this
      exact .inl ⟨vs, p, rfl⟩
    | succ m ih =>
      intro k vs p e
      rw [List.range'_succ, List.map_cons, for_c]
      rcases h k vs (by omega) p with ⟨vs', p', e1⟩ | ⟨r, e1⟩
      · rw [e1]
        exact ih (k + 1) vs' p' (by omega)
      · exact .inr ⟨r, by rw [e1]⟩
  have er : rngV lo n = (List.range' 0 n).map fun i => VI.one (.int (lo + (i : Nat))) := by
    unfold rngV
    rw [List.range_eq_range']
  rw [er] at e
  subst e
  exact gen n 0 vs p (by omega)
theorem ask_v {r c : Nat} {A : Nat → Nat → Int} (h : 1 ≤ r) : w_ask_square [mkP r c A] = if r = c then .ok .none else .rz (PySem.Str.ofString "NoGrid") := by
  have h0 : atI ((List.range r).map fun i => mkR c (A i)) 0 = some (mkR c (A 0)) := at_rng (p := 0) h
  unfold w_ask_square em_ask_square
  walk_at "t"
  rw [h0]
  by_cases e : r = c
  · subst e
    walk_at "t"
  · rw [if_neg e]
    have e' : ¬ (r : Int) = (c : Int) := by omega
    walk_at "t"
theorem copy5_v {r c : Nat} {A : Nat → Nat → Int} (hr : r ≤ 8) (hc : c ≤ 8) : ee_determinant_2 [.v (mkP r c A), .un, .un, .un, .un, .un, .un, .un, .un, .un] = .ok (mkP r c A) [.v (mkP r c A), .un, .un, .un, .un, .un, .un, .un, .un, .un] := by
  unfold ee_determinant_2
  walk_at "t"
  rw [lc_lmap (o := fun i => mkR c (A i)) fun i hi => ?_]
  · walk_at "t"
  · have : pureK 1 (mkR c (A i)) = true := by rw [mkR_e]; exact pure_eI
    walk_at "t"
open Dt in
theorem determinant_v {n : Nat} {A0 : Nat → Nat → Int} (h1 : 1 ≤ n) (hn : n ≤ 8) (hb : ∀ i k, i < n → k < n → (A0 i k).natAbs ≤ p62) : w_determinant [mkP n n A0] = .ok (.int (D n A0)) := by
  unfold w_determinant em_determinant
  walk_at "t"
  rw [ask_v h1, if_pos rfl]
  walk_at "t"
  rw [copy5_v hn hn]
  walk_at "t"
  unfold el_determinant_2
  walk_at "t"
  generalize ef : forV _ _ _ _ _ = F
  rcases for_rex ef (P := fun t vs => ∃ w s l A, Br n A0 t w s l A ∧ vs = [.v (mkP n n A0), .v (mkP n n w), .v (.int s), .v (.int l), .un, .un, .un, .un, .un, .un]) (R := D n A0 = 0) (o := .rt (.int 0)) ⟨A0, 1, 1, A0, Br.start hb, rfl⟩ (by
    rintro t vs ht ⟨w, s, l, A, I, rfl⟩
    rw [Int.zero_add]
    rcases pivot_v (w := w) hn ht ht with ⟨p, p1, p2, p3, ep⟩ | ⟨q, ep⟩
    · refine .inl ?_
      by_cases e : p = t
      · subst e
        refine ⟨_, ⟨_, s, w p p, A, I.step ht p3, rfl⟩, fun K => ?_⟩
        walk_at "t"
        rw [ep]
        walk_at "t"
        rw [rows5_v I hn ht]
        walk_at "t"
      · have I2 := I.swp (p := p) (by omega) p2
        have hz : (fun i => if i = p then w t else if i = t then w p else w i) t t ≠ 0 := by
          show (if t = p then w t else if t = t then w p else w t) t ≠ 0
          rw [if_neg (by omega), if_pos rfl]
          exact p3
        have e' : ¬ (p : Int) = (t : Int) := by omega
        have at1 : ((List.range n).map fun i => mkR n (w i))[p]? = some (mkR n (w p)) := by rw [List.getElem?_map, List.getElem?_range p2]; rfl
        have at2 : ((List.range n).map fun i => mkR n (w i))[t]? = some (mkR n (w t)) := by rw [List.getElem?_map, List.getElem?_range ht]; rfl
        refine ⟨_, ⟨_, -s, _, _, I2.step ht hz, rfl⟩, fun K => ?_⟩
        walk_at "t"
        rw [ep]
        walk_at "t"
        rw [u_swp]
        walk_at "t"
        rw [ix_c ht, ix_c p2]
        walk_at "t"
        rw [at1, at2]
        walk_at "t"
        rw [mkP_set, mkP_set (w := fun i => if i = t then w p else w i), rows5_v I2 hn ht]
        walk_at "t"
    · refine .inr ⟨I.none ht q, fun K => ?_⟩
      walk_at "t"
      rw [ep]
      walk_at "t") with ⟨vs', ⟨w, s, l, A, I, rfl⟩, rfl⟩ | ⟨e, rfl⟩
  · walk_at "t"
    rw [o_mul (mul_ok (by have := I.fs; rcases this with e | e <;> rw [e] <;> decide +kernel) (I.lsm hn (Nat.le_refl _))), I.done]
    walk_at "t"
  · walk_at "t"
    rw [e]
/-! ## k05: products, steps -/
theorem mkR_set {c k : Nat} {v : Nat → Int} {x : Int} : ((List.range c).map fun j => PyData.int (v j)).set k (.int x) = (List.range c).map fun j => .int (if j = k then x else v j) := by
  rw [map_set]
  exact List.map_congr_left fun i _ => by split <;> rfl
theorem put_mk {r c p : Nat} {v : Nat → Int} {w : Nat → Nat → Int} (hp : p < r) : putAt [(p : Int)] (mkR c v) (mkP r c w) = mkP r c fun i => if i = p then v else w i := by
  rw [(putAt_l (at_rng (F := fun i => mkR c (w i)) hp)).1, mkP_set]
theorem copy2_v {r c : Nat} {A : Nat → Nat → Int} (hr : r ≤ 8) (hc : c ≤ 8) : w_law_copy [mkP r c A] = .ok (mkP r c A) := by
  have hp : pureK 2 (mkP r c A) = true := by rw [mkP_e]; exact pure_eG
  unfold w_law_copy em_law_copy ee_law_copy_1
  walk_at "t"
  rw [lc_lmap (o := fun i => mkR c (A i)) fun i hi => ?_]
  · walk_at "t"
  · walk_at "t"
open Dt in
theorem sum_sm {n : Nat} {f : Nat → Int} : ((List.range n).map f).sum = sm n f := by
  induction n with
  | zero => rfl
  | succ n ih =>
    rw [List.range_succ, List.map_append, List.sum_append, ih]
    show _ = sm n f + f n
    simp
open Dt in
theorem o_sumR {n : Nat} {v : Nat → Int} {vs : List VS} : gSum [mkR n v] vs = .ok (.int (sm n v)) vs := by
  rw [mkR_e, ← sum_sm]
  exact o_sum
open Dt in
theorem prow_v {n i j : Nat} {A B : Nat → Nat → Int} {x2 x4 : VS} (hn : n ≤ 8) (hi : i < n) (hj : j < n) (ha : ∀ i k, i < n → k < n → (A i k).natAbs ≤ 10 ^ 30) (hb : ∀ i k, i < n → k < n → (B i k).natAbs ≤ 10 ^ 30) :
    ee_law_product_1 [.v (mkP n n A), .v (mkP n n B), x2, .v (mkR n (A i)), x4, .v (.int j), .un] = .ok (mkR n fun l => A i l * B l j) [.v (mkP n n A), .v (mkP n n B), x2, .v (mkR n (A i)), x4, .v (.int j), .un] := by
  unfold ee_law_product_1
  walk_at "t"
  rw [lc_rmap (o := fun l => .int (A i l * B l j)) fun l hl => ?_]
  · walk_at "t"
  · rw [Int.zero_add]
    have h1 := Nat.lt_of_le_of_lt (ha i l hi (by omega)) (show 10 ^ 30 < 2 ^ 2000 by decide +kernel)
    have h2 := Nat.lt_of_le_of_lt (hb l j (by omega) hj) (show 10 ^ 30 < 2 ^ 2000 by decide +kernel)
    walk_at "t"
    rw [o_mul (mul_ok h1 h2)]
    walk_at "t"
open Dt in
theorem pline_v {n i : Nat} {A B : Nat → Nat → Int} {x2 : PyData} (hn : n ≤ 8) (h1 : 1 ≤ n) (hi : i < n) (ha : ∀ i k, i < n → k < n → (A i k).natAbs ≤ 10 ^ 30) (hb : ∀ i k, i < n → k < n → (B i k).natAbs ≤ 10 ^ 30) :
    el_law_product_1 [.v (mkP n n A), .v (mkP n n B), .v x2, .v (mkR n (A i)), .v (.list []), .un, .un] = .nx [.v (mkP n n A), .v (mkP n n B), .v x2, .v (mkR n (A i)), .v (mkR n (mul n A B i)), .un, .un] := by
  have a0 : atI ((List.range n).map fun i => mkR n (B i)) 0 = some (mkR n (B 0)) := at_rng (p := 0) h1
  unfold el_law_product_1
  walk_at "t"
  rw [a0]
  walk_at "t"
  rw [for_rngE (f := fun j => [.v (mkP n n A), .v (mkP n n B), .v x2, .v (mkR n (A i)), .v (.list ((List.range j).map fun k => .int (mul n A B i k))), .un, .un])]
  · rfl
  · intro j hj K
    rw [Int.zero_add]
    walk_at "t"
    rw [prow_v hn hi hj ha hb]
    walk_at "t"
    rw [o_sumR]
    walk_at "t"
    rw [map_s]
    rfl
open Dt in
theorem product_v {n : Nat} {A B : Nat → Nat → Int} (hn : n ≤ 8) (h1 : 1 ≤ n) (ha : ∀ i k, i < n → k < n → (A i k).natAbs ≤ 10 ^ 30) (hb : ∀ i k, i < n → k < n → (B i k).natAbs ≤ 10 ^ 30) :
    w_law_product [mkP n n A, mkP n n B] = .ok (mkP n n (mul n A B)) := by
  unfold w_law_product em_law_product
  walk_at "t"
  unfold el_law_product_2
  walk_at "t"
  rw [for_lstE (f := fun j => [.v (mkP n n A), .v (mkP n n B), .v (.list ((List.range j).map fun k => mkR n (mul n A B k))), .un, .un, .un, .un])]
  · walk_at "t"
  · rfl
  · intro j hj K
    walk_at "t"
    rw [pline_v hn h1 hj ha hb]
    walk_at "t"
    rw [map_s]
open Dt in
def stR (A : Nat → Nat → Int) (i j : Nat) (q : Int) : Nat → Nat → Int := rw' A i fun k => A i k + q * A j k
theorem q_ok {q x : Int} (hq : q.natAbs ≤ 10 ^ 30) (hx : x.natAbs ≤ 10 ^ 30) : mulB q x = true := mul_ok (Nat.lt_of_le_of_lt hq (by decide +kernel)) (Nat.lt_of_le_of_lt hx (by decide +kernel))
open Dt in
theorem stepR_v {n i j : Nat} {q : Int} {A : Nat → Nat → Int} {x1 : PyData} (hn : n ≤ 8) (h1 : 1 ≤ n) (hi : i < n) (hj : j < n) (hq : q.natAbs ≤ 10 ^ 30) (ha : ∀ i k, i < n → k < n → (A i k).natAbs ≤ 10 ^ 30) :
    el_law_stepped_1 [.v (mkP n n A), .v x1, .v (.int i), .v (.int j), .v (.int q), .v (mkP n n A), .un] = .nx [.v (mkP n n A), .v x1, .v (.int i), .v (.int j), .v (.int q), .v (mkP n n (stR A i j q)), .un] := by
  have a0 : atI ((List.range n).map fun i => mkR n (A i)) 0 = some (mkR n (A 0)) := at_rng (p := 0) h1
  obtain ⟨f, hf⟩ : ∃ f : Nat → Nat → Nat → Int, ∀ m r c, f m r c = if r = i ∧ c < m then A i c + q * A j c else A r c := ⟨fun m r c => if r = i ∧ c < m then A i c + q * A j c else A r c, fun _ _ _ => rfl⟩
  have e0 : mkP n n (f 0) = mkP n n A := mkP_congr fun r c hr hc => by
    rw [hf, if_neg fun z => absurd z.2 (Nat.not_lt_zero _)]
  have e1 : mkP n n (f n) = mkP n n (stR A i j q) := mkP_congr fun r c hr hc => by
    rw [hf]
    unfold stR rw'
    by_cases h : r = i
    · subst h
      rw [if_pos ⟨rfl, hc⟩, if_pos rfl]
    · rw [if_neg fun z => h z.1, if_neg h]
  have es : ∀ k, k < n → mkP n n (fun r => if r = i then fun c => if c = k then A i k + q * A j k else f k i c else f k r) = mkP n n (f (k + 1)) := fun k hk => mkP_congr fun r c hr hc => by
    rw [hf]
    by_cases h : r = i
    · subst h
      rw [if_pos rfl]
      by_cases h2 : c = k
      · subst h2
        rw [if_pos rfl, if_pos ⟨rfl, by omega⟩]
      · rw [if_neg h2, hf]
        by_cases h3 : c < k
        · rw [if_pos ⟨rfl, h3⟩, if_pos ⟨rfl, by omega⟩]
        · rw [if_neg fun z => h3 z.2, if_neg fun z => by omega]
    · rw [if_neg h, hf, if_neg fun z => h z.1, if_neg fun z => h z.1]
  unfold el_law_stepped_1
  walk_at "t"
  rw [a0]
  walk_at "t"
  rw [for_rngE (f := fun m => [.v (mkP n n A), .v x1, .v (.int i), .v (.int j), .v (.int q), .v (mkP n n (f m)), .un])]
  · simp only [e1]
  · simp only [e0]
  · intro k hk K
    rw [Int.zero_add]
    walk_at "t"
    rw [o_mul (q_ok hq (ha j k hj hk))]
    walk_at "t"
    rw [ix_c hk]
    walk_at "t"
    rw [mkR_set, put_mk hi, es k hk]
def stC (A : Nat → Nat → Int) (i j : Nat) (q : Int) : Nat → Nat → Int := fun r c => if c = i then A r i + q * A r j else A r c
theorem stepC_v {n i j : Nat} {q : Int} {A : Nat → Nat → Int} {x1 : PyData} (hn : n ≤ 8) (h1 : 1 ≤ n) (hi : i < n) (hj : j < n) (hq : q.natAbs ≤ 10 ^ 30) (ha : ∀ i k, i < n → k < n → (A i k).natAbs ≤ 10 ^ 30) :
    el_law_stepped_2 [.v (mkP n n A), .v x1, .v (.int i), .v (.int j), .v (.int q), .v (mkP n n A), .un] = .nx [.v (mkP n n A), .v x1, .v (.int i), .v (.int j), .v (.int q), .v (mkP n n (stC A i j q)), .un] := by
  obtain ⟨f, hf⟩ : ∃ f : Nat → Nat → Nat → Int, ∀ m r c, f m r c = if c = i ∧ r < m then A r i + q * A r j else A r c := ⟨fun m r c => if c = i ∧ r < m then A r i + q * A r j else A r c, fun _ _ _ => rfl⟩
  have e0 : mkP n n (f 0) = mkP n n A := mkP_congr fun r c hr hc => by
    rw [hf, if_neg fun z => absurd z.2 (Nat.not_lt_zero _)]
  have e1 : mkP n n (f n) = mkP n n (stC A i j q) := mkP_congr fun r c hr hc => by
    rw [hf]
    unfold stC
    by_cases h : c = i
    · rw [if_pos ⟨h, hr⟩, if_pos h]
    · rw [if_neg fun z => h z.1, if_neg h]
  have es : ∀ k, k < n → mkP n n (fun r => if r = k then fun c => if c = i then A k i + q * A k j else f k k c else f k r) = mkP n n (f (k + 1)) := fun k hk => mkP_congr fun r c hr hc => by
    rw [hf]
    by_cases h : r = k
    · subst h
      rw [if_pos rfl]
      by_cases h2 : c = i
      · rw [if_pos h2, if_pos ⟨h2, by omega⟩]
      · rw [if_neg h2, hf, if_neg fun z => h2 z.1, if_neg fun z => h2 z.1]
    · rw [if_neg h, hf]
      by_cases h2 : c = i ∧ r < k
      · rw [if_pos h2, if_pos ⟨h2.1, by omega⟩]
      · rw [if_neg h2, if_neg fun z => h2 ⟨z.1, by omega⟩]
  unfold el_law_stepped_2
  walk_at "t"
  rw [for_rngE (f := fun m => [.v (mkP n n A), .v x1, .v (.int i), .v (.int j), .v (.int q), .v (mkP n n (f m)), .un])]
  · simp only [e1]
  · simp only [e0]
  · intro k hk K
    rw [Int.zero_add]
    walk_at "t"
    rw [o_mul (q_ok hq (ha k j hk hj))]
    walk_at "t"
    rw [ix_c hi]
    walk_at "t"
    rw [mkR_set, put_mk hk, es k hk]
/-! ## k05: the law -/
open Dt in
theorem over_e {n j : Nat} {A : Nat → Nat → Int} {ns : List Int} {a1 a4 a5 a6 : PyData} (hn : n ≤ 8) (hj : j < n) :
    ee_law_1 [.sc ns, .v a1, .v (.int n), .v (mkP n n A), .v a4, .v a5, .v a6, .v (.int j), .un, .un, .un, .un, .un, .un] = .ok (mkR n fun i => A i j) [.sc ns, .v a1, .v (.int n), .v (mkP n n A), .v a4, .v a5, .v a6, .v (.int j), .un, .un, .un, .un, .un, .un] := by
  unfold ee_law_1
  walk_at "t"
  rw [lc_rmap (o := fun i => .int (A i j)) fun i hi => ?_]
  · walk_at "t"
  · rw [Int.zero_add]
    walk_at "t"
theorem over_v {n : Nat} {A : Nat → Nat → Int} {ns : List Int} {a1 a4 a5 : PyData} (hn : n ≤ 8) :
    el_law_1 [.sc ns, .v a1, .v (.int n), .v (mkP n n A), .v a4, .v a5, .v (.list []), .un, .un, .un, .un, .un, .un, .un] = .nx [.sc ns, .v a1, .v (.int n), .v (mkP n n A), .v a4, .v a5, .v (mkP n n fun j i => A i j), .un, .un, .un, .un, .un, .un, .un] := by
  unfold el_law_1
  walk_at "t"
  rw [for_rngE (f := fun m => [.sc ns, .v a1, .v (.int n), .v (mkP n n A), .v a4, .v a5, .v (.list ((List.range m).map fun j => mkR n fun i => A i j)), .un, .un, .un, .un, .un, .un, .un])]
  · rfl
  · intro j hj K
    rw [Int.zero_add]
    walk_at "t"
    rw [over_e hn hj]
    walk_at "t"
    rw [map_s]
theorem plain_e {n i : Nat} {ns : List Int} {a1 a3 a4 a5 a6 a9 : PyData} (hn : n ≤ 8) :
    ee_law_2 [.sc ns, .v a1, .v (.int n), .v a3, .v a4, .v a5, .v a6, .un, .v (.int i), .v a9, .un, .un, .un, .un] = .ok (mkR n fun k => if i = k then 1 else 0) [.sc ns, .v a1, .v (.int n), .v a3, .v a4, .v a5, .v a6, .un, .v (.int i), .v a9, .un, .un, .un, .un] := by
  unfold ee_law_2
  walk_at "t"
  rw [lc_rmap (o := fun k => .int (if i = k then 1 else 0)) fun k hk => ?_]
  · walk_at "t"
  · rw [Int.zero_add]
    by_cases h : i = k
    · subst h
      walk_at "t"
    · have h' : ¬ (i : Int) = (k : Int) := by omega
      walk_at "t"
theorem plain_v {n : Nat} {ns : List Int} {a1 a3 a4 a5 a6 : PyData} (hn : n ≤ 8) :
    el_law_2 [.sc ns, .v a1, .v (.int n), .v a3, .v a4, .v a5, .v a6, .un, .un, .v (.list []), .un, .un, .un, .un] = .nx [.sc ns, .v a1, .v (.int n), .v a3, .v a4, .v a5, .v a6, .un, .un, .v (mkP n n fun i k => if i = k then 1 else 0), .un, .un, .un, .un] := by
  unfold el_law_2
  walk_at "t"
  rw [for_rngE (f := fun m => [.sc ns, .v a1, .v (.int n), .v a3, .v a4, .v a5, .v a6, .un, .un, .v (.list ((List.range m).map fun i => mkR n fun k => if i = k then 1 else 0)), .un, .un, .un, .un])]
  · rfl
  · intro j hj K
    rw [Int.zero_add]
    walk_at "t"
    rw [plain_e hn]
    walk_at "t"
    rw [map_s]
open Dt in
theorem D_stC {n i j : Nat} {A : Nat → Nat → Int} {q : Int} (hi : i < n) (hj : j < n) (h : i ≠ j) : D n (stC A i j q) = D n A := by
  have e : stC A i j q = tr (stR (tr A) i j q) := by
    funext r c
    unfold stC tr stR rw'
    split
    · rename_i h; subst h; rfl
    · rfl
  rw [e, D_tr, stR, (D_alt n).step hi hj h, D_tr]
open Dt in
theorem ent_bd {r c i k : Nat} {g : List (List Int)} (G : Gr r c p30 g) (hi : i < r) (hk : k < c) : (getG g i k).natAbs ≤ 10 ^ 30 := by
  obtain ⟨h1, h2⟩ := gr_ent G hi hk
  have : p30 = 1000000000000000000000000000000 := rfl
  omega
open Dt in
theorem step_bd {a b q : Int} (ha : a.natAbs ≤ 10 ^ 30) (hb : b.natAbs ≤ 10 ^ 30) (hq : q.natAbs ≤ 10 ^ 30) : (a + q * b).natAbs ≤ p62 := by
  have h1 : (q * b).natAbs ≤ 10 ^ 30 * 10 ^ 30 := by rw [Int.natAbs_mul]; exact Nat.mul_le_mul hq hb
  have h2 := Int.natAbs_add_le a (q * b)
  have hp : p62 = 10 ^ 62 := rfl
  rw [hp]; omega
open Dt in
theorem bd62 {a : Int} (ha : a.natAbs ≤ 10 ^ 30) : a.natAbs ≤ p62 := Nat.le_trans ha (by decide +kernel)
open Dt in
theorem mul_bd {n i k : Nat} {A B : Nat → Nat → Int} (hn : n ≤ 8) (ha : ∀ i k, i < n → k < n → (A i k).natAbs ≤ 10 ^ 30) (hb : ∀ i k, i < n → k < n → (B i k).natAbs ≤ 10 ^ 30) (hi : i < n) (hk : k < n) : (mul n A B i k).natAbs ≤ p62 := by
  have h := sm_le (n := n) (f := fun l => A i l * B l k) (b := 10 ^ 30 * 10 ^ 30) fun l hl => by
    rw [Int.natAbs_mul]; exact Nat.mul_le_mul (ha i l hi hl) (hb l k hl hk)
  have h2 : n * (10 ^ 30 * 10 ^ 30) ≤ 8 * (10 ^ 30 * 10 ^ 30) := Nat.mul_le_mul hn (Nat.le_refl _)
  exact Nat.le_trans h (Nat.le_trans h2 (by decide +kernel))
/-! ## k05: the law put together -/
theorem eq_strs {neg : Bool} {a b : Str} {vs : List VS} (ha : PyData.strOk a = true) (hb : PyData.strOk b = true) : gEq neg (.str a) (.str b) vs = .ok (.bool (neg ^^ decide (a = b))) vs := by
  rw [eq_fn (Fn_str ha) (Fn_str hb)]
  congr 3
theorem str_t {neg : Bool} {a : Str} {vs : List VS} (ha : PyData.strOk a = true) : gEq neg (.str a) (.str a) vs = .ok (.bool (!neg)) vs := eq_same (Fn_str ha)
theorem str_f {neg : Bool} {a b : Str} {vs : List VS} (ha : PyData.strOk a = true) (hb : PyData.strOk b = true) (h : decide (a = b) = false) : gEq neg (.str a) (.str b) vs = .ok (.bool neg) vs := by
  rw [eq_strs ha hb, h]; simp
theorem eq_row : gEq false (.str (PySem.Str.ofString "row")) (.str (PySem.Str.ofString "row")) = fun vs => .ok (.bool true) vs := funext fun vs => str_t (by decide +kernel)
theorem eq_col : gEq false (.str (PySem.Str.ofString "column")) (.str (PySem.Str.ofString "row")) = fun vs => .ok (.bool false) vs := funext fun vs => str_f (by decide +kernel) (by decide +kernel) (by decide +kernel)
theorem stepped_r {n i j : Nat} {q : Int} {A : Nat → Nat → Int} (hn : n ≤ 8) (h1 : 1 ≤ n) (hi : i < n) (hj : j < n) (hq : q.natAbs ≤ 10 ^ 30) (ha : ∀ i k, i < n → k < n → (A i k).natAbs ≤ 10 ^ 30) :
    w_law_stepped [mkP n n A, .str (PySem.Str.ofString "row"), .int i, .int j, .int q] = .ok (mkP n n (stR A i j q)) := by
  unfold w_law_stepped em_law_stepped
  walk_at "t"
  rw [copy2_v hn hn]
  walk_at "t"
  rw [eq_row]
  walk_at "t"
  rw [stepR_v hn h1 hi hj hq ha]
  walk_at "t"
theorem stepped_c {n i j : Nat} {q : Int} {A : Nat → Nat → Int} (hn : n ≤ 8) (h1 : 1 ≤ n) (hi : i < n) (hj : j < n) (hq : q.natAbs ≤ 10 ^ 30) (ha : ∀ i k, i < n → k < n → (A i k).natAbs ≤ 10 ^ 30) :
    w_law_stepped [mkP n n A, .str (PySem.Str.ofString "column"), .int i, .int j, .int q] = .ok (mkP n n (stC A i j q)) := by
  unfold w_law_stepped em_law_stepped
  walk_at "t"
  rw [copy2_v hn hn]
  walk_at "t"
  rw [eq_col]
  walk_at "t"
  rw [stepC_v hn h1 hi hj hq ha]
  walk_at "t"
noncomputable def tail05 : VF :=
  (sSeq (sSet 8 (fBin gMod (fBin gDiv (fVar 1) (fC (.int 8))) (fVar 2)))
    (sSeq (sSet 7 (fBin gMod (fBin gAdd (fBin gAdd (fVar 8) (fC (.int 1))) (fBin gMod (fBin gDiv (fVar 1) (fC (.int 64))) (fBin gSub (fVar 2) (fC (.int 1))))) (fVar 2)))
    (sSeq (sSetT [10, 11] (fCall w_law_number (fCons (fBin gDiv (fVar 1) (fC (.int 512))) fNil)))
    (sSeq (sSet 12 (fBin gIx (fTup (fCons (fC (.str (PySem.Str.ofString "row"))) (fCons (fC (.str (PySem.Str.ofString "column"))) fNil))) (fBin gMod (fBin gDiv (fVar 1) (fC (.int 448))) (fC (.int 2)))))
    (sSeq (sIf (fTst (fBin (gEq true) (fCall w_determinant (fCons (fCall w_law_stepped (fCons (fVar 3) (fCons (fVar 12) (fCons (fVar 8) (fCons (fVar 7) (fCons (fVar 10) fNil)))))) fNil)) (fVar 5))) (sRet (fC (.bool false))) sNext)
    (sSeq (sSet 13 (fCall w_law_copy (fCons (fVar 3) fNil)))
    (sSeq (sStore 13 pVar (fVar 8) (fCB gList (fCons (fBin gIx (fVar 3) (fVar 7)) fNil)))
    (sSeq (sStore 13 pVar (fVar 7) (fCB gList (fCons (fBin gIx (fVar 3) (fVar 8)) fNil)))
    (sRet (fBin (gEq false) (fCall w_determinant (fCons (fVar 13) fNil)) (fBin gSub (fC (.int 0)) (fVar 5))))))))))))
theorem em_law_tail05 : em_law = (sSeq (sSet 1 (fCall w_law_big (fCons (fSc 0) (fCons (fC (.int 0)) fNil))))
    (sSeq (sSet 2 (fBin gAdd (fC (.int 1)) (fBin gMod (fVar 1) (fC (.int 8)))))
    (sSeq (sSet 3 (fCall w_law_grid (fCons (fSc 0) (fCons (fC (.int 1)) (fCons (fVar 2) (fCons (fVar 2) fNil))))))
    (sSeq (sSet 4 (fCall w_law_grid (fCons (fSc 0) (fCons (fC (.int 9)) (fCons (fVar 2) (fCons (fVar 2) fNil))))))
    (sSeq (sSet 5 (fCall w_determinant (fCons (fCall w_law_copy (fCons (fVar 3) fNil)) fNil)))
    (sSeq (sIf (fTst (fBin (gEq true) (fCall w_determinant (fCons (fCall w_law_product (fCons (fVar 3) (fCons (fVar 4) fNil))) fNil)) (fBin gMul (fVar 5) (fCall w_determinant (fCons (fCall w_law_copy (fCons (fVar 4) fNil)) fNil))))) (sRet (fC (.bool false))) sNext)
    (sSeq (sSet 6 (fLst false 1 fNil))
    (sSeq el_law_1
    (sSeq (sIf (fTst (fBin (gEq true) (fCall w_determinant (fCons (fVar 6) fNil)) (fVar 5))) (sRet (fC (.bool false))) sNext)
    (sSeq (sSet 9 (fLst false 1 fNil))
    (sSeq el_law_2
    (sSeq (sIf (fOrT (fTst (fBin (gEq true) (fCall w_determinant (fCons (fVar 9) fNil)) (fC (.int 1)))) (fTst (fBin (gEq false) (fVar 2) (fC (.int 1))))) (sRet (fAndV (fBin (gEq false) (fVar 2) (fC (.int 1))) (fAndV (fBin (gEq false) (fCall w_determinant (fCons (fVar 9) fNil)) (fC (.int 1))) (fBin (gEq false) (fVar 5) (fBin gIx (fBin gIx (fVar 3) (fC (.int 0))) (fC (.int 0))))))) sNext)
    tail05)))))))))))) := rfl
theorem dsm {n : Nat} {A : Nat → Nat → Int} (hn : n ≤ 8) (h : ∀ i k, i < n → k < n → (A i k).natAbs ≤ Dt.p62) : (Dt.D n A).natAbs < 2 ^ 2000 := Dt.D_small hn h
open Dt in
theorem tail05_v {n : Nat} {ns : List Int} {b : Int} {A : Nat → Nat → Int} {a4 a6 a9 : PyData} (hn : n ≤ 8) (h1 : 2 ≤ n) (hb : 0 ≤ b) (ha : ∀ i k, i < n → k < n → (A i k).natAbs ≤ 10 ^ 30) :
    tail05 [.sc ns, .v (.int b), .v (.int n), .v (mkP n n A), .v a4, .v (.int (D n A)), .v a6, .un, .un, .v a9, .un, .un, .un, .un] = .rt (.bool true) := by
  have hp : p30 = 10 ^ 30 := rfl
  obtain ⟨i, ei, hi⟩ : ∃ i : Nat, b / 8 % (n : Int) = i ∧ i < n := ⟨(b / 8 % (n : Int)).toNat, by have := Int.emod_nonneg (b / 8) (show (n : Int) ≠ 0 by omega); omega, by have := Int.emod_lt_of_pos (b / 8) (show (0 : Int) < n by omega); have := Int.emod_nonneg (b / 8) (show (n : Int) ≠ 0 by omega); omega⟩
  have k0 := Int.emod_nonneg (b / 64) (show (n : Int) - 1 ≠ 0 by omega)
  have k1 := Int.emod_lt_of_pos (b / 64) (show (0 : Int) < (n : Int) - 1 by omega)
  obtain ⟨j, ej, hj, hij⟩ : ∃ j : Nat, ((i : Int) + 1 + b / 64 % ((n : Int) - 1)) % (n : Int) = j ∧ j < n ∧ i ≠ j := by
    generalize b / 64 % ((n : Int) - 1) = k at k0 k1
    by_cases h : (i : Int) + 1 + k < n
    · exact ⟨((i : Int) + 1 + k).toNat, by rw [Int.emod_eq_of_lt (by omega) h]; omega, by omega, by omega⟩
    · refine ⟨((i : Int) + 1 + k - n).toNat, ?_, by omega, by omega⟩
      rw [← Int.sub_emod_right, Int.emod_eq_of_lt (by omega) (by omega)]; omega
  obtain ⟨q, rest, q0, q1, _, eq⟩ := number_v (b := b / 512) (by omega)
  have hq : q.natAbs ≤ 10 ^ 30 := by omega
  have d1 : w_determinant [mkP n n (stR A i j q)] = .ok (.int (D n A)) := by
    rw [determinant_v (by omega) hn fun r c hr hc => ?_, stR, (D_alt n).step hi hj hij]
    show (if r = i then A i c + q * A j c else A r c).natAbs ≤ p62
    split
    · exact step_bd (ha i c hi hc) (ha j c hj hc) hq
    · exact bd62 (ha r c hr hc)
  have d2 : w_determinant [mkP n n (stC A i j q)] = .ok (.int (D n A)) := by
    rw [determinant_v (by omega) hn fun r c hr hc => ?_, D_stC hi hj hij]
    unfold stC
    split
    · exact step_bd (ha r i hr hi) (ha r j hr hj) hq
    · exact bd62 (ha r c hr hc)
  have d3 : w_determinant [mkP n n fun r => if r = j then A i else if r = i then A j else A r] = .ok (.int (- D n A)) := by
    have e : (fun r => if r = j then A i else if r = i then A j else A r) = sw A i j := by
      funext r c
      rw [sw_get]
      split
      · rfl
      · split <;> rfl
    rw [determinant_v (by omega) hn fun r c hr hc => ?_, e, (D_alt n).swap hi hj hij]
    split
    · exact bd62 (ha i c hi hc)
    · split
      · exact bd62 (ha j c hj hc)
      · exact bd62 (ha r c hr hc)
  have ew : b / 448 % 2 = 0 ∨ b / 448 % 2 = 1 := by omega
  unfold tail05
  walk_at "t"
  rw [ei, ej, eq]
  walk_at "t"
  rcases ew with ew | ew
  all_goals
    rw [ew]
    walk_at "t"
    first | rw [stepped_r hn (by omega) hi hj hq ha] | rw [stepped_c hn (by omega) hi hj hq ha]
    walk_at "t"
    first | rw [d1] | rw [d2]
    walk_at "t"
    rw [copy2_v hn hn]
    walk_at "t"
    rw [ix_c hi]
    walk_at "t"
    rw [mkP_set]
    walk_at "t"
    rw [ix_c hj]
    walk_at "t"
    rw [mkP_set (w := fun r => if r = i then A j else A r)]
    rw [d3]
    walk_at "t"
open Dt in
theorem law_v (ns : List Int) : w_law [eI ns] = .ok (.bool true) := by
  obtain ⟨b, b0, eb⟩ := big_v (ns := ns) (k := 0) (by omega)
  obtain ⟨n, en, n1, n8⟩ : ∃ n : Nat, 1 + b % 8 = (n : Int) ∧ 1 ≤ n ∧ n ≤ 8 := ⟨(1 + b % 8).toNat, by omega, by omega, by omega⟩
  obtain ⟨g, G, eg⟩ := grid_v (ns := ns) (at0 := 1) (r := n) (c := n) (by omega) n8 n8
  obtain ⟨g', G', eg'⟩ := grid_v (ns := ns) (at0 := 9) (r := n) (c := n) (by omega) n8 n8
  rw [gr_mk G] at eg
  rw [gr_mk G'] at eg'
  have ha : ∀ i k, i < n → k < n → (getG g i k).natAbs ≤ 10 ^ 30 := fun i k hi hk => ent_bd G hi hk
  have hb : ∀ i k, i < n → k < n → (getG g' i k).natAbs ≤ 10 ^ 30 := fun i k hi hk => ent_bd G' hi hk
  generalize getG g = A at ha eg
  generalize getG g' = B at hb eg'
  have ha' : ∀ i k, i < n → k < n → (A i k).natAbs ≤ p62 := fun i k hi hk => bd62 (ha i k hi hk)
  have hb' : ∀ i k, i < n → k < n → (B i k).natAbs ≤ p62 := fun i k hi hk => bd62 (hb i k hi hk)
  have d3 : w_determinant [mkP n n fun j i => A i j] = .ok (.int (D n A)) := by
    rw [determinant_v n1 n8 fun i k hi hk => ha' k i hk hi]
    exact congrArg (fun z => VC.ok (.int z)) D_tr
  have d4 : w_determinant [mkP n n fun i k => if i = k then 1 else 0] = .ok (.int 1) := by
    rw [determinant_v n1 n8 fun i k hi hk => by split <;> decide +kernel]
    have e : D n (fun i k => if i = k then 1 else 0) = 1 := by
      refine (D_congr fun i k _ _ => ?_).trans (D_one n)
      unfold I1 e1
      by_cases h : i = k
      · rw [if_pos h, if_pos h.symm]
      · rw [if_neg h, if_neg fun z => h z.symm]
    rw [e]
  unfold w_law
  rw [em_law_tail05]
  walk_at "t"
  rw [eb]
  walk_at "t"
  rw [en, eg]
  walk_at "t"
  rw [eg']
  walk_at "t"
  rw [copy2_v n8 n8]
  walk_at "t"
  rw [determinant_v n1 n8 ha']
  walk_at "t"
  rw [product_v n8 n1 ha hb]
  walk_at "t"
  rw [determinant_v n1 n8 fun i k hi hk => mul_bd n8 ha hb hi hk, D_mul]
  walk_at "t"
  rw [copy2_v n8 n8]
  walk_at "t"
  rw [determinant_v n1 n8 hb']
  walk_at "t"
  rw [o_mul (mul_ok (dsm n8 ha') (dsm n8 hb'))]
  walk_at "t"
  rw [over_v n8]
  walk_at "t"
  rw [d3]
  walk_at "t"
  rw [plain_v n8]
  walk_at "t"
  rw [d4]
  walk_at "t"
  by_cases h : n = 1
  · have h' : (n : Int) = 1 := by omega
    have a0 : atI ((List.range n).map fun i => mkR n (A i)) 0 = some (mkR n (A 0)) := at_rng (p := 0) n1
    have a1 : atI ((List.range n).map fun i => PyData.int (A 0 i)) 0 = some (.int (A 0 0)) := at_rng (p := 0) n1
    have dd : D n A = A 0 0 := by
      subst h
      rw [D_s]
      unfold sm sm D sgn
      simp
    walk_at "t"
    rw [d4]
    walk_at "t"
    rw [a0]
    walk_at "t"
    rw [a1]
    walk_at "t"
  · have h' : ¬ (n : Int) = 1 := by omega
    walk_at "t"
    rw [tail05_v n8 (by omega) b0 ha]
    walk_at "t"
theorem law_ok (ns : List Int) (_ : ns.length ≤ 63) : ∃ h, v_law [.list (ns.map PyData.int)] = .ok (.d (.bool true)) h := law_by k_law (law_v ns)
end Gn.V

namespace Gn
open PySem PySem.Spec L2 Zx
def topS (i : Nat) : Stmt := PySem.Challenge.pw_foreverrows_k05_determinants_kept.main.body.getD i (.Pass ⟨0, 0, 0, 0⟩)
abbrev s_ask_square : Stmt := topS 4
abbrev s_pivot_row : Stmt := topS 5
abbrev s_law_cell_at : Stmt := topS 8
abbrev s_law_number : Stmt := topS 10
abbrev s_law_copy : Stmt := topS 12
abbrev s_law_product : Stmt := topS 13
abbrev s_determinant : Stmt := topS 6
abbrev s_law_big : Stmt := topS 9
abbrev s_law_stepped : Stmt := topS 14
abbrev s_law_grid : Stmt := topS 11
abbrev s_law : Stmt := topS 15
/-! ### what stands at the top -/
structure Txt (P : Program) (w : World) (K : PySem.W.Frag) (mg : Str → Option Value) (base : Heap) : Prop where
  z_int : mg (PySem.Str.ofString "int") = none
  z_len : mg (PySem.Str.ofString "len") = none
  z_list : mg (PySem.Str.ofString "list") = none
  z_range : mg (PySem.Str.ofString "range") = none
  z_sum : mg (PySem.Str.ofString "sum") = none
  z_zip : mg (PySem.Str.ofString "zip") = none
  x_NoGrid : ∃ C, ExO K mg (PySem.Str.ofString "NoGrid") C
section
variable {P : Program} {w : World} {K : PySem.W.Frag} {mg : Str → Option Value} {base : Heap}
theorem sc_ask_square : FnScope [(PySem.Str.ofString "grid")] [(PySem.Str.ofString "grid")] (defScope s_ask_square) := ⟨rfl, rfl, rfl, by decide +kernel, rfl, by decide +kernel, by decide +kernel⟩
theorem d_ask_square (T : Txt P w K mg base) : DefOk P w K mg base [(PySem.Str.ofString "grid")] "ask_square" s_ask_square 0 m_ask_square := by
  delta m_ask_square
  exact fun f cdv A outer s H E W hr tk hp =>
  (ss_one (ss_if (st_cmp (op_neD hr.units) os_ne (se_callB call_len cs_len (by rfl) T.z_len (by decide +kernel) (sa_cons (se_var (pv 0)) sa_nil)) (se_callB call_len cs_len (by rfl) T.z_len (by decide +kernel) (sa_cons (se_ix ix_seq os_ix (se_var (pv 0)) se_int (fun _ _ => rfl)) sa_nil)) (nomark _)) (ss_one (ss_raiseO rfl tk T.x_NoGrid (by exact rfl))) ss_nil))
theorem c_ask_square (T : Txt P w K mg base) {f : Addr} {fd : FuncData} (F : Fun K "ask_square" "ask_square" s_ask_square f fd) (b : Binds K fd [(PySem.Str.ofString "grid")] []) (hm : mg (PySem.Str.ofString "ask_square") = some (.ref f)) : Cal P w K mg base (PySem.Str.ofString "ask_square") 1 [.vw] v_ask_square :=
  ⟨f, fd, [(PySem.Str.ofString "grid")], fn_data F sc_ask_square rfl (d_ask_square T ), hm, F.kp, b⟩
theorem sc_pivot_row : FnScope [(PySem.Str.ofString "work"), (PySem.Str.ofString "t"), (PySem.Str.ofString "i")] [(PySem.Str.ofString "work"), (PySem.Str.ofString "t")] (defScope s_pivot_row) := ⟨rfl, rfl, rfl, by decide +kernel, rfl, by decide +kernel, by decide +kernel⟩
theorem d_pivot_row (T : Txt P w K mg base) : DefOk P w K mg base [(PySem.Str.ofString "work"), (PySem.Str.ofString "t"), (PySem.Str.ofString "i")] "pivot_row" s_pivot_row 0 m_pivot_row := by
  delta m_pivot_row l_pivot_row_1
  exact fun f cdv A outer s H E W hr tk hp =>
  (ss_cons (ss_for hp rfl (si_rng2 (by rfl) T.z_range (sa_cons (se_var (pv 1)) (sa_cons (se_callB call_len cs_len (by rfl) T.z_len (by decide +kernel) (sa_cons (se_var (pv 0)) sa_nil)) sa_nil))) (pg_name (i := 2) sc_pivot_row.nd (by rfl) (.inl rfl)) gs_name (ss_one (ss_if (st_cmp (op_neD hr.units) os_ne (se_ix ix_seq os_ix (se_ix ix_seq os_ix (se_var (pv 0)) (se_var (pv 2)) (fun _ _ => rfl)) (se_var (pv 1)) (fun _ _ => rfl)) se_int (nomark _)) (ss_one (ss_ret (se_var (pv 2)))) ss_nil)))
    (ss_one (ss_ret se_non)))
theorem c_pivot_row (T : Txt P w K mg base) {f : Addr} {fd : FuncData} (F : Fun K "pivot_row" "pivot_row" s_pivot_row f fd) (b : Binds K fd [(PySem.Str.ofString "work"), (PySem.Str.ofString "t")] []) (hm : mg (PySem.Str.ofString "pivot_row") = some (.ref f)) : Cal P w K mg base (PySem.Str.ofString "pivot_row") 1 [.vw, .vw] v_pivot_row :=
  ⟨f, fd, [(PySem.Str.ofString "work"), (PySem.Str.ofString "t")], fn_data F sc_pivot_row rfl (d_pivot_row T ), hm, F.kp, b⟩
theorem sc_law_cell_at : FnScope [(PySem.Str.ofString "_law_script"), (PySem.Str.ofString "_law_k")] [(PySem.Str.ofString "_law_script"), (PySem.Str.ofString "_law_k")] (defScope s_law_cell_at) := ⟨rfl, rfl, rfl, by decide +kernel, rfl, by decide +kernel, by decide +kernel⟩
theorem d_law_cell_at (T : Txt P w K mg base) : DefOk P w K mg base [(PySem.Str.ofString "_law_script"), (PySem.Str.ofString "_law_k")] "_law_cell_at" s_law_cell_at 0 m_law_cell_at := by
  delta m_law_cell_at
  exact fun f cdv A outer s H E W hr tk hp =>
  (ss_cons (ss_if (st_cmp op_lt os_B0 (se_var (pv 1)) (se_callB call_len cs_len (by rfl) T.z_len (by decide +kernel) (sa_cons (se_var (pv 0)) sa_nil)) (nomark _)) (ss_one (ss_ret (se_ix ix_seq os_ix (se_var (pv 0)) (se_var (pv 1)) (fun _ _ => rfl)))) ss_nil)
    (ss_one (ss_ret se_int)))
theorem c_law_cell_at (T : Txt P w K mg base) {f : Addr} {fd : FuncData} (F : Fun K "_law_cell_at" "_law_cell_at" s_law_cell_at f fd) (b : Binds K fd [(PySem.Str.ofString "_law_script"), (PySem.Str.ofString "_law_k")] []) (hm : mg (PySem.Str.ofString "_law_cell_at") = some (.ref f)) : Cal P w K mg base (PySem.Str.ofString "_law_cell_at") 1 [.sc, .vw] v_law_cell_at :=
  ⟨f, fd, [(PySem.Str.ofString "_law_script"), (PySem.Str.ofString "_law_k")], fn_data F sc_law_cell_at rfl (d_law_cell_at T ), hm, F.kp, b⟩
theorem sc_law_number : FnScope [(PySem.Str.ofString "_law_big_here"), (PySem.Str.ofString "_law_size")] [(PySem.Str.ofString "_law_big_here")] (defScope s_law_number) := ⟨rfl, rfl, rfl, by decide +kernel, rfl, by decide +kernel, by decide +kernel⟩
theorem d_law_number (T : Txt P w K mg base) : DefOk P w K mg base [(PySem.Str.ofString "_law_big_here"), (PySem.Str.ofString "_law_size")] "_law_number" s_law_number 0 m_law_number := by
  delta m_law_number
  exact fun f cdv A outer s H E W hr tk hp =>
  (ss_cons (ss_set (i := 1) sc_law_number.nd (by rfl) (.inl rfl) (se_ix ix_seq os_ix (se_tup (sa_cons se_int (sa_cons se_int (sa_cons se_int (sa_cons (se_op op_pow os_pow se_int se_int) (sa_cons (se_op op_pow os_pow se_int se_int) sa_nil)))))) (se_op op_mod os_mod (se_var (pv 0)) se_int) (fun _ _ => rfl)))
    (ss_cons (ss_set (i := 0) sc_law_number.nd (by rfl) (.inl rfl) (se_op op_fdivW os_div (se_var (pv 0)) se_int))
    (ss_one (ss_ret (se_tup (sa_cons (se_op op_sub os_I0 (se_op op_mod os_mod (se_var (pv 0)) (se_op op_sub os_I0 (se_op op_mulW os_mul se_int (se_var (pv 1))) se_int)) (se_op op_sub os_I0 (se_var (pv 1)) se_int)) (sa_cons (se_op op_fdivW os_div (se_var (pv 0)) (se_op op_sub os_I0 (se_op op_mulW os_mul se_int (se_var (pv 1))) se_int)) sa_nil)))))))
theorem c_law_number (T : Txt P w K mg base) {f : Addr} {fd : FuncData} (F : Fun K "_law_number" "_law_number" s_law_number f fd) (b : Binds K fd [(PySem.Str.ofString "_law_big_here")] []) (hm : mg (PySem.Str.ofString "_law_number") = some (.ref f)) : Cal P w K mg base (PySem.Str.ofString "_law_number") 1 [.vw] v_law_number :=
  ⟨f, fd, [(PySem.Str.ofString "_law_big_here")], fn_data F sc_law_number rfl (d_law_number T ), hm, F.kp, b⟩
theorem sc_law_copy : FnScope [(PySem.Str.ofString "_law_grid_here"), (PySem.Str.ofString "_law_row")] [(PySem.Str.ofString "_law_grid_here")] (defScope s_law_copy) := ⟨rfl, rfl, rfl, by decide +kernel, rfl, by decide +kernel, by decide +kernel⟩
theorem d_law_copy (T : Txt P w K mg base) : DefOk P w K mg base [(PySem.Str.ofString "_law_grid_here"), (PySem.Str.ofString "_law_row")] "_law_copy" s_law_copy 0 m_law_copy := by
  delta m_law_copy e_law_copy_1
  exact fun f cdv A outer s H E W hr tk hp =>
  (ss_one (ss_ret (se_lc rfl sc_law_copy.nd (si_list (se_var (pv 0))) (blkOk_by (own := [((PySem.Str.ofString "_law_row"), 1)]) (by show blkC [(PySem.Str.ofString "_law_grid_here"), (PySem.Str.ofString "_law_row")] (defScope s_law_copy) _ _ = true; decide +kernel)) (fun _ _ _ _ _ => (pg_name (i := 1) sc_law_copy.nd (by rfl) (.inl rfl))) (fun _ _ _ _ _ => sts_nil) (fun _ _ _ _ _ => (se_callTy call_list_of cs_list (by rfl) T.z_list (by decide +kernel) (sa_cons (se_var (pv 1)) sa_nil))) gs_name (by decide))))
theorem c_law_copy (T : Txt P w K mg base) {f : Addr} {fd : FuncData} (F : Fun K "_law_copy" "_law_copy" s_law_copy f fd) (b : Binds K fd [(PySem.Str.ofString "_law_grid_here")] []) (hm : mg (PySem.Str.ofString "_law_copy") = some (.ref f)) : Cal P w K mg base (PySem.Str.ofString "_law_copy") 1 [.vw] v_law_copy :=
  ⟨f, fd, [(PySem.Str.ofString "_law_grid_here")], fn_data F sc_law_copy rfl (d_law_copy T ), hm, F.kp, b⟩
theorem sc_law_product : FnScope [(PySem.Str.ofString "_law_one"), (PySem.Str.ofString "_law_other"), (PySem.Str.ofString "_law_made"), (PySem.Str.ofString "_law_row"), (PySem.Str.ofString "_law_line"), (PySem.Str.ofString "_law_j"), (PySem.Str.ofString "_law_k")] [(PySem.Str.ofString "_law_one"), (PySem.Str.ofString "_law_other")] (defScope s_law_product) := ⟨rfl, rfl, rfl, by decide +kernel, rfl, by decide +kernel, by decide +kernel⟩
theorem d_law_product (T : Txt P w K mg base) : DefOk P w K mg base [(PySem.Str.ofString "_law_one"), (PySem.Str.ofString "_law_other"), (PySem.Str.ofString "_law_made"), (PySem.Str.ofString "_law_row"), (PySem.Str.ofString "_law_line"), (PySem.Str.ofString "_law_j"), (PySem.Str.ofString "_law_k")] "_law_product" s_law_product 0 m_law_product := by
  delta m_law_product l_law_product_2 l_law_product_1 e_law_product_1
  exact fun f cdv A outer s H E W hr tk hp =>
  (ss_cons (ss_set (i := 2) sc_law_product.nd (by rfl) (.inl rfl) (se_lst sa_nil))
    (ss_cons (ss_for hp rfl (si_list (se_var (pv 0))) (pg_name (i := 3) sc_law_product.nd (by rfl) (.inr rfl)) gs_name (ss_cons (ss_set (i := 4) sc_law_product.nd (by rfl) (.inl rfl) (se_lst sa_nil))
    (ss_cons (ss_for hp rfl (si_rng (by rfl) T.z_range (sa_cons (se_callB call_len cs_len (by rfl) T.z_len (by decide +kernel) (sa_cons (se_ix ix_seq os_ix (se_var (pv 1)) se_int (fun _ _ => rfl)) sa_nil)) sa_nil)) (pg_name (i := 5) sc_law_product.nd (by rfl) (.inr rfl)) gs_name (ss_one (ss_expr (se_bm ms_append PySem.F.plainAttrs_list PySem.F.slot_list_append PySem.F.type_list_append mt_append (se_var (pv 4)) (sa_cons (se_fz (se_callB (cr_sum rfl) cs_sum (by rfl) T.z_sum (by decide +kernel) (sa_cons (se_fz (se_lc rfl sc_law_product.nd (si_rng (by rfl) T.z_range (sa_cons (se_callB call_len cs_len (by rfl) T.z_len (by decide +kernel) (sa_cons (se_var (pv 3)) sa_nil)) sa_nil)) (blkOk_by (own := [((PySem.Str.ofString "_law_k"), 6)]) (by show blkC [(PySem.Str.ofString "_law_one"), (PySem.Str.ofString "_law_other"), (PySem.Str.ofString "_law_made"), (PySem.Str.ofString "_law_row"), (PySem.Str.ofString "_law_line"), (PySem.Str.ofString "_law_j"), (PySem.Str.ofString "_law_k")] (defScope s_law_product) _ _ = true; decide +kernel)) (fun _ _ _ _ _ => (pg_name (i := 6) sc_law_product.nd (by rfl) (.inl rfl))) (fun _ _ _ _ _ => sts_nil) (fun _ _ _ _ _ => (se_op op_mulW os_mul (se_ix ix_seq os_ix (se_var (pv 3)) (se_var (pv 6)) (fun _ _ => rfl)) (se_ix ix_seq os_ix (se_ix ix_seq os_ix (se_var (pv 1)) (se_var (pv 6)) (fun _ _ => rfl)) (se_var (pv 5)) (fun _ _ => rfl)))) gs_name (by decide))) sa_nil))) sa_nil)))))
    (ss_one (ss_expr (se_bm ms_append PySem.F.plainAttrs_list PySem.F.slot_list_append PySem.F.type_list_append mt_append (se_var (pv 2)) (sa_cons (se_fz (se_var (pv 4))) sa_nil)))))))
    (ss_one (ss_ret (se_fz (se_var (pv 2)))))))
theorem c_law_product (T : Txt P w K mg base) {f : Addr} {fd : FuncData} (F : Fun K "_law_product" "_law_product" s_law_product f fd) (b : Binds K fd [(PySem.Str.ofString "_law_one"), (PySem.Str.ofString "_law_other")] []) (hm : mg (PySem.Str.ofString "_law_product") = some (.ref f)) : Cal P w K mg base (PySem.Str.ofString "_law_product") 1 [.vw, .vw] v_law_product :=
  ⟨f, fd, [(PySem.Str.ofString "_law_one"), (PySem.Str.ofString "_law_other")], fn_data F sc_law_product rfl (d_law_product T ), hm, F.kp, b⟩
theorem sc_determinant : FnScope [(PySem.Str.ofString "grid"), (PySem.Str.ofString "work"), (PySem.Str.ofString "sign"), (PySem.Str.ofString "last"), (PySem.Str.ofString "t"), (PySem.Str.ofString "i"), (PySem.Str.ofString "k"), (PySem.Str.ofString "row"), (PySem.Str.ofString "x"), (PySem.Str.ofString "y")] [(PySem.Str.ofString "grid")] (defScope s_determinant) := ⟨rfl, rfl, rfl, by decide +kernel, rfl, by decide +kernel, by decide +kernel⟩
theorem d_determinant (T : Txt P w K mg base) (c_ask_square : Cal P w K mg base (PySem.Str.ofString "ask_square") 1 [.vw] v_ask_square) (c_pivot_row : Cal P w K mg base (PySem.Str.ofString "pivot_row") 1 [.vw, .vw] v_pivot_row) : DefOk P w K mg base [(PySem.Str.ofString "grid"), (PySem.Str.ofString "work"), (PySem.Str.ofString "sign"), (PySem.Str.ofString "last"), (PySem.Str.ofString "t"), (PySem.Str.ofString "i"), (PySem.Str.ofString "k"), (PySem.Str.ofString "row"), (PySem.Str.ofString "x"), (PySem.Str.ofString "y")] "determinant" s_determinant 1 m_determinant := by
  delta m_determinant l_determinant_2 l_determinant_1 e_determinant_2 e_determinant_1
  exact fun f cdv A outer s H E W hr tk hp =>
  (ss_cons (ss_expr (se_callC c_ask_square (hr.mono (by decide)) (by rfl) tk (sa_cons (se_var (pv 0)) sa_nil)))
    (ss_cons (ss_set (i := 1) sc_determinant.nd (by rfl) (.inr rfl) (se_lc rfl sc_determinant.nd (si_list (se_var (pv 0))) (blkOk_by (own := [((PySem.Str.ofString "row"), 7)]) (by show blkC [(PySem.Str.ofString "grid"), (PySem.Str.ofString "work"), (PySem.Str.ofString "sign"), (PySem.Str.ofString "last"), (PySem.Str.ofString "t"), (PySem.Str.ofString "i"), (PySem.Str.ofString "k"), (PySem.Str.ofString "row"), (PySem.Str.ofString "x"), (PySem.Str.ofString "y")] (defScope s_determinant) _ _ = true; decide +kernel)) (fun _ _ _ _ _ => (pg_name (i := 7) sc_determinant.nd (by rfl) (.inl rfl))) (fun _ _ _ _ _ => sts_nil) (fun _ _ _ _ _ => (se_fz (se_callTy call_list_of cs_list (by rfl) T.z_list (by decide +kernel) (sa_cons (se_var (pv 7)) sa_nil)))) gs_name (by decide)))
    (ss_cons (ss_set (i := 2) sc_determinant.nd (by rfl) (.inl rfl) se_int)
    (ss_cons (ss_set (i := 3) sc_determinant.nd (by rfl) (.inr rfl) se_int)
    (ss_cons (ss_for hp rfl (si_rng (by rfl) T.z_range (sa_cons (se_callB call_len cs_len (by rfl) T.z_len (by decide +kernel) (sa_cons (se_var (pv 1)) sa_nil)) sa_nil)) (pg_name (i := 4) sc_determinant.nd (by rfl) (.inr rfl)) gs_name (ss_cons (ss_set (i := 5) sc_determinant.nd (by rfl) (.inl rfl) (se_callC c_pivot_row (hr.mono (by decide)) (by rfl) tk (sa_cons (se_var (pv 1)) (sa_cons (se_var (pv 4)) sa_nil))))
    (ss_cons (ss_if (st_cmp op_isN os_isN (se_var (pv 5)) se_non (nomark _)) (ss_one (ss_ret se_int)) ss_nil)
    (ss_cons (ss_if (st_cmp (op_neD hr.units) os_ne (se_var (pv 5)) (se_var (pv 4)) (nomark _)) (ss_cons (ss_swap (sa_cons (se_ix ix_seq os_ix (se_var (pv 1)) (se_var (pv 5)) (fun _ _ => rfl)) (sa_cons (se_ix ix_seq os_ix (se_var (pv 1)) (se_var (pv 4)) (fun _ _ => rfl)) sa_nil)) (se_var (pv 1)) (se_var (pv 4)) (se_var (pv 1)) (se_var (pv 5)) rfl (pg_sub (se_var (pv 1)) (se_var (pv 4)) set_list) (pg_sub (se_var (pv 1)) (se_var (pv 5)) set_list))
    (ss_one (ss_set (i := 2) sc_determinant.nd (by rfl) (.inl rfl) (se_un un_neg us_neg (se_var (pv 2)))))) ss_nil)
    (ss_cons (ss_for hp rfl (si_rng2 (by rfl) T.z_range (sa_cons (se_op op_plus os_plus (se_var (pv 4)) se_int) (sa_cons (se_callB call_len cs_len (by rfl) T.z_len (by decide +kernel) (sa_cons (se_var (pv 1)) sa_nil)) sa_nil))) (pg_name (i := 6) sc_determinant.nd (by rfl) (.inr rfl)) gs_name (ss_one (ss_store (se_fz (se_lc rfl sc_determinant.nd (si_zip (by rfl) T.z_zip (sa_cons (se_ix ix_seq os_ix (se_var (pv 1)) (se_var (pv 6)) (fun _ _ => rfl)) (sa_cons (se_ix ix_seq os_ix (se_var (pv 1)) (se_var (pv 4)) (fun _ _ => rfl)) sa_nil))) (blkOk_by (own := [((PySem.Str.ofString "x"), 8), ((PySem.Str.ofString "y"), 9)]) (by show blkC [(PySem.Str.ofString "grid"), (PySem.Str.ofString "work"), (PySem.Str.ofString "sign"), (PySem.Str.ofString "last"), (PySem.Str.ofString "t"), (PySem.Str.ofString "i"), (PySem.Str.ofString "k"), (PySem.Str.ofString "row"), (PySem.Str.ofString "x"), (PySem.Str.ofString "y")] (defScope s_determinant) _ _ = true; decide +kernel)) (fun _ _ _ _ _ => (pg_tup (n := ([8, 9] : List Nat).length) (t := gNms [8, 9]) rfl (pgs_cons (pg_name (i := 8) sc_determinant.nd (by rfl) (.inl rfl)) (pgs_cons (pg_name (i := 9) sc_determinant.nd (by rfl) (.inl rfl)) pgs_nil)))) (fun _ _ _ _ _ => sts_nil) (fun _ _ _ _ _ => (se_op op_fdivF os_fdv (se_op op_sub os_I0 (se_op op_mulW os_mul (se_ix ix_seq os_ix (se_ix ix_seq os_ix (se_var (pv 1)) (se_var (pv 4)) (fun _ _ => rfl)) (se_var (pv 4)) (fun _ _ => rfl)) (se_var (pv 8))) (se_op op_mulW os_mul (se_ix ix_seq os_ix (se_ix ix_seq os_ix (se_var (pv 1)) (se_var (pv 6)) (fun _ _ => rfl)) (se_var (pv 4)) (fun _ _ => rfl)) (se_var (pv 9)))) (se_var (pv 3)))) (gs_tup (is := [8, 9])) (by decide))) (se_var (pv 1)) (se_var (pv 6)) (pg_sub (se_var (pv 1)) (se_var (pv 6)) set_list))))
    (ss_one (ss_set (i := 3) sc_determinant.nd (by rfl) (.inr rfl) (se_ix ix_seq os_ix (se_ix ix_seq os_ix (se_var (pv 1)) (se_var (pv 4)) (fun _ _ => rfl)) (se_var (pv 4)) (fun _ _ => rfl)))))))))
    (ss_one (ss_ret (se_op op_mulW os_mul (se_var (pv 2)) (se_var (pv 3))))))))))
theorem c_determinant (T : Txt P w K mg base) (c_ask_square : Cal P w K mg base (PySem.Str.ofString "ask_square") 1 [.vw] v_ask_square) (c_pivot_row : Cal P w K mg base (PySem.Str.ofString "pivot_row") 1 [.vw, .vw] v_pivot_row) {f : Addr} {fd : FuncData} (F : Fun K "determinant" "determinant" s_determinant f fd) (b : Binds K fd [(PySem.Str.ofString "grid")] []) (hm : mg (PySem.Str.ofString "determinant") = some (.ref f)) : Cal P w K mg base (PySem.Str.ofString "determinant") 2 [.vw] v_determinant :=
  ⟨f, fd, [(PySem.Str.ofString "grid")], fn_data F sc_determinant rfl (d_determinant T c_ask_square c_pivot_row), hm, F.kp, b⟩
theorem sc_law_big : FnScope [(PySem.Str.ofString "_law_script"), (PySem.Str.ofString "_law_at"), (PySem.Str.ofString "_law_cell"), (PySem.Str.ofString "_law_primes"), (PySem.Str.ofString "_law_big_here"), (PySem.Str.ofString "_law_k"), (PySem.Str.ofString "_law_one")] [(PySem.Str.ofString "_law_script"), (PySem.Str.ofString "_law_at")] (defScope s_law_big) := ⟨rfl, rfl, rfl, by decide +kernel, rfl, by decide +kernel, by decide +kernel⟩
theorem d_law_big (T : Txt P w K mg base) (c_law_cell_at : Cal P w K mg base (PySem.Str.ofString "_law_cell_at") 1 [.sc, .vw] v_law_cell_at) : DefOk P w K mg base [(PySem.Str.ofString "_law_script"), (PySem.Str.ofString "_law_at"), (PySem.Str.ofString "_law_cell"), (PySem.Str.ofString "_law_primes"), (PySem.Str.ofString "_law_big_here"), (PySem.Str.ofString "_law_k"), (PySem.Str.ofString "_law_one")] "_law_big" s_law_big 1 m_law_big := by
  delta m_law_big l_law_big_1
  exact fun f cdv A outer s H E W hr tk hp =>
  (ss_cons (ss_set (i := 2) sc_law_big.nd (by rfl) (.inl rfl) (se_callC c_law_cell_at (hr.mono (by decide)) (by rfl) tk (sa_cons (se_var (pv 0)) (sa_cons (se_var (pv 1)) sa_nil))))
    (ss_cons (ss_if (st_cmp op_ge os_B0 (se_var (pv 2)) (se_op op_pow os_pow se_int se_int) (nomark _)) (ss_one (ss_ret (se_var (pv 2)))) ss_nil)
    (ss_cons (ss_set (i := 3) sc_law_big.nd (by rfl) (.inl rfl) (se_tup (sa_cons se_int (sa_cons se_int (sa_cons se_int (sa_cons se_int (sa_cons se_int (sa_cons se_int (sa_cons se_int (sa_cons se_int (sa_cons se_int sa_nil)))))))))))
    (ss_cons (ss_set (i := 4) sc_law_big.nd (by rfl) (.inl rfl) se_int)
    (ss_cons (ss_for hp rfl (si_rng (by rfl) T.z_range (sa_cons se_int sa_nil)) (pg_name (i := 5) sc_law_big.nd (by rfl) (.inl rfl)) gs_name (ss_cons (ss_set (i := 6) sc_law_big.nd (by rfl) (.inl rfl) (se_op op_plus os_plus (se_op op_plus os_plus (se_op op_mod os_mod (se_callC c_law_cell_at (hr.mono (by decide)) (by rfl) tk (sa_cons (se_var (pv 0)) (sa_cons (se_op op_plus os_plus (se_var (pv 1)) (se_op op_mod os_mod (se_var (pv 5)) se_int)) sa_nil))) (se_op op_pow os_pow se_int se_int)) (se_op op_mulW os_mul se_int (se_var (pv 5)))) se_int))
    (ss_one (ss_set (i := 4) sc_law_big.nd (by rfl) (.inl rfl) (se_op op_plus os_plus (se_op op_mulW os_mul (se_var (pv 4)) se_int) (se_op op_mod os_mod (se_op op_mulW os_mul (se_op op_mod os_mod (se_op op_plus os_plus (se_op op_mulW os_mul (se_var (pv 6)) (se_var (pv 6))) (se_op op_mulW os_mul se_int (se_var (pv 5)))) (se_ix ix_seq os_ix (se_var (pv 3)) (se_op op_mod os_mod (se_var (pv 5)) se_int) (fun _ _ => rfl))) (se_op op_plus os_plus (se_var (pv 5)) se_int)) se_int))))))
    (ss_one (ss_ret (se_var (pv 4)))))))))
theorem c_law_big (T : Txt P w K mg base) (c_law_cell_at : Cal P w K mg base (PySem.Str.ofString "_law_cell_at") 1 [.sc, .vw] v_law_cell_at) {f : Addr} {fd : FuncData} (F : Fun K "_law_big" "_law_big" s_law_big f fd) (b : Binds K fd [(PySem.Str.ofString "_law_script"), (PySem.Str.ofString "_law_at")] []) (hm : mg (PySem.Str.ofString "_law_big") = some (.ref f)) : Cal P w K mg base (PySem.Str.ofString "_law_big") 2 [.sc, .vw] v_law_big :=
  ⟨f, fd, [(PySem.Str.ofString "_law_script"), (PySem.Str.ofString "_law_at")], fn_data F sc_law_big rfl (d_law_big T c_law_cell_at), hm, F.kp, b⟩
theorem sc_law_stepped : FnScope [(PySem.Str.ofString "_law_grid_here"), (PySem.Str.ofString "_law_word"), (PySem.Str.ofString "_law_i"), (PySem.Str.ofString "_law_j"), (PySem.Str.ofString "_law_q"), (PySem.Str.ofString "_law_made"), (PySem.Str.ofString "_law_k")] [(PySem.Str.ofString "_law_grid_here"), (PySem.Str.ofString "_law_word"), (PySem.Str.ofString "_law_i"), (PySem.Str.ofString "_law_j"), (PySem.Str.ofString "_law_q")] (defScope s_law_stepped) := ⟨rfl, rfl, rfl, by decide +kernel, rfl, by decide +kernel, by decide +kernel⟩
theorem d_law_stepped (T : Txt P w K mg base) (c_law_copy : Cal P w K mg base (PySem.Str.ofString "_law_copy") 1 [.vw] v_law_copy) : DefOk P w K mg base [(PySem.Str.ofString "_law_grid_here"), (PySem.Str.ofString "_law_word"), (PySem.Str.ofString "_law_i"), (PySem.Str.ofString "_law_j"), (PySem.Str.ofString "_law_q"), (PySem.Str.ofString "_law_made"), (PySem.Str.ofString "_law_k")] "_law_stepped" s_law_stepped 1 m_law_stepped := by
  delta m_law_stepped l_law_stepped_2 l_law_stepped_1
  exact fun f cdv A outer s H E W hr tk hp =>
  (ss_cons (ss_set (i := 5) sc_law_stepped.nd (by rfl) (.inl rfl) (se_callC c_law_copy (hr.mono (by decide)) (by rfl) tk (sa_cons (se_var (pv 0)) sa_nil)))
    (ss_cons (ss_if (st_cmp (op_eqD hr.units) os_eq (se_var (pv 1)) se_str (nomark _)) (ss_one (ss_for hp rfl (si_rng (by rfl) T.z_range (sa_cons (se_callB call_len cs_len (by rfl) T.z_len (by decide +kernel) (sa_cons (se_ix ix_seq os_ix (se_var (pv 0)) se_int (fun _ _ => rfl)) sa_nil)) sa_nil)) (pg_name (i := 6) sc_law_stepped.nd (by rfl) (.inl rfl)) gs_name (ss_one (ss_store (se_op op_plus os_plus (se_ix ix_seq os_ix (se_ix ix_seq os_ix (se_var (pv 0)) (se_var (pv 2)) (fun _ _ => rfl)) (se_var (pv 6)) (fun _ _ => rfl)) (se_op op_mulW os_mul (se_var (pv 4)) (se_ix ix_seq os_ix (se_ix ix_seq os_ix (se_var (pv 0)) (se_var (pv 3)) (fun _ _ => rfl)) (se_var (pv 6)) (fun _ _ => rfl)))) (se_ix ix_seq os_ix (se_var (pv 5)) (se_var (pv 2)) (fun _ _ => rfl)) (se_var (pv 6)) (pg_sub (se_ix ix_seq os_ix (se_var (pv 5)) (se_var (pv 2)) (fun _ _ => rfl)) (se_var (pv 6)) set_list))))) (ss_one (ss_for hp rfl (si_rng (by rfl) T.z_range (sa_cons (se_callB call_len cs_len (by rfl) T.z_len (by decide +kernel) (sa_cons (se_var (pv 0)) sa_nil)) sa_nil)) (pg_name (i := 6) sc_law_stepped.nd (by rfl) (.inl rfl)) gs_name (ss_one (ss_store (se_op op_plus os_plus (se_ix ix_seq os_ix (se_ix ix_seq os_ix (se_var (pv 0)) (se_var (pv 6)) (fun _ _ => rfl)) (se_var (pv 2)) (fun _ _ => rfl)) (se_op op_mulW os_mul (se_var (pv 4)) (se_ix ix_seq os_ix (se_ix ix_seq os_ix (se_var (pv 0)) (se_var (pv 6)) (fun _ _ => rfl)) (se_var (pv 3)) (fun _ _ => rfl)))) (se_ix ix_seq os_ix (se_var (pv 5)) (se_var (pv 6)) (fun _ _ => rfl)) (se_var (pv 2)) (pg_sub (se_ix ix_seq os_ix (se_var (pv 5)) (se_var (pv 6)) (fun _ _ => rfl)) (se_var (pv 2)) set_list))))))
    (ss_one (ss_ret (se_fz (se_var (pv 5)))))))
theorem c_law_stepped (T : Txt P w K mg base) (c_law_copy : Cal P w K mg base (PySem.Str.ofString "_law_copy") 1 [.vw] v_law_copy) {f : Addr} {fd : FuncData} (F : Fun K "_law_stepped" "_law_stepped" s_law_stepped f fd) (b : Binds K fd [(PySem.Str.ofString "_law_grid_here"), (PySem.Str.ofString "_law_word"), (PySem.Str.ofString "_law_i"), (PySem.Str.ofString "_law_j"), (PySem.Str.ofString "_law_q")] []) (hm : mg (PySem.Str.ofString "_law_stepped") = some (.ref f)) : Cal P w K mg base (PySem.Str.ofString "_law_stepped") 2 [.vw, .vw, .vw, .vw, .vw] v_law_stepped :=
  ⟨f, fd, [(PySem.Str.ofString "_law_grid_here"), (PySem.Str.ofString "_law_word"), (PySem.Str.ofString "_law_i"), (PySem.Str.ofString "_law_j"), (PySem.Str.ofString "_law_q")], fn_data F sc_law_stepped rfl (d_law_stepped T c_law_copy), hm, F.kp, b⟩
theorem sc_law_grid : FnScope [(PySem.Str.ofString "_law_script"), (PySem.Str.ofString "_law_at"), (PySem.Str.ofString "_law_rows"), (PySem.Str.ofString "_law_columns"), (PySem.Str.ofString "_law_grid_here"), (PySem.Str.ofString "_law_i"), (PySem.Str.ofString "_law_big_here"), (PySem.Str.ofString "_law_row"), (PySem.Str.ofString "_law_j"), (PySem.Str.ofString "_law_one")] [(PySem.Str.ofString "_law_script"), (PySem.Str.ofString "_law_at"), (PySem.Str.ofString "_law_rows"), (PySem.Str.ofString "_law_columns")] (defScope s_law_grid) := ⟨rfl, rfl, rfl, by decide +kernel, rfl, by decide +kernel, by decide +kernel⟩
theorem d_law_grid (T : Txt P w K mg base) (c_law_big : Cal P w K mg base (PySem.Str.ofString "_law_big") 2 [.sc, .vw] v_law_big) (c_law_number : Cal P w K mg base (PySem.Str.ofString "_law_number") 1 [.vw] v_law_number) : DefOk P w K mg base [(PySem.Str.ofString "_law_script"), (PySem.Str.ofString "_law_at"), (PySem.Str.ofString "_law_rows"), (PySem.Str.ofString "_law_columns"), (PySem.Str.ofString "_law_grid_here"), (PySem.Str.ofString "_law_i"), (PySem.Str.ofString "_law_big_here"), (PySem.Str.ofString "_law_row"), (PySem.Str.ofString "_law_j"), (PySem.Str.ofString "_law_one")] "_law_grid" s_law_grid 2 m_law_grid := by
  delta m_law_grid l_law_grid_2 l_law_grid_1
  exact fun f cdv A outer s H E W hr tk hp =>
  (ss_cons (ss_set (i := 4) sc_law_grid.nd (by rfl) (.inl rfl) (se_lst sa_nil))
    (ss_cons (ss_for hp rfl (si_rng (by rfl) T.z_range (sa_cons (se_var (pv 2)) sa_nil)) (pg_name (i := 5) sc_law_grid.nd (by rfl) (.inl rfl)) gs_name (ss_cons (ss_set (i := 6) sc_law_grid.nd (by rfl) (.inl rfl) (se_callC c_law_big (hr.mono (by decide)) (by rfl) tk (sa_cons (se_var (pv 0)) (sa_cons (se_op op_plus os_plus (se_var (pv 1)) (se_var (pv 5))) sa_nil))))
    (ss_cons (ss_set (i := 7) sc_law_grid.nd (by rfl) (.inl rfl) (se_lst sa_nil))
    (ss_cons (ss_for hp rfl (si_rng (by rfl) T.z_range (sa_cons (se_var (pv 3)) sa_nil)) (pg_name (i := 8) sc_law_grid.nd (by rfl) (.inl rfl)) gs_name (ss_cons (ss_setT (is := [9, 6]) (se_callC c_law_number (hr.mono (by decide)) (by rfl) tk (sa_cons (se_var (pv 6)) sa_nil)) (pg_tup (n := ([9, 6] : List Nat).length) (t := gNms [9, 6]) rfl (pgs_cons (pg_name (i := 9) sc_law_grid.nd (by rfl) (.inl rfl)) (pgs_cons (pg_name (i := 6) sc_law_grid.nd (by rfl) (.inl rfl)) pgs_nil))))
    (ss_one (ss_expr (se_bm ms_append PySem.F.plainAttrs_list PySem.F.slot_list_append PySem.F.type_list_append mt_append (se_var (pv 7)) (sa_cons (se_fz (se_var (pv 9))) sa_nil))))))
    (ss_one (ss_expr (se_bm ms_append PySem.F.plainAttrs_list PySem.F.slot_list_append PySem.F.type_list_append mt_append (se_var (pv 4)) (sa_cons (se_fz (se_var (pv 7))) sa_nil))))))))
    (ss_one (ss_ret (se_fz (se_var (pv 4)))))))
theorem c_law_grid (T : Txt P w K mg base) (c_law_big : Cal P w K mg base (PySem.Str.ofString "_law_big") 2 [.sc, .vw] v_law_big) (c_law_number : Cal P w K mg base (PySem.Str.ofString "_law_number") 1 [.vw] v_law_number) {f : Addr} {fd : FuncData} (F : Fun K "_law_grid" "_law_grid" s_law_grid f fd) (b : Binds K fd [(PySem.Str.ofString "_law_script"), (PySem.Str.ofString "_law_at"), (PySem.Str.ofString "_law_rows"), (PySem.Str.ofString "_law_columns")] []) (hm : mg (PySem.Str.ofString "_law_grid") = some (.ref f)) : Cal P w K mg base (PySem.Str.ofString "_law_grid") 3 [.sc, .vw, .vw, .vw] v_law_grid :=
  ⟨f, fd, [(PySem.Str.ofString "_law_script"), (PySem.Str.ofString "_law_at"), (PySem.Str.ofString "_law_rows"), (PySem.Str.ofString "_law_columns")], fn_data F sc_law_grid rfl (d_law_grid T c_law_big c_law_number), hm, F.kp, b⟩
theorem sc_law : FnScope [(PySem.Str.ofString "_law_script"), (PySem.Str.ofString "_law_first"), (PySem.Str.ofString "_law_rows"), (PySem.Str.ofString "_law_one"), (PySem.Str.ofString "_law_other"), (PySem.Str.ofString "_law_here"), (PySem.Str.ofString "_law_over"), (PySem.Str.ofString "_law_j"), (PySem.Str.ofString "_law_i"), (PySem.Str.ofString "_law_plain"), (PySem.Str.ofString "_law_q"), (PySem.Str.ofString "_law_rest"), (PySem.Str.ofString "_law_word"), (PySem.Str.ofString "_law_other_way")] [(PySem.Str.ofString "_law_script")] (defScope s_law) := ⟨rfl, rfl, rfl, by decide +kernel, rfl, by decide +kernel, by decide +kernel⟩
theorem d_law (T : Txt P w K mg base) (c_law_big : Cal P w K mg base (PySem.Str.ofString "_law_big") 2 [.sc, .vw] v_law_big) (c_law_grid : Cal P w K mg base (PySem.Str.ofString "_law_grid") 3 [.sc, .vw, .vw, .vw] v_law_grid) (c_determinant : Cal P w K mg base (PySem.Str.ofString "determinant") 2 [.vw] v_determinant) (c_law_number : Cal P w K mg base (PySem.Str.ofString "_law_number") 1 [.vw] v_law_number) (c_law_copy : Cal P w K mg base (PySem.Str.ofString "_law_copy") 1 [.vw] v_law_copy) (c_law_product : Cal P w K mg base (PySem.Str.ofString "_law_product") 1 [.vw, .vw] v_law_product) (c_law_stepped : Cal P w K mg base (PySem.Str.ofString "_law_stepped") 2 [.vw, .vw, .vw, .vw, .vw] v_law_stepped) : DefOk P w K mg base [(PySem.Str.ofString "_law_script"), (PySem.Str.ofString "_law_first"), (PySem.Str.ofString "_law_rows"), (PySem.Str.ofString "_law_one"), (PySem.Str.ofString "_law_other"), (PySem.Str.ofString "_law_here"), (PySem.Str.ofString "_law_over"), (PySem.Str.ofString "_law_j"), (PySem.Str.ofString "_law_i"), (PySem.Str.ofString "_law_plain"), (PySem.Str.ofString "_law_q"), (PySem.Str.ofString "_law_rest"), (PySem.Str.ofString "_law_word"), (PySem.Str.ofString "_law_other_way")] "law" s_law 3 m_law := by
  delta m_law l_law_2 l_law_1 e_law_2 e_law_1
  exact fun f cdv A outer s H E W hr tk hp =>
  (ss_cons (ss_set (i := 1) sc_law.nd (by rfl) (.inl rfl) (se_callC c_law_big (hr.mono (by decide)) (by rfl) tk (sa_cons (se_var (pv 0)) (sa_cons se_int sa_nil))))
    (ss_cons (ss_set (i := 2) sc_law.nd (by rfl) (.inl rfl) (se_op op_plus os_plus se_int (se_op op_mod os_mod (se_var (pv 1)) se_int)))
    (ss_cons (ss_set (i := 3) sc_law.nd (by rfl) (.inr rfl) (se_callC c_law_grid (hr.mono (by decide)) (by rfl) tk (sa_cons (se_var (pv 0)) (sa_cons se_int (sa_cons (se_var (pv 2)) (sa_cons (se_var (pv 2)) sa_nil))))))
    (ss_cons (ss_set (i := 4) sc_law.nd (by rfl) (.inl rfl) (se_callC c_law_grid (hr.mono (by decide)) (by rfl) tk (sa_cons (se_var (pv 0)) (sa_cons se_int (sa_cons (se_var (pv 2)) (sa_cons (se_var (pv 2)) sa_nil))))))
    (ss_cons (ss_set (i := 5) sc_law.nd (by rfl) (.inl rfl) (se_callC c_determinant (hr.mono (by decide)) (by rfl) tk (sa_cons (se_callC c_law_copy (hr.mono (by decide)) (by rfl) tk (sa_cons (se_var (pv 3)) sa_nil)) sa_nil)))
    (ss_cons (ss_if (st_cmp (op_neD hr.units) os_ne (se_callC c_determinant (hr.mono (by decide)) (by rfl) tk (sa_cons (se_callC c_law_product (hr.mono (by decide)) (by rfl) tk (sa_cons (se_var (pv 3)) (sa_cons (se_var (pv 4)) sa_nil))) sa_nil)) (se_op op_mulW os_mul (se_var (pv 5)) (se_callC c_determinant (hr.mono (by decide)) (by rfl) tk (sa_cons (se_callC c_law_copy (hr.mono (by decide)) (by rfl) tk (sa_cons (se_var (pv 4)) sa_nil)) sa_nil))) (nomark _)) (ss_one (ss_ret se_bl)) ss_nil)
    (ss_cons (ss_set (i := 6) sc_law.nd (by rfl) (.inl rfl) (se_lst sa_nil))
    (ss_cons (ss_for hp rfl (si_rng (by rfl) T.z_range (sa_cons (se_var (pv 2)) sa_nil)) (pg_name (i := 7) sc_law.nd (by rfl) (.inr rfl)) gs_name (ss_one (ss_expr (se_bm ms_append PySem.F.plainAttrs_list PySem.F.slot_list_append PySem.F.type_list_append mt_append (se_var (pv 6)) (sa_cons (se_fz (se_lc rfl sc_law.nd (si_rng (by rfl) T.z_range (sa_cons (se_var (pv 2)) sa_nil)) (blkOk_by (own := [((PySem.Str.ofString "_law_i"), 8)]) (by show blkC [(PySem.Str.ofString "_law_script"), (PySem.Str.ofString "_law_first"), (PySem.Str.ofString "_law_rows"), (PySem.Str.ofString "_law_one"), (PySem.Str.ofString "_law_other"), (PySem.Str.ofString "_law_here"), (PySem.Str.ofString "_law_over"), (PySem.Str.ofString "_law_j"), (PySem.Str.ofString "_law_i"), (PySem.Str.ofString "_law_plain"), (PySem.Str.ofString "_law_q"), (PySem.Str.ofString "_law_rest"), (PySem.Str.ofString "_law_word"), (PySem.Str.ofString "_law_other_way")] (defScope s_law) _ _ = true; decide +kernel)) (fun _ _ _ _ _ => (pg_name (i := 8) sc_law.nd (by rfl) (.inl rfl))) (fun _ _ _ _ _ => sts_nil) (fun _ _ _ _ _ => (se_ix ix_seq os_ix (se_ix ix_seq os_ix (se_var (pv 3)) (se_var (pv 8)) (fun _ _ => rfl)) (se_var (pv 7)) (fun _ _ => rfl))) gs_name (by decide))) sa_nil)))))
    (ss_cons (ss_if (st_cmp (op_neD hr.units) os_ne (se_callC c_determinant (hr.mono (by decide)) (by rfl) tk (sa_cons (se_var (pv 6)) sa_nil)) (se_var (pv 5)) (nomark _)) (ss_one (ss_ret se_bl)) ss_nil)
    (ss_cons (ss_set (i := 9) sc_law.nd (by rfl) (.inl rfl) (se_lst sa_nil))
    (ss_cons (ss_for hp rfl (si_rng (by rfl) T.z_range (sa_cons (se_var (pv 2)) sa_nil)) (pg_name (i := 8) sc_law.nd (by rfl) (.inr rfl)) gs_name (ss_one (ss_expr (se_bm ms_append PySem.F.plainAttrs_list PySem.F.slot_list_append PySem.F.type_list_append mt_append (se_var (pv 9)) (sa_cons (se_fz (se_lc rfl sc_law.nd (si_rng (by rfl) T.z_range (sa_cons (se_var (pv 2)) sa_nil)) (blkOk_by (own := [((PySem.Str.ofString "_law_j"), 7)]) (by show blkC [(PySem.Str.ofString "_law_script"), (PySem.Str.ofString "_law_first"), (PySem.Str.ofString "_law_rows"), (PySem.Str.ofString "_law_one"), (PySem.Str.ofString "_law_other"), (PySem.Str.ofString "_law_here"), (PySem.Str.ofString "_law_over"), (PySem.Str.ofString "_law_j"), (PySem.Str.ofString "_law_i"), (PySem.Str.ofString "_law_plain"), (PySem.Str.ofString "_law_q"), (PySem.Str.ofString "_law_rest"), (PySem.Str.ofString "_law_word"), (PySem.Str.ofString "_law_other_way")] (defScope s_law) _ _ = true; decide +kernel)) (fun _ _ _ _ _ => (pg_name (i := 7) sc_law.nd (by rfl) (.inl rfl))) (fun _ _ _ _ _ => sts_nil) (fun _ _ _ _ _ => (se_callTy call_int1 cs_int (by rfl) T.z_int (by decide +kernel) (sa_cons (se_cmp (op_eqD hr.units) os_eq (se_var (pv 8)) (se_var (pv 7)) (nomark _)) sa_nil))) gs_name (by decide))) sa_nil)))))
    (ss_cons (ss_if (st_w (sw_or (st_cmp (op_neD hr.units) os_ne (se_callC c_determinant (hr.mono (by decide)) (by rfl) tk (sa_cons (se_var (pv 9)) sa_nil)) se_int (nomark _)) (sw_or1 (st_cmp (op_eqD hr.units) os_eq (se_var (pv 2)) se_int (nomark _))))) (ss_one (ss_ret (se_and (se_cmp (op_eqD hr.units) os_eq (se_var (pv 2)) se_int (nomark _)) (se_and (se_cmp (op_eqD hr.units) os_eq (se_callC c_determinant (hr.mono (by decide)) (by rfl) tk (sa_cons (se_var (pv 9)) sa_nil)) se_int (nomark _)) (se_one (se_cmp (op_eqD hr.units) os_eq (se_var (pv 5)) (se_ix ix_seq os_ix (se_ix ix_seq os_ix (se_var (pv 3)) se_int (fun _ _ => rfl)) se_int (fun _ _ => rfl)) (nomark _))))))) ss_nil)
    (ss_cons (ss_set (i := 8) sc_law.nd (by rfl) (.inr rfl) (se_op op_mod os_mod (se_op op_fdivW os_div (se_var (pv 1)) se_int) (se_var (pv 2))))
    (ss_cons (ss_set (i := 7) sc_law.nd (by rfl) (.inr rfl) (se_op op_mod os_mod (se_op op_plus os_plus (se_op op_plus os_plus (se_var (pv 8)) se_int) (se_op op_mod os_mod (se_op op_fdivW os_div (se_var (pv 1)) se_int) (se_op op_sub os_I0 (se_var (pv 2)) se_int))) (se_var (pv 2))))
    (ss_cons (ss_setT (is := [10, 11]) (se_callC c_law_number (hr.mono (by decide)) (by rfl) tk (sa_cons (se_op op_fdivW os_div (se_var (pv 1)) se_int) sa_nil)) (pg_tup (n := ([10, 11] : List Nat).length) (t := gNms [10, 11]) rfl (pgs_cons (pg_name (i := 10) sc_law.nd (by rfl) (.inl rfl)) (pgs_cons (pg_name (i := 11) sc_law.nd (by rfl) (.inl rfl)) pgs_nil))))
    (ss_cons (ss_set (i := 12) sc_law.nd (by rfl) (.inl rfl) (se_ix ix_seq os_ix (se_tup (sa_cons se_str (sa_cons se_str sa_nil))) (se_op op_mod os_mod (se_op op_fdivW os_div (se_var (pv 1)) se_int) se_int) (fun _ _ => rfl)))
    (ss_cons (ss_if (st_cmp (op_neD hr.units) os_ne (se_callC c_determinant (hr.mono (by decide)) (by rfl) tk (sa_cons (se_callC c_law_stepped (hr.mono (by decide)) (by rfl) tk (sa_cons (se_var (pv 3)) (sa_cons (se_var (pv 12)) (sa_cons (se_var (pv 8)) (sa_cons (se_var (pv 7)) (sa_cons (se_var (pv 10)) sa_nil)))))) sa_nil)) (se_var (pv 5)) (nomark _)) (ss_one (ss_ret se_bl)) ss_nil)
    (ss_cons (ss_set (i := 13) sc_law.nd (by rfl) (.inl rfl) (se_callC c_law_copy (hr.mono (by decide)) (by rfl) tk (sa_cons (se_var (pv 3)) sa_nil)))
    (ss_cons (ss_store (se_callTy call_list_of cs_list (by rfl) T.z_list (by decide +kernel) (sa_cons (se_ix ix_seq os_ix (se_var (pv 3)) (se_var (pv 7)) (fun _ _ => rfl)) sa_nil)) (se_var (pv 13)) (se_var (pv 8)) (pg_sub (se_var (pv 13)) (se_var (pv 8)) set_list))
    (ss_cons (ss_store (se_callTy call_list_of cs_list (by rfl) T.z_list (by decide +kernel) (sa_cons (se_ix ix_seq os_ix (se_var (pv 3)) (se_var (pv 8)) (fun _ _ => rfl)) sa_nil)) (se_var (pv 13)) (se_var (pv 7)) (pg_sub (se_var (pv 13)) (se_var (pv 7)) set_list))
    (ss_one (ss_ret (se_cmp (op_eqD hr.units) os_eq (se_callC c_determinant (hr.mono (by decide)) (by rfl) tk (sa_cons (se_var (pv 13)) sa_nil)) (se_op op_sub os_I0 se_int (se_var (pv 5))) (nomark _))))))))))))))))))))))))
theorem c_law (T : Txt P w K mg base) (c_law_big : Cal P w K mg base (PySem.Str.ofString "_law_big") 2 [.sc, .vw] v_law_big) (c_law_grid : Cal P w K mg base (PySem.Str.ofString "_law_grid") 3 [.sc, .vw, .vw, .vw] v_law_grid) (c_determinant : Cal P w K mg base (PySem.Str.ofString "determinant") 2 [.vw] v_determinant) (c_law_number : Cal P w K mg base (PySem.Str.ofString "_law_number") 1 [.vw] v_law_number) (c_law_copy : Cal P w K mg base (PySem.Str.ofString "_law_copy") 1 [.vw] v_law_copy) (c_law_product : Cal P w K mg base (PySem.Str.ofString "_law_product") 1 [.vw, .vw] v_law_product) (c_law_stepped : Cal P w K mg base (PySem.Str.ofString "_law_stepped") 2 [.vw, .vw, .vw, .vw, .vw] v_law_stepped) {f : Addr} {fd : FuncData} (F : Fun K "law" "law" s_law f fd) (b : Binds K fd [(PySem.Str.ofString "_law_script")] []) (hm : mg (PySem.Str.ofString "law") = some (.ref f)) : Cal P w K mg base (PySem.Str.ofString "law") 4 [.sc] v_law :=
  ⟨f, fd, [(PySem.Str.ofString "_law_script")], fn_data F sc_law rfl (d_law T c_law_big c_law_grid c_determinant c_law_number c_law_copy c_law_product c_law_stepped), hm, F.kp, b⟩
end
/-! ### the end -/
theorem all_mk (law_ok : ∀ ns : List Int, ns.length ≤ 63 → ∃ h, v_law [.list (ns.map PyData.int)] = .ok (.d (.bool true)) h) {l : PySem.W.OpenLaw} {w : World} {K : PySem.W.Frag} {h : Heap} {mg : Str → Option Value} {fa : Addr} (X : K.In h) (G : h.Ns mainGlobals mg) (hfa : mg (PySem.Str.ofString "law") = some (.ref fa))
    {f0 : Addr} {od0 an0 : Option Addr} {sl0 : Array (Option Value)} {oc0 kV0 dc0 pm0 cd0 ct0 : Value}
    (a0 : PySem.W.nsIn K mainGlobals (PySem.Str.ofString "ask_square") = some (some (.ref f0))) (l0 : K.lookup f0 = some ⟨oc0, od0, .func (PySem.W.fnOf "ask_square" "ask_square" (defArgs s_ask_square) (defBody s_ask_square) (defScope s_ask_square) .none kV0 dc0 pm0 an0 cd0 ct0), sl0⟩) (c0 : PySem.W.codeIn K cd0 "ask_square" = true) (k0 : PySem.W.keepIn K (.ref f0) = true)
    {f1 : Addr} {od1 an1 : Option Addr} {sl1 : Array (Option Value)} {oc1 kV1 dc1 pm1 cd1 ct1 : Value}
    (a1 : PySem.W.nsIn K mainGlobals (PySem.Str.ofString "pivot_row") = some (some (.ref f1))) (l1 : K.lookup f1 = some ⟨oc1, od1, .func (PySem.W.fnOf "pivot_row" "pivot_row" (defArgs s_pivot_row) (defBody s_pivot_row) (defScope s_pivot_row) .none kV1 dc1 pm1 an1 cd1 ct1), sl1⟩) (c1 : PySem.W.codeIn K cd1 "pivot_row" = true) (k1 : PySem.W.keepIn K (.ref f1) = true)
    {f2 : Addr} {od2 an2 : Option Addr} {sl2 : Array (Option Value)} {oc2 kV2 dc2 pm2 cd2 ct2 : Value}
    (a2 : PySem.W.nsIn K mainGlobals (PySem.Str.ofString "_law_cell_at") = some (some (.ref f2))) (l2 : K.lookup f2 = some ⟨oc2, od2, .func (PySem.W.fnOf "_law_cell_at" "_law_cell_at" (defArgs s_law_cell_at) (defBody s_law_cell_at) (defScope s_law_cell_at) .none kV2 dc2 pm2 an2 cd2 ct2), sl2⟩) (c2 : PySem.W.codeIn K cd2 "_law_cell_at" = true) (k2 : PySem.W.keepIn K (.ref f2) = true)
    {f3 : Addr} {od3 an3 : Option Addr} {sl3 : Array (Option Value)} {oc3 kV3 dc3 pm3 cd3 ct3 : Value}
    (a3 : PySem.W.nsIn K mainGlobals (PySem.Str.ofString "_law_number") = some (some (.ref f3))) (l3 : K.lookup f3 = some ⟨oc3, od3, .func (PySem.W.fnOf "_law_number" "_law_number" (defArgs s_law_number) (defBody s_law_number) (defScope s_law_number) .none kV3 dc3 pm3 an3 cd3 ct3), sl3⟩) (c3 : PySem.W.codeIn K cd3 "_law_number" = true) (k3 : PySem.W.keepIn K (.ref f3) = true)
    {f4 : Addr} {od4 an4 : Option Addr} {sl4 : Array (Option Value)} {oc4 kV4 dc4 pm4 cd4 ct4 : Value}
    (a4 : PySem.W.nsIn K mainGlobals (PySem.Str.ofString "_law_copy") = some (some (.ref f4))) (l4 : K.lookup f4 = some ⟨oc4, od4, .func (PySem.W.fnOf "_law_copy" "_law_copy" (defArgs s_law_copy) (defBody s_law_copy) (defScope s_law_copy) .none kV4 dc4 pm4 an4 cd4 ct4), sl4⟩) (c4 : PySem.W.codeIn K cd4 "_law_copy" = true) (k4 : PySem.W.keepIn K (.ref f4) = true)
    {f5 : Addr} {od5 an5 : Option Addr} {sl5 : Array (Option Value)} {oc5 kV5 dc5 pm5 cd5 ct5 : Value}
    (a5 : PySem.W.nsIn K mainGlobals (PySem.Str.ofString "_law_product") = some (some (.ref f5))) (l5 : K.lookup f5 = some ⟨oc5, od5, .func (PySem.W.fnOf "_law_product" "_law_product" (defArgs s_law_product) (defBody s_law_product) (defScope s_law_product) .none kV5 dc5 pm5 an5 cd5 ct5), sl5⟩) (c5 : PySem.W.codeIn K cd5 "_law_product" = true) (k5 : PySem.W.keepIn K (.ref f5) = true)
    {f6 : Addr} {od6 an6 : Option Addr} {sl6 : Array (Option Value)} {oc6 kV6 dc6 pm6 cd6 ct6 : Value}
    (a6 : PySem.W.nsIn K mainGlobals (PySem.Str.ofString "determinant") = some (some (.ref f6))) (l6 : K.lookup f6 = some ⟨oc6, od6, .func (PySem.W.fnOf "determinant" "determinant" (defArgs s_determinant) (defBody s_determinant) (defScope s_determinant) .none kV6 dc6 pm6 an6 cd6 ct6), sl6⟩) (c6 : PySem.W.codeIn K cd6 "determinant" = true) (k6 : PySem.W.keepIn K (.ref f6) = true)
    {f7 : Addr} {od7 an7 : Option Addr} {sl7 : Array (Option Value)} {oc7 kV7 dc7 pm7 cd7 ct7 : Value}
    (a7 : PySem.W.nsIn K mainGlobals (PySem.Str.ofString "_law_big") = some (some (.ref f7))) (l7 : K.lookup f7 = some ⟨oc7, od7, .func (PySem.W.fnOf "_law_big" "_law_big" (defArgs s_law_big) (defBody s_law_big) (defScope s_law_big) .none kV7 dc7 pm7 an7 cd7 ct7), sl7⟩) (c7 : PySem.W.codeIn K cd7 "_law_big" = true) (k7 : PySem.W.keepIn K (.ref f7) = true)
    {f8 : Addr} {od8 an8 : Option Addr} {sl8 : Array (Option Value)} {oc8 kV8 dc8 pm8 cd8 ct8 : Value}
    (a8 : PySem.W.nsIn K mainGlobals (PySem.Str.ofString "_law_stepped") = some (some (.ref f8))) (l8 : K.lookup f8 = some ⟨oc8, od8, .func (PySem.W.fnOf "_law_stepped" "_law_stepped" (defArgs s_law_stepped) (defBody s_law_stepped) (defScope s_law_stepped) .none kV8 dc8 pm8 an8 cd8 ct8), sl8⟩) (c8 : PySem.W.codeIn K cd8 "_law_stepped" = true) (k8 : PySem.W.keepIn K (.ref f8) = true)
    {f9 : Addr} {od9 an9 : Option Addr} {sl9 : Array (Option Value)} {oc9 kV9 dc9 pm9 cd9 ct9 : Value}
    (a9 : PySem.W.nsIn K mainGlobals (PySem.Str.ofString "_law_grid") = some (some (.ref f9))) (l9 : K.lookup f9 = some ⟨oc9, od9, .func (PySem.W.fnOf "_law_grid" "_law_grid" (defArgs s_law_grid) (defBody s_law_grid) (defScope s_law_grid) .none kV9 dc9 pm9 an9 cd9 ct9), sl9⟩) (c9 : PySem.W.codeIn K cd9 "_law_grid" = true) (k9 : PySem.W.keepIn K (.ref f9) = true)
    {f10 : Addr} {od10 an10 : Option Addr} {sl10 : Array (Option Value)} {oc10 kV10 dc10 pm10 cd10 ct10 : Value}
    (a10 : PySem.W.nsIn K mainGlobals (PySem.Str.ofString "law") = some (some (.ref f10))) (l10 : K.lookup f10 = some ⟨oc10, od10, .func (PySem.W.fnOf "law" "law" (defArgs s_law) (defBody s_law) (defScope s_law) .none kV10 dc10 pm10 an10 cd10 ct10), sl10⟩) (c10 : PySem.W.codeIn K cd10 "law" = true) (k10 : PySem.W.keepIn K (.ref f10) = true)
    (z_int : PySem.W.nsIn K mainGlobals (PySem.Str.ofString "int") = some none)
    (z_len : PySem.W.nsIn K mainGlobals (PySem.Str.ofString "len") = some none)
    (z_list : PySem.W.nsIn K mainGlobals (PySem.Str.ofString "list") = some none)
    (z_range : PySem.W.nsIn K mainGlobals (PySem.Str.ofString "range") = some none)
    (z_sum : PySem.W.nsIn K mainGlobals (PySem.Str.ofString "sum") = some none)
    (z_zip : PySem.W.nsIn K mainGlobals (PySem.Str.ofString "zip") = some none)
    {C_NoGrid : Addr}
    (xa_NoGrid : PySem.W.nsIn K mainGlobals (PySem.Str.ofString "NoGrid") = some (some (.ref C_NoGrid)))
    (xx_NoGrid : PySem.W.excIn K C_NoGrid [.type "ValueError", .type "Exception", .type "BaseException", .type "object"] "ValueError.__new__" = true)
    (xk_NoGrid : PySem.W.keepIn K (.ref C_NoGrid) = true)
    (xb_NoGrid : PySem.W.subIn K (.ref C_NoGrid) (.type "BaseException") = some true)
    (xt_NoGrid : PySem.W.typeIn K (.ref C_NoGrid) = some (.type "type"))
    : ∃ fd : FuncData, (∀ (s : Shared) (v : Value), BindsTo s fd ⟨[v], []⟩ [((PySem.Str.ofString "_law_script"), v)]) ∧ ∀ base : Heap, K.In base → base.Ns mainGlobals mg → FnOk l.prog w K mg base (L2.CX l.prog w) 4 fa fd [(PySem.Str.ofString "_law_script")] (spLaw K) := by
  have e := hfa.symm.trans (PySem.W.mg_of X G a10)
  cases e
  have F0 := fun_mk (st := s_ask_square) l0 c0 k0
  have b0 := F0.binds (ps := [(PySem.Str.ofString "grid")]) fun _ _ _ _ _ _ us hl => match us, hl with | [_], _ => rfl
  have F1 := fun_mk (st := s_pivot_row) l1 c1 k1
  have b1 := F1.binds (ps := [(PySem.Str.ofString "work"), (PySem.Str.ofString "t")]) fun _ _ _ _ _ _ us hl => match us, hl with | [_, _], _ => rfl
  have F2 := fun_mk (st := s_law_cell_at) l2 c2 k2
  have b2 := F2.binds (ps := [(PySem.Str.ofString "_law_script"), (PySem.Str.ofString "_law_k")]) fun _ _ _ _ _ _ us hl => match us, hl with | [_, _], _ => rfl
  have F3 := fun_mk (st := s_law_number) l3 c3 k3
  have b3 := F3.binds (ps := [(PySem.Str.ofString "_law_big_here")]) fun _ _ _ _ _ _ us hl => match us, hl with | [_], _ => rfl
  have F4 := fun_mk (st := s_law_copy) l4 c4 k4
  have b4 := F4.binds (ps := [(PySem.Str.ofString "_law_grid_here")]) fun _ _ _ _ _ _ us hl => match us, hl with | [_], _ => rfl
  have F5 := fun_mk (st := s_law_product) l5 c5 k5
  have b5 := F5.binds (ps := [(PySem.Str.ofString "_law_one"), (PySem.Str.ofString "_law_other")]) fun _ _ _ _ _ _ us hl => match us, hl with | [_, _], _ => rfl
  have F6 := fun_mk (st := s_determinant) l6 c6 k6
  have b6 := F6.binds (ps := [(PySem.Str.ofString "grid")]) fun _ _ _ _ _ _ us hl => match us, hl with | [_], _ => rfl
  have F7 := fun_mk (st := s_law_big) l7 c7 k7
  have b7 := F7.binds (ps := [(PySem.Str.ofString "_law_script"), (PySem.Str.ofString "_law_at")]) fun _ _ _ _ _ _ us hl => match us, hl with | [_, _], _ => rfl
  have F8 := fun_mk (st := s_law_stepped) l8 c8 k8
  have b8 := F8.binds (ps := [(PySem.Str.ofString "_law_grid_here"), (PySem.Str.ofString "_law_word"), (PySem.Str.ofString "_law_i"), (PySem.Str.ofString "_law_j"), (PySem.Str.ofString "_law_q")]) fun _ _ _ _ _ _ us hl => match us, hl with | [_, _, _, _, _], _ => rfl
  have F9 := fun_mk (st := s_law_grid) l9 c9 k9
  have b9 := F9.binds (ps := [(PySem.Str.ofString "_law_script"), (PySem.Str.ofString "_law_at"), (PySem.Str.ofString "_law_rows"), (PySem.Str.ofString "_law_columns")]) fun _ _ _ _ _ _ us hl => match us, hl with | [_, _, _, _], _ => rfl
  have F10 := fun_mk (st := s_law) l10 c10 k10
  have b10 := F10.binds (ps := [(PySem.Str.ofString "_law_script")]) fun _ _ _ _ _ _ us hl => match us, hl with | [_], _ => rfl
  refine ⟨PySem.W.fnOf "law" "law" (defArgs s_law) (defBody s_law) (defScope s_law) .none kV10 dc10 pm10 an10 cd10 ct10, fun s v => .of_eq rfl, fun base _ _ => ?_⟩
  · have T : Txt l.prog w K mg base := ⟨PySem.W.mg_none_of X G z_int, PySem.W.mg_none_of X G z_len, PySem.W.mg_none_of X G z_list, PySem.W.mg_none_of X G z_range, PySem.W.mg_none_of X G z_sum, PySem.W.mg_none_of X G z_zip, ⟨C_NoGrid, ⟨PySem.W.mg_of X G xa_NoGrid, xx_NoGrid, xk_NoGrid, xb_NoGrid, xt_NoGrid⟩⟩⟩
    have C0 := c_ask_square T  F0 b0 (PySem.W.mg_of X G a0)
    have C1 := c_pivot_row T  F1 b1 (PySem.W.mg_of X G a1)
    have C2 := c_law_cell_at T  F2 b2 (PySem.W.mg_of X G a2)
    have C3 := c_law_number T  F3 b3 (PySem.W.mg_of X G a3)
    have C4 := c_law_copy T  F4 b4 (PySem.W.mg_of X G a4)
    have C5 := c_law_product T  F5 b5 (PySem.W.mg_of X G a5)
    have C6 := c_determinant T C0 C1 F6 b6 (PySem.W.mg_of X G a6)
    have C7 := c_law_big T C2 F7 b7 (PySem.W.mg_of X G a7)
    have C8 := c_law_stepped T C4 F8 b8 (PySem.W.mg_of X G a8)
    have C9 := c_law_grid T C7 C3 F9 b9 (PySem.W.mg_of X G a9)
    have C10 := c_law T C7 C9 C6 C3 C4 C5 C8 F10 b10 (PySem.W.mg_of X G a10)
    exact law_fn (fn_data F10 sc_law rfl (d_law T C7 C9 C6 C3 C4 C5 C8)) law_ok
end Gn

open PySem PySem.W PyProof.Rows
set_option maxRecDepth 100000 in
set_option maxHeartbeats 0 in
theorem PySem.Challenge.cw_foreverrows_k05_determinants_kept_holds : PySem.Challenge.rw_foreverrows_k05_determinants_kept.Holds := by
  w_on; o_law; k_head; (case hw => w_witness2)
  k_fill
  refine L2.walk_of (l := PySem.Challenge.rw_foreverrows_k05_determinants_kept) (n := 63) (k := 4) (x := "_law_script") (CX := fun w => L2.CX PySem.Challenge.rw_foreverrows_k05_determinants_kept.prog w) (sp := fun w => Zx.spLaw _) rfl (by decide) rfl ⟨rfl, by decide, by decide⟩ (fun w h Y => PySem.W.kIn_of Y) ?F Zx.spLaw_start (fun w H s e s' h => Zx.cx_none h)
  case F =>
    intro w mg fa h KX G hmg
    refine' Gn.all_mk Gn.V.law_ok KX G hmg ?a0 ?l0 ?c0 ?k0 ?a1 ?l1 ?c1 ?k1 ?a2 ?l2 ?c2 ?k2 ?a3 ?l3 ?c3 ?k3 ?a4 ?l4 ?c4 ?k4 ?a5 ?l5 ?c5 ?k5 ?a6 ?l6 ?c6 ?k6 ?a7 ?l7 ?c7 ?k7 ?a8 ?l8 ?c8 ?k8 ?a9 ?l9 ?c9 ?k9 ?a10 ?l10 ?c10 ?k10 ?z_int ?z_len ?z_list ?z_range ?z_sum ?z_zip ?xa_NoGrid ?xx_NoGrid ?xk_NoGrid ?xb_NoGrid ?xt_NoGrid
    (case a0 => k_is); (case l0 => k_is); (case c0 => k_is); (case k0 => k_is); (case a1 => k_is); (case l1 => k_is); (case c1 => k_is); (case k1 => k_is); (case a2 => k_is); (case l2 => k_is); (case c2 => k_is); (case k2 => k_is); (case a3 => k_is); (case l3 => k_is); (case c3 => k_is); (case k3 => k_is); (case a4 => k_is); (case l4 => k_is); (case c4 => k_is); (case k4 => k_is); (case a5 => k_is); (case l5 => k_is); (case c5 => k_is); (case k5 => k_is); (case a6 => k_is); (case l6 => k_is); (case c6 => k_is); (case k6 => k_is); (case a7 => k_is); (case l7 => k_is); (case c7 => k_is); (case k7 => k_is); (case a8 => k_is); (case l8 => k_is); (case c8 => k_is); (case k8 => k_is); (case a9 => k_is); (case l9 => k_is); (case c9 => k_is); (case k9 => k_is); (case a10 => k_is); (case l10 => k_is); (case c10 => k_is); (case k10 => k_is); (case z_int => k_is); (case z_len => k_is); (case z_list => k_is); (case z_range => k_is); (case z_sum => k_is); (case z_zip => k_is); (case xa_NoGrid => k_is); (case xx_NoGrid => k_exc); (case xk_NoGrid => k_is); (case xb_NoGrid => k_is); (case xt_NoGrid => k_is)
