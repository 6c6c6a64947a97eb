import PyProof.Rows.All
import Wide.All
import OpenK.AllK
import Wide.FinOn
import HandS.ForMost
import HandS.Exc
import HandS.TryOnly
import HandS.TryMany
import HandS.ExcField
import HandS.Lambda
import HandS.EndTab
import HandS.TupAny
import HandS.TupMul
import HandS.IsInst
import HandS.SortInts
import HandS.Conv
import HandS.Style
import HandS.Deep
import HandS.Flow
import PyProof.StrOps2
import HandS.Wide
import HandS.Defaults
import HandS.Iter
import HandS.Comp
import KE.GoesMore
import KE.GoesEnum
import KE.KExcSuper
import HandS.ExcInit
import HandS.ExcSuper
import HandS.Nested
import HandS.HeadWalk
import KE.KRevSl
import HandS.SortOrd
import KE.DatumOrd
import HandS.TupSets
import HandS.SetBool
import HandS.Set
import HandS.Strs
import HandS.Dict
import KE.KExcIs
import HandS.HeadHook4
import HandS.Head2
import KE.KNestM
import HandS.Head0
import HandS.Head1
import HandS.HeadEnd
import PySem.Challenge.RW_behindboth_k01_groups_and_the_pieces_of
set_option Elab.async false
set_option linter.all false
set_option maxRecDepth 100000
set_option maxHeartbeats 0
namespace Bb
open PySem L2
/-! ### plain values and the store -/
inductive PV where
  | non | bl (b : Bool) | int (i : Int) | str (x : Str)
  | tup (xs : List PV) | fl (xs : List PV) | tl (xs : List PV) | ro (xs : List PV) | loc (n : Nat) | ty (n : String) | lam (f c : Nat) (q : Str) (cl : List PV) (vs : List V)
  deriving Inhabited
/-- what may be changed -/
inductive MO where
  | lst (xs : List PV)
  | dct (kvs : List (Key × PV))
  deriving Inhabited
abbrev Sto := List MO
inductive R (α : Type) where
  | ok (a : α) (st : Sto) | ex (c : Str) (w : PV) (st : Sto) | bad
def R.bind {α β : Type} (r : R α) (k : α → Sto → R β) : R β := match r with
  | .ok a st => k a st
  | .ex c w st => .ex c w st
  | .bad => .bad
@[simp] theorem R.bind_ok {α β : Type} (a : α) (st : Sto) (k : α → Sto → R β) : (R.ok a st).bind k = k a st := rfl
@[simp] theorem R.bind_ex {α β : Type} (c : Str) (w : PV) (st : Sto) (k : α → Sto → R β) : (R.ex c w st).bind k = .ex c w st := rfl
@[simp] theorem R.bind_bad {α β : Type} (k : α → Sto → R β) : (R.bad : R α).bind k = .bad := rfl
def frz : PV → PV
  | .tl xs => .fl xs
  | v => v
/-- where the store's objects stand; what is hidden (a list that is being made) -/
structure Lo where
  l : List Addr
  h : List Addr
def Lo.add (ρ : Lo) (a : Addr) : Lo := ⟨ρ.l ++ [a], ρ.h⟩
def Lo.hide (ρ : Lo) (a : Addr) : Lo := ⟨ρ.l, a :: ρ.h⟩
/-! ### the relation to the hand layer's values -/
mutual
def VR (K : PySem.W.Frag) (ρ : Lo) (H : Hp) : PV → V → Prop
  | .non, v => v = .non
  | .bl b, v => v = .bl b
  | .int i, v => v = .int i
  | .str x, v => v = .str x
  | .tup xs, v => ∃ a vs, v = .ref a ∧ SqT K H a vs ∧ vs.length ≤ sizeLine ∧ VRs K ρ H xs vs
  | .fl xs, v => ∃ a vs, v = .ref a ∧ (a ∉ ρ.l ∧ a ∉ ρ.h) ∧ H a = some (.lst vs) ∧ vs.length ≤ sizeLine ∧ VRs K ρ H xs vs
  | .tl xs, v => ∃ a vs, v = .ref a ∧ (a ∉ ρ.l ∧ a ∉ ρ.h) ∧ H a = some (.lst vs) ∧ vs.length ≤ sizeLine ∧ VRs K ρ H xs vs
  | .ro xs, v => ∃ a vs, v = .ref a ∧ ((∃ o, H a = some (.frz o (.lst vs))) ∨ ∀ H', SqL K H' a vs) ∧ vs.length ≤ sizeLine ∧ VRs K ρ H xs vs
  | .loc n, v => ∃ a, ρ.l[n]? = some a ∧ v = .ref a
  | .ty n, v => v = .ty n
  | .lam f c q cl vs, v => v = .ref f ∧ H c = some (LamX.CodeO c q) ∧ VRs K ρ H cl vs
def VRs (K : PySem.W.Frag) (ρ : Lo) (H : Hp) : List PV → List V → Prop
  | [], vs => vs = []
  | x :: xs, vs => ∃ v r, vs = v :: r ∧ VR K ρ H x v ∧ VRs K ρ H xs r
end
theorem pre_get {α : Type} {l l' : List α} (h : l <+: l') {n : Nat} {a : α} (e : l[n]? = some a) : l'[n]? = some a := by
  obtain ⟨t, rfl⟩ := h
  rw [List.getElem?_append_left (List.getElem?_eq_some_iff.mp e).1]
  exact e
def Wr : HO → Prop
  | .lst _ => True
  | .dK _ => True
  | .set _ _ => True
  | .ins _ _ _ => True
  | _ => False
theorem codeO_wr {c : Addr} {q : Str} : ¬ Wr (LamX.CodeO c q) := fun h => h
structure Ext (ρ : Lo) (H : Hp) (ρ' : Lo) (H' : Hp) : Prop where
  pre : ρ.l <+: ρ'.l
  hid : ρ'.h = ρ.h
  dom : ∀ a, H' a = none → H a = none
  keep : ∀ a o, H a = some o → a ∉ ρ.l → (∀ ps, o ≠ .tbl ps) → H' a = some o
  fix : ∀ a o, H a = some o → ¬ Wr o → (∀ ps, o ≠ .tbl ps) → H' a = some o
  new : ∀ a ∈ ρ'.l, a ∈ ρ.l ∨ H a = none
theorem Ext.refl (ρ : Lo) (H : Hp) : Ext ρ H ρ H := ⟨List.prefix_rfl, rfl, fun _ h => h, fun _ _ h _ _ => h, fun _ _ h _ _ => h, fun _ h => .inl h⟩
theorem Ext.tup {ρ ρ' : Lo} {H H' : Hp} (e : Ext ρ H ρ' H') (a : Addr) (xs : List V) (h : H a = some (.tup xs)) : H' a = some (.tup xs) := e.fix a _ h (fun z => z) fun ps z => by cases z
theorem Ext.frz {ρ ρ' : Lo} {H H' : Hp} (e : Ext ρ H ρ' H') (a : Addr) (o : Obj) (u : HO) (h : H a = some (.frz o u)) : H' a = some (.frz o u) := e.fix a _ h (fun z => z) fun ps z => by cases z
theorem Ext.trans {ρ ρ1 ρ2 : Lo} {H H1 H2 : Hp} (a : Ext ρ H ρ1 H1) (b : Ext ρ1 H1 ρ2 H2) : Ext ρ H ρ2 H2 where
  pre := a.pre.trans b.pre
  hid := b.hid.trans a.hid
  dom := fun x h => a.dom x (b.dom x h)
  keep := fun x o h n t => b.keep x o (a.keep x o h n t) (fun m => (a.new x m).elim n fun z => by rw [h] at z; cases z) t
  fix := fun x o h n t => b.fix x o (a.fix x o h n t) n t
  new := fun x m => (b.new x m).elim (a.new x) fun z => .inr (a.dom x z)
theorem Ext.rd {ρ ρ' : Lo} {H H' : Hp} (e : Ext ρ H ρ' H') {a : Addr} {xs : List V} (h : Rd H a (.tup xs)) : Rd H' a (.tup xs) := by
  rcases h with h | ⟨o, h⟩
  · exact .inl (e.tup _ _ h)
  · exact .inr ⟨o, e.frz _ _ _ h⟩
theorem Ext.sqt {K : PySem.W.Frag} {ρ ρ' : Lo} {H H' : Hp} (e : Ext ρ H ρ' H') {a : Addr} {xs : List V} (h : SqT K H a xs) : SqT K H' a xs := by
  rcases h with h | h
  · exact .inl (e.rd h)
  · exact .inr h
theorem Ext.lst {ρ ρ' : Lo} {H H' : Hp} (e : Ext ρ H ρ' H') {a : Addr} {xs : List V} (n : a ∉ ρ.l ∧ a ∉ ρ.h) (h : H a = some (.lst xs)) : (a ∉ ρ'.l ∧ a ∉ ρ'.h) ∧ H' a = some (.lst xs) :=
  ⟨⟨fun m => (e.new a m).elim n.1 fun z => (nomatch (h.symm.trans z)), by rw [e.hid]; exact n.2⟩, e.keep a _ h n.1 fun ps z => nomatch z⟩
mutual
theorem VR.mono {K : PySem.W.Frag} {ρ ρ' : Lo} {H H' : Hp} (e : Ext ρ H ρ' H') : ∀ {p : PV} {v : V}, VR K ρ H p v → VR K ρ' H' p v
  | .non, _, h => by unfold VR at *; exact h
  | .bl _, _, h => by unfold VR at *; exact h
  | .int _, _, h => by unfold VR at *; exact h
  | .str _, _, h => by unfold VR at *; exact h
  | .ty _, _, h => by unfold VR at *; exact h
  | .lam _ _ _ cl vs, _, h => by unfold VR at *; exact ⟨h.1, e.fix _ _ h.2.1 codeO_wr LamX.codeO_ne, VRs.mono e h.2.2⟩
  | .tup xs, _, h => by
    unfold VR at *
    obtain ⟨a, vs, h1, h2, h3, h4⟩ := h
    exact ⟨a, vs, h1, e.sqt h2, h3, VRs.mono e h4⟩
  | .fl xs, _, h => by
    unfold VR at *
    obtain ⟨a, vs, h1, h2, h3, h4, h5⟩ := h
    exact ⟨a, vs, h1, (e.lst h2 h3).1, (e.lst h2 h3).2, h4, VRs.mono e h5⟩
  | .tl xs, _, h => by
    unfold VR at *
    obtain ⟨a, vs, h1, h2, h3, h4, h5⟩ := h
    exact ⟨a, vs, h1, (e.lst h2 h3).1, (e.lst h2 h3).2, h4, VRs.mono e h5⟩
  | .ro xs, _, h => by
    unfold VR at *
    obtain ⟨a, vs, h1, h2, h4, h5⟩ := h
    exact ⟨a, vs, h1, h2.imp (fun ⟨o, z⟩ => ⟨o, e.frz _ _ _ z⟩) id, h4, VRs.mono e h5⟩
  | .loc n, _, h => by
    unfold VR at *
    obtain ⟨a, h1, h2⟩ := h
    exact ⟨a, pre_get e.pre h1, h2⟩
theorem VRs.mono {K : PySem.W.Frag} {ρ ρ' : Lo} {H H' : Hp} (e : Ext ρ H ρ' H') : ∀ {p : List PV} {v : List V}, VRs K ρ H p v → VRs K ρ' H' p v
  | [], _, h => by unfold VRs at *; exact h
  | x :: xs, _, h => by
    unfold VRs at *
    obtain ⟨v, r, h1, h2, h3⟩ := h
    exact ⟨v, r, h1, VR.mono e h2, VRs.mono e h3⟩
end
theorem VRs.length {K : PySem.W.Frag} {ρ : Lo} {H : Hp} : ∀ {p : List PV} {v : List V}, VRs K ρ H p v → v.length = p.length
  | [], _, h => by unfold VRs at h; subst h; rfl
  | _ :: _, _, h => by
    unfold VRs at h
    obtain ⟨v, r, rfl, _, h3⟩ := h
    simp [h3.length]
theorem VRs.get {K : PySem.W.Frag} {ρ : Lo} {H : Hp} : ∀ {p : List PV} {v : List V} {i : Nat} {x : PV}, VRs K ρ H p v → p[i]? = some x → ∃ u, v[i]? = some u ∧ VR K ρ H x u
  | [], _, i, _, _, e => by simp at e
  | y :: ys, _, i, x, h, e => by
    unfold VRs at h
    obtain ⟨v, r, rfl, h2, h3⟩ := h
    cases i with
    | zero => simp at e; subst e; exact ⟨v, rfl, h2⟩
    | succ i => simpa using h3.get (i := i) (by simpa using e)
theorem VRs.nil {K : PySem.W.Frag} {ρ : Lo} {H : Hp} : VRs K ρ H [] [] := by unfold VRs; rfl
theorem VRs.cons {K : PySem.W.Frag} {ρ : Lo} {H : Hp} {x : PV} {v : V} {xs : List PV} {vs : List V} (h : VR K ρ H x v) (t : VRs K ρ H xs vs) : VRs K ρ H (x :: xs) (v :: vs) := by
  unfold VRs
  exact ⟨v, vs, rfl, h, t⟩
theorem VRs.append {K : PySem.W.Frag} {ρ : Lo} {H : Hp} : ∀ {p : List PV} {v : List V} {q : List PV} {w : List V}, VRs K ρ H p v → VRs K ρ H q w → VRs K ρ H (p ++ q) (v ++ w)
  | [], _, _, _, h, t => by unfold VRs at h; subst h; exact t
  | _ :: _, _, _, _, h, t => by
    unfold VRs at h
    obtain ⟨v, r, rfl, h2, h3⟩ := h
    exact VRs.cons h2 (h3.append t)
theorem VRs.drop {K : PySem.W.Frag} {ρ : Lo} {H : Hp} : ∀ (n : Nat) {p : List PV} {v : List V}, VRs K ρ H p v → VRs K ρ H (p.drop n) (v.drop n)
  | 0, _, _, h => h
  | _ + 1, [], _, h => by unfold VRs at h; subst h; exact .nil
  | n + 1, _ :: _, _, h => by
    unfold VRs at h
    obtain ⟨v, r, rfl, _, h3⟩ := h
    exact h3.drop n
theorem VRs.take {K : PySem.W.Frag} {ρ : Lo} {H : Hp} : ∀ (n : Nat) {p : List PV} {v : List V}, VRs K ρ H p v → VRs K ρ H (p.take n) (v.take n)
  | 0, _, _, _ => .nil
  | _ + 1, [], _, h => by unfold VRs at h; subst h; exact .nil
  | n + 1, _ :: _, _, h => by
    unfold VRs at h
    obtain ⟨v, r, rfl, h2, h3⟩ := h
    exact .cons h2 (h3.take n)
theorem VRs.set {K : PySem.W.Frag} {ρ : Lo} {H : Hp} {x : PV} {w : V} (hx : VR K ρ H x w) : ∀ (n : Nat) {p : List PV} {v : List V}, VRs K ρ H p v → VRs K ρ H (p.set n x) (v.set n w)
  | _, [], _, h => by unfold VRs at h; subst h; exact .nil
  | 0, _ :: _, _, h => by
    unfold VRs at h
    obtain ⟨v, r, rfl, h2, h3⟩ := h
    exact .cons hx h3
  | n + 1, _ :: _, _, h => by
    unfold VRs at h
    obtain ⟨v, r, rfl, h2, h3⟩ := h
    exact .cons h2 (h3.set hx n)
theorem VR.frz {K : PySem.W.Frag} {ρ : Lo} {H : Hp} {p : PV} {v : V} (h : VR K ρ H p v) : VR K ρ H (frz p) v := by
  cases p <;> first | exact h | (unfold Bb.frz VR; unfold VR at h; exact h)
/-- an object of the store -/
def OR (K : PySem.W.Frag) (ρ : Lo) (H : Hp) : MO → HO → Prop
  | .lst xs, o => ∃ vs, o = .lst vs ∧ vs.length ≤ sizeLine ∧ VRs K ρ H xs vs
  | .dct kvs, o => ∃ us : List (Key × V), o = .dK us ∧ us.length ≤ sizeLine ∧ us.map (·.1) = kvs.map (·.1) ∧ VRs K ρ H (kvs.map (·.2)) (us.map (·.2))
theorem OR.wr {K : PySem.W.Frag} {ρ : Lo} {H : Hp} {m : MO} {o : HO} (h : OR K ρ H m o) : Wr o := by
  cases m with
  | lst xs => obtain ⟨vs, rfl, _⟩ := h; trivial
  | dct kvs => obtain ⟨vs, rfl, _⟩ := h; trivial
theorem OR.ntb {K : PySem.W.Frag} {ρ : Lo} {H : Hp} {m : MO} {o : HO} (h : OR K ρ H m o) : ∀ ps, o ≠ .tbl ps := fun ps z => by
  have := h.wr
  rw [z] at this
  exact this
theorem OR.mono {K : PySem.W.Frag} {ρ ρ' : Lo} {H H' : Hp} (e : Ext ρ H ρ' H') {m : MO} {o : HO} (h : OR K ρ H m o) : OR K ρ' H' m o := by
  cases m with
  | lst xs => obtain ⟨vs, h1, h2, h3⟩ := h; exact ⟨vs, h1, h2, h3.mono e⟩
  | dct kvs => obtain ⟨vs, h1, h2, h3, h4⟩ := h; exact ⟨vs, h1, h2, h3, h4.mono e⟩
/-- the store -/
structure SR (K : PySem.W.Frag) (T : List (Addr × Str)) (ρ : Lo) (H : Hp) (st : Sto) : Prop where
  nd : ρ.l.Nodup
  len : ρ.l.length = st.length
  hid : ∀ a ∈ ρ.h, H a ≠ none
  ob : ∀ (n : Nat) (a : Addr) (m : MO), ρ.l[n]? = some a → st[n]? = some m → ∃ o, H a = some o ∧ OR K ρ H m o
  tb : LamX.Tabs T H
  tbo : ∀ b ps, H b = some (.tbl ps) → ∃ q, (b, q) ∈ T
theorem SR.at {K : PySem.W.Frag} {T : List (Addr × Str)} {ρ : Lo} {H : Hp} {st : Sto} (s : SR K T ρ H st) {a : Addr} (m : a ∈ ρ.l) : ∃ o, H a = some o ∧ Wr o := by
  obtain ⟨n, h⟩ := List.getElem?_of_mem m
  have hn : n < st.length := by rw [← s.len]; exact (List.getElem?_eq_some_iff.mp h).1
  obtain ⟨o, z, r⟩ := s.ob n a st[n] h (List.getElem?_eq_getElem hn)
  exact ⟨o, z, r.wr⟩
theorem SR.free {K : PySem.W.Frag} {T : List (Addr × Str)} {ρ : Lo} {H : Hp} {st : Sto} (s : SR K T ρ H st) {a : Addr} (n : H a = none) : a ∉ ρ.l := fun m => by
  obtain ⟨o, z, _⟩ := s.at m
  rw [n] at z; cases z
/-- the names -/
def ER (K : PySem.W.Frag) (ρ : Lo) (H : Hp) (env : List (Option PV)) (σ : L2.St) : Prop :=
  env.length = σ.length ∧ ∀ (i : Nat) (p : PV), env[i]? = some (some p) → ∃ v, σ[i]? = some (some v) ∧ VR K ρ H p v ∧ ∀ xs, p ≠ .tl xs
theorem ER.mono {K : PySem.W.Frag} {ρ ρ' : Lo} {H H' : Hp} {env : List (Option PV)} {σ : L2.St} (e : Ext ρ H ρ' H') (h : ER K ρ H env σ) : ER K ρ' H' env σ :=
  ⟨h.1, fun i p q => let ⟨v, a, b, c⟩ := h.2 i p q; ⟨v, a, b.mono e, c⟩⟩
theorem ER.set {K : PySem.W.Frag} {ρ : Lo} {H : Hp} {env : List (Option PV)} {σ : L2.St} {p : PV} {v : V} (h : ER K ρ H env σ) (r : VR K ρ H p v) (nt : ∀ xs, p ≠ .tl xs) (i : Nat) : ER K ρ H (env.set i (some p)) (σ.set i (some v)) := by
  refine ⟨by simp [h.1], fun j q e => ?_⟩
  rw [List.getElem?_set] at e
  rw [List.getElem?_set]
  by_cases hij : i = j
  · subst hij
    rw [if_pos rfl] at e ⊢
    split at e
    · rename_i hl
      cases e
      rw [if_pos (by rw [← h.1]; exact hl)]
      exact ⟨v, rfl, r, nt⟩
    · cases e
  · rw [if_neg hij] at e ⊢
    exact h.2 j q e
/-- a result's state -/
structure Post (K : PySem.W.Frag) (T : List (Addr × Str)) (ρ : Lo) (H : Hp) (ρ' : Lo) (H' : Hp) (st' : Sto) (p : PV) (u : V) : Prop where
  ext : Ext ρ H ρ' H'
  sr : SR K T ρ' H' st'
  vr : VR K ρ' H' p u
  fr : ∀ xs, p = .tl xs → ∃ a, u = .ref a ∧ H a = none ∧ SR K T (ρ'.add a) H' (st' ++ [.lst xs])
theorem Post.trans {K : PySem.W.Frag} {T : List (Addr × Str)} {ρ ρ1 ρ' : Lo} {H H1 H' : Hp} {st' : Sto} {p : PV} {u : V} (e : Ext ρ H ρ1 H1) (x : Post K T ρ1 H1 ρ' H' st' p u) : Post K T ρ H ρ' H' st' p u :=
  ⟨e.trans x.ext, x.sr, x.vr, fun xs h => let ⟨a, h1, h2, h3⟩ := x.fr xs h; ⟨a, h1, e.dom a h2, h3⟩⟩
theorem Post.pure {K : PySem.W.Frag} {T : List (Addr × Str)} {ρ : Lo} {H : Hp} {st : Sto} {p : PV} {u : V} (s : SR K T ρ H st) (r : VR K ρ H p u) (n : ∀ xs, p ≠ .tl xs) : Post K T ρ H ρ H st p u := ⟨.refl _ _, s, r, fun xs h => absurd h (n xs)⟩
/-- a new object is laid -/
theorem Ext.laid {K : PySem.W.Frag} {T : List (Addr × Str)} {ρ : Lo} {H : Hp} {st : Sto} {a : Addr} {o : HO} (s : SR K T ρ H st) (n : H a = none) : Ext ρ H ρ (upd H a o) where
  pre := List.prefix_rfl
  hid := rfl
  dom := fun b h => by
    by_cases e : b = a
    · subst e; exact n
    · rwa [upd_ne e] at h
  keep := fun b u h _ _ => by rw [upd_ne (ne_of_none h n)]; exact h
  fix := fun b u h _ _ => by rw [upd_ne (ne_of_none h n)]; exact h
  new := fun b m => .inl m
theorem SR.laid {K : PySem.W.Frag} {T : List (Addr × Str)} {ρ : Lo} {H : Hp} {st : Sto} {a : Addr} {o : HO} (s : SR K T ρ H st) (n : H a = none) (nt : ∀ ps, o ≠ .tbl ps := by intro ps z; cases z) : SR K T ρ (upd H a o) st where
  nd := s.nd
  len := s.len
  hid := fun b m z => s.hid b m ((Ext.laid (o := o) s n).dom b z)
  ob := fun i b xs h1 h2 => by
    obtain ⟨vs, z1, z3⟩ := s.ob i b xs h1 h2
    exact ⟨vs, by rw [upd_ne (ne_of_none z1 n)]; exact z1, z3.mono (Ext.laid s n)⟩
  tb := s.tb.ext fun b u h => by rw [upd_ne (ne_of_none h n)]; exact h
  tbo := fun b ps z => by
    by_cases e : b = a
    · subst e; rw [upd_same] at z; exact absurd (Option.some.inj z) (nt ps)
    · rw [upd_ne e] at z; exact s.tbo b ps z
/-- a new address joins the store -/
theorem Ext.join {K : PySem.W.Frag} {T : List (Addr × Str)} {ρ : Lo} {H : Hp} {st : Sto} {a : Addr} {o : HO} (s : SR K T ρ H st) (n : H a = none) : Ext ρ H (ρ.add a) (upd H a o) :=
  let e := Ext.laid (o := o) s n
  ⟨List.prefix_append _ _, rfl, e.dom, e.keep, e.fix, fun b m => (List.mem_append.mp m).imp id fun z => by rw [List.mem_singleton.mp z]; exact n⟩
theorem SR.join {K : PySem.W.Frag} {T : List (Addr × Str)} {ρ : Lo} {H : Hp} {st : Sto} {a : Addr} {m : MO} {o : HO} (s : SR K T ρ H st) (n : H a = none) (r : OR K ρ H m o) : SR K T (ρ.add a) (upd H a o) (st ++ [m]) where
  nd := by
    show (ρ.l ++ [a]).Nodup
    rw [List.nodup_append]
    refine ⟨s.nd, by simp, fun x hx y hy e => ?_⟩
    rw [List.mem_singleton.mp hy] at e
    exact s.free n (by rw [← e]; exact hx)
  len := by
    show (ρ.l ++ [a]).length = _
    simp [s.len]
  hid := fun b m z => s.hid b m ((Ext.laid (o := o) s n).dom b z)
  ob := fun i b ys h1 h2 => by
    have ej := Ext.join (o := o) s n
    replace h1 : (ρ.l ++ [a])[i]? = some b := h1
    by_cases hi : i < ρ.l.length
    · rw [List.getElem?_append_left hi] at h1
      rw [List.getElem?_append_left (by rw [← s.len]; exact hi)] at h2
      obtain ⟨ws, z1, z3⟩ := s.ob i b ys h1 h2
      exact ⟨ws, by rw [upd_ne (ne_of_none z1 n)]; exact z1, z3.mono ej⟩
    · have hb : b ∈ [a] := by
        rw [List.getElem?_append_right (by omega)] at h1
        exact List.mem_of_getElem? h1
      have hy : ys ∈ [m] := by
        rw [List.getElem?_append_right (by rw [← s.len]; omega)] at h2
        exact List.mem_of_getElem? h2
      rw [List.mem_singleton.mp hb, List.mem_singleton.mp hy]
      exact ⟨o, upd_same, r.mono ej⟩
  tb := (s.laid (o := o) n r.ntb).tb
  tbo := (s.laid (o := o) n r.ntb).tbo
/-- a new list, held by nobody -/
theorem Post.newList {K : PySem.W.Frag} {T : List (Addr × Str)} {ρ : Lo} {H : Hp} {st : Sto} {a : Addr} {xs : List PV} {vs : List V} (s : SR K T ρ H st) (n : H a = none) (hl : vs.length ≤ sizeLine) (r : VRs K ρ H xs vs) : Post K T ρ H ρ (upd H a (.lst vs)) st (.tl xs) (.ref a) where
  ext := Ext.laid s n
  sr := s.laid n
  vr := by
    unfold VR
    exact ⟨a, vs, rfl, ⟨s.free n, fun m => s.hid a m n⟩, upd_same, hl, r.mono (Ext.laid s n)⟩
  fr := fun ys h => by
    cases h
    exact ⟨a, rfl, n, s.join n ⟨vs, rfl, hl, r⟩⟩
theorem Post.newTup {K : PySem.W.Frag} {T : List (Addr × Str)} {ρ : Lo} {H : Hp} {st : Sto} {a : Addr} {xs : List PV} {vs : List V} (s : SR K T ρ H st) (n : H a = none) (hl : vs.length ≤ sizeLine) (r : VRs K ρ H xs vs) : Post K T ρ H ρ (upd H a (.tup vs)) st (.tup xs) (.ref a) where
  ext := Ext.laid s n
  sr := s.laid n
  vr := by
    unfold VR
    exact ⟨a, vs, rfl, .of upd_same, hl, r.mono (Ext.laid s n)⟩
  fr := fun ys h => by cases h
/-- an object of the store is written -/
theorem Ext.write {K : PySem.W.Frag} {T : List (Addr × Str)} {ρ : Lo} {H : Hp} {st : Sto} {a : Addr} {o u : HO} (s : SR K T ρ H st) (m : a ∈ ρ.l) (h : H a = some o) (w : Wr o) : Ext ρ H ρ (upd H a u) where
  pre := List.prefix_rfl
  hid := rfl
  dom := fun b z => by
    by_cases e : b = a
    · subst e; rw [upd_same] at z; cases z
    · rwa [upd_ne e] at z
  keep := fun b u z nb _ => by rw [upd_ne (fun e => nb (by rw [e]; exact m))]; exact z
  fix := fun b u z nw _ => by rw [upd_ne (fun e => nw (by subst e; rw [h] at z; cases z; exact w))]; exact z
  new := fun b mb => .inl mb
theorem SR.write {K : PySem.W.Frag} {T : List (Addr × Str)} {ρ : Lo} {H : Hp} {st : Sto} {a : Addr} {n : Nat} {o u : HO} {m : MO} (s : SR K T ρ H st) (hn : ρ.l[n]? = some a) (h : H a = some o) (w : Wr o) (r : OR K ρ H m u) :
    SR K T ρ (upd H a u) (st.set n m) where
  nd := s.nd
  len := by simp [s.len]
  hid := fun b m z => by
    by_cases e : b = a
    · subst e; rw [upd_same] at z; cases z
    · rw [upd_ne e] at z; exact s.hid b m z
  ob := fun i b xs h1 h2 => by
    have m : a ∈ ρ.l := List.mem_of_getElem? hn
    have ej := Ext.write (u := u) s m h w
    by_cases e : i = n
    · subst e
      rw [hn] at h1; cases h1
      rw [List.getElem?_set] at h2
      rw [if_pos rfl] at h2
      split at h2
      · cases h2
        exact ⟨u, upd_same, r.mono ej⟩
      · cases h2
    · rw [List.getElem?_set_ne (Ne.symm e)] at h2
      obtain ⟨us, z1, z3⟩ := s.ob i b xs h1 h2
      have hne : b ≠ a := fun q => e (by
        subst q
        obtain ⟨l1, e1⟩ := List.getElem?_eq_some_iff.mp h1
        obtain ⟨l2, e2⟩ := List.getElem?_eq_some_iff.mp hn
        exact (List.getElem_inj s.nd).mp (e1.trans e2.symm))
      exact ⟨us, by rw [upd_ne hne]; exact z1, z3.mono ej⟩
  tb := fun p hp => by
    obtain ⟨ps, h1, h2, h3⟩ := s.tb p hp
    refine ⟨ps, by rw [upd_ne (fun e => by rw [e, h] at h1; cases h1; exact w)]; exact h1, h2, fun pos cv hc => ?_⟩
    obtain ⟨c, e1, e2⟩ := h3 pos cv hc
    refine ⟨c, e1, ?_⟩
    rw [upd_ne (fun e => by
      rw [e, h] at e2
      unfold LamX.CodeO at e2
      cases e2
      exact w)]
    exact e2
  tbo := fun b ps z => by
    by_cases e : b = a
    · subst e; rw [upd_same] at z; exact absurd (Option.some.inj z) (r.ntb ps)
    · rw [upd_ne e] at z; exact s.tbo b ps z
end Bb
namespace Bb
open PySem L2 PyProof.Rows
abbrev En := List (Option PV)
abbrev D := En → Sto → R PV
abbrev DA := En → Sto → R (List PV)
abbrev DT := En → Sto → R Bool
/-- what the law's text has, once for all -/
structure G where
  K : PySem.W.Frag
  T : List (Addr × Str)
  cls : Str → Addr
def RP {α : Type} (r : R α) (ok : α → Sto → Prop) (ex : Str → PV → Sto → Prop) : Prop := match r with
  | .ok a st => ok a st
  | .ex c w st => ex c w st
  | .bad => False
/-- an exception's state -/
structure PX (g : G) (ρ : Lo) (H : Hp) (ρ' : Lo) (H' : Hp) (st' : Sto) (w : PV) (d : Addr) : Prop where
  ext : Ext ρ H ρ' H'
  sr : SR g.K g.T ρ' H' st'
  dat : ∃ v, H' d = some (.xd [("what", v)]) ∧ VR g.K ρ' H' w v ∧ ∀ xs, w ≠ .tl xs
theorem PX.trans {g : G} {ρ ρ1 ρ' : Lo} {H H1 H' : Hp} {st' : Sto} {w : PV} {d : Addr} (e : Ext ρ H ρ1 H1) (x : PX g ρ1 H1 ρ' H' st' w d) : PX g ρ H ρ' H' st' w d := ⟨e.trans x.ext, x.sr, x.dat⟩
def okE (g : G) (Q : VK) (ρ : Lo) (H : Hp) (p : PV) (st' : Sto) : Prop := ∀ ρ' H' u, Post g.K g.T ρ H ρ' H' st' p u → Q u H'
def okA (g : G) (Q : List V → Hp → Prop) (ρ : Lo) (H : Hp) (ps : List PV) (st' : Sto) : Prop := ∀ ρ' H' us, Ext ρ H ρ' H' → SR g.K g.T ρ' H' st' → VRs g.K ρ' H' ps us → Q us H'
def okT (g : G) (Q : Bool → Hp → Prop) (ρ : Lo) (H : Hp) (b : Bool) (st' : Sto) : Prop := ∀ ρ' H', Ext ρ H ρ' H' → SR g.K g.T ρ' H' st' → Q b H'
def xP (g : G) (W : WX) (σ : L2.St) (ρ : Lo) (H : Hp) (c : Str) (w : PV) (st' : Sto) : Prop := ∀ ρ' H' d, PX g ρ H ρ' H' st' w d → W (.ref (g.cls c)) (some d) σ H'
/-- it holds further on -/
def Mono {α : Type} (ok : Lo → Hp → α → Sto → Prop) : Prop := ∀ ρ H ρ1 H1 a st, Ext ρ H ρ1 H1 → ok ρ H a st → ok ρ1 H1 a st
theorem okE.mono {g : G} {Q : VK} : Mono (okE g Q) := fun _ _ _ _ _ _ e h ρ' H' u x => h ρ' H' u (x.trans e)
theorem okA.mono {g : G} {Q : List V → Hp → Prop} : Mono (okA g Q) := fun _ _ _ _ _ _ e h ρ' H' u x => h ρ' H' u (e.trans x)
theorem okT.mono {g : G} {Q : Bool → Hp → Prop} : Mono (okT g Q) := fun _ _ _ _ _ _ e h ρ' H' x => h ρ' H' (e.trans x)
theorem xP.mono {g : G} {W : WX} {σ : L2.St} {ρ ρ1 : Lo} {H H1 : Hp} {c : Str} {w : PV} {st' : Sto} (e : Ext ρ H ρ1 H1) (h : xP g W σ ρ H c w st') : xP g W σ ρ1 H1 c w st' := fun ρ' H' d x => h ρ' H' d (x.trans e)
theorem RP.mono {α : Type} {g : G} {W : WX} {σ : L2.St} {ok : Lo → Hp → α → Sto → Prop} (m : Mono ok) {ρ ρ1 : Lo} {H H1 : Hp} (e : Ext ρ H ρ1 H1) {r : R α} (h : RP r (ok ρ H) (xP g W σ ρ H)) : RP r (ok ρ1 H1) (xP g W σ ρ1 H1) := by
  cases r with
  | ok a st => exact m _ _ _ _ _ _ e h
  | ex c w st => exact xP.mono (st' := st) e h
  | bad => exact h
/-- the readings -/
def tD (g : G) (W : WX) (d : D) : TE := fun σ H Q => ∃ ρ env st, SR g.K g.T ρ H st ∧ ER g.K ρ H env σ ∧ RP (d env st) (okE g Q ρ H) (xP g W σ ρ H)
def tDA (g : G) (W : WX) (d : DA) : TA := fun σ H Q => ∃ ρ env st, SR g.K g.T ρ H st ∧ ER g.K ρ H env σ ∧ RP (d env st) (okA g Q ρ H) (xP g W σ ρ H)
def tDT (g : G) (W : WX) (d : DT) : TT := fun σ H Q => ∃ ρ env st, SR g.K g.T ρ H st ∧ ER g.K ρ H env σ ∧ RP (d env st) (okT g Q ρ H) (xP g W σ ρ H)
section
variable {g : G} {W : WX} {σ : L2.St} {ρ : Lo} {H : Hp} {env : En} {st : Sto} {α : Type} {ok : Lo → Hp → α → Sto → Prop}
theorem tD_of {da : D} {k : PV → Sto → R α} (m : Mono ok) (s : SR g.K g.T ρ H st) (e : ER g.K ρ H env σ) (h : RP ((da env st).bind k) (ok ρ H) (xP g W σ ρ H)) {rest : VK}
    (hr : ∀ ρ1 H1 v st1 u, Post g.K g.T ρ H ρ1 H1 st1 v u → RP (k v st1) (ok ρ1 H1) (xP g W σ ρ1 H1) → rest u H1) : tD g W da σ H rest := by
  refine ⟨ρ, env, st, s, e, ?_⟩
  cases q : da env st with
  | ok v st1 =>
    rw [q] at h
    exact fun ρ1 H1 u P => hr ρ1 H1 v st1 u P (RP.mono m P.ext h)
  | ex c w st1 => rw [q] at h; exact h
  | bad => rw [q] at h; exact h
theorem tDA_of {da : DA} {k : List PV → Sto → R α} (m : Mono ok) (s : SR g.K g.T ρ H st) (e : ER g.K ρ H env σ) (h : RP ((da env st).bind k) (ok ρ H) (xP g W σ ρ H)) {rest : List V → Hp → Prop}
    (hr : ∀ ρ1 H1 vs st1 us, Ext ρ H ρ1 H1 → SR g.K g.T ρ1 H1 st1 → VRs g.K ρ1 H1 vs us → RP (k vs st1) (ok ρ1 H1) (xP g W σ ρ1 H1) → rest us H1) : tDA g W da σ H rest := by
  refine ⟨ρ, env, st, s, e, ?_⟩
  cases q : da env st with
  | ok v st1 =>
    rw [q] at h
    exact fun ρ1 H1 u x y z => hr ρ1 H1 v st1 u x y z (RP.mono m x h)
  | ex c w st1 => rw [q] at h; exact h
  | bad => rw [q] at h; exact h
theorem tDT_of {da : DT} {k : Bool → Sto → R α} (m : Mono ok) (s : SR g.K g.T ρ H st) (e : ER g.K ρ H env σ) (h : RP ((da env st).bind k) (ok ρ H) (xP g W σ ρ H)) {rest : Bool → Hp → Prop}
    (hr : ∀ ρ1 H1 b st1, Ext ρ H ρ1 H1 → SR g.K g.T ρ1 H1 st1 → RP (k b st1) (ok ρ1 H1) (xP g W σ ρ1 H1) → rest b H1) : tDT g W da σ H rest := by
  refine ⟨ρ, env, st, s, e, ?_⟩
  cases q : da env st with
  | ok v st1 =>
    rw [q] at h
    exact fun ρ1 H1 x y => hr ρ1 H1 v st1 x y (RP.mono m x h)
  | ex c w st1 => rw [q] at h; exact h
  | bad => rw [q] at h; exact h
end
/-! ### readings may be weakened -/
theorem PE.imp {X : Cx} {e : Expr} {t t' : TE} (h : PE X e t) (i : ∀ σ H Q, t' σ H Q → t σ H Q) : PE X e t' := ⟨fun pins s σ H Q I hq => h.run pins s σ H Q I (i _ _ _ hq)⟩
theorem PT.imp {X : Cx} {e : Expr} {t t' : TT} (h : PT X e t) (i : ∀ σ H Q, t' σ H Q → t σ H Q) : PT X e t' := ⟨fun pins s σ H Q I hq => h.run pins s σ H Q I (i _ _ _ hq)⟩
theorem PA.imp {X : Cx} {e : List Expr} {t t' : TA} (h : PA X e t) (i : ∀ σ H Q, t' σ H Q → t σ H Q) : PA X e t' := ⟨fun pos pins s σ H Q I hq => h.run pos pins s σ H Q I (i _ _ _ hq)⟩
theorem PS.imp {X : Cx} {e : Stmt} {t t' : TS} (h : PS X e t) (i : ∀ D σ H, t' D σ H → t D σ H) : PS X e t' := ⟨fun pins s σ H Q I hq => h.run pins s σ H Q I (i _ _ _ hq)⟩
theorem PSs.imp {X : Cx} {e : List Stmt} {t t' : TS} (h : PSs X e t) (i : ∀ D σ H, t' D σ H → t D σ H) : PSs X e t' := ⟨fun pins s σ H Q I hq => h.run pins s σ H Q I (i _ _ _ hq)⟩
/-! ### operations on values that leave the store -/
def ofO {α : Type} (st : Sto) : Option α → R α
  | some a => .ok a st
  | none => .bad
/-- two places -/
def rP2 (g : G) (f : Sto → PV → PV → Option PV) : R2 := fun u w H Q => ∃ ρ st x y z, SR g.K g.T ρ H st ∧ VR g.K ρ H x u ∧ VR g.K ρ H y w ∧ f st x y = some z ∧ okE g Q ρ H z st
def rP1 (g : G) (f : Sto → PV → Option PV) : V → Hp → VK → Prop := fun u H Q => ∃ ρ st x z, SR g.K g.T ρ H st ∧ VR g.K ρ H x u ∧ f st x = some z ∧ okE g Q ρ H z st
def rPN (g : G) (f : Sto → List PV → Option PV) : List V → Hp → VK → Prop := fun us H Q => ∃ ρ st xs z, SR g.K g.T ρ H st ∧ VRs g.K ρ H xs us ∧ f st xs = some z ∧ okE g Q ρ H z st
def d1 (f : Sto → PV → Option PV) (a : D) : D := fun env st => (a env st).bind fun x st1 => ofO st1 (f st1 x)
def d2 (f : Sto → PV → PV → Option PV) (a b : D) : D := fun env st => (a env st).bind fun x st1 => (b env st1).bind fun y st2 => ofO st2 (f st2 x y)
def dN (f : Sto → List PV → Option PV) (a : DA) : D := fun env st => (a env st).bind fun x st1 => ofO st1 (f st1 x)
theorem ofO_ok {α : Type} {st : Sto} {o : Option α} {ok : α → Sto → Prop} {ex : Str → PV → Sto → Prop} (h : RP (ofO st o) ok ex) : ∃ z, o = some z ∧ ok z st := by
  cases o with
  | none => exact h.elim
  | some z => exact ⟨z, rfl, h⟩
theorem t2_of {g : G} {W : WX} {f : Sto → PV → PV → Option PV} {a b : D} {σ : L2.St} {H : Hp} {Q : VK} (h : tD g W (d2 f a b) σ H Q) : tOp (rP2 g f) (tD g W a) (tD g W b) σ H Q := by
  obtain ⟨ρ, env, st, s, e, h⟩ := h
  refine tD_of okE.mono s e h fun ρ1 H1 x st1 u P1 h1 => tD_of okE.mono P1.sr (e.mono P1.ext) h1 fun ρ2 H2 y st2 w P2 h2 => ?_
  obtain ⟨z, hz, k⟩ := ofO_ok h2
  exact ⟨ρ2, st2, x, y, z, P2.sr, P1.vr.mono P2.ext, P2.vr, hz, k⟩
theorem t1_of {g : G} {W : WX} {f : Sto → PV → Option PV} {a : D} {σ : L2.St} {H : Hp} {Q : VK} (h : tD g W (d1 f a) σ H Q) : tUn (rP1 g f) (tD g W a) σ H Q := by
  obtain ⟨ρ, env, st, s, e, h⟩ := h
  refine tD_of okE.mono s e h fun ρ1 H1 x st1 u P1 h1 => ?_
  obtain ⟨z, hz, k⟩ := ofO_ok h1
  exact ⟨ρ1, st1, x, z, P1.sr, P1.vr, hz, k⟩
theorem tN_of {g : G} {W : WX} {f : Sto → List PV → Option PV} {a : DA} {σ : L2.St} {H : Hp} {Q : VK} (h : tD g W (dN f a) σ H Q) : tCB (rPN g f) (tDA g W a) σ H Q := by
  obtain ⟨ρ, env, st, s, e, h⟩ := h
  refine tDA_of okE.mono s e h fun ρ1 H1 x st1 u x1 x2 x3 h1 => ?_
  obtain ⟨z, hz, k⟩ := ofO_ok h1
  exact ⟨ρ1, st1, x, z, x2, x3, hz, k⟩
theorem de_bin {g : G} {W : WX} {X : Cx} {op : Operator} {a b : Expr} {f : Sto → PV → PV → Option PV} {da db : D} {pos : Pos} (ho : OpR X (binaryOp op) (rP2 g f)) (ha : PE X a (tD g W da)) (hb : PE X b (tD g W db)) : PE X (.BinOp a op b pos) (tD g W (d2 f da db)) :=
  PE.imp (pe_op ho ha hb) fun _ _ _ h => t2_of h
theorem de_cmp {g : G} {W : WX} {X : Cx} {op : CmpOp} {a b : Expr} {f : Sto → PV → PV → Option PV} {da db : D} {pos : Pos} (ho : OpR X (compareOp op) (rP2 g f)) (ha : PE X a (tD g W da)) (hb : PE X b (tD g W db)) (hm : behindInMarks op b = false) : PE X (.Compare a [op] [b] pos) (tD g W (d2 f da db)) :=
  PE.imp (pe_cmpR ho ha hb hm) fun _ _ _ h => t2_of h
theorem de_un {g : G} {W : WX} {X : Cx} {op : UnaryOp} {a : Expr} {f : Sto → PV → Option PV} {da : D} {pos : Pos} (ho : UnR X (unaryOp op) (rP1 g f)) (ha : PE X a (tD g W da)) : PE X (.UnaryOp op a pos) (tD g W (d1 f da)) :=
  PE.imp (pe_un ho ha) fun _ _ _ h => t1_of h
theorem de_ix {g : G} {W : WX} {X : Cx} {a b : Expr} {f : Sto → PV → PV → Option PV} {da db : D} {pos : Pos} (ho : IxR X (rP2 g f)) (ha : PE X a (tD g W da)) (hb : PE X b (tD g W db)) (hs : PlainIx b) : PE X (.Subscript a b pos) (tD g W (d2 f da db)) :=
  PE.imp (pe_ix ho ha hb hs) fun _ _ _ h => t2_of h
/-! ### constants, names -/
def dC (p : PV) : D := fun _ st => .ok p st
def dV (i : Nat) : D := fun env st => match env[i]? with
  | some (some p) => .ok p st
  | _ => .bad
theorem de_c {g : G} {W : WX} {X : Cx} {e : Expr} {v : V} {p : PV} (h : PE X e (tC v)) (hr : ∀ ρ H, VR g.K ρ H p v) (nt : ∀ xs, p ≠ .tl xs) : PE X e (tD g W (dC p)) :=
  PE.imp h fun σ H Q ⟨ρ, env, st, s, e, h⟩ => h ρ H v (.pure s (hr ρ H) nt)
theorem de_v {g : G} {W : WX} {X : Cx} {i : Nat} {x : Str} {pos : Pos} (hN : X.N[i]? = some x) (hv : Vis X.env.scope x) (hd : (x == ("__debug__" : Str)) = false) (hcd : (x == ("__classdict__" : Str)) = false) : PE X (.Name x pos) (tD g W (dV i)) :=
  PE.imp (pe_var hN hv hd hcd) fun σ H Q ⟨ρ, env, st, s, e, h⟩ => by
    unfold dV at h
    cases q : env[i]? with
    | none => rw [q] at h; exact h.elim
    | some o =>
      cases o with
      | none => rw [q] at h; exact h.elim
      | some p =>
        rw [q] at h
        obtain ⟨v, h1, h2, h3⟩ := e.2 i p q
        exact ⟨v, h1, h ρ H v (.pure s h2 h3)⟩
/-! ### argument lists -/
def dNil : DA := fun _ st => .ok [] st
def dCons (a : D) (r : DA) : DA := fun env st => (a env st).bind fun x st1 => (r env st1).bind fun xs st2 => .ok (frz x :: xs) st2
theorem da_nil {g : G} {W : WX} {X : Cx} : PA X [] (tDA g W dNil) := PA.imp pa_nil fun σ H Q ⟨ρ, env, st, s, e, h⟩ => h ρ H [] (.refl _ _) s .nil
theorem da_cons {g : G} {W : WX} {X : Cx} {e : Expr} {es : List Expr} {d : D} {r : DA} (h : PE X e (tD g W d)) (t : PA X es (tDA g W r)) (hs : starEach (e :: es) X.env = (false, eval e X.env) :: starEach es X.env) : PA X (e :: es) (tDA g W (dCons d r)) :=
  PA.imp (pa_cons h t hs) fun σ H Q ⟨ρ, env, st, s, e, h⟩ =>
    tD_of okA.mono s e h fun ρ1 H1 x st1 u P1 h1 => tDA_of okA.mono P1.sr (e.mono P1.ext) h1 fun ρ2 H2 ys st2 us x1 x2 x3 h2 => h2 ρ2 H2 (u :: us) (.refl _ _) x2 (.cons (P1.vr.mono x1).frz x3)
/-- displays -/
def mkT (n : Nat) (st : Sto) (xs : List PV) : Option PV := if n ≤ 1000 ∧ xs.length = n then some (.tup xs) else none
def mkL (n : Nat) (st : Sto) (xs : List PV) : Option PV := if n ≤ 1000 ∧ xs.length = n then some (.tl xs) else none
theorem le1000 {n : Nat} (h : n ≤ 1000) : n ≤ sizeLine := by rw [sizeLine_eq]; omega
theorem de_tup {g : G} {W : WX} {X : Cx} {es : List Expr} {k n : Nat} {pos : Pos} {d : DA} (h : PA X es (tDA g W d)) : PE X (.Tuple es k pos) (tD g W (dN (mkT n) d)) :=
  PE.imp (pe_tup h) fun σ H Q ⟨ρ, env, st, s, e, h⟩ => tDA_of okE.mono s e h fun ρ1 H1 ys st1 us x1 x2 x3 h1 => by
    obtain ⟨z, hz, k⟩ := ofO_ok h1
    unfold mkT at hz
    split at hz
    · rename_i hn
      cases hz
      have hl : us.length ≤ sizeLine := by rw [x3.length, hn.2]; exact le1000 hn.1
      exact ⟨hl, fun p np => k ρ1 _ _ (.newTup x2 np hl x3)⟩
    · cases hz
theorem de_lst {g : G} {W : WX} {X : Cx} {es : List Expr} {n : Nat} {pos : Pos} {d : DA} (h : PA X es (tDA g W d)) : PE X (.List es pos) (tD g W (dN (mkL n) d)) :=
  PE.imp (pe_lst h) fun σ H Q ⟨ρ, env, st, s, e, h⟩ => tDA_of okE.mono s e h fun ρ1 H1 ys st1 us x1 x2 x3 h1 => by
    obtain ⟨z, hz, k⟩ := ofO_ok h1
    unfold mkL at hz
    split at hz
    · rename_i hn
      cases hz
      have hl : us.length ≤ sizeLine := by rw [x3.length, hn.2]; exact le1000 hn.1
      exact ⟨hl, fun p np => k ρ1 _ _ (.newList x2 np hl x3)⟩
    · cases hz
/-! ### tests -/
def dTru (f : Sto → PV → Option Bool) (a : D) : DT := fun env st => (a env st).bind fun x st1 => ofO st1 (f st1 x)
def asB (_ : Sto) : PV → Option Bool
  | .bl b => some b
  | _ => none
/-- a value's truth -/
def truP (st : Sto) : PV → Option Bool
  | .non => some false
  | .bl b => some b
  | .int i => some (i != 0)
  | .tup xs => some (!xs.isEmpty)
  | .fl xs => some (!xs.isEmpty)
  | .tl xs => some (!xs.isEmpty)
  | .ro xs => some (!xs.isEmpty)
  | .loc n => match st[n]? with
    | some (.lst xs) => some (!xs.isEmpty)
    | _ => none
  | _ => none
theorem VRs.empty {K : PySem.W.Frag} {ρ : Lo} {H : Hp} {xs : List PV} {vs : List V} (h : VRs K ρ H xs vs) : xs.isEmpty = vs.isEmpty := by
  cases xs <;> unfold VRs at h
  · subst h; rfl
  · obtain ⟨v, r, rfl, _⟩ := h; rfl
theorem truV_of {g : G} {ρ : Lo} {H : Hp} {st : Sto} {x : PV} {u : V} {b : Bool} (s : SR g.K g.T ρ H st) (r : VR g.K ρ H x u) (h : truP st x = some b) : TruV g.K u H b := by
  cases x with
  | non => unfold VR at r; subst r; cases h; exact rfl
  | bl b => unfold VR at r; subst r; cases h; exact rfl
  | int i => unfold VR at r; subst r; cases h; exact rfl
  | str x => cases h
  | ty x => cases h
  | lam f c q _ _ => cases h
  | tup xs =>
    unfold VR at r
    obtain ⟨a, vs, rfl, h2, _, h4⟩ := r
    cases h
    exact .inr (.inl ⟨vs, h2, by rw [h4.empty]⟩)
  | fl xs =>
    unfold VR at r
    obtain ⟨a, vs, rfl, _, h2, _, h4⟩ := r
    cases h
    exact .inl ⟨vs, .of h2, by rw [h4.empty]⟩
  | tl xs =>
    unfold VR at r
    obtain ⟨a, vs, rfl, _, h2, _, h4⟩ := r
    cases h
    exact .inl ⟨vs, .of h2, by rw [h4.empty]⟩
  | ro xs =>
    unfold VR at r
    obtain ⟨a, vs, rfl, h2, _, h4⟩ := r
    cases h
    refine .inl ⟨vs, ?_, by rw [h4.empty]⟩
    rcases h2 with ⟨o, h2⟩ | h2
    · exact .inl (.inr ⟨o, h2⟩)
    · exact h2 H
  | loc n =>
    unfold VR at r
    obtain ⟨a, h1, rfl⟩ := r
    unfold truP at h
    cases q : st[n]? with
    | none => simp [q] at h
    | some m =>
      cases m with
      | lst xs =>
        simp only [q, Option.some.injEq] at h
        subst h
        obtain ⟨o, z1, vs, rfl, z2, z3⟩ := s.ob n a _ h1 q
        exact .inl ⟨vs, .of z1, by rw [z3.empty]⟩
      | dct _ => simp [q] at h
theorem dt_tru {g : G} {W : WX} {X : Cx} {e : Expr} {d : D} (hK : g.K = X.K) (h : PE X e (tD g W d)) (he : ∀ whole, isTrue e X.env whole = (do let v ← whole; standAt e.pos; holding [v] (truthy v))) : PT X e (tDT g W (dTru truP d)) :=
  PT.imp (pt_truth h he) fun σ H Q ⟨ρ, env, st, s, e, h⟩ => tD_of okT.mono s e h fun ρ1 H1 x st1 u P1 h1 => by
    obtain ⟨b, hb, k⟩ := ofO_ok h1
    exact ⟨b, hK ▸ truV_of P1.sr P1.vr hb, k ρ1 H1 (.refl _ _) P1.sr⟩
theorem dt_cmp {g : G} {W : WX} {X : Cx} {op : CmpOp} {a b : Expr} {f : Sto → PV → PV → Option PV} {da db : D} {pos : Pos} (ho : OpR X (compareOp op) (rP2 g f)) (ha : PE X a (tD g W da)) (hb : PE X b (tD g W db)) (hm : behindInMarks op b = false) : PT X (.Compare a [op] [b] pos) (tDT g W (dTru asB (d2 f da db))) :=
  PT.imp (pt_cmpR ho ha hb hm) fun σ H Q ⟨ρ, env, st, s, e, h⟩ => by
    have h' : tD g W (d2 f da db) σ H (fun x H' => ∃ k, x = .bl k ∧ Q k H') := tD_of okT.mono s e h fun ρ1 H1 x st1 u P1 h1 => by
      obtain ⟨b, hb, k⟩ := ofO_ok h1
      cases x <;> cases hb
      have r := P1.vr
      unfold VR at r
      exact ⟨_, r, k ρ1 H1 (.refl _ _) P1.sr⟩
    exact t2_of h'
def dNotT (a : DT) : DT := fun env st => (a env st).bind fun b st1 => .ok (!b) st1
def dAndT (a b : DT) : DT := fun env st => (a env st).bind fun c st1 => if c = true then b env st1 else .ok false st1
def dOrT (a b : DT) : DT := fun env st => (a env st).bind fun c st1 => if c = true then .ok true st1 else b env st1
def dIf (c : DT) (a b : D) : D := fun env st => (c env st).bind fun t st1 => if t = true then a env st1 else b env st1
theorem dt_not {g : G} {W : WX} {X : Cx} {a : Expr} {da : DT} {pos : Pos} (h : PT X a (tDT g W da)) : PT X (.UnaryOp .Not a pos) (tDT g W (dNotT da)) :=
  PT.imp (pt_not h) fun σ H Q ⟨ρ, env, st, s, e, h⟩ => tDT_of okT.mono s e h fun ρ1 H1 b st1 x1 x2 h1 => h1 ρ1 H1 (.refl _ _) x2
/-- behind a test -/
theorem RP.at {g : G} {W : WX} {σ : L2.St} {ρ : Lo} {H : Hp} {env : En} {st : Sto} {d : D} {Q : VK} (s : SR g.K g.T ρ H st) (e : ER g.K ρ H env σ) (h : RP (d env st) (okE g Q ρ H) (xP g W σ ρ H)) : tD g W d σ H Q := ⟨ρ, env, st, s, e, h⟩
theorem dw_and1 {g : G} {W : WX} {X : Cx} {a : Expr} {da : DT} {pos : Pos} (h : PT X a (tDT g W da)) : PW X (.BoolOp .And [a] pos) (tDT g W da) := pw_and1 h
theorem PW.imp {X : Cx} {e : Expr} {t t' : TT} (h : PW X e t) (i : ∀ σ H Q, t' σ H Q → t σ H Q) : PW X e t' := ⟨fun w pins s σ H Q I hq => h.run w pins s σ H Q I (i _ _ _ hq)⟩
theorem dw_and {g : G} {W : WX} {X : Cx} {a b : Expr} {rest : List Expr} {da db : DT} {pos : Pos} (ha : PT X a (tDT g W da)) (hb : PW X (.BoolOp .And (b :: rest) pos) (tDT g W db)) : PW X (.BoolOp .And (a :: b :: rest) pos) (tDT g W (dAndT da db)) :=
  PW.imp (pw_and ha hb) fun σ H Q ⟨ρ, env, st, s, e, h⟩ => tDT_of okT.mono s e h fun ρ1 H1 b st1 x1 x2 h1 => by
    cases b with
    | true => exact ⟨ρ1, env, st1, x2, e.mono x1, h1⟩
    | false => exact h1 ρ1 H1 (.refl _ _) x2
theorem dw_or {g : G} {W : WX} {X : Cx} {a b : Expr} {rest : List Expr} {da db : DT} {pos : Pos} (ha : PT X a (tDT g W da)) (hb : PW X (.BoolOp .Or (b :: rest) pos) (tDT g W db)) : PW X (.BoolOp .Or (a :: b :: rest) pos) (tDT g W (dOrT da db)) :=
  PW.imp (pw_or ha hb) fun σ H Q ⟨ρ, env, st, s, e, h⟩ => tDT_of okT.mono s e h fun ρ1 H1 b st1 x1 x2 h1 => by
    cases b with
    | true => exact h1 ρ1 H1 (.refl _ _) x2
    | false => exact ⟨ρ1, env, st1, x2, e.mono x1, h1⟩
theorem de_if {g : G} {W : WX} {X : Cx} {c a b : Expr} {dc : DT} {da db : D} {pos : Pos} (hc : PT X c (tDT g W dc)) (ha : PE X a (tD g W da)) (hb : PE X b (tD g W db)) : PE X (.IfExp c a b pos) (tD g W (dIf dc da db)) :=
  PE.imp (pe_ifExp hc ha hb) fun σ H Q ⟨ρ, env, st, s, e, h⟩ => tDT_of okE.mono s e h fun ρ1 H1 b st1 x1 x2 h1 => by
    cases b with
    | true => exact ⟨ρ1, env, st1, x2, e.mono x1, h1⟩
    | false => exact ⟨ρ1, env, st1, x2, e.mono x1, h1⟩
/-- and, or, not as values: bools -/
def dAndV (a b : D) : D := fun env st => (a env st).bind fun x st1 => match x with
  | .bl true => b env st1
  | .bl false => .ok (.bl false) st1
  | _ => .bad
def dOrV (a b : D) : D := fun env st => (a env st).bind fun x st1 => match x with
  | .bl true => .ok (.bl true) st1
  | .bl false => b env st1
  | _ => .bad
def notP (_ : Sto) : PV → Option PV
  | .bl b => some (.bl (!b))
  | _ => none
theorem de_and {g : G} {W : WX} {X : Cx} {a b : Expr} {rest : List Expr} {da db : D} {pos : Pos} (ha : PE X a (tD g W da)) (hb : PE X (.BoolOp .And (b :: rest) pos) (tD g W db)) : PE X (.BoolOp .And (a :: b :: rest) pos) (tD g W (dAndV da db)) :=
  PE.imp (pe_and ha hb) fun σ H Q ⟨ρ, env, st, s, e, h⟩ => tD_of okE.mono s e h fun ρ1 H1 x st1 u P1 h1 => by
    cases x with
    | bl c =>
      have r := P1.vr
      unfold VR at r
      refine ⟨c, r, ?_⟩
      cases c with
      | true => exact ⟨ρ1, env, st1, P1.sr, e.mono P1.ext, h1⟩
      | false => exact h1 ρ1 H1 _ (.pure P1.sr (by unfold VR; rfl) (fun _ z => by cases z))
    | _ => exact h1.elim
theorem de_or {g : G} {W : WX} {X : Cx} {a b : Expr} {rest : List Expr} {da db : D} {pos : Pos} (ha : PE X a (tD g W da)) (hb : PE X (.BoolOp .Or (b :: rest) pos) (tD g W db)) : PE X (.BoolOp .Or (a :: b :: rest) pos) (tD g W (dOrV da db)) :=
  PE.imp (pe_or ha hb) fun σ H Q ⟨ρ, env, st, s, e, h⟩ => tD_of okE.mono s e h fun ρ1 H1 x st1 u P1 h1 => by
    cases x with
    | bl c =>
      have r := P1.vr
      unfold VR at r
      refine ⟨c, r, ?_⟩
      cases c with
      | false => exact ⟨ρ1, env, st1, P1.sr, e.mono P1.ext, h1⟩
      | true => exact h1 ρ1 H1 _ (.pure P1.sr (by unfold VR; rfl) (fun _ z => by cases z))
    | _ => exact h1.elim
theorem de_not {g : G} {W : WX} {X : Cx} {a : Expr} {da : D} {pos : Pos} (ha : PE X a (tD g W da)) : PE X (.UnaryOp .Not a pos) (tD g W (d1 notP da)) :=
  PE.imp (pe_not ha) fun σ H Q ⟨ρ, env, st, s, e, h⟩ => tD_of okE.mono s e h fun ρ1 H1 x st1 u P1 h1 => by
    obtain ⟨z, hz, k⟩ := ofO_ok h1
    cases x <;> cases hz
    have r := P1.vr
    unfold VR at r
    exact ⟨_, r, k ρ1 H1 _ (.pure P1.sr (by unfold VR; rfl) (fun _ z => by cases z))⟩
end Bb
namespace Bb
open PySem PySem.Spec PyProof.Rows L2
/-! ### a tuple once, a text so many times -/
theorem tuple_mul1 (l : Addr) (items : Array Value) (n : Nat) (dd : Option Addr) (sl : Array (Option Value)) (u : Tok) :
    Meets (Builtin.«tuple.__mul__» ⟨[.ref l, .int 1 u], []⟩) (fun _ R s => s.heap.get? l = some { cls := .type "tuple", dict := dd, data := .seq items n, slots := sl } ∧ R (.ok (.ret (.ref l))) s) :=
  .of_wp fun prog w A R s h => by
    obtain ⟨hp, g, d, tk, os⟩ := s
    obtain ⟨hl, h⟩ := h
    have f1 := AutoSeq1.idx_int
    have c0 : (decide ((1 : Int) < -(2 ^ 63)) || decide ((1 : Int) ≥ 2 ^ 63)) = false := by decide
    have c1 : (items.isEmpty || (1 : Int) == 1) = true := by simp
    wp_walk using wpAny_loadPart' hl
    repeat (first
      | (refine wpAny_ite_false (decide_eq_false (by rw [c0]; exact Bool.false_ne_true)) ?_; wp_walk using wpAny_loadPart' hl)
      | (refine wpAny_ite_true (decide_eq_true c1) ?_; wp_walk using wpAny_loadPart' hl))
    exact ⟨_, rfl, h⟩
def strRep (x : Str) (k : Int) : Str := if k = 1 then x else ⟨(List.replicate k.toNat x.cps).foldl (· ++ ·) #[]⟩
section
variable {X : Cx}
theorem op_repT1 : OpR X (binaryOp .Mult) (fun x y H Q => ∃ l xs, x = .ref l ∧ y = .int 1 ∧ SqT X.K H l xs ∧ Q (.ref l) H) := by
  intro pins s σ H x y v u Q I rx ry h
  obtain ⟨l, xs, rfl, rfl, hT, q⟩ := h
  cases rx
  obtain ⟨t, rfl⟩ := ry
  obtain ⟨its, r, ⟨⟨cls, dd, data, sl⟩, ho, hc, n, hd⟩, hs⟩ := I.tuple hT
  simp only at hc hd
  subst hc hd
  exact wpAny_binaryOp_repeat_ref (T := "tuple") (U := "int") (by decide) ⟨_, ho, rfl⟩ (fun s' => typeIs_int s' 1 t) noFill_tuple_mul F.fills_int_mul F.slot_int_rmul repeat_tuple F.slot_int_index.lookup
    (call_meets F.slot_int_rmul (typeIs_int s 1 t) F.entry_int_rmul (F.args_int_rmul_2 _ _) (int_rmul_tuple 1 t l its.toArray n dd sl)
      ⟨ho, rfl, ⟨_, ho, rfl⟩, call_meets F.slot_tuple_mul ⟨_, ho, rfl⟩ F.entry_tuple_mul (F.args_tuple_mul_2 _ _) (tuple_mul1 l its.toArray n dd sl t) ⟨ho, ⟨.ref l, H, I, rfl, q⟩⟩⟩)
theorem rep_size {α : Type} (a : Array α) : ∀ (n : Nat) (b : Array α), ((List.replicate n a).foldl (· ++ ·) b).size = b.size + n * a.size
  | 0, b => by simp
  | n + 1, b => by
    rw [List.replicate_succ, List.foldl_cons, rep_size a n, Array.size_append, Nat.succ_mul]
    omega
theorem op_mulStr : OpR X (binaryOp .Mult) (fun x y H Q => ∃ i k, x = .str i ∧ y = .int k ∧ 1 ≤ k ∧ k ≤ 1000 ∧ 1 ≤ i.length ∧ i.length ≤ 1000 ∧ Q (.str (strRep i k)) H) := by
  intro pins s σ H x y v u Q I rx ry h
  obtain ⟨i, k, rfl, rfl, h1, h2, h3, h4, q⟩ := h
  obtain ⟨t, rfl⟩ := rx
  obtain ⟨t', rfl⟩ := ry
  have hle : i.length * k.toNat ≤ 1000000 := by
    have a1 : i.length * k.toNat ≤ 1000 * 1000 := Nat.mul_le_mul h4 (by omega)
    omega
  refine P.mul_str ?_ (fun _ hn => ?_) (fun _ _ => ?_) ?_
  · rw [decide_eq_false (by omega), decide_eq_false (by omega)] <;> rfl
  · have a2 : (9223372036854775 : Int) ≤ (2 ^ 63 - 1) / k := (Int.le_ediv_iff_mul_le (by omega)).mpr (by
      have : (9223372036854775 : Int) * k ≤ 9223372036854775 * 1000 := Int.mul_le_mul_of_nonneg_left h2 (by omega)
      omega)
    omega
  · unfold Builtin.Str.tooLong
    rw [sizeLine_eq]
    exact decide_eq_false (by omega)
  · rw [if_neg (by omega)]
    unfold strRep at q
    have i0 : (i.length == 0) = false := by rw [beq_eq_false_iff_ne]; omega
    by_cases e : k = 1
    · subst e
      rw [if_pos rfl] at q
      rw [if_pos (by simp)]
      exact ⟨.str i, H, I, ⟨_, rfl⟩, q⟩
    · rw [if_neg e] at q
      rw [if_neg (by simp [e, i0])]
      refine ⟨?_, ⟨.str _, H, I.tok _, ⟨_, rfl⟩, q⟩⟩
      rw [sizeLine_eq]
      show (List.foldl (· ++ ·) #[] (List.replicate k.toNat i.cps)).size ≤ _
      rw [rep_size]
      have a3 : i.cps.size = i.length := rfl
      rw [a3, Nat.mul_comm]
      simp
      omega
end
end Bb
namespace Bb
open PySem L2 PyProof.Rows
/-! ### reading sequences -/
def asM (st : Sto) : PV → Option (List PV)
  | .fl xs => some xs
  | .tl xs => some xs
  | .loc n => match st[n]? with
    | some (.lst xs) => some xs
    | _ => none
  | _ => none
def asL (st : Sto) : PV → Option (List PV)
  | .ro xs => some xs
  | v => asM st v
def asT : PV → Option (List PV)
  | .tup xs => some xs
  | _ => none
def asS (st : Sto) : PV → Option (List PV)
  | .tup xs => some xs
  | v => asL st v
section
variable {g : G} {ρ : Lo} {H : Hp} {st : Sto} {x : PV} {u : V} {xs : List PV}
theorem asM_ok (s : SR g.K g.T ρ H st) (r : VR g.K ρ H x u) (h : asM st x = some xs) : ∃ a vs, u = .ref a ∧ H a = some (.lst vs) ∧ vs.length ≤ sizeLine ∧ VRs g.K ρ H xs vs := by
  cases x with
  | fl ys =>
    cases h
    unfold VR at r
    obtain ⟨a, vs, h1, _, h2, h3, h4⟩ := r
    exact ⟨a, vs, h1, h2, h3, h4⟩
  | tl ys =>
    cases h
    unfold VR at r
    obtain ⟨a, vs, h1, _, h2, h3, h4⟩ := r
    exact ⟨a, vs, h1, h2, h3, h4⟩
  | loc n =>
    unfold VR at r
    obtain ⟨a, h1, rfl⟩ := r
    unfold asM at h
    cases q : st[n]? with
    | none => simp [q] at h
    | some m =>
      cases m with
      | lst ys =>
        simp only [q, Option.some.injEq] at h
        subst h
        obtain ⟨o, z1, vs, rfl, z2, z3⟩ := s.ob n a _ h1 q
        exact ⟨a, vs, rfl, z1, z2, z3⟩
      | dct _ => simp [q] at h
  | _ => cases h
theorem asL_ok (s : SR g.K g.T ρ H st) (r : VR g.K ρ H x u) (h : asL st x = some xs) : ∃ a vs, u = .ref a ∧ SqL g.K H a vs ∧ vs.length ≤ sizeLine ∧ VRs g.K ρ H xs vs := by
  cases x with
  | ro ys =>
    cases h
    unfold VR at r
    obtain ⟨a, vs, h1, h2, h3, h4⟩ := r
    refine ⟨a, vs, h1, ?_, h3, h4⟩
    rcases h2 with ⟨o, h2⟩ | h2
    · exact .inl (.inr ⟨o, h2⟩)
    · exact h2 H
  | _ =>
    obtain ⟨a, vs, h1, h2, h3, h4⟩ := asM_ok s r h
    exact ⟨a, vs, h1, .of h2, h3, h4⟩
theorem asT_ok (r : VR g.K ρ H x u) (h : asT x = some xs) : ∃ a vs, u = .ref a ∧ SqT g.K H a vs ∧ vs.length ≤ sizeLine ∧ VRs g.K ρ H xs vs := by
  cases x <;> cases h
  unfold VR at r
  exact r
theorem asS_ok (s : SR g.K g.T ρ H st) (r : VR g.K ρ H x u) (h : asS st x = some xs) : ∃ a vs, u = .ref a ∧ (SqL g.K H a vs ∨ SqT g.K H a vs) ∧ vs.length ≤ sizeLine ∧ VRs g.K ρ H xs vs := by
  cases x with
  | tup ys =>
    obtain ⟨a, vs, h1, h2, h3, h4⟩ := asT_ok (g := g) (xs := xs) r h
    exact ⟨a, vs, h1, .inr h2, h3, h4⟩
  | _ =>
    obtain ⟨a, vs, h1, h2, h3, h4⟩ := asL_ok s r h
    exact ⟨a, vs, h1, .inl h2, h3, h4⟩
theorem vr_int {i : Int} (r : VR g.K ρ H (.int i) u) : u = .int i := by unfold VR at r; exact r
theorem vr_bl {i : Bool} (r : VR g.K ρ H (.bl i) u) : u = .bl i := by unfold VR at r; exact r
theorem vr_str {i : Str} (r : VR g.K ρ H (.str i) u) : u = .str i := by unfold VR at r; exact r
theorem vr_ty {i : String} (r : VR g.K ρ H (.ty i) u) : u = .ty i := by unfold VR at r; exact r
theorem int_vr (i : Int) : VR g.K ρ H (.int i) (.int i) := by unfold VR; rfl
theorem bl_vr (i : Bool) : VR g.K ρ H (.bl i) (.bl i) := by unfold VR; rfl
theorem str_vr (i : Str) : VR g.K ρ H (.str i) (.str i) := by unfold VR; rfl
theorem non_vr : VR g.K ρ H .non .non := by unfold VR; rfl
theorem okE.int {Q : VK} {i : Int} (s : SR g.K g.T ρ H st) (k : okE g Q ρ H (.int i) st) : Q (.int i) H := k ρ H _ (.pure s (int_vr i) (fun _ z => by cases z))
theorem okE.bl {Q : VK} {i : Bool} (s : SR g.K g.T ρ H st) (k : okE g Q ρ H (.bl i) st) : Q (.bl i) H := k ρ H _ (.pure s (bl_vr i) (fun _ z => by cases z))
theorem okE.str {Q : VK} {i : Str} (s : SR g.K g.T ρ H st) (k : okE g Q ρ H (.str i) st) : Q (.str i) H := k ρ H _ (.pure s (str_vr i) (fun _ z => by cases z))
end
theorem VRs.rep {K : PySem.W.Frag} {ρ : Lo} {H : Hp} {xs : List PV} {vs : List V} (h : VRs K ρ H xs vs) : ∀ n : Nat, VRs K ρ H (List.replicate n xs).flatten (List.replicate n vs).flatten
  | 0 => .nil
  | n + 1 => by
    rw [List.replicate_succ, List.replicate_succ, List.flatten_cons, List.flatten_cons]
    exact h.append (h.rep n)
theorem VRs.reverse {K : PySem.W.Frag} {ρ : Lo} {H : Hp} : ∀ {xs : List PV} {vs : List V}, VRs K ρ H xs vs → VRs K ρ H xs.reverse vs.reverse
  | [], _, h => by unfold VRs at h; subst h; exact .nil
  | _ :: _, _, h => by
    unfold VRs at h
    obtain ⟨v, r, rfl, h2, h3⟩ := h
    rw [List.reverse_cons, List.reverse_cons]
    exact h3.reverse.append (.cons h2 .nil)
/-! ### + -/
def addP (st : Sto) (x y : PV) : Option PV := match x, y with
  | .int i, .int j => some (.int (i + j))
  | .str a, .str b => if a.length + b.length ≤ 16777216 then some (.str (a ++ b)) else none
  | .tup a, .tup b => if a.length + b.length ≤ 16777216 then some (.tup (a ++ b)) else none
  | x, y => match asM st x, asM st y with
    | some a, some b => if a.length + b.length ≤ 16777216 then some (.tl (a ++ b)) else none
    | _, _ => none
section
variable {g : G} {X : Cx}
theorem op_addP (hK : g.K = X.K) : OpR X (binaryOp .Add) (rP2 g addP) := by
  intro pins s σ H u w v v' Q I ru rw' ⟨ρ, st, x, y, z, sr, rx, ry, hz, k⟩
  have lists : ∀ {a b : List PV}, asM st x = some a → asM st y = some b → a.length + b.length ≤ 16777216 → z = .tl (a ++ b) → wpAny (model X.prog X.w) X.A (binaryOp .Add v v') (EP X pins σ Q) X.xe s := by
    rintro a b ha hb hl rfl
    obtain ⟨p, vs, rfl, h1, h2, h3⟩ := asM_ok sr rx ha
    obtain ⟨q, ws, rfl, h4, h5, h6⟩ := asM_ok sr ry hb
    have hl' : vs.length + ws.length ≤ sizeLine := by rw [h3.length, h6.length, sizeLine_eq]; exact hl
    exact op_cat pins s σ H _ _ v v' Q I ru rw' ⟨p, q, vs, ws, rfl, rfl, h1, h4, hl', fun t nt => k ρ _ _ (.newList sr nt (by rw [List.length_append]; exact hl') (h3.append h6))⟩
  unfold addP at hz
  split at hz
  · cases hz
    cases vr_int rx; cases vr_int ry
    exact op_add pins s σ H _ _ v v' Q I ru rw' ⟨_, _, rfl, rfl, k.int sr⟩
  · split at hz
    · rename_i hl
      cases hz
      cases vr_str rx; cases vr_str ry
      exact op_add_str pins s σ H _ _ v v' Q I ru rw' ⟨_, _, rfl, rfl, by rw [sizeLine_eq]; exact hl, k.str sr⟩
    · cases hz
  · rename_i a b
    split at hz
    · rename_i hl
      cases hz
      obtain ⟨p, vs, rfl, h1, h2, h3⟩ := asT_ok (g := g) (xs := a) rx rfl
      obtain ⟨q, ws, rfl, h4, h5, h6⟩ := asT_ok (g := g) (xs := b) ry rfl
      have hl' : vs.length + ws.length ≤ sizeLine := by rw [h3.length, h6.length, sizeLine_eq]; exact hl
      refine op_catA pins s σ H _ _ v v' Q I ru rw' ⟨p, q, vs, ws, rfl, rfl, hK ▸ h1, hK ▸ h4, hl', fun e => ?_, fun _ e => ?_, fun _ _ t nt => k ρ _ _ (.newTup sr nt (by rw [List.length_append]; exact hl') (h3.append h6))⟩
      · subst e
        have : a = [] := by have := h3.length; simpa using this.symm
        subst this
        exact k ρ H _ (.pure sr ry (fun _ z => by cases z))
      · subst e
        have : b = [] := by have := h6.length; simpa using this.symm
        subst this
        rw [List.append_nil] at k
        exact k ρ H _ (.pure sr rx (fun _ z => by cases z))
    · cases hz
  · split at hz
    · split at hz
      · rename_i h1 h2 hl
        exact lists h1 h2 hl (Option.some.inj hz).symm
      · cases hz
    · cases hz
/-! ### ints -/
def subP (_ : Sto) (x y : PV) : Option PV := match x, y with
  | .int i, .int j => some (.int (i - j))
  | _, _ => none
theorem op_subP : OpR X (binaryOp .Sub) (rP2 g subP) := by
  intro pins s σ H u w v v' Q I ru rw' ⟨ρ, st, x, y, z, sr, rx, ry, hz, k⟩
  unfold subP at hz
  split at hz
  · cases hz
    cases vr_int rx; cases vr_int ry
    exact op_sub pins s σ H _ _ v v' Q I ru rw' ⟨_, _, rfl, rfl, k.int sr⟩
  · cases hz
def modP (_ : Sto) (x y : PV) : Option PV := match x, y with
  | .int i, .int j => if 0 < j then some (.int (i % j)) else none
  | _, _ => none
theorem op_modP : OpR X (binaryOp .Mod) (rP2 g modP) := by
  intro pins s σ H u w v v' Q I ru rw' ⟨ρ, st, x, y, z, sr, rx, ry, hz, k⟩
  unfold modP at hz
  split at hz
  · split at hz
    · rename_i hj
      cases hz
      cases vr_int rx; cases vr_int ry
      exact op_mod pins s σ H _ _ v v' Q I ru rw' ⟨_, _, rfl, rfl, hj, k.int sr⟩
    · cases hz
  · cases hz
def fdivP (_ : Sto) (x y : PV) : Option PV := match x, y with
  | .int i, .int j => if 0 < j ∧ j < 1073741824 then some (.int (i / j)) else none
  | _, _ => none
theorem op_fdivP : OpR X (binaryOp .FloorDiv) (rP2 g fdivP) := by
  intro pins s σ H u w v v' Q I ru rw' ⟨ρ, st, x, y, z, sr, rx, ry, hz, k⟩
  unfold fdivP at hz
  split at hz
  · split at hz
    · rename_i hj
      cases hz
      cases vr_int rx; cases vr_int ry
      exact op_fdiv pins s σ H _ _ v v' Q I ru rw' ⟨_, _, rfl, rfl, hj, k.int sr⟩
    · cases hz
  · cases hz
def powP (_ : Sto) (x y : PV) : Option PV := match x, y with
  | .int i, .int j => if 0 ≤ j ∧ j ≤ 1000 ∧ i.natAbs < 1000 then some (.int (i ^ j.toNat)) else none
  | _, _ => none
theorem op_powP : OpR X (binaryOp .Pow) (rP2 g powP) := by
  intro pins s σ H u w v v' Q I ru rw' ⟨ρ, st, x, y, z, sr, rx, ry, hz, k⟩
  unfold powP at hz
  split at hz
  · split at hz
    · rename_i hj
      cases hz
      cases vr_int rx; cases vr_int ry
      exact op_pow pins s σ H _ _ v v' Q I ru rw' ⟨_, _, rfl, rfl, ⟨hj.1, by omega, by omega⟩, k.int sr⟩
    · cases hz
  · cases hz
def mulP (st : Sto) (x y : PV) : Option PV := match x, y with
  | .int i, .int j => if (-18446744073709551616 < i ∧ i < 18446744073709551616) ∨ (-18446744073709551616 < j ∧ j < 18446744073709551616) then some (.int (i * j)) else none
  | .str x, .int k => if 1 ≤ k ∧ k ≤ 1000 ∧ 1 ≤ x.length ∧ x.length ≤ 1000 then some (.str (strRep x k)) else none
  | .tup xs, .int k => if k = 1 then some (.tup xs) else if xs ≠ [] ∧ 2 ≤ k ∧ k ≤ 1000 ∧ xs.length ≤ 1000 then some (.tup (List.replicate k.toNat xs).flatten) else none
  | x, .int k => match asM st x with
    | some xs => if 0 ≤ k ∧ k ≤ 1000 ∧ xs.length ≤ 1000 then some (.tl (List.replicate k.toNat xs).flatten) else none
    | none => none
  | _, _ => none
theorem flat_len {α : Type} (xs : List α) : ∀ n : Nat, (List.replicate n xs).flatten.length = n * xs.length
  | 0 => by simp
  | n + 1 => by rw [List.replicate_succ, List.flatten_cons, List.length_append, flat_len xs n, Nat.succ_mul, Nat.add_comm]
theorem rep_len {n m : Nat} (h1 : n ≤ 1000) (h2 : m ≤ 1000) : n * m ≤ sizeLine := by
  rw [sizeLine_eq]
  exact Nat.le_trans (Nat.mul_le_mul h1 h2) (by decide)
theorem op_mulP (hK : g.K = X.K) : OpR X (binaryOp .Mult) (rP2 g mulP) := by
  intro pins s σ H u w v v' Q I ru rw' ⟨ρ, st, x, y, z, sr, rx, ry, hz, k⟩
  unfold mulP at hz
  split at hz
  · split at hz
    · rename_i hj
      cases hz
      cases vr_int rx; cases vr_int ry
      exact op_mul pins s σ H _ _ v v' Q I ru rw' ⟨_, _, rfl, rfl, by unfold CMul; omega, k.int sr⟩
    · cases hz
  · split at hz
    · rename_i hj
      cases hz
      cases vr_str rx; cases vr_int ry
      exact op_mulStr pins s σ H _ _ v v' Q I ru rw' ⟨_, _, rfl, rfl, hj.1, hj.2.1, hj.2.2.1, hj.2.2.2, k.str sr⟩
    · cases hz
  · rename_i xs kk
    split at hz
    · rename_i hj
      cases hz
      cases vr_int ry
      obtain ⟨p, vs, rfl, h1, h2, h3⟩ := asT_ok (g := g) (xs := xs) rx rfl
      subst hj
      exact op_repT1 pins s σ H _ _ v v' Q I ru rw' ⟨p, vs, rfl, rfl, hK ▸ h1, k ρ H _ (.pure sr rx (fun _ z => by cases z))⟩
    split at hz
    · rename_i hj
      cases hz
      cases vr_int ry
      obtain ⟨p, vs, rfl, h1, h2, h3⟩ := asT_ok (g := g) (xs := xs) rx rfl
      obtain ⟨j1, j2, j3, j4⟩ := hj
      refine op_repT pins s σ H _ _ v v' Q I ru rw' ⟨p, kk, vs, rfl, rfl, hK ▸ h1, fun e => ?_, j2, j3, by rw [h3.length]; exact j4, fun t nt => k ρ _ _ (.newTup sr nt ?_ (h3.rep _))⟩
      · subst e
        have := h3.length
        exact j1 (by simpa using this.symm)
      · rw [flat_len, h3.length]
        exact rep_len (by omega) j4
    · cases hz
  · rename_i kk _ _ _
    split at hz
    · rename_i xs hx
      split at hz
      · rename_i hj
        cases hz
        cases vr_int ry
        obtain ⟨p, vs, rfl, h1, h2, h3⟩ := asM_ok sr rx hx
        obtain ⟨j1, j2, j4⟩ := hj
        have hz1 : kk.toNat * vs.length ≤ sizeLine := by rw [h3.length]; exact rep_len (by omega) j4
        refine op_rep pins s σ H _ _ v v' Q I ru rw' ⟨p, kk, vs, rfl, rfl, h1, by omega, by omega, by rw [Nat.mul_comm]; exact hz1, fun t nt => k ρ _ _ (.newList sr nt ?_ (h3.rep _))⟩
        rw [flat_len]
        exact hz1
      · cases hz
    · cases hz
  · cases hz
def negP (_ : Sto) : PV → Option PV
  | .int i => some (.int (-i))
  | _ => none
theorem un_negP : UnR X (unaryOp .USub) (rP1 g negP) := by
  intro pins s σ H u v Q I ru ⟨ρ, st, x, z, sr, rx, hz, k⟩
  cases x <;> cases hz
  cases vr_int rx
  exact un_neg pins s σ H _ v Q I ru ⟨_, rfl, k.int sr⟩
/-! ### order of ints -/
def cmpP (f : Int → Int → Bool) (_ : Sto) (x y : PV) : Option PV := match x, y with
  | .int i, .int j => some (.bl (f i j))
  | _, _ => none
theorem op_cmpP {op : CmpOp} {f : Int → Int → Bool} (h : OpR X (compareOp op) (rI0 fun i j => .bl (f i j))) : OpR X (compareOp op) (rP2 g (cmpP f)) := by
  intro pins s σ H u w v v' Q I ru rw' ⟨ρ, st, x, y, z, sr, rx, ry, hz, k⟩
  unfold cmpP at hz
  split at hz
  · cases hz
    cases vr_int rx; cases vr_int ry
    exact h pins s σ H _ _ v v' Q I ru rw' ⟨_, _, rfl, rfl, k.bl sr⟩
  · cases hz
abbrev ltP := cmpP fun i j => decide (i < j)
abbrev leP := cmpP fun i j => decide (i ≤ j)
abbrev gtP := cmpP fun i j => decide (j < i)
abbrev geP := cmpP fun i j => decide (j ≤ i)
/-! ### is None -/
def isN : PV → Bool
  | .non => true
  | _ => false
def isBl (b : Bool) : PV → Bool
  | .bl c => c == b
  | _ => false
def isNP (_ : Sto) (x y : PV) : Option PV := if isN y then some (.bl (isN x)) else match y with
  | .bl b => some (.bl (isBl b x))
  | _ => none
def isntNP (_ : Sto) (x y : PV) : Option PV := if isN y then some (.bl (!isN x)) else match y with
  | .bl b => some (.bl (!isBl b x))
  | _ => none
theorem vr_isN {ρ : Lo} {H : Hp} {x : PV} {u : V} (r : VR g.K ρ H x u) : isN x = decide (u = .non) := by
  cases x <;> unfold VR at r
  case non => subst r; rfl
  case bl | int | str | ty => subst r; rfl
  case tup | ro | fl | tl => obtain ⟨a, vs, rfl, _⟩ := r; rfl
  case loc => obtain ⟨a, _, rfl⟩ := r; rfl
  case lam => obtain ⟨rfl, _⟩ := r; rfl
theorem vr_isBl {ρ : Lo} {H : Hp} {x : PV} {u : V} {v : Value} {b : Bool} (r : VR g.K ρ H x u) (rv : RelV u v) : plainIs v (.bool b) = true ∧ (v == Value.bool b) = isBl b x := by
  cases x <;> unfold VR at r
  case non => subst r; cases rv; exact ⟨rfl, rfl⟩
  case bl c =>
    subst r
    cases rv
    refine ⟨rfl, ?_⟩
    show (Value.bool c == Value.bool b) = (c == b)
    cases c <;> cases b <;> rfl
  case int => subst r; obtain ⟨t, rfl⟩ := rv; exact ⟨rfl, rfl⟩
  case str => subst r; obtain ⟨t, rfl⟩ := rv; exact ⟨rfl, rfl⟩
  case ty => subst r; cases rv; exact ⟨rfl, rfl⟩
  case tup | ro | fl | tl => obtain ⟨a, vs, rfl, _⟩ := r; cases rv; exact ⟨rfl, rfl⟩
  case loc => obtain ⟨a, _, rfl⟩ := r; cases rv; exact ⟨rfl, rfl⟩
  case lam => obtain ⟨rfl, _⟩ := r; cases rv; exact ⟨rfl, rfl⟩
theorem op_isP : OpR X (compareOp .Is) (rP2 g isNP) := by
  intro pins s σ H u w v v' Q I ru rw' ⟨ρ, st, x, y, z, sr, rx, ry, hz, k⟩
  unfold isNP at hz
  rw [vr_isN ry, vr_isN rx] at hz
  split at hz
  · rename_i e
    cases hz
    exact op_isN pins s σ H _ _ v v' Q I ru rw' ⟨of_decide_eq_true e, k.bl sr⟩
  · split at hz
    · cases hz
      have ey := vr_bl ry
      subst ey
      cases rw'
      obtain ⟨h1, h2⟩ := vr_isBl rx ru
      exact wpAny_is_plain h1 (by rw [h2]; exact ⟨.bl _, H, I, rfl, k.bl sr⟩)
    · cases hz
theorem op_isntP : OpR X (compareOp .IsNot) (rP2 g isntNP) := by
  intro pins s σ H u w v v' Q I ru rw' ⟨ρ, st, x, y, z, sr, rx, ry, hz, k⟩
  unfold isntNP at hz
  rw [vr_isN ry, vr_isN rx] at hz
  split at hz
  · rename_i e
    cases hz
    exact op_notN pins s σ H _ _ v v' Q I ru rw' ⟨of_decide_eq_true e, k.bl sr⟩
  · split at hz
    · cases hz
      have ey := vr_bl ry
      subst ey
      cases rw'
      obtain ⟨h1, h2⟩ := vr_isBl rx ru
      exact wpAny_isNot_plain h1 (by rw [h2]; exact ⟨.bl _, H, I, rfl, k.bl sr⟩)
    · cases hz
/-! ### data: ==, in, repr -/
mutual
def pd0 : PV → Option PyData
  | .non => some .none
  | .bl b => some (.bool b)
  | .int i => some (.int i)
  | .str x => some (.str x)
  | .tup xs => (pds0 xs).map .tuple
  | .fl xs => (pds0 xs).map .list
  | .tl xs => (pds0 xs).map .list
  | .ro xs => (pds0 xs).map .list
  | .loc _ => none
  | .ty _ => none
  | .lam _ _ _ _ _ => none
def pds0 : List PV → Option (List PyData)
  | [] => some []
  | x :: xs => match pd0 x, pds0 xs with
    | some d, some ds => some (d :: ds)
    | _, _ => none
end
def pd (st : Sto) (x : PV) : Option PyData := match asL st x with
  | some xs => (pds0 xs).map .list
  | none => pd0 x
mutual
theorem pd0_ok {ρ : Lo} {H : Hp} : ∀ {x : PV} {u : V} {d : PyData}, VR g.K ρ H x u → pd0 x = some d → Dp g.K H u d
  | .non, u, d, r, h => by unfold VR at r; unfold pd0 at h; subst r; cases h; exact .non
  | .bl b, u, d, r, h => by unfold VR at r; unfold pd0 at h; subst r; cases h; exact .bl b
  | .int b, u, d, r, h => by unfold VR at r; unfold pd0 at h; subst r; cases h; exact .int b
  | .str b, u, d, r, h => by unfold VR at r; unfold pd0 at h; subst r; cases h; exact .str b
  | .tup xs, u, d, r, h => by
    unfold VR at r
    unfold pd0 at h
    obtain ⟨a, vs, rfl, h1, h2, h3⟩ := r
    obtain ⟨ds, h4, rfl⟩ := Option.map_eq_some_iff.mp h
    exact .tup h1 (pds0_ok h3 h4)
  | .fl xs, u, d, r, h => by
    unfold VR at r
    unfold pd0 at h
    obtain ⟨a, vs, rfl, _, h1, h2, h3⟩ := r
    obtain ⟨ds, h4, rfl⟩ := Option.map_eq_some_iff.mp h
    exact .lst (.of h1) (pds0_ok h3 h4)
  | .tl xs, u, d, r, h => by
    unfold VR at r
    unfold pd0 at h
    obtain ⟨a, vs, rfl, _, h1, h2, h3⟩ := r
    obtain ⟨ds, h4, rfl⟩ := Option.map_eq_some_iff.mp h
    exact .lst (.of h1) (pds0_ok h3 h4)
  | .ro xs, u, d, r, h => by
    unfold VR at r
    unfold pd0 at h
    obtain ⟨a, vs, rfl, h1, h2, h3⟩ := r
    obtain ⟨ds, h4, rfl⟩ := Option.map_eq_some_iff.mp h
    refine .lst ?_ (pds0_ok h3 h4)
    rcases h1 with ⟨o, h1⟩ | h1
    · exact .inl (.inr ⟨o, h1⟩)
    · exact h1 H
  | .loc _, u, d, r, h => by unfold pd0 at h; cases h
  | .ty _, u, d, r, h => by unfold pd0 at h; cases h
theorem pds0_ok {ρ : Lo} {H : Hp} : ∀ {xs : List PV} {us : List V} {ds : List PyData}, VRs g.K ρ H xs us → pds0 xs = some ds → DpAll g.K H us ds
  | [], us, ds, r, h => by unfold VRs at r; unfold pds0 at h; subst r; cases h; exact .nil
  | x :: xs, us, ds, r, h => by
    unfold VRs at r
    unfold pds0 at h
    obtain ⟨v, vs, rfl, h1, h2⟩ := r
    split at h
    · rename_i e1 e2
      cases h
      exact .cons (pd0_ok h1 e1) (pds0_ok h2 e2)
    · cases h
end
theorem pd_ok {ρ : Lo} {H : Hp} {st : Sto} {x : PV} {u : V} {d : PyData} (s : SR g.K g.T ρ H st) (r : VR g.K ρ H x u) (h : pd st x = some d) : Dp g.K H u d := by
  unfold pd at h
  split at h
  · rename_i xs e
    obtain ⟨a, vs, rfl, h1, h2, h3⟩ := asL_ok s r e
    obtain ⟨ds, h4, rfl⟩ := Option.map_eq_some_iff.mp h
    exact .lst h1 (pds0_ok h3 h4)
  · exact pd0_ok r h
def eqP (neg : Bool) (st : Sto) (x y : PV) : Option PV := match pd st x, pd st y with
  | some d, some e => if SeqAt.shaped d = true ∧ SeqAt.shaped e = true then some (.bl (PyData.eqv d e != neg)) else none
  | _, _ => none
theorem op_eqP (hK : g.K = X.K) (hu : X.A.units + 64 < cLine) : OpR X (compareOp .Eq) (rP2 g (eqP false)) := by
  intro pins s σ H u w v v' Q I ru rw' ⟨ρ, st, x, y, z, sr, rx, ry, hz, k⟩
  unfold eqP at hz
  split at hz
  · rename_i d e h1 h2
    split at hz
    · rename_i hs
      cases hz
      rw [Bool.bne_false] at k
      exact op_eqD hu pins s σ H _ _ v v' Q I ru rw' ⟨d, e, hK ▸ pd_ok sr rx h1, hK ▸ pd_ok sr ry h2, hs.1, hs.2, k.bl sr⟩
    · cases hz
  · cases hz
theorem op_neP (hK : g.K = X.K) (hu : X.A.units + 64 < cLine) : OpR X (compareOp .NotEq) (rP2 g (eqP true)) := by
  intro pins s σ H u w v v' Q I ru rw' ⟨ρ, st, x, y, z, sr, rx, ry, hz, k⟩
  unfold eqP at hz
  split at hz
  · rename_i d e h1 h2
    split at hz
    · rename_i hs
      cases hz
      rw [Bool.bne_true] at k
      exact op_neD hu pins s σ H _ _ v v' Q I ru rw' ⟨d, e, hK ▸ pd_ok sr rx h1, hK ▸ pd_ok sr ry h2, hs.1, hs.2, k.bl sr⟩
    · cases hz
  · cases hz
/-- in: the items of a list or tuple are data -/
def inP (neg : Bool) (st : Sto) (x y : PV) : Option PV := match pd st x, asS st y with
  | some d, some ys => match pds0 ys with
    | some ds => if SeqAt.shaped d = true ∧ PyData.canLayAll0 ds = true then some (.bl ((ds.any fun z => PyData.eqv z d) != neg)) else none
    | none => none
  | _, _ => none
theorem room_min {n : Nat} {d : PyData} (h : SeqAt.shaped d = true) (hu : X.A.units + 65 < cLine) : X.A.units + 1 + min n d.depth < cLine := by
  have h1 := SeqAt.depth_of_shaped h
  have h2 : min n d.depth ≤ d.depth := Nat.min_le_right _ _
  omega
theorem op_inP (hK : g.K = X.K) (hu : X.A.units + 65 < cLine) : OpR X (compareOp .In) (rP2 g (inP false)) := by
  intro pins s σ H u w v v' Q I ru rw' ⟨ρ, st, x, y, z, sr, rx, ry, hz, k⟩
  unfold inP at hz
  split at hz
  · rename_i d ys h1 h2
    split at hz
    · rename_i ds h3
      split at hz
      · rename_i hs
        cases hz
        rw [Bool.bne_false] at k
        obtain ⟨a, vs, rfl, h4, h5, h6⟩ := asS_ok sr ry h2
        obtain ⟨bs, r1⟩ := Dp.reads I d u v (hK ▸ pd_ok sr rx h1) ru
        rcases h4 with h4 | h4
        · obtain ⟨as, r2⟩ := Dp.reads I (.list ds) (.ref a) v' (.lst (hK ▸ h4) (hK ▸ pds0_ok h6 h3)) rw'
          exact SeqAt.in_list_reads r2 r1 hs.2 (SeqAt.canLay_of_shaped hs.1) (room_min hs.1 hu) ⟨.bl _, H, I, rfl, k.bl sr⟩
        · obtain ⟨as, r2⟩ := Dp.reads I (.tuple ds) (.ref a) v' (.tup (hK ▸ h4) (hK ▸ pds0_ok h6 h3)) rw'
          exact SeqAt.in_tuple_reads r2 r1 hs.2 (SeqAt.canLay_of_shaped hs.1) (room_min hs.1 hu) ⟨.bl _, H, I, rfl, k.bl sr⟩
      · cases hz
    · cases hz
  · cases hz
theorem op_notInP (hK : g.K = X.K) (hu : X.A.units + 65 < cLine) : OpR X (compareOp .NotIn) (rP2 g (inP true)) := by
  intro pins s σ H u w v v' Q I ru rw' ⟨ρ, st, x, y, z, sr, rx, ry, hz, k⟩
  unfold inP at hz
  split at hz
  · rename_i d ys h1 h2
    split at hz
    · rename_i ds h3
      split at hz
      · rename_i hs
        cases hz
        rw [Bool.bne_true] at k
        obtain ⟨a, vs, rfl, h4, h5, h6⟩ := asS_ok sr ry h2
        obtain ⟨bs, r1⟩ := Dp.reads I d u v (hK ▸ pd_ok sr rx h1) ru
        rcases h4 with h4 | h4
        · obtain ⟨as, r2⟩ := Dp.reads I (.list ds) (.ref a) v' (.lst (hK ▸ h4) (hK ▸ pds0_ok h6 h3)) rw'
          exact SeqAt.notIn_list_reads r2 r1 hs.2 (SeqAt.canLay_of_shaped hs.1) (room_min hs.1 hu) ⟨.bl _, H, I, rfl, k.bl sr⟩
        · obtain ⟨as, r2⟩ := Dp.reads I (.tuple ds) (.ref a) v' (.tup (hK ▸ h4) (hK ▸ pds0_ok h6 h3)) rw'
          exact SeqAt.notIn_tuple_reads r2 r1 hs.2 (SeqAt.canLay_of_shaped hs.1) (room_min hs.1 hu) ⟨.bl _, H, I, rfl, k.bl sr⟩
      · cases hz
    · cases hz
  · cases hz
/-! ### an item, a slice -/
def ixP (st : Sto) (x y : PV) : Option PV := match y with
  | .int i => match x with
    | .str z => if z.length ≤ 16777216 then (atI z.cps.toList i).map fun c => .str ⟨#[c]⟩ else none
    | x => match asS st x with
      | some xs => (atI xs i).map frz
      | none => none
  | _ => none
theorem VRs.atI {ρ : Lo} {H : Hp} {xs : List PV} {vs : List V} {i : Int} {x : PV} (h : VRs g.K ρ H xs vs) (e : atI xs i = some x) : ∃ v, L2.atI vs i = some v ∧ VR g.K ρ H x v := by
  unfold L2.atI at e ⊢
  rw [h.length]
  cases q : ixN xs.length i with
  | none => rw [q] at e; cases e
  | some j =>
    rw [q] at e
    exact h.get (i := j) e
theorem ix_P (hK : g.K = X.K) : IxR X (rP2 g ixP) := by
  intro val slc pins s σ H u w v v' Q I ru rw' ⟨ρ, st, x, y, z, sr, rx, ry, hz, k⟩ hs
  unfold ixP at hz
  split at hz
  · cases vr_int ry
    split at hz
    · split at hz
      · rename_i hl
        obtain ⟨c, hc, rfl⟩ := Option.map_eq_some_iff.mp hz
        cases vr_str rx
        exact ix_str val slc pins s σ H _ _ v v' Q I ru rw' ⟨_, _, _, rfl, rfl, by rw [sizeLine_eq]; exact hl, hc, k.str sr⟩ hs
      · cases hz
    · split at hz
      · rename_i xs hx
        obtain ⟨p, hp, rfl⟩ := Option.map_eq_some_iff.mp hz
        obtain ⟨a, vs, rfl, h1, h2, h3⟩ := asS_ok sr rx hx
        obtain ⟨t, ht, rt⟩ := h3.atI hp
        have kk := k ρ H t (.pure sr rt.frz (fun xs z => by cases p <;> cases z))
        rcases h1 with h1 | h1
        · exact ix_list val slc pins s σ H _ _ v v' Q I ru rw' ⟨a, vs, _, t, rfl, rfl, hK ▸ h1, ht, kk⟩ hs
        · exact ix_tup val slc pins s σ H _ _ v v' Q I ru rw' ⟨a, vs, _, t, rfl, rfl, hK ▸ h1, ht, kk⟩ hs
      · cases hz
  · cases hz
abbrev DO := En → Sto → R (Option Int)
def okO (g : G) (Q : Option Int → Hp → Prop) (ρ : Lo) (H : Hp) (b : Option Int) (st' : Sto) : Prop := ∀ ρ' H', Ext ρ H ρ' H' → SR g.K g.T ρ' H' st' → Q b H'
theorem okO.mono {Q : Option Int → Hp → Prop} : Mono (okO g Q) := fun _ _ _ _ _ _ e h ρ' H' x => h ρ' H' (e.trans x)
def tDO (g : G) (W : WX) (d : DO) : TO := fun σ H Q => ∃ ρ env st, SR g.K g.T ρ H st ∧ ER g.K ρ H env σ ∧ RP (d env st) (okO g Q ρ H) (xP g W σ ρ H)
def dNoPart : DO := fun _ st => .ok none st
def asI : PV → Option (Option Int)
  | .int i => some (some i)
  | _ => none
def dPart (d : D) : DO := fun env st => (d env st).bind fun x st1 => ofO st1 (asI x)
theorem do_none {W : WX} : PO X none (tDO g W dNoPart) := ⟨fun pins s σ H Q I ⟨ρ, env, st, sr, e, h⟩ => po_none.run pins s σ H Q I (h ρ H (.refl _ _) sr)⟩
theorem do_some {W : WX} {e : Expr} {d : D} (h : PE X e (tD g W d)) : PO X (some e) (tDO g W (dPart d)) := ⟨fun pins s σ H Q I ⟨ρ, env, st, sr, e, hq⟩ => (po_some h).run pins s σ H Q I
  (tD_of okO.mono sr e hq fun ρ1 H1 x st1 u P1 h1 => by
    obtain ⟨z, hz, k⟩ := ofO_ok h1
    cases x <;> cases hz
    exact ⟨_, vr_int P1.vr, k ρ1 H1 (.refl _ _) P1.sr⟩)⟩
theorem tDO_of {W : WX} {σ : L2.St} {ρ : Lo} {H : Hp} {env : En} {st : Sto} {α : Type} {ok : Lo → Hp → α → Sto → Prop} {da : DO} {k : Option Int → Sto → R α} (m : Mono ok) (s : SR g.K g.T ρ H st) (e : ER g.K ρ H env σ)
    (h : RP ((da env st).bind k) (ok ρ H) (xP g W σ ρ H)) {rest : Option Int → Hp → Prop} (hr : ∀ ρ1 H1 b st1, Ext ρ H ρ1 H1 → SR g.K g.T ρ1 H1 st1 → RP (k b st1) (ok ρ1 H1) (xP g W σ ρ1 H1) → rest b H1) : tDO g W da σ H rest := by
  refine ⟨ρ, env, st, s, e, ?_⟩
  cases q : da env st with
  | ok v st1 =>
    rw [q] at h
    exact fun ρ1 H1 x y => hr ρ1 H1 v st1 x y (RP.mono m x h)
  | ex c w st1 => rw [q] at h; exact h
  | bad => rw [q] at h; exact h
def cutP (xs : List PV) (lo hi : Option Int) : List PV := (xs.drop (HT.sIx xs.length 0 lo)).take (HT.sIx xs.length xs.length hi - HT.sIx xs.length 0 lo)
def slP (st : Sto) (lo hi : Option Int) : PV → Option PV
  | .tup xs => some (.tup (cutP xs lo hi))
  | .str z => if z.length ≤ 16777216 then some (.str (cutS z lo hi)) else none
  | x => match asL st x with
    | some xs => some (.tl (cutP xs lo hi))
    | none => none
def dSl (a : D) (lo hi : DO) : D := fun env st => (a env st).bind fun x st1 => (lo env st1).bind fun l st2 => (hi env st2).bind fun u st3 => ofO st3 (slP st3 l u x)
theorem VRs.cut {ρ : Lo} {H : Hp} {xs : List PV} {vs : List V} {lo hi : Option Int} (h : VRs g.K ρ H xs vs) : VRs g.K ρ H (cutP xs lo hi) (cutV vs lo hi) := by
  unfold cutP cutV
  rw [h.length]
  exact (h.drop _).take _
def rSlP (g : G) : V → Option Int → Option Int → Hp → VK → Prop := fun u lo hi H Q => ∃ ρ st x z, SR g.K g.T ρ H st ∧ VR g.K ρ H x u ∧ slP st lo hi x = some z ∧ okE g Q ρ H z st
theorem sl_P (hK : g.K = X.K) : SlR X (rSlP g) := by
  intro pins s σ H u v vl vu lo hi sl Q I ru hs pl pu ⟨ρ, st, x, z, sr, rx, hz, k⟩
  have lists : ∀ {xs : List PV}, asL st x = some xs → z = .tl (cutP xs lo hi) → rSlL X.K u lo hi H Q := by
    rintro xs hx rfl
    obtain ⟨a, vs, rfl, h1, h2, h3⟩ := asL_ok sr rx hx
    exact ⟨a, vs, rfl, hK ▸ h1, fun p np => k ρ _ _ (.newList sr np (Nat.le_trans (cutV_length _ _ _) h2) h3.cut)⟩
  unfold slP at hz
  split at hz
  · rename_i xs
    cases hz
    obtain ⟨a, vs, rfl, h1, h2, h3⟩ := asT_ok (g := g) (xs := xs) rx rfl
    refine sl_tupA pins s σ H _ v vl vu lo hi sl Q I ru hs pl pu ⟨a, vs, rfl, hK ▸ h1, fun e => ?_, fun _ p np => k ρ _ _ (.newTup sr np (Nat.le_trans (cutV_length _ _ _) h2) h3.cut)⟩
    have e2 : cutP xs lo hi = xs := by
      unfold cutP
      rw [← h3.length, e.1, e.2]
      simp [h3.length]
    rw [e2] at k
    exact k ρ H _ (.pure sr rx (fun _ z => by cases z))
  · split at hz
    · rename_i hl
      cases hz
      cases vr_str rx
      exact sl_str pins s σ H _ v vl vu lo hi sl Q I ru hs pl pu ⟨_, rfl, by rw [sizeLine_eq]; exact hl, k.str sr⟩
    · cases hz
  · split at hz
    · rename_i xs hx
      exact sl_list pins s σ H _ v vl vu lo hi sl Q I ru hs pl pu (lists hx (Option.some.inj hz).symm)
    · cases hz
theorem de_sl {W : WX} {e : Expr} {lo hi : Option Expr} {d : D} {dl dh : DO} {pos p2 : Pos} (hK : g.K = X.K) (he : PE X e (tD g W d)) (hl : PO X lo (tDO g W dl)) (hu : PO X hi (tDO g W dh)) : PE X (.Subscript e (.Slice lo hi none p2) pos) (tD g W (dSl d dl dh)) :=
  PE.imp (pe_slice (sl_P hK) he hl hu) fun σ H Q ⟨ρ, env, st, s, e, h⟩ => tD_of okE.mono s e h fun ρ1 H1 x st1 u P1 h1 => tDO_of okE.mono P1.sr (e.mono P1.ext) h1 fun ρ2 H2 l st2 x2 s2 h2 => tDO_of okE.mono s2 ((e.mono P1.ext).mono x2) h2 fun ρ3 H3 v st3 x3 s3 h3 => by
    obtain ⟨z, hz, k⟩ := ofO_ok h3
    exact ⟨ρ3, st3, x, z, s3, (P1.vr.mono x2).mono x3, hz, k⟩
end
end Bb
namespace Bb
open PySem L2 PyProof.Rows
section
variable {g : G} {X : Cx} {W : WX}
theorem de_callB {x : Str} {id : String} {p pos : Pos} {e : Expr} {es : List Expr} {f : Sto → List PV → Option PV} {da : DA} (hc : CallR X (.builtin id) (rPN g f)) (hg : Gl X x) (hm : X.mg x = none) (hv : bootBuiltins x = some (.builtin id)) (ha : PA X (e :: es) (tDA g W da)) (hn : x ≠ "__name__") (hdb : (x == ("__debug__" : Str)) = false)
    (he : starEach (e :: es) X.env = (false, eval e X.env) :: starEach es X.env) (hpl : (backTo pos (starEach es X.env)).any (·.1) = false) : PE X (.Call (.Name x p) (e :: es) [] pos) (tD g W (dN f da)) :=
  PE.imp (pe_callB hc hg hm hv ha hn hdb he hpl) fun _ _ _ h => tN_of h
theorem de_callTy {x : Str} {T : String} {p pos : Pos} {e : Expr} {es : List Expr} {f : Sto → List PV → Option PV} {da : DA} (hc : CallR X (.type T) (rPN g f)) (hg : Gl X x) (hm : X.mg x = none) (hv : bootBuiltins x = some (.type T)) (ha : PA X (e :: es) (tDA g W da)) (hn : x ≠ "__name__") (hdb : (x == ("__debug__" : Str)) = false)
    (he : starEach (e :: es) X.env = (false, eval e X.env) :: starEach es X.env) (hpl : (backTo pos (starEach es X.env)).any (·.1) = false) : PE X (.Call (.Name x p) (e :: es) [] pos) (tD g W (dN f da)) :=
  PE.imp (pe_callTy hc hg hm hv ha hn hdb he hpl) fun _ _ _ h => tN_of h
/-! ### built-ins -/
theorem vrs1 {ρ : Lo} {H : Hp} {x : PV} {us : List V} (h : VRs g.K ρ H [x] us) : ∃ u, us = [u] ∧ VR g.K ρ H x u := by
  unfold VRs at h
  obtain ⟨v, r, rfl, h1, h2⟩ := h
  unfold VRs at h2
  subst h2
  exact ⟨v, rfl, h1⟩
theorem vrs2 {ρ : Lo} {H : Hp} {x y : PV} {us : List V} (h : VRs g.K ρ H [x, y] us) : ∃ u w, us = [u, w] ∧ VR g.K ρ H x u ∧ VR g.K ρ H y w := by
  unfold VRs at h
  obtain ⟨v, r, rfl, h1, h2⟩ := h
  obtain ⟨w, rfl, h3⟩ := vrs1 h2
  exact ⟨v, w, rfl, h1, h3⟩
def lenP (st : Sto) : List PV → Option PV
  | [x] => match x with
    | .str z => if z.length ≤ 16777216 then some (.int z.length) else none
    | x => (asS st x).map fun xs => .int xs.length
  | _ => none
theorem cl_len (hK : g.K = X.K) : CallR X (.builtin "len") (rPN g lenP) := by
  intro pins s σ H us vs Q I r ⟨ρ, st, xs, z, sr, rx0, hz, k⟩
  unfold lenP at hz
  split at hz
  · rename_i x
    obtain ⟨u, rfl, rx⟩ := vrs1 rx0
    split at hz
    · split at hz
      · rename_i hl
        cases hz
        cases vr_str rx
        exact call_len_str pins s σ H _ vs Q I r ⟨_, rfl, by rw [sizeLine_eq]; exact hl, k.int sr⟩
      · cases hz
    · obtain ⟨ys, hy, rfl⟩ := Option.map_eq_some_iff.mp hz
      obtain ⟨a, ws, rfl, h1, h2, h3⟩ := asS_ok sr rx hy
      refine call_len_seq pins s σ H _ vs Q I r ⟨a, ws, rfl, by rw [← hK]; exact h1, ?_⟩
      rw [h3.length]
      exact k.int sr
  · cases hz
def intP (_ : Sto) : List PV → Option PV
  | [.int i] => some (.int i)
  | [.bl b] => some (.int (if b then 1 else 0))
  | _ => none
theorem cl_int : CallR X (.type "int") (rPN g intP) := by
  intro pins s σ H us vs Q I r ⟨ρ, st, xs, z, sr, rx0, hz, k⟩
  unfold intP at hz
  split at hz
  · cases hz
    obtain ⟨u, rfl, rx⟩ := vrs1 rx0
    cases vr_int rx
    exact call_int1 pins s σ H _ vs Q I r (.inl ⟨_, rfl, k.int sr⟩)
  · cases hz
    obtain ⟨u, rfl, rx⟩ := vrs1 rx0
    cases vr_bl rx
    exact call_int1 pins s σ H _ vs Q I r (.inr ⟨_, rfl, k.int sr⟩)
  · cases hz
def max2P (_ : Sto) : List PV → Option PV
  | [.int i, .int j] => some (.int (if j > i then j else i))
  | _ => none
theorem cl_max (hc : X.calm = true) : CallR X (.builtin "max") (rPN g max2P) := by
  intro pins s σ H us vs Q I r ⟨ρ, st, xs, z, sr, rx0, hz, k⟩
  unfold max2P at hz
  split at hz
  · cases hz
    obtain ⟨u, w, rfl, rx, ry⟩ := vrs2 rx0
    cases vr_int rx; cases vr_int ry
    exact call_max2 hc pins s σ H _ vs Q I r ⟨_, _, rfl, k.int sr⟩
  · cases hz
def min2P (_ : Sto) : List PV → Option PV
  | [.int i, .int j] => some (.int (if j < i then j else i))
  | _ => none
theorem cl_min (hc : X.calm = true) : CallR X (.builtin "min") (rPN g min2P) := by
  intro pins s σ H us vs Q I r ⟨ρ, st, xs, z, sr, rx0, hz, k⟩
  unfold min2P at hz
  split at hz
  · cases hz
    obtain ⟨u, w, rfl, rx, ry⟩ := vrs2 rx0
    cases vr_int rx; cases vr_int ry
    exact call_min2 hc pins s σ H _ vs Q I r ⟨_, _, rfl, k.int sr⟩
  · cases hz
/-- isinstance -/
def tyP (st : Sto) : PV → Option String
  | .non => some "NoneType"
  | .bl _ => some "bool"
  | .int _ => some "int"
  | .str _ => some "str"
  | .tup _ => some "tuple"
  | .fl _ => some "list"
  | .tl _ => some "list"
  | .loc n => match st[n]? with
    | some (.lst _) => some "list"
    | _ => none
  | _ => none
def isiB (t T : String) : Option Bool :=
  if T = "int" then some (t == "int" || t == "bool") else if T = "bool" then some (t == "bool") else if T = "tuple" then some (t == "tuple") else if T = "str" then some (t == "str") else if T = "list" then some (t == "list") else none
def isiP (st : Sto) : List PV → Option PV
  | [x, .ty T] => match tyP st x with
    | some t => (isiB t T).map .bl
    | none => none
  | _ => none
theorem isiB_ok {t T : String} {b : Bool} (ht : t = "NoneType" ∨ t = "bool" ∨ t = "int" ∨ t = "str" ∨ t = "tuple" ∨ t = "list") (h : isiB t T = some b) : kitB t T = some b := by
  unfold isiB at h
  split at h
  · subst T; rcases ht with rfl | rfl | rfl | rfl | rfl | rfl <;> (cases h; decide +kernel)
  · split at h
    · subst T; rcases ht with rfl | rfl | rfl | rfl | rfl | rfl <;> (cases h; decide +kernel)
    · split at h
      · subst T; rcases ht with rfl | rfl | rfl | rfl | rfl | rfl <;> (cases h; decide +kernel)
      · split at h
        · subst T; rcases ht with rfl | rfl | rfl | rfl | rfl | rfl <;> (cases h; decide +kernel)
        · split at h
          · subst T; rcases ht with rfl | rfl | rfl | rfl | rfl | rfl <;> (cases h; decide +kernel)
          · cases h
theorem tyP_ok {ρ : Lo} {H : Hp} {st : Sto} {x : PV} {u : V} {t : String} (sr : SR g.K g.T ρ H st) (r : VR g.K ρ H x u) (h : tyP st x = some t) : TyX g.K H u (.type t) ∧ (t = "NoneType" ∨ t = "bool" ∨ t = "int" ∨ t = "str" ∨ t = "tuple" ∨ t = "list") := by
  cases x with
  | non => unfold VR at r; subst r; cases h; exact ⟨.base .non, .inl rfl⟩
  | bl b => unfold VR at r; subst r; cases h; exact ⟨.base (.bl b), .inr (.inl rfl)⟩
  | int b => unfold VR at r; subst r; cases h; exact ⟨.base (.int b), .inr (.inr (.inl rfl))⟩
  | str b => unfold VR at r; subst r; cases h; exact ⟨.base (.str b), .inr (.inr (.inr (.inl rfl)))⟩
  | tup xs =>
    unfold VR at r
    obtain ⟨a, vs, rfl, h1, _⟩ := r
    cases h
    refine ⟨?_, .inr (.inr (.inr (.inr (.inl rfl))))⟩
    rcases h1 with (h1 | ⟨o, h1⟩) | ⟨o, its, n, h1, h2, _⟩
    · exact .base (.tup h1)
    · exact .fTuple h1
    · exact .kTuple h1 h2
  | fl xs =>
    unfold VR at r
    obtain ⟨a, vs, rfl, _, h1, _⟩ := r
    cases h
    exact ⟨.base (.lst h1), .inr (.inr (.inr (.inr (.inr rfl))))⟩
  | tl xs =>
    unfold VR at r
    obtain ⟨a, vs, rfl, _, h1, _⟩ := r
    cases h
    exact ⟨.base (.lst h1), .inr (.inr (.inr (.inr (.inr rfl))))⟩
  | loc n =>
    unfold VR at r
    obtain ⟨a, h1, rfl⟩ := r
    unfold tyP at h
    cases q : st[n]? with
    | none => simp [q] at h
    | some m =>
      cases m with
      | lst ys =>
        simp only [q, Option.some.injEq] at h
        subst h
        obtain ⟨o, z1, vs, rfl, _⟩ := sr.ob n a _ h1 q
        exact ⟨.base (.lst z1), .inr (.inr (.inr (.inr (.inr rfl))))⟩
      | dct _ => simp [q] at h
  | ro xs => cases h
  | ty n => cases h
  | lam f c q _ _ => cases h
theorem cl_isi (hK : g.K = X.K) : CallR X (.builtin "isinstance") (rPN g isiP) := by
  intro pins s σ H us vs Q I r ⟨ρ, st, xs, z, sr, rx0, hz, k⟩
  unfold isiP at hz
  split at hz
  · split at hz
    · rename_i ht
      obtain ⟨b, hb, rfl⟩ := Option.map_eq_some_iff.mp hz
      obtain ⟨u, w, rfl, rx, ry⟩ := vrs2 rx0
      cases vr_ty ry
      obtain ⟨h1, h2⟩ := tyP_ok sr rx ht
      exact call_isi pins s σ H _ vs Q I r ⟨u, _, _, _, b, rfl, .ty _, by rw [← hK]; exact h1, kit_ty (isiB_ok h2 hb), k.bl sr⟩
    · cases hz
  · cases hz
def blsP : List PV → Option (List Bool)
  | [] => some []
  | .bl b :: r => (blsP r).map (b :: ·)
  | _ => none
theorem blsP_ok {ρ : Lo} {H : Hp} : ∀ {xs : List PV} {us : List V} {bs : List Bool}, VRs g.K ρ H xs us → blsP xs = some bs → us = bs.map V.bl
  | [], us, bs, r, h => by unfold VRs at r; cases h; exact r
  | x :: xs, us, bs, r, h => by
    unfold VRs at r
    obtain ⟨v, w, rfl, h1, h2⟩ := r
    cases x with
    | bl b =>
      obtain ⟨cs, h3, rfl⟩ := Option.map_eq_some_iff.mp h
      rw [vr_bl h1, blsP_ok h2 h3]
      rfl
    | _ => cases h
def allP (st : Sto) : List PV → Option PV
  | [x] => match asL st x with
    | some xs => (blsP xs).map fun bs => .bl (bs.all id)
    | none => none
  | _ => none
def anyP (st : Sto) : List PV → Option PV
  | [x] => match asL st x with
    | some xs => (blsP xs).map fun bs => .bl (bs.any id)
    | none => none
  | _ => none
theorem cl_all (hK : g.K = X.K) (hc : X.calm = true) : CallR X (.builtin "all") (rPN g allP) := by
  intro pins s σ H us vs Q I r ⟨ρ, st, xs, z, sr, rx0, hz, k⟩
  unfold allP at hz
  split at hz
  · split at hz
    · rename_i hx
      obtain ⟨bs, hb, rfl⟩ := Option.map_eq_some_iff.mp hz
      obtain ⟨u, rfl, rx⟩ := vrs1 rx0
      obtain ⟨a, ws, rfl, h1, h2, h3⟩ := asL_ok sr rx hx
      have e := blsP_ok h3 hb
      subst e
      exact cr_all hc pins s σ H _ vs Q I r ⟨a, bs, rfl, by rw [← hK]; exact h1, k.bl sr⟩
    · cases hz
  · cases hz
theorem cl_any (hK : g.K = X.K) (hc : X.calm = true) : CallR X (.builtin "any") (rPN g anyP) := by
  intro pins s σ H us vs Q I r ⟨ρ, st, xs, z, sr, rx0, hz, k⟩
  unfold anyP at hz
  split at hz
  · split at hz
    · rename_i hx
      obtain ⟨bs, hb, rfl⟩ := Option.map_eq_some_iff.mp hz
      obtain ⟨u, rfl, rx⟩ := vrs1 rx0
      obtain ⟨a, ws, rfl, h1, h2, h3⟩ := asL_ok sr rx hx
      have e := blsP_ok h3 hb
      subst e
      exact cr_any hc pins s σ H _ vs Q I r ⟨a, bs, rfl, by rw [← hK]; exact h1, k.bl sr⟩
    · cases hz
  · cases hz
/-- tuple(x), list(x) -/
def tupP (st : Sto) : List PV → Option PV
  | [x] => match x with
    | .tup xs => some (.tup xs)
    | x => (asL st x).map .tup
  | _ => none
theorem cl_tup (hK : g.K = X.K) : CallR X (.type "tuple") (rPN g tupP) := by
  intro pins s σ H us vs Q I r ⟨ρ, st, xs, z, sr, rx0, hz, k⟩
  unfold tupP at hz
  split at hz
  · obtain ⟨u, rfl, rx⟩ := vrs1 rx0
    split at hz
    · cases hz
      obtain ⟨a, ws, rfl, h1, h2, h3⟩ := asT_ok (g := g) rx rfl
      exact call_tuple_of pins s σ H _ vs Q I r ⟨a, ws, rfl, .inr ⟨by rw [← hK]; exact h1, k ρ H _ (.pure sr rx (fun _ z => by cases z))⟩⟩
    · obtain ⟨ys, hy, rfl⟩ := Option.map_eq_some_iff.mp hz
      obtain ⟨a, ws, rfl, h1, h2, h3⟩ := asL_ok sr rx hy
      exact call_tuple_of pins s σ H _ vs Q I r ⟨a, ws, rfl, .inl ⟨by rw [← hK]; exact h1, fun l nl => k ρ _ _ (.newTup sr nl h2 h3)⟩⟩
  · cases hz
def lstP (st : Sto) : List PV → Option PV
  | [x] => (asS st x).map .tl
  | _ => none
theorem cl_lst (hK : g.K = X.K) : CallR X (.type "list") (rPN g lstP) := by
  intro pins s σ H us vs Q I r ⟨ρ, st, xs, z, sr, rx0, hz, k⟩
  unfold lstP at hz
  split at hz
  · obtain ⟨u, rfl, rx⟩ := vrs1 rx0
    obtain ⟨ys, hy, rfl⟩ := Option.map_eq_some_iff.mp hz
    obtain ⟨a, ws, rfl, h1, h2, h3⟩ := asS_ok sr rx hy
    exact call_list_of pins s σ H _ vs Q I r ⟨a, ws, rfl, by rw [← hK]; exact h1, fun l nl => k ρ _ _ (.newList sr nl h2 h3)⟩
  · cases hz
/-- sorted(x), a list of ints -/
def intsP : List PV → Option (List Int)
  | [] => some []
  | .int b :: r => (intsP r).map (b :: ·)
  | _ => none
theorem intsP_ok {ρ : Lo} {H : Hp} : ∀ {xs : List PV} {us : List V} {bs : List Int}, VRs g.K ρ H xs us → intsP xs = some bs → us = bs.map V.int
  | [], us, bs, r, h => by unfold VRs at r; cases h; exact r
  | x :: xs, us, bs, r, h => by
    unfold VRs at r
    obtain ⟨v, w, rfl, h1, h2⟩ := r
    cases x with
    | int b =>
      obtain ⟨cs, h3, rfl⟩ := Option.map_eq_some_iff.mp h
      rw [vr_int h1, intsP_ok h2 h3]
      rfl
    | _ => cases h
theorem ints_vrs {ρ : Lo} {H : Hp} : ∀ ns : List Int, VRs g.K ρ H (ns.map PV.int) (ns.map V.int)
  | [] => .nil
  | n :: ns => .cons (int_vr n) (ints_vrs ns)
/-- the one rising arrangement -/
def srt (ns : List Int) : List Int := ns.mergeSort fun a b => decide (a ≤ b)
theorem srt_perm (ns : List Int) : (srt ns).Perm ns := List.mergeSort_perm _ _
theorem srt_sorted (ns : List Int) : (srt ns).Pairwise (· ≤ ·) := by
  have h := List.pairwise_mergeSort (le := fun a b : Int => decide (a ≤ b)) (fun a b c h1 h2 => decide_eq_true (Int.le_trans (of_decide_eq_true h1) (of_decide_eq_true h2))) (fun a b => by
    rcases Int.le_total a b with h | h
    · simp [h]
    · simp [h]) ns
  exact h.imp fun h => of_decide_eq_true h
theorem srt_unique {ns ms : List Int} (h1 : ms.Perm ns) (h2 : ms.Pairwise (· ≤ ·)) : ms = srt ns :=
  (h1.trans (srt_perm ns).symm).eq_of_pairwise (fun a b _ _ x y => Int.le_antisymm x y) h2 (srt_sorted ns)
def srtP (st : Sto) : List PV → Option PV
  | [x] => match asL st x with
    | some xs => (intsP xs).map fun ns => .tl ((srt ns).map .int)
    | none => none
  | _ => none
theorem cl_srt (hK : g.K = X.K) : CallR X (.builtin "sorted") (rPN g srtP) := by
  intro pins s σ H us vs Q I r ⟨ρ, st, xs, z, sr, rx0, hz, k⟩
  unfold srtP at hz
  split at hz
  · split at hz
    · rename_i hx
      obtain ⟨ns, hn, rfl⟩ := Option.map_eq_some_iff.mp hz
      obtain ⟨u, rfl, rx⟩ := vrs1 rx0
      obtain ⟨a, ws, rfl, h1, h2, h3⟩ := asL_ok sr rx hx
      have e := intsP_ok h3 hn
      subst e
      refine cr_sortedI pins s σ H _ vs Q I r ⟨a, ns, rfl, by rw [← hK]; exact h1, fun ms p hp hs np => ?_⟩
      have e2 := srt_unique hp hs
      subst e2
      refine k ρ _ _ (.newList sr np ?_ (ints_vrs _))
      rw [List.length_map] at h2 ⊢
      rw [(srt_perm ns).length_eq]
      exact h2
    · cases hz
  · cases hz
/-- repr(x) of data -/
theorem nodict0 : ∀ {x : PV} {d : PyData}, pd0 x = some d → d.hasDict = false := by
  have key : ∀ n : Nat, (∀ x : PV, sizeOf x < n → ∀ d, pd0 x = some d → d.hasDict = false) ∧ (∀ xs : List PV, sizeOf xs < n → ∀ ds, pds0 xs = some ds → PyData.hasDictAll ds = false) := by
    intro n
    induction n with
    | zero => exact ⟨fun _ h => absurd h (Nat.not_lt_zero _), fun _ h => absurd h (Nat.not_lt_zero _)⟩
    | succ n ih =>
      refine ⟨fun x hx d h => ?_, fun xs hx ds h => ?_⟩
      · cases x with
        | non => unfold pd0 at h; cases h; simp [PyData.hasDict]
        | bl _ => unfold pd0 at h; cases h; simp [PyData.hasDict]
        | int _ => unfold pd0 at h; cases h; simp [PyData.hasDict]
        | str _ => unfold pd0 at h; cases h; simp [PyData.hasDict]
        | loc _ => unfold pd0 at h; cases h
        | ty _ => unfold pd0 at h; cases h
        | lam _ _ _ _ _ => unfold pd0 at h; cases h
        | tup xs | fl xs | tl xs | ro xs =>
          unfold pd0 at h
          obtain ⟨ds, h1, rfl⟩ := Option.map_eq_some_iff.mp h
          have := ih.2 xs (by simp at hx; omega) ds h1
          simp [PyData.hasDict, this]
      · cases xs with
        | nil => unfold pds0 at h; cases h; simp [PyData.hasDictAll]
        | cons x xs =>
          unfold pds0 at h
          split at h
          · rename_i d ds e1 e2
            cases h
            have h1 := ih.1 x (by simp at hx; omega) d e1
            have h2 := ih.2 xs (by simp at hx; omega) ds e2
            simp [PyData.hasDictAll, h1, h2]
          · cases h
  exact fun {x d} h => (key (sizeOf x + 1)).1 x (Nat.lt_succ_self _) d h
theorem nodicts0 : ∀ {xs : List PV} {ds : List PyData}, pds0 xs = some ds → PyData.hasDictAll ds = false
  | [], ds, h => by unfold pds0 at h; cases h; simp [PyData.hasDictAll]
  | x :: xs, ds, h => by
    unfold pds0 at h
    split at h
    · rename_i d ds e1 e2
      cases h
      simp [PyData.hasDictAll, nodict0 e1, nodicts0 e2]
    · cases h
theorem nodict {st : Sto} {x : PV} {d : PyData} (h : pd st x = some d) : d.hasDict = false := by
  unfold pd at h
  split at h
  · obtain ⟨ds, h1, rfl⟩ := Option.map_eq_some_iff.mp h
    simp [PyData.hasDict, nodicts0 h1]
  · exact nodict0 h
def reprP (st : Sto) : List PV → Option PV
  | [x] => match pd st x with
    | some d => if d.showable = true ∧ d.depth ≤ 64 ∧ d.shown.length ≤ 16777216 then some (.str d.shown) else none
    | none => none
  | _ => none
end
end Bb
namespace Bb
open PySem L2 PyProof.Rows
section
variable {g : G} {X : Cx} {W : WX}
theorem Reads.data {h : Heap} {u : Value} {d : PyData} {as : List Addr} (r : Reads h u d as) {prog : Program} {w : World} {A : Around} {E : Value → Shared → Prop} {s : Shared} {Q : Value → Shared → Prop} (e : h = s.heap) (hs : d.showable = true) (hd : d.hasDict = false) (hz : d.shown.length ≤ sizeLine) (hg : A.guards = some []) (hu : A.units + (d.depth + 1) < cLine)
    (k : ∀ h' u tk, (∀ b o, s.heap.get? b = some o → h'.get? b = some o) → Q (.str d.shown u) { s with heap := h', toks := tk }) : wpAny (model prog w) A (call (.builtin "repr") [u]) Q E s := by
  subst e
  have nodict : d.hasDict = true → sysModules ∉ as := fun z => by rw [hd] at z; cases z
  cases r with
  | none =>
    have := k s.heap s.toks (s.toks + 1) fun _ _ e => e
    simp only [PyData.shown] at this
    exact PySem.P.repr_of_none this
  | bool b =>
    have := k s.heap s.toks (s.toks + 1) fun _ _ e => e
    simp only [PyData.shown] at this
    exact PySem.P.repr_of_bool this
  | int i t =>
    have := k s.heap s.toks (s.toks + 1) fun _ _ e => e
    simp only [PyData.shown] at this
    exact PySem.P.repr_of_int (by simpa [PyData.showable] using hs) this
  | str x t =>
    have := k s.heap s.toks (s.toks + 1) fun _ _ e => e
    simp only [PyData.shown] at this hz
    exact PySem.P.repr_of_str this hz
  | list h1 h2 h3 h4 => exact repr_of_reads' (.list h1 h2 h3 h4) hs nodict hg hu (fun _ _ e => e) k hz
  | tuple h1 h2 h3 h4 => exact repr_of_reads' (.tuple h1 h2 h3 h4) hs nodict hg hu (fun _ _ e => e) k hz
  | dict h1 h2 h3 h4 h5 => simp [PyData.hasDict] at hd
theorem cl_repr (hK : g.K = X.K) (hg : X.A.guards = some []) (hu : X.A.units + 66 < cLine) : CallR X (.builtin "repr") (rPN g reprP) := by
  intro pins s σ H us vs Q I r ⟨ρ, st, xs, z, sr, rx0, hz, k⟩
  unfold reprP at hz
  split at hz
  · split at hz
    · rename_i d hd
      split at hz
      · rename_i hq
        cases hz
        obtain ⟨u, rfl, rx⟩ := vrs1 rx0
        obtain ⟨v, rfl, rv⟩ := vals1 r
        obtain ⟨as, r1⟩ := Dp.reads I d u v (hK ▸ pd_ok sr rx hd) rv
        exact Reads.data r1 rfl hq.1 (nodict hd) (by rw [sizeLine_eq]; exact hq.2.2) hg (by have := hq.2.1; omega) fun h' t tk kk => ⟨.str _, H, I.kept kk, ⟨_, rfl⟩, k.str sr⟩
      · cases hz
    · cases hz
  · cases hz
/-! ### a def of the text, called where no repr is under way -/
structure FnG (P : Program) (w : World) (K : PySem.W.Frag) (mg : Str → Option Value) (base : Heap) (k : Nat) (f : Addr) (fd : FuncData) (ps : List Str) (sp : Sp) : Prop where
  len : ∀ vs H Q E, sp vs H Q E → vs.length = ps.length
  run : ∀ (A : Around) (outer : List Env) (s : Shared) (H : Hp) (args : Args) (us : List Value) (vs : List V) (Q : VK) (E : XK), Room k A → A.guards = some [] → Env0 P w K mg base A outer s H →
    BindsTo s fd args (ps.zip us) → Vals vs us → sp vs H Q E → codeAny (model P w) A (.call (.ref f) args) (CR (L2.CX P w) outer P w H s Q E) s
theorem FnG.mono {P : Program} {w : World} {K : PySem.W.Frag} {mg : Str → Option Value} {base : Heap} {j k : Nat} {f : Addr} {fd : FuncData} {ps : List Str} {sp : Sp} (F : FnG P w K mg base j f fd ps sp) (h : j ≤ k) : FnG P w K mg base k f fd ps sp :=
  ⟨F.len, fun A o s H a us vs Q E hr => F.run A o s H a us vs Q E (hr.mono h)⟩
/-- what a def promises: its meaning -/
def spF (g : G) (n : Nat) (d : List PV → Sto → R PV) : Sp := fun vs H Q E => vs.length = n ∧ ∃ ρ st xs, SR g.K g.T ρ H st ∧ VRs g.K ρ H xs vs ∧ RP (d xs st) (okE g Q ρ H) (fun c w st' => ∀ ρ' H' dd, PX g ρ H ρ' H' st' w dd → E (.ref (g.cls c)) (some dd) H')
def dCall (f : List PV → Sto → R PV) (a : DA) : D := fun env st => (a env st).bind fun xs st1 => f xs st1
theorem call_run {k : Nat} {f : Addr} {fd : FuncData} {ps : List Str} {d : List PV → Sto → R PV} (F : FnG X.prog X.w X.K X.mg X.base k f fd ps (spF g ps.length d)) (tk : Takes X W) (hr : Room k X.A) (hgd : X.A.guards = some []) (hb : L2.Binds X.K fd ps [])
    {pins : List (Addr × Obj)} {σ : L2.St} {H : Hp} {s : Shared} {Q : VK} {us : List Value} {vs : List V} (I : L2.Inv X pins σ H s) (r : Vals vs us) (h : spF g ps.length d vs H Q (fun c d H' => W c d σ H')) :
    wpAny (model X.prog X.w) X.A (call (.ref f) us) (EP X pins σ Q) X.xe s := by
  have hl : us.length = ps.length := by rw [← r.length]; exact F.len _ _ _ _ h
  have hbb := hb s us I.kIn (by rw [List.append_nil]; exact hl)
  rw [List.append_nil] at hbb
  refine wpAny_call (codeAny_mono (F.run X.A X.stack s H ⟨us, []⟩ us vs Q _ hr hgd I.env0 hbb r h) fun res s' hq => ?_)
  cases res with
  | error e => exact tk e s' (XE.of_call I (fun cls d H' z => z) hq)
  | ok fl => cases fl with
    | ret u => exact I.after hq
    | next => exact hq.elim
    | brk => exact hq.elim
    | cont => exact hq.elim
theorem spF_of {n : Nat} {d : List PV → Sto → R PV} {da : DA} {σ : L2.St} {ρ : Lo} {H : Hp} {env : En} {st : Sto} {Q : VK} (s : SR g.K g.T ρ H st) (e : ER g.K ρ H env σ) (hn : ∀ env st xs st1, da env st = .ok xs st1 → xs.length = n)
    (h : RP (dCall d da env st) (okE g Q ρ H) (xP g W σ ρ H)) : tDA g W da σ H fun vs H1 => spF g n d vs H1 Q fun c d H' => W c d σ H' := by
  refine ⟨ρ, env, st, s, e, ?_⟩
  cases q : da env st with
  | ok xs st1 =>
    unfold dCall at h
    rw [q] at h
    exact fun ρ1 H1 us x y z => ⟨by rw [z.length]; exact hn _ _ _ _ q, ρ1, st1, xs, y, z, RP.mono okE.mono x h⟩
  | ex c w st1 => unfold dCall at h; rw [q] at h; exact h
  | bad => unfold dCall at h; rw [q] at h; exact h
theorem de_call {k : Nat} {f : Addr} {fd : FuncData} {ps : List Str} {d : List PV → Sto → R PV} {x : Str} {p pos : Pos} {e : Expr} {es : List Expr} {da : DA} (F : FnG X.prog X.w X.K X.mg X.base k f fd ps (spF g ps.length d)) (tk : Takes X W) (hr : Room k X.A) (hgd : X.A.guards = some []) (hg : Gl X x) (hm : X.mg x = some (.ref f))
    (hk : PySem.W.keepIn X.K (.ref f) = true) (hb : L2.Binds X.K fd ps []) (ha : PA X (e :: es) (tDA g W da)) (hn : ∀ env st xs st1, da env st = .ok xs st1 → xs.length = ps.length) (hdb : (x == ("__debug__" : Str)) = false)
    (he : starEach (e :: es) X.env = (false, eval e X.env) :: starEach es X.env) (hpl : (backTo pos (starEach es X.env)).any (·.1) = false) : PE X (.Call (.Name x p) (e :: es) [] pos) (tD g W (dCall d da)) := by
  refine ⟨fun pins s σ H Q I ⟨ρ, env, st, sr, er, h⟩ => ?_⟩
  refine wpAny_Call_Name_kw (ld_glob I hg hm ?_ hdb)
  refine PySem.W.callWith_K (h₀ := X.base) I.ok.mod.kin hk (thn (ha.run pos pins s σ H _ I (spF_of sr er hn h)) fun us s1 ⟨vs, H1, I1, r, q⟩ => ⟨I1.kIn, ?_⟩) he hpl
  exact call_run F tk hr hgd hb I1 r q
/-! ### the entry of a def -/
theorem fn_entry {P : Program} {w : World} {K : PySem.W.Frag} {mg : Str → Option Value} {base : Heap} {x qual : Str} {params : Arguments} {body : List Stmt} {scope : Scope} {f : Addr} {fd : FuncData} {N ps : List Str} {k : Nat} {sp : Sp} (F : FunD K x qual params body scope [] [] f fd) (S : FnScope N ps scope)
    (len : ∀ vs H Q E, sp vs H Q E → vs.length = ps.length)
    (hbody : ∀ (cdv : Value) (A : Around) (outer : List Env) (s : Shared) (H : Hp) (vs : List V) (Q : VK) (E : XK), PySem.W.codeIn K cdv qual = true → fd.code = cdv → Room k (A.deeper (envOfC qual scope s.heap.objs.size f cdv)) → A.guards = some [] → sp vs H Q E →
      ∃ t, PSs (cxOf (L2.CX P w) P w K mg base N qual scope f cdv A outer s H E) body t ∧ t { nx := fun _ H' => Q .non H', rt := Q } (L2.start N vs) H) : FnG P w K mg base (k + 1) f fd ps sp := by
  obtain ⟨oc, od, dV, kV, doc, pm, an, cdv, ct, osl, rfl, lk, hcd, _, _⟩ := F.ex
  refine ⟨len, fun A outer s H args us vs Q E hr hgd e0 hb r hsp => ?_⟩
  exact LamX.run_ofS (N := N) lk hcd S hr e0 hb r (len _ _ _ _ hsp) fun hr' => hbody cdv A outer s H vs Q E hcd rfl hr' hgd hsp
end
end Bb
namespace Bb
open PySem L2 PyProof.Rows
/-! ### statements -/
inductive RS where
  | nx (env : En) (st : Sto) | rt (v : PV) (st : Sto) | bk (env : En) (st : Sto) | ct (env : En) (st : Sto) | ex (c : Str) (w : PV) (env : En) (st : Sto) | bad
abbrev DS := En → Sto → RS
def R.toS {α : Type} (r : R α) (env : En) (k : α → Sto → RS) : RS := match r with
  | .ok a st => k a st
  | .ex c w st => .ex c w env st
  | .bad => .bad
@[simp] theorem R.toS_ok {α : Type} (a : α) (st : Sto) (env : En) (k : α → Sto → RS) : (R.ok a st).toS env k = k a st := rfl
@[simp] theorem R.toS_ex {α : Type} (c : Str) (w : PV) (st : Sto) (env : En) (k : α → Sto → RS) : (R.ex c w st).toS env k = .ex c w env st := rfl
@[simp] theorem R.toS_bad {α : Type} (env : En) (k : α → Sto → RS) : (R.bad : R α).toS env k = .bad := rfl
def okN (g : G) (N : L2.St → Hp → Prop) (ρ : Lo) (H : Hp) (env : En) (st : Sto) : Prop := ∀ ρ' σ' H', Ext ρ H ρ' H' → SR g.K g.T ρ' H' st → ER g.K ρ' H' env σ' → N σ' H'
def okX (g : G) (W : WX) (ρ : Lo) (H : Hp) (c : Str) (w : PV) (env : En) (st : Sto) : Prop := ∀ ρ' σ' H' d, PX g ρ H ρ' H' st w d → ER g.K ρ' H' env σ' → W (.ref (g.cls c)) (some d) σ' H'
def SRP (g : G) (W : WX) (F : Ends) (ρ : Lo) (H : Hp) (r : RS) : Prop := match r with
  | .nx env st => okN g F.nx ρ H env st
  | .bk env st => okN g F.bk ρ H env st
  | .ct env st => okN g F.ct ρ H env st
  | .rt v st => okE g F.rt ρ H v st
  | .ex c w env st => okX g W ρ H c w env st
  | .bad => False
def tS (g : G) (W : WX) (d : DS) : TS := fun D σ H => ∃ ρ env st, SR g.K g.T ρ H st ∧ ER g.K ρ H env σ ∧ SRP g W D ρ H (d env st)
section
variable {g : G} {W : WX} {X : Cx} {F : Ends} {σ : L2.St} {ρ ρ1 : Lo} {H H1 : Hp} {env : En} {st : Sto} {pos : Pos}
theorem SRP.mono (e : Ext ρ H ρ1 H1) {r : RS} (h : SRP g W F ρ H r) : SRP g W F ρ1 H1 r := by
  cases r with
  | nx env st => exact fun ρ' σ' H' x => h ρ' σ' H' (e.trans x)
  | bk env st => exact fun ρ' σ' H' x => h ρ' σ' H' (e.trans x)
  | ct env st => exact fun ρ' σ' H' x => h ρ' σ' H' (e.trans x)
  | rt v st => exact fun ρ' H' u x => h ρ' H' u (x.trans e)
  | ex c w env st => exact fun ρ' σ' H' d x => h ρ' σ' H' d (x.trans e)
  | bad => exact h
/-- an expression ahead of the rest of a statement -/
theorem tD_toS {da : D} {k : PV → Sto → RS} (s : SR g.K g.T ρ H st) (e : ER g.K ρ H env σ) (h : SRP g W F ρ H ((da env st).toS env k)) {rest : VK}
    (hr : ∀ ρ1 H1 v st1 u, Post g.K g.T ρ H ρ1 H1 st1 v u → SRP g W F ρ1 H1 (k v st1) → rest u H1) : tD g W da σ H rest := by
  refine ⟨ρ, env, st, s, e, ?_⟩
  cases q : da env st with
  | ok v st1 => rw [q] at h; exact fun ρ1 H1 u P => hr ρ1 H1 v st1 u P (SRP.mono P.ext h)
  | ex c w st1 => rw [q] at h; exact fun ρ' H' d x => h ρ' σ H' d x (e.mono x.ext)
  | bad => rw [q] at h; exact h
theorem tDA_toS {da : DA} {k : List PV → Sto → RS} (s : SR g.K g.T ρ H st) (e : ER g.K ρ H env σ) (h : SRP g W F ρ H ((da env st).toS env k)) {rest : List V → Hp → Prop}
    (hr : ∀ ρ1 H1 v st1 u, Ext ρ H ρ1 H1 → SR g.K g.T ρ1 H1 st1 → VRs g.K ρ1 H1 v u → SRP g W F ρ1 H1 (k v st1) → rest u H1) : tDA g W da σ H rest := by
  refine ⟨ρ, env, st, s, e, ?_⟩
  cases q : da env st with
  | ok v st1 => rw [q] at h; exact fun ρ1 H1 u x y z => hr ρ1 H1 v st1 u x y z (SRP.mono x h)
  | ex c w st1 => rw [q] at h; exact fun ρ' H' d x => h ρ' σ H' d x (e.mono x.ext)
  | bad => rw [q] at h; exact h
theorem tDT_toS {da : DT} {k : Bool → Sto → RS} (s : SR g.K g.T ρ H st) (e : ER g.K ρ H env σ) (h : SRP g W F ρ H ((da env st).toS env k)) {rest : Bool → Hp → Prop}
    (hr : ∀ ρ1 H1 b st1, Ext ρ H ρ1 H1 → SR g.K g.T ρ1 H1 st1 → SRP g W F ρ1 H1 (k b st1) → rest b H1) : tDT g W da σ H rest := by
  refine ⟨ρ, env, st, s, e, ?_⟩
  cases q : da env st with
  | ok v st1 => rw [q] at h; exact fun ρ1 H1 x y => hr ρ1 H1 v st1 x y (SRP.mono x h)
  | ex c w st1 => rw [q] at h; exact fun ρ' H' d x => h ρ' σ H' d x (e.mono x.ext)
  | bad => rw [q] at h; exact h
/-! ### blocks -/
def sNil : DS := fun env st => .nx env st
def sCons (a r : DS) : DS := fun env st => match a env st with
  | .nx env1 st1 => r env1 st1
  | x => x
theorem ds_nil : PSs X [] (tS g W sNil) := PSs.imp pss_nil fun F σ H ⟨ρ, env, st, s, e, h⟩ => h ρ σ H (.refl _ _) s e
theorem ds_cons {a : Stmt} {r : List Stmt} {da dr : DS} (ha : PS X a (tS g W da)) (hr : PSs X r (tS g W dr)) : PSs X (a :: r) (tS g W (sCons da dr)) :=
  PSs.imp (pss_cons ha hr) fun F σ H ⟨ρ, env, st, s, e, h⟩ => by
    refine ⟨ρ, env, st, s, e, ?_⟩
    unfold sCons at h
    cases q : da env st with
    | nx env1 st1 => rw [q] at h; exact fun ρ' σ' H' x s' e' => ⟨ρ', env1, st1, s', e', SRP.mono x h⟩
    | bk env1 st1 => rw [q] at h; exact h
    | ct env1 st1 => rw [q] at h; exact h
    | rt v st1 => rw [q] at h; exact h
    | ex c w env1 st1 => rw [q] at h; exact h
    | bad => rw [q] at h; exact h
/-! ### small statements -/
def sPass : DS := fun env st => .nx env st
theorem ds_pass : PS X (.Pass pos) (tS g W sPass) := PS.imp ps_pass fun F σ H ⟨ρ, env, st, s, e, h⟩ => h ρ σ H (.refl _ _) s e
theorem ds_break : PS X (.Break pos) (tS g W fun env st => .bk env st) := PS.imp ps_break fun F σ H ⟨ρ, env, st, s, e, h⟩ => h ρ σ H (.refl _ _) s e
theorem ds_continue : PS X (.Continue pos) (tS g W fun env st => .ct env st) := PS.imp ps_continue fun F σ H ⟨ρ, env, st, s, e, h⟩ => h ρ σ H (.refl _ _) s e
def sExpr (d : D) : DS := fun env st => (d env st).toS env fun _ st1 => .nx env st1
theorem ds_expr {e : Expr} {d : D} (he : PE X e (tD g W d)) (hs : swapsWith e none pos.line X.env = pure false) : PS X (.Expr e pos) (tS g W (sExpr d)) :=
  PS.imp (ps_expr he hs) fun F σ H ⟨ρ, env, st, s, e, h⟩ => tD_toS s e h fun ρ1 H1 v st1 u P h1 => h1 ρ1 σ H1 (.refl _ _) P.sr (e.mono P.ext)
def sRet (d : D) : DS := fun env st => (d env st).toS env fun v st1 => .rt v st1
theorem ds_ret {e : Expr} {d : D} (he : PE X e (tD g W d)) : PS X (.Return (some e) pos) (tS g W (sRet d)) :=
  PS.imp (ps_ret he) fun F σ H ⟨ρ, env, st, s, e, h⟩ => by
    show tD g W d σ H F.rt
    refine ⟨ρ, env, st, s, e, ?_⟩
    unfold sRet at h
    cases q : d env st with
    | ok v st1 => rw [q] at h; exact h
    | ex c w st1 => rw [q] at h; exact fun ρ' H' d x => h ρ' σ H' d x (e.mono x.ext)
    | bad => rw [q] at h; exact h
theorem ds_retN : PS X (.Return none pos) (tS g W fun _ st => .rt .non st) := PS.imp ps_retN fun F σ H ⟨ρ, env, st, s, e, h⟩ => h ρ H _ (.pure s non_vr (fun _ z => by cases z))
def sIf (c : DT) (a b : DS) : DS := fun env st => (c env st).toS env fun t st1 => if t = true then a env st1 else b env st1
theorem ds_if {c : Expr} {a b : List Stmt} {dc : DT} {da db : DS} (hc : PT X c (tDT g W dc)) (ha : PSs X a (tS g W da)) (hb : PSs X b (tS g W db)) : PS X (.If c a b pos) (tS g W (sIf dc da db)) :=
  PS.imp (ps_if hc ha hb) fun F σ H ⟨ρ, env, st, s, e, h⟩ => tDT_toS s e h fun ρ1 H1 b st1 x s1 h1 => by
    cases b with
    | true => exact ⟨ρ1, env, st1, s1, e.mono x, h1⟩
    | false => exact ⟨ρ1, env, st1, s1, e.mono x, h1⟩
/-- name = e -/
def sSet (i : Nat) (d : D) : DS := fun env st => (d env st).toS env fun v st1 => .nx (env.set i (some (frz v))) st1
/-- name = e, a new list that will be changed -/
def sSetM (i : Nat) (d : D) : DS := fun env st => (d env st).toS env fun v st1 => match v with
  | .tl xs => .nx (env.set i (some (.loc st1.length))) (st1 ++ [.lst xs])
  | v => .nx (env.set i (some v)) st1
theorem frz_nt (v : PV) : ∀ xs, frz v ≠ .tl xs := fun xs h => by cases v <;> cases h
theorem set_end {i : Nat} {d : D} {σ : L2.St} {H : Hp} (h : tS g W (sSet i d) F σ H) : tAsg (tD g W d) (gName i) F σ H := by
  obtain ⟨ρ, env, st, s, e, h⟩ := h
  exact tD_toS s e h fun ρ1 H1 v st1 u P h1 => h1 ρ1 _ H1 (.refl _ _) P.sr ((e.mono P.ext).set P.vr.frz (frz_nt v) i)
theorem setM_end {i : Nat} {d : D} {σ : L2.St} {H : Hp} (h : tS g W (sSetM i d) F σ H) : tAsg (tD g W d) (gName i) F σ H := by
  obtain ⟨ρ, env, st, s, e, h⟩ := h
  refine ⟨ρ, env, st, s, e, ?_⟩
  unfold sSetM at h
  cases q : d env st with
  | ok v st1 =>
    rw [q] at h
    have other : (∀ xs, v ≠ .tl xs) → okN g F.nx ρ H (env.set i (some v)) st1 → okE g (fun x H1 => gName i x σ H1 F.nx) ρ H v st1 := fun nt k ρ1 H1 u P => k ρ1 _ H1 P.ext P.sr ((e.mono P.ext).set P.vr nt i)
    cases v with
    | tl xs =>
      intro ρ1 H1 u P
      obtain ⟨a, rfl, n, sr⟩ := P.fr xs rfl
      have e0 : Ext ρ H (ρ1.add a) H1 := ⟨P.ext.pre.trans (List.prefix_append _ _), P.ext.hid, P.ext.dom, P.ext.keep, P.ext.fix, fun b m => (List.mem_append.mp m).elim (P.ext.new b) fun z => .inr (by rw [List.mem_singleton.mp z]; exact n)⟩
      refine h _ _ H1 e0 sr ((e.mono e0).set ?_ (fun _ z => by cases z) i)
      unfold VR
      refine ⟨a, ?_, rfl⟩
      show (ρ1.l ++ [a])[_]? = _
      rw [← P.sr.len, List.getElem?_append_right (Nat.le_refl _), Nat.sub_self]
      rfl
    | _ => exact other (fun _ z => by cases z) h
  | ex c w st1 => rw [q] at h; exact fun ρ' H' d x => h ρ' σ H' d x (e.mono x.ext)
  | bad => rw [q] at h; exact h
end
end Bb
namespace Bb
open PySem L2 PyProof.Rows
/-! ### targets -/
abbrev BT := PV → En → Option En
abbrev BTs := List PV → En → Option En
/-- but at these places -/
def Off (sl : List Nat) (σ σ' : L2.St) : Prop := σ'.length = σ.length ∧ ∀ i, i ∉ sl → σ'[i]? = σ[i]?
def tGt (g : G) (sl : List Nat) (b : BT) : TG := fun v σ H Q => ∃ ρ env st p env', SR g.K g.T ρ H st ∧ ER g.K ρ H env σ ∧ VR g.K ρ H p v ∧ (∀ xs, p ≠ .tl xs) ∧ b p env = some env' ∧ ∀ σ', ER g.K ρ H env' σ' → Off sl σ σ' → Q σ' H
def tGts (g : G) (sl : List Nat) (b : BTs) : TGs := fun vs σ H Q => ∃ ρ env st ps env', SR g.K g.T ρ H st ∧ ER g.K ρ H env σ ∧ VRs g.K ρ H ps vs ∧ (∀ p ∈ ps, ∀ xs, p ≠ .tl xs) ∧ b ps env = some env' ∧ ∀ σ', ER g.K ρ H env' σ' → Off sl σ σ' → Q σ' H
def bName (i : Nat) : BT := fun p env => some (env.set i (some p))
def bNil : BTs := fun ps env => match ps with
  | [] => some env
  | _ => none
def bCons (b : BT) (r : BTs) : BTs := fun ps env => match ps with
  | p :: ps => match b p env with
    | some env1 => r ps env1
    | none => none
  | [] => none
/-- no temporary within -/
def frzs (xs : List PV) : List PV := xs.map frz
def bTup (n : Nat) (r : BTs) : BT := fun p env => match p with
  | .tup xs => if xs.length = n then r (frzs xs) env else none
  | _ => none
section
variable {g : G} {W : WX} {X : Cx} {pos : Pos}
theorem PG.imp {e : Expr} {t t' : TG} (h : PG X e t) (i : ∀ v σ H Q, t' v σ H Q → t v σ H Q) : PG X e t' := ⟨fun pins s σ H v u Q I r hq => h.run pins s σ H v u Q I r (i _ _ _ _ hq)⟩
theorem PGs.imp {e : List Expr} {t t' : TGs} (h : PGs X e t) (i : ∀ v σ H Q, t' v σ H Q → t v σ H Q) : PGs X e t' := ⟨fun pins s σ H v u Q I r hq => h.run pins s σ H v u Q I r (i _ _ _ _ hq)⟩
theorem dg_name {i : Nat} {x : Str} (hN : X.N.Nodup) (hi : X.N[i]? = some x) (hx : Loc X.env.scope x) (hf : X.fn x = true ∨ X.env.scope.names.lookup x = some .local) : PG X (.Name x pos) (tGt g [i] (bName i)) :=
  PG.imp (pg_name hN hi hx hf) fun v σ H Q ⟨ρ, env, st, p, env', s, e, r, nt, hb, k⟩ => by
    cases hb
    exact k _ (e.set r nt i) ⟨List.length_set, fun j hj => List.getElem?_set_ne fun q => hj (by rw [q]; exact List.mem_cons_self)⟩
theorem dgs_nil : PGs X [] (tGts g [] bNil) := PGs.imp pgs_nil fun vs σ H Q ⟨ρ, env, st, ps, env', s, e, r, nt, hb, k⟩ => by
  cases ps with
  | nil =>
    cases hb
    unfold VRs at r
    exact ⟨r, k _ e ⟨rfl, fun _ _ => rfl⟩⟩
  | cons _ _ => cases hb
theorem dgs_cons {e : Expr} {es : List Expr} {b : BT} {r : BTs} {s1 s2 : List Nat} (h1 : PG X e (tGt g s1 b)) (h2 : PGs X es (tGts g s2 r)) (hs : (assignEach (e :: es) X.env).map (·.2) = assign e X.env :: (assignEach es X.env).map (·.2)) : PGs X (e :: es) (tGts g (s1 ++ s2) (bCons b r)) :=
  PGs.imp (pgs_cons h1 h2 hs) fun vs σ H Q ⟨ρ, env, st, ps, env', s, e, rr, nt, hb, k⟩ => by
    cases ps with
    | nil => cases hb
    | cons p ps =>
      unfold VRs at rr
      obtain ⟨v, vs', rfl, r1, r2⟩ := rr
      unfold bCons at hb
      cases q : b p env with
      | none => simp [q] at hb
      | some env1 =>
        simp only [q] at hb
        refine ⟨v, vs', rfl, ρ, env, st, p, env1, s, e, r1, nt p List.mem_cons_self, q, fun σ' e' o1 => ?_⟩
        exact ⟨ρ, env1, st, ps, env', s, e', r2, fun p hp => nt p (List.mem_cons_of_mem _ hp), hb, fun σ2 e2 o2 => k σ2 e2 ⟨o2.1.trans o1.1, fun i hi => (o2.2 i fun m => hi (List.mem_append_right _ m)).trans (o1.2 i fun m => hi (List.mem_append_left _ m))⟩⟩
theorem VRs.frzs {K : PySem.W.Frag} {ρ : Lo} {H : Hp} : ∀ {xs : List PV} {vs : List V}, VRs K ρ H xs vs → VRs K ρ H (frzs xs) vs
  | [], _, h => h
  | _ :: _, _, h => by
    unfold VRs at h
    obtain ⟨v, r, rfl, h2, h3⟩ := h
    exact .cons h2.frz h3.frzs
theorem frzs_nt (xs : List PV) : ∀ p ∈ frzs xs, ∀ ys, p ≠ .tl ys := fun p hp => by
  obtain ⟨q, _, rfl⟩ := List.mem_map.mp hp
  exact frz_nt q
theorem dg_tup {es : List Expr} {kk n : Nat} {r : BTs} {sl : List Nat} (hK : g.K = X.K) (hc : X.calm = true) (h : PGs X es (tGts g sl r)) (hn : (assignEach es X.env).length = n) (hst : (assignEach es X.env).findIdx? (·.1) = none) : PG X (.Tuple es kk pos) (tGt g sl (bTup n r)) :=
  PG.imp (pg_tup hc h hn hst) fun v σ H Q ⟨ρ, env, st, p, env', s, e, rr, nt, hb, k⟩ => by
    cases p with
    | tup xs =>
     replace hb : (if xs.length = n then r (frzs xs) env else none) = some env' := hb
     split at hb
     · rename_i hl
       obtain ⟨a, vs, rfl, h1, h2, h3⟩ := asT_ok (g := g) (xs := xs) rr rfl
       exact ⟨a, vs, rfl, hK ▸ h1, by rw [h3.length]; exact hl, ρ, env, st, frzs xs, env', s, e, h3.frzs, frzs_nt xs, hb, k⟩
     · cases hb
    | _ => cases hb
end
/-! ### what is walked -/
def chkP (chk : Option Nat) (items : List PV) (st : Sto) : Prop := match chk with
  | none => True
  | some n => st[n]? = some (.lst items)
abbrev DI := En → Sto → R (List PV × Option Nat)
structure Gives (g : G) (J : It) (ρ1 : Lo) (H1 : Hp) (chk : Option Nat) (items : List PV) : Prop where
  len : items.length ≤ sizeLine
  go : ∀ (ρ : Lo) (H : Hp) (st : Sto) (i : Nat) (p : PV), (∀ q v, VR g.K ρ1 H1 q v → VR g.K ρ H q v) → SR g.K g.T ρ H st → chkP chk items st → items[i]? = some p → J.go i H ∧ ∀ x H', J.yld i H x H' → Ext ρ H ρ H' ∧ SR g.K g.T ρ H' st ∧ VR g.K ρ H' (frz p) x
  stop : ∀ (ρ : Lo) (H : Hp) (st : Sto), (∀ q v, VR g.K ρ1 H1 q v → VR g.K ρ H q v) → SR g.K g.T ρ H st → chkP chk items st → J.stop items.length H
def okI (g : G) (R : It → Hp → Prop) (ρ : Lo) (H : Hp) (a : List PV × Option Nat) (st1 : Sto) : Prop := ∀ ρ1 H1 J, Ext ρ H ρ1 H1 → SR g.K g.T ρ1 H1 st1 → Gives g J ρ1 H1 a.2 a.1 → R J H1
theorem okI.mono {g : G} {R : It → Hp → Prop} : Mono (okI g R) := fun _ _ _ _ _ _ e h ρ' H' J x => h ρ' H' J (e.trans x)
def tIt (g : G) (W : WX) (d : DI) : TI := fun σ H R => ∃ ρ env st, SR g.K g.T ρ H st ∧ ER g.K ρ H env σ ∧ RP (d env st) (okI g R ρ H) (xP g W σ ρ H)
open Classical in
noncomputable def forL (chk : Option Nat) (all : List PV) (bt : BT) (body : DS) : List PV → DS
  | [], env, st => if chkP chk all st then .nx env st else .bad
  | x :: xs, env, st => if chkP chk all st then (match bt (frz x) env with
    | none => .bad
    | some env1 => match body env1 st with
      | .nx e s => forL chk all bt body xs e s
      | .ct e s => forL chk all bt body xs e s
      | .bk e s => .nx e s
      | r => r) else .bad
noncomputable def sFor (di : DI) (bt : BT) (body : DS) : DS := fun env st => (di env st).toS env fun a st1 => forL a.2 a.1 bt body a.1 env st1
section
variable {g : G} {W : WX} {X : Cx} {pos : Pos}
theorem ds_for {tg iter : Expr} {body : List Stmt} {di : DI} {bt : BT} {sl : List Nat} {db : DS} (hp : PassesOwn (model X.prog X.w) X.A X.env X.xe) (hc : X.calm = true) (hi : PI X tg iter (tIt g W di)) (hg : PG X tg (tGt g sl bt)) (hb : PSs X body (tS g W db)) (hs : ∀ x, foldedSetIterable iter X.env x = pure x) :
    PS X (.For tg iter body [] pos) (tS g W (sFor di bt db)) :=
  PS.imp (ps_for hp hc hi hg hb hs) fun F σ H ⟨ρ, env, st, s, e, h⟩ => by
    refine ⟨ρ, env, st, s, e, ?_⟩
    unfold sFor at h
    cases q : di env st with
    | bad => rw [q] at h; exact h
    | ex c w st1 => rw [q] at h; exact fun ρ' H' d x => h ρ' σ H' d x (e.mono x.ext)
    | ok a st1 =>
      rw [q] at h
      obtain ⟨items, chk⟩ := a
      intro ρ1 H1 J x1 s1 gv
      refine ⟨fun i m σ' H' => m = items.length - i ∧ i ≤ items.length ∧ ∃ ρ' env' st', Ext ρ1 H1 ρ' H' ∧ SR g.K g.T ρ' H' st' ∧ ER g.K ρ' H' env' σ' ∧ SRP g W F ρ' H' (forL chk items bt db (items.drop i) env' st'), ⟨_, rfl, Nat.zero_le _, ρ1, env, st1, .refl _ _, s1, e.mono x1, SRP.mono x1 h⟩, ?_⟩
      rintro i m σ' H' ⟨rfl, hi, ρ', env', st', x', s', e', h'⟩
      by_cases hlt : i < items.length
      · rw [List.drop_eq_getElem_cons hlt] at h'
        unfold forL at h'
        split at h'
        · rename_i hck
          have hget : items[i]? = some items[i] := List.getElem?_eq_getElem hlt
          obtain ⟨g1, g2⟩ := gv.go ρ' H' st' i _ (fun q v z => z.mono x') s' hck hget
          refine .inr ⟨g1, fun σ2 H2 => ∃ ρ2 env2 st2, Ext ρ1 H1 ρ2 H2 ∧ SR g.K g.T ρ2 H2 st2 ∧ ER g.K ρ2 H2 env2 σ2 ∧ SRP g W F ρ2 H2 (forL chk items bt db (items.drop (i + 1)) env2 st2), fun σ2 H2 n => ⟨items.length - (i + 1), by omega, rfl, hlt, n⟩, fun x H'' y => ?_⟩
          obtain ⟨y1, y2, y3⟩ := g2 x H'' y
          have h'' := SRP.mono y1 h'
          cases qb : bt (frz items[i]) env' with
          | none => simp only [qb] at h''; exact h''.elim
          | some env1 =>
            simp only [qb] at h''
            refine ⟨ρ', env', st', _, env1, y2, e'.mono y1, y3, frz_nt _, qb, fun σ2 e2 _ => ⟨ρ', env1, st', y2, e2, ?_⟩⟩
            have x'' := x'.trans y1
            cases qd : db env1 st' with
            | nx e3 s3 => simp only [qd] at h''; exact fun ρ3 σ3 H3 x3 s3' e3' => ⟨ρ3, e3, s3, x''.trans x3, s3', e3', SRP.mono x3 h''⟩
            | ct e3 s3 => simp only [qd] at h''; exact fun ρ3 σ3 H3 x3 s3' e3' => ⟨ρ3, e3, s3, x''.trans x3, s3', e3', SRP.mono x3 h''⟩
            | bk e3 s3 => simp only [qd] at h''; exact h''
            | rt v s3 => simp only [qd] at h''; exact h''
            | ex c w e3 s3 => simp only [qd] at h''; exact h''
            | bad => simp only [qd] at h''; exact h''.elim
        · exact h'.elim
      · have hi2 : i = items.length := by omega
        subst hi2
        rw [List.drop_length] at h'
        unfold forL at h'
        split at h'
        · rename_i hck
          exact .inl ⟨gv.stop ρ' H' st' (fun q v z => z.mono x') s' hck, h' ρ' σ' H' (.refl _ _) s' e'⟩
        · exact h'.elim
/-! ### iterables -/
theorem PI.imp {tg e : Expr} {t t' : TI} (h : PI X tg e t) (i : ∀ σ H Q, t' σ H Q → t σ H Q) : PI X tg e t' := ⟨fun pins s σ H Q I hq => h.run pins s σ H Q I (i _ _ _ hq)⟩
/-- a list or a tuple -/
def seqI (st : Sto) : PV → Option (List PV × Option Nat)
  | .tup xs => some (xs, none)
  | .fl xs => some (xs, none)
  | .tl xs => some (xs, none)
  | .ro xs => some (xs, none)
  | .loc n => match st[n]? with
    | some (.lst xs) => some (xs, some n)
    | _ => none
  | _ => none
def dSeqI (d : D) : DI := fun env st => (d env st).bind fun x st1 => ofO st1 (seqI st1 x)
theorem gives_list {ρ1 : Lo} {H1 : Hp} {a : Addr} {items : List PV} {chk : Option Nat} {x : PV} (hl : items.length ≤ sizeLine) (hx : VR g.K ρ1 H1 x (.ref a)) (hr : ∀ (ρ : Lo) (H : Hp) (st : Sto), VR g.K ρ H x (.ref a) → SR g.K g.T ρ H st → chkP chk items st → ∃ vs, SqL g.K H a vs ∧ VRs g.K ρ H items vs) :
    Gives g (Itl g.K a) ρ1 H1 chk items where
  len := hl
  go := fun ρ H st i p k s hc e => by
    obtain ⟨vs, h1, h2⟩ := hr ρ H st (k _ _ hx) s hc
    obtain ⟨u, e1, r1⟩ := h2.get e
    refine ⟨⟨vs, u, h1, e1⟩, fun y H' ⟨q1, q2⟩ => ?_⟩
    subst q1
    have := q2 vs h1
    rw [e1] at this
    cases this
    exact ⟨.refl _ _, s, r1.frz⟩
  stop := fun ρ H st k s hc => by
    obtain ⟨vs, h1, h2⟩ := hr ρ H st (k _ _ hx) s hc
    exact ⟨vs, h1, by rw [h2.length]; exact Nat.le_refl _⟩
theorem gives_tup {ρ1 : Lo} {H1 : Hp} {a : Addr} {items : List PV} (hx : VR g.K ρ1 H1 (.tup items) (.ref a)) : Gives g (Itt g.K a) ρ1 H1 none items where
  len := by
    obtain ⟨b, vs, e, h1, h2, h3⟩ := asT_ok (g := g) (xs := items) hx rfl
    rw [← h3.length]; exact h2
  go := fun ρ H st i p k s hc e => by
    obtain ⟨b, vs, e', h1, h2, h3⟩ := asT_ok (g := g) (xs := items) (k _ _ hx) rfl
    cases e'
    obtain ⟨u, e1, r1⟩ := h3.get e
    refine ⟨⟨vs, u, h1, e1⟩, fun y H' ⟨q1, q2⟩ => ?_⟩
    subst q1
    have := q2 vs h1
    rw [e1] at this
    cases this
    exact ⟨.refl _ _, s, r1.frz⟩
  stop := fun ρ H st k s hc => by
    obtain ⟨b, vs, e', h1, h2, h3⟩ := asT_ok (g := g) (xs := items) (k _ _ hx) rfl
    cases e'
    exact ⟨vs, h1, by rw [h3.length]; exact Nat.le_refl _⟩
theorem pi_seq {tg l : Expr} {tl : TE} (hl : PE X l tl) : PI X tg l (fun σ H R => tl σ H fun x H1 => (∃ a, x = .ref a ∧ (∃ xs, SqL X.K H1 a xs) ∧ R (Itl X.K a) H1) ∨ (∃ a, x = .ref a ∧ (∃ xs, SqT X.K H1 a xs) ∧ R (Itt X.K a) H1)) := by
  refine ⟨fun pins s σ H R I h => thn (hl.run pins s σ H _ I h) fun v s1 ⟨x, H1, I1, r1, q1⟩ => ?_⟩
  have fin : ∀ {t : Nat → Heap → Prop} {J : It} {o : Obj}, Turn X.prog X.w X.K tg J [s1.heap.objs.size] s1.heap.objs.size t → t 0 (s1.heap.push o) → R J H1 → PIE X pins σ tg R (.ref s1.heap.objs.size) { s1 with heap := s1.heap.push o } := fun {t J o} T h0 hR => by
    refine ⟨s1.heap.objs.size, [s1.heap.objs.size], t, J, H1, rfl, I1.kept (t' := s1.toks) fun b o e => Heap.get?_push_of_some _ e, T, h0, fun b hb => ?_, hR⟩
    rw [List.mem_singleton.mp hb]
    exact I1.fpOk (Nat.le_refl _) (I1.hok.fresh (Nat.le_refl _))
  rcases q1 with ⟨a, e, ⟨xs, hq⟩, q⟩ | ⟨a, e, ⟨xs, hq⟩, q⟩
  · subst e
    cases r1
    obtain ⟨its, rv, p, hz⟩ := I1.list hq
    exact wpAny_pyIter_list p.isList (fin (turn_list a _) ⟨_, Heap.get?_push_size _ rfl, rfl, rfl⟩ q)
  · subst e
    cases r1
    obtain ⟨its, rv, p, hz⟩ := I1.tuple hq
    exact wpAny_pyIter_tuple (show s1.heap.IsTuple a its.toArray from p) (fin (turn_tuple a _) ⟨_, Heap.get?_push_size _ rfl, rfl, rfl⟩ q)
theorem di_seq {tg l : Expr} {d : D} (hK : g.K = X.K) (hl : PE X l (tD g W d)) : PI X tg l (tIt g W (dSeqI d)) :=
  PI.imp (pi_seq hl) fun σ H R ⟨ρ, env, st, s, e, h⟩ => tD_of okI.mono s e h fun ρ1 H1 x st1 u P h1 => by
    obtain ⟨a, hz, k⟩ := ofO_ok h1
    have vr := P.vr
    have frozen : ∀ {xs : List PV}, asL st1 x = some xs → (∀ (ρ : Lo) (H : Hp) (st : Sto) v, VR g.K ρ H x v → SR g.K g.T ρ H st → chkP a.2 a.1 st → ∃ a vs, v = .ref a ∧ SqL g.K H a vs ∧ VRs g.K ρ H xs vs) → a.1 = xs → (∃ b, u = .ref b ∧ (∃ xs, SqL X.K H1 b xs) ∧ R (Itl X.K b) H1) := fun {xs} hx hr ea => by
      obtain ⟨b, vs, rfl, h2, h3, h4⟩ := asL_ok P.sr vr hx
      refine ⟨b, rfl, ⟨vs, hK ▸ h2⟩, hK ▸ k ρ1 H1 _ (.refl _ _) P.sr (gives_list (by rw [ea, ← h4.length]; exact h3) vr fun ρ' H' st' v' s' c' => ?_)⟩
      obtain ⟨b', vs', e', h5, h6⟩ := hr ρ' H' st' _ v' s' c'
      cases e'
      exact ⟨vs', h5, by rw [ea]; exact h6⟩
    cases x with
    | tup xs =>
      cases hz
      obtain ⟨b, vs, rfl, h2, h3, h4⟩ := asT_ok (g := g) (xs := xs) vr rfl
      exact .inr ⟨b, rfl, ⟨vs, hK ▸ h2⟩, hK ▸ k ρ1 H1 _ (.refl _ _) P.sr (gives_tup vr)⟩
    | fl xs => cases hz; exact .inl (frozen rfl (fun ρ H st v r s _ => let ⟨a, vs, e, h1, _, h2⟩ := asL_ok (x := .fl xs) (xs := xs) s r rfl; ⟨a, vs, e, h1, h2⟩) rfl)
    | tl xs => cases hz; exact .inl (frozen rfl (fun ρ H st v r s _ => let ⟨a, vs, e, h1, _, h2⟩ := asL_ok (x := .tl xs) (xs := xs) s r rfl; ⟨a, vs, e, h1, h2⟩) rfl)
    | ro xs => cases hz; exact .inl (frozen rfl (fun ρ H st v r s _ => let ⟨a, vs, e, h1, _, h2⟩ := asL_ok (x := .ro xs) (xs := xs) s r rfl; ⟨a, vs, e, h1, h2⟩) rfl)
    | loc n =>
      unfold seqI at hz
      cases q : st1[n]? with
      | none => simp [q] at hz
      | some m =>
        cases m with
        | lst xs =>
          simp only [q, Option.some.injEq] at hz
          subst hz
          refine .inl (frozen (xs := xs) (by unfold asL asM; simp [q]) (fun ρ H st v r s c => ?_) rfl)
          have c' : st[n]? = some (.lst xs) := c
          obtain ⟨a, vs, e, h1, _, h2⟩ := asL_ok (x := .loc n) (xs := xs) s r (by unfold asL asM; simp [c'])
          exact ⟨a, vs, e, h1, h2⟩
        | dct _ => simp [q] at hz
    | _ => cases hz
/-- range -/
def rngL (i : Int) (n : Nat) : List PV := (List.range n).map fun (k : Nat) => PV.int (i + (k : Int))
def rng1P (_ : Sto) : List PV → Option (List PV × Option Nat)
  | [.int j] => if j ≤ 16777216 ∧ -16777216 ≤ j then some (rngL 0 j.toNat, none) else none
  | _ => none
def rng2P (_ : Sto) : List PV → Option (List PV × Option Nat)
  | [.int i, .int j] => if j ≤ 8388608 ∧ -8388608 ≤ j ∧ i ≤ 8388608 ∧ -8388608 ≤ i then some (rngL i (j - i).toNat, none) else none
  | _ => none
def dRngI (f : Sto → List PV → Option (List PV × Option Nat)) (d : DA) : DI := fun env st => (d env st).bind fun x st1 => ofO st1 (f st1 x)
theorem gives_rng {ρ1 : Lo} {H1 : Hp} {i : Int} {n : Nat} (hn : n ≤ sizeLine) : Gives g (Itr i n) ρ1 H1 none (rngL i n) where
  len := by unfold rngL; simpa using hn
  go := fun ρ H st k p _ s _ e => by
    unfold rngL at e
    rw [List.getElem?_map] at e
    obtain ⟨m, hm, rfl⟩ := Option.map_eq_some_iff.mp e
    obtain ⟨h1, h2⟩ := List.getElem?_eq_some_iff.mp hm
    simp at h1 h2
    subst h2
    exact ⟨h1, fun x H' ⟨q1, q2⟩ => by subst q1 q2; exact ⟨.refl _ _, s, int_vr _⟩⟩
  stop := fun _ _ _ _ _ _ => by
    show n ≤ _
    unfold rngL
    simp
theorem di_rng1 {tg a : Expr} {d : DA} {p pos : Pos} (hg : Gl X "range") (hm : X.mg "range" = none) (ha : PA X [a] (tDA g W d)) (hs : starEach [a] X.env = [(false, eval a X.env)]) : PI X tg (.Call (.Name "range" p) [a] [] pos) (tIt g W (dRngI rng1P d)) :=
  PI.imp (pi_range1 hg hm ha hs) fun σ H R ⟨ρ, env, st, s, e, h⟩ => tDA_of okI.mono s e h fun ρ1 H1 x st1 us x1 s1 r1 h1 => by
    obtain ⟨a, hz, k⟩ := ofO_ok h1
    unfold rng1P at hz
    split at hz
    · split at hz
      · rename_i hj
        cases hz
        obtain ⟨u, rfl, r2⟩ := vrs1 r1
        cases vr_int r2
        exact ⟨_, rfl, by omega, by omega, k ρ1 H1 _ (.refl _ _) s1 (gives_rng (by rw [sizeLine_eq]; omega))⟩
      · cases hz
    · cases hz
theorem di_rng2 {tg a b : Expr} {d : DA} {p pos : Pos} (hg : Gl X "range") (hm : X.mg "range" = none) (ha : PA X [a, b] (tDA g W d)) (hs : starEach [a, b] X.env = [(false, eval a X.env), (false, eval b X.env)]) (hs2 : starEach [b] X.env = [(false, eval b X.env)]) :
    PI X tg (.Call (.Name "range" p) [a, b] [] pos) (tIt g W (dRngI rng2P d)) :=
  PI.imp (pi_range2 hg hm ha hs hs2) fun σ H R ⟨ρ, env, st, s, e, h⟩ => tDA_of okI.mono s e h fun ρ1 H1 x st1 us x1 s1 r1 h1 => by
    obtain ⟨a, hz, k⟩ := ofO_ok h1
    unfold rng2P at hz
    split at hz
    · split at hz
      · rename_i hj
        cases hz
        obtain ⟨u, w, rfl, r2, r3⟩ := vrs2 r1
        cases vr_int r2; cases vr_int r3
        exact ⟨_, _, rfl, by omega, k ρ1 H1 _ (.refl _ _) s1 (gives_rng (by rw [sizeLine_eq]; omega))⟩
      · cases hz
    · cases hz
end
end Bb
namespace Bb
open PySem L2 PyProof.Rows
/-! ### enumerate of a tuple -/
abbrev enObj (n : Nat) : Obj := { cls := .type "enumerate", data := .fields #[.none, .bool false, .ref n, rawInt 0, .none, .none] }
theorem en_new {v : Value} {o : Obj} {HH : Heap → Prop} (B : Begins v o HH) : Meets (Builtin.«enumerate.__new__» ⟨[.type "enumerate", v], []⟩) (fun _ R s => HH s.heap ∧ R (.ok (.ret (.ref (s.heap.push o).objs.size))) { s with heap := (s.heap.push o).push (enObj s.heap.objs.size) }) :=
  .of_wp fun prog w A R s hyp => by
    obtain ⟨hp, gg, dd, tk, os⟩ := s
    obtain ⟨k1, k2⟩ := hyp
    have hsub := sub_enumerate
    have q1 : ∀ {A' : Around} {E : Value → Shared → Prop} {Q : Value → Shared → Prop}, Q (.ref hp.objs.size) ⟨hp.push o, gg, dd, tk, os⟩ → wpAny (model prog w) A' (pyIter v) Q E ⟨hp, gg, dd, tk, os⟩ :=
      fun q => B.iter prog w _ _ ⟨hp, gg, dd, tk, os⟩ _ k1 q
    wp_walk using q1
    refine wpAny_stack_any fun _ => wpAny_pure ?_
    split
    · rename_i cc _ _ _ _ _
      cases (cc == Value.type "enumerate") <;> (wp_walk using q1; exact ⟨_, rfl, k2⟩)
    · (wp_walk using q1; exact ⟨_, rfl, k2⟩)
theorem en_call {prog : Program} {w : World} {A : Around} {E : Value → Shared → Prop} {s : Shared} {v : Value} {o : Obj} {HH : Heap → Prop} {Q : Value → Shared → Prop} (B : Begins v o HH) (h1 : HH s.heap)
    (k : ∀ h', IsEnum h' (s.heap.objs.size + 1) s.heap.objs.size 0 .none → h'.get? s.heap.objs.size = some o → h'.objs.size = s.heap.objs.size + 2 → (∀ b u, s.heap.get? b = some u → h'.get? b = some u) → Q (.ref (s.heap.objs.size + 1)) { s with heap := h' }) :
    wpAny (model prog w) A (call (.type "enumerate") [v]) Q E s := by
  refine callType_new F.called_enumerate (by decide) (F.typeCall_enumerate_1 _) (F.newCall_enumerate_1 _) (fun ob => F.args_object_init_2 ob _) F.entry_enumerate_new (en_new B) ⟨h1, ?_⟩
  have sz : (s.heap.push o).objs.size = s.heap.objs.size + 1 := Heap.size_push ..
  show _ ∧ _
  rw [sz]
  have he : IsEnum ((s.heap.push o).push (enObj s.heap.objs.size)) (s.heap.objs.size + 1) s.heap.objs.size 0 .none := by
    have := Heap.get?_push_size (s.heap.push o) (o := enObj s.heap.objs.size) rfl
    rw [sz] at this
    exact this
  exact ⟨⟨_, he, rfl⟩, k _ he (Heap.get?_push_of_some _ (Heap.get?_push_size _ B.free)) (by rw [Heap.size_push, sz]) fun b u x => Heap.get?_push_of_some _ (Heap.get?_push_of_some _ x)⟩
def Iet (K : PySem.W.Frag) (a : Addr) : It :=
  ⟨fun i H => ∃ (xs : List V) (x : V), SqT K H a xs ∧ xs[i]? = some x, fun i H v H' => ∃ t x, v = .ref t ∧ H t = none ∧ H' = upd H t (.tup [.int (i : Nat), x]) ∧ ∀ xs, SqT K H a xs → xs[i]? = some x, fun i H => ∃ xs : List V, SqT K H a xs ∧ xs.length = i⟩
theorem turn_en {P : Program} {w : World} {K : PySem.W.Frag} {elts : List Expr} {kk : Nat} {tpos : Pos} (a e it : Addr) :
    Turn P w K (.Tuple elts kk tpos) (Iet K a) [e, it] e (fun i h => (∃ old, IsEnum h e it ((i : Nat) : Int) old) ∧ h.IsTupleIter it a i ∧ e ≠ it) where
  mem := List.mem_cons_self
  obj := fun i h st b hb => by
    obtain ⟨⟨old, he⟩, ⟨o, ho, hc, hd⟩, _⟩ := st
    rcases List.mem_cons.mp hb with rfl | hb
    · exact ⟨_, he, fun v z => by cases z⟩
    · rw [List.mem_singleton.mp hb]
      exact ⟨o, ho, fun v z => by rw [hd] at z; cases z⟩
  keep := fun i h h' st kp => by
    obtain ⟨⟨old, he⟩, hi, ne⟩ := st
    exact ⟨⟨old, kp e List.mem_cons_self _ he⟩, hi.at fun o q => kp it (List.mem_cons_of_mem _ List.mem_cons_self) o q, ne⟩
  item := by
    intro X hP hw hK hc i pins s σ H E I hf st hg
    subst hP hw hK
    obtain ⟨⟨old, he⟩, hit, ne⟩ := st
    obtain ⟨xs, x, hq, hx⟩ := hg
    obtain ⟨its, rv, tp, hz⟩ := I.tuple hq
    obtain ⟨u, hu, ru⟩ := rv.get hx
    obtain ⟨oe, hoe, hce, _⟩ := id hit
    obtain ⟨ot, hot, hct, _⟩ := id tp
    have n1 : a ≠ it := fun z => by
      rw [z, hoe] at hot; cases hot
      rw [hce] at hct
      exact absurd hct (by decide +kernel)
    have n2 : e ≠ a := fun z => by
      have he' : s.heap.get? e = some _ := he
      rw [z, hot] at he'; cases he'
      exact absurd hct (show ¬ (Value.type "enumerate" = Value.type "tuple") by decide +kernel)
    have hel : e < s.heap.objs.size := Heap.lt_size he
    have hil : it < s.heap.objs.size := Heap.lt_size hoe
    have hhd : X.A.in1.handled = none := I.ok.hd hc
    have hlt : i < its.toArray.size := by
      have := (List.getElem?_eq_some_iff.mp hu).1
      simpa using this
    refine wpAny_pyNext_enum_itemD (Draws.tuple hhd it a n1 its.toArray) he ⟨hit, tp⟩ hlt ne (fun m => ?_) fun y h' tk hy ho st' hT hsz hk => ?_
    · rcases List.mem_cons.mp m with z | z
      · exact ne z
      · exact n2 (List.mem_singleton.mp z)
    · have ey : y = u := by
        have hy' : its.toArray[i]? = some y := hy
        rw [List.getElem?_toArray, hu] at hy'
        exact (Option.some.inj hy').symm
      subst ey
      refine ⟨_, rfl, wpAny_letOwnedTupleGo_enum (s := { s with heap := h', toks := tk + 1 }) ho fun h'' he' sb => ?_⟩
      have hT2 : h''.get? s.heap.objs.size = some { cls := .type "tuple", data := .seq #[.int i tk, y] } := (sb.2 _ (Nat.ne_of_gt hel)).trans hT
      have new : ObjOk X.prog X.w (upd H s.heap.objs.size (.tup [.int (i : Nat), x])) h'' s.heap.objs.size (.tup [.int (i : Nat), x]) :=
        ⟨le1000 (show 2 ≤ 1000 by decide), [.int i tk, y], .cons ⟨_, rfl⟩ (.cons ru .nil), ⟨_, hT2, rfl, _, rfl⟩⟩
      have J : Inv X pins σ (upd H s.heap.objs.size (.tup [.int (i : Nat), x])) { s with heap := h'', toks := tk + 1 } :=
        I.turnedNew (ch := [e, it]) (fun b ob hb q => (sb.2 b (fun z => hb (by rw [z]; exact List.mem_cons_self))).trans (hk b ob (fun z => hb (by rw [z]; exact List.mem_cons_self)) (fun z => hb (by rw [z]; exact List.mem_cons_of_mem _ List.mem_cons_self)) q)) hf (Nat.le_refl _) new
      refine ⟨.ref s.heap.objs.size, _, J, rfl, ⟨_, x, rfl, I.hok.fresh (Nat.le_refl _), rfl, fun ys hy => by rw [I.tuple_inj hy hq]; exact hx⟩, ⟨⟨y, ?_⟩, st'.1.at fun o q => (sb.2 it (Ne.symm ne)).trans q, ne⟩, fun b hb => ?_⟩
      · rw [show ((i + 1 : Nat) : Int) = (i : Int) + 1 from by omega]
        exact he'
      · have hbl : b < s.heap.objs.size := by
          rcases List.mem_cons.mp hb with z | z
          · rw [z]; exact hel
          · rw [List.mem_singleton.mp z]; exact hil
        rw [upd_ne (Nat.ne_of_lt hbl)]
        exact (hf b hb).1
  done := by
    intro X hP hw hK hc i pins s σ H E I hf st hg
    subst hP hw hK
    obtain ⟨⟨old, he⟩, hit, ne⟩ := st
    obtain ⟨xs, hq, hx⟩ := hg
    obtain ⟨its, rv, tp, hz⟩ := I.tuple hq
    obtain ⟨oe, hoe, hce, _⟩ := id hit
    obtain ⟨ot, hot, hct, _⟩ := id tp
    have n1 : a ≠ it := fun z => by
      rw [z, hoe] at hot; cases hot
      rw [hce] at hct
      exact absurd hct (by decide +kernel)
    have hhd : X.A.in1.handled = none := I.ok.hd hc
    obtain ⟨f0, f1, f2, f3, f4, f5⟩ := hf it (List.mem_cons_of_mem _ List.mem_cons_self)
    have hl := rv.length
    have ei : its.toArray.size = i := by simp; omega
    have st : (s.heap.IsTupleIter it a its.toArray.size) ∧ s.heap.IsTuple a its.toArray := ⟨by rw [ei]; exact hit, tp⟩
    exact wpAny_pyNext_enum_endD (Draws.tuple hhd it a n1 its.toArray) he st fun h' eb => ⟨rfl, I.turned (t' := s.toks) (fun b o hb q => eb b o hb q) f0 f1 f3 f4 f5⟩
  self := fun A i s Q E st h => let ⟨⟨_, he⟩, _⟩ := st; wpAny_pyIter_enum he h
section
variable {g : G} {W : WX} {X : Cx}
theorem pi_en {e : Expr} {ta : TA} {p pos tpos : Pos} {elts : List Expr} {kk : Nat} (hg : Gl X "enumerate") (hm : X.mg "enumerate" = none) (ha : PA X [e] ta) (hs : starEach [e] X.env = [(false, eval e X.env)]) :
    PI X (.Tuple elts kk tpos) (.Call (.Name "enumerate" p) [e] [] pos) (fun σ H R => ta σ H fun vs H1 => (∃ a xs, vs = [.ref a] ∧ SqL X.K H1 a xs ∧ R (Ite X.K a) H1) ∨ ∃ a xs, vs = [.ref a] ∧ SqT X.K H1 a xs ∧ R (Iet X.K a) H1) := by
  refine ⟨fun pins s σ H R I h => ?_⟩
  refine Call_ (ld_blt I hg hm boot_enumerate (PyProof.Rows.callWith_type1 (thn (ha.run pos pins s σ H _ I h) fun us s1 ⟨vs, H1, I1, r1, q1⟩ => ?_) hs rfl))
  rcases q1 with ⟨a, xs, ex, hq, q⟩ | ⟨a, xs, ex, hq, q⟩
  · subst ex
    obtain ⟨u, rfl, ru⟩ := vals1 r1
    cases ru
    obtain ⟨its, rv, pl, hz⟩ := I1.list hq
    refine call_enumerate_list pl.isList fun h' he hit hsz hk => wpAny_pyIter_enum he ?_
    have J : Inv X pins σ H1 { s1 with heap := h' } := I1.kept (t' := s1.toks) hk
    refine ⟨s1.heap.objs.size + 1, _, _, _, H1, rfl, J, turn_enum a (s1.heap.objs.size + 1) s1.heap.objs.size, ⟨⟨.none, he⟩, hit, Nat.succ_ne_self _⟩, fun b hb => ?_, q⟩
    have le : s1.heap.objs.size ≤ b := by
      rcases List.mem_cons.mp hb with z | z
      · rw [z]; exact Nat.le_succ _
      · rw [List.mem_singleton.mp z]; exact Nat.le_refl _
    exact I1.fpOk le (I1.hok.fresh le)
  · subst ex
    obtain ⟨u, rfl, ru⟩ := vals1 r1
    cases ru
    obtain ⟨its, rv, tp, hz⟩ := I1.tuple hq
    refine en_call (begins_tuple a its.toArray) tp fun h' he hit hsz hk => wpAny_pyIter_enum he ?_
    have J : Inv X pins σ H1 { s1 with heap := h' } := I1.kept (t' := s1.toks) hk
    refine ⟨s1.heap.objs.size + 1, _, _, _, H1, rfl, J, turn_en a (s1.heap.objs.size + 1) s1.heap.objs.size, ⟨⟨.none, he⟩, ⟨_, hit, rfl, rfl⟩, Nat.succ_ne_self _⟩, fun b hb => ?_, q⟩
    have le : s1.heap.objs.size ≤ b := by
      rcases List.mem_cons.mp hb with z | z
      · rw [z]; exact Nat.le_succ _
      · rw [List.mem_singleton.mp z]; exact Nat.le_refl _
    exact I1.fpOk le (I1.hok.fresh le)
/-- (0, x0), (1, x1), .. -/
def enumL (xs : List PV) (n : Nat) : List PV := match xs with
  | [] => []
  | x :: r => .tup [.int (n : Int), frz x] :: enumL r (n + 1)
theorem enumL_get : ∀ (xs : List PV) (n i : Nat), (enumL xs n)[i]? = (xs[i]?).map fun x => .tup [.int ((n + i : Nat) : Int), frz x]
  | [], _, _ => by simp [enumL]
  | x :: r, n, 0 => by simp [enumL]
  | x :: r, n, i + 1 => by
    simp only [enumL, List.getElem?_cons_succ, enumL_get r (n + 1) i]
    rw [show n + 1 + i = n + (i + 1) from by omega]
theorem enumL_len : ∀ (xs : List PV) (n : Nat), (enumL xs n).length = xs.length
  | [], _ => rfl
  | x :: r, n => by simp [enumL, enumL_len r]
/-- a list that the body changes isn't served here -/
def enI (st : Sto) : List PV → Option (List PV × Option Nat)
  | [x] => match x with
    | .tup xs => some (enumL xs 0, none)
    | .fl xs => some (enumL xs 0, none)
    | .ro xs => some (enumL xs 0, none)
    | _ => none
  | _ => none
theorem pairNew {ρ : Lo} {H : Hp} {st : Sto} {t : Addr} {i : Nat} {p : PV} {x : V} (s : SR g.K g.T ρ H st) (n : H t = none) (r : VR g.K ρ H p x) : Ext ρ H ρ (upd H t (.tup [.int (i : Nat), x])) ∧ SR g.K g.T ρ (upd H t (.tup [.int (i : Nat), x])) st ∧ VR g.K ρ (upd H t (.tup [.int (i : Nat), x])) (.tup [.int ((i : Nat) : Int), frz p]) (.ref t) := by
  have P : Post g.K g.T ρ H ρ _ st (.tup [.int ((i : Nat) : Int), frz p]) (.ref t) := Post.newTup (vs := [.int (i : Nat), x]) s n (show 2 ≤ sizeLine from le1000 (by decide)) (.cons (int_vr _) (.cons r.frz .nil))
  exact ⟨P.ext, P.sr, P.vr⟩
theorem di_en {e : Expr} {da : DA} {p pos tpos : Pos} {elts : List Expr} {kk : Nat} (hK : g.K = X.K) (hg : Gl X "enumerate") (hm : X.mg "enumerate" = none) (ha : PA X [e] (tDA g W da)) (hs : starEach [e] X.env = [(false, eval e X.env)]) :
    PI X (.Tuple elts kk tpos) (.Call (.Name "enumerate" p) [e] [] pos) (tIt g W (dRngI enI da)) :=
  PI.imp (pi_en hg hm ha hs) fun σ H R ⟨ρ, env, st, s, e, h⟩ => tDA_of okI.mono s e h fun ρ1 H1 x st1 us x1 s1 r1 h1 => by
    obtain ⟨a, hz, k⟩ := ofO_ok h1
    unfold enI at hz
    split at hz
    · rename_i x
      obtain ⟨u, rfl, vr⟩ := vrs1 r1
      have frozen : ∀ {xs : List PV}, (∀ (ρ : Lo) (H : Hp) (st : Sto) v, VR g.K ρ H x v → SR g.K g.T ρ H st → ∃ a vs, v = .ref a ∧ SqL g.K H a vs ∧ vs.length ≤ sizeLine ∧ VRs g.K ρ H xs vs) → a = (enumL xs 0, none) → (∃ b xs, [u] = [V.ref b] ∧ SqL X.K H1 b xs ∧ R (Ite X.K b) H1) := fun {xs} hr ea => by
        obtain ⟨b, vs, rfl, h2, h3, h4⟩ := hr ρ1 H1 st1 _ vr s1
        subst ea
        refine ⟨b, vs, rfl, hK ▸ h2, hK ▸ k ρ1 H1 _ (.refl _ _) s1 ⟨by rw [enumL_len, ← h4.length]; exact h3, fun ρ' H' st' i q kq s' _ e => ?_, fun ρ' H' st' kq s' _ => ?_⟩⟩
        · obtain ⟨b', vs', e', h5, h6, h7⟩ := hr ρ' H' st' _ (kq _ _ vr) s'
          cases e'
          rw [enumL_get] at e
          obtain ⟨y, hy, rfl⟩ := Option.map_eq_some_iff.mp e
          obtain ⟨w, hw, rw'⟩ := h7.get hy
          refine ⟨⟨vs', w, h5, hw⟩, fun z H'' ⟨t, x', q1, q2, q3, q4⟩ => ?_⟩
          have := q4 vs' h5
          rw [hw] at this
          cases this
          subst q1 q3
          rw [show 0 + i = i from Nat.zero_add i]
          exact pairNew s' q2 rw'
        · obtain ⟨b', vs', e', h5, h6, h7⟩ := hr ρ' H' st' _ (kq _ _ vr) s'
          cases e'
          exact ⟨vs', h5, by rw [enumL_len, h7.length]; exact Nat.le_refl _⟩
      cases x with
      | tup xs =>
        cases hz
        obtain ⟨b, vs, rfl, h2, h3, h4⟩ := asT_ok (g := g) (xs := xs) vr rfl
        refine .inr ⟨b, vs, rfl, hK ▸ h2, hK ▸ k ρ1 H1 _ (.refl _ _) s1 ⟨by rw [enumL_len, ← h4.length]; exact h3, fun ρ' H' st' i q kq s' _ e => ?_, fun ρ' H' st' kq s' _ => ?_⟩⟩
        · obtain ⟨b', vs', e', h5, h6, h7⟩ := asT_ok (g := g) (xs := xs) (kq _ _ vr) rfl
          cases e'
          rw [enumL_get] at e
          obtain ⟨y, hy, rfl⟩ := Option.map_eq_some_iff.mp e
          obtain ⟨w, hw, rw'⟩ := h7.get hy
          refine ⟨⟨vs', w, h5, hw⟩, fun z H'' ⟨t, x', q1, q2, q3, q4⟩ => ?_⟩
          have := q4 vs' h5
          rw [hw] at this
          cases this
          subst q1 q3
          rw [show 0 + i = i from Nat.zero_add i]
          exact pairNew s' q2 rw'
        · obtain ⟨b', vs', e', h5, h6, h7⟩ := asT_ok (g := g) (xs := xs) (kq _ _ vr) rfl
          cases e'
          exact ⟨vs', h5, by rw [enumL_len, h7.length]⟩
      | fl xs => cases hz; exact .inl (frozen (fun ρ H st v r s => asL_ok (x := .fl xs) (xs := xs) s r rfl) rfl)
      | ro xs => cases hz; exact .inl (frozen (fun ρ H st v r s => asL_ok (x := .ro xs) (xs := xs) s r rfl) rfl)
      | _ => cases hz
    · cases hz
end
end Bb
namespace Bb
open PySem L2 PyProof.Rows
/-! ### what is hidden may be written, shown, made an object of the store -/
section
variable {K : PySem.W.Frag} {T : List (Addr × Str)} {ρ : Lo} {H : Hp} {a : Addr} {st : Sto}
mutual
theorem VR.hidUpd {o u : HO} (m : a ∈ ρ.h) (h : H a = some o) (w : Wr o) : ∀ {p : PV} {v : V}, VR K ρ H p v → VR K ρ (upd H a u) p v
  | .non, _, r => by unfold VR at *; exact r
  | .bl _, _, r => by unfold VR at *; exact r
  | .int _, _, r => by unfold VR at *; exact r
  | .str _, _, r => by unfold VR at *; exact r
  | .ty _, _, r => by unfold VR at *; exact r
  | .lam c1 c2 q cl vs, _, r => by
    unfold VR at *
    refine ⟨r.1, ?_, VRs.hidUpd m h w r.2.2⟩
    rw [upd_ne (fun e => by have z := r.2.1; rw [e, h] at z; have z := Option.some.inj z; rw [z] at w; exact codeO_wr w)]
    exact r.2.1
  | .loc _, _, r => by unfold VR at *; exact r
  | .tup xs, _, r => by
    unfold VR at *
    obtain ⟨b, vs, h1, h2, h3, h4⟩ := r
    refine ⟨b, vs, h1, ?_, h3, VRs.hidUpd m h w h4⟩
    rcases h2 with (h2 | ⟨ob, h2⟩) | h2
    · exact .inl (.inl (by rw [upd_ne (fun e => by rw [e, h] at h2; cases h2; exact w)]; exact h2))
    · exact .inl (.inr ⟨ob, by rw [upd_ne (fun e => by rw [e, h] at h2; cases h2; exact w)]; exact h2⟩)
    · exact .inr h2
  | .fl xs, _, r => by
    unfold VR at *
    obtain ⟨b, vs, h1, h2, h3, h4, h5⟩ := r
    exact ⟨b, vs, h1, h2, by rw [upd_ne (fun e => h2.2 (by rw [e]; exact m))]; exact h3, h4, VRs.hidUpd m h w h5⟩
  | .tl xs, _, r => by
    unfold VR at *
    obtain ⟨b, vs, h1, h2, h3, h4, h5⟩ := r
    exact ⟨b, vs, h1, h2, by rw [upd_ne (fun e => h2.2 (by rw [e]; exact m))]; exact h3, h4, VRs.hidUpd m h w h5⟩
  | .ro xs, _, r => by
    unfold VR at *
    obtain ⟨b, vs, h1, h2, h4, h5⟩ := r
    refine ⟨b, vs, h1, h2.imp (fun ⟨ob, z⟩ => ⟨ob, ?_⟩) id, h4, VRs.hidUpd m h w h5⟩
    rw [upd_ne (fun e => by rw [e, h] at z; cases z; exact w)]
    exact z
theorem VRs.hidUpd {o u : HO} (m : a ∈ ρ.h) (h : H a = some o) (w : Wr o) : ∀ {p : List PV} {v : List V}, VRs K ρ H p v → VRs K ρ (upd H a u) p v
  | [], _, r => by unfold VRs at *; exact r
  | _ :: _, _, r => by
    unfold VRs at *
    obtain ⟨v, t, h1, h2, h3⟩ := r
    exact ⟨v, t, h1, VR.hidUpd m h w h2, VRs.hidUpd m h w h3⟩
end
/-! other lists of addresses, as long as no frozen list meets them -/
mutual
theorem VR.re {ρ' : Lo} (hp : ρ.l <+: ρ'.l) (hn : ∀ b vs, H b = some (.lst vs) → b ∉ ρ.l → b ∉ ρ.h → b ∉ ρ'.l ∧ b ∉ ρ'.h) : ∀ {p : PV} {v : V}, VR K ρ H p v → VR K ρ' H p v
  | .non, _, r => by unfold VR at *; exact r
  | .bl _, _, r => by unfold VR at *; exact r
  | .int _, _, r => by unfold VR at *; exact r
  | .str _, _, r => by unfold VR at *; exact r
  | .ty _, _, r => by unfold VR at *; exact r
  | .lam c1 c2 q cl vs, _, r => by unfold VR at *; exact ⟨r.1, r.2.1, VRs.re hp hn r.2.2⟩
  | .loc n, _, r => by
    unfold VR at *
    obtain ⟨b, h1, h2⟩ := r
    exact ⟨b, pre_get hp h1, h2⟩
  | .tup xs, _, r => by
    unfold VR at *
    obtain ⟨b, vs, h1, h2, h3, h4⟩ := r
    exact ⟨b, vs, h1, h2, h3, VRs.re hp hn h4⟩
  | .fl xs, _, r => by
    unfold VR at *
    obtain ⟨b, vs, h1, h2, h3, h4, h5⟩ := r
    exact ⟨b, vs, h1, hn b vs h3 h2.1 h2.2, h3, h4, VRs.re hp hn h5⟩
  | .tl xs, _, r => by
    unfold VR at *
    obtain ⟨b, vs, h1, h2, h3, h4, h5⟩ := r
    exact ⟨b, vs, h1, hn b vs h3 h2.1 h2.2, h3, h4, VRs.re hp hn h5⟩
  | .ro xs, _, r => by
    unfold VR at *
    obtain ⟨b, vs, h1, h2, h4, h5⟩ := r
    exact ⟨b, vs, h1, h2, h4, VRs.re hp hn h5⟩
theorem VRs.re {ρ' : Lo} (hp : ρ.l <+: ρ'.l) (hn : ∀ b vs, H b = some (.lst vs) → b ∉ ρ.l → b ∉ ρ.h → b ∉ ρ'.l ∧ b ∉ ρ'.h) : ∀ {p : List PV} {v : List V}, VRs K ρ H p v → VRs K ρ' H p v
  | [], _, r => by unfold VRs at *; exact r
  | _ :: _, _, r => by
    unfold VRs at *
    obtain ⟨v, t, h1, h2, h3⟩ := r
    exact ⟨v, t, h1, VR.re hp hn h2, VRs.re hp hn h3⟩
end
theorem OR.re {ρ' : Lo} {m : MO} {o : HO} (hp : ρ.l <+: ρ'.l) (hn : ∀ b vs, H b = some (.lst vs) → b ∉ ρ.l → b ∉ ρ.h → b ∉ ρ'.l ∧ b ∉ ρ'.h) (h : OR K ρ H m o) : OR K ρ' H m o := by
  cases m with
  | lst xs => obtain ⟨vs, h1, h2, h3⟩ := h; exact ⟨vs, h1, h2, h3.re hp hn⟩
  | dct kvs => obtain ⟨vs, h1, h2, h3, h4⟩ := h; exact ⟨vs, h1, h2, h3, h4.re hp hn⟩
theorem OR.hidUpd {m : MO} {o u : HO} {q : HO} (hm : a ∈ ρ.h) (h : H a = some o) (w : Wr o) (r : OR K ρ H m q) : OR K ρ (upd H a u) m q := by
  cases m with
  | lst xs => obtain ⟨vs, h1, h2, h3⟩ := r; exact ⟨vs, h1, h2, h3.hidUpd hm h w⟩
  | dct kvs => obtain ⟨vs, h1, h2, h3, h4⟩ := r; exact ⟨vs, h1, h2, h3, h4.hidUpd hm h w⟩
theorem SR.hidUpd {o u : HO} (s : SR K T ρ H st) (hm : a ∈ ρ.h) (nl : a ∉ ρ.l) (h : H a = some o) (w : Wr o) (nt : ∀ ps, u ≠ .tbl ps := by intro ps z; cases z) : SR K T ρ (upd H a u) st where
  nd := s.nd
  len := s.len
  hid := fun b m z => by
    by_cases e : b = a
    · subst e; rw [upd_same] at z; cases z
    · rw [upd_ne e] at z; exact s.hid b m z
  ob := fun n b m h1 h2 => by
    obtain ⟨q, z1, z2⟩ := s.ob n b m h1 h2
    exact ⟨q, by rw [upd_ne (fun e => nl (by rw [← e]; exact List.mem_of_getElem? h1))]; exact z1, z2.hidUpd hm h w⟩
  tb := fun p hp => by
    obtain ⟨ps, h1, h2, h3⟩ := s.tb p hp
    refine ⟨ps, by rw [upd_ne (fun e => by rw [e, h] at h1; cases h1; exact w)]; exact h1, h2, fun pos cv hc => ?_⟩
    obtain ⟨c, e1, e2⟩ := h3 pos cv hc
    refine ⟨c, e1, ?_⟩
    rw [upd_ne (fun e => by
      rw [e, h] at e2
      unfold LamX.CodeO at e2
      cases e2
      exact w)]
    exact e2
  tbo := fun b ps z => by
    by_cases e : b = a
    · subst e; rw [upd_same] at z; exact absurd (Option.some.inj z) (nt ps)
    · rw [upd_ne e] at z; exact s.tbo b ps z
theorem Ext.fresh {o : HO} (n : H a = none) : Ext ρ H ρ (upd H a o) where
  pre := List.prefix_rfl
  hid := rfl
  dom := fun b h => by
    by_cases e : b = a
    · subst e; exact n
    · rwa [upd_ne e] at h
  keep := fun b u h _ _ => by rw [upd_ne (ne_of_none h n)]; exact h
  fix := fun b u h _ _ => by rw [upd_ne (ne_of_none h n)]; exact h
  new := fun b m => .inl m
theorem hide_ok (n : H a = none) : ∀ b vs, H b = some (.lst vs) → b ∉ ρ.l → b ∉ ρ.h → b ∉ (ρ.hide a).l ∧ b ∉ (ρ.hide a).h := fun b vs hb n1 n2 =>
  ⟨n1, fun m => (List.mem_cons.mp m).elim (fun e => by rw [e, n] at hb; cases hb) n2⟩
theorem VR.hideNew {o : HO} {p : PV} {v : V} (n : H a = none) (r : VR K ρ H p v) : VR K (ρ.hide a) (upd H a o) p v := VR.mono (Ext.fresh n) (VR.re (ρ := ρ) (ρ' := ρ.hide a) List.prefix_rfl (hide_ok n) r)
/-- hiding a new one -/
theorem SR.hideNew {o : HO} (s : SR K T ρ H st) (n : H a = none) (nt : ∀ ps, o ≠ .tbl ps := by intro ps z; cases z) : SR K T (ρ.hide a) (upd H a o) st where
  nd := s.nd
  len := s.len
  hid := fun b m z => by
    rcases List.mem_cons.mp m with e | m
    · subst e; rw [upd_same] at z; cases z
    · exact s.hid b m ((Ext.laid (o := o) s n).dom b z)
  ob := fun i b m h1 h2 => by
    obtain ⟨q, z1, z2⟩ := s.ob i b m h1 h2
    have z3 : OR K (ρ.hide a) H m q := OR.re (ρ := ρ) List.prefix_rfl (hide_ok n) z2
    exact ⟨q, by rw [upd_ne (ne_of_none z1 n)]; exact z1, z3.mono (Ext.fresh n)⟩
  tb := (s.laid (o := o) n nt).tb
  tbo := (s.laid (o := o) n nt).tbo
theorem ER.hideNew {o : HO} {env : En} {σ : L2.St} (n : H a = none) (e : ER K ρ H env σ) : ER K (ρ.hide a) (upd H a o) env σ := ⟨e.1, fun i p q => let ⟨v, h1, h2, h3⟩ := e.2 i p q; ⟨v, h1, h2.hideNew n, h3⟩⟩
/-- shown again -/
theorem unhide_ok {hs : List Addr} (e : ρ.h = a :: hs) : ∀ b vs, H b = some (.lst vs) → b ∉ ρ.l → b ∉ ρ.h → b ∉ (Lo.mk ρ.l hs).l ∧ b ∉ (Lo.mk ρ.l hs).h := fun b vs _ n1 n2 => ⟨n1, fun m => n2 (by rw [e]; exact List.mem_cons_of_mem _ m)⟩
theorem SR.unhide {hs : List Addr} (s : SR K T ρ H st) (e : ρ.h = a :: hs) : SR K T ⟨ρ.l, hs⟩ H st where
  nd := s.nd
  len := s.len
  hid := fun b m => s.hid b (by rw [e]; exact List.mem_cons_of_mem _ m)
  ob := fun i b m h1 h2 => by
    obtain ⟨q, z1, z2⟩ := s.ob i b m h1 h2
    exact ⟨q, z1, OR.re (ρ := ρ) List.prefix_rfl (unhide_ok e) z2⟩
  tb := s.tb
  tbo := s.tbo
/-- .. as an object of the store -/
theorem SR.reveal {hs : List Addr} {xs : List PV} {vs : List V} (s : SR K T ρ H st) (e : ρ.h = a :: hs) (nl : a ∉ ρ.l) (h : H a = some (.lst vs)) (hl : vs.length ≤ sizeLine) (r : VRs K ρ H xs vs) : SR K T ((Lo.mk ρ.l hs).add a) H (st ++ [.lst xs]) := by
  have ok : ∀ b ws, H b = some (.lst ws) → b ∉ ρ.l → b ∉ ρ.h → b ∉ ((Lo.mk ρ.l hs).add a).l ∧ b ∉ ((Lo.mk ρ.l hs).add a).h := fun b ws _ n1 n2 =>
    ⟨fun m => (List.mem_append.mp m).elim n1 fun z => n2 (by rw [e, List.mem_singleton.mp z]; exact List.mem_cons_self), fun m => n2 (by rw [e]; exact List.mem_cons_of_mem _ m)⟩
  have pre : ρ.l <+: ((Lo.mk ρ.l hs).add a).l := List.prefix_append _ _
  refine ⟨?_, ?_, fun b m => s.hid b (by rw [e]; exact List.mem_cons_of_mem _ m), fun i b m h1 h2 => ?_, s.tb, s.tbo⟩
  · show (ρ.l ++ [a]).Nodup
    rw [List.nodup_append]
    refine ⟨s.nd, by simp, fun x hx y hy q => ?_⟩
    rw [List.mem_singleton.mp hy] at q
    exact nl (by rw [← q]; exact hx)
  · show (ρ.l ++ [a]).length = _
    simp [s.len]
  · replace h1 : (ρ.l ++ [a])[i]? = some b := h1
    by_cases hi : i < ρ.l.length
    · rw [List.getElem?_append_left hi] at h1
      rw [List.getElem?_append_left (by rw [← s.len]; exact hi)] at h2
      obtain ⟨q, z1, z2⟩ := s.ob i b m h1 h2
      exact ⟨q, z1, z2.re pre ok⟩
    · have hb : b ∈ [a] := by
        rw [List.getElem?_append_right (by omega)] at h1
        exact List.mem_of_getElem? h1
      have hy : m ∈ [MO.lst xs] := by
        rw [List.getElem?_append_right (by rw [← s.len]; omega)] at h2
        exact List.mem_of_getElem? h2
      rw [List.mem_singleton.mp hb, List.mem_singleton.mp hy]
      exact ⟨_, h, vs, rfl, hl, r.re pre ok⟩
end
/-! ### list comprehensions -/
def wF : WX := fun _ _ _ _ => False
/-- what raises isn't carried -/
def noX {α : Type} (r : R α) : R α := match r with
  | .ok a st => .ok a st
  | _ => .bad
def wipeE (env : En) : List Nat → En
  | [] => env
  | i :: r => (wipeE env r).set i none
open Classical in
noncomputable def lcL (chk : Option Nat) (all : List PV) (bt : BT) (tst : DT) (elt : D) (env : En) : List PV → List PV → Sto → R PV
  | [], acc, st => if chkP chk all st then .ok (.tl acc) st else .bad
  | x :: xs, acc, st => if chkP chk all st then (match bt (frz x) env with
    | none => .bad
    | some env1 => (noX (tst env1 st)).bind fun b st1 => if b = true then (noX (elt env1 st1)).bind fun v st2 => lcL chk all bt tst elt env xs (acc ++ [frz v]) st2 else lcL chk all bt tst elt env xs acc st1) else .bad
noncomputable def dLc (di : DI) (bt : BT) (tst : DT) (elt : D) (vs : List Nat) : D := fun env st => (di env st).bind fun a st1 => lcL a.2 a.1 bt tst elt (wipeE env vs) a.1 [] st1
theorem wipe_get (σ : L2.St) (i : Nat) : ∀ vs : List Nat, (wipe σ vs)[i]? = if i ∈ vs then (if i < σ.length then some none else none) else σ[i]?
  | [] => by simp [wipe]
  | v :: r => by
    unfold wipe
    rw [List.getElem?_set, wipe_length, wipe_get σ i r]
    by_cases hv : v = i
    · subst hv
      simp
    · have hv' : ¬ i = v := fun z => hv z.symm
      simp [hv, hv']
theorem wipe_off {σ σ2 : L2.St} {sl vs : List Nat} (hs : ∀ i ∈ sl, i ∈ vs) (h : Off sl (wipe σ vs) σ2) : wipe σ2 vs = wipe σ vs := by
  refine List.ext_getElem? fun i => ?_
  rw [wipe_get, wipe_get]
  by_cases hi : i ∈ vs
  · rw [if_pos hi, if_pos hi, h.1, wipe_length]
  · rw [if_neg hi, if_neg hi, h.2 i (fun m => hi (hs i m)), wipe_get, if_neg hi]
theorem wipeE_get (env : En) (i : Nat) : ∀ vs : List Nat, (wipeE env vs)[i]? = if i ∈ vs then (if i < env.length then some none else none) else env[i]?
  | [] => by simp [wipeE]
  | v :: r => by
    have hl : ∀ vs : List Nat, (wipeE env vs).length = env.length := by
      intro vs
      induction vs with
      | nil => rfl
      | cons a r ih => unfold wipeE; rw [List.length_set, ih]
    unfold wipeE
    rw [List.getElem?_set, hl, wipeE_get env i r]
    by_cases hv : v = i
    · subst hv
      simp
    · have hv' : ¬ i = v := fun z => hv z.symm
      simp [hv, hv']
theorem wipeE_length (env : En) : ∀ vs : List Nat, (wipeE env vs).length = env.length
  | [] => rfl
  | _ :: r => by unfold wipeE; rw [List.length_set, wipeE_length env r]
theorem ER.wipe {K : PySem.W.Frag} {ρ : Lo} {H : Hp} {env : En} {σ : L2.St} (e : ER K ρ H env σ) (vs : List Nat) : ER K ρ H (wipeE env vs) (L2.wipe σ vs) := by
  refine ⟨by rw [wipeE_length, wipe_length]; exact e.1, fun i p h => ?_⟩
  rw [wipeE_get] at h
  by_cases hi : i ∈ vs
  · rw [if_pos hi] at h
    split at h <;> cases h
  · rw [if_neg hi] at h
    obtain ⟨v, h1, h2⟩ := e.2 i p h
    exact ⟨v, by rw [wipe_get, if_neg hi]; exact h1, h2⟩
theorem noX_bind {α β : Type} {r : R α} {k : α → Sto → R β} {ok : β → Sto → Prop} {ex : Str → PV → Sto → Prop} (h : RP ((noX r).bind k) ok ex) : ∃ a st, r = .ok a st ∧ RP (k a st) ok ex := by
  cases r with
  | ok a st => exact ⟨a, st, rfl, h⟩
  | ex c w st => exact h.elim
  | bad => exact h.elim
section
variable {g : G} {W : WX} {X : Cx} {pos : Pos}
theorem lc_end {di : DI} {bt : BT} {sl : List Nat} {tst : DT} {elt : D} {vs : List Nat} {σ : L2.St} {H : Hp} {Q : VK} (hsl : ∀ i ∈ sl, i ∈ vs) (h : tD g W (dLc di bt tst elt vs) σ H Q) : tLc (tIt g W di) (tGt g sl bt) (tDT g wF tst) (tD g wF elt) vs σ H Q := by
  obtain ⟨ρ, env, st, s, e, h⟩ := h
  refine ⟨ρ, env, st, s, e, ?_⟩
  unfold dLc at h
  cases q : di env st with
  | bad => rw [q] at h; exact h
  | ex c w st1 => rw [q] at h; exact h
  | ok a st1 =>
    rw [q] at h
    obtain ⟨items, chk⟩ := a
    intro ρ1 H1 J x1 s1 gv Da hD
    have h1 : RP (lcL chk items bt tst elt (wipeE env vs) items [] st1) (okE g Q ρ1 H1) (xP g W σ ρ1 H1) := RP.mono okE.mono x1 h
    have e1 : ER g.K ρ1 H1 env σ := e.mono x1
    refine ⟨fun i m H' => m = items.length - i ∧ i ≤ items.length ∧ ∃ ρ' st' accP accV, (∀ q v, VR g.K ρ1 H1 q v → VR g.K ρ' H' q v) ∧ Ext ρ1 H1 ⟨ρ'.l, ρ1.h⟩ H' ∧ ρ'.h = Da :: ρ1.h ∧ Da ∉ ρ'.l ∧ SR g.K g.T ρ' H' st' ∧ ER g.K ρ' H' (wipeE env vs) (L2.wipe σ vs) ∧
      H' Da = some (.lst accV) ∧ VRs g.K ρ' H' accP accV ∧ accP.length ≤ i ∧ RP (lcL chk items bt tst elt (wipeE env vs) (items.drop i) accP st') (okE g Q ρ1 H1) (xP g W σ ρ1 H1),
      ⟨_, rfl, Nat.zero_le _, ρ1.hide Da, st1, [], [], fun q v z => z.hideNew hD, Ext.fresh hD, rfl, s1.free hD, s1.hideNew hD, (e1.wipe vs).hideNew hD, upd_same, .nil, Nat.le_refl _, h1⟩, ?_⟩
    rintro i m H' ⟨rfl, hi, ρ', st', accP, accV, kp, x', hh, nl, s', e', hDa, ra, la, h'⟩
    by_cases hlt : i < items.length
    · rw [List.drop_eq_getElem_cons hlt] at h'
      unfold lcL at h'
      split at h'
      · rename_i hck
        have hget : items[i]? = some items[i] := List.getElem?_eq_getElem hlt
        obtain ⟨g1, g2⟩ := gv.go ρ' H' st' i _ kp s' hck hget
        refine .inr ⟨g1, fun H2 => ∃ ρ2 st2 accP2 accV2, (∀ q v, VR g.K ρ1 H1 q v → VR g.K ρ2 H2 q v) ∧ Ext ρ1 H1 ⟨ρ2.l, ρ1.h⟩ H2 ∧ ρ2.h = Da :: ρ1.h ∧ Da ∉ ρ2.l ∧ SR g.K g.T ρ2 H2 st2 ∧ ER g.K ρ2 H2 (wipeE env vs) (L2.wipe σ vs) ∧
          H2 Da = some (.lst accV2) ∧ VRs g.K ρ2 H2 accP2 accV2 ∧ accP2.length ≤ i + 1 ∧ RP (lcL chk items bt tst elt (wipeE env vs) (items.drop (i + 1)) accP2 st2) (okE g Q ρ1 H1) (xP g W σ ρ1 H1), fun H2 n => ⟨items.length - (i + 1), by omega, rfl, hlt, n⟩, fun x H'' y => ?_⟩
        obtain ⟨y1, y2, y3⟩ := g2 x H'' y
        -- what is carried over an extension
        have carry : ∀ {ρ3 : Lo} {H3 : Hp}, Ext ρ' H' ρ3 H3 → (∀ q v, VR g.K ρ1 H1 q v → VR g.K ρ3 H3 q v) ∧ Ext ρ1 H1 ⟨ρ3.l, ρ1.h⟩ H3 ∧ ρ3.h = Da :: ρ1.h ∧ Da ∉ ρ3.l ∧ H3 Da = some (.lst accV) := fun {ρ3 H3} z =>
          ⟨fun q v w => (kp q v w).mono z, ⟨x'.pre.trans z.pre, rfl, fun b w => x'.dom b (z.dom b w), fun b o w n t => z.keep b o (x'.keep b o w n t) (fun m => (x'.new b m).elim n fun z' => by rw [w] at z'; cases z') t,
            fun b o w n t => z.fix b o (x'.fix b o w n t) n t, fun b m => (z.new b m).elim (x'.new b) fun w => .inr (x'.dom b w)⟩, z.hid.trans hh, fun m => (z.new Da m).elim nl fun w => (nomatch (hDa.symm.trans w)), z.keep Da _ hDa nl fun ps w => (nomatch w)⟩
        cases qb : bt (frz items[i]) (wipeE env vs) with
        | none => simp only [qb] at h'; exact h'.elim
        | some env1 =>
          simp only [qb] at h'
          obtain ⟨b, st2, qt, h2⟩ := noX_bind h'
          refine ⟨ρ', _, st', _, env1, y2, e'.mono y1, y3, frz_nt _, qb, fun σ2 e2 off => ⟨wipe_off hsl off, ρ', env1, st', y2, e2, ?_⟩⟩
          rw [qt]
          intro ρ3 H3 z3 s3
          have c3 := carry (y1.trans z3)
          cases b with
          | false =>
            rw [if_neg (by simp)] at h2 ⊢
            exact ⟨ρ3, st2, accP, accV, c3.1, c3.2.1, c3.2.2.1, c3.2.2.2.1, s3, e'.mono (y1.trans z3), c3.2.2.2.2, ra.mono (y1.trans z3), Nat.le_succ_of_le la, h2⟩
          | true =>
            rw [if_pos rfl] at h2 ⊢
            obtain ⟨v, st3, qe, h3⟩ := noX_bind h2
            refine ⟨ρ3, env1, st2, s3, e2.mono z3, ?_⟩
            rw [qe]
            intro ρ4 H4 u P
            have x4 := (y1.trans z3).trans P.ext
            have c4 := carry x4
            have hm : Da ∈ ρ4.h := by rw [c4.2.2.1]; exact List.mem_cons_self
            have ra4 := ra.mono x4
            refine ⟨accV, c4.2.2.2.2, by rw [ra.length]; exact Nat.lt_of_le_of_lt la (Nat.lt_of_lt_of_le hlt gv.len), ρ4, st3, accP ++ [frz v], accV ++ [u], fun q w z => (c4.1 q w z).hidUpd hm c4.2.2.2.2 trivial, ?_, c4.2.2.1, c4.2.2.2.1, P.sr.hidUpd hm c4.2.2.2.1 c4.2.2.2.2 trivial,
              ⟨(e'.mono x4).1, fun i p z => let ⟨w, w1, w2, w3⟩ := (e'.mono x4).2 i p z; ⟨w, w1, w2.hidUpd hm c4.2.2.2.2 trivial, w3⟩⟩, upd_same, (ra4.append (.cons P.vr.frz .nil)).hidUpd hm c4.2.2.2.2 trivial, by rw [List.length_append]; exact Nat.succ_le_succ la, h3⟩
            have E := c4.2.1
            refine ⟨E.pre, rfl, fun b w => ?_, fun b o w n t => ?_, fun b o w n t => ?_, E.new⟩
            · by_cases hb : b = Da
              · subst hb; exact hD
              · rw [upd_ne hb] at w; exact E.dom b w
            · rw [upd_ne (ne_of_none w hD)]; exact E.keep b o w n t
            · rw [upd_ne (ne_of_none w hD)]; exact E.fix b o w n t
      · exact h'.elim
    · have hi2 : i = items.length := by omega
      subst hi2
      rw [List.drop_length] at h'
      unfold lcL at h'
      split at h'
      · rename_i hck
        refine .inl ⟨gv.stop ρ' H' st' kp s' hck, h' ⟨ρ'.l, ρ1.h⟩ H' _ ⟨x', s'.unhide hh, ?_, fun xs ez => ?_⟩⟩
        · unfold VR
          exact ⟨Da, accV, rfl, ⟨nl, fun m => s1.hid Da m hD⟩, hDa, by rw [ra.length]; exact Nat.le_trans la gv.len, @VRs.re _ ρ' _ ⟨ρ'.l, ρ1.h⟩ List.prefix_rfl (unhide_ok hh) _ _ ra⟩
        · cases ez
          exact ⟨Da, rfl, hD, s'.reveal hh nl hDa (by rw [ra.length]; exact Nat.le_trans la gv.len) ra⟩
      · exact h'.elim
end
end Bb
namespace Bb
open PySem L2 PyProof.Rows
section
variable {g : G} {W : WX} {X : Cx} {pos : Pos}
/-! ### comprehensions as expressions, as what a name gets -/
def dYes : DT := fun _ st => .ok true st
theorem dt_yes {X : Cx} : PTs X [] (tDT g wF dYes) := ⟨fun pins s σ H Q I ⟨ρ, env, st, sr, e, h⟩ => pts_nil.run pins s σ H Q I (h ρ H (.refl _ _) sr)⟩
theorem de_lc {elt tg iter : Expr} {ifs : List Expr} {scope : Scope} {own : List (Str × Nat)} {di : DI} {bt : BT} {sl : List Nat} {tst : DT} {de : D} (hc : X.calm = true) (hN : X.N.Nodup) (hi : PI X tg iter (tIt g W di)) (ok : BlkOk X.N X.env.scope scope own) (hsl : ∀ i ∈ sl, i ∈ own.map (·.2))
    (hg : ∀ (s : Shared) (H : Hp) (C : Addr) (cl : List (Str × Addr)) (fp : List Addr), PG (X.blk s H scope (compEnvC scope cl C X.env) fp) tg (tGt g sl bt)) (ht : ∀ (s : Shared) (H : Hp) (C : Addr) (cl : List (Str × Addr)) (fp : List Addr), PTs (X.blk s H scope (compEnvC scope cl C X.env) fp) ifs (tDT g wF tst))
    (he : ∀ (s : Shared) (H : Hp) (C : Addr) (cl : List (Str × Addr)) (fp : List Addr), PE (X.blk s H scope (compEnvC scope cl C X.env) fp) elt (tD g wF de)) (hs : ∀ x, foldedSetIterable iter X.env x = pure x) :
    PE X (.ListComp elt [⟨tg, iter, ifs, 0⟩] scope pos) (tD g W (dLc di bt tst de (own.map (·.2)))) :=
  PE.imp (pe_lc hc hN hi ok hg ht he hs) fun _ _ _ h => lc_end hsl h
theorem ds_set {i : Nat} {x : Str} {e : Expr} {d : D} {pos' : Pos} (hN : X.N.Nodup) (hi : X.N[i]? = some x) (hx : Loc X.env.scope x) (he : PE X e (tD g W d)) (hs : swapsWith e (some (.Name x pos')) pos.line X.env = pure false) (hf : X.fn x = true ∨ X.env.scope.names.lookup x = some .local) :
    PS X (.Assign [.Name x pos'] e pos) (tS g W (sSet i d)) := PS.imp (ps_set hN hi hx he hs hf) fun _ _ _ h => set_end h
theorem ds_setM {i : Nat} {x : Str} {e : Expr} {d : D} {pos' : Pos} (hN : X.N.Nodup) (hi : X.N[i]? = some x) (hx : Loc X.env.scope x) (he : PE X e (tD g W d)) (hs : swapsWith e (some (.Name x pos')) pos.line X.env = pure false) (hf : X.fn x = true ∨ X.env.scope.names.lookup x = some .local) :
    PS X (.Assign [.Name x pos'] e pos) (tS g W (sSetM i d)) := PS.imp (ps_set hN hi hx he hs hf) fun _ _ _ h => setM_end h
theorem lc_asg {di : DI} {bt : BT} {sl : List Nat} {tst : DT} {elt : D} {vs : List Nat} {gn : TG} {F : Ends} {σ : L2.St} {H : Hp} (hsl : ∀ i ∈ sl, i ∈ vs) (h : tAsg (tD g W (dLc di bt tst elt vs)) gn F σ H) : tAsg (tLc (tIt g W di) (tGt g sl bt) (tDT g wF tst) (tD g wF elt) vs) gn F σ H := lc_end hsl h
theorem ds_setLc {i : Nat} {y : Str} {py : Pos} {elt tg iter : Expr} {ifs : List Expr} {scope : Scope} {own : List (Str × Nat)} {spos : Pos} {di : DI} {bt : BT} {sl : List Nat} {tst : DT} {de : D} (hc : X.calm = true) (hN : X.N.Nodup) (hy : X.N[i]? = some y) (hyl : X.env.scope.names.lookup y = some .local)
    (hsw : swapsWith (.ListComp elt [⟨tg, iter, ifs, 0⟩] scope pos) (some (.Name y py)) spos.line X.env = pure true) (hi : PI X tg iter (tIt g W di)) (ok : BlkOk X.N X.env.scope scope own) (hsl : ∀ i ∈ sl, i ∈ own.map (·.2))
    (hg : ∀ (s : Shared) (H : Hp) (C : Addr) (cl : List (Str × Addr)) (fp : List Addr), PG (X.blk s H scope (compEnvC scope cl C X.env) fp) tg (tGt g sl bt)) (ht : ∀ (s : Shared) (H : Hp) (C : Addr) (cl : List (Str × Addr)) (fp : List Addr), PTs (X.blk s H scope (compEnvC scope cl C X.env) fp) ifs (tDT g wF tst))
    (he : ∀ (s : Shared) (H : Hp) (C : Addr) (cl : List (Str × Addr)) (fp : List Addr), PE (X.blk s H scope (compEnvC scope cl C X.env) fp) elt (tD g wF de)) (hs : ∀ x, foldedSetIterable iter X.env x = pure x) (M : Bool) :
    PS X (.Assign [.Name y py] (.ListComp elt [⟨tg, iter, ifs, 0⟩] scope pos) spos) (tS g W (if M = true then sSetM i (dLc di bt tst de (own.map (·.2))) else sSet i (dLc di bt tst de (own.map (·.2))))) :=
  PS.imp (ps_setLc hc hN hy hyl hsw hi ok hg ht he hs) fun _ _ _ h => by
    cases M with
    | true => exact lc_asg hsl (setM_end h)
    | false => exact lc_asg hsl (set_end h)
/-! ### o[i] = e -/
def setP (st : Sto) (o i v : PV) : Option Sto := match o, i with
  | .loc n, .int k => match st[n]? with
    | some (.lst xs) => (ixN xs.length k).map fun j => st.set n (.lst (xs.set j v))
    | _ => none
  | _, _ => none
def sSub (de dO dI : D) : DS := fun env st => (de env st).toS env fun v st1 => (dO env st1).toS env fun o st2 => (dI env st2).toS env fun i st3 => match setP st3 o i (frz v) with
  | some st4 => .nx env st4
  | none => .bad
theorem ds_sub {o i e : Expr} {de dO dI : D} {pos' : Pos} (he : PE X e (tD g W de)) (ho : PE X o (tD g W dO)) (hi : PE X i (tD g W dI)) (hs : swapsWithSole [.Subscript o i pos'] e pos.line X.env = pure false) (hw : swappedStores [.Subscript o i pos'] e X.env = pure none)
    (h1 : (assignEach [.Subscript o i pos'] X.env).map (·.2) = [assign (.Subscript o i pos') X.env])
    (ha : ∀ v, assign (.Subscript o i pos') X.env v = (do
      let ov ← holding [v] (eval o X.env)
      let iv ← holding [v, ov] (eval i X.env)
      standAt pos'
      holding [v, ov, iv] (setItem ov iv v)
      release [v, ov, iv] [])) : PS X (.Assign [.Subscript o i pos'] e pos) (tS g W (sSub de dO dI)) :=
  PS.imp (ps_asg he (pg_sub ho hi set_list ha) hs hw h1) fun F σ H ⟨ρ, env, st, s, e, h⟩ =>
    tD_toS s e h fun ρ1 H1 v st1 u P h1 => tD_toS P.sr (e.mono P.ext) h1 fun ρ2 H2 o st2 w P2 h2 => tD_toS P2.sr ((e.mono P.ext).mono P2.ext) h2 fun ρ3 H3 i st3 z P3 h3 => by
      cases q : setP st3 o i (frz v) with
      | none => rw [q] at h3; exact h3.elim
      | some st4 =>
        rw [q] at h3
        unfold setP at q
        split at q
        · rename_i n k
          split at q
          · rename_i xs hn
            obtain ⟨j, hj, rfl⟩ := Option.map_eq_some_iff.mp q
            have ro := P2.vr.mono P3.ext
            unfold VR at ro
            obtain ⟨a, ha, rfl⟩ := ro
            cases vr_int P3.vr
            obtain ⟨ob, z1, vs, rfl, z2, z3⟩ := P3.sr.ob n a _ ha hn
            refine ⟨a, vs, k, j, rfl, rfl, z1, by rw [z3.length]; exact hj, ?_⟩
            have rv := ((P.vr.mono P2.ext).mono P3.ext).frz
            have m : a ∈ ρ3.l := List.mem_of_getElem? ha
            have x4 := Ext.write (u := .lst (vs.set j u)) P3.sr m z1 trivial
            exact h3 ρ3 σ _ x4 (P3.sr.write ha z1 trivial ⟨_, rfl, by rw [List.length_set]; exact z2, z3.set rv j⟩) ((((e.mono P.ext).mono P2.ext).mono P3.ext).mono x4)
          · cases q
        · cases q
/-! ### methods -/
def rMP (g : G) (f : Sto → PV → List PV → Option (PV × Sto)) : V → List V → Hp → VK → Prop := fun u us H Q => ∃ ρ st x xs z st', SR g.K g.T ρ H st ∧ VR g.K ρ H x u ∧ VRs g.K ρ H xs us ∧ f st x xs = some (z, st') ∧ okE g Q ρ H z st'
def isLoc (st : Sto) : PV → Bool
  | .loc n => match st[n]? with
    | some (.lst _) => true
    | _ => false
  | _ => false
def dMeth (f : Sto → PV → List PV → Option (PV × Sto)) (o : D) (a : DA) : D := fun env st => (o env st).bind fun x st1 => if isLoc st1 x = true then (a env st1).bind fun xs st2 => match f st2 x xs with
  | some (z, st3) => .ok z st3
  | none => .bad else .bad
theorem isLoc_ok {ρ : Lo} {H : Hp} {st : Sto} {x : PV} {u : V} (s : SR g.K g.T ρ H st) (r : VR g.K ρ H x u) (h : isLoc st x = true) : tyV g.K "list" u H := by
  cases x with
  | loc n =>
    replace h : (match st[n]? with | some (.lst _) => true | _ => false) = true := h
    split at h
    · rename_i xs hn
      unfold VR at r
      obtain ⟨a, h1, rfl⟩ := r
      obtain ⟨o, z1, vs, rfl, _⟩ := s.ob n a _ h1 hn
      exact .inl ⟨rfl, vs, .of z1⟩
    · cases h
  | _ => cases h
theorem de_meth {o e : Expr} {es : List Expr} {name : Str} {apos cpos : Pos} {id : String} {f : Sto → PV → List PV → Option (PV × Sto)} {dO : D} {da : DA} (hK : g.K = X.K) (slot : PySem.Slot "list" name id) (hty : typeOf (.builtin id) = pure (.type "method_descriptor")) (hm : MtR X id (rMP g f)) (ho : PE X o (tD g W dO)) (ha : PA X (e :: es) (tDA g W da))
    (hbase : attributeBase o name X.env (eval o X.env) = eval o X.env)
    (hfew : ((backTo cpos (starEach (e :: es) X.env)).all (fun x => !x.1) && (backToKw cpos (keywordEach [] X.env)).all (fun x => x.1.isSome) && decide ((e :: es).length + ([] : List Keyword).length + (if ([] : List Keyword).isEmpty then 0 else 1) < 30)) = true)
    (hline : (apos.endLine == cpos.line) = true) (hs : starEach (e :: es) X.env = (false, eval e X.env) :: starEach es X.env) (hplain : (backTo cpos (starEach es X.env)).any (·.1) = false) :
    PE X (.Call (.Attribute o name apos) (e :: es) [] cpos) (tD g W (dMeth f dO da)) :=
  PE.imp (pe_bm PySem.F.plainAttrs_list slot hty hm ho ha hbase hfew hline hs hplain) fun σ H Q ⟨ρ, env, st, s, e, h⟩ => tD_of okE.mono s e h fun ρ1 H1 x st1 u P h1 => by
    split at h1
    · rename_i hl
      refine ⟨hK ▸ isLoc_ok P.sr P.vr hl, tDA_of okE.mono P.sr (e.mono P.ext) h1 fun ρ2 H2 xs st2 us x2 s2 r2 h2 => ?_⟩
      cases q : f st2 x xs with
      | none => rw [q] at h2; exact h2.elim
      | some zz =>
        obtain ⟨z, st3⟩ := zz
        rw [q] at h2
        exact ⟨ρ2, st2, x, xs, z, st3, s2, P.vr.mono x2, r2, q, h2⟩
    · exact h1.elim
theorem de_meth0 {o : Expr} {name : Str} {apos cpos : Pos} {id : String} {f : Sto → PV → List PV → Option (PV × Sto)} {dO : D} (hK : g.K = X.K) (slot : PySem.Slot "list" name id) (hty : typeOf (.builtin id) = pure (.type "method_descriptor")) (hm : MtR X id (rMP g f)) (ho : PE X o (tD g W dO))
    (hbase : attributeBase o name X.env (eval o X.env) = eval o X.env) (hline : (apos.endLine == cpos.line) = true) : PE X (.Call (.Attribute o name apos) [] [] cpos) (tD g W (dMeth f dO dNil)) :=
  PE.imp (pe_bm0 PySem.F.plainAttrs_list slot hty hm ho hbase hline) fun σ H Q ⟨ρ, env, st, s, e, h⟩ => tD_of okE.mono s e h fun ρ1 H1 x st1 u P h1 => by
    split at h1
    · rename_i hl
      refine ⟨hK ▸ isLoc_ok P.sr P.vr hl, ?_⟩
      unfold dNil at h1
      simp only [R.bind_ok] at h1
      cases q : f st1 x [] with
      | none => rw [q] at h1; exact h1.elim
      | some zz =>
        obtain ⟨z, st3⟩ := zz
        rw [q] at h1
        exact ⟨ρ1, st1, x, [], z, st3, P.sr, P.vr, .nil, q, h1⟩
    · exact h1.elim
theorem loc_at {ρ : Lo} {H : Hp} {st : Sto} {n : Nat} {u : V} {xs : List PV} (s : SR g.K g.T ρ H st) (r : VR g.K ρ H (.loc n) u) (h : st[n]? = some (.lst xs)) : ∃ a vs, u = .ref a ∧ ρ.l[n]? = some a ∧ H a = some (.lst vs) ∧ vs.length ≤ sizeLine ∧ VRs g.K ρ H xs vs := by
  unfold VR at r
  obtain ⟨a, h1, rfl⟩ := r
  obtain ⟨o, z1, vs, rfl, z2, z3⟩ := s.ob n a _ h1 h
  exact ⟨a, vs, rfl, h1, z1, z2, z3⟩
theorem Post.write {ρ : Lo} {H : Hp} {st : Sto} {n : Nat} {a : Addr} {vs ws : List V} {ys : List PV} {p : PV} {u : V} (s : SR g.K g.T ρ H st) (hn : ρ.l[n]? = some a) (h : H a = some (.lst vs)) (hl : ws.length ≤ sizeLine) (r : VRs g.K ρ H ys ws) (rp : VR g.K ρ H p u) (nt : ∀ xs, p ≠ .tl xs) :
    Post g.K g.T ρ H ρ (upd H a (.lst ws)) (st.set n (.lst ys)) p u := by
  have x := Ext.write (u := .lst ws) s (List.mem_of_getElem? hn) h trivial
  exact ⟨x, s.write hn h trivial ⟨ws, rfl, hl, r⟩, rp.mono x, fun xs e => absurd e (nt xs)⟩
def appendP (st : Sto) (x : PV) (ys : List PV) : Option (PV × Sto) := match x, ys with
  | .loc n, [y] => match st[n]? with
    | some (.lst xs) => if xs.length < 16777216 then some (.non, st.set n (.lst (xs ++ [y]))) else none
    | _ => none
  | _, _ => none
theorem mt_appendP : MtR X "list.append" (rMP g appendP) := by
  intro pins s σ H u us v ws Q I ru rus ⟨ρ, st, x, xs, z, st', sr, rx, rxs, hz, k⟩
  unfold appendP at hz
  split at hz
  · rename_i n y
    split at hz
    · rename_i items hn
      split at hz
      · rename_i hl
        cases hz
        obtain ⟨a, vs, rfl, h1, h2, h3, h4⟩ := loc_at sr rx hn
        obtain ⟨w, rfl, ry⟩ := vrs1 rxs
        have hl' : vs.length < sizeLine := by rw [h4.length, sizeLine_eq]; exact hl
        exact mt_append pins s σ H _ _ v ws Q I ru rus ⟨a, vs, w, rfl, rfl, h2, hl', k ρ _ _ (.write sr h1 h2 (by rw [List.length_append]; exact hl') (h4.append (.cons ry .nil)) non_vr (fun _ z => by cases z))⟩
      · cases hz
    · cases hz
  · cases hz
def extendP (st : Sto) (x : PV) (ys : List PV) : Option (PV × Sto) := match x, ys with
  | .loc n, [y] => match st[n]? with
    | some (.lst xs) => match asM st y with
      | some zs => if xs.length + zs.length ≤ 16777216 then some (.non, st.set n (.lst (xs ++ zs))) else none
      | none => none
    | _ => none
  | _, _ => none
theorem mt_extendP : MtR X "list.extend" (rMP g extendP) := by
  intro pins s σ H u us v ws Q I ru rus ⟨ρ, st, x, xs, z, st', sr, rx, rxs, hz, k⟩
  unfold extendP at hz
  split at hz
  · rename_i n y
    split at hz
    · rename_i items hn
      split at hz
      · rename_i zs hy
        split at hz
        · rename_i hl
          cases hz
          obtain ⟨a, vs, rfl, h1, h2, h3, h4⟩ := loc_at sr rx hn
          obtain ⟨w, rfl, ry⟩ := vrs1 rxs
          obtain ⟨b, us, rfl, h5, h6, h7⟩ := asM_ok sr ry hy
          have hl' : vs.length + us.length ≤ sizeLine := by rw [h4.length, h7.length, sizeLine_eq]; exact hl
          exact mt_extend pins s σ H _ _ v ws Q I ru rus ⟨a, b, vs, us, rfl, rfl, h2, h5, hl', k ρ _ _ (.write sr h1 h2 (by rw [List.length_append]; exact hl') (h4.append h7) non_vr (fun _ z => by cases z))⟩
        · cases hz
      · cases hz
    · cases hz
  · cases hz
theorem VRs.dropLast {K : PySem.W.Frag} {ρ : Lo} {H : Hp} {xs : List PV} {vs : List V} (h : VRs K ρ H xs vs) : VRs K ρ H xs.dropLast vs.dropLast := by
  rw [List.dropLast_eq_take, List.dropLast_eq_take, h.length]
  exact h.take _
theorem VRs.eraseIdx {K : PySem.W.Frag} {ρ : Lo} {H : Hp} : ∀ {xs : List PV} {vs : List V} (i : Nat), VRs K ρ H xs vs → VRs K ρ H (xs.eraseIdx i) (vs.eraseIdx i)
  | [], _, _, h => by unfold VRs at h; subst h; exact .nil
  | _ :: _, _, 0, h => by unfold VRs at h; obtain ⟨v, r, rfl, h2, h3⟩ := h; exact h3
  | _ :: _, _, i + 1, h => by unfold VRs at h; obtain ⟨v, r, rfl, h2, h3⟩ := h; exact .cons h2 (h3.eraseIdx i)
def popP (st : Sto) (x : PV) (ys : List PV) : Option (PV × Sto) := match x, ys with
  | .loc n, [] => match st[n]? with
    | some (.lst xs) => (xs[xs.length - 1]?).map fun y => (frz y, st.set n (.lst xs.dropLast))
    | _ => none
  | .loc n, [.int i] => match st[n]? with
    | some (.lst xs) => if -1000000000 ≤ i ∧ i ≤ 1000000000 then (match seqIndex? i xs.length with
      | some k => (xs[k]?).map fun y => (frz y, st.set n (.lst (xs.eraseIdx k)))
      | none => none) else none
    | _ => none
  | _, _ => none
theorem mt_popP : MtR X "list.pop" (rMP g popP) := by
  intro pins s σ H u us v ws Q I ru rus ⟨ρ, st, x, xs, z, st', sr, rx, rxs, hz, k⟩
  unfold popP at hz
  split at hz
  · rename_i n
    split at hz
    · rename_i items hn
      obtain ⟨y, hy, he⟩ := Option.map_eq_some_iff.mp hz
      cases he
      obtain ⟨a, vs, rfl, h1, h2, h3, h4⟩ := loc_at sr rx hn
      unfold VRs at rxs
      subst rxs
      obtain ⟨w, hw, rw'⟩ := h4.get hy
      exact mt_pop pins s σ H _ _ v ws Q I ru rus ⟨a, vs, w, rfl, rfl, h2, by rw [h4.length]; exact hw, k ρ _ _ (.write sr h1 h2 (by rw [List.length_dropLast]; omega) h4.dropLast rw'.frz (frz_nt y))⟩
    · cases hz
  · rename_i n i
    split at hz
    · rename_i items hn
      split at hz
      · rename_i hi
        split at hz
        · rename_i j hj
          obtain ⟨y, hy, he⟩ := Option.map_eq_some_iff.mp hz
          cases he
          obtain ⟨a, vs, rfl, h1, h2, h3, h4⟩ := loc_at sr rx hn
          obtain ⟨w', rfl, ri⟩ := vrs1 rxs
          cases vr_int ri
          obtain ⟨w, hw, rw'⟩ := h4.get hy
          exact mt_popAt pins s σ H _ _ v ws Q I ru rus ⟨a, vs, i, j, w, rfl, rfl, h2, by omega, by omega, by rw [h4.length]; exact hj, hw, k ρ _ _ (.write sr h1 h2 (Nat.le_trans (len_erase vs j) h3) (h4.eraseIdx j) rw'.frz (frz_nt y))⟩
        · cases hz
      · cases hz
    · cases hz
  · cases hz
/-- tuple(range(..)), list(range(..)) -/
theorem rg_vrs {ρ : Lo} {H : Hp} (i : Int) (n : Nat) : VRs g.K ρ H (rngL i n) ((List.range n).map fun k => V.int (i + (k : Nat))) := by
  unfold rngL
  induction (List.range n) with
  | nil => exact .nil
  | cons a r ih => exact .cons (int_vr _) ih
def rgMk (lst : Bool) (_ : Sto) (xs : List PV) : Option PV := match xs with
  | [.int j] => if -8388608 ≤ j ∧ j ≤ 8388608 then some (if lst then .tl (rngL 0 j.toNat) else .tup (rngL 0 j.toNat)) else none
  | [.int i, .int j] => if (-8388608 ≤ j ∧ j ≤ 8388608) ∧ -8388608 ≤ i ∧ i ≤ 8388608 then some (if lst then .tl (rngL i (j - i).toNat) else .tup (rngL i (j - i).toNat)) else none
  | _ => none
theorem de_tupRg1 {a : Expr} {d : D} {p p2 q pos : Pos} (hc : X.calm = true) (hg : Gl X "tuple") (hm : X.mg "tuple" = none) (hg2 : Gl X "range") (hm2 : X.mg "range" = none) (ha : PE X a (tD g W d)) (na : starEach [a] X.env = (false, eval a X.env) :: starEach [] X.env)
    (na2 : starEach [.Call (.Name "range" p2) [a] [] q] X.env = (false, eval (.Call (.Name "range" p2) [a] [] q) X.env) :: starEach [] X.env) : PE X (.Call (.Name "tuple" p) [.Call (.Name "range" p2) [a] [] q] [] pos) (tD g W (dN (rgMk false) (dCons d dNil))) :=
  PE.imp (pe_tupRg hc hg hm (prg_1 hg2 hm2 ha na) na2) fun σ H Q ⟨ρ, env, st, s, e, h⟩ => by
    have h' : RP ((d env st).bind fun x st1 => ofO st1 (rgMk false st1 [frz x])) (okE g Q ρ H) (xP g W σ ρ H) := by
      unfold dN dCons dNil at h
      cases q : d env st <;> rw [q] at h <;> exact h
    exact tD_of okE.mono s e h' fun ρ1 H1 x st1 u P h1 => by
      obtain ⟨z, hz, k⟩ := ofO_ok h1
      cases x <;> first | (cases hz; done) | skip
      rename_i j
      replace hz : (if -8388608 ≤ j ∧ j ≤ 8388608 then some (.tup (rngL 0 j.toNat)) else none) = some z := hz
      split at hz
      · rename_i hj
        cases hz
        have e1 : ((List.range (j - 0).toNat).map fun (i : Nat) => V.int (0 + (i : Nat))).length ≤ sizeLine := by rw [List.length_map, List.length_range, sizeLine_eq]; omega
        have r := rg_vrs (g := g) (ρ := ρ1) (H := H1) 0 (j - 0).toNat
        rw [show rngL 0 j.toNat = rngL 0 (j - 0).toNat from by rw [Int.sub_zero]] at k
        exact ⟨j, vr_int P.vr, ⟨by omega, by omega, by omega, by omega, by omega⟩, fun t nt => k ρ1 _ _ (.newTup P.sr nt e1 r)⟩
      · cases hz
theorem de_lstRg1 {a : Expr} {d : D} {p p2 q pos : Pos} (hc : X.calm = true) (hg : Gl X "list") (hm : X.mg "list" = none) (hg2 : Gl X "range") (hm2 : X.mg "range" = none) (ha : PE X a (tD g W d)) (na : starEach [a] X.env = (false, eval a X.env) :: starEach [] X.env)
    (na2 : starEach [.Call (.Name "range" p2) [a] [] q] X.env = (false, eval (.Call (.Name "range" p2) [a] [] q) X.env) :: starEach [] X.env) : PE X (.Call (.Name "list" p) [.Call (.Name "range" p2) [a] [] q] [] pos) (tD g W (dN (rgMk true) (dCons d dNil))) :=
  PE.imp (pe_listRg hc hg hm (prg_1 hg2 hm2 ha na) na2) fun σ H Q ⟨ρ, env, st, s, e, h⟩ => by
    have h' : RP ((d env st).bind fun x st1 => ofO st1 (rgMk true st1 [frz x])) (okE g Q ρ H) (xP g W σ ρ H) := by
      unfold dN dCons dNil at h
      cases q : d env st <;> rw [q] at h <;> exact h
    exact tD_of okE.mono s e h' fun ρ1 H1 x st1 u P h1 => by
      obtain ⟨z, hz, k⟩ := ofO_ok h1
      cases x <;> first | (cases hz; done) | skip
      rename_i j
      replace hz : (if -8388608 ≤ j ∧ j ≤ 8388608 then some (.tl (rngL 0 j.toNat)) else none) = some z := hz
      split at hz
      · rename_i hj
        cases hz
        have e1 : ((List.range (j - 0).toNat).map fun (i : Nat) => V.int (0 + (i : Nat))).length ≤ sizeLine := by rw [List.length_map, List.length_range, sizeLine_eq]; omega
        have r := rg_vrs (g := g) (ρ := ρ1) (H := H1) 0 (j - 0).toNat
        rw [show rngL 0 j.toNat = rngL 0 (j - 0).toNat from by rw [Int.sub_zero]] at k
        exact ⟨j, vr_int P.vr, ⟨by omega, by omega, by omega, by omega, by omega⟩, fun t nt => k ρ1 _ _ (.newList P.sr nt e1 r)⟩
      · cases hz
/-! ### a, b = e -/
def sAsg (d : D) (b : BT) : DS := fun env st => (d env st).toS env fun v st1 => match b (frz v) env with
  | some env1 => .nx env1 st1
  | none => .bad
theorem ds_asg {tg e : Expr} {d : D} {b : BT} {sl : List Nat} (he : PE X e (tD g W d)) (hg : PG X tg (tGt g sl b)) (hs : swapsWithSole [tg] e pos.line X.env = pure false) (hw : swappedStores [tg] e X.env = pure none) (h1 : (assignEach [tg] X.env).map (·.2) = [assign tg X.env]) :
    PS X (.Assign [tg] e pos) (tS g W (sAsg d b)) :=
  PS.imp (ps_asg he hg hs hw h1) fun F σ H ⟨ρ, env, st, s, e, h⟩ => tD_toS s e h fun ρ1 H1 v st1 u P h1 => by
    cases q : b (frz v) env with
    | none => rw [q] at h1; exact h1.elim
    | some env1 => rw [q] at h1; exact ⟨ρ1, env, st1, _, env1, P.sr, e.mono P.ext, P.vr.frz, frz_nt v, q, fun σ' e' _ => h1 ρ1 σ' H1 (.refl _ _) P.sr e'⟩
/-! ### arguments that the callee changes, parallel stores -/
def mat (m : Bool) (x : PV) (st : Sto) : PV × Sto := match x with
  | .tl xs => if m = true then (.loc st.length, st ++ [.lst xs]) else (.fl xs, st)
  | x => (x, st)
def dConsM (m : Bool) (a : D) (r : DA) : DA := fun env st => (a env st).bind fun x st1 => (r env (mat m x st1).2).bind fun xs st2 => .ok ((mat m x st1).1 :: xs) st2
theorem mat_ok {m : Bool} {ρ ρ1 : Lo} {H H1 : Hp} {st1 : Sto} {x : PV} {u : V} (P : Post g.K g.T ρ H ρ1 H1 st1 x u) : ∃ ρ2, Ext ρ H ρ2 H1 ∧ SR g.K g.T ρ2 H1 (mat m x st1).2 ∧ VR g.K ρ2 H1 (mat m x st1).1 u ∧ ∀ xs, (mat m x st1).1 ≠ .tl xs := by
  have other : (mat m x st1) = (frz x, st1) → ∃ ρ2, Ext ρ H ρ2 H1 ∧ SR g.K g.T ρ2 H1 (mat m x st1).2 ∧ VR g.K ρ2 H1 (mat m x st1).1 u ∧ ∀ xs, (mat m x st1).1 ≠ .tl xs := fun e => by
    rw [e]
    exact ⟨ρ1, P.ext, P.sr, P.vr.frz, frz_nt x⟩
  cases x with
  | tl xs =>
    cases m with
    | false => exact other rfl
    | true =>
      obtain ⟨a, rfl, n, sr⟩ := P.fr xs rfl
      refine ⟨ρ1.add a, ⟨P.ext.pre.trans (List.prefix_append _ _), P.ext.hid, P.ext.dom, P.ext.keep, P.ext.fix, fun b m => (List.mem_append.mp m).elim (P.ext.new b) fun z => .inr (by rw [List.mem_singleton.mp z]; exact n)⟩, sr, ?_, fun _ z => by cases z⟩
      show VR g.K (ρ1.add a) H1 (.loc st1.length) (.ref a)
      unfold VR
      refine ⟨a, ?_, rfl⟩
      show (ρ1.l ++ [a])[_]? = _
      rw [← P.sr.len, List.getElem?_append_right (Nat.le_refl _), Nat.sub_self]
      rfl
  | _ => exact other rfl
theorem da_consM {e : Expr} {es : List Expr} {d : D} {r : DA} {m : Bool} (h : PE X e (tD g W d)) (t : PA X es (tDA g W r)) (hs : starEach (e :: es) X.env = (false, eval e X.env) :: starEach es X.env) : PA X (e :: es) (tDA g W (dConsM m d r)) :=
  PA.imp (pa_cons h t hs) fun σ H Q ⟨ρ, env, st, s, e, h⟩ => by
    refine ⟨ρ, env, st, s, e, ?_⟩
    unfold dConsM at h
    cases q : d env st with
    | bad => rw [q] at h; exact h
    | ex c w st1 => rw [q] at h; exact h
    | ok x st1 =>
      rw [q] at h
      intro ρ1 H1 u P
      obtain ⟨ρ2, x2, s2, r2, _⟩ := mat_ok (m := m) P
      exact tDA_of okA.mono s2 (e.mono x2) (RP.mono okA.mono x2 h) fun ρ3 H3 ys st3 us y1 y2 y3 h3 => h3 ρ3 H3 (u :: us) (.refl _ _) y2 (.cons (r2.mono y1) y3)
/-- no argument is a temporary -/
def NT (d : DA) : Prop := ∀ env st xs st1, d env st = .ok xs st1 → ∀ p ∈ xs, ∀ ys, p ≠ .tl ys
theorem nt_nil : NT dNil := fun _ _ _ _ h => by cases h; simp
theorem mat_nt (m : Bool) (x : PV) (st : Sto) : ∀ ys, (mat m x st).1 ≠ .tl ys := fun ys h => by
  cases x with
  | tl xs => cases m <;> cases h
  | _ => cases h
theorem nt_consM {m : Bool} {a : D} {r : DA} (h : NT r) : NT (dConsM m a r) := fun env st xs st1 e => by
  unfold dConsM at e
  cases q : a env st with
  | ok x st2 =>
    rw [q] at e
    simp only [R.bind_ok] at e
    cases q2 : r env (mat m x st2).2 with
    | ok ys st3 =>
      rw [q2] at e
      cases e
      intro p hp
      rcases List.mem_cons.mp hp with rfl | hp
      · exact mat_nt m x st2
      · exact h _ _ _ _ q2 p hp
    | ex c w st3 => rw [q2] at e; cases e
    | bad => rw [q2] at e; cases e
  | ex c w st2 => rw [q] at e; cases e
  | bad => rw [q] at e; cases e
/-- a, b = x, y -/
def sPar (i j : Nat) (a : DA) : DS := fun env st => (a env st).toS env fun xs st1 => match xs with
  | [x, y] => .nx ((env.set i (some x)).set j (some y)) st1
  | _ => .bad
theorem ds_par {i j : Nat} {x y : Str} {a b : Expr} {da : DA} {px py pt : Pos} {kt k2 : Nat} {pt2 : Pos} (hc : X.calm = true) (hN : X.N.Nodup) (hi : X.N[i]? = some x) (hj : X.N[j]? = some y) (hij : i ≠ j) (hx : X.env.scope.names.lookup x = some .local) (hy : X.env.scope.names.lookup y = some .local)
    (ha : PA X [a, b] (tDA g W da)) (nt : NT da) (hw : swappedStores [.Tuple [.Name x px, .Name y py] kt pt] (.Tuple [a, b] k2 pt2) X.env = pure (some [x, y])) (hs : swapsWithSole [.Tuple [.Name x px, .Name y py] kt pt] (.Tuple [a, b] k2 pt2) pos.line X.env = pure false) :
    PS X (.Assign [.Tuple [.Name x px, .Name y py] kt pt] (.Tuple [a, b] k2 pt2) pos) (tS g W (sPar i j da)) :=
  PS.imp (ps_par hc hN hi hj hij hx hy ha hw hs) fun F σ H ⟨ρ, env, st, s, e, h⟩ => by
    refine ⟨ρ, env, st, s, e, ?_⟩
    unfold sPar at h
    cases q : da env st with
    | bad => rw [q] at h; exact h
    | ex c w st1 => rw [q] at h; exact fun ρ' H' d x => h ρ' σ H' d x (e.mono x.ext)
    | ok xs st1 =>
      rw [q] at h
      have nts := nt _ _ _ _ q
      intro ρ1 H1 us x1 s1 r1
      match xs, h, nts, r1 with
      | [p, p2], h, nts, r1 =>
        obtain ⟨v, w, rfl, r2, r3⟩ := vrs2 r1
        exact ⟨v, w, rfl, h ρ1 _ H1 x1 s1 (((e.mono x1).set r2 (nts p (by simp)) i).set r3 (nts p2 (by simp)) j)⟩
      | [], h, _, _ => exact h.elim
      | [_], h, _, _ => exact h.elim
      | _ :: _ :: _ :: _, h, _, _ => exact h.elim
end
end Bb
namespace Bb
open PySem L2 PyProof.Rows
/-! ### what a def laid is left behind -/
mutual
def clo (n : Nat) : PV → Bool
  | .tup xs => clos n xs
  | .fl xs => clos n xs
  | .tl xs => clos n xs
  | .ro xs => clos n xs
  | .loc m => decide (m < n)
  | .non => true
  | .bl _ => true
  | .int _ => true
  | .str _ => true
  | .ty _ => true
  | .lam _ _ _ cl _ => clos n cl
def clos (n : Nat) : List PV → Bool
  | [] => true
  | x :: xs => clo n x && clos n xs
end
def cloM (n : Nat) : MO → Bool
  | .lst xs => clos n xs
  | .dct kvs => clos n (kvs.map (·.2))
def Lo.cut (ρ : Lo) (n : Nat) : Lo := ⟨ρ.l.take n, ρ.h⟩
section
variable {K : PySem.W.Frag} {T : List (Addr × Str)} {ρ ρ' : Lo} {H H' : Hp} {n : Nat} {st : Sto}
theorem take_sub {l : List Addr} {a : Addr} (h : a ∉ l) : a ∉ l.take n := fun m => h (List.mem_of_mem_take m)
mutual
theorem VR.cl : ∀ {p : PV} {v : V}, clo n p = true → VR K ρ H p v → VR K (ρ.cut n) H p v
  | .non, _, _, r => by unfold VR at *; exact r
  | .bl _, _, _, r => by unfold VR at *; exact r
  | .int _, _, _, r => by unfold VR at *; exact r
  | .str _, _, _, r => by unfold VR at *; exact r
  | .ty _, _, _, r => by unfold VR at *; exact r
  | .lam _ _ _ cl vs, _, c, r => by
    unfold clo at c
    unfold VR at *
    exact ⟨r.1, r.2.1, VRs.cl c r.2.2⟩
  | .loc m, _, c, r => by
    unfold clo at c
    unfold VR at *
    obtain ⟨a, h1, h2⟩ := r
    exact ⟨a, by unfold Lo.cut; rw [List.getElem?_take_of_lt (of_decide_eq_true c)]; exact h1, h2⟩
  | .tup xs, _, c, r => by
    unfold clo at c
    unfold VR at *
    obtain ⟨b, vs, h1, h2, h3, h4⟩ := r
    exact ⟨b, vs, h1, h2, h3, VRs.cl c h4⟩
  | .fl xs, _, c, r => by
    unfold clo at c
    unfold VR at *
    obtain ⟨b, vs, h1, h2, h3, h4, h5⟩ := r
    exact ⟨b, vs, h1, ⟨take_sub h2.1, h2.2⟩, h3, h4, VRs.cl c h5⟩
  | .tl xs, _, c, r => by
    unfold clo at c
    unfold VR at *
    obtain ⟨b, vs, h1, h2, h3, h4, h5⟩ := r
    exact ⟨b, vs, h1, ⟨take_sub h2.1, h2.2⟩, h3, h4, VRs.cl c h5⟩
  | .ro xs, _, c, r => by
    unfold clo at c
    unfold VR at *
    obtain ⟨b, vs, h1, h2, h4, h5⟩ := r
    exact ⟨b, vs, h1, h2, h4, VRs.cl c h5⟩
theorem VRs.cl : ∀ {p : List PV} {v : List V}, clos n p = true → VRs K ρ H p v → VRs K (ρ.cut n) H p v
  | [], _, _, r => by unfold VRs at *; exact r
  | _ :: _, _, c, r => by
    unfold clos at c
    rw [Bool.and_eq_true] at c
    unfold VRs at *
    obtain ⟨v, t, h1, h2, h3⟩ := r
    exact ⟨v, t, h1, VR.cl c.1 h2, VRs.cl c.2 h3⟩
end
theorem OR.cut {m : MO} {o : HO} (c : cloM n m = true) (h : OR K ρ H m o) : OR K (ρ.cut n) H m o := by
  cases m with
  | lst xs => obtain ⟨vs, h1, h2, h3⟩ := h; exact ⟨vs, h1, h2, h3.cl c⟩
  | dct kvs => obtain ⟨vs, h1, h2, h3, h4⟩ := h; exact ⟨vs, h1, h2, h3, h4.cl c⟩
theorem SR.cut (s : SR K T ρ H st) (c : (st.take n).all (cloM n) = true) : SR K T (ρ.cut n) H (st.take n) where
  nd := s.nd.sublist (List.take_sublist _ _)
  len := by unfold Lo.cut; rw [List.length_take, List.length_take, s.len]
  hid := s.hid
  ob := fun i a m h1 h2 => by
    have h1 : (ρ.l.take n)[i]? = some a := h1
    have hm : cloM n m = true := List.all_eq_true.mp c m (List.mem_of_getElem? h2)
    rw [List.getElem?_take] at h1 h2
    split at h1
    · rename_i hi
      rw [if_pos hi] at h2
      obtain ⟨o, z, r⟩ := s.ob i a m h1 h2
      exact ⟨o, z, r.cut hm⟩
    · cases h1
  tb := s.tb
  tbo := s.tbo
theorem Ext.cut (e : Ext ρ H ρ' H') : Ext ρ H (ρ'.cut ρ.l.length) H' where
  pre := by
    obtain ⟨t, ht⟩ := e.pre
    refine ⟨[], ?_⟩
    show ρ.l ++ [] = ρ'.l.take ρ.l.length
    rw [← ht, List.take_left, List.append_nil]
  hid := e.hid
  dom := e.dom
  keep := e.keep
  fix := e.fix
  new := fun a m => e.new a (List.mem_of_mem_take m)
/-- a list of the def's own, handed out -/
theorem SR.out {a : Addr} {m : Nat} {xs : List PV} (s : SR K T ρ H st) (c : (st.take n).all (cloM n) = true) (hn : n ≤ m) (ha : ρ.l[m]? = some a) (hm : st[m]? = some (.lst xs)) (cx : clos n xs = true) :
    SR K T ((ρ.cut n).add a) H (st.take n ++ [.lst xs]) ∧ ∃ vs, H a = some (.lst vs) ∧ vs.length ≤ sizeLine ∧ VRs K (ρ.cut n) H xs vs := by
  have hml : m < ρ.l.length := (List.getElem?_eq_some_iff.mp ha).1
  have hna : a ∉ ρ.l.take n := fun q => by
    obtain ⟨i, hi⟩ := List.getElem?_of_mem q
    rw [List.getElem?_take] at hi
    split at hi
    · rename_i hin
      obtain ⟨l1, e1⟩ := List.getElem?_eq_some_iff.mp hi
      obtain ⟨l2, e2⟩ := List.getElem?_eq_some_iff.mp ha
      have := (List.getElem_inj s.nd).mp (e1.trans e2.symm)
      omega
    · cases hi
  have sc := s.cut c
  obtain ⟨o, z, vs, rfl, hl, r⟩ := s.ob m a _ ha hm
  have r1 := r.cl (n := n) cx
  have e2 : ∀ {p : List PV} {w : List V}, VRs K (ρ.cut n) H p w → (∀ b ws, H b = some (.lst ws) → b ∉ (ρ.cut n).l → b ≠ a) → True := fun _ _ => trivial
  -- a stands in no frozen list of what is kept
  have grow : ∀ (k : Nat), (∀ {p : PV} {v : V}, sizeOf p < k → clo n p = true → VR K ρ H p v → VR K ((ρ.cut n).add a) H p v) ∧ (∀ {p : List PV} {v : List V}, sizeOf p < k → clos n p = true → VRs K ρ H p v → VRs K ((ρ.cut n).add a) H p v) := by
    intro k
    have na : ∀ b, b ∉ ρ.l → b ∉ ((ρ.cut n).add a).l := fun b nb m => (List.mem_append.mp m).elim (take_sub nb) fun z => nb (by rw [List.mem_singleton.mp z]; exact List.mem_of_getElem? ha)
    induction k with
    | zero => exact ⟨fun h => absurd h (Nat.not_lt_zero _), fun h => absurd h (Nat.not_lt_zero _)⟩
    | succ k ih =>
      refine ⟨fun {p v} hk c r => ?_, fun {p v} hk c r => ?_⟩
      · cases p with
        | non | bl _ | int _ | str _ | ty _ => unfold VR at *; exact r
        | lam f1 c1 q1 ys vs =>
          unfold clo at c
          unfold VR at *
          exact ⟨r.1, r.2.1, ih.2 (by simp at hk; omega) c r.2.2⟩
        | loc j =>
          unfold clo at c
          unfold VR at *
          obtain ⟨b, h1, h2⟩ := r
          have hj := of_decide_eq_true c
          refine ⟨b, ?_, h2⟩
          show (ρ.l.take n ++ [a])[j]? = some b
          rw [List.getElem?_append_left (by rw [List.length_take]; have := (List.getElem?_eq_some_iff.mp h1).1; omega), List.getElem?_take_of_lt hj]
          exact h1
        | tup ys =>
          unfold clo at c
          unfold VR at *
          obtain ⟨b, vs, h1, h2, h3, h4⟩ := r
          exact ⟨b, vs, h1, h2, h3, ih.2 (by simp at hk; omega) c h4⟩
        | fl ys | tl ys =>
          unfold clo at c
          unfold VR at *
          obtain ⟨b, vs, h1, h2, h3, h4, h5⟩ := r
          exact ⟨b, vs, h1, ⟨na b h2.1, h2.2⟩, h3, h4, ih.2 (by simp at hk; omega) c h5⟩
        | ro ys =>
          unfold clo at c
          unfold VR at *
          obtain ⟨b, vs, h1, h2, h4, h5⟩ := r
          exact ⟨b, vs, h1, h2, h4, ih.2 (by simp at hk; omega) c h5⟩
      · cases p with
        | nil => unfold VRs at r ⊢; exact r
        | cons x xs =>
          unfold clos at c
          rw [Bool.and_eq_true] at c
          unfold VRs at r
          obtain ⟨v, t, h1, h2, h3⟩ := r
          unfold VRs
          exact ⟨v, t, h1, ih.1 (by simp at hk; omega) c.1 h2, ih.2 (by simp at hk; omega) c.2 h3⟩
  refine ⟨⟨?_, ?_, s.hid, fun i b y h1 h2 => ?_, s.tb, s.tbo⟩, vs, z, hl, r1⟩
  · show (ρ.l.take n ++ [a]).Nodup
    rw [List.nodup_append]
    refine ⟨s.nd.sublist (List.take_sublist _ _), by simp, fun x hx y hy q => ?_⟩
    rw [List.mem_singleton.mp hy] at q
    exact hna (by rw [← q]; exact hx)
  · show (ρ.l.take n ++ [a]).length = _
    rw [List.length_append, List.length_append, List.length_take, List.length_take, s.len]
    rfl
  · replace h1 : (ρ.l.take n ++ [a])[i]? = some b := h1
    have hln : (ρ.l.take n).length = (st.take n).length := by rw [List.length_take, List.length_take, s.len]
    by_cases hi : i < (ρ.l.take n).length
    · rw [List.getElem?_append_left hi] at h1
      rw [List.getElem?_append_left (by rw [← hln]; exact hi)] at h2
      have hm' : cloM n y = true := List.all_eq_true.mp c y (List.mem_of_getElem? h2)
      rw [List.getElem?_take] at h1 h2
      split at h1
      · rename_i hin
        rw [if_pos hin] at h2
        obtain ⟨o', z', r'⟩ := s.ob i b y h1 h2
        cases y with
        | lst ys =>
          obtain ⟨ws, rfl, w2, w3⟩ := r'
          exact ⟨_, z', ws, rfl, w2, (grow _).2 (Nat.lt_succ_self _) hm' w3⟩
        | dct kvs =>
          obtain ⟨ws, rfl, w2, w3, w4⟩ := r'
          exact ⟨_, z', ws, rfl, w2, w3, (grow _).2 (Nat.lt_succ_self _) hm' w4⟩
      · cases h1
    · rw [List.getElem?_append_right (by omega)] at h1
      rw [List.getElem?_append_right (by omega)] at h2
      have hb : b = a := List.mem_singleton.mp (List.mem_of_getElem? h1)
      have hy : y = MO.lst xs := List.mem_singleton.mp (List.mem_of_getElem? h2)
      subst hb
      subst hy
      exact ⟨_, z, vs, rfl, hl, (grow _).2 (Nat.lt_succ_self _) cx r⟩
end
/-- what a def hands out, and the store behind it -/
def cutR (n : Nat) (v : PV) (st : Sto) : PV × Sto :=
  if st.length = n then (v, st) else if (st.take n).all (cloM n) = true then (match v with
    | .loc m => if m < n then (v, st.take n) else (match st[m]? with
      | some (.lst xs) => if clos n xs = true then (.tl xs, st.take n) else (v, st)
      | _ => (v, st))
    | v => if clo n v = true then (v, st.take n) else (v, st)) else (v, st)
section
variable {g : G} {ρ ρ' : Lo} {H H' : Hp} {st st' : Sto} {v : PV} {u : V}
theorem Post.cut (s : SR g.K g.T ρ H st) (P : Post g.K g.T ρ H ρ' H' st' v u) : ∃ ρ2, Post g.K g.T ρ H ρ2 H' (cutR st.length v st').2 (cutR st.length v st').1 u := by
  have keep : (cutR st.length v st') = (v, st') → ∃ ρ2, Post g.K g.T ρ H ρ2 H' (cutR st.length v st').2 (cutR st.length v st').1 u := fun e => by rw [e]; exact ⟨ρ', P⟩
  have hl := s.len
  have cutC : (cutR st.length v st') = (v, st'.take st.length) → (st'.take st.length).all (cloM st.length) = true → clo st.length v = true → (∀ xs, v ≠ .tl xs) → ∃ ρ2, Post g.K g.T ρ H ρ2 H' (cutR st.length v st').2 (cutR st.length v st').1 u := fun e c c2 nt => by
    rw [e]
    refine ⟨ρ'.cut st.length, ?_, P.sr.cut c, P.vr.cl c2, fun xs h => absurd h (nt xs)⟩
    rw [← hl]
    exact P.ext.cut
  by_cases h1 : st'.length = st.length
  · exact keep (by unfold cutR; rw [if_pos h1])
  by_cases h2n : ¬ (st'.take st.length).all (cloM st.length) = true
  · exact keep (by unfold cutR; rw [if_neg h1, if_neg h2n])
  have h2 : (st'.take st.length).all (cloM st.length) = true := Classical.not_not.mp h2n
  have other : (∀ xs, v ≠ .tl xs) → (∀ m, v ≠ .loc m) → ∃ ρ2, Post g.K g.T ρ H ρ2 H' (cutR st.length v st').2 (cutR st.length v st').1 u := fun nt nl => by
    by_cases h3 : clo st.length v = true
    · refine cutC ?_ h2 h3 nt
      unfold cutR
      rw [if_neg h1, if_pos h2]
      cases v <;> first | exact absurd rfl (nl _) | exact absurd rfl (nt _) | (dsimp only; rw [if_pos h3])
    · refine keep ?_
      unfold cutR
      rw [if_neg h1, if_pos h2]
      cases v <;> first | exact absurd rfl (nl _) | exact absurd rfl (nt _) | (dsimp only; rw [if_neg h3])
  cases v with
  | tl xs =>
    by_cases h3 : clo st.length (.tl xs) = true
    · have e : cutR st.length (.tl xs) st' = (.tl xs, st'.take st.length) := by unfold cutR; rw [if_neg h1, if_pos h2]; dsimp only; rw [if_pos h3]
      rw [e]
      have cx : clos st.length xs = true := by unfold clo at h3; exact h3
      have hle : st.length ≤ st'.length := by rw [← hl, ← P.sr.len]; exact P.ext.pre.length_le
      obtain ⟨a, rfl, hnew, s2⟩ := P.fr xs rfl
      have ht : (st' ++ [MO.lst xs]).take st.length = st'.take st.length := List.take_append_of_le_length hle
      have hr : (ρ'.add a).cut st.length = ρ'.cut st.length := by
        show Lo.mk ((ρ'.l ++ [a]).take st.length) ρ'.h = Lo.mk (ρ'.l.take st.length) ρ'.h
        rw [List.take_append_of_le_length (by rw [P.sr.len]; exact hle)]
      have hm : (ρ'.add a).l[st'.length]? = some a := by
        show (ρ'.l ++ [a])[st'.length]? = some a
        rw [← P.sr.len]
        simp
      obtain ⟨s3, vs, z, hl2, r2⟩ := s2.out (by rw [ht]; exact h2) hle hm (by simp) cx
      rw [ht, hr] at s3
      rw [hr] at r2
      have hna : a ∉ (ρ'.cut st.length).l := fun q2 => by
        have := s3.nd
        rw [show ((ρ'.cut st.length).add a).l = (ρ'.cut st.length).l ++ [a] from rfl, List.nodup_append] at this
        exact this.2.2 a q2 a (by simp) rfl
      have hnh : a ∉ ρ'.h := fun q2 => s.hid a (by rw [← P.ext.hid]; exact q2) hnew
      refine ⟨ρ'.cut st.length, ?_, P.sr.cut h2, ?_, fun ys hy => ?_⟩
      · rw [← hl]
        exact P.ext.cut
      · unfold VR
        exact ⟨a, vs, rfl, ⟨hna, hnh⟩, z, hl2, r2⟩
      · cases hy
        exact ⟨a, rfl, hnew, s3⟩
    · exact keep (by unfold cutR; rw [if_neg h1, if_pos h2]; dsimp only; rw [if_neg h3])
  | loc m =>
    by_cases hm : m < st.length
    · exact cutC (by unfold cutR; rw [if_neg h1, if_pos h2]; dsimp only; rw [if_pos hm]) h2 (by unfold clo; exact decide_eq_true hm) (fun _ z => by cases z)
    · cases q : st'[m]? with
      | none => exact keep (by unfold cutR; rw [if_neg h1, if_pos h2]; dsimp only; rw [if_neg hm, q])
      | some o =>
        cases o with
        | lst xs =>
          by_cases cx : clos st.length xs = true
          · have e : cutR st.length (.loc m) st' = (.tl xs, st'.take st.length) := by unfold cutR; rw [if_neg h1, if_pos h2]; dsimp only; rw [if_neg hm, q]; dsimp only; rw [if_pos cx]
            rw [e]
            have r := P.vr
            unfold VR at r
            obtain ⟨a, ha, rfl⟩ := r
            obtain ⟨s2, vs, z, hl2, r2⟩ := P.sr.out h2 (by omega) ha q cx
            have hnew : H a = none := by
              refine (P.ext.new a (List.mem_of_getElem? ha)).elim (fun z => ?_) id
              obtain ⟨i, hi⟩ := List.getElem?_of_mem z
              obtain ⟨l1, e1⟩ := List.getElem?_eq_some_iff.mp (pre_get P.ext.pre hi)
              obtain ⟨l2, e2⟩ := List.getElem?_eq_some_iff.mp ha
              have h3 := (List.getElem_inj P.sr.nd).mp (e1.trans e2.symm)
              have h4 := (List.getElem?_eq_some_iff.mp hi).1
              omega
            have hna : a ∉ (ρ'.cut st.length).l := fun q2 => by
              have := s2.nd
              rw [show ((ρ'.cut st.length).add a).l = (ρ'.cut st.length).l ++ [a] from rfl, List.nodup_append] at this
              exact this.2.2 a q2 a (by simp) rfl
            have hnh : a ∉ ρ'.h := fun q2 => s.hid a (by rw [← P.ext.hid]; exact q2) hnew
            refine ⟨ρ'.cut st.length, ?_, P.sr.cut h2, ?_, fun ys hy => ?_⟩
            · rw [← hl]
              exact P.ext.cut
            · unfold VR
              exact ⟨a, vs, rfl, ⟨hna, hnh⟩, z, hl2, r2⟩
            · cases hy
              exact ⟨a, rfl, hnew, s2⟩
          · exact keep (by unfold cutR; rw [if_neg h1, if_pos h2]; dsimp only; rw [if_neg hm, q]; dsimp only; rw [if_neg cx])
        | dct kvs => exact keep (by unfold cutR; rw [if_neg h1, if_pos h2]; dsimp only; rw [if_neg hm, q])
  | _ => exact other (fun _ z => by cases z) (fun _ z => by cases z)
end
/-- an exception's store -/
def cutX (n : Nat) (w : PV) (st : Sto) : Sto := if (st.take n).all (cloM n) && clo n w then st.take n else st
theorem PX.cut {g : G} {ρ ρ' : Lo} {H H' : Hp} {st st' : Sto} {w : PV} {d : Addr} (s : SR g.K g.T ρ H st) (x : PX g ρ H ρ' H' st' w d) : ∃ ρ2, PX g ρ H ρ2 H' (cutX st.length w st') w d := by
  unfold cutX
  split
  · rename_i h
    rw [Bool.and_eq_true] at h
    obtain ⟨v, h1, h2, h3⟩ := x.dat
    exact ⟨ρ'.cut st.length, by rw [← s.len]; exact x.ext.cut, x.sr.cut h.1, v, h1, h2.cl h.2, h3⟩
  · exact ⟨ρ', x⟩
/-! ### a def's meaning -/
def startP (n : Nat) (args : List PV) : En := (args.map fun x => some (frz x)) ++ List.replicate (n - args.length) none
def runF (n : Nat) (b : DS) (args : List PV) (st : Sto) : R PV := match b (startP n args) st with
  | .nx _ st' => .ok (cutR st.length .non st').1 (cutR st.length .non st').2
  | .rt v st' => .ok (cutR st.length v st').1 (cutR st.length v st').2
  | .ex c w _ st' => .ex c w (cutX st.length w st')
  | _ => .bad
def WE (E : XK) : WX := fun c d _ H' => E c d H'
theorem start_er {K : PySem.W.Frag} {ρ : Lo} {H : Hp} {N : List Str} : ∀ {xs : List PV} {vs : List V}, VRs K ρ H xs vs → ER K ρ H (startP N.length xs) (L2.start N vs) := by
  intro xs vs r
  have hl := r.length
  refine ⟨?_, fun i p h => ?_⟩
  · simp [startP, L2.start, hl]
  · unfold startP at h
    unfold L2.start
    by_cases hi : i < xs.length
    · rw [List.getElem?_append_left (by simpa using hi), List.getElem?_map] at h
      cases q : xs[i]? with
      | none => rw [q] at h; cases h
      | some x =>
        rw [q] at h
        cases h
        obtain ⟨u, hu, ru⟩ := r.get q
        refine ⟨u, ?_, ru.frz, frz_nt x⟩
        rw [List.getElem?_append_left (by rw [List.length_map, hl]; exact hi), List.getElem?_map, hu]
        rfl
    · rw [List.getElem?_append_right (by simpa using Nat.le_of_not_lt hi)] at h
      have := List.mem_of_getElem? h
      have := List.eq_of_mem_replicate this
      cases this
theorem run_body {g : G} {X : Cx} {body : List Stmt} {b : DS} {N : List Str} {k : Nat} {vs : List V} {H : Hp} {Q : VK} {E : XK} (hb : PSs X body (tS g (WE E) b)) (h : spF g k (runF N.length b) vs H Q E) :
    ∃ t, PSs X body t ∧ t { nx := fun _ H' => Q .non H', rt := Q } (L2.start N vs) H := by
  obtain ⟨_, ρ, st, xs, s, r, h⟩ := h
  refine ⟨_, hb, ρ, startP N.length xs, st, s, start_er r, ?_⟩
  unfold runF at h
  cases q : b (startP N.length xs) st with
  | nx env' st' =>
    rw [q] at h
    intro ρ' σ' H' x s' e'
    obtain ⟨ρ2, P⟩ := Post.cut s (v := .non) (u := .non) (ρ' := ρ') (H' := H') (st' := st') ⟨x, s', non_vr, fun _ z => by cases z⟩
    exact h ρ2 H' _ P
  | rt v st' =>
    rw [q] at h
    intro ρ' H' u P
    obtain ⟨ρ2, P⟩ := Post.cut s P
    exact h ρ2 H' _ P
  | ex c w env' st' =>
    rw [q] at h
    intro ρ' σ' H' d x e'
    obtain ⟨ρ2, P⟩ := PX.cut s x
    exact h ρ2 H' d P
  | bk _ _ => rw [q] at h; exact h.elim
  | ct _ _ => rw [q] at h; exact h.elim
  | bad => rw [q] at h; exact h.elim
end Bb
namespace Bb
open PySem L2 PyProof.Rows
section
variable {g : G} {W : WX} {X : Cx} {pos : Pos}
/-! ### a op b op c -/
def dChain (f f' : Sto → PV → PV → Option PV) (a b c : D) : D := fun env st => (a env st).bind fun x st1 => (b env st1).bind fun y st2 => match f st2 x y with
  | some (.bl true) => (c env st2).bind fun z st3 => ofO st3 (f' st3 y z)
  | some (.bl false) => .ok (.bl false) st2
  | _ => .bad
theorem chain_of {f f' : Sto → PV → PV → Option PV} {a b c : D} {σ : L2.St} {H : Hp} {Q : VK} (h : tD g W (dChain f f' a b c) σ H Q) : tChain (rP2 g f) (rP2 g f') (tD g W a) (tD g W b) (tD g W c) σ H Q := by
  obtain ⟨ρ, env, st, s, e, h⟩ := h
  refine tD_of okE.mono s e h fun ρ1 H1 x st1 u P1 h1 => tD_of okE.mono P1.sr (e.mono P1.ext) h1 fun ρ2 H2 y st2 w P2 h2 => ?_
  cases q : f st2 x y with
  | none => simp only [q] at h2; exact h2.elim
  | some z =>
    simp only [q] at h2
    refine ⟨ρ2, st2, x, y, z, P2.sr, P1.vr.mono P2.ext, P2.vr, q, fun ρ3 H3 v P3 => ?_⟩
    have e3 := ((e.mono P1.ext).mono P2.ext).mono P3.ext
    cases z with
    | bl k =>
      refine ⟨k, vr_bl P3.vr, ?_⟩
      cases k with
      | true =>
        rw [if_pos rfl]
        refine tD_of okE.mono P3.sr e3 (RP.mono okE.mono P3.ext h2) fun ρ4 H4 z st4 w' P4 h4 => ?_
        obtain ⟨z', hz, k⟩ := ofO_ok h4
        exact ⟨ρ4, st4, y, z, z', P4.sr, (P2.vr.mono P3.ext).mono P4.ext, P4.vr, hz, k⟩
      | false =>
        rw [if_neg (by simp)]
        exact (okE.mono _ _ _ _ _ _ P3.ext h2 : okE g Q ρ3 H3 (.bl false) st2) |>.bl P3.sr
    | _ => exact h2.elim
theorem de_chain {op op' : CmpOp} {f f' : Sto → PV → PV → Option PV} {a b c : Expr} {da db dc : D} (ho : OpR X (compareOp op) (rP2 g f)) (ho' : OpR X (compareOp op') (rP2 g f')) (ha : PE X a (tD g W da)) (hb : PE X b (tD g W db)) (hc : PE X c (tD g W dc)) (hm : lastMarks [op, op'] [b, c] = false) :
    PE X (.Compare a [op, op'] [b, c] pos) (tD g W (dChain f f' da db dc)) := PE.imp (pe_chain ho ho' ha hb hc hm) fun _ _ _ h => chain_of h
theorem dt_asB {d : D} {σ : L2.St} {H : Hp} {Q : Bool → Hp → Prop} (h : tDT g W (dTru asB d) σ H Q) : tD g W d σ H (fun x H' => ∃ k, x = .bl k ∧ Q k H') := by
  obtain ⟨ρ, env, st, s, e, h⟩ := h
  exact tD_of okT.mono s e h fun ρ1 H1 x st1 u P1 h1 => by
    obtain ⟨b, hb, k⟩ := ofO_ok h1
    cases x <;> cases hb
    exact ⟨_, vr_bl P1.vr, k ρ1 H1 (.refl _ _) P1.sr⟩
theorem dt_chain {op op' : CmpOp} {f f' : Sto → PV → PV → Option PV} {a b c : Expr} {da db dc : D} (ho : OpR X (compareOp op) (rP2 g f)) (ho' : OpR X (compareOp op') (rP2 g f')) (ha : PE X a (tD g W da)) (hb : PE X b (tD g W db)) (hc : PE X c (tD g W dc)) (hm : lastMarks [op, op'] [b, c] = false) :
    PT X (.Compare a [op, op'] [b, c] pos) (tDT g W (dTru asB (dChain f f' da db dc))) := PT.imp (pt_chain ho ho' ha hb hc hm) fun _ _ _ h => chain_of (dt_asB h)
/-! ### and, or, not as values, by truth -/
def dAnd (a b : D) : D := fun env st => (a env st).bind fun x st1 => match truP st1 x with
  | some true => b env st1
  | some false => .ok (frz x) st1
  | none => .bad
def dOr (a b : D) : D := fun env st => (a env st).bind fun x st1 => match truP st1 x with
  | some true => .ok (frz x) st1
  | some false => b env st1
  | none => .bad
def notT (st : Sto) (x : PV) : Option PV := (truP st x).map fun b => .bl (!b)
theorem de_andG {a b : Expr} {rest : List Expr} {da db : D} (hK : g.K = X.K) (ha : PE X a (tD g W da)) (hb : PE X (.BoolOp .And (b :: rest) pos) (tD g W db)) : PE X (.BoolOp .And (a :: b :: rest) pos) (tD g W (dAnd da db)) :=
  PE.imp (pe_andT ha hb) fun σ H Q ⟨ρ, env, st, s, e, h⟩ => tD_of okE.mono s e h fun ρ1 H1 x st1 u P h1 => by
    cases q : truP st1 x with
    | none => rw [q] at h1; exact h1.elim
    | some k =>
      rw [q] at h1
      refine ⟨k, hK ▸ truV_of P.sr P.vr q, ?_⟩
      cases k with
      | true => exact ⟨ρ1, env, st1, P.sr, e.mono P.ext, h1⟩
      | false => exact h1 ρ1 H1 u (.pure P.sr P.vr.frz (frz_nt x))
theorem de_orG {a b : Expr} {rest : List Expr} {da db : D} (hK : g.K = X.K) (ha : PE X a (tD g W da)) (hb : PE X (.BoolOp .Or (b :: rest) pos) (tD g W db)) : PE X (.BoolOp .Or (a :: b :: rest) pos) (tD g W (dOr da db)) :=
  PE.imp (pe_orT ha hb) fun σ H Q ⟨ρ, env, st, s, e, h⟩ => tD_of okE.mono s e h fun ρ1 H1 x st1 u P h1 => by
    cases q : truP st1 x with
    | none => rw [q] at h1; exact h1.elim
    | some k =>
      rw [q] at h1
      refine ⟨k, hK ▸ truV_of P.sr P.vr q, ?_⟩
      cases k with
      | false => exact ⟨ρ1, env, st1, P.sr, e.mono P.ext, h1⟩
      | true => exact h1 ρ1 H1 u (.pure P.sr P.vr.frz (frz_nt x))
theorem de_notG {a : Expr} {da : D} (hK : g.K = X.K) (ha : PE X a (tD g W da)) : PE X (.UnaryOp .Not a pos) (tD g W (d1 notT da)) :=
  PE.imp (pe_notT ha) fun σ H Q ⟨ρ, env, st, s, e, h⟩ => tD_of okE.mono s e h fun ρ1 H1 x st1 u P h1 => by
    obtain ⟨z, hz, k⟩ := ofO_ok h1
    obtain ⟨b, hb, rfl⟩ := Option.map_eq_some_iff.mp hz
    exact ⟨b, hK ▸ truV_of P.sr P.vr hb, k.bl P.sr⟩
theorem de_one {op : BoolOp} {a : Expr} {t : TE} (ha : PE X a t) : PE X (.BoolOp op [a] pos) t :=
  ⟨fun pins s σ H Q I h => by
    have e : eval (.BoolOp op [a] pos) X.env = eval a X.env := rfl
    rw [e]
    exact ha.run pins s σ H Q I h⟩
/-! ### tests by and, or, if -/
theorem dw_or1 {a : Expr} {da : DT} (h : PT X a (tDT g W da)) : PW X (.BoolOp .Or [a] pos) (tDT g W da) := pw_or1 h
theorem dw_not {a : Expr} {da : DT} (h : PT X a (tDT g W da)) : PT X (.UnaryOp .Not a pos) (tDT g W (dNotT da)) := dt_not h
end
/-! ### sides that hold of whatever tree -/
def isSt : Expr → Bool
  | .Starred _ _ => true
  | _ => false
theorem star_cons {e : Expr} (h : isSt e = false) (es : List Expr) (env : Env) : starEach (e :: es) env = (false, eval e env) :: starEach es env := by
  cases e <;> first | (cases h; done) | rfl
def anySt : List Expr → Bool
  | [] => false
  | e :: es => isSt e || anySt es
theorem plain_args : ∀ {es : List Expr} (env : Env) (pos : Pos), anySt es = false → (backTo pos (starEach es env)).any (·.1) = false
  | [], _, _, _ => rfl
  | e :: es, env, pos, h => by
    unfold anySt at h
    rw [Bool.or_eq_false_iff] at h
    rw [star_cons h.1]
    have := plain_args env pos h.2
    simp only [backTo, List.map_cons, List.any_cons, Bool.false_or] at this ⊢
    exact this
/-- no set display, no comprehension -/
def noSet : Expr → Bool
  | .Set .. => false
  | _ => true
theorem behind_no {op : CmpOp} {e : Expr} (h : noSet e = true) : behindInMarks op e = false := by
  cases e <;> first | (cases h; done) | rfl
theorem folded_no {e : Expr} (h : noSet e = true) (env : Env) (x : Value) : foldedSetIterable e env x = pure x := by
  cases e <;> first | (cases h; done) | rfl
def noComp : Expr → Bool
  | .ListComp .. => false
  | .SetComp .. => false
  | .DictComp .. => false
  | _ => true
theorem swaps_no {e : Expr} (h : noComp e = true) (t : Option Expr) (n : Nat) (env : Env) : swapsWith e t n env = pure false := by
  cases e <;> first | (cases h; done) | rfl
theorem sole_no {e : Expr} (h : noComp e = true) (ts : List Expr) (n : Nat) (env : Env) : swapsWithSole ts e n env = pure false := by
  unfold swapsWithSole
  split
  · exact swaps_no h _ _ _
  · rfl
/-- its truth by its value -/
def byTruth : Expr → Bool
  | .UnaryOp .Not _ _ => false
  | .BoolOp .. => false
  | .IfExp .. => false
  | .Compare .. => false
  | _ => true
theorem truth_of {e : Expr} (h : byTruth e = true) (env : Env) (whole : Sem Value) : isTrue e env whole = (do let v ← whole; standAt e.pos; holding [v] (truthy v)) := by
  cases e with
  | UnaryOp op a p => cases op <;> first | (cases h; done) | rfl
  | _ => first | (cases h; done) | rfl
def ixOk : Expr → Bool
  | .Slice .. => false
  | _ => true
theorem plain_ix {e : Expr} (h : ixOk e = true) : PlainIx e := by
  intro o i
  cases e <;> first | (cases h; done) | rfl
end Bb
namespace Bb
open PySem L2 PyProof.Rows PySem.W NdefX PySem.Calls
/-! ### an own exception's __init__: super().__init__(what); self.what = what -/
/-- the class at D whose __init__ is the def at fI -/
structure XBase (K : PySem.W.Frag) (P : Program) (D fI c cc : Addr) (qual : Str) (params : Arguments) (body : List Stmt) (scope : Scope) : Prop where
  fn : ∃ oc od osl dV kV doc pm an ct, K.lookup fI = some ⟨oc, od, .func (ksFn "__init__" qual params body scope dV kV doc pm an (.ref c) ct cc), osl⟩
  code : PySem.W.codeIn K (.ref c) qual = true
  file : ∃ ccl cdd vs ccs tf file, K.lookup c = some ⟨ccl, cdd, .fields vs, ccs⟩ ∧ vs[2]? = some (.str file tf) ∧ ((P.main.file : Str) == file) = true
  cell : ∃ cl cld csl, K.lookup cc = some ⟨cl, cld, .cell (some (.ref D)), csl⟩
  cls : ∃ cdD, clsIn K D = some cdD
  top : (P.main.scope.names.lookup ("super" : Str)).isSome = false
  any : nsIn K cStatics "thirdparty.any" = some none
/-- a class at C below it -/
structure XCls (K : PySem.W.Frag) (D fI C : Addr) : Prop where
  o : OexC K C
  init : PySem.W.findIn K (.ref C) "__init__" = some (some (.ref fI))
  ty : PySem.W.typeIn K (.ref fI) = some (.type "function")
  mro : mroIn K C (.ref D) = some true
  sup : ks_superIn K C D "__init__" = some (some (.builtin "ValueError.__init__"))
  sub : subIn K (.ref C) (.type "ValueError") = some true
  what : PySem.W.findIn K (.ref C) "what" = some none
def spXI (K : PySem.W.Frag) (D fI : Addr) : Sp := fun vs H Q _ => ∃ (a C : Addr) (y : V), vs = [.ref a, y] ∧ XCls K D fI C ∧ H a = some (exo a C none) ∧ ∀ d, H d = none → d ≠ a → Q .non (upd (upd H d (exd d [("what", y)])) a (exo a C (some d)))
theorem call_mw {prog : Program} {w : World} {A : Around} {E : Value → Shared → Prop} {h : Heap} {g : Array GenState} {d : Drawn} {t : Nat} {os : OsState} {nm q : Str} {C N : Addr} {bs bm : List Value} {hdct : Bool} {sn : List Str} {sub : List Value} {ab : Bool} {col : Option Bool} {dd : Option Addr} {k0 k1 k2 k3 k5 : Option Value}
    {u e t0 : Addr} {rest : List Value} {Q : Value → Shared → Prop}
    (hC : h.get? C = some (excClassObj nm q C N bs bm hdct sn sub ab col dd k0 k1 k2 k3 k5 "ValueError.__new__")) (he : h.get? e = some (HandSPX.excO C t0)) (hu : h.get? u = some (kxs_mw "ValueError.__init__" e)) (hrest : rest.length ≤ sizeLine)
    (hq : ∀ h' t1, (∀ b o, b ≠ e → h.get? b = some o → h'.get? b = some o) → h'.get? e = some (HandSPX.excO C t1) → Q .none ⟨h', g, d, t, os⟩) :
    wpAny (model prog w) A (call (.ref u) rest) Q E ⟨h, g, d, t, os⟩ := by
  refine wpAny_call (codeAny_of_tree ?_)
  show wpAny _ A.in1 (callAny (.ref u) ⟨rest, []⟩) _ _ _
  simp only [callAny]
  refine wpAny_bind (wpAny_load hu ?_)
  simp only [kxs_mw, show (Value.type "method-wrapper" == Value.type "method" || Value.type "method-wrapper" == Value.type "builtin_function_or_method" || Value.type "method-wrapper" == Value.type "method-wrapper") = true by decide, if_true]
  refine W.KFB.if_so (by decide) ?_
  refine wpAny_bind (PySem.ESX.check_bound F.excBase_ValueError hC he rfl ?_)
  refine wpAny_bind (wpAny_pure (wpAny_pure ?_))
  refine ⟨Code.quiet_builtin _ (by decide +kernel), codeAny_builtin F.excBase_ValueError.initEntry ?_⟩
  rw [Around.under_plainId F.excBase_ValueError.init.plain _]
  wp_walk
  refine hq _ h.objs.size (fun b o hb ho => ?_) ?_
  · rw [Heap.get?_update_other _ _ (Ne.symm hb)]
    exact Heap.get?_push_of_some _ ho
  · rw [Heap.get?_update_self _ (Heap.get?_push_of_some _ he) rfl]
    rfl
abbrev xiE (p0 p1 p2 p3 p4 : Pos) : Expr := .Call (.Attribute (.Call (.Name "super" p0) [] [] p1) "__init__" p2) [.Name "what" p3] [] p4
abbrev xiB (p0 p1 p2 p3 p4 p5 q0 q1 q2 q3 : Pos) : List Stmt := [.Expr (xiE p0 p1 p2 p3 p4) p5, .Assign [.Attribute (.Name "self" q0) "what" q1] (.Name "what" q2) q3]
theorem xi_ok {P : Program} {w : World} {K : PySem.W.Frag} {mg : Str → Option Value} {base : Heap} {D fI c cc : Addr} {qual : Str} {params : Arguments} {scope : Scope} {k : Nat} {p0 p1 p2 p3 p4 p5 q0 q1 q2 q3 : Pos} {fd : FuncData}
    (B : XBase K P D fI c cc qual params (xiB p0 p1 p2 p3 p4 p5 q0 q1 q2 q3) scope)
    (S : NScope ["self", "what", "__class__"] ["self", "what"] ["__class__"] scope) (hsup : scope.names.lookup ("super" : Str) = some .globalImplicit) (hpar : ∃ ar, (params.posonlyargs ++ params.args).head? = some ar ∧ ar.arg = "self") (hms : mg "super" = none) (hline : (p2.endLine == p4.line) = true) (hfd : ∀ {oc od osl} , K.lookup fI = some ⟨oc, od, .func fd, osl⟩ → True) (hlk : ∃ oc od osl, K.lookup fI = some ⟨oc, od, .func fd, osl⟩) :
    FnOk P w K mg base C8.CX0 (k + 1) fI fd ["self", "what"] (spXI K D fI) := by
  refine ⟨fun vs H Q E h => ?_, fun A outer s H args us vs Q E hr e0 hb r hsp => ?_⟩
  · obtain ⟨a, C, y, rfl, _⟩ := h; rfl
  obtain ⟨a, C, y, rfl, XC, ea, hq⟩ := hsp
  obtain ⟨ua, r0, rfl, ra, r1⟩ : ∃ ua r0, us = ua :: r0 ∧ RelV (.ref a) ua ∧ Vals [y] r0 := by cases r with | cons ra r1 => exact ⟨_, _, rfl, ra, r1⟩
  obtain ⟨u, rfl, ry⟩ : ∃ u, r0 = [u] ∧ RelV y u := by cases r1 with | cons ry r2 => cases r2; exact ⟨_, rfl, ry⟩
  obtain rfl : ua = Value.ref a := ra
  obtain ⟨oc, od, osl, dV, kV, doc, pm, an, ct, lk⟩ := B.fn
  obtain ⟨oc', od', osl', lk'⟩ := hlk
  rw [lk] at lk'
  cases lk'
  obtain ⟨ccl, cdd, vsc, ccs, tf, file, lc, hvs, hfile⟩ := B.file
  obtain ⟨cl, cld, csl, lcc⟩ := B.cell
  obtain ⟨cdD, hcD⟩ := B.cls
  have kb : ∀ b o, K.lookup b = some o → s.heap.get? b = some o ∧ H b = none := fun b o e => e0.bs b o (e0.mod.kin _ _ e)
  have KX : K.In s.heap := fun b o e => (kb b o e).1
  have lim : s.heap.NoLimit := e0.mod.nolimit.keeps fun b o e => (e0.bs b o e).1
  let F : NF := ⟨"__init__", qual, params, xiB p0 p1 p2 p3 p4 p5 q0 q1 q2 q3, scope, [("__class__", cc)], c⟩
  have C1 : CellsAt F.cl ["__class__"] [some (.ref D)] s.heap H := by
    have hcell : s.heap.IsCell cc (some (.ref D)) := ⟨_, (kb _ _ lcc).1, rfl⟩
    have one : ∀ y c', F.cl.lookup y = some c' → c' = cc ∧ y = "__class__" := fun y c' e => by
      show c' = cc ∧ y = _
      have e : (if (y == ("__class__" : Str)) = true then some cc else none) = some c' := by
        have : List.lookup y [(("__class__" : Str), cc)] = some c' := e
        rw [List.lookup_cons] at this
        cases q : (y == ("__class__" : Str)) with
        | true => rw [q] at this; simpa using this
        | false => rw [q] at this; simp at this
      split at e
      · rename_i h; cases e; exact ⟨rfl, eq_of_beq h⟩
      · cases e
    refine ⟨rfl, fun y c' e => ?_, fun x y c' e1 e2 => (one _ _ e1).2.trans (one _ _ e2).2.symm, fun i y e => ?_⟩
    · obtain ⟨rfl, _⟩ := one y c' e
      exact ⟨(kb _ _ lcc).2, _, hcell⟩
    · cases i with
      | zero =>
        have e : some (("__class__" : Str)) = some y := e
        cases e
        refine ⟨cc, by show List.lookup _ [(_, cc)] = _; simp, fun v hv => ?_⟩
        have hv : some (some (V.ref D)) = some (some v) := hv
        cases hv
        exact ⟨_, rfl, hcell⟩
      | succ i => cases (show (none : Option Str) = some y from e)
  refine ks_codeAny_call_defAt (body := F.body) (binds := (["self", "what"] : List Str).zip [.ref a, u]) hr.depth (KX _ _ lk) rfl lim (codeRec_of KX B.code) rfl hb S.nocell (fun x hx => S.par _ (List.of_mem_zip hx).1) (fun h₁ hns kp => ?_) S.co S.gen S.kind
  have I : Inv (ncx C8.CX0 P w K mg base ["self", "what", "__class__"] F fI A outer s H E) [] (startF ["self", "what", "__class__"] [.ref a, y] [some (.ref D)]) H { s with heap := h₁, toks := s.toks + 2 } :=
    inv_startN S hr.hd e0 rfl (.cons rfl (.cons ry .nil)) C1 hns kp
  have X1 : K.In h₁ := fun b o e => kp _ _ (KX b o e)
  obtain ⟨t1, hea⟩ := exo_at I.hok ea
  have hksup : (envF F fI s.heap.objs.size).kindOf "super" = some .globalImplicit := hsup
  have hkcl : (envF F fI s.heap.objs.size).kindOf "__class__" = some .free := S.frk _ List.mem_cons_self
  have hkse : (envF F fI s.heap.objs.size).kindOf "self" = some .local := S.par _ List.mem_cons_self
  obtain ⟨ar, har, hself⟩ := hpar
  obtain ⟨oD, hD1, hD2⟩ : ∃ oD, h₁.get? D = some oD ∧ oD.data = .cls cdD := by
    unfold clsIn at hcD
    split at hcD
    · rename_i c d cd' sl ho
      cases hcD
      exact ⟨_, X1 _ _ ho, rfl⟩
    · cases hcD
  obtain ⟨nm, q, Nn, bs, bm, sn, sub, ab, col, dd, k0, k1, k2, k3, k5, hC, hbm⟩ := XC.o.cls
  obtain ⟨mb, hb1, hb2⟩ := I.mod.blt
  have hint : interactive (envF F fI s.heap.objs.size) = false := by
    unfold interactive
    rw [show (envF F fI s.heap.objs.size).scope.kind = .function from S.kind]
    rfl
  have he : eval (xiE p0 p1 p2 p3 p4) (envF F fI s.heap.objs.size) = (do
      let ov ← attributeBase (.Call (.Name "super" p0) [] [] p1) "__init__" (envF F fI s.heap.objs.size) (eval (.Call (.Name "super" p0) [] [] p1) (envF F fI s.heap.objs.size))
      standAt p2.atName
      let (f, first) ← holding [ov] (getMethod ov "__init__" (plainOf (.Call (.Name "super" p0) [] [] p1) (envF F fI s.heap.objs.size)))
      callWith p4 f first (backTo p4 (starEach [.Name "what" p3] (envF F fI s.heap.objs.size))) []) := by
    have h0 : eval (xiE p0 p1 p2 p3 p4) (envF F fI s.heap.objs.size) = (do
      let ov ← attributeBase (.Call (.Name "super" p0) [] [] p1) "__init__" (envF F fI s.heap.objs.size) (eval (.Call (.Name "super" p0) [] [] p1) (envF F fI s.heap.objs.size))
      standAt p2.atName
      methodCall (.Call (.Name "super" p0) [] [] p1) "__init__" p2 p4 (envF F fI s.heap.objs.size) ov 1 (backTo p4 (starEach [.Name "what" p3] (envF F fI s.heap.objs.size))) []) := rfl
    rw [h0]
    congr 1
    funext ov
    congr 1
    funext _
    exact mcall_line rfl hline
  refine ks_wpAt_execs_cons (ks_wpAt_Expr_any (ks_wpAt_MethodCall (pl := plainOf (.Call (.Name "super" p0) [] [] p1) (envF F fI s.heap.objs.size)) (ks_wpAt_super_base (env := envF F fI s.heap.objs.size) hksup hkcl rfl rfl (X1 _ _ lk) rfl har rfl (X1 _ _ lc) rfl hvs hfile B.top ?_) he) hint)
  refine ks_loadName_global S.kind hksup (Calls.loadGlobal_builtin (mb := mb) (I.mod.glob.keeps I.bk) hms (hb1.keeps I.bk) ((hb2 _ (by decide)).trans (by rfl)) ⟨rfl, ?_⟩)
  refine wpAny_loadName_free S.kind hkcl (by rfl) ⟨_, X1 _ _ lcc, rfl⟩ ?_
  rw [hself]
  refine wpAny_loadName_local S.kind hkse hns (by rfl) ?_
  refine ks_wpAny_isType_cls hD1 hD2 ⟨rfl, ?_⟩
  refine ks_wpAny_call_super hD1 hD2 hea rfl (fun c e => by cases e) (looks_mroIn X1 XC.mro) (fun h' e k => ?_)
  obtain ⟨cdC, hcC⟩ : ∃ cdC, clsIn K C = some cdC := ⟨_, by unfold clsIn; rw [hC]⟩
  have X2 : K.In h' := fun b o e => k _ _ (X1 b o e)
  have hneC : a ≠ C := fun z => by
    have h1 := X1 _ _ hC
    rw [← z, hea] at h1
    cases h1
  have hI : Looks (model P w) h' (isInstance (.ref a) (.type "ValueError")) true := (show InstAt h' a (PySem.HandSPX.excO C t1) C none from ⟨k _ _ hea, rfl, rfl, trivial⟩).type.andThen (looks_subIn X2 XC.sub)
  have hsu : alongIn K "__init__" ((cdC.mro.dropWhile (· != .ref D)).drop 1) = some (some (.builtin "ValueError.__init__")) := by
    have := XC.sup
    unfold ks_superIn at this
    rw [hcC] at this
    exact this
  refine kxs_getMethod kxs_ValueError e (looks_opaque X2 B.any) (l₀ := cdC.mro) (fun A Q E s k q => wpAny_bind ((looks_clsIn X2 hcC) A _ E s k (wpAny_pure q))) rfl X2 hsu hI hneC rfl ?_
  have hmw : (h'.push (kxs_mw "ValueError.__init__" a)).get? h'.objs.size = some (kxs_mw "ValueError.__init__" a) := Heap.get?_push_size _ rfl
  have I2 := I.kept (t' := s.toks + (["self", "what"].zip [Value.ref a, u]).length + 1) (h' := h'.push (kxs_mw "ValueError.__init__" a)) fun b o z => Heap.get?_push_of_some _ (k _ _ z)
  have fresh : ∀ b o, s.heap.get? b = some o → b < h'.objs.size := fun b o z => Heap.lt_size (k _ _ (kp _ _ z))
  have I1 := I.kept (t' := s.toks + 2) (h' := h') fun b o z => k _ _ z
  have I2p := I2.pins_of (pins' := [(h'.objs.size, kxs_mw "ValueError.__init__" a)]) fun p hp => by
    rw [List.mem_singleton.mp hp]
    have hns' := hns
    obtain ⟨oL, esL, epL, hoL, _⟩ := hns'
    refine ⟨hmw, ?_, fun z => ?_, fun z => ?_, fun v z => by cases z⟩
    · exact I1.hok.fresh (Nat.le_refl _)
    · exact Nat.ne_of_gt (Heap.lt_size (k _ _ hoL)) z
    · exact I1.nofs (Nat.le_refl _) z
  have pa1 : PA (ncx C8.CX0 P w K mg base ["self", "what", "__class__"] F fI A outer s H E) [.Name "what" p3] (tCons (tVar 1) tNil) := pa_cons (pe_var rfl (.inl (S.par _ (List.mem_cons_of_mem _ List.mem_cons_self))) (by decide) (by decide)) pa_nil (by rfl)
  refine kxs_callWith (i := "ValueError.__init__") (x := a) (by rfl) (evalArgs_plain (thn (pa1.run p4 [(h'.objs.size, kxs_mw "ValueError.__init__" a)] _ _ H (fun vs H1 => vs = [y] ∧ H1 = H) I2p ⟨y, rfl, rfl, rfl⟩) fun us s3 ⟨vs3, H3, I3, r3, e3, eH⟩ => ?_))
  subst e3
  rw [eH] at I3
  obtain ⟨u3, rfl, ru3⟩ : ∃ u3, us = [u3] ∧ RelV y u3 := by cases r3 with | cons ry r2 => cases r2; exact ⟨_, rfl, ry⟩
  have mw3 := (I3.pin _ (List.mem_append_right _ List.mem_cons_self)).1
  obtain ⟨t3, ha3⟩ := exo_at I3.hok ea
  refine ⟨mw3, ?_⟩
  obtain ⟨hh3, g3, d3, tk3, os3⟩ := s3
  have X3 : K.In hh3 := I3.kIn
  refine call_mw (X3 _ _ hC) ha3 mw3 (by rw [sizeLine_eq]; show 1 ≤ 16777216; omega) (fun h4 t4 k4 e4 => ?_)
  have I4 := I3.write (t' := tk3) (x := a) (e := a) (o := exo a C none) (by rw [ea]; exact True.intro) (.inl rfl) k4 ⟨_, e4⟩ (exo_ok e4)
  have eu : upd H a (exo a C none) = H := by
    funext b
    by_cases hb : b = a
    · rw [hb, upd_same, ea]
    · rw [upd_ne hb]
  rw [eu] at I4
  have asg : PS (ncx C8.CX0 P w K mg base ["self", "what", "__class__"] F fI A outer s H E) (.Assign [.Attribute (.Name "self" q0) "what" q1] (.Name "what" q2) q3) (tOst K "what" (tVar 0) (tVar 1)) :=
    ps_ost (pe_var rfl (.inl (S.par _ List.mem_cons_self)) (by decide) (by decide)) (pe_var rfl (.inl (S.par _ (List.mem_cons_of_mem _ List.mem_cons_self))) (by decide) (by decide)) (by rfl)
  have rd : (tOst K "what" (tVar 0) (tVar 1)) { nx := fun _ H' => Q .non H', rt := Q } (startF ["self", "what", "__class__"] [.ref a, y] [some (.ref D)]) H :=
    ⟨y, rfl, .ref a, rfl, a, C, rfl, XC.o, XC.what, .inl ⟨ea, fun dx n ne => hq dx n ne⟩⟩
  refine wpAt_of_wpAny ?_
  refine wpAny_mono ((pss_one asg).run _ _ _ H _ I4 rd) (fun fl s' hs => ?_) fun e s' hs => hs
  have fin : ∀ {σ' : L2.St} {H' : Hp} {v : V} {u : Value}, Inv (ncx C8.CX0 P w K mg base ["self", "what", "__class__"] F fI A outer s H E) [(h'.objs.size, kxs_mw "ValueError.__init__" a)] σ' H' s' → L2.RelV v u → Q v H' → CE outer P w H s Q u s' :=
    fun {σ' H' v u} J rv q => ⟨v, H', J.os, J.bare, J.base, J.hok, rv, q⟩
  cases fl with
  | ret u =>
    obtain ⟨v, σ', H', J, rv, q⟩ := hs
    exact fin J rv q
  | next =>
    obtain ⟨σ', H', J, q⟩ := hs
    exact fin (v := V.non) (u := Value.none) J rfl q
  | brk =>
    obtain ⟨_, _, _, q⟩ := hs
    exact False.elim q
  | cont =>
    obtain ⟨_, _, _, q⟩ := hs
    exact False.elim q
end Bb
namespace Bb
open PySem L2 PyProof.Rows
/-! ### x[::-1] of a tuple -/
section
variable {prog : Program} {w : World} {A : Around} {E : Value → Shared → Prop} {s : Shared}
theorem adj_rev (n : Nat) : Builtin.Slice.sliceAdjust none none (-1) (n : Int) = ((n : Int) - 1, -1) := by
  unfold Builtin.Slice.sliceAdjust
  first
    | rfl
    | simp
theorem places_rev (n : Nat) : Builtin.Slice.slicePlaces ((n : Int) - 1) (-1) (-1) = n := by
  unfold Builtin.Slice.slicePlaces
  simp only [show ¬ ((-1 : Int) > 0) by decide, if_false, show (- -1 : Int) = 1 by decide, Int.ediv_one]
  split <;> omega
theorem pick_rev (xs : Array Value) : ((List.range xs.size).filterMap fun (m : Nat) => xs[(((xs.size : Int) - 1) + (m : Int) * (-1)).toNat]?).toArray = xs.toList.reverse.toArray := by
  have e : (fun (m : Nat) => xs[(((xs.size : Int) - 1) + (m : Int) * (-1)).toNat]?) = fun m => xs[xs.size - 1 - m]? := by
    funext m
    have : (((xs.size : Int) - 1) + (m : Int) * (-1)).toNat = xs.size - 1 - m := by omega
    rw [this]
  rw [e]
  have h : (List.range xs.size).filterMap (fun m => xs[xs.size - 1 - m]?) = ((List.range xs.size).map fun k => xs.size - 1 - k).filterMap fun k => xs[k]? := by
    rw [List.filterMap_map]
    rfl
  rw [h, PySem.W.krv_range, List.filterMap_reverse, PySem.W.krv_all]
theorem applied_rev {sl : Addr} {vs : Value} {n : Nat} {Q : Int × Int × Nat → Shared → Prop} (hs : s.heap.IsSliceOf sl .none .none vs) (pk : IsPart vs (some (-1))) (h : Q ((n : Int) - 1, -1, n) s) : wpAny (model prog w) A (Builtin.Slice.sliceApplied (.ref sl) (pure (n : Int))) Q E s := by
  obtain ⟨os, hos, hcs, hds⟩ := id hs
  unfold Builtin.Slice.sliceApplied Builtin.Slice.sliceFields
  refine wpAny_bind (wpAny_bind (wpAny_field hos hds (x := .none) rfl (wpAny_bind (wpAny_field hos hds (x := .none) rfl (wpAny_bind (wpAny_field hos hds (x := vs) rfl (wpAny_pure ?_)))))))
  refine wpAny_bind (HT.slicePart_ pk ?_)
  show wpAny _ _ (if ((-1 : Int) == 0) = true then _ else _) _ _ s
  rw [if_neg (by decide)]
  refine wpAny_bind (HT.slicePart_ .none (wpAny_bind (HT.slicePart_ .none (wpAny_bind (wpAny_pure ?_)))))
  show wpAny _ _ (match Builtin.Slice.sliceAdjust none none (-1) (n : Int) with | (lo, hi) => pure (lo, (-1 : Int), Builtin.Slice.slicePlaces lo hi (-1))) _ _ s
  rw [adj_rev]
  show wpAny _ _ (pure ((n : Int) - 1, (-1 : Int), Builtin.Slice.slicePlaces ((n : Int) - 1) (-1) (-1))) _ _ s
  rw [places_rev]
  exact wpAny_pure h
theorem getItem_rev {t sl : Addr} {items : Array Value} {vs : Value} {Q : Value → Shared → Prop} (ht : IsTup s.heap t items) (hs : s.heap.IsSliceOf sl .none .none vs) (pk : IsPart vs (some (-1)))
    (h : Q (.ref s.heap.objs.size) { s with heap := s.heap.push { cls := .type "tuple", data := .seq items.toList.reverse.toArray } }) (hsz : items.size ≤ sizeLine) : wpAny (model prog w) A (getItem (.ref t) (.ref sl)) Q E s := by
  have hok : sizeOk (.seq items.toList.reverse.toArray) := by
    show items.toList.reverse.toArray.size ≤ sizeLine
    rw [List.size_toArray, List.length_reverse, Array.length_toList]
    exact hsz
  obtain ⟨os, hos, hcs, hds⟩ := id hs
  have hT : s.TypeIs (.ref sl) "slice" := ⟨os, hos, hcs⟩
  unfold getItem
  try with_reducible refine wpAny_holding ?_
  first | refine wpAny_bind (wpAny_pure ?_) | skip
  refine wpAny_bind (wpAny_sequenceKey ht.typeIs (by decide) ?_)
  refine wpAny_bind (wpAny_callSpecial?_slot (name := Str.ofString "__getitem__") ht.typeIs slot_tuple_getitem (wpAny_call_entry slot_tuple_getitem ht.typeIs entry_tuple_getitem ?_ (args_tuple_getitem _ _)))
  show wpAny _ _ (Builtin.Tuple.tupleItemsOf (.ref t) >>= _) _ _ s
  refine wpAny_bind (tupleItemsOf_ ht ?_)
  refine wpAny_bind (wpAny_typeOf hT ?_)
  rw [if_pos (by decide)]
  refine wpAny_bind (applied_rev hs pk ?_)
  have hno : ¬ ((((items.size : Int) - 1) == 0 && (-1 : Int) == 1 && items.size == items.size) = true) := by
    intro q
    rw [Bool.and_eq_true, Bool.and_eq_true] at q
    exact absurd q.1.2 (by decide)
  show wpAny _ _ (if (((items.size : Int) - 1) == 0 && (-1 : Int) == 1 && items.size == items.size) = true then _ else _) _ _ s
  rw [if_neg hno, pick_rev]
  first
    | exact wpAny_bind (m := Builtin.Tuple.tupleExact _) (wpAny_newObj_type (wpAny_pure ⟨_, rfl, wpAny_pure h⟩) hok)
    | exact wpAny_bind (m := Builtin.Tuple.tupleExact _) (wpAny_newObj_type (wpAny_bind (wpAny_pure (wpAny_pure ⟨_, rfl, wpAny_pure h⟩))) hok)
    | exact wpAny_bind (wpAny_bind (m := Builtin.Tuple.tupleExact _) (wpAny_newObj_type (wpAny_pure (wpAny_pure ⟨_, rfl, wpAny_pure h⟩)) hok))
    | exact wpAny_bind (wpAny_bind (m := Builtin.Tuple.tupleExact _) (wpAny_newObj_type (wpAny_pure ⟨_, rfl, wpAny_pure h⟩) hok))
end
section
variable {g : G} {W : WX} {X : Cx} {pos p2 : Pos}
def dRev (d ds : D) : D := fun env st => (d env st).bind fun x st1 => (ds env st1).bind fun i st2 => match x, i with
  | .tup xs, .int j => if j = -1 then .ok (.tup xs.reverse) st2 else .bad
  | _, _ => .bad
theorem de_rev {e k : Expr} {d ds : D} (hK : g.K = X.K) (he : PE X e (tD g W d)) (hk : PE X k (tD g W ds)) : PE X (.Subscript e (.Slice none none (some k) p2) pos) (tD g W (dRev d ds)) := by
  refine ⟨fun pins s σ H Q I ⟨ρ, env, st, sr, er, h⟩ => ?_⟩
  have rd : tD g W d σ H (fun x H1 => tD g W ds σ H1 (fun i H2 => ∃ (a : Addr) (vs : List V), x = .ref a ∧ i = .int (-1) ∧ SqT X.K H2 a vs ∧ vs.length ≤ sizeLine ∧ ∀ p, H2 p = none → Q (.ref p) (upd H2 p (.tup vs.reverse)))) :=
    tD_of okE.mono sr er h fun ρ1 H1 x st1 u P1 h1 => tD_of okE.mono P1.sr (er.mono P1.ext) h1 fun ρ2 H2 i st2 u2 P2 h2 => by
      cases x with
      | tup xs =>
        cases i with
        | int j =>
          replace h2 : RP (if j = -1 then .ok (.tup xs.reverse) st2 else .bad) (okE g Q ρ2 H2) (xP g W σ ρ2 H2) := h2
          split at h2
          · rename_i hj
            subst hj
            obtain ⟨a, vs, rfl, q1, q2, q3⟩ := asT_ok (g := g) (xs := xs) (P1.vr.mono P2.ext) rfl
            exact ⟨a, vs, rfl, vr_int P2.vr, hK ▸ q1, q2, fun p np => h2 ρ2 _ _ (.newTup P2.sr np (by rw [List.length_reverse]; exact q2) q3.reverse)⟩
          · exact h2.elim
        | _ => exact h2.elim
      | _ => exact h2.elim
  refine Subscript_ (thn (he.run pins s σ H _ I rd) fun v z1 ⟨x, H1, I1, r1, q1⟩ => ?_)
  refine wpAny_Slice ?_
  rw [evalPart_none]
  refine wpAny_pure ?_
  refine wpAny_pure ?_
  rw [evalPart_some]
  refine thn (hk.run pins z1 σ H1 _ I1 q1) fun vk z2 ⟨i, H2, I2, r2, a, vs, ex, ei, hq, hl, q2⟩ => ?_
  subst ex
  subst ei
  obtain rfl : v = Value.ref a := r1
  obtain ⟨t, rfl⟩ := r2
  have I3 : Inv X pins σ H2 { z2 with heap := z2.heap.push { cls := .type "slice", data := .fields #[.none, .none, .int (-1) t] } } := I2.kept (t' := z2.toks) fun b ob q => Heap.get?_push_of_some _ q
  obtain ⟨its, rv, ht, hz⟩ := I3.tuple hq
  show wpAny (model X.prog X.w) X.A (subscriptTail e (.Slice none none (some k) p2) (.ref a) (.ref z2.heap.objs.size)) (EP X pins σ Q) X.xe { z2 with heap := z2.heap.push { cls := .type "slice", data := .fields #[.none, .none, .int (-1) t] } }
  refine tail_any (ops := [.ref a, .ref z2.heap.objs.size]) ht.typeIs slot_tuple_getitem.lookup (getItem_rev ht (Heap.IsSliceOf.new ..) (.int _ _) ?_ (by rw [List.size_toArray, ← rv.length]; exact hl)) (by with_unfolding_all rfl)
  refine ⟨.ref _, _, I3.laid (t' := z2.toks) (o := .tup vs.reverse) (fun b ob q => Heap.get?_push_of_some _ q) (Nat.le_refl _) ?_, rfl, q2 _ (I3.hok.fresh (Nat.le_refl _))⟩
  exact ⟨by rw [List.length_reverse]; exact hl, _, rv.reverse, IsTup.new _ _⟩
end
end Bb
namespace Bb
open PySem L2 PyProof.Rows SrtO Srt
/-! ### sorted of a tuple of ints -/
section
variable {prog : Program} {w : World} {A : Around} {E : Value → Shared → Prop} {s : Shared}
theorem collect_tup {l : Addr} {vs : List Value} {Q : List Value → Shared → Prop} (hl : IsTup s.heap l vs.toArray) (h : Q vs { s with heap := (s.heap.push (seqObj "list" #[] 0)).update s.heap.objs.size (Obj.mapSeq (· ++ vs.toArray)) }) (hsz : vs.length ≤ sizeLine) :
    wpAny (model prog w) A (collect (.ref l)) Q E s := by
  obtain ⟨o, n, ho, hc, hd⟩ : ∃ o n, s.heap.get? l = some o ∧ o.cls = .type "tuple" ∧ o.data = .seq vs.toArray n := by
    obtain ⟨o, ho, hc, n, hd⟩ := hl
    exact ⟨o, n, ho, hc, hd⟩
  unfold collect
  refine wpAny_bind (wpAny_runValue (codeAny_builtin entry_proto_collect' ?_))
  show wpAny _ _ (do again (.builtin "list.__iadd__" ⟨[← newList [], .ref l], []⟩)) _ _ s
  refine wpAny_bind (wpAny_newList (wpAny_pure ⟨Code.quiet_builtin _ (by decide +kernel), codeAny_builtin entry_list_iadd' ?_⟩))
  show wpAny _ _ (Builtin.List.listExtendWith (.ref s.heap.objs.size) (.ref l) (.ref s.heap.objs.size)) _ _ _
  unfold Builtin.List.listExtendWith
  have ho2 : (s.heap.push (seqObj "list" #[] 0)).get? l = some o := Heap.get?_push_of_some _ ho
  refine wpAny_bind (wpAny_typeOf (T := "tuple") ⟨o, ho2, hc⟩ ?_)
  rw [if_pos (by rw [show (Value.type "tuple" == Value.type "tuple") = true by rfl]; simp)]
  refine wpAny_bind (listItems_at ho2 hd ?_)
  refine wpAny_bind (listItems_at (xs := #[]) (n := 0) (Heap.get?_push_size _ rfl) rfl ?_)
  rw [if_neg (by simp)]
  refine wpAny_bind (listUpdate_at (xs := #[]) (n := 0) (Heap.get?_push_size _ rfl) rfl ?_ (Nat.zero_le _) (by show (#[] ++ vs.toArray).size ≤ sizeLine + 1; simp only [Array.size_append, List.size_toArray, List.length_nil]; omega))
  refine wpAny_pure ?_
  show wpAny (model prog w) A (load s.heap.objs.size >>= fun o => match o.data with | .seq xs _ => pure xs.toList | _ => unsupported "internal:collect") Q E _
  refine wpAny_bind (wpAny_load (get?_update_seq (Heap.get?_push_size _ rfl) _) ?_)
  show wpAny _ _ (pure ((#[] : Array Value) ++ vs.toArray).toList) Q E _
  rw [show ((#[] : Array Value) ++ vs.toArray).toList = vs by simp]
  exact wpAny_pure h
theorem sorted_tup {l : Addr} {vs : List Value} {ltv : Value → Value → Bool} {Q : Value → Shared → Prop} (O : Swo ltv) (hl : IsTup s.heap l vs.toArray) (hz : vs.length ≤ sizeLine) (hS : 2 ≤ vs.length → ∀ (h₁ : Heap) (a : Addr), SortableO prog w A.in1.in1 { s with heap := h₁ } a vs ltv)
    (fin : ∀ out : List Value, Srtd ltv out → Stb ltv out vs → Q (.ref (s.heap.objs.size + 1)) { s with heap := sortedAll s.heap vs out.toArray }) : wpAny (model prog w) A (call (.builtin "sorted") [.ref l]) Q E s := by
  refine Calls.call_function_entry kind_sorted plain_sorted entry_sorted (args_sorted1 _) ?_
  unfold Builtin.«sorted»
  refine wpAny_bind (m := checkCount "sorted" 1 1 _) (wpAny_pure ?_)
  refine wpAny_bind (collect_tup hl ?_ hz)
  refine wpAny_bind (wpAny_newList ?_ hz)
  have sz : ((s.heap.push (seqObj "list" #[] 0)).update s.heap.objs.size (Obj.mapSeq (· ++ vs.toArray))).objs.size = s.heap.objs.size + 1 := by rw [Heap.size_update, size_push']
  have at1 : (((s.heap.push (seqObj "list" #[] 0)).update s.heap.objs.size (Obj.mapSeq (· ++ vs.toArray))).push (seqObj "list" vs.toArray 0)).get? (s.heap.objs.size + 1) = some (seqObj "list" vs.toArray 0) := by rw [← sz]; exact Heap.get?_push_size _ rfl
  show wpAny _ _ _ _ _ { s with heap := ((s.heap.push (seqObj "list" #[] 0)).update s.heap.objs.size (Obj.mapSeq (· ++ vs.toArray))).push (seqObj "list" vs.toArray 0) }
  rw [sz]
  refine wpAny_bind (wpAny_holding (wpAny_call_entry slot_list_sort ⟨_, at1, rfl⟩ entry_list_sort (list_sort_ord O at1 hz (fun h2 => hS h2 _ _) fun out hs hb => ⟨_, rfl, ?_⟩) (args_list_sort _)))
  exact wpAny_pure ⟨_, rfl, fin out hs hb⟩
end
section
variable {X : Cx} {g : G}
theorem cl_srtT {K : PySem.W.Frag} (hK : K = X.K) {pins : List (Addr × Obj)} {σ : L2.St} {H : Hp} {s : Shared} {a : Addr} {ns : List Int} {us : List Value} {Q : VK} (I : Inv X pins σ H s) (r : Vals [V.ref a] us) (hs : SqT K H a (ns.map V.int)) (q : ∀ (ns' : List Int) (p : Addr), ns'.Perm ns → ns'.Pairwise (· ≤ ·) → H p = none → Q (.ref p) (upd H p (.lst (ns'.map V.int)))) :
    wpAny (model X.prog X.w) X.A (call (.builtin "sorted") us) (EP X pins σ Q) X.xe s := by
  subst hK
  obtain ⟨its, rv, hl, hz⟩ := I.tuple hs
  rw [Vals.ref1 r]
  have hi := rv.ints
  refine sorted_tup swo_int hl (by rw [← rv.length]; exact hz) (fun h2 h₁ a' => ints_sortable hi h2) fun out h1 h2 => ?_
  obtain ⟨k1, k2, k3⟩ := ints_out hi h1 h2
  obtain ⟨ep, he'⟩ := PyProof.Rows.sortedAll_at s.heap its out.toArray
  have hlen : ((out.map iv).map V.int).length ≤ sizeLine := by
    rw [List.length_map, k2.length_eq]
    simpa using hz
  exact ⟨.ref _, upd H (s.heap.objs.size + 1) (.lst ((out.map iv).map V.int)), I.laid (t' := s.toks) (fun _ _ => PyProof.Rows.sortedAll_old) (Nat.le_succ _) ⟨hlen, out, ep, vals_of_ints k1, he'⟩, rfl, q _ _ k2 k3 (I.hok.fresh (Nat.le_succ _))⟩
/-- sorted(x) of a list, of a tuple -/
def srtG (st : Sto) : List PV → Option PV
  | [x] => match asS st x with
    | some xs => (intsP xs).map fun ns => .tl ((srt ns).map .int)
    | none => none
  | _ => none
theorem cl_srtG (hK : g.K = X.K) : CallR X (.builtin "sorted") (rPN g srtG) := by
  intro pins s σ H us vs Q I r ⟨ρ, st, xs, z, sr, rx0, hz, k⟩
  unfold srtG at hz
  split at hz
  · split at hz
    · rename_i hx
      obtain ⟨ns, hn, rfl⟩ := Option.map_eq_some_iff.mp hz
      obtain ⟨u, rfl, rx⟩ := vrs1 rx0
      obtain ⟨a, ws, rfl, h1, h2, h3⟩ := asS_ok sr rx hx
      have e := intsP_ok h3 hn
      subst e
      have fin : ∀ (ms : List Int) (p : Addr), ms.Perm ns → ms.Pairwise (· ≤ ·) → H p = none → Q (.ref p) (upd H p (.lst (ms.map V.int))) := fun ms p hp hs np => by
        have e2 := srt_unique hp hs
        subst e2
        refine k ρ _ _ (.newList sr np ?_ (ints_vrs _))
        rw [List.length_map] at h2 ⊢
        rw [(srt_perm ns).length_eq]
        exact h2
      rcases h1 with h1 | h1
      · exact cr_sortedI pins s σ H _ vs Q I r ⟨a, ns, rfl, by rw [← hK]; exact h1, fin⟩
      · exact cl_srtT hK I r h1 fin
    · cases hz
  · cases hz
end
end Bb
namespace Bb
open PySem L2 PyProof.Rows
open PySem.W (minOf minD_map minD_ints min_tuple_datum Datum HoldAll)
/-- the least of some numbers -/
def minI (n : Int) (ns : List Int) : Int := ns.foldl min n
theorem minI_le (n : Int) (ns : List Int) : minI n ns ≤ n ∧ ∀ m ∈ ns, minI n ns ≤ m := by
  unfold minI
  induction ns generalizing n with
  | nil => simp
  | cons k r ih =>
    rw [List.foldl_cons]
    obtain ⟨h1, h2⟩ := ih (min n k)
    refine ⟨by omega, fun m hm => ?_⟩
    rcases List.mem_cons.mp hm with rfl | hm
    · omega
    · exact h2 m hm
theorem minI_mem (n : Int) (ns : List Int) : minI n ns ∈ n :: ns := by
  unfold minI
  induction ns generalizing n with
  | nil => simp
  | cons k r ih =>
    rw [List.foldl_cons]
    have := ih (min n k)
    rcases List.mem_cons.mp this with h | h
    · rw [h]
      by_cases c : n ≤ k
      · rw [Int.min_eq_left c]; simp
      · rw [Int.min_eq_right (by omega)]; simp
    · exact List.mem_cons_of_mem _ (List.mem_cons_of_mem _ h)
theorem minI_uniq {n m : Int} {ns : List Int} (h1 : m ∈ n :: ns) (h2 : ∀ y ∈ n :: ns, m ≤ y) : m = minI n ns := by
  have a := h2 _ (minI_mem n ns)
  have b := minI_le n ns
  rcases List.mem_cons.mp h1 with rfl | h
  · omega
  · have := b.2 m h
    omega
section
variable {X : Cx} {g : G}
theorem minOf_int (n : Int) (ns : List Int) : (minOf n ns : Int) = minI n ns := by
  have := minD_map n ns
  rw [show Datum.toD n = PyData.int n from rfl, show ns.map Datum.toD = ns.map PyData.int from rfl, minD_ints] at this
  exact (PyData.int.inj this).symm
/-- min(x) of a list, of a tuple; of two -/
def minG (st : Sto) : List PV → Option PV
  | [.int i, .int j] => some (.int (if j < i then j else i))
  | [x] => match asS st x with
    | some xs => match intsP xs with
      | some (n :: ns) => some (.int (minI n ns))
      | _ => none
    | none => none
  | _ => none
theorem cl_minG (hK : g.K = X.K) (hc : X.calm = true) (hu : X.A.units + 64 < cLine) : CallR X (.builtin "min") (rPN g minG) := by
  intro pins s σ H us vs Q I r ⟨ρ, st, xs, z, sr, rx0, hz, k⟩
  unfold minG at hz
  split at hz
  · cases hz
    obtain ⟨u, w, rfl, rx, ry⟩ := vrs2 rx0
    cases vr_int rx; cases vr_int ry
    exact call_min2 hc pins s σ H _ vs Q I r ⟨_, _, rfl, k.int sr⟩
  · split at hz
    · rename_i hx
      split at hz
      · rename_i n ns hn
        cases hz
        obtain ⟨u, rfl, rx⟩ := vrs1 rx0
        obtain ⟨a, ws, rfl, h1, h2, h3⟩ := asS_ok sr rx hx
        have e := intsP_ok h3 hn
        subst e
        rcases h1 with h1 | h1
        · exact cr_min hc pins s σ H _ vs Q I r ⟨a, n :: ns, rfl, by rw [← hK]; exact h1, by simp, fun m hm hl => by
            rw [minI_uniq hm hl]
            exact k.int sr⟩
        · obtain ⟨its, rv, hl, hz⟩ := I.tuple (hK ▸ h1)
          rw [Vals.ref1 r]
          have hi := rv.ints
          refine min_tuple_datum (α := Int) (x := n) (xs := ns) (I.ok.hd hc) hl (HoldAll.of_ints hi) (by show X.A.units + 1 + 0 < cLine; omega) fun i v h' tk hv hd hk => ?_
          rw [minOf_int] at hd
          obtain ⟨as, hr⟩ := hd
          cases hr
          exact ⟨.int _, H, I.kept hk, ⟨_, rfl⟩, k.int sr⟩
      · cases hz
    · cases hz
  · cases hz
end
end Bb
namespace Bb
open PySem L2 PyProof.Rows
/-! ### sorted of tuples of so many numbers -/
def BB : Int := 1048576
def BdB (d : Nat) (ns : List Int) : Bool := decide (ns.length = d) && ns.all fun n => decide (0 ≤ n) && decide (n < BB)
def leC (a b : List Int) : Bool := decide (TS.code BB a ≤ TS.code BB b)
def srtC (l : List (List Int)) : List (List Int) := l.mergeSort leC
theorem bdB_ok {d : Nat} {ns : List Int} (h : BdB d ns = true) : ns.length = d ∧ TS.Bd BB ns := by
  unfold BdB at h
  rw [Bool.and_eq_true, decide_eq_true_eq, List.all_eq_true] at h
  exact ⟨h.1, fun m hm => by
    have := h.2 m hm
    simpa using this⟩
theorem pow_pos' (n : Nat) : (0 : Int) < BB ^ n := Int.pow_pos (by decide)
theorem code_rg : ∀ {ns : List Int}, TS.Bd BB ns → 0 ≤ TS.code BB ns ∧ TS.code BB ns < BB ^ ns.length
  | [], _ => ⟨Int.le_refl _, by show (0 : Int) < BB ^ 0; exact pow_pos' 0⟩
  | d :: r, h => by
    have ih := code_rg h.tail
    have := TS.num1 ih.1 ih.2 h.head.1 h.head.2
    refine ⟨this.1, ?_⟩
    rw [List.length_cons, Int.pow_succ]
    exact this.2
theorem code_inj : ∀ {a b : List Int}, a.length = b.length → TS.Bd BB a → TS.Bd BB b → TS.code BB a = TS.code BB b → a = b
  | [], [], _, _, _, _ => rfl
  | [], _ :: _, h, _, _, _ => by cases h
  | _ :: _, [], h, _, _, _ => by cases h
  | x :: a, y :: b, h, ha, hb, e => by
    have hl : a.length = b.length := by simpa using h
    have ra := code_rg ha.tail
    have rb := code_rg hb.tail
    have e : x * BB ^ a.length + TS.code BB a = y * BB ^ b.length + TS.code BB b := e
    rw [hl] at e ra
    have hp := pow_pos' b.length
    generalize BB ^ b.length = P at e ra rb hp
    have e1 : (x * P + TS.code BB a) / P = x := by
      rw [Int.add_comm, Int.add_mul_ediv_right _ _ (by omega), Int.ediv_eq_zero_of_lt ra.1 ra.2, Int.zero_add]
    have e2 : (y * P + TS.code BB b) / P = y := by
      rw [Int.add_comm, Int.add_mul_ediv_right _ _ (by omega), Int.ediv_eq_zero_of_lt rb.1 rb.2, Int.zero_add]
    have hxy : x = y := by rw [← e1, ← e2, e]
    subst hxy
    rw [code_inj hl ha.tail hb.tail (by omega)]
theorem srtC_perm (l : List (List Int)) : (srtC l).Perm l := List.mergeSort_perm _ _
theorem srtC_sorted (l : List (List Int)) : (srtC l).Pairwise fun a b => TS.code BB a ≤ TS.code BB b := by
  have := List.pairwise_mergeSort (le := leC) (fun a b c h1 h2 => by
    simp only [leC, decide_eq_true_eq] at *
    omega) (fun a b => by
    simp only [leC, Bool.or_eq_true, decide_eq_true_eq]
    omega) l
  exact this.imp fun h => by simpa [leC] using h
theorem map_inj_on {α β : Type} {f : α → β} : ∀ {l m : List α}, (∀ a ∈ l, ∀ b ∈ m, f a = f b → a = b) → l.map f = m.map f → l = m
  | [], [], _, _ => rfl
  | [], _ :: _, _, h => by simp at h
  | _ :: _, [], _, h => by simp at h
  | a :: l, b :: m, hi, h => by
    simp only [List.map_cons, List.cons.injEq] at h
    rw [hi a List.mem_cons_self b List.mem_cons_self h.1, map_inj_on (fun x hx y hy => hi x (List.mem_cons_of_mem _ hx) y (List.mem_cons_of_mem _ hy)) h.2]
theorem srtC_unique {l ys : List (List Int)} {d : Nat} (hl : ∀ ns ∈ l, BdB d ns = true) (hp : ys.Perm l) (hs : ys.Pairwise fun a b => TS.code BB a ≤ TS.code BB b) : ys = srtC l := by
  have hp2 : ys.Perm (srtC l) := hp.trans (srtC_perm l).symm
  have e1 : ys.map (TS.code BB) = (srtC l).map (TS.code BB) := by
    have a1 := srt_unique (hp2.map (TS.code BB)) (by rw [List.pairwise_map]; exact hs)
    have a2 := srt_unique (List.Perm.refl ((srtC l).map (TS.code BB))) (by rw [List.pairwise_map]; exact srtC_sorted l)
    rw [a1, ← a2]
  refine map_inj_on (fun a ha b hb h => ?_) e1
  obtain ⟨la, ba⟩ := bdB_ok (hl a (hp.mem_iff.mp ha))
  obtain ⟨lb, bb⟩ := bdB_ok (hl b ((srtC_perm l).mem_iff.mp hb))
  exact code_inj (la.trans lb.symm) ba bb h
def tupsP : List PV → Option (List (List Int))
  | [] => some []
  | .tup b :: r => (intsP b).bind fun x => (tupsP r).map (x :: ·)
  | _ => none
def okC (nss : List (List Int)) : Bool := decide (nss.length < 64) && decide (1 ≤ (nss.headD []).length) && nss.all (BdB (nss.headD []).length)
def srtTs (st : Sto) : List PV → Option PV
  | [x] => (asL st x).bind fun xs => (tupsP xs).bind fun nss => if okC nss = true then some (.tl ((srtC nss).map fun ns => .tup (ns.map .int))) else none
  | _ => none
section
variable {g : G} {X : Cx} {ρ : Lo} {H : Hp}
theorem tupsP_ok : ∀ {xs : List PV} {us : List V} {nss : List (List Int)}, VRs g.K ρ H xs us → tupsP xs = some nss → us.length = nss.length ∧ Paired (fun u ns => TupI g.K H u ns ∧ ns.length ≤ sizeLine) us nss
  | [], us, nss, r, h => by
    unfold VRs at r
    subst r
    cases h
    exact ⟨rfl, .nil⟩
  | x :: xs, us, nss, r, h => by
    unfold VRs at r
    obtain ⟨v, w, rfl, h1, h2⟩ := r
    cases x with
    | tup b =>
      unfold tupsP at h
      simp only [Option.bind_eq_some_iff, Option.map_eq_some_iff] at h
      obtain ⟨ns, h3, q, h4, rfl⟩ := h
      obtain ⟨h5, h6⟩ := tupsP_ok h2 h4
      unfold VR at h1
      obtain ⟨a, ws, rfl, s1, s2, s3⟩ := h1
      have e := intsP_ok s3 h3
      subst e
      exact ⟨by simp [h5], .cons ⟨⟨a, rfl, s1⟩, by simpa using s2⟩ h6⟩
    | _ => cases h
theorem paired_mem {α β : Type} {F : α → β → Prop} : ∀ {l : List α} {m : List β}, Paired F l m → ∀ x ∈ l, ∃ y ∈ m, F x y
  | _, _, .nil, x, h => nomatch h
  | _, _, .cons a b, x, h => by
    rcases List.mem_cons.mp h with rfl | h
    · exact ⟨_, List.mem_cons_self, a⟩
    · obtain ⟨y, h1, h2⟩ := paired_mem b x h
      exact ⟨y, List.mem_cons_of_mem _ h1, h2⟩
open Classical in
noncomputable def contC (K : PySem.W.Frag) (H : Hp) (u : V) : List Int := if h : ∃ ns, TupI K H u ns then h.choose else []
theorem cl_srtTs (hK : g.K = X.K) : CallR X (.builtin "sorted") (rPN g srtTs) := by
  intro pins s σ H us vs Q I r ⟨ρ, st, xs, z, sr, rx0, hz, k⟩
  unfold srtTs at hz
  split at hz
  · simp only [Option.bind_eq_some_iff] at hz
    obtain ⟨ys, hy, nss, hn, hz⟩ := hz
    split at hz
    · rename_i ho
      cases hz
      unfold okC at ho
      simp only [Bool.and_eq_true, decide_eq_true_eq, List.all_eq_true] at ho
      obtain ⟨⟨ho1, ho2⟩, ho3⟩ := ho
      obtain ⟨u, rfl, rx⟩ := vrs1 rx0
      obtain ⟨a, ws, rfl, h1, h2, h3⟩ := asL_ok sr rx hy
      obtain ⟨l1, l2⟩ := tupsP_ok h3 hn
      have uniq : ∀ {u : V} {n m : List Int}, TupI g.K H u n → TupI g.K H u m → n = m := fun {u n m} ⟨t, e, p⟩ ⟨t', e', p'⟩ => by
        rw [e] at e'
        cases e'
        have := I.tuple_inj (hK ▸ p) (hK ▸ p')
        exact map_inj_on (fun x _ y _ h => V.int.inj h) this
      have cont : ∀ {u : V} {n : List Int}, TupI g.K H u n → contC g.K H u = n := fun {u n} h => by
        unfold contC
        rw [dif_pos ⟨n, h⟩]
        exact uniq (Exists.choose_spec (⟨n, h⟩ : ∃ ns, TupI g.K H u ns)) h
      have hmap : ws.map (contC g.K H) = nss := by
        clear h3 h2 h1 ho1 ho2 ho3 hn l1 k
        induction l2 with
        | nil => rfl
        | cons a b ih => rw [List.map_cons, cont a.1, ih]
      refine cr_sortT (d := (nss.headD []).length) (B := BB) ho2 pins s σ H _ vs Q I r ⟨a, ws, rfl, hK ▸ h1, by rw [l1]; exact ho1, fun x hx => ?_, fun zs p hp hs np => ?_⟩
      · obtain ⟨ns, m1, m2⟩ := paired_mem l2 x hx
        obtain ⟨b1, b2⟩ := bdB_ok (ho3 ns m1)
        exact ⟨ns, hK ▸ m2.1, b1, b2⟩
      · have each : ∀ z ∈ zs, ∃ ns ∈ nss, TupI g.K H z ns ∧ ns.length ≤ sizeLine := fun z hz => paired_mem l2 z (hp.mem_iff.mp hz)
        have key : zs.map (contC g.K H) = srtC nss := by
          refine srtC_unique ho3 (by rw [← hmap]; exact hp.map _) ?_
          rw [List.pairwise_map]
          refine List.Pairwise.imp_of_mem (fun {x y} hx hy h => ?_) hs
          obtain ⟨n, _, t1, _⟩ := each x hx
          obtain ⟨m, _, t2, _⟩ := each y hy
          rw [cont t1, cont t2]
          exact h n m (hK ▸ t1) (hK ▸ t2)
        refine k ρ _ _ (.newList sr np ?_ ?_)
        · rw [hp.length_eq]; exact h2
        · rw [← key]
          clear key hs hp
          induction zs with
          | nil => exact .nil
          | cons z zs ih =>
            obtain ⟨n, _, t1, t2⟩ := each z List.mem_cons_self
            refine .cons ?_ (ih fun y hy => each y (List.mem_cons_of_mem _ hy))
            rw [cont t1]
            obtain ⟨t, rfl, ht⟩ := t1
            unfold VR
            exact ⟨t, n.map V.int, rfl, ht, by rw [List.length_map]; exact t2, ints_vrs _⟩
    · cases hz
  · cases hz
/-- sorted(x): numbers, or tuples of so many numbers -/
def srtA (st : Sto) (xs : List PV) : Option PV := match srtG st xs with
  | some z => some z
  | none => srtTs st xs
theorem cl_srtA (hK : g.K = X.K) : CallR X (.builtin "sorted") (rPN g srtA) := by
  intro pins s σ H us vs Q I r ⟨ρ, st, xs, z, sr, rx0, hz, k⟩
  unfold srtA at hz
  split at hz
  · rename_i w hw
    cases hz
    exact cl_srtG hK pins s σ H us vs Q I r ⟨ρ, st, xs, _, sr, rx0, hw, k⟩
  · exact cl_srtTs hK pins s σ H us vs Q I r ⟨ρ, st, xs, z, sr, rx0, hz, k⟩
end
end Bb
namespace Bb
open PySem L2 PySem.Spec PyProof.Rows
/-! ### {e for t0 in j0 for t1 in j1}: a set of numbers -/
abbrev sc2E (e t0 j0 t1 j1 : Expr) (c0 c1 : List Expr) (sc : Scope) (ps : Pos) : Expr := .SetComp e [⟨t0, j0, c0, 0⟩, ⟨t1, j1, c1, 0⟩] sc ps
theorem sc2_outer (e t0 j0 t1 j1 : Expr) (c0 c1 : List Expr) (sc : Scope) (ps : Pos) (itr gat : Value) (en : Env) :
    compTurn (sc2E e t0 j0 t1 j1 c0 c1 sc ps) 0 itr gat en = (do
      standAt j0.pos
      match ← pyNext itr with
      | none => pure (.done .next)
      | some y =>
        letOwnedTupleGo t0 itr y
        assign t0 en y
        let mut good := true
        for c in c0 do
          if good then good ← isTrue c en (eval c en)
        if good then
          let z ← eval j1 en
          standAt j1.pos
          let z ← foldedSetIterable j1 en z
          let _ ← runOwn (.compStart (sc2E e t0 j0 t1 j1 c0 c1 sc ps) 1 (← holding [z] (pyIter z)) gat en) en
        again (.compLoop (sc2E e t0 j0 t1 j1 c0 c1 sc ps) 0 itr gat en)) := by rfl
theorem sc2_inner (e t0 j0 t1 j1 : Expr) (c0 c1 : List Expr) (sc : Scope) (ps : Pos) (itr gat : Value) (en : Env) :
    compTurn (sc2E e t0 j0 t1 j1 c0 c1 sc ps) 1 itr gat en = (do
      standAt j1.pos
      match ← pyNext itr with
      | none => pure (.done .next)
      | some y =>
        letOwnedTupleGo t1 itr y
        assign t1 en y
        let mut good := true
        for c in c1 do
          if good then good ← isTrue c en (eval c en)
        if good then
          (do let z ← eval e en; standAt e.pos; let _ ← call (.builtin "set.add") [gat, z])
        again (.compLoop (sc2E e t0 j0 t1 j1 c0 c1 sc ps) 1 itr gat en)) := by rfl
section
variable {P : Program} {w : World} {A : Around} {R : Result → Shared → Prop} {s : Shared} {e t0 j0 t1 j1 : Expr} {c0 c1 : List Expr} {sc : Scope} {ps : Pos} {itr gat : Value} {en : Env}
/-- the tests of a clause -/
abbrev tstF (cs : List Expr) (en : Env) : Sem Bool := forIn cs true fun c r => if r = true then do let good ← isTrue c en (eval c en); pure (ForInStep.yield good) else pure (ForInStep.yield r)
/-- exceptions are noted on the way out -/
abbrev nb (P : Program) (w : World) (A : Around) (en : Env) (R : Result → Shared → Prop) : Value → Shared → Prop := notedBy (model P w) A en fun x s' => R (.error x) s'
theorem sc2_loop0 (hf : ∀ x, foldedSetIterable j1 en x = pure x) (Inn : Nat → Shared → Prop)
    (step : ∀ n s, Inn n s → wpAny (model P w) A (pyNext itr) (fun o sa => match o with
      | none => R (.ok .next) sa
      | some y => wpAny (model P w) A (letOwnedTupleGo t0 itr y) (fun _ sb => wpAny (model P w) A (assign t0 en y) (fun _ sd => wpAny (model P w) A (tstF c0 en) (fun good se =>
            if good = true then wpAny (model P w) A (eval j1 en) (fun z sf => wpAny (model P w) A (pyIter z) (fun i1 sg => codeAny (model P w) A (.compStart (sc2E e t0 j0 t1 j1 c0 c1 sc ps) 1 i1 gat en) (fun r s' => match r with
                | .ok _ => ∃ m, m < n ∧ Inn m s'
                | .error _ => False) sg) (nb P w A en R) sf) (nb P w A en R) se
            else ∃ m, m < n ∧ Inn m se) (nb P w A en R) sd) (nb P w A en R) sb) (nb P w A en R) sa) (nb P w A en R) s)
    (n : Nat) (h : Inn n s) : codeAny (model P w) A (.compLoop (sc2E e t0 j0 t1 j1 c0 c1 sc ps) 0 itr gat en) R s := by
  refine codeAny_loop rfl Inn (fun n s hn => ?_) n h
  show wpAny _ A ((compTurn (sc2E e t0 j0 t1 j1 c0 c1 sc ps) 0 itr gat en).onRaise (fun x => do noteFrame x en; theTreesLotGoes x)) _ _ s
  refine wpAny_noted ?_
  rw [sc2_outer]
  refine wpAny_bind (wpAny_standAt (wpAny_bind (wpAny_mono (step n s hn) (fun o sa ha => ?_) fun _ _ z => z)))
  cases o with
  | none => exact wpAny_pure ha
  | some y =>
    refine wpAny_bind (wpAny_mono ha (fun _ sb hb => wpAny_bind (wpAny_mono hb (fun _ sd hd => wpAny_bind (wpAny_mono hd (fun good se he => ?_) fun _ _ z => z)) fun _ _ z => z)) fun _ _ z => z)
    cases good with
    | false => exact wpAny_pure ⟨rfl, he⟩
    | true =>
      refine wpAny_bind (wpAny_mono he (fun z sf hz => wpAny_bind (wpAny_standAt (wpAny_bind (wpAny_of_eq (hf z) (wpAny_bind (wpAny_holding (wpAny_mono hz (fun i1 sg hi => ?_) fun _ _ z => z))))))) fun _ _ z => z)
      refine wpAny_bind (wpAny_runOwn ?_)
      rw [Around.mark_none]
      refine codeAny_mono hi fun r s' hr => ?_
      cases r with
      | error _ => exact hr.elim
      | ok _ =>
        first
          | exact wpAny_bind (wpAny_pure (wpAny_pure ⟨rfl, hr⟩))
          | exact wpAny_pure ⟨rfl, hr⟩
theorem sc2_loop1 (Inn : Nat → Shared → Prop)
    (step : ∀ n s, Inn n s → wpAny (model P w) A (pyNext itr) (fun o sa => match o with
      | none => R (.ok .next) sa
      | some y => wpAny (model P w) A (letOwnedTupleGo t1 itr y) (fun _ sb => wpAny (model P w) A (assign t1 en y) (fun _ sd => wpAny (model P w) A (tstF c1 en) (fun good se =>
            if good = true then wpAny (model P w) A (eval e en) (fun z sf => wpAny (model P w) A (call (.builtin "set.add") [gat, z]) (fun _ sg => ∃ m, m < n ∧ Inn m sg) (nb P w A en R) sf) (nb P w A en R) se
            else ∃ m, m < n ∧ Inn m se) (nb P w A en R) sd) (nb P w A en R) sb) (nb P w A en R) sa) (nb P w A en R) s)
    (n : Nat) (h : Inn n s) : codeAny (model P w) A (.compLoop (sc2E e t0 j0 t1 j1 c0 c1 sc ps) 1 itr gat en) R s := by
  refine codeAny_loop rfl Inn (fun n s hn => ?_) n h
  show wpAny _ A ((compTurn (sc2E e t0 j0 t1 j1 c0 c1 sc ps) 1 itr gat en).onRaise (fun x => do noteFrame x en; theTreesLotGoes x)) _ _ s
  refine wpAny_noted ?_
  rw [sc2_inner]
  refine wpAny_bind (wpAny_standAt (wpAny_bind (wpAny_mono (step n s hn) (fun o sa ha => ?_) fun _ _ z => z)))
  cases o with
  | none => exact wpAny_pure ha
  | some y =>
    refine wpAny_bind (wpAny_mono ha (fun _ sb hb => wpAny_bind (wpAny_mono hb (fun _ sd hd => wpAny_bind (wpAny_mono hd (fun good se he => ?_) fun _ _ z => z)) fun _ _ z => z)) fun _ _ z => z)
    cases good with
    | false => exact wpAny_pure ⟨rfl, he⟩
    | true => exact wpAny_bind (wpAny_bind (wpAny_mono he (fun z sf hz => wpAny_bind (wpAny_standAt (wpAny_bind (wpAny_mono hz (fun _ sg hg => wpAny_pure (wpAny_pure ⟨rfl, hg⟩)) fun _ _ z => z)))) fun _ _ z => z))
/-- the second clause begins -/
theorem sc2_start1 (h0 : codeAny (model P w) A (.compLoop (sc2E e t0 j0 t1 j1 c0 c1 sc ps) 1 itr gat en) R s)
    (h : wpAny (model P w) A (pyIter itr) (fun i' s' => codeAny (model P w) A (.compLoop (sc2E e t0 j0 t1 j1 c0 c1 sc ps) 1 i' gat en) R s') (nb P w A en R) s) :
    codeAny (model P w) A (.compStart (sc2E e t0 j0 t1 j1 c0 c1 sc ps) 1 itr gat en) R s := by
  refine codeAny_of_tree ?_
  show wpAny _ _ ((compStart (sc2E e t0 j0 t1 j1 c0 c1 sc ps) 1 itr gat en).onRaise (fun x => do noteFrame x en; standAt theWindowsPlace)) _ _ s
  refine wpAny_notedAt ?_
  unfold compStart
  show wpAny _ _ (ask >>= _) _ _ s
  refine wpAny_bind (wpAny_askSetting (wpAny_ite ?_))
  split
  · first
      | exact wpAny_pure ⟨rfl, h0⟩
      | exact wpAny_bind (wpAny_pure (wpAny_pure ⟨rfl, h0⟩))
  · first
      | exact wpAny_bind (wpAny_rule (wpAny_bind (wpAny_standAt (wpAny_bind (wpAny_mono h (fun i' s' hh => wpAny_pure ⟨rfl, hh⟩) fun _ _ x => x)))))
      | (refine wpAny_bind (wpAny_rule ?_); show wpAny _ _ (standAt j1.pos >>= _) _ _ s; exact wpAny_bind (wpAny_standAt (wpAny_bind (wpAny_mono h (fun i' s' hh => wpAny_pure ⟨rfl, hh⟩) fun _ _ x => x))))
end
section
variable {X : Cx}
/-- what is asked of the parts: the outer source, each of its items, the inner source, each number that is put in -/
def tSet2 (w : World) (ti : TI) (g0 : TG) (ti1 : TI) (g1 : TG) (te : TE) (vs vs1 : List Nat) : TE := fun σ H Q => ti σ H fun J Ha => ∀ D, Ha D = none → ∃ U : Nat → Nat → Hp → Prop, (∃ m, U 0 m (upd Ha D (SetO w D (fun _ => false) 0))) ∧ ∀ i m Hb, U i m Hb →
  (J.stop i Hb ∧ Q (.ref D) Hb) ∨ (J.go i Hb ∧ ∃ Go : Hp → Prop, (∀ Hc, Go Hc → ∃ m', m' < m ∧ U (i + 1) m' Hc) ∧ ∀ x Hc, J.yld i Hb x Hc → g0 x (wipe σ vs) Hc fun σa Hd => wipe σa vs = wipe σ vs ∧
    ti1 σa Hd fun J1 He => ∃ U1 : Nat → Nat → Hp → Prop, (∃ m, U1 0 m He) ∧ ∀ j k Hf, U1 j k Hf →
      (J1.stop j Hf ∧ Go Hf) ∨ (J1.go j Hf ∧ ∃ Go1 : Hp → Prop, (∀ Hg, Go1 Hg → ∃ k', k' < k ∧ U1 (j + 1) k' Hg) ∧ ∀ y Hg, J1.yld j Hf y Hg → g1 y (wipe σa vs1) Hg fun σb Hh => wipe σb vs1 = wipe σa vs1 ∧
        te σb Hh fun z Hi => ∃ (c : Int) (S : Int → Bool) (n : Nat), z = .int c ∧ Hi D = some (SetO w D S n) ∧ n + 1 < scanBound ∧ Go1 (upd Hi D (SetO w D (fun l => S l || decide (l = c)) (if S c = true then n else n + 1)))))
/-- a number is put in -/
theorem put_ok {pins : List (Addr × Obj)} {σ : L2.St} {H : Hp} {s : Shared} {E : Value → Shared → Prop} {D : Addr} {S : Int → Bool} {n : Nat} {c : Int} {v : Value} {Q : Value → Shared → Prop} (I : Inv X pins σ H s) (hD : H D = some (SetO X.w D S n)) (room : n + 1 < scanBound) (rv : RelV (.int c) v)
    (h : ∀ s', Inv X pins σ (upd H D (SetO X.w D (fun l => S l || decide (l = c)) (if S c = true then n else n + 1))) s' → Q .none s') : wpAny (model X.prog X.w) X.A (call (.builtin "set.add") [.ref D, v]) Q E s := by
  obtain ⟨tk, rfl⟩ := rv
  refine setR_add (setO_get I hD) room fun hp sb new => ?_
  have alive : ∃ u, hp.get? D = some u := by
    obtain ⟨o, _, _, _, ho, _⟩ := new
    exact ⟨o, ho⟩
  exact h _ (I.write (e := D) (t' := s.toks + 1) (by rw [hD]; trivial) (.inl rfl) (fun b u hb hu => (sb.2 b hb).trans hu) alive (setO_new new))
theorem set2_core {pins : List (Addr × Obj)} {s : Shared} {σ : L2.St} {H : Hp} {Q : VK} {e t0 j0 t1 j1 : Expr} {sc : Scope} {own : List (Str × Nat)} {vs1 : List Nat} {ps ps' : Pos} {ti ti1 : TI} {g0 g1 : TG} {te : TE} {Qf : Value → Shared → Prop}
    (hc : X.calm = true) (hN : X.N.Nodup) (I : Inv X pins σ H s) (pi0 : PI X t0 j0 ti) (ok : BlkOk X.N X.env.scope sc own) (hv : ∀ i ∈ vs1, i ∈ own.map (·.2))
    (b0 : ∀ (s : Shared) (H : Hp) (C : Addr) (cl : List (Str × Addr)) (fp : List Addr), PG (X.blk s H sc (compEnvC sc cl C X.env) fp) t0 g0)
    (bi : ∀ (s : Shared) (H : Hp) (C : Addr) (cl : List (Str × Addr)) (fp : List Addr), PI (X.blk s H sc (compEnvC sc cl C X.env) fp) t1 j1 ti1)
    (b1 : ∀ (s : Shared) (H : Hp) (C : Addr) (cl : List (Str × Addr)) (fp : List Addr), PG (X.blk s H sc (compEnvC sc cl C X.env) fp) t1 g1)
    (be : ∀ (s : Shared) (H : Hp) (C : Addr) (cl : List (Str × Addr)) (fp : List Addr), PE (X.blk s H sc (compEnvC sc cl C X.env) fp) e te)
    (f0 : ∀ x, foldedSetIterable j0 X.env x = pure x) (f1 : ∀ env x, foldedSetIterable j1 env x = pure x) (h : tSet2 X.w ti g0 ti1 g1 te (own.map (·.2)) vs1 σ H Q)
    (fin0 : ∀ D C s' m H', Inv X pins σ H' s' → Q (.ref D) H' → s'.heap.Ns C m → FpOk X pins H' C → compPost (model X.prog X.w) X.A X.xe none Qf (.ref D) C (.ok .next) s') :
    wpAny (model X.prog X.w) X.A (comprehension (sc2E e t0 j0 t1 j1 [] [] sc ps) sc X.env ps' (newSet (.type "set")) false (eval j0 X.env) none) Qf X.xe s := by
  refine wpAny_comprehension_free (use := none) rfl f0 (closure_ok fun y hy q => (ok.free y hy q).elim (fun z => I.ok.has _ (.inl z)) fun z => I.ok.has _ (.inr z)) ok.kind (fun y hy q => by rw [ok.uniq y hy, q])
    (thn (pi0.run pins s σ H _ I h) fun xv sa hx => thn hx fun itv sb hb => ?_)
  obtain ⟨it, fp, tn, J, Ha, rfl, Ia, T, sta, fa, q⟩ := hb
  refine PpSet.newSet_ok (newEnv_comp ?_)
  generalize hD : sb.heap.objs.size = D
  have newD : Ha D = none := Ia.hok.fresh (Nat.le_of_eq hD)
  obtain ⟨U, ⟨m0, u0⟩, turn⟩ := q D newD
  generalize hsd : ({ sb with heap := sb.heap.push { cls := .type "set", dict := none, data := .set #[] 0 (.fresh 0 0 (!X.w.params.followText "set-order")) } } : Shared) = sd
  have heapD : sd.heap = sb.heap.push { cls := .type "set", dict := none, data := .set #[] 0 (.fresh 0 0 (!X.w.params.followText "set-order")) } := by rw [← hsd]
  generalize hHd : upd Ha D (SetO X.w D (fun _ => false) 0) = Hd at u0
  have Id : Inv X pins σ Hd sd := by
    rw [← hHd, ← hsd]
    exact Ia.laid (t' := sb.toks) (fun b o q => Heap.get?_push_of_some _ q) (Nat.le_of_eq hD) (by rw [← hD]; exact setO_new (setR_fresh X.w))
  have fpD : ∀ b ∈ fp, FpOk X pins Hd b ∧ b < sd.heap.objs.size := fun b hb => by
    obtain ⟨o, q, _⟩ := T.obj _ _ sta b hb
    have lt := Heap.lt_size q
    have ne : b ≠ D := by rw [← hD]; exact Nat.ne_of_lt lt
    exact ⟨⟨by rw [← hHd, upd_ne ne]; exact (fa b hb).1, (fa b hb).2⟩, by rw [heapD, Heap.size_push]; exact Nat.lt_succ_of_lt lt⟩
  have Ib := block_start Id ok hN fpD
  have keepT : ∀ (i : Nat) (h1 h2 : Heap), tn i h1 → (∀ b ∈ fp, ∀ o, h1.get? b = some o → h2.get? b = some o) → tn i h2 := fun i h1 h2 => T.keep i h1 h2
  have z0 := b0 sd Hd sd.heap.objs.size (cellsFrom (sd.heap.objs.size + 1) sc.names (cloFrom X.env.cells sc.names [])) fp
  have zi := bi sd Hd sd.heap.objs.size (cellsFrom (sd.heap.objs.size + 1) sc.names (cloFrom X.env.cells sc.names [])) fp
  have z1 := b1 sd Hd sd.heap.objs.size (cellsFrom (sd.heap.objs.size + 1) sc.names (cloFrom X.env.cells sc.names [])) fp
  have ze := be sd Hd sd.heap.objs.size (cellsFrom (sd.heap.objs.size + 1) sc.names (cloFrom X.env.cells sc.names [])) fp
  show codeAny _ _ (.compStart (sc2E e t0 j0 t1 j1 [] [] sc ps) 0 (.ref it) (.ref D) (compEnvC sc (cellsFrom (sd.heap.objs.size + 1) sc.names (cloFrom X.env.cells sc.names [])) sd.heap.objs.size X.env)) (compPost (model X.prog X.w) X.A X.xe none Qf (.ref D) sd.heap.objs.size) { sd with heap := pushCells (sd.heap.push { cls := .type "dict", data := .dict #[] }) sc.names }
  generalize hce : compEnvC sc (cellsFrom (sd.heap.objs.size + 1) sc.names (cloFrom X.env.cells sc.names [])) sd.heap.objs.size X.env = ce at Ib z0 zi z1 ze ⊢
  have ceL : ce.locals = sd.heap.objs.size := by subst hce; rfl
  generalize hsx : ({ sd with heap := pushCells (sd.heap.push { cls := .type "dict", data := .dict #[] }) sc.names } : Shared) = sx at Ib ⊢
  have stx : tn 0 sx.heap := T.keep _ _ _ sta fun b _ o q => by
    rw [← hsx]
    exact pushCells_keeps _ _ _ _ (Heap.get?_push_of_some _ (by rw [heapD]; exact Heap.get?_push_of_some _ q))
  have okFp : ∀ {σ' : L2.St} {H' : Hp} {s' : Shared}, Inv (X.blk sd Hd sc ce fp) [] σ' H' s' → (∀ b ∈ fp, H' b = none) → ∀ b ∈ fp, FpOk (X.blk sd Hd sc ce fp) [] H' b := fun {σ' H' s'} J' hn b hb =>
    ⟨hn b hb, (J'.ok.exf b hb).1, J'.ok.exfs b hb, .inl hb, fun x c q => (J'.ok.exf b hb).2 x c q, fun p hp => absurd (show p ∈ ([] : List (Addr × Obj)) ++ [] from hp) (by simp)⟩
  generalize hvs : own.map (·.2) = vs at *
  have loop : codeAny (model X.prog X.w) X.A (.compLoop (sc2E e t0 j0 t1 j1 [] [] sc ps) 0 (.ref it) (.ref D) ce) (compPost (model X.prog X.w) X.A X.xe none Qf (.ref D) sd.heap.objs.size) sx := by
    refine sc2_loop0 (f1 ce) (fun n s' => ∃ i H', Inv (X.blk sd Hd sc ce fp) [] (wipe σ vs) H' s' ∧ tn i s'.heap ∧ (∀ b ∈ fp, H' b = none) ∧ U i n H') ?_ m0 ⟨0, Hd, Ib, stx, fun b hb => (fpD b hb).1.1, u0⟩
    rintro n s5 ⟨i, H5, I5, st5, n5, w5⟩
    rcases turn i n H5 w5 with ⟨stop, qq⟩ | ⟨go, Go, back, step⟩
    · refine thnF (T.done (X.blk sd Hd sc ce fp) rfl rfl rfl hc i [] s5 _ H5 (fun _ _ => False) I5 (okFp I5 n5) st5 stop) fun r s6 ⟨hr, I6⟩ => ?_
      subst hr
      have nC : H5 sd.heap.objs.size = none := by
        have z : H5 ce.locals = none := I6.free
        rwa [ceL] at z
      obtain ⟨m, hn, _⟩ := I6.loc
      have hn : s6.heap.Ns ce.locals m := hn
      rw [ceL] at hn
      exact fin0 D sd.heap.objs.size s6 m H5 (Id.call' (ch := fp) I6.os I6.base I6.hok I6.bare fun b hb => ⟨(fpD b hb).1.2.2.2.1, (fpD b hb).1.2.1, (fpD b hb).1.2.2.2.2.1, (fpD b hb).1.2.2.2.2.2⟩) qq hn (Id.fpOk (Nat.le_refl _) nC)
    · refine thnF (T.item (X.blk sd Hd sc ce fp) rfl rfl rfl hc i [] s5 _ H5 (fun _ _ => False) I5 (okFp I5 n5) st5 go) fun r s6 ⟨u, hr, h6⟩ => ?_
      subst hr
      refine thnF h6 fun _ s7 ⟨x, H7, I7, r7, y7, st7, n7⟩ => ?_
      refine thnF (z0.run _ s7 _ H7 x u _ (I7.pinned (okFp I7 n7) (T.obj _ _ st7)) r7 (step x H7 y7)) fun _ s8 ⟨σ8, H8, I8, hw8, q8⟩ => ?_
      refine wpAny_tests_nil ?_
      simp only [if_true]
      have len8 : (wipe σ vs).length = σ8.length := by rw [← hw8, wipe_length]
      have in8 : ∀ (l : Nat) v, (wipe σ vs)[l]? = some (some v) → (wipe σ8 vs1)[l]? = some (some v) := fun l v q => by
        rw [← hw8] at q
        obtain ⟨q1, q2⟩ := wipe_some q
        rw [wipe_out fun z => q2 (hvs ▸ hv l z)]
        exact q1
      -- the turn's end
      have over : ∀ {σ9 : L2.St} {s' : Shared} {H' : Hp}, Inv (X.blk sd Hd sc ce fp) ([] ++ pinsAt fp s7.heap) σ9 H' s' → (wipe σ vs).length = σ9.length → (∀ (l : Nat) v, (wipe σ vs)[l]? = some (some v) → σ9[l]? = some (some v)) → Go H' → ∃ m, m < n ∧ ∃ i H', Inv (X.blk sd Hd sc ce fp) [] (wipe σ vs) H' s' ∧ tn i s'.heap ∧ (∀ b ∈ fp, H' b = none) ∧ U i m H' := fun {σ9 s' H'} J' hl hk g => by
        obtain ⟨m', lt, w'⟩ := back H' g
        have pinned : ∀ b ∈ fp, ∀ o, s7.heap.get? b = some o → s'.heap.get? b = some o ∧ H' b = none := fun b hb o q => by
          have z := J'.pin (b, o) (List.mem_append_right _ (List.mem_append_right _ (mem_pinsAt hb q)))
          exact ⟨z.1, z.2.1⟩
        exact ⟨m', lt, i + 1, H', (J'.unpinned (pins := [])).weak hl hk, keepT _ _ _ st7 fun b hb o q => (pinned b hb o q).1, fun b hb => (T.obj _ _ st7 b hb).elim fun o q => (pinned b hb o q.1).2, w'⟩
      refine thnF (zi.run _ s8 σ8 H8 _ I8 q8) fun xv s10 hx => thnF hx fun itv s11 h11 => ?_
      obtain ⟨it1, fp1, tn1, J1, H11, rfl, I11, T1, st11, f11, U1, ⟨m1, u1⟩, turn1⟩ := h11
      have okFp1 : ∀ {H' : Hp}, (∀ b ∈ fp1, H' b = none) → ∀ b ∈ fp1, FpOk (X.blk sd Hd sc ce fp) ([] ++ pinsAt fp s7.heap) H' b := fun hn b hb => ⟨hn b hb, (f11 b hb).2⟩
      refine sc2_start1 ?inner (T1.self X.A 0 _ _ _ st11 ?inner)
      refine sc2_loop1 (fun k s' => ∃ l H', Inv (X.blk sd Hd sc ce fp) ([] ++ pinsAt fp s7.heap) (wipe σ8 vs1) H' s' ∧ tn1 l s'.heap ∧ (∀ b ∈ fp1, H' b = none) ∧ U1 l k H') ?_ m1 ⟨0, H11, I11.weak (wipe_length _ _) (fun l v q => (wipe_some q).1), st11, fun b hb => (f11 b hb).1, u1⟩
      rintro k s12 ⟨l, H12, I12, st12, n12, w12⟩
      rcases turn1 l k H12 w12 with ⟨stop1, g⟩ | ⟨go1, Go1, back1, step1⟩
      · refine thnF (T1.done (X.blk sd Hd sc ce fp) rfl rfl rfl hc l _ s12 (wipe σ8 vs1) H12 (fun _ _ => False) I12 (okFp1 n12) st12 stop1) fun r s13 ⟨hr, I13⟩ => ?_
        subst hr
        exact over I13 (len8.trans (wipe_length σ8 vs1).symm) in8 g
      · refine thnF (T1.item (X.blk sd Hd sc ce fp) rfl rfl rfl hc l _ s12 (wipe σ8 vs1) H12 (fun _ _ => False) I12 (okFp1 n12) st12 go1) fun r s13 ⟨v1, hr, h13⟩ => ?_
        subst hr
        refine thnF h13 fun _ s14 ⟨x1, H14, I14, r14, y14, st14, n14⟩ => ?_
        refine thnF (z1.run _ s14 (wipe σ8 vs1) H14 x1 v1 _ (I14.pinned (okFp1 n14) (T1.obj _ _ st14)) r14 (step1 x1 H14 y14)) fun _ s15 ⟨σ15, H15, I15, hw15, q15⟩ => ?_
        refine wpAny_tests_nil ?_
        simp only [if_true]
        refine thnF (ze.run _ s15 σ15 H15 _ I15 q15) fun z s17 ⟨yv, H17, I17, r17, num, S, cnt, ez, hD17, room, g⟩ => ?_
        subst ez
        refine put_ok (X := X.blk sd Hd sc ce fp) I17 hD17 room r17 fun s18 I18 => ?_
        obtain ⟨m', lt, w'⟩ := back1 _ g
        have pinned : ∀ b ∈ fp1, ∀ o, s14.heap.get? b = some o → s18.heap.get? b = some o ∧ (upd H17 D (SetO X.w D (fun l => S l || decide (l = num)) (if S num = true then cnt else cnt + 1))) b = none := fun b hb o q => by
          have z := I18.pin (b, o) (List.mem_append_right _ (List.mem_append_right _ (mem_pinsAt hb q)))
          exact ⟨z.1, z.2.1⟩
        exact ⟨m', lt, l + 1, _, I18.unpinned.weak (by rw [← hw15, wipe_length]) (fun l v q => by rw [← hw15] at q; exact (wipe_some q).1), T1.keep _ _ _ st14 fun b hb o q => (pinned b hb o q).1, fun b hb => (T1.obj _ _ st14 b hb).elim fun o q => (pinned b hb o q.1).2, w'⟩
  exact PpSet.codeAny_compStart_set loop (T.self X.A 0 _ _ _ stx loop)
end
end Bb
namespace Bb
open PySem L2 PySem.Spec PyProof.Rows
/-! ### a set of numbers is no code, no list: what is written to it leaves all values -/
theorem set_ne_code {w : World} {D : Addr} {S : Int → Bool} {n : Nat} {q : Str} : SetO w D S n ≠ LamX.CodeO D q := by
  intro h
  unfold SetO LamX.CodeO at h
  injection h with h
  let oc : Obj := { cls := .none, data := .fields #[.none, .str q 0] }
  let h1 : Heap := { objs := Array.replicate (D + 1) oc }
  have hg : h1.get? D = some oc := by
    unfold Heap.get?
    have e : h1.objs[D]? = some oc := by simp [h1]
    rw [e]
  have r : SetR w h1 D S n := by
    exact Eq.mpr (congrFun h h1) ⟨oc, _, 0, hg, rfl, rfl⟩
  obtain ⟨o, es, ep, t, ho, hex, hd, _⟩ := r
  rw [hg] at ho
  cases ho
  cases hd
section
variable {K : PySem.W.Frag} {T : List (Addr × Str)} {ρ : Lo} {H : Hp} {D : Addr} {w : World} {S S' : Int → Bool} {n n' : Nat}
mutual
theorem VR.setUpd (hD : H D = some (SetO w D S n)) : ∀ {p : PV} {v : V}, VR K ρ H p v → VR K ρ (upd H D (SetO w D S' n')) p v
  | .non, _, r => by unfold VR at *; exact r
  | .bl _, _, r => by unfold VR at *; exact r
  | .int _, _, r => by unfold VR at *; exact r
  | .str _, _, r => by unfold VR at *; exact r
  | .ty _, _, r => by unfold VR at *; exact r
  | .lam c1 c2 q cl vs, _, r => by
    unfold VR at *
    refine ⟨r.1, ?_, VRs.setUpd hD r.2.2⟩
    rw [upd_ne (fun e => by
      have z := r.2.1
      rw [e, hD] at z
      exact set_ne_code (Option.some.inj z))]
    exact r.2.1
  | .loc _, _, r => by unfold VR at *; exact r
  | .tup xs, _, r => by
    unfold VR at *
    obtain ⟨b, vs, h1, h2, h3, h4⟩ := r
    refine ⟨b, vs, h1, ?_, h3, VRs.setUpd hD h4⟩
    rcases h2 with (h2 | ⟨o, h2⟩) | h2
    · exact .inl (.inl (by rw [upd_ne (fun e => by rw [e, hD] at h2; cases h2)]; exact h2))
    · exact .inl (.inr ⟨o, by rw [upd_ne (fun e => by rw [e, hD] at h2; cases h2)]; exact h2⟩)
    · exact .inr h2
  | .fl xs, _, r => by
    unfold VR at *
    obtain ⟨b, vs, h1, h2, h3, h4, h5⟩ := r
    exact ⟨b, vs, h1, h2, by rw [upd_ne (fun e => by rw [e, hD] at h3; cases h3)]; exact h3, h4, VRs.setUpd hD h5⟩
  | .tl xs, _, r => by
    unfold VR at *
    obtain ⟨b, vs, h1, h2, h3, h4, h5⟩ := r
    exact ⟨b, vs, h1, h2, by rw [upd_ne (fun e => by rw [e, hD] at h3; cases h3)]; exact h3, h4, VRs.setUpd hD h5⟩
  | .ro xs, _, r => by
    unfold VR at *
    obtain ⟨b, vs, h1, h2, h4, h5⟩ := r
    refine ⟨b, vs, h1, h2.imp (fun ⟨o, z⟩ => ⟨o, by rw [upd_ne (fun e => by rw [e, hD] at z; cases z)]; exact z⟩) id, h4, VRs.setUpd hD h5⟩
theorem VRs.setUpd (hD : H D = some (SetO w D S n)) : ∀ {p : List PV} {v : List V}, VRs K ρ H p v → VRs K ρ (upd H D (SetO w D S' n')) p v
  | [], _, r => by unfold VRs at *; exact r
  | _ :: _, _, r => by
    unfold VRs at *
    obtain ⟨v, t, h1, h2, h3⟩ := r
    exact ⟨v, t, h1, VR.setUpd hD h2, VRs.setUpd hD h3⟩
end
theorem SR.notSet {st : Sto} (s : SR K T ρ H st) (hD : H D = some (SetO w D S n)) : D ∉ ρ.l := fun m => by
  obtain ⟨o, z, wr⟩ := s.at m
  rw [hD] at z
  cases z
  exact wr
theorem SR.setUpd {st : Sto} (s : SR K T ρ H st) (hD : H D = some (SetO w D S n)) : SR K T ρ (upd H D (SetO w D S' n')) st where
  nd := s.nd
  len := s.len
  hid := fun b m z => by
    by_cases e : b = D
    · subst e; rw [upd_same] at z; cases z
    · rw [upd_ne e] at z; exact s.hid b m z
  ob := fun i b m h1 h2 => by
    obtain ⟨q, z1, z2⟩ := s.ob i b m h1 h2
    refine ⟨q, by rw [upd_ne (fun e => s.notSet hD (by rw [← e]; exact List.mem_of_getElem? h1))]; exact z1, ?_⟩
    cases m with
    | lst xs =>
      obtain ⟨vs, y1, y2, y3⟩ := z2
      exact ⟨vs, y1, y2, y3.setUpd hD⟩
    | dct kvs =>
      obtain ⟨vs, y1, y2, y3, y4⟩ := z2
      exact ⟨vs, y1, y2, y3, y4.setUpd hD⟩
  tb := fun p hp => by
    obtain ⟨ps, h1, h2, h3⟩ := s.tb p hp
    refine ⟨ps, by rw [upd_ne (fun e => by rw [e, hD] at h1; cases h1)]; exact h1, h2, fun pos cv hc => ?_⟩
    obtain ⟨c, e1, e2⟩ := h3 pos cv hc
    refine ⟨c, e1, ?_⟩
    rw [upd_ne (fun e => by
      rw [e, hD] at e2
      exact set_ne_code (Option.some.inj e2))]
    exact e2
  tbo := fun b ps z => by
    by_cases e : b = D
    · subst e; rw [upd_same] at z; cases z
    · rw [upd_ne e] at z; exact s.tbo b ps z
theorem ER.setUpd {env : En} {σ : L2.St} (hD : H D = some (SetO w D S n)) (e : ER K ρ H env σ) : ER K ρ (upd H D (SetO w D S' n')) env σ :=
  ⟨e.1, fun i p z => let ⟨v, a, b, c⟩ := e.2 i p z; ⟨v, a, b.setUpd hD, c⟩⟩
theorem Ext.setKeep {ρ' : Lo} {H' : Hp} (x : Ext ρ H ρ' H') (hD : H D = some (SetO w D S n)) : H' D = some (SetO w D S n) := x.fix D _ hD (fun z => z) fun ps z => by cases z
/-- over what was there before the set -/
theorem Ext.setOver {ρ' : Lo} {H' : Hp} (x : Ext ρ H ρ' H') (nD : H D = none) {o : HO} : Ext ρ H ρ' (upd H' D o) where
  pre := x.pre
  hid := x.hid
  dom := fun b z => by
    by_cases e : b = D
    · subst e; exact nD
    · rw [upd_ne e] at z; exact x.dom b z
  keep := fun b u z m t => by rw [upd_ne (ne_of_none z nD)]; exact x.keep b u z m t
  fix := fun b u z m t => by rw [upd_ne (ne_of_none z nD)]; exact x.fix b u z m t
  new := x.new
end
/-! ### what it means -/
def addI (acc : List Int) (c : Int) : List Int := if acc.contains c = true then acc else acc ++ [c]
theorem mem_addI {acc : List Int} {c l : Int} : l ∈ addI acc c ↔ l ∈ acc ∨ l = c := by
  unfold addI
  split
  · rename_i h
    have := List.contains_iff_mem.mp h
    constructor
    · exact .inl
    · rintro (h | rfl)
      · exact h
      · exact this
  · simp
theorem len_addI (acc : List Int) (c : Int) : (addI acc c).length = if acc.contains c = true then acc.length else acc.length + 1 := by
  unfold addI
  split <;> simp
def sc1 (bt : BT) (elt : D) (env : En) : List PV → List Int → Sto → R (List Int)
  | [], acc, st => .ok acc st
  | x :: xs, acc, st => match bt (frz x) env with
    | none => .bad
    | some e => match elt e st with
      | .ok (.int c) st1 => if acc.length < 64 then sc1 bt elt env xs (addI acc c) st1 else .bad
      | _ => .bad
def sc0 (bt0 : BT) (di : DI) (bt1 : BT) (elt : D) (vs1 : List Nat) (env : En) : List PV → List Int → Sto → R (List Int)
  | [], acc, st => .ok acc st
  | x :: xs, acc, st => match bt0 (frz x) env with
    | none => .bad
    | some e => match di e st with
      | .ok (items, none) st1 => (match sc1 bt1 elt (wipeE e vs1) items acc st1 with
        | .ok acc2 st2 => sc0 bt0 di bt1 elt vs1 env xs acc2 st2
        | _ => .bad)
      | _ => .bad
/-- sorted({e for a in .. for b in ..}) -/
def dSrtSet (di0 : DI) (bt0 : BT) (di1 : DI) (bt1 : BT) (elt : D) (vs vs1 : List Nat) : D := fun env st => (di0 env st).bind fun a st1 => match a.2 with
  | none => (match sc0 bt0 di1 bt1 elt vs1 (wipeE env vs) a.1 [] st1 with
    | .ok acc st2 => if acc.length < 64 then .ok (.tl ((srt acc).map .int)) st2 else .bad
    | _ => .bad)
  | some _ => .bad
theorem set_none {w : World} {D : Addr} : SetO w D (fun _ => false) 0 = SetO w D (fun l => decide (l ∈ ([] : List Int))) ([] : List Int).length := by
  congr 1
theorem set_more {w : World} {D : Addr} {ac : List Int} {c : Int} : SetO w D (fun l => decide (l ∈ ac) || decide (l = c)) (if decide (c ∈ ac) = true then ac.length else ac.length + 1) = SetO w D (fun l => decide (l ∈ addI ac c)) (addI ac c).length := by
  congr 1
  · funext l
    rw [Bool.eq_iff_iff]
    simp [mem_addI]
  · rw [len_addI]
    simp
abbrev setAc (w : World) (D : Addr) (ac : List Int) : HO := SetO w D (fun l => decide (l ∈ ac)) ac.length
theorem len_srt' {ns : List Int} : (srt ns).length = ns.length := (srt_perm ns).length_eq
theorem nodup_addI {acc : List Int} {c : Int} (h : acc.Nodup) : (addI acc c).Nodup := by
  unfold addI
  split
  · exact h
  · rename_i hc
    rw [List.nodup_append]
    refine ⟨h, by simp, fun x hx y hy e => hc ?_⟩
    rw [List.mem_singleton.mp hy] at e
    exact List.contains_iff_mem.mpr (e ▸ hx)
theorem sc1_nodup {bt : BT} {elt : D} {env : En} {acc' : List Int} {st' : Sto} : ∀ (xs : List PV) (acc : List Int) (st : Sto), acc.Nodup → sc1 bt elt env xs acc st = .ok acc' st' → acc'.Nodup
  | [], acc, st, h, e => by unfold sc1 at e; cases e; exact h
  | x :: xs, acc, st, h, e => by
    unfold sc1 at e
    split at e
    · cases e
    · split at e
      · split at e
        · exact sc1_nodup xs _ _ (nodup_addI h) e
        · cases e
      · cases e
theorem sc0_nodup {bt0 : BT} {di : DI} {bt1 : BT} {elt : D} {vs1 : List Nat} {env : En} {acc' : List Int} {st' : Sto} : ∀ (xs : List PV) (acc : List Int) (st : Sto), acc.Nodup → sc0 bt0 di bt1 elt vs1 env xs acc st = .ok acc' st' → acc'.Nodup
  | [], acc, st, h, e => by unfold sc0 at e; cases e; exact h
  | x :: xs, acc, st, h, e => by
    unfold sc0 at e
    split at e
    · cases e
    · split at e
      · split at e
        · rename_i q
          exact sc0_nodup xs _ _ (sc1_nodup _ _ _ h q) e
        · cases e
      · cases e
section
variable {g : G} {W : WX}
theorem set_end2 {w : World} {di0 di1 : DI} {bt0 bt1 : BT} {sl0 sl1 : List Nat} {elt : D} {vs vs1 : List Nat} {σ : L2.St} {H : Hp} {Q : VK} (hsl0 : ∀ i ∈ sl0, i ∈ vs) (hsl1 : ∀ i ∈ sl1, i ∈ vs1) (h : tD g W (dSrtSet di0 bt0 di1 bt1 elt vs vs1) σ H Q) :
    tCB (rSortedSet w) (tCons (tSet2 w (tIt g W di0) (tGt g sl0 bt0) (tIt g wF di1) (tGt g sl1 bt1) (tD g wF elt) vs vs1) tNil) σ H Q := by
  obtain ⟨ρ, env, st, s, e, h⟩ := h
  refine ⟨ρ, env, st, s, e, ?_⟩
  unfold dSrtSet at h
  cases q : di0 env st with
  | bad => rw [q] at h; exact h
  | ex c w st1 => rw [q] at h; exact h
  | ok a st1 =>
    rw [q] at h
    obtain ⟨items, chk⟩ := a
    cases chk with
    | some _ => exact h.elim
    | none =>
      simp only [R.bind_ok] at h
      cases hsc : sc0 bt0 di1 bt1 elt vs1 (wipeE env vs) items [] st1 with
      | bad => rw [hsc] at h; exact h.elim
      | ex _ _ _ => rw [hsc] at h; exact h.elim
      | ok acc st2 =>
        rw [hsc] at h
        dsimp only at h
        by_cases h64 : acc.length < 64
        · rw [if_pos h64] at h
          intro ρ1 H1 J x1 s1 gv Da hD
          have e1 : ER g.K ρ1 H1 env σ := e.mono x1
          refine ⟨fun i m H' => m = items.length - i ∧ i ≤ items.length ∧ ∃ ρ' st' ac, (∀ q v, VR g.K ρ1 H1 q v → VR g.K ρ' H' q v) ∧ Ext ρ1 H1 ρ' H' ∧ SR g.K g.T ρ' H' st' ∧ ER g.K ρ' H' (wipeE env vs) (L2.wipe σ vs) ∧ H' Da = some (setAc w Da ac) ∧ sc0 bt0 di1 bt1 elt vs1 (wipeE env vs) (items.drop i) ac st' = .ok acc st2,
            ⟨_, rfl, Nat.zero_le _, ρ1, st1, [], fun q v z => z.mono (Ext.laid s1 hD), Ext.laid s1 hD, s1.laid hD, (e1.wipe vs).mono (Ext.laid s1 hD), by rw [upd_same, set_none], hsc⟩, ?_⟩
          rintro i m H' ⟨rfl, hi, ρ', st', ac, kp, x', s', e', hDa, h'⟩
          by_cases hlt : i < items.length
          · rw [List.drop_eq_getElem_cons hlt] at h'
            have hget : items[i]? = some items[i] := List.getElem?_eq_getElem hlt
            obtain ⟨go1, go2⟩ := gv.go ρ' H' st' i _ kp s' trivial hget
            unfold sc0 at h'
            cases qb : bt0 (frz items[i]) (wipeE env vs) with
            | none => simp only [qb] at h'; cases h'
            | some env1 =>
              simp only [qb] at h'
              cases qd : di1 env1 st' with
              | bad => rw [qd] at h'; cases h'
              | ex _ _ _ => rw [qd] at h'; cases h'
              | ok a1 st3 =>
                rw [qd] at h'
                obtain ⟨items1, chk1⟩ := a1
                cases chk1 with
                | some _ => cases h'
                | none =>
                  dsimp only at h'
                  cases q1 : sc1 bt1 elt (wipeE env1 vs1) items1 ac st3 with
                  | bad => rw [q1] at h'; cases h'
                  | ex _ _ _ => rw [q1] at h'; cases h'
                  | ok acc3 st5 =>
                    rw [q1] at h'
                    dsimp only at h'
                    refine .inr ⟨go1, fun Hc => ∃ ρ2 st4 ac2, (∀ q v, VR g.K ρ1 H1 q v → VR g.K ρ2 Hc q v) ∧ Ext ρ1 H1 ρ2 Hc ∧ SR g.K g.T ρ2 Hc st4 ∧ ER g.K ρ2 Hc (wipeE env vs) (L2.wipe σ vs) ∧ Hc Da = some (setAc w Da ac2) ∧ sc0 bt0 di1 bt1 elt vs1 (wipeE env vs) (items.drop (i + 1)) ac2 st4 = .ok acc st2,
                      fun Hc z => ⟨items.length - (i + 1), by omega, rfl, hlt, z⟩, fun x H'' y => ?_⟩
                    obtain ⟨y1, y2, y3⟩ := go2 x H'' y
                    refine ⟨ρ', _, st', _, env1, y2, e'.mono y1, y3, frz_nt _, qb, fun σa e2 off => ⟨wipe_off hsl0 off, ρ', env1, st', y2, e2, ?_⟩⟩
                    rw [qd]
                    intro ρ3 H3 J1 z3 s3 gv1
                    have xa := y1.trans z3
                    refine ⟨fun j k Hf => k = items1.length - j ∧ j ≤ items1.length ∧ ∃ ρ4 st4 ac4, (∀ q v, VR g.K ρ3 H3 q v → VR g.K ρ4 Hf q v) ∧ (∀ q v, VR g.K ρ1 H1 q v → VR g.K ρ4 Hf q v) ∧ Ext ρ1 H1 ρ4 Hf ∧ SR g.K g.T ρ4 Hf st4 ∧ ER g.K ρ4 Hf (wipeE env vs) (L2.wipe σ vs) ∧ ER g.K ρ4 Hf (wipeE env1 vs1) (L2.wipe σa vs1) ∧
                      Hf Da = some (setAc w Da ac4) ∧ sc1 bt1 elt (wipeE env1 vs1) (items1.drop j) ac4 st4 = .ok acc3 st5,
                      ⟨_, rfl, Nat.zero_le _, ρ3, st3, ac, fun q v z => z, fun q v z => (kp q v z).mono xa, x'.trans xa, s3, e'.mono xa, (e2.mono z3).wipe vs1, xa.setKeep hDa, q1⟩, ?_⟩
                    rintro j k Hf ⟨rfl, hj, ρ4, st4, ac4, kq, kr, xf, s4, e4, e5, hDf, h4⟩
                    by_cases hlj : j < items1.length
                    · rw [List.drop_eq_getElem_cons hlj] at h4
                      obtain ⟨go3, go4⟩ := gv1.go ρ4 Hf st4 j _ kq s4 trivial (List.getElem?_eq_getElem hlj)
                      unfold sc1 at h4
                      cases qc : bt1 (frz items1[j]) (wipeE env1 vs1) with
                      | none => simp only [qc] at h4; cases h4
                      | some env2 =>
                        simp only [qc] at h4
                        split at h4
                        · rename_i c st6 qe
                          split at h4
                          · rename_i hl
                            refine .inr ⟨go3, fun Hg => ∃ ρ5 st7 ac5, (∀ q v, VR g.K ρ3 H3 q v → VR g.K ρ5 Hg q v) ∧ (∀ q v, VR g.K ρ1 H1 q v → VR g.K ρ5 Hg q v) ∧ Ext ρ1 H1 ρ5 Hg ∧ SR g.K g.T ρ5 Hg st7 ∧ ER g.K ρ5 Hg (wipeE env vs) (L2.wipe σ vs) ∧ ER g.K ρ5 Hg (wipeE env1 vs1) (L2.wipe σa vs1) ∧
                              Hg Da = some (setAc w Da ac5) ∧ sc1 bt1 elt (wipeE env1 vs1) (items1.drop (j + 1)) ac5 st7 = .ok acc3 st5, fun Hg z => ⟨items1.length - (j + 1), by omega, rfl, hlj, z⟩, fun y Hg yy => ?_⟩
                            obtain ⟨v1, v2, v3⟩ := go4 y Hg yy
                            refine ⟨ρ4, _, st4, _, env2, v2, e5.mono v1, v3, frz_nt _, qc, fun σb e6 off2 => ⟨wipe_off hsl1 off2, ρ4, env2, st4, v2, e6, ?_⟩⟩
                            rw [qe]
                            intro ρ5 H5 u Pt
                            have xb := v1.trans Pt.ext
                            have hD5 := xb.setKeep hDf
                            refine ⟨c, _, _, vr_int Pt.vr, hD5, by show ac4.length + 1 < 4096; omega, ρ5, st6, addI ac4 c, fun q v z => ((kq q v z).mono xb).setUpd hD5, fun q v z => ((kr q v z).mono xb).setUpd hD5, (xf.trans xb).setOver hD, Pt.sr.setUpd hD5, (e4.mono xb).setUpd hD5, (e5.mono xb).setUpd hD5, by rw [upd_same, set_more], h4⟩
                          · cases h4
                        · cases h4
                    · have hj2 : j = items1.length := by omega
                      subst hj2
                      rw [List.drop_length] at h4
                      unfold sc1 at h4
                      cases h4
                      exact .inl ⟨gv1.stop ρ4 Hf _ kq s4 trivial, ρ4, _, _, kr, xf, s4, e4, hDf, h'⟩
          · have hi2 : i = items.length := by omega
            subst hi2
            rw [List.drop_length] at h'
            unfold sc0 at h'
            cases h'
            refine .inl ⟨gv.stop ρ' H' _ kp s' trivial, Da, _, _, rfl, hDa, h64, fun ns p hs hm hl np => ?_⟩
            have ens : ns = srt acc := srt_unique ((List.perm_ext_iff_of_nodup (hs.imp fun h => Int.ne_of_lt h) (sc0_nodup _ _ _ (by simp) hsc)).mpr fun k => by rw [hm k]; simp) (hs.imp fun h => Int.le_of_lt h)
            rw [ens]
            exact h ρ' _ _ ⟨x1.trans (x'.trans (Ext.laid s' np)), s'.laid np, by
              unfold VR
              exact ⟨p, _, rfl, ⟨s'.free np, fun m => s'.hid p m np⟩, upd_same, by rw [List.length_map, len_srt', sizeLine_eq]; omega, ints_vrs _⟩, fun xs ez => by
              cases ez
              exact ⟨p, rfl, x1.dom p (x'.dom p np), s'.join np ⟨_, rfl, by rw [List.length_map, len_srt', sizeLine_eq]; omega, ints_vrs _⟩⟩⟩
        · rw [if_neg h64] at h; exact h.elim
end
section
variable {g : G} {W : WX} {X : Cx}
theorem pe_set2 {e t0 j0 t1 j1 : Expr} {sc : Scope} {own : List (Str × Nat)} {vs1 : List Nat} {ps : Pos} {ti ti1 : TI} {g0 g1 : TG} {te : TE}
    (hc : X.calm = true) (hN : X.N.Nodup) (pi0 : PI X t0 j0 ti) (ok : BlkOk X.N X.env.scope sc own) (hv : ∀ i ∈ vs1, i ∈ own.map (·.2))
    (b0 : ∀ (s : Shared) (H : Hp) (C : Addr) (cl : List (Str × Addr)) (fp : List Addr), PG (X.blk s H sc (compEnvC sc cl C X.env) fp) t0 g0)
    (bi : ∀ (s : Shared) (H : Hp) (C : Addr) (cl : List (Str × Addr)) (fp : List Addr), PI (X.blk s H sc (compEnvC sc cl C X.env) fp) t1 j1 ti1)
    (b1 : ∀ (s : Shared) (H : Hp) (C : Addr) (cl : List (Str × Addr)) (fp : List Addr), PG (X.blk s H sc (compEnvC sc cl C X.env) fp) t1 g1)
    (be : ∀ (s : Shared) (H : Hp) (C : Addr) (cl : List (Str × Addr)) (fp : List Addr), PE (X.blk s H sc (compEnvC sc cl C X.env) fp) e te)
    (f0 : ∀ x, foldedSetIterable j0 X.env x = pure x) (f1 : ∀ env x, foldedSetIterable j1 env x = pure x) : PE X (sc2E e t0 j0 t1 j1 [] [] sc ps) (tSet2 X.w ti g0 ti1 g1 te (own.map (·.2)) vs1) := by
  refine ⟨fun pins s σ H Q I h => ?_⟩
  show wpAny _ _ (eval (.SetComp e [⟨t0, j0, [], 0⟩, ⟨t1, j1, [], 0⟩] sc ps) X.env) _ _ s
  rw [PpSet.eval_SetComp]
  refine set2_core hc hN I pi0 ok hv b0 bi b1 be f0 f1 h fun D C s' m H' J q hn fp => ?_
  obtain ⟨z0, z1, z2, z3, z4, z5⟩ := fp
  exact ⟨m, hn, fun h'' sb => ⟨.ref D, H', J.turned (t' := s'.toks) (fun b o hb q => (sb.2 b hb).trans q) z0 z1 z3 z4 z5, rfl, q⟩⟩
theorem de_srtSet {p pos ps : Pos} {e t0 j0 t1 j1 : Expr} {sc : Scope} {own : List (Str × Nat)} {vs1 sl0 sl1 : List Nat} {di0 di1 : DI} {bt0 bt1 : BT} {de : D} (hc : X.calm = true) (hN : X.N.Nodup) (pi0 : PI X t0 j0 (tIt g W di0)) (ok : BlkOk X.N X.env.scope sc own) (hv : ∀ i ∈ vs1, i ∈ own.map (·.2)) (hsl0 : ∀ i ∈ sl0, i ∈ own.map (·.2)) (hsl1 : ∀ i ∈ sl1, i ∈ vs1)
    (b0 : ∀ (s : Shared) (H : Hp) (C : Addr) (cl : List (Str × Addr)) (fp : List Addr), PG (X.blk s H sc (compEnvC sc cl C X.env) fp) t0 (tGt g sl0 bt0))
    (bi : ∀ (s : Shared) (H : Hp) (C : Addr) (cl : List (Str × Addr)) (fp : List Addr), PI (X.blk s H sc (compEnvC sc cl C X.env) fp) t1 j1 (tIt g wF di1))
    (b1 : ∀ (s : Shared) (H : Hp) (C : Addr) (cl : List (Str × Addr)) (fp : List Addr), PG (X.blk s H sc (compEnvC sc cl C X.env) fp) t1 (tGt g sl1 bt1))
    (be : ∀ (s : Shared) (H : Hp) (C : Addr) (cl : List (Str × Addr)) (fp : List Addr), PE (X.blk s H sc (compEnvC sc cl C X.env) fp) e (tD g wF de))
    (f0 : ∀ x, foldedSetIterable j0 X.env x = pure x) (f1 : ∀ env x, foldedSetIterable j1 env x = pure x) (hg : Gl X "sorted") (hm : X.mg "sorted" = none) (hs : starEach [sc2E e t0 j0 t1 j1 [] [] sc ps] X.env = (false, eval (sc2E e t0 j0 t1 j1 [] [] sc ps) X.env) :: starEach [] X.env) (hpl : (backTo pos (starEach [] X.env)).any (·.1) = false) :
    PE X (.Call (.Name "sorted" p) [sc2E e t0 j0 t1 j1 [] [] sc ps] [] pos) (tD g W (dSrtSet di0 bt0 di1 bt1 de (own.map (·.2)) vs1)) :=
  PE.imp (pe_callB (cr_sortedSet hc) hg hm (by rfl) (pa_cons (pe_set2 hc hN pi0 ok hv b0 bi b1 be f0 f1) pa_nil hs) (by decide) (by decide) hs hpl) fun _ _ _ h => set_end2 hsl0 hsl1 h
end
end Bb
namespace Bb
open PySem L2 PyProof.Rows
/-! ### a def called by its parameters' names, all of them, in their order -/
def KwB (K : PySem.W.Frag) (fd : FuncData) (ps : List Str) : Prop := ∀ (s : Shared) (us : List Value), K.In s.heap → us.length = ps.length → BindsTo s fd { pos := [], kw := ps.zip us } (ps.zip us)
theorem kwB_of {K : PySem.W.Frag} {x qual : Str} {params : Arguments} {body : List Stmt} {scope : Scope} {kws : List (Str × V)} {f : Addr} {fd : FuncData} {ps : List Str} (F : FunD K x qual params body scope [] kws f fd)
    (h : ∀ (kV doc pm : Value) (an : Option Addr) (cdv ct : Value) (us : List Value), us.length = ps.length → bindArgs (PySem.W.fnOf x qual params body scope Value.none kV doc pm an cdv ct) { pos := [], kw := ps.zip us } = pure (ps.zip us)) : KwB K fd ps := by
  obtain ⟨oc, od, dV, kV, doc, pm, an, cdv, ct, osl, rfl, lk, hcd, hd, _⟩ := F.ex
  intro s us hs hl M A E Q q
  have hdV : dV = Value.none := by simpa [DflV] using hd
  subst hdV
  rw [h kV doc pm an cdv ct us hl]
  exact wpAny_pure q
theorem dk_nil {g : G} {W : WX} {X : Cx} : PK X [] (tDA g W dNil) := ⟨fun pos pins s σ H Q I hq => pk_nil.run pos pins s σ H Q I (by
  obtain ⟨ρ, env, st, s, e, h⟩ := hq
  exact h ρ H [] (.refl _ _) s .nil)⟩
theorem dk_cons {g : G} {W : WX} {X : Cx} {nm : Option Str} {kpos : Pos} {e : Expr} {kws : List Keyword} {d : D} {r : DA} (h : PE X e (tD g W d)) (t : PK X kws (tDA g W r)) : PK X ({ arg := nm, value := e, pos := kpos } :: kws) (tDA g W (dCons d r)) :=
  ⟨fun pos pins s σ H Q I hq => (pk_cons h t).run pos pins s σ H Q I (by
    obtain ⟨ρ, env, st, s, e, h⟩ := hq
    exact tD_of okA.mono s e h fun ρ1 H1 x st1 u P1 h1 => tDA_of okA.mono P1.sr (e.mono P1.ext) h1 fun ρ2 H2 ys st2 us x1 x2 x3 h2 => h2 ρ2 H2 (u :: us) (.refl _ _) x2 (.cons (P1.vr.mono x1).frz x3))⟩
section
variable {g : G} {X : Cx} {W : WX}
theorem de_callK {k : Nat} {f : Addr} {fd : FuncData} {ps : List Str} {d : List PV → Sto → R PV} {x : Str} {p pos : Pos} {kws : List Keyword} {da : DA} (F : FnG X.prog X.w X.K X.mg X.base k f fd ps (spF g ps.length d)) (tk : Takes X W) (hr : Room k X.A) (hgd : X.A.guards = some []) (hg : Gl X x) (hm : X.mg x = some (.ref f))
    (hk : PySem.W.keepIn X.K (.ref f) = true) (hb : KwB X.K fd ps) (ha : PK X kws (tDA g W da)) (hn : ∀ env st xs st1, da env st = .ok xs st1 → xs.length = ps.length) (hdb : (x == ("__debug__" : Str)) = false)
    (hall : ((backToKw pos (keywordEach kws X.env)).all fun x => x.1.isSome) = true) (hks : (backToKw pos (keywordEach kws X.env)).filterMap (fun x => x.1) = ps) (hno : (((backTo pos (starEach [] X.env)).any fun x => x.1) || (backToKw pos (keywordEach kws X.env)).any fun x => x.1.isNone) = false) : PE X (.Call (.Name x p) [] kws pos) (tD g W (dCall d da)) := by
  refine ⟨fun pins s σ H Q I ⟨ρ, env, st, sr, er, h⟩ => ?_⟩
  refine wpAny_Call_Name_kw (ld_glob I hg hm ?_ hdb)
  refine PySem.W.callWith_KW0 (h₀ := X.base) I.ok.mod.kin hk hall (thn (ha.run pos pins s σ H _ I (spF_of sr er hn h)) fun us s1 ⟨vs, H1, I1, r, q⟩ => ⟨I1.kIn, ?_⟩) hno
  rw [hks]
  have hl : us.length = ps.length := by rw [← r.length]; exact F.len _ _ _ _ q
  refine wpAny_call (codeAny_mono (F.run X.A X.stack s1 H1 ⟨[], ps.zip us⟩ us vs Q _ hr hgd I1.env0 (hb s1 us I1.kIn hl) r q) fun res s' hq => ?_)
  cases res with
  | error e => exact tk e s' (XE.of_call I1 (fun cls d H' z => z) hq)
  | ok fl => cases fl with
    | ret u => exact I1.after hq
    | next => exact hq.elim
    | brk => exact hq.elim
    | cont => exact hq.elim
end
end Bb
namespace Bb
open PySem L2 PyProof.Rows
/-! ### a comprehension whose fresh lists become objects of the store -/
open Classical in
noncomputable def lmL (chk : Option Nat) (all : List PV) (bt : BT) (tst : DT) (elt : D) (env : En) : List PV → List PV → Sto → R PV
  | [], acc, st => if chkP chk all st then .ok (.tl acc) st else .bad
  | x :: xs, acc, st => if chkP chk all st then (match bt (frz x) env with
    | none => .bad
    | some env1 => (noX (tst env1 st)).bind fun b st1 => if b = true then (noX (elt env1 st1)).bind fun v st2 => lmL chk all bt tst elt env xs (acc ++ [(mat true v st2).1]) (mat true v st2).2 else lmL chk all bt tst elt env xs acc st1) else .bad
noncomputable def dLcM (di : DI) (bt : BT) (tst : DT) (elt : D) (vs : List Nat) : D := fun env st => (di env st).bind fun a st1 => lmL a.2 a.1 bt tst elt (wipeE env vs) a.1 [] st1
section
variable {g : G} {W : WX} {X : Cx} {pos : Pos}
theorem lm_end {di : DI} {bt : BT} {sl : List Nat} {tst : DT} {elt : D} {vs : List Nat} {σ : L2.St} {H : Hp} {Q : VK} (hsl : ∀ i ∈ sl, i ∈ vs) (h : tD g W (dLcM di bt tst elt vs) σ H Q) : tLc (tIt g W di) (tGt g sl bt) (tDT g wF tst) (tD g wF elt) vs σ H Q := by
  obtain ⟨ρ, env, st, s, e, h⟩ := h
  refine ⟨ρ, env, st, s, e, ?_⟩
  unfold dLcM at h
  cases q : di env st with
  | bad => rw [q] at h; exact h
  | ex c w st1 => rw [q] at h; exact h
  | ok a st1 =>
    rw [q] at h
    obtain ⟨items, chk⟩ := a
    intro ρ1 H1 J x1 s1 gv Da hD
    have h1 : RP (lmL chk items bt tst elt (wipeE env vs) items [] st1) (okE g Q ρ1 H1) (xP g W σ ρ1 H1) := RP.mono okE.mono x1 h
    have e1 : ER g.K ρ1 H1 env σ := e.mono x1
    refine ⟨fun i m H' => m = items.length - i ∧ i ≤ items.length ∧ ∃ ρ' st' accP accV, (∀ q v, VR g.K ρ1 H1 q v → VR g.K ρ' H' q v) ∧ Ext ρ1 H1 ⟨ρ'.l, ρ1.h⟩ H' ∧ ρ'.h = Da :: ρ1.h ∧ Da ∉ ρ'.l ∧ SR g.K g.T ρ' H' st' ∧ ER g.K ρ' H' (wipeE env vs) (L2.wipe σ vs) ∧
      H' Da = some (.lst accV) ∧ VRs g.K ρ' H' accP accV ∧ accP.length ≤ i ∧ RP (lmL chk items bt tst elt (wipeE env vs) (items.drop i) accP st') (okE g Q ρ1 H1) (xP g W σ ρ1 H1),
      ⟨_, rfl, Nat.zero_le _, ρ1.hide Da, st1, [], [], fun q v z => z.hideNew hD, Ext.fresh hD, rfl, s1.free hD, s1.hideNew hD, (e1.wipe vs).hideNew hD, upd_same, .nil, Nat.le_refl _, h1⟩, ?_⟩
    rintro i m H' ⟨rfl, hi, ρ', st', accP, accV, kp, x', hh, nl, s', e', hDa, ra, la, h'⟩
    by_cases hlt : i < items.length
    · rw [List.drop_eq_getElem_cons hlt] at h'
      unfold lmL at h'
      split at h'
      · rename_i hck
        have hget : items[i]? = some items[i] := List.getElem?_eq_getElem hlt
        obtain ⟨g1, g2⟩ := gv.go ρ' H' st' i _ kp s' hck hget
        refine .inr ⟨g1, fun H2 => ∃ ρ2 st2 accP2 accV2, (∀ q v, VR g.K ρ1 H1 q v → VR g.K ρ2 H2 q v) ∧ Ext ρ1 H1 ⟨ρ2.l, ρ1.h⟩ H2 ∧ ρ2.h = Da :: ρ1.h ∧ Da ∉ ρ2.l ∧ SR g.K g.T ρ2 H2 st2 ∧ ER g.K ρ2 H2 (wipeE env vs) (L2.wipe σ vs) ∧
          H2 Da = some (.lst accV2) ∧ VRs g.K ρ2 H2 accP2 accV2 ∧ accP2.length ≤ i + 1 ∧ RP (lmL chk items bt tst elt (wipeE env vs) (items.drop (i + 1)) accP2 st2) (okE g Q ρ1 H1) (xP g W σ ρ1 H1), fun H2 n => ⟨items.length - (i + 1), by omega, rfl, hlt, n⟩, fun x H'' y => ?_⟩
        obtain ⟨y1, y2, y3⟩ := g2 x H'' y
        -- what is carried over an extension
        have carry : ∀ {ρ3 : Lo} {H3 : Hp}, Ext ρ' H' ρ3 H3 → (∀ q v, VR g.K ρ1 H1 q v → VR g.K ρ3 H3 q v) ∧ Ext ρ1 H1 ⟨ρ3.l, ρ1.h⟩ H3 ∧ ρ3.h = Da :: ρ1.h ∧ Da ∉ ρ3.l ∧ H3 Da = some (.lst accV) := fun {ρ3 H3} z =>
          ⟨fun q v w => (kp q v w).mono z, ⟨x'.pre.trans z.pre, rfl, fun b w => x'.dom b (z.dom b w), fun b o w n t => z.keep b o (x'.keep b o w n t) (fun m => (x'.new b m).elim n fun z' => by rw [w] at z'; cases z') t,
            fun b o w n t => z.fix b o (x'.fix b o w n t) n t, fun b m => (z.new b m).elim (x'.new b) fun w => .inr (x'.dom b w)⟩, z.hid.trans hh, fun m => (z.new Da m).elim nl fun w => (nomatch (hDa.symm.trans w)), z.keep Da _ hDa nl fun ps w => (nomatch w)⟩
        cases qb : bt (frz items[i]) (wipeE env vs) with
        | none => simp only [qb] at h'; exact h'.elim
        | some env1 =>
          simp only [qb] at h'
          obtain ⟨b, st2, qt, h2⟩ := noX_bind h'
          refine ⟨ρ', _, st', _, env1, y2, e'.mono y1, y3, frz_nt _, qb, fun σ2 e2 off => ⟨wipe_off hsl off, ρ', env1, st', y2, e2, ?_⟩⟩
          rw [qt]
          intro ρ3 H3 z3 s3
          have c3 := carry (y1.trans z3)
          cases b with
          | false =>
            rw [if_neg (by simp)] at h2 ⊢
            exact ⟨ρ3, st2, accP, accV, c3.1, c3.2.1, c3.2.2.1, c3.2.2.2.1, s3, e'.mono (y1.trans z3), c3.2.2.2.2, ra.mono (y1.trans z3), Nat.le_succ_of_le la, h2⟩
          | true =>
            rw [if_pos rfl] at h2 ⊢
            obtain ⟨v, st3, qe, h3⟩ := noX_bind h2
            refine ⟨ρ3, env1, st2, s3, e2.mono z3, ?_⟩
            rw [qe]
            intro ρ4' H4 u P0
            obtain ⟨ρ4, x40, sr4, vr4, -⟩ := mat_ok (m := true) P0
            have x4 := (y1.trans z3).trans x40
            have c4 := carry x4
            have hm : Da ∈ ρ4.h := by rw [c4.2.2.1]; exact List.mem_cons_self
            have ra4 := ra.mono x4
            refine ⟨accV, c4.2.2.2.2, by rw [ra.length]; exact Nat.lt_of_le_of_lt la (Nat.lt_of_lt_of_le hlt gv.len), ρ4, (mat true v st3).2, accP ++ [(mat true v st3).1], accV ++ [u], fun q w z => (c4.1 q w z).hidUpd hm c4.2.2.2.2 trivial, ?_, c4.2.2.1, c4.2.2.2.1, sr4.hidUpd hm c4.2.2.2.1 c4.2.2.2.2 trivial,
              ⟨(e'.mono x4).1, fun i p z => let ⟨w, w1, w2, w3⟩ := (e'.mono x4).2 i p z; ⟨w, w1, w2.hidUpd hm c4.2.2.2.2 trivial, w3⟩⟩, upd_same, (ra4.append (.cons vr4 .nil)).hidUpd hm c4.2.2.2.2 trivial, by rw [List.length_append]; exact Nat.succ_le_succ la, h3⟩
            have E := c4.2.1
            refine ⟨E.pre, rfl, fun b w => ?_, fun b o w n t => ?_, fun b o w n t => ?_, E.new⟩
            · by_cases hb : b = Da
              · subst hb; exact hD
              · rw [upd_ne hb] at w; exact E.dom b w
            · rw [upd_ne (ne_of_none w hD)]; exact E.keep b o w n t
            · rw [upd_ne (ne_of_none w hD)]; exact E.fix b o w n t
      · exact h'.elim
    · have hi2 : i = items.length := by omega
      subst hi2
      rw [List.drop_length] at h'
      unfold lmL at h'
      split at h'
      · rename_i hck
        refine .inl ⟨gv.stop ρ' H' st' kp s' hck, h' ⟨ρ'.l, ρ1.h⟩ H' _ ⟨x', s'.unhide hh, ?_, fun xs ez => ?_⟩⟩
        · unfold VR
          exact ⟨Da, accV, rfl, ⟨nl, fun m => s1.hid Da m hD⟩, hDa, by rw [ra.length]; exact Nat.le_trans la gv.len, @VRs.re _ ρ' _ ⟨ρ'.l, ρ1.h⟩ List.prefix_rfl (unhide_ok hh) _ _ ra⟩
        · cases ez
          exact ⟨Da, rfl, hD, s'.reveal hh nl hDa (by rw [ra.length]; exact Nat.le_trans la gv.len) ra⟩
      · exact h'.elim
theorem de_lcM {elt tg iter : Expr} {ifs : List Expr} {scope : Scope} {own : List (Str × Nat)} {di : DI} {bt : BT} {sl : List Nat} {tst : DT} {de : D} (hc : X.calm = true) (hN : X.N.Nodup) (hi : PI X tg iter (tIt g W di)) (ok : BlkOk X.N X.env.scope scope own) (hsl : ∀ i ∈ sl, i ∈ own.map (·.2))
    (hg : ∀ (s : Shared) (H : Hp) (C : Addr) (cl : List (Str × Addr)) (fp : List Addr), PG (X.blk s H scope (compEnvC scope cl C X.env) fp) tg (tGt g sl bt)) (ht : ∀ (s : Shared) (H : Hp) (C : Addr) (cl : List (Str × Addr)) (fp : List Addr), PTs (X.blk s H scope (compEnvC scope cl C X.env) fp) ifs (tDT g wF tst))
    (he : ∀ (s : Shared) (H : Hp) (C : Addr) (cl : List (Str × Addr)) (fp : List Addr), PE (X.blk s H scope (compEnvC scope cl C X.env) fp) elt (tD g wF de)) (hs : ∀ x, foldedSetIterable iter X.env x = pure x) :
    PE X (.ListComp elt [⟨tg, iter, ifs, 0⟩] scope pos) (tD g W (dLcM di bt tst de (own.map (·.2)))) :=
  PE.imp (pe_lc hc hN hi ok hg ht he hs) fun _ _ _ h => lm_end hsl h
theorem lm_asg {di : DI} {bt : BT} {sl : List Nat} {tst : DT} {elt : D} {vs : List Nat} {gn : TG} {F : Ends} {σ : L2.St} {H : Hp} (hsl : ∀ i ∈ sl, i ∈ vs) (h : tAsg (tD g W (dLcM di bt tst elt vs)) gn F σ H) : tAsg (tLc (tIt g W di) (tGt g sl bt) (tDT g wF tst) (tD g wF elt) vs) gn F σ H := lm_end hsl h
theorem ds_setLcM {i : Nat} {y : Str} {py : Pos} {elt tg iter : Expr} {ifs : List Expr} {scope : Scope} {own : List (Str × Nat)} {spos : Pos} {di : DI} {bt : BT} {sl : List Nat} {tst : DT} {de : D} (hc : X.calm = true) (hN : X.N.Nodup) (hy : X.N[i]? = some y) (hyl : X.env.scope.names.lookup y = some .local)
    (hsw : swapsWith (.ListComp elt [⟨tg, iter, ifs, 0⟩] scope pos) (some (.Name y py)) spos.line X.env = pure true) (hi : PI X tg iter (tIt g W di)) (ok : BlkOk X.N X.env.scope scope own) (hsl : ∀ i ∈ sl, i ∈ own.map (·.2))
    (hg : ∀ (s : Shared) (H : Hp) (C : Addr) (cl : List (Str × Addr)) (fp : List Addr), PG (X.blk s H scope (compEnvC scope cl C X.env) fp) tg (tGt g sl bt)) (ht : ∀ (s : Shared) (H : Hp) (C : Addr) (cl : List (Str × Addr)) (fp : List Addr), PTs (X.blk s H scope (compEnvC scope cl C X.env) fp) ifs (tDT g wF tst))
    (he : ∀ (s : Shared) (H : Hp) (C : Addr) (cl : List (Str × Addr)) (fp : List Addr), PE (X.blk s H scope (compEnvC scope cl C X.env) fp) elt (tD g wF de)) (hs : ∀ x, foldedSetIterable iter X.env x = pure x) (M : Bool) :
    PS X (.Assign [.Name y py] (.ListComp elt [⟨tg, iter, ifs, 0⟩] scope pos) spos) (tS g W (if M = true then sSetM i (dLcM di bt tst de (own.map (·.2))) else sSet i (dLcM di bt tst de (own.map (·.2))))) :=
  PS.imp (ps_setLc hc hN hy hyl hsw hi ok hg ht he hs) fun _ _ _ h => by
    cases M with
    | true => exact lm_asg hsl (setM_end h)
    | false => exact lm_asg hsl (set_end h)
end
/-! ### [elt for tg in iter if .. for tg1 in iter1 if ..] -/
open Classical in
noncomputable def l2I (chk : Option Nat) (all : List PV) (bt : BT) (tst : DT) (elt : D) (env : En) : List PV → List PV → Sto → R (List PV)
  | [], acc, st => if chkP chk all st then .ok acc st else .bad
  | x :: xs, acc, st => if chkP chk all st then (match bt (frz x) env with
    | none => .bad
    | some env1 => (noX (tst env1 st)).bind fun b st1 => if b = true then (noX (elt env1 st1)).bind fun v st2 => if acc.length < 16777216 then l2I chk all bt tst elt env xs (acc ++ [frz v]) st2 else .bad else l2I chk all bt tst elt env xs acc st1) else .bad
open Classical in
noncomputable def l2L (chk : Option Nat) (all : List PV) (bt : BT) (tst : DT) (di : DI) (bt1 : BT) (tst1 : DT) (elt : D) (vs1 : List Nat) (env : En) : List PV → List PV → Sto → R PV
  | [], acc, st => if chkP chk all st then .ok (.tl acc) st else .bad
  | x :: xs, acc, st => if chkP chk all st then (match bt (frz x) env with
    | none => .bad
    | some env1 => (noX (tst env1 st)).bind fun b st1 => if b = true then (noX (di env1 st1)).bind fun a st2 => (noX (l2I a.2 a.1 bt1 tst1 elt (wipeE env1 vs1) a.1 acc st2)).bind fun acc2 st3 => l2L chk all bt tst di bt1 tst1 elt vs1 env xs acc2 st3 else l2L chk all bt tst di bt1 tst1 elt vs1 env xs acc st1) else .bad
noncomputable def dLc2 (di0 : DI) (bt0 : BT) (tst0 : DT) (di1 : DI) (bt1 : BT) (tst1 : DT) (elt : D) (vs vs1 : List Nat) : D := fun env st => (di0 env st).bind fun a st1 => l2L a.2 a.1 bt0 tst0 di1 bt1 tst1 elt vs1 (wipeE env vs) a.1 [] st1
section
variable {g : G} {W : WX} {X : Cx} {pos : Pos}
/-- what is carried while a list is being made -/
structure Mk (g : G) (ρ1 : Lo) (H1 : Hp) (Da : Addr) (ρ : Lo) (H : Hp) (st : Sto) (env : En) (σ : L2.St) (acc : List PV) : Prop where
  kp : ∀ q v, VR g.K ρ1 H1 q v → VR g.K ρ H q v
  x : Ext ρ1 H1 ⟨ρ.l, ρ1.h⟩ H
  hh : ρ.h = Da :: ρ1.h
  nl : Da ∉ ρ.l
  s : SR g.K g.T ρ H st
  e : ER g.K ρ H env σ
  a : ∃ vs, H Da = some (.lst vs) ∧ VRs g.K ρ H acc vs
theorem Mk.ext {ρ1 : Lo} {H1 : Hp} {Da : Addr} {ρ : Lo} {H : Hp} {st st' : Sto} {env : En} {σ : L2.St} {acc : List PV} (m : Mk g ρ1 H1 Da ρ H st env σ acc) {ρ3 : Lo} {H3 : Hp} (z : Ext ρ H ρ3 H3) (s : SR g.K g.T ρ3 H3 st') : Mk g ρ1 H1 Da ρ3 H3 st' env σ acc := by
  obtain ⟨vs, hDa, ra⟩ := m.a
  exact ⟨fun q v w => (m.kp q v w).mono z, ⟨m.x.pre.trans z.pre, rfl, fun b w => m.x.dom b (z.dom b w), fun b o w n t => z.keep b o (m.x.keep b o w n t) (fun k => (m.x.new b k).elim n fun z' => by rw [w] at z'; cases z') t,
    fun b o w n t => z.fix b o (m.x.fix b o w n t) n t, fun b k => (z.new b k).elim (m.x.new b) fun w => .inr (m.x.dom b w)⟩, z.hid.trans m.hh, fun k => (z.new Da k).elim m.nl fun w => (nomatch (hDa.symm.trans w)), s, m.e.mono z,
    vs, z.keep Da _ hDa m.nl fun ps w => (nomatch w), ra.mono z⟩
theorem Mk.put {ρ1 : Lo} {H1 : Hp} {Da : Addr} {ρ : Lo} {H : Hp} {st : Sto} {env : En} {σ : L2.St} {acc : List PV} (m : Mk g ρ1 H1 Da ρ H st env σ acc) (hD : H1 Da = none) {v : PV} {u : V} (r : VR g.K ρ H v u) : ∃ vs, H Da = some (.lst vs) ∧ vs.length = acc.length ∧ Mk g ρ1 H1 Da ρ (upd H Da (.lst (vs ++ [u]))) st env σ (acc ++ [v]) := by
  obtain ⟨vs, hDa, ra⟩ := m.a
  have hm : Da ∈ ρ.h := by rw [m.hh]; exact List.mem_cons_self
  refine ⟨vs, hDa, ra.length, fun q w z => (m.kp q w z).hidUpd hm hDa trivial, ?_, m.hh, m.nl, m.s.hidUpd hm m.nl hDa trivial, ⟨m.e.1, fun i p z => let ⟨w, w1, w2, w3⟩ := m.e.2 i p z; ⟨w, w1, w2.hidUpd hm hDa trivial, w3⟩⟩, _, upd_same, (ra.append (.cons r .nil)).hidUpd hm hDa trivial⟩
  have E := m.x
  refine ⟨E.pre, rfl, fun b w => ?_, fun b o w n t => ?_, fun b o w n t => ?_, E.new⟩
  · by_cases hb : b = Da
    · subst hb; exact hD
    · rw [upd_ne hb] at w; exact E.dom b w
  · rw [upd_ne (ne_of_none w hD)]; exact E.keep b o w n t
  · rw [upd_ne (ne_of_none w hD)]; exact E.fix b o w n t
theorem ER.hidUpd {K : PySem.W.Frag} {ρ : Lo} {H : Hp} {a : Addr} {env : En} {σ : L2.St} {o u : HO} (e : ER K ρ H env σ) (m : a ∈ ρ.h) (h : H a = some o) (w : Wr o) : ER K ρ (upd H a u) env σ := ⟨e.1, fun i p z => let ⟨v, w1, w2, w3⟩ := e.2 i p z; ⟨v, w1, w2.hidUpd m h w, w3⟩⟩
theorem l2_end {di0 di1 : DI} {bt0 bt1 : BT} {sl0 sl1 : List Nat} {tst0 tst1 : DT} {elt : D} {vs vs1 : List Nat} {σ : L2.St} {H : Hp} {Q : VK} (hsl0 : ∀ i ∈ sl0, i ∈ vs) (hsl1 : ∀ i ∈ sl1, i ∈ vs1) (h : tD g W (dLc2 di0 bt0 tst0 di1 bt1 tst1 elt vs vs1) σ H Q) :
    tLc2 (tIt g W di0) (tGt g sl0 bt0) (tDT g wF tst0) (tIt g wF di1) (tGt g sl1 bt1) (tDT g wF tst1) (tD g wF elt) vs vs1 σ H Q := by
  obtain ⟨ρ, env, st, s, e, h⟩ := h
  refine ⟨ρ, env, st, s, e, ?_⟩
  unfold dLc2 at h
  cases q : di0 env st with
  | bad => rw [q] at h; exact h
  | ex c w st1 => rw [q] at h; exact h
  | ok a st1 =>
    rw [q] at h
    obtain ⟨items, chk⟩ := a
    intro ρ1 H1 J x1 s1 gv Da hD
    have h1 : RP (l2L chk items bt0 tst0 di1 bt1 tst1 elt vs1 (wipeE env vs) items [] st1) (okE g Q ρ1 H1) (xP g W σ ρ1 H1) := RP.mono okE.mono x1 h
    have e1 : ER g.K ρ1 H1 env σ := e.mono x1
    refine ⟨fun i m H' => m = items.length - i ∧ i ≤ items.length ∧ ∃ ρ' st' acc, Mk g ρ1 H1 Da ρ' H' st' (wipeE env vs) (L2.wipe σ vs) acc ∧ acc.length ≤ sizeLine ∧ RP (l2L chk items bt0 tst0 di1 bt1 tst1 elt vs1 (wipeE env vs) (items.drop i) acc st') (okE g Q ρ1 H1) (xP g W σ ρ1 H1),
      ⟨_, rfl, Nat.zero_le _, ρ1.hide Da, st1, [], ⟨fun q v z => z.hideNew hD, Ext.fresh hD, rfl, s1.free hD, s1.hideNew hD, (e1.wipe vs).hideNew hD, [], upd_same, .nil⟩, Nat.zero_le _, h1⟩, ?_⟩
    rintro i m H' ⟨rfl, hi, ρ', st', acc, M, la, h'⟩
    by_cases hlt : i < items.length
    · rw [List.drop_eq_getElem_cons hlt] at h'
      unfold l2L at h'
      split at h'
      · rename_i hck
        obtain ⟨g1, g2⟩ := gv.go ρ' H' st' i _ M.kp M.s hck (List.getElem?_eq_getElem hlt)
        refine .inr ⟨g1, fun H2 => ∃ ρ2 st2 acc2, Mk g ρ1 H1 Da ρ2 H2 st2 (wipeE env vs) (L2.wipe σ vs) acc2 ∧ acc2.length ≤ sizeLine ∧ RP (l2L chk items bt0 tst0 di1 bt1 tst1 elt vs1 (wipeE env vs) (items.drop (i + 1)) acc2 st2) (okE g Q ρ1 H1) (xP g W σ ρ1 H1), fun H2 n => ⟨items.length - (i + 1), by omega, rfl, hlt, n⟩, fun x H'' y => ?_⟩
        obtain ⟨y1, y2, y3⟩ := g2 x H'' y
        have M1 := M.ext y1 y2
        cases qb : bt0 (frz items[i]) (wipeE env vs) with
        | none => simp only [qb] at h'; exact h'.elim
        | some env1 =>
          simp only [qb] at h'
          obtain ⟨b, st2, qt, h2⟩ := noX_bind h'
          refine ⟨ρ', _, st', _, env1, y2, M1.e, y3, frz_nt _, qb, fun σ2 e2 off => ⟨wipe_off hsl0 off, ρ', env1, st', y2, e2, ?_⟩⟩
          rw [qt]
          intro ρ3 H3 z3 s3
          have M3 := M1.ext z3 s3
          cases b with
          | false =>
            rw [if_neg (by simp)] at h2 ⊢
            exact ⟨ρ3, st2, acc, M3, la, h2⟩
          | true =>
            rw [if_pos rfl] at h2 ⊢
            obtain ⟨a1, st3, qd, h3⟩ := noX_bind h2
            obtain ⟨acc3, st5, q1, h4⟩ := noX_bind h3
            refine ⟨ρ3, env1, st2, s3, e2.mono z3, ?_⟩
            rw [qd]
            obtain ⟨items1, chk1⟩ := a1
            intro ρ4 H4 J1 z4 s4 gv1
            have M4 := M3.ext z4 s4
            have e4 : ER g.K ρ4 H4 (wipeE env1 vs1) (L2.wipe σ2 vs1) := ((e2.mono z3).mono z4).wipe vs1
            refine ⟨fun j k Hf => k = items1.length - j ∧ j ≤ items1.length ∧ ∃ ρ5 st4 ac4, (∀ q v, VR g.K ρ4 H4 q v → VR g.K ρ5 Hf q v) ∧ Mk g ρ1 H1 Da ρ5 Hf st4 (wipeE env vs) (L2.wipe σ vs) ac4 ∧ ER g.K ρ5 Hf (wipeE env1 vs1) (L2.wipe σ2 vs1) ∧ ac4.length ≤ sizeLine ∧ l2I chk1 items1 bt1 tst1 elt (wipeE env1 vs1) (items1.drop j) ac4 st4 = .ok acc3 st5,
              ⟨_, rfl, Nat.zero_le _, ρ4, st3, acc, fun q v z => z, M4, e4, la, q1⟩, ?_⟩
            rintro j k Hf ⟨rfl, hj, ρ5, st4, ac4, kq, M5, e5, lb, h5⟩
            by_cases hlj : j < items1.length
            · rw [List.drop_eq_getElem_cons hlj] at h5
              unfold l2I at h5
              split at h5
              · rename_i hck1
                obtain ⟨go3, go4⟩ := gv1.go ρ5 Hf st4 j _ kq M5.s hck1 (List.getElem?_eq_getElem hlj)
                refine .inr ⟨go3, fun Hg => ∃ ρ6 st6 ac6, (∀ q v, VR g.K ρ4 H4 q v → VR g.K ρ6 Hg q v) ∧ Mk g ρ1 H1 Da ρ6 Hg st6 (wipeE env vs) (L2.wipe σ vs) ac6 ∧ ER g.K ρ6 Hg (wipeE env1 vs1) (L2.wipe σ2 vs1) ∧ ac6.length ≤ sizeLine ∧ l2I chk1 items1 bt1 tst1 elt (wipeE env1 vs1) (items1.drop (j + 1)) ac6 st6 = .ok acc3 st5, fun Hg n => ⟨items1.length - (j + 1), by omega, rfl, hlj, n⟩, fun x2 Hg yy => ?_⟩
                obtain ⟨v1, v2, v3⟩ := go4 x2 Hg yy
                have M6 := M5.ext v1 v2
                cases qc : bt1 (frz items1[j]) (wipeE env1 vs1) with
                | none => simp only [qc] at h5; cases h5
                | some env2 =>
                  simp only [qc] at h5
                  cases qt1 : tst1 env2 st4 with
                  | bad => rw [qt1] at h5; cases h5
                  | ex _ _ _ => rw [qt1] at h5; cases h5
                  | ok b1 st6 =>
                    rw [qt1] at h5
                    simp only [noX, R.bind_ok] at h5
                    refine ⟨ρ5, _, st4, _, env2, v2, e5.mono v1, v3, frz_nt _, qc, fun σ3 e6 off2 => ⟨wipe_off hsl1 off2, ρ5, env2, st4, v2, e6, ?_⟩⟩
                    rw [qt1]
                    intro ρ7 H7 z7 s7
                    have M7 := M6.ext z7 s7
                    have kq7 : ∀ q v, VR g.K ρ4 H4 q v → VR g.K ρ7 H7 q v := fun q v z => ((kq q v z).mono v1).mono z7
                    cases b1 with
                    | false =>
                      rw [if_neg (by simp)] at h5 ⊢
                      exact ⟨ρ7, st6, ac4, kq7, M7, (e5.mono v1).mono z7, lb, h5⟩
                    | true =>
                      rw [if_pos rfl] at h5 ⊢
                      cases qe : elt env2 st6 with
                      | bad => rw [qe] at h5; cases h5
                      | ex _ _ _ => rw [qe] at h5; cases h5
                      | ok v st7 =>
                        rw [qe] at h5
                        simp only [noX, R.bind_ok] at h5
                        split at h5
                        · rename_i hl
                          refine ⟨ρ7, env2, st6, s7, e6.mono z7, ?_⟩
                          rw [qe]
                          intro ρ8 H8 u P
                          have M8 := M7.ext P.ext P.sr
                          have hm : Da ∈ ρ8.h := by rw [M8.hh]; exact List.mem_cons_self
                          obtain ⟨vs8, hD8, l8, M9⟩ := M8.put hD P.vr.frz
                          refine ⟨vs8, hD8, by rw [l8, sizeLine_eq]; exact hl, ρ8, st7, _, fun q w z => ((kq7 q w z).mono P.ext).hidUpd hm hD8 trivial, M9, (((e5.mono v1).mono z7).mono P.ext).hidUpd hm hD8 trivial, by rw [List.length_append, sizeLine_eq]; exact hl, h5⟩
                        · cases h5
              · cases h5
            · have hj2 : j = items1.length := by omega
              subst hj2
              rw [List.drop_length] at h5
              unfold l2I at h5
              split at h5
              · rename_i hck1
                cases h5
                exact .inl ⟨gv1.stop ρ5 Hf _ kq M5.s hck1, ρ5, _, _, M5, lb, h4⟩
              · cases h5
      · exact h'.elim
    · have hi2 : i = items.length := by omega
      subst hi2
      rw [List.drop_length] at h'
      unfold l2L at h'
      split at h'
      · rename_i hck
        obtain ⟨accV, hDa, ra⟩ := M.a
        refine .inl ⟨gv.stop ρ' H' st' M.kp M.s hck, h' ⟨ρ'.l, ρ1.h⟩ H' _ ⟨M.x, M.s.unhide M.hh, ?_, fun xs ez => ?_⟩⟩
        · unfold VR
          exact ⟨Da, accV, rfl, ⟨M.nl, fun m => s1.hid Da m hD⟩, hDa, by rw [ra.length]; exact la, @VRs.re _ ρ' _ ⟨ρ'.l, ρ1.h⟩ List.prefix_rfl (unhide_ok M.hh) _ _ ra⟩
        · cases ez
          exact ⟨Da, rfl, hD, M.s.reveal M.hh M.nl hDa (by rw [ra.length]; exact la) ra⟩
      · exact h'.elim
theorem de_lc2 {elt tg iter tg1 iter1 : Expr} {ifs ifs1 : List Expr} {scope : Scope} {own : List (Str × Nat)} {vs1 sl0 sl1 : List Nat} {di di1 : DI} {bt bt1 : BT} {tst tst1 : DT} {de : D} (hc : X.calm = true) (hN : X.N.Nodup) (hi : PI X tg iter (tIt g W di)) (ok : BlkOk X.N X.env.scope scope own) (hv : ∀ i ∈ vs1, i ∈ own.map (·.2)) (hsl0 : ∀ i ∈ sl0, i ∈ own.map (·.2)) (hsl1 : ∀ i ∈ sl1, i ∈ vs1)
    (hg : ∀ (s : Shared) (H : Hp) (C : Addr) (cl : List (Str × Addr)) (fp : List Addr), PG (X.blk s H scope (compEnvC scope cl C X.env) fp) tg (tGt g sl0 bt)) (ht : ∀ (s : Shared) (H : Hp) (C : Addr) (cl : List (Str × Addr)) (fp : List Addr), PTs (X.blk s H scope (compEnvC scope cl C X.env) fp) ifs (tDT g wF tst))
    (hi1 : ∀ (s : Shared) (H : Hp) (C : Addr) (cl : List (Str × Addr)) (fp : List Addr), PI (X.blk s H scope (compEnvC scope cl C X.env) fp) tg1 iter1 (tIt g wF di1))
    (hg1 : ∀ (s : Shared) (H : Hp) (C : Addr) (cl : List (Str × Addr)) (fp : List Addr), PG (X.blk s H scope (compEnvC scope cl C X.env) fp) tg1 (tGt g sl1 bt1)) (ht1 : ∀ (s : Shared) (H : Hp) (C : Addr) (cl : List (Str × Addr)) (fp : List Addr), PTs (X.blk s H scope (compEnvC scope cl C X.env) fp) ifs1 (tDT g wF tst1))
    (he : ∀ (s : Shared) (H : Hp) (C : Addr) (cl : List (Str × Addr)) (fp : List Addr), PE (X.blk s H scope (compEnvC scope cl C X.env) fp) elt (tD g wF de)) (hs : ∀ x, foldedSetIterable iter X.env x = pure x) (hs1 : ∀ env x, foldedSetIterable iter1 env x = pure x) :
    PE X (.ListComp elt [⟨tg, iter, ifs, 0⟩, ⟨tg1, iter1, ifs1, 0⟩] scope pos) (tD g W (dLc2 di bt tst di1 bt1 tst1 de (own.map (·.2)) vs1)) :=
  PE.imp (pe_lc2 hc hN hi ok hv hg ht hi1 hg1 ht1 he hs hs1) fun _ _ _ h => l2_end hsl0 hsl1 h
theorem ds_setLc2 {i : Nat} {y : Str} {py : Pos} {elt tg iter tg1 iter1 : Expr} {ifs ifs1 : List Expr} {scope : Scope} {own : List (Str × Nat)} {vs1 sl0 sl1 : List Nat} {spos : Pos} {di di1 : DI} {bt bt1 : BT} {tst tst1 : DT} {de : D} (hc : X.calm = true) (hN : X.N.Nodup) (hy : X.N[i]? = some y) (hyl : X.env.scope.names.lookup y = some .local)
    (hsw : swapsWith (.ListComp elt [⟨tg, iter, ifs, 0⟩, ⟨tg1, iter1, ifs1, 0⟩] scope pos) (some (.Name y py)) spos.line X.env = pure true) (hi : PI X tg iter (tIt g W di)) (ok : BlkOk X.N X.env.scope scope own) (hv : ∀ i ∈ vs1, i ∈ own.map (·.2)) (hsl0 : ∀ i ∈ sl0, i ∈ own.map (·.2)) (hsl1 : ∀ i ∈ sl1, i ∈ vs1)
    (hg : ∀ (s : Shared) (H : Hp) (C : Addr) (cl : List (Str × Addr)) (fp : List Addr), PG (X.blk s H scope (compEnvC scope cl C X.env) fp) tg (tGt g sl0 bt)) (ht : ∀ (s : Shared) (H : Hp) (C : Addr) (cl : List (Str × Addr)) (fp : List Addr), PTs (X.blk s H scope (compEnvC scope cl C X.env) fp) ifs (tDT g wF tst))
    (hi1 : ∀ (s : Shared) (H : Hp) (C : Addr) (cl : List (Str × Addr)) (fp : List Addr), PI (X.blk s H scope (compEnvC scope cl C X.env) fp) tg1 iter1 (tIt g wF di1))
    (hg1 : ∀ (s : Shared) (H : Hp) (C : Addr) (cl : List (Str × Addr)) (fp : List Addr), PG (X.blk s H scope (compEnvC scope cl C X.env) fp) tg1 (tGt g sl1 bt1)) (ht1 : ∀ (s : Shared) (H : Hp) (C : Addr) (cl : List (Str × Addr)) (fp : List Addr), PTs (X.blk s H scope (compEnvC scope cl C X.env) fp) ifs1 (tDT g wF tst1))
    (he : ∀ (s : Shared) (H : Hp) (C : Addr) (cl : List (Str × Addr)) (fp : List Addr), PE (X.blk s H scope (compEnvC scope cl C X.env) fp) elt (tD g wF de)) (hs : ∀ x, foldedSetIterable iter X.env x = pure x) (hs1 : ∀ env x, foldedSetIterable iter1 env x = pure x) (M : Bool) :
    PS X (.Assign [.Name y py] (.ListComp elt [⟨tg, iter, ifs, 0⟩, ⟨tg1, iter1, ifs1, 0⟩] scope pos) spos) (tS g W (if M = true then sSetM i (dLc2 di bt tst di1 bt1 tst1 de (own.map (·.2)) vs1) else sSet i (dLc2 di bt tst di1 bt1 tst1 de (own.map (·.2)) vs1))) :=
  PS.imp (ps_setLc2 hc hN hy hyl hsw hi ok hv hg ht hi1 hg1 ht1 he hs hs1) fun _ _ _ h => by
    cases M with
    | true => exact l2_end hsl0 hsl1 (setM_end h)
    | false => exact l2_end hsl0 hsl1 (set_end h)
end
end Bb
namespace Bb
open PySem L2 PyProof.Rows
/-! ### dicts of the store: keys are numbers or texts -/
def keyP : PV → Option Key
  | .int i => some (.inl i)
  | .str x => some (.inr x)
  | _ => none
def valP (kvs : List (Key × PV)) (k : Key) : Option PV := (kvs.find? fun kv => decide (kv.1 = k)).map (·.2)
def putP (kvs : List (Key × PV)) (k : Key) (v : PV) : List (Key × PV) := if (kvs.any fun kv => decide (kv.1 = k)) = true then kvs.map (fun kv => if kv.1 = k then (kv.1, v) else kv) else kvs ++ [(k, v)]
def mergeP (kvs more : List (Key × PV)) : List (Key × PV) := more.foldl (fun acc kv => putP acc kv.1 kv.2) kvs
structure DR (K : PySem.W.Frag) (ρ : Lo) (H : Hp) (kvs : List (Key × PV)) (us : List (Key × V)) : Prop where
  k : us.map (·.1) = kvs.map (·.1)
  v : VRs K ρ H (kvs.map (·.2)) (us.map (·.2))
section
variable {K : PySem.W.Frag} {ρ : Lo} {H : Hp}
theorem DR.nil : DR K ρ H [] [] := ⟨rfl, .nil⟩
theorem DR.inv {x : Key × PV} {kvs : List (Key × PV)} {us : List (Key × V)} (d : DR K ρ H (x :: kvs) us) : ∃ y r, us = (x.1, y) :: r ∧ VR K ρ H x.2 y ∧ DR K ρ H kvs r := by
  obtain ⟨h1, h2⟩ := d
  cases us with
  | nil => cases h1
  | cons u r =>
    simp only [List.map_cons, List.cons.injEq] at h1
    simp only [List.map_cons] at h2
    unfold VRs at h2
    obtain ⟨v, t, e, h3, h4⟩ := h2
    cases e
    refine ⟨u.2, r, by rw [← h1.1], h3, h1.2, h4⟩
theorem DR.cons {k : Key} {x : PV} {y : V} {kvs : List (Key × PV)} {us : List (Key × V)} (r : VR K ρ H x y) (d : DR K ρ H kvs us) : DR K ρ H ((k, x) :: kvs) ((k, y) :: us) := ⟨by simp [d.k], .cons r d.v⟩
theorem DR.append {a b : List (Key × PV)} {a' b' : List (Key × V)} (x : DR K ρ H a a') (y : DR K ρ H b b') : DR K ρ H (a ++ b) (a' ++ b') := ⟨by rw [List.map_append, List.map_append, x.k, y.k], by rw [List.map_append, List.map_append]; exact x.v.append y.v⟩
theorem DR.len {kvs : List (Key × PV)} {us : List (Key × V)} (d : DR K ρ H kvs us) : us.length = kvs.length := by
  have := congrArg List.length d.k
  simpa using this
theorem DR.any {kvs : List (Key × PV)} {us : List (Key × V)} (d : DR K ρ H kvs us) (k : Key) : (us.any fun kv => decide (kv.1 = k)) = kvs.any fun kv => decide (kv.1 = k) := by
  have e : ∀ {β : Type} (l : List (Key × β)), (l.any fun kv => decide (kv.1 = k)) = (l.map (·.1)).any fun j => decide (j = k) := fun l => by rw [List.any_map]; rfl
  rw [e, e, d.k]
theorem DR.map {k : Key} {x : PV} {y : V} (r : VR K ρ H x y) : ∀ {kvs : List (Key × PV)} {us : List (Key × V)}, DR K ρ H kvs us → DR K ρ H (kvs.map fun kv => if kv.1 = k then (kv.1, x) else kv) (us.map fun kv => if kv.1 = k then (kv.1, y) else kv)
  | [], us, d => by
    have := d.len
    cases us with
    | nil => exact d
    | cons _ _ => cases this
  | z :: kvs, us, d => by
    obtain ⟨w, t, rfl, h1, h2⟩ := d.inv
    have ih := DR.map (k := k) r h2
    simp only [List.map_cons]
    obtain ⟨z1, z2⟩ := z
    dsimp only
    split
    · exact .cons r ih
    · exact .cons h1 ih
theorem DR.put {k : Key} {x : PV} {y : V} (r : VR K ρ H x y) {kvs : List (Key × PV)} {us : List (Key × V)} (d : DR K ρ H kvs us) : DR K ρ H (putP kvs k x) (putK us k y) := by
  unfold putP putK
  rw [d.any]
  split
  · exact d.map r
  · exact d.append (.cons r .nil)
theorem DR.merge : ∀ {more : List (Key × PV)} {ms : List (Key × V)} {kvs : List (Key × PV)} {us : List (Key × V)}, DR K ρ H more ms → DR K ρ H kvs us → DR K ρ H (mergeP kvs more) (mergeK us ms)
  | [], ms, kvs, us, m, d => by
    have := m.len
    cases ms with
    | nil => exact d
    | cons _ _ => cases this
  | z :: more, ms, kvs, us, m, d => by
    obtain ⟨w, t, rfl, h1, h2⟩ := m.inv
    show DR K ρ H (mergeP (putP kvs z.1 z.2) more) (mergeK (putK us z.1 w) t)
    exact DR.merge h2 (d.put h1)
def vrO (K : PySem.W.Frag) (ρ : Lo) (H : Hp) : Option PV → Option V → Prop
  | some x, o => ∃ y, o = some y ∧ VR K ρ H x y
  | none, o => o = none
theorem DR.val {k : Key} : ∀ {kvs : List (Key × PV)} {us : List (Key × V)}, DR K ρ H kvs us → vrO K ρ H (valP kvs k) (valV us k)
  | [], us, d => by
    have := d.len
    cases us with
    | nil => exact valV_nil
    | cons _ _ => cases this
  | z :: kvs, us, d => by
    obtain ⟨w, t, rfl, h1, h2⟩ := d.inv
    have ih := DR.val (k := k) h2
    obtain ⟨z1, z2⟩ := z
    by_cases e : z1 = k
    · have : valP ((z1, z2) :: kvs) k = some z2 := by simp [valP, e]
      rw [this]
      exact ⟨w, valV_pos e, h1⟩
    · have : valP ((z1, z2) :: kvs) k = valP kvs k := by simp [valP, e]
      rw [this]
      have e2 : valV ((z1, w) :: t) k = valV t k := valV_neg e
      rw [e2]
      exact ih
theorem OR.dct {kvs : List (Key × PV)} {o : HO} (h : OR K ρ H (.dct kvs) o) : ∃ us, o = .dK us ∧ us.length ≤ sizeLine ∧ DR K ρ H kvs us := let ⟨us, h1, h2, h3, h4⟩ := h; ⟨us, h1, h2, h3, h4⟩
theorem OR.of_dr {kvs : List (Key × PV)} {us : List (Key × V)} (h : us.length ≤ sizeLine) (d : DR K ρ H kvs us) : OR K ρ H (.dct kvs) (.dK us) := ⟨us, rfl, h, d.k, d.v⟩
end
theorem keyP_vr {K : PySem.W.Frag} {ρ : Lo} {H : Hp} {p : PV} {k : Key} {v : V} (h : keyP p = some k) (r : VR K ρ H p v) : v = kV k := by
  cases p <;> cases h
  · unfold VR at r; rw [r]; rfl
  · unfold VR at r; rw [r]; rfl
/-- the pairs of a list -/
def pair1 : PV → Option (Key × PV)
  | .tup [k, v] => (keyP k).map fun j => (j, frz v)
  | _ => none
def pairs1 : List PV → Option (List (Key × PV))
  | [] => some []
  | x :: xs => (pair1 x).bind fun p => (pairs1 xs).map fun r => p :: r
def pairsP (st : Sto) (v : PV) : Option (List (Key × PV)) := (asL st v).bind pairs1
theorem pairs1_ok {K : PySem.W.Frag} {ρ : Lo} {H : Hp} : ∀ {xs : List PV} {vs : List V} {kvs : List (Key × PV)}, VRs K ρ H xs vs → pairs1 xs = some kvs → ∃ (ps : List Addr) (us : List (Key × V)), vs = ps.map V.ref ∧ Paired (fun p kv => SqT K H p [kV kv.1, kv.2]) ps us ∧ DR K ρ H kvs us
  | [], vs, kvs, r, h => by
    cases h
    unfold VRs at r
    subst r
    exact ⟨[], [], rfl, .nil, .nil⟩
  | x :: xs, vs, kvs, r, h => by
    unfold pairs1 at h
    simp only [Option.bind_eq_some_iff, Option.map_eq_some_iff] at h
    obtain ⟨p, hp, q, hq, rfl⟩ := h
    unfold VRs at r
    obtain ⟨v, t, rfl, h1, h2⟩ := r
    obtain ⟨ps, us, rfl, h3, h4⟩ := pairs1_ok h2 hq
    unfold pair1 at hp
    split at hp
    · rename_i k w
      obtain ⟨j, hj, rfl⟩ := Option.map_eq_some_iff.mp hp
      unfold VR at h1
      obtain ⟨a, ws, rfl, s1, _, s2⟩ := h1
      unfold VRs at s2
      obtain ⟨y1, t1, rfl, y2, s2⟩ := s2
      unfold VRs at s2
      obtain ⟨z1, t2, rfl, z2, s2⟩ := s2
      unfold VRs at s2
      subst s2
      rw [keyP_vr hj y2] at s1
      exact ⟨a :: ps, (j, z1) :: us, rfl, .cons s1 h3, .cons z2.frz h4⟩
    · cases hp
section
variable {g : G} {W : WX} {X : Cx} {pos : Pos}
/-- a new dict joins the store -/
theorem dct_join {F : Ends} {ρ ρ1 : Lo} {H H1 : Hp} {env : En} {σ : L2.St} {st1 : Sto} {i : Nat} {kvs : List (Key × PV)} {us : List (Key × V)} {p : Addr} (e : ER g.K ρ H env σ) (x : Ext ρ H ρ1 H1) (s : SR g.K g.T ρ1 H1 st1) (np : H1 p = none) (hl : us.length ≤ sizeLine) (d : DR g.K ρ1 H1 kvs us)
    (h : okN g F.nx ρ1 H1 (env.set i (some (.loc st1.length))) (st1 ++ [.dct kvs])) : gName i (.ref p) σ (upd H1 p (.dK us)) F.nx := by
  have e1 := Ext.join (o := .dK us) s np
  refine h _ _ _ e1 (s.join np (OR.of_dr hl d)) (((e.mono x).mono e1).set ?_ (fun _ z => by cases z) i)
  unfold VR
  refine ⟨p, ?_, rfl⟩
  show (ρ1.l ++ [p])[_]? = _
  rw [← s.len, List.getElem?_append_right (Nat.le_refl _), Nat.sub_self]
  rfl
def sDictP (i : Nat) (a : DA) : DS := fun env st => (a env st).toS env fun xs st1 => match xs with
  | [v] => (match pairsP st1 v with
    | some kvs => .nx (env.set i (some (.loc st1.length))) (st1 ++ [.dct (mergeP [] kvs)])
    | none => .bad)
  | _ => .bad
theorem ds_dictP {i : Nat} {x : Str} {a : Expr} {da : DA} {p pos' cp : Pos} (hN : X.N.Nodup) (hi : X.N[i]? = some x) (hx : Loc X.env.scope x) (hK : g.K = X.K) (hc : X.calm = true) (hg : Gl X "dict") (hm : X.mg "dict" = none) (ha : PA X [a] (tDA g W da)) (hst : starEach [a] X.env = (false, eval a X.env) :: starEach [] X.env)
    (hs : swapsWith (.Call (.Name "dict" p) [a] [] cp) (some (.Name x pos')) pos.line X.env = pure false) (hf : X.fn x = true ∨ X.env.scope.names.lookup x = some .local) : PS X (.Assign [.Name x pos'] (.Call (.Name "dict" p) [a] [] cp) pos) (tS g W (sDictP i da)) :=
  PS.imp (ps_set hN hi hx (pe_callTy (call_dictP hc) hg hm (by rfl) ha (by decide) (by decide) hst (by rfl)) hs hf) fun F σ H ⟨ρ, env, st, s, e, h⟩ => by
    refine tDA_toS s e h fun ρ1 H1 xs st1 us x1 s1 r1 h1 => ?_
    split at h1
    · rename_i v
      split at h1
      · rename_i kvs hk
        unfold pairsP at hk
        obtain ⟨ys, hy, hk⟩ := Option.bind_eq_some_iff.mp hk
        unfold VRs at r1
        obtain ⟨u, t, rfl, r1, r2⟩ := r1
        unfold VRs at r2
        subst r2
        obtain ⟨a0, vs, rfl, b1, b2, b3⟩ := asL_ok s1 r1 hy
        obtain ⟨ps, ws, rfl, b4, b5⟩ := pairs1_ok b3 hk
        refine ⟨a0, ps, ws, rfl, hK ▸ b1, hK ▸ b4, fun q nq => dct_join e x1 s1 nq ?_ (DR.merge b5 .nil) h1⟩
        refine Nat.le_trans (length_mergeK ws []) ?_
        rw [List.length_nil, Nat.zero_add, b5.len, ← b5.len]
        have : ws.length = ps.length := by
          have := b4.length
          omega
        rw [List.length_map] at b2
        omega
      · exact h1.elim
    · exact h1.elim
def sDict0 (i : Nat) : DS := fun env st => .nx (env.set i (some (.loc st.length))) (st ++ [.dct []])
theorem ds_dict0 {i : Nat} {x : Str} {pos' cp : Pos} (hN : X.N.Nodup) (hi : X.N[i]? = some x) (hx : Loc X.env.scope x) (hs : swapsWith (.Dict [] [] cp) (some (.Name x pos')) pos.line X.env = pure false) (hf : X.fn x = true ∨ X.env.scope.names.lookup x = some .local) : PS X (.Assign [.Name x pos'] (.Dict [] [] cp) pos) (tS g W (sDict0 i)) :=
  PS.imp (ps_set hN hi hx pe_dnewK hs hf) fun F σ H ⟨ρ, env, st, s, e, h⟩ => fun p np => dct_join e (.refl _ _) s np (Nat.zero_le _) .nil h
/-- d.get(k, x) -/
def isDct (st : Sto) : PV → Bool
  | .loc n => match st[n]? with
    | some (.dct _) => true
    | _ => false
  | _ => false
def getP (st : Sto) (x y : PV) : Option (Option PV) := match x with
  | .loc n => match st[n]? with
    | some (.dct kvs) => (keyP y).map fun k => valP kvs k
    | _ => none
  | _ => none
def dGet2 (o e f : D) : D := fun env st => (o env st).bind fun x st1 => if isDct st1 x = true then (e env st1).bind fun y st2 => (f env st2).bind fun z st3 => match getP st3 x y with
  | some r => .ok (frz (r.getD z)) st3
  | none => .bad else .bad
theorem isDct_ok {ρ : Lo} {H : Hp} {st : Sto} {x : PV} {u : V} (s : SR g.K g.T ρ H st) (r : VR g.K ρ H x u) (h : isDct st x = true) : ∃ a, u = .ref a ∧ IsD H a := by
  cases x with
  | loc n =>
    replace h : (match st[n]? with | some (.dct _) => true | _ => false) = true := h
    split at h
    · rename_i kvs hn
      unfold VR at r
      obtain ⟨a, h1, rfl⟩ := r
      obtain ⟨o, z1, z2⟩ := s.ob n a _ h1 hn
      obtain ⟨us, rfl, _⟩ := z2.dct
      exact ⟨a, rfl, .inl ⟨us, .inl z1⟩⟩
    · cases h
  | _ => cases h
theorem getP_ok {ρ : Lo} {H : Hp} {st : Sto} {x y : PV} {a : Addr} {u : V} {r : Option PV} (s : SR g.K g.T ρ H st) (rx : VR g.K ρ H x (.ref a)) (ry : VR g.K ρ H y u) (h : getP st x y = some r) : ∃ o, DGet H a u o ∧ vrO g.K ρ H r o := by
  cases x with
  | loc n =>
    replace h : (match st[n]? with
      | some (.dct kvs) => (keyP y).map fun k => valP kvs k
      | _ => none) = some r := h
    split at h
    · rename_i kvs hn
      obtain ⟨k, hk, rfl⟩ := Option.map_eq_some_iff.mp h
      unfold VR at rx
      obtain ⟨b, h1, e⟩ := rx
      cases e
      obtain ⟨o, z1, z2⟩ := s.ob n a _ h1 hn
      obtain ⟨us, rfl, _, d⟩ := z2.dct
      rw [keyP_vr hk ry]
      exact ⟨_, DGet.k z1, d.val⟩
    · cases h
  | _ => cases h
theorem de_get2 {o e f : Expr} {apos cpos : Pos} {dO de df : D} (hu : X.A.units + 1 < cLine) (ho : PE X o (tD g W dO)) (he : PE X e (tD g W de)) (hf : PE X f (tD g W df)) (m : M2 X o "get" apos e f cpos) : PE X (.Call (.Attribute o "get" apos) [e, f] [] cpos) (tD g W (dGet2 dO de df)) :=
  PE.imp (pe_dget2 hu ho he hf m) fun σ H Q ⟨ρ, env, st, s, er, h⟩ => tD_of okE.mono s er h fun ρ1 H1 x st1 u P h1 => by
    split at h1
    · rename_i hd
      obtain ⟨a, rfl, d⟩ := isDct_ok P.sr P.vr hd
      refine ⟨a, rfl, d, tD_of okE.mono P.sr (er.mono P.ext) h1 fun ρ2 H2 y st2 v P2 h2 => tD_of okE.mono P2.sr ((er.mono P.ext).mono P2.ext) h2 fun ρ3 H3 z st3 w P3 h3 => ?_⟩
      split at h3
      · rename_i r hr
        obtain ⟨o, g1, g2⟩ := getP_ok P3.sr ((P.vr.mono P2.ext).mono P3.ext) (P2.vr.mono P3.ext) hr
        refine ⟨o, g1, ?_⟩
        cases r with
        | none =>
          have g2 : o = none := g2
          subst g2
          exact h3 ρ3 H3 w (.pure P3.sr P3.vr.frz (frz_nt _))
        | some p =>
          obtain ⟨q, rfl, rq⟩ := g2
          exact h3 ρ3 H3 q (.pure P3.sr rq.frz (frz_nt _))
      · exact h3.elim
    · exact h1.elim
end
end Bb
namespace Bb
open PySem L2 PyProof.Rows
/-! ### from trees to meanings -/
structure Cf where
  N : List Str
  sc : Scope
  ar : List (Str × Nat × List Str)
  F : Str → List PV → Sto → R PV
  con : List (Str × PV)
  calm : Bool
  mu : List Str
  fn : Str → Bool
  xs : List Str
  sb : Str → Str → Option Bool
  act : Option (Str × Nat × PV × (Sto → R PV))
  F2 : Str → List PV → Sto → R PV
  Hr : Str → Option (PV → (Sto → R PV) → Sto → R PV)
  lamb : Bool
def relS (scope sc : Scope) : Scope := { scope with names := scope.names.map fun y => if (y.2 == .free && sc.kind == .function && sc.names.lookup y.1 == some .cell) then (y.1, .cell) else (y.1, y.2) }
def Cf.blk (C : Cf) (scope : Scope) : Cf := { C with sc := relS scope C.sc, fn := fun x => scope.names.lookup x == some .cell, act := none, Hr := fun _ => none, lamb := false }
def Cf.lam (C : Cf) (scope : Scope) : Cf := { C with sc := scope, F := C.F2, fn := fun _ => false, act := none, Hr := fun _ => none, lamb := false, calm := true }
def gd {α : Type} (b : Bool) (x : Option α) : Option α := if b = true then x else none
theorem gd_some {α : Type} {b : Bool} {x : Option α} {y : α} : gd b x = some y ↔ b = true ∧ x = some y := by
  unfold gd
  split
  · rename_i h; simp [h]
  · rename_i h; simp [h]
structure Rec where
  E : Cf → Expr → Option D
  T : Cf → Expr → Option DT
  G : Cf → Expr → Option (BT × List Nat)
  S : Cf → Stmt → Option DS
def Rec.nil : Rec := ⟨fun _ _ => none, fun _ _ => none, fun _ _ => none, fun _ _ => none⟩
def ix? (C : Cf) (x : Str) : Option Nat := match C.sc.names.lookup x with
  | some .local => C.N.findIdx? (· == x)
  | some .cell => C.N.findIdx? (· == x)
  | some .free => C.N.findIdx? (· == x)
  | _ => none
def isGlB (C : Cf) (x : Str) : Bool := decide (C.sc.names.lookup x = some .globalImplicit)
def odd (x : Str) : Bool := (x == ("__debug__" : Str)) || (x == ("__classdict__" : Str)) || (x == ("__name__" : Str))
/-- the built-ins that a def calls by name -/
def bltF (x : Str) : Option (Sto → List PV → Option PV) :=
  if x = "len" then some lenP else if x = "isinstance" then some isiP else if x = "all" then some allP else if x = "any" then some anyP else if x = "sorted" then some srtA else if x = "repr" then some reprP
  else if x = "int" then some intP else if x = "max" then some max2P else if x = "min" then some minG else if x = "tuple" then some tupP else if x = "list" then some lstP else none
def tyF (x : Str) : Option String :=
  if x = "int" then some "int" else if x = "bool" then some "bool" else if x = "tuple" then some "tuple" else if x = "str" then some "str" else if x = "list" then some "list" else none
def bltNames : List Str := ["len", "isinstance", "all", "any", "sorted", "repr", "int", "max", "min", "tuple", "list", "bool", "str", "range", "enumerate", "super", "ValueError", "dict", "set", "zip", "sum"]
/-- what an own exception class must say for isinstance of its instances -/
structure EiC (K : PySem.W.Frag) (C : Addr) : Prop where
  ha : PySem.W.findIn K (.ref C) "__class__" = some (some (.builtin "object.__class__"))
  hn : PySem.W.specialIn K (.builtin "object.__class__") "__get__" = some (some (.builtin "getset_descriptor.__get__"))
  ht : PySem.W.takesIn K (.builtin "object.__class__") = some true
  hm : PySem.W.mroIn K C (.type "object") = some true
def eiB (K : PySem.W.Frag) (C : Addr) : Bool := decide (PySem.W.findIn K (.ref C) "__class__" = some (some (.builtin "object.__class__"))) && (decide (PySem.W.specialIn K (.builtin "object.__class__") "__get__" = some (some (.builtin "getset_descriptor.__get__"))) && (decide (PySem.W.takesIn K (.builtin "object.__class__") = some true) && decide (PySem.W.mroIn K C (.type "object") = some true)))
theorem eiB_ok {K : PySem.W.Frag} {C : Addr} (h : eiB K C = true) : EiC K C := by
  obtain ⟨h1, h⟩ := Bool.and_eq_true_iff.mp h
  obtain ⟨h2, h⟩ := Bool.and_eq_true_iff.mp h
  obtain ⟨h3, h4⟩ := Bool.and_eq_true_iff.mp h
  exact ⟨of_decide_eq_true h1, of_decide_eq_true h2, of_decide_eq_true h3, of_decide_eq_true h4⟩
/-- the program, as known at this depth -/
structure PrO (g : G) (k : Nat) (P : Program) (w : World) (K : PySem.W.Frag) (mg : Str → Option Value) (base : Heap) (ar : List (Str × Nat × List Str)) (F : Str → List PV → Sto → R PV) (con : List (Str × PV)) (xs : List Str) (sb : Str → Str → Option Bool) : Prop where
  hK : g.K = K
  fns : ∀ x n qs, ar.lookup x = some (n, qs) → ∃ f fd ps, mg x = some (.ref f) ∧ PySem.W.keepIn K (.ref f) = true ∧ L2.Binds K fd ps [] ∧ ps.length = n ∧ (qs ≠ [] → qs = ps ∧ KwB K fd ps) ∧ FnG P w K mg base (k + 2) f fd ps (spF g ps.length (F x))
  con : ∀ x p, con.lookup x = some p → ∃ u v, mg x = some u ∧ RelV v u ∧ (∀ ρ H, VR g.K ρ H p v) ∧ ∀ xs, p ≠ .tl xs
  blt : ∀ x ∈ bltNames, mg x = none
  xf : ∀ x ∈ xs, XfC K (g.cls x)
  ei : ∀ x ∈ xs, EiC K (g.cls x)
  isi : ∀ c x b, sb c x = some b → PySem.W.kitOne K (.ref (g.cls c)) (.ref (g.cls x)) = some b
  sub : ∀ c x b, sb c x = some b → c ∈ xs ∧ PySem.W.exmOne K (.ref (g.cls c)) (.ref (g.cls x)) = some b
  exc : ∀ x ∈ xs, ∃ D fI fd, mg x = some (.ref (g.cls x)) ∧ XCls K D fI (g.cls x) ∧ FnOk P w K mg base C8.CX0 1 fI fd ["self", "what"] (spXI K D fI) ∧ L2.Binds K fd ["self", "what"] []
open Classical in
/-- the call of a parameter that holds a lambda -/
noncomputable def dAct (i : Nat) (lv : PV) (act : Sto → R PV) : D := fun env st => match env[i]? with
  | some (some v) => if v = lv then act st else .bad
  | _ => .bad
/-- a def whose parameter holds a lambda: run -/
def HrG (g : G) (k : Nat) (P : Program) (w : World) (K : PySem.W.Frag) (mg : Str → Option Value) (base : Heap) (x : Str) (hd : PV → (Sto → R PV) → Sto → R PV) : Prop :=
  ∃ (gA : Addr) (fdg : FuncData) (a : Str), mg x = some (.ref gA) ∧ PySem.W.keepIn K (.ref gA) = true ∧ L2.Binds K fdg [a] [] ∧
    ∀ (A : Around) (outer : List Env) (s : Shared) (H : Hp) (args : Args) (f : Addr) (lv : PV) (act : Sto → R PV) (Q : VK) (E : XK), Room (k + 2) A → A.guards = some [] → Env0 P w K mg base A outer s H → BindsTo s fdg args [(a, .ref f)] →
      (∀ (Ng : List Str) (qg : Str) (sg : Scope) (cdg : Value) (Eg : XK) (i : Nat) (pn : List (Addr × Obj)) (xe : Value → Shared → Prop) (W' : WX) (a' : Str) (p1 p2 : Pos), Takes ((cxOf (L2.CX P w) P w K mg base Ng qg sg gA cdg A outer s H Eg).tr pn xe) W' → Room (k + 1) (A.deeper (envOfC qg sg s.heap.objs.size gA cdg)) →
        Ng[i]? = some a' → Vis sg a' → odd a' = false → PE ((cxOf (L2.CX P w) P w K mg base Ng qg sg gA cdg A outer s H Eg).tr pn xe) (.Call (.Name a' p1) [] [] p2) (tD g W' (dAct i lv act))) →
      (∃ ρ st, SR g.K g.T ρ H st ∧ VR g.K ρ H lv (.ref f) ∧ RP (hd lv act st) (okE g Q ρ H) (fun c w st' => ∀ ρ' H' dd, PX g ρ H ρ' H' st' w dd → E (.ref (g.cls c)) (some dd) H')) → codeAny (model P w) A (.call (.ref gA) args) (CR (L2.CX P w) outer P w H s Q E) s
/-- the context of a piece of a def's text -/
structure CO (g : G) (k : Nat) (W : WX) (C : Cf) (X : Cx) : Prop where
  po : PrO g k X.prog X.w X.K X.mg X.base C.ar C.F C.con C.xs C.sb
  N : X.N = C.N
  nd : C.N.Nodup
  sc : X.env.scope = C.sc
  calm : C.calm = true → X.calm = true
  tk : Takes X W
  un : X.A.units + 66 < cLine
  gu : X.A.guards = some []
  room : C.calm = true → Room (k + 2) X.A
  hp : PassesOwn (model X.prog X.w) X.A X.env X.xe
  fn : ∀ x, C.fn x = true → X.fn x = true
  hear : ∀ x hd, C.Hr x = some hd → HrG g k X.prog X.w X.K X.mg X.base x hd ∧ ∃ k2, k2 + 2 ≤ k ∧ PrO g k2 X.prog X.w X.K X.mg X.base C.ar C.F2 C.con C.xs C.sb
  lamT : C.lamb = true → ∃ c P, X.env.code = .ref c ∧ LamX.TabB X.base X.mg c P ∧ (P, X.env.qual ++ "<lambda>") ∈ g.T ∧ ∀ p ∈ g.T, p.1 = P → p.2 = X.env.qual ++ "<lambda>"
  act : ∀ a i lv act, C.act = some (a, i, lv, act) → ∀ (pn : List (Addr × Obj)) (xe : Value → Shared → Prop) (W' : WX), Takes (X.tr pn xe) W' → ∀ p1 p2 : Pos, PE (X.tr pn xe) (.Call (.Name a p1) [] [] p2) (tD g W' (dAct i lv act))
section
variable {g : G} {k : Nat} {W : WX} {C : Cf} {X : Cx}
theorem idx_of {N : List Str} {x : Str} {i : Nat} (h : N.findIdx? (· == x) = some i) : N[i]? = some x := by
  rw [List.findIdx?_eq_some_iff_getElem] at h
  obtain ⟨hl, h1, _⟩ := h
  rw [List.getElem?_eq_getElem hl]
  exact congrArg some (eq_of_beq h1)
theorem CO.ix (o : CO g k W C X) {x : Str} {i : Nat} (h : ix? C x = some i) : X.N[i]? = some x ∧ Vis X.env.scope x := by
  unfold ix? at h
  rw [o.N, o.sc]
  split at h
  · rename_i q; exact ⟨idx_of h, .inl q⟩
  · rename_i q; exact ⟨idx_of h, .inr (.inl q)⟩
  · rename_i q; exact ⟨idx_of h, .inr (.inr q)⟩
  · cases h
theorem CO.gl (o : CO g k W C X) {x : Str} (h : isGlB C x = true) : Gl X x := by
  have := of_decide_eq_true h
  rw [← o.sc] at this
  exact this
theorem CO.mb (o : CO g k W C X) {x : Str} (h : x ∈ bltNames) : X.mg x = none := o.po.blt x h
end
/-! names -/
def kName (C : Cf) (x : Str) : Option D :=
  gd (!odd x) (match ix? C x with
    | some i => some (dV i)
    | none => gd (isGlB C x) (match C.con.lookup x with
      | some p => some (dC p)
      | none => (tyF x).map fun t => dC (.ty t)))
def opB : Operator → Option (Sto → PV → PV → Option PV)
  | .Add => some addP
  | .Sub => some subP
  | .Mult => some mulP
  | .Mod => some modP
  | .FloorDiv => some fdivP
  | .Pow => some powP
  | _ => none
def opC : CmpOp → Option (Sto → PV → PV → Option PV)
  | .Eq => some (eqP false)
  | .NotEq => some (eqP true)
  | .Lt => some ltP
  | .LtE => some leP
  | .Gt => some gtP
  | .GtE => some geP
  | .Is => some isNP
  | .IsNot => some isntNP
  | .In => some (inP false)
  | .NotIn => some (inP true)
def kA (E : Expr → Option D) : List Expr → Option DA
  | [] => some dNil
  | e :: es => gd (!isSt e) ((E e).bind fun d => (kA E es).bind fun r => some (dCons d r))
/-- a new empty list that a call is handed: laid in the store -/
def isNilL : Expr → Bool
  | .List [] _ => true
  | _ => false
def consB (b : Bool) (d : D) (r : DA) : DA := if b = true then dConsM true d r else dCons d r
def kAMf (p : Expr → Bool) (E : Expr → Option D) : List Expr → Option DA
  | [] => some dNil
  | e :: es => gd (!isSt e) ((E e).bind fun d => (kAMf p E es).bind fun r => some (consB (p e) d r))
abbrev kAM (E : Expr → Option D) : List Expr → Option DA := kAMf isNilL E
/-- a list that is told, laid in the store -/
def isLstD : Expr → Bool
  | .List _ _ => true
  | _ => false
/-- a name whose lists are objects of the store -/
def starS (x : Str) : Str := ("*" : Str) ++ x
def starN (C : Cf) : Expr → Bool
  | .Name x _ => C.mu.contains (starS x)
  | _ => false
def kW (T : Expr → Option DT) (op : BoolOp) : List Expr → Option DT
  | [] => none
  | [a] => T a
  | a :: b :: r => (T a).bind fun x => (kW T op (b :: r)).bind fun y => some (match op with
    | .And => dAndT x y
    | .Or => dOrT x y)
def kV (E : Expr → Option D) (op : BoolOp) : List Expr → Option D
  | [] => none
  | [a] => E a
  | a :: b :: r => (E a).bind fun x => (kV E op (b :: r)).bind fun y => some (match op with
    | .And => dAnd x y
    | .Or => dOr x y)
def kO (E : Expr → Option D) : Option Expr → Option DO
  | none => some dNoPart
  | some e => (E e).bind fun d => some (dPart d)
def callOf : Expr → Option (Str × List Expr)
  | .Call (.Name x _) es [] _ => some (x, es)
  | _ => none
def isTup : Expr → Bool
  | .Tuple .. => true
  | _ => false
def kI (E : Expr → Option D) (C : Cf) (tg e : Expr) : Option DI := match callOf e with
  | some (x, [a]) => if x = "range" then gd (isGlB C "range") ((kA E [a]).bind fun d => some (dRngI rng1P d)) else if x = "enumerate" then gd (isGlB C "enumerate" && isTup tg) ((kA E [a]).bind fun d => some (dRngI enI d)) else (E e).bind fun d => some (dSeqI d)
  | some (x, [a, b]) => if x = "range" then gd (isGlB C "range") ((kA E [a, b]).bind fun d => some (dRngI rng2P d)) else (E e).bind fun d => some (dSeqI d)
  | _ => (E e).bind fun d => some (dSeqI d)
def isRange (C : Cf) : Expr → Option Expr
  | .Call (.Name x _) [a] [] _ => if x = "range" then gd (isGlB C "range") (some a) else none
  | _ => none
def kCall (E : Expr → Option D) (C : Cf) (x : Str) (es : List Expr) : Option D :=
  gd (C.calm && isGlB C x && !anySt es && !odd x) (match C.ar.lookup x with
    | some (n, _) => gd (es.length == n && decide (0 < n)) ((kAM E es).bind fun da => some (dCall (C.F x) da))
    | none => (bltF x).bind fun f => gd (!es.isEmpty) ((kA E es).bind fun da => some (dN f da)))
/-- f(a=.., b=..): each parameter by its name, in order -/
def kKw (E : Expr → Option D) : List Keyword → Option (DA × List Str)
  | [] => some (dNil, [])
  | ⟨some a, e, _⟩ :: ks => (E e).bind fun d => (kKw E ks).bind fun r => some (dCons d r.1, a :: r.2)
  | _ => none
def kCallW (E : Expr → Option D) (C : Cf) (x : Str) (ks : List Keyword) : Option D :=
  gd (C.calm && isGlB C x && !odd x) (match C.ar.lookup x with
    | some (_, qs) => (kKw E ks).bind fun da => gd (decide (da.2 = qs) && !qs.isEmpty) (some (dCall (C.F x) da.1))
    | none => none)
def kRg (E : Expr → Option D) (C : Cf) (lst : Bool) (a : Expr) : Option D :=
  gd (C.calm && isGlB C "range" && !isSt a) ((E a).bind fun d => some (dN (rgMk lst) (dCons d dNil)))
def methF (n : Str) : Option (Sto → PV → List PV → Option (PV × Sto)) := if n = "append" then some appendP else if n = "extend" then some extendP else if n = "pop" then some popP else none
def bareCall : Expr → Bool
  | .Call .. => true
  | _ => false
def ownOf (N : List Str) (sc : Scope) : List (Str × Nat) := sc.names.filterMap fun y => match y.2 with
  | .local => (N.findIdx? (· == y.1)).map fun i => (y.1, i)
  | .cell => (N.findIdx? (· == y.1)).map fun i => (y.1, i)
  | _ => none
def kIf (T : Expr → Option DT) : List Expr → Option DT
  | [] => some dYes
  | [a] => T a
  | _ => none
noncomputable def kLc (R : Rec) (C : Cf) (m : Bool) (elt tg iter : Expr) (ifs : List Expr) (scope : Scope) : Option D :=
  gd (C.calm && blkC C.N C.sc scope (ownOf C.N scope) && noSet iter) ((kI (R.E C) C tg iter).bind fun di => (R.G (C.blk scope) tg).bind fun bt => gd (bt.2.all fun i => ((ownOf C.N scope).map (·.2)).contains i) ((kIf (R.T (C.blk scope)) ifs).bind fun tst => (R.E (C.blk scope) elt).bind fun de =>
    some (if m = true then dLcM di bt.1 tst de ((ownOf C.N scope).map (·.2)) else dLc di bt.1 tst de ((ownOf C.N scope).map (·.2)))))
/-- two fors -/
noncomputable def kLc2 (R : Rec) (C : Cf) (elt tg iter : Expr) (ifs : List Expr) (tg1 iter1 : Expr) (ifs1 : List Expr) (scope : Scope) : Option D :=
  gd (C.calm && blkC C.N C.sc scope (ownOf C.N scope) && noSet iter && noSet iter1) ((kI (R.E C) C tg iter).bind fun di => (R.G (C.blk scope) tg).bind fun bt => gd (bt.2.all fun i => ((ownOf C.N scope).map (·.2)).contains i) ((kIf (R.T (C.blk scope)) ifs).bind fun tst => (kI (R.E (C.blk scope)) (C.blk scope) tg1 iter1).bind fun di1 =>
    (R.G (C.blk scope) tg1).bind fun bt1 => gd (bt1.2.all fun i => ((ownOf C.N scope).map (·.2)).contains i) ((kIf (R.T (C.blk scope)) ifs1).bind fun tst1 => (R.E (C.blk scope) elt).bind fun de => some (dLc2 di bt.1 tst di1 bt1.1 tst1 de ((ownOf C.N scope).map (·.2)) bt1.2))))
/-- sorted of a set comprehension with two fors, no ifs -/
def set2Of : Expr → Option (Expr × Expr × Expr × Expr × Expr × Scope × Pos)
  | .SetComp e [⟨t0, j0, [], 0⟩, ⟨t1, j1, [], 0⟩] sc ps => some (e, t0, j0, t1, j1, sc, ps)
  | _ => none
noncomputable def kSs (R : Rec) (C : Cf) (e t0 j0 t1 j1 : Expr) (sc : Scope) : Option D :=
  gd (C.calm && isGlB C "sorted" && blkC C.N C.sc sc (ownOf C.N sc) && noSet j0 && noSet j1) ((kI (R.E C) C t0 j0).bind fun di0 => (R.G (C.blk sc) t0).bind fun b0 => gd (b0.2.all fun i => ((ownOf C.N sc).map (·.2)).contains i) ((kI (R.E (C.blk sc)) (C.blk sc) t1 j1).bind fun di1 => (R.G (C.blk sc) t1).bind fun b1 => gd (b1.2.all fun i => ((ownOf C.N sc).map (·.2)).contains i) ((R.E (C.blk sc) e).bind fun de =>
    some (dSrtSet di0 b0.1 di1 b1.1 de ((ownOf C.N sc).map (·.2)) b1.2))))
def lamOf : Expr → Option (Expr × Scope × Pos)
  | .Lambda ⟨[], [], none, [], [], none, []⟩ body scope pos => some (body, scope, pos)
  | _ => none
open Classical in
/-- x(lambda: ..) -/
noncomputable def dLam (hd : PV → (Sto → R PV) → Sto → R PV) (db : D) : D := fun env st => if h : ∃ r, ∀ (f c : Nat) (q : Str) (vs : List V), hd (.lam f c q (env.map fun o => o.getD .non) vs) (fun z => db env z) st = r then h.choose else .bad
theorem dLam_eq {hd : PV → (Sto → R PV) → Sto → R PV} {db : D} {env : En} {st : Sto} {r : R PV} (h : ∀ (f c : Nat) (q : Str) (vs : List V), hd (.lam f c q (env.map fun o => o.getD .non) vs) (fun z => db env z) st = r) : dLam hd db env st = r := by
  have hx : ∃ r, ∀ (f c : Nat) (q : Str) (vs : List V), hd (.lam f c q (env.map fun o => o.getD .non) vs) (fun z => db env z) st = r := ⟨r, h⟩
  unfold dLam
  rw [dif_pos hx, ← hx.choose_spec 0 0 "" [], h]
noncomputable def kE (R : Rec) (C : Cf) : Expr → Option D
  | .Constant (.int i) _ _ => some (dC (.int i))
  | .Constant (.bool i) _ _ => some (dC (.bl i))
  | .Constant (.str i) _ _ => some (dC (.str i))
  | .Constant .none _ _ => some (dC .non)
  | .Name x _ => kName C x
  | .BinOp a op b _ => (opB op).bind fun f => (R.E C a).bind fun x => (R.E C b).bind fun y => some (d2 f x y)
  | .UnaryOp .Not a _ => (R.E C a).bind fun x => some (d1 notT x)
  | .UnaryOp .USub a _ => (R.E C a).bind fun x => some (d1 negP x)
  | .BoolOp op vs _ => kV (R.E C) op vs
  | .IfExp c a b _ => (R.T C c).bind fun t => (R.E C a).bind fun x => (R.E C b).bind fun y => some (dIf t x y)
  | .Compare a [op] [b] _ => (opC op).bind fun f => gd (noSet b) ((R.E C a).bind fun x => (R.E C b).bind fun y => some (d2 f x y))
  | .Compare a [o1, o2] [b, c] _ => (opC o1).bind fun f => (opC o2).bind fun f' => gd (noSet c) ((R.E C a).bind fun x => (R.E C b).bind fun y => (R.E C c).bind fun z => some (dChain f f' x y z))
  | .Tuple es _ _ => (kA (R.E C) es).bind fun d => some (dN (mkT es.length) d)
  | .List es _ => (kA (R.E C) es).bind fun d => some (dN (mkL es.length) d)
  | .Subscript a (.Slice lo hi none _) _ => (R.E C a).bind fun d => (kO (R.E C) lo).bind fun l => (kO (R.E C) hi).bind fun h => some (dSl d l h)
  | .Subscript a (.Slice none none (some k) _) _ => (R.E C a).bind fun d => (R.E C k).bind fun z => some (dRev d z)
  | .Subscript a b _ => gd (ixOk b) ((R.E C a).bind fun x => (R.E C b).bind fun y => some (d2 ixP x y))
  | .Call (.Name x _) es [] _ => (match es with
    | [] => (match C.act with
      | some (a, i, lv, act) => gd (x == a) (some (dAct i lv act))
      | none => none)
    | [r] => (match lamOf r with
      | some (body, scope, _) => gd (C.calm && C.lamb && isGlB C x && !odd x && LamX.lamSB C.sc scope) ((C.Hr x).bind fun hd => (R.E (C.lam scope) body).bind fun db => some (dLam hd db))
      | none => match set2Of r with
      | some (e, t0, j0, t1, j1, sc, _) => if x = "sorted" then kSs R C e t0 j0 t1 j1 sc else none
      | none => match isRange C r with
      | some a => if x = "tuple" then gd (isGlB C "tuple") (kRg (R.E C) C false a) else if x = "list" then gd (isGlB C "list") (kRg (R.E C) C true a) else none
      | none => kCall (R.E C) C x es)
    | es => kCall (R.E C) C x es)
  | .Call (.Name x _) [] (k :: ks) _ => kCallW (R.E C) C x (k :: ks)
  | .Call (.Attribute o name ap) es [] cp => if name = "get" then (match es with
    | [e, f] => gd (C.calm && (ap.endLine == cp.line) && !anySt [e, f] && !bareCall o) ((R.E C o).bind fun d => (R.E C e).bind fun de => (R.E C f).bind fun df => some (dGet2 d de df))
    | _ => none) else (methF name).bind fun f => gd (C.calm && (ap.endLine == cp.line) && !anySt es && decide (es.length < 30) && !bareCall o) ((R.E C o).bind fun d => (if starN C o = true then kAMf isLstD (R.E C) es else kA (R.E C) es).bind fun da => some (dMeth f d da))
  | .ListComp elt [⟨tg, iter, ifs, 0⟩] scope _ => kLc R C false elt tg iter ifs scope
  | .ListComp elt [⟨tg, iter, ifs, 0⟩, ⟨tg1, iter1, ifs1, 0⟩] scope _ => kLc2 R C elt tg iter ifs tg1 iter1 ifs1 scope
  | _ => none
def kT (R : Rec) (C : Cf) : Expr → Option DT
  | .UnaryOp .Not a _ => (R.T C a).bind fun x => some (dNotT x)
  | .BoolOp op vs _ => kW (R.T C) op vs
  | .Compare a [op] [b] _ => (opC op).bind fun f => gd (noSet b) ((R.E C a).bind fun x => (R.E C b).bind fun y => some (dTru asB (d2 f x y)))
  | .Compare a [o1, o2] [b, c] _ => (opC o1).bind fun f => (opC o2).bind fun f' => gd (noSet c) ((R.E C a).bind fun x => (R.E C b).bind fun y => (R.E C c).bind fun z => some (dTru asB (dChain f f' x y z)))
  | e => gd (byTruth e) ((R.E C e).bind fun x => some (dTru truP x))
def kGs (G : Expr → Option (BT × List Nat)) : List Expr → Option (BTs × List Nat)
  | [] => some (bNil, [])
  | e :: es => gd (!isSt e) ((G e).bind fun b => (kGs G es).bind fun r => some (bCons b.1 r.1, b.2 ++ r.2))
def kG (R : Rec) (C : Cf) : Expr → Option (BT × List Nat)
  | .Name x _ => gd (decide (C.sc.names.lookup x = some .local) || (decide (C.sc.names.lookup x = some .cell) && C.fn x)) ((ix? C x).bind fun i => some (bName i, [i]))
  | .Tuple es _ _ => gd C.calm ((kGs (R.G C) es).bind fun r => some (bTup es.length r.1, r.2))
  | _ => none
end Bb
namespace Bb
open PySem L2 PyProof.Rows
section
variable {g : G} {k : Nat} {W : WX} {C : Cf} {X : Cx} {E : Expr → Option D}
theorem odd_no {x : Str} (h : odd x = false) : (x == ("__debug__" : Str)) = false ∧ (x == ("__classdict__" : Str)) = false ∧ x ≠ "__name__" := by
  unfold odd at h
  rw [Bool.or_eq_false_iff, Bool.or_eq_false_iff] at h
  exact ⟨h.1.1, h.1.2, fun e => by rw [e] at h; simp at h⟩
theorem tyF_ok {x : Str} {t : String} (h : tyF x = some t) : x ∈ bltNames ∧ bootBuiltins x = some (.type t) := by
  unfold tyF at h
  split at h
  · rename_i e; subst e; cases h; exact ⟨by decide, by rfl⟩
  split at h
  · rename_i e; subst e; cases h; exact ⟨by decide, by rfl⟩
  split at h
  · rename_i e; subst e; cases h; exact ⟨by decide, by rfl⟩
  split at h
  · rename_i e; subst e; cases h; exact ⟨by decide, by rfl⟩
  split at h
  · rename_i e; subst e; cases h; exact ⟨by decide, by rfl⟩
  · cases h
theorem ty_vr {K : PySem.W.Frag} {ρ : Lo} {H : Hp} {t : String} : VR K ρ H (.ty t) (.ty t) := by unfold VR; rfl
theorem kName_ok (o : CO g k W C X) {x : Str} {d : D} {pos : Pos} (h : kName C x = some d) : PE X (.Name x pos) (tD g W d) := by
  unfold kName at h
  obtain ⟨h1, h⟩ := gd_some.mp h
  obtain ⟨o1, o2, o3⟩ := odd_no (by simpa using h1)
  split at h
  · rename_i i hi
    cases h
    exact de_v (o.ix hi).1 (o.ix hi).2 o1 o2
  · obtain ⟨hg, h⟩ := gd_some.mp h
    split at h
    · rename_i p hp
      cases h
      obtain ⟨u, v, e1, e2, e3, e4⟩ := o.po.con x p hp
      exact de_c (pe_glob (o.gl hg) e1 e2 o1) e3 e4
    · obtain ⟨t, ht, rfl⟩ := Option.map_eq_some_iff.mp h
      obtain ⟨e1, e2⟩ := tyF_ok ht
      exact de_c (pe_bltn (v := .ty t) (o.gl hg) (o.mb e1) e2 rfl o3 o1) (fun _ _ => ty_vr) (fun _ z => by cases z)
theorem kA_ok (hE : ∀ e d, E e = some d → PE X e (tD g W d)) : ∀ {es : List Expr} {da : DA}, kA E es = some da → PA X es (tDA g W da) ∧ (∀ env st xs st1, da env st = .ok xs st1 → xs.length = es.length)
  | [], da, h => by
    cases h
    exact ⟨da_nil, fun _ _ _ _ h => by cases h; rfl⟩
  | e :: es, da, h => by
    unfold kA at h
    obtain ⟨h1, h⟩ := gd_some.mp h
    simp only [Option.bind_eq_some_iff, Option.some.injEq] at h
    obtain ⟨d, hd, r, hr, rfl⟩ := h
    obtain ⟨t1, t2⟩ := kA_ok hE hr
    refine ⟨da_cons (hE e d hd) t1 (star_cons (by simpa using h1) es X.env), fun env st xs st1 q => ?_⟩
    unfold dCons at q
    cases q1 : d env st with
    | ok v st2 =>
      rw [q1] at q
      simp only [R.bind_ok] at q
      cases q2 : r env st2 with
      | ok vs st3 =>
        rw [q2] at q
        cases q
        simp [t2 _ _ _ _ q2]
      | ex _ _ _ => rw [q2] at q; cases q
      | bad => rw [q2] at q; cases q
    | ex _ _ _ => rw [q1] at q; cases q
    | bad => rw [q1] at q; cases q
theorem kV_ok (o : CO g k W C X) (hE : ∀ e d, E e = some d → PE X e (tD g W d)) {op : BoolOp} {pos : Pos} : ∀ {es : List Expr} {d : D}, kV E op es = some d → PE X (.BoolOp op es pos) (tD g W d)
  | [], _, h => by cases h
  | [a], d, h => de_one (hE a d h)
  | a :: b :: r, d, h => by
    unfold kV at h
    simp only [Option.bind_eq_some_iff, Option.some.injEq] at h
    obtain ⟨x, hx, y, hy, rfl⟩ := h
    have t := kV_ok o hE (op := op) (pos := pos) hy
    cases op with
    | And => exact de_andG o.po.hK (hE a x hx) t
    | Or => exact de_orG o.po.hK (hE a x hx) t
theorem kW_ok {T : Expr → Option DT} (hT : ∀ e d, T e = some d → PT X e (tDT g W d)) {op : BoolOp} {pos : Pos} : ∀ {es : List Expr} {d : DT}, kW T op es = some d → PW X (.BoolOp op es pos) (tDT g W d)
  | [], _, h => by cases h
  | [a], d, h => by
    cases op with
    | And => exact dw_and1 (hT a d h)
    | Or => exact dw_or1 (hT a d h)
  | a :: b :: r, d, h => by
    unfold kW at h
    simp only [Option.bind_eq_some_iff, Option.some.injEq] at h
    obtain ⟨x, hx, y, hy, rfl⟩ := h
    have t := kW_ok hT (op := op) (pos := pos) hy
    cases op with
    | And => exact dw_and (hT a x hx) t
    | Or => exact dw_or (hT a x hx) t
theorem opB_ok (hK : g.K = X.K) {op : Operator} {f : Sto → PV → PV → Option PV} (h : opB op = some f) : OpR X (binaryOp op) (rP2 g f) := by
  cases op <;> cases h
  · exact op_addP hK
  · exact op_subP
  · exact op_mulP hK
  · exact op_modP
  · exact op_powP
  · exact op_fdivP
theorem opC_ok (o : CO g k W C X) {op : CmpOp} {f : Sto → PV → PV → Option PV} (h : opC op = some f) : OpR X (compareOp op) (rP2 g f) := by
  have hu := o.un
  cases op <;> cases h
  · exact op_eqP o.po.hK (by omega)
  · exact op_neP o.po.hK (by omega)
  · exact op_cmpP op_lt
  · exact op_cmpP op_le
  · exact op_cmpP op_gt
  · exact op_cmpP op_ge
  · exact op_isP
  · exact op_isntP
  · exact op_inP o.po.hK (by omega)
  · exact op_notInP o.po.hK (by omega)
theorem kO_ok (hE : ∀ e d, E e = some d → PE X e (tD g W d)) {e : Option Expr} {d : DO} (h : kO E e = some d) : PO X e (tDO g W d) := by
  cases e with
  | none => cases h; exact do_none
  | some e =>
    unfold kO at h
    simp only [Option.bind_eq_some_iff, Option.some.injEq] at h
    obtain ⟨x, hx, rfl⟩ := h
    exact do_some (hE e x hx)
theorem callOf_eq {e : Expr} {x : Str} {es : List Expr} (h : callOf e = some (x, es)) : ∃ p pos, e = .Call (.Name x p) es [] pos := by
  unfold callOf at h
  split at h
  · cases h; exact ⟨_, _, rfl⟩
  · cases h
theorem kA_st : ∀ {es : List Expr} {da : DA}, kA E es = some da → anySt es = false
  | [], _, _ => rfl
  | e :: es, da, h => by
    unfold kA at h
    obtain ⟨h1, h⟩ := gd_some.mp h
    simp only [Option.bind_eq_some_iff, Option.some.injEq] at h
    obtain ⟨d, hd, r, hr, rfl⟩ := h
    unfold anySt
    rw [kA_st hr, Bool.or_false]
    simpa using h1
theorem star1 {a : Expr} {env : Env} (h : anySt [a] = false) : starEach [a] env = [(false, eval a env)] := by
  unfold anySt at h
  rw [Bool.or_eq_false_iff] at h
  exact star_cons h.1 [] env
theorem star2 {a b : Expr} {env : Env} (h : anySt [a, b] = false) : starEach [a, b] env = [(false, eval a env), (false, eval b env)] := by
  unfold anySt at h
  rw [Bool.or_eq_false_iff] at h
  rw [star_cons h.1, star1 h.2]
theorem kI_ok (o : CO g k W C X) (hE : ∀ e d, E e = some d → PE X e (tD g W d)) {tg e : Expr} {d : DI} (h : kI E C tg e = some d) : PI X tg e (tIt g W d) := by
  have seq : (E e).bind (fun d => some (dSeqI d)) = some d → PI X tg e (tIt g W d) := fun h => by
    simp only [Option.bind_eq_some_iff, Option.some.injEq] at h
    obtain ⟨x, hx, rfl⟩ := h
    exact di_seq o.po.hK (hE e x hx)
  unfold kI at h
  split at h
  · rename_i x a hc
    obtain ⟨p, pos, rfl⟩ := callOf_eq hc
    split at h
    · rename_i ex
      subst ex
      obtain ⟨hg, h⟩ := gd_some.mp h
      simp only [Option.bind_eq_some_iff, Option.some.injEq] at h
      obtain ⟨x, hx, rfl⟩ := h
      exact di_rng1 (o.gl hg) (o.mb (by decide)) (kA_ok hE hx).1 (star1 (kA_st hx))
    · split at h
      · rename_i ex
        subst ex
        obtain ⟨hg, h⟩ := gd_some.mp h
        rw [Bool.and_eq_true] at hg
        simp only [Option.bind_eq_some_iff, Option.some.injEq] at h
        obtain ⟨x, hx, rfl⟩ := h
        cases tg with
        | Tuple elts kk tpos => exact di_en o.po.hK (o.gl hg.1) (o.mb (by decide)) (kA_ok hE hx).1 (star1 (kA_st hx))
        | _ => cases hg.2
      · exact seq h
  · rename_i x a b hc
    obtain ⟨p, pos, rfl⟩ := callOf_eq hc
    split at h
    · rename_i ex
      subst ex
      obtain ⟨hg, h⟩ := gd_some.mp h
      simp only [Option.bind_eq_some_iff, Option.some.injEq] at h
      obtain ⟨x, hx, rfl⟩ := h
      have hs := kA_st hx
      exact di_rng2 (o.gl hg) (o.mb (by decide)) (kA_ok hE hx).1 (star2 hs) (star1 (by unfold anySt at hs; rw [Bool.or_eq_false_iff] at hs; exact hs.2))
    · exact seq h
  · exact seq h
theorem bltF_ok (o : CO g k W C X) (hc : X.calm = true) {x : Str} {f : Sto → List PV → Option PV} (h : bltF x = some f) : x ∈ bltNames ∧ (∃ id, CallR X (.builtin id) (rPN g f) ∧ bootBuiltins x = some (.builtin id)) ∨ x ∈ bltNames ∧ (∃ T, CallR X (.type T) (rPN g f) ∧ bootBuiltins x = some (.type T)) := by
  have hK := o.po.hK
  unfold bltF at h
  split at h
  · rename_i e; subst e; cases h; exact .inl ⟨by decide, _, cl_len hK, by rfl⟩
  split at h
  · rename_i e; subst e; cases h; exact .inl ⟨by decide, _, cl_isi hK, by rfl⟩
  split at h
  · rename_i e; subst e; cases h; exact .inl ⟨by decide, _, cl_all hK hc, by rfl⟩
  split at h
  · rename_i e; subst e; cases h; exact .inl ⟨by decide, _, cl_any hK hc, by rfl⟩
  split at h
  · rename_i e; subst e; cases h; exact .inl ⟨by decide, _, cl_srtA hK, by rfl⟩
  split at h
  · rename_i e; subst e; cases h; exact .inl ⟨by decide, _, cl_repr hK o.gu o.un, by rfl⟩
  split at h
  · rename_i e; subst e; cases h; exact .inr ⟨by decide, _, cl_int, by rfl⟩
  split at h
  · rename_i e; subst e; cases h; exact .inl ⟨by decide, _, cl_max hc, by rfl⟩
  split at h
  · rename_i e; subst e; cases h; exact .inl ⟨by decide, _, cl_minG hK hc (by have := o.un; omega), by rfl⟩
  split at h
  · rename_i e; subst e; cases h; exact .inr ⟨by decide, _, cl_tup hK, by rfl⟩
  split at h
  · rename_i e; subst e; cases h; exact .inr ⟨by decide, _, cl_lst hK, by rfl⟩
  · cases h
theorem kAMf_ok {p : Expr → Bool} (hE : ∀ e d, E e = some d → PE X e (tD g W d)) : ∀ {es : List Expr} {da : DA}, kAMf p E es = some da → PA X es (tDA g W da) ∧ (∀ env st xs st1, da env st = .ok xs st1 → xs.length = es.length)
  | [], da, h => by
    cases h
    exact ⟨da_nil, fun _ _ _ _ h => by cases h; rfl⟩
  | e :: es, da, h => by
    unfold kAMf at h
    obtain ⟨h1, h⟩ := gd_some.mp h
    simp only [Option.bind_eq_some_iff, Option.some.injEq] at h
    obtain ⟨d, hd, r, hr, rfl⟩ := h
    obtain ⟨t1, t2⟩ := kAMf_ok hE hr
    have hst := star_cons (by simpa using h1) es X.env
    cases q0 : p e with
    | true =>
      refine ⟨da_consM (hE e d hd) t1 hst, fun env st xs st1 q => ?_⟩
      unfold consB dConsM at q
      rw [if_pos rfl] at q
      cases q1 : d env st with
      | ok v st2 =>
        rw [q1] at q
        simp only [R.bind_ok] at q
        cases q2 : r env (mat true v st2).2 with
        | ok vs st3 =>
          rw [q2] at q
          cases q
          simp [t2 _ _ _ _ q2]
        | ex _ _ _ => rw [q2] at q; cases q
        | bad => rw [q2] at q; cases q
      | ex _ _ _ => rw [q1] at q; cases q
      | bad => rw [q1] at q; cases q
    | false =>
      refine ⟨da_cons (hE e d hd) t1 hst, fun env st xs st1 q => ?_⟩
      unfold consB dCons at q
      rw [if_neg (by simp)] at q
      cases q1 : d env st with
      | ok v st2 =>
        rw [q1] at q
        simp only [R.bind_ok] at q
        cases q2 : r env st2 with
        | ok vs st3 =>
          rw [q2] at q
          cases q
          simp [t2 _ _ _ _ q2]
        | ex _ _ _ => rw [q2] at q; cases q
        | bad => rw [q2] at q; cases q
      | ex _ _ _ => rw [q1] at q; cases q
      | bad => rw [q1] at q; cases q
theorem kAM_ok (hE : ∀ e d, E e = some d → PE X e (tD g W d)) {es : List Expr} {da : DA} (h : kAM E es = some da) : PA X es (tDA g W da) ∧ (∀ env st xs st1, da env st = .ok xs st1 → xs.length = es.length) := kAMf_ok hE h
theorem kCall_ok (o : CO g k W C X) (hE : ∀ e d, E e = some d → PE X e (tD g W d)) {x : Str} {es : List Expr} {d : D} {p pos : Pos} (h : kCall E C x es = some d) : PE X (.Call (.Name x p) es [] pos) (tD g W d) := by
  unfold kCall at h
  obtain ⟨h1, h⟩ := gd_some.mp h
  simp only [Bool.and_eq_true, Bool.not_eq_true'] at h1
  obtain ⟨⟨⟨hc, hgl⟩, hst⟩, hod⟩ := h1
  obtain ⟨o1, o2, o3⟩ := odd_no hod
  have hcX := o.calm hc
  cases es with
  | nil =>
    split at h
    · obtain ⟨h2, h⟩ := gd_some.mp h
      rw [Bool.and_eq_true] at h2
      have h3 := of_decide_eq_true h2.2
      have h4 := eq_of_beq h2.1
      simp at h4
      omega
    · simp only [Option.bind_eq_some_iff] at h
      obtain ⟨f, _, h⟩ := h
      obtain ⟨h2, h⟩ := gd_some.mp h
      cases h2
  | cons e es =>
    have hs := hst
    unfold anySt at hs
    rw [Bool.or_eq_false_iff] at hs
    split at h
    · rename_i n qs0 hn
      obtain ⟨h2, h⟩ := gd_some.mp h
      rw [Bool.and_eq_true] at h2
      simp only [Option.bind_eq_some_iff, Option.some.injEq] at h
      obtain ⟨da, hda, rfl⟩ := h
      obtain ⟨t1, t2⟩ := kAM_ok hE hda
      obtain ⟨f, fd, ps, e1, e2, e3, e4, _, e5⟩ := o.po.fns x n qs0 hn
      refine de_call e5 o.tk (o.room hc) o.gu (o.gl hgl) e1 e2 e3 t1 (fun env st xs st1 q => ?_) o1 (star_cons hs.1 es X.env) (plain_args X.env pos hs.2)
      rw [t2 _ _ _ _ q, e4]
      exact eq_of_beq h2.1
    · simp only [Option.bind_eq_some_iff] at h
      obtain ⟨f, hf, h⟩ := h
      obtain ⟨_, h⟩ := gd_some.mp h
      simp only [Option.bind_eq_some_iff, Option.some.injEq] at h
      obtain ⟨da, hda, rfl⟩ := h
      obtain ⟨t1, t2⟩ := kA_ok hE hda
      rcases bltF_ok o hcX hf with ⟨m, id, c1, c2⟩ | ⟨m, T, c1, c2⟩
      · exact de_callB c1 (o.gl hgl) (o.mb m) c2 t1 o3 o1 (star_cons hs.1 es X.env) (plain_args X.env pos hs.2)
      · exact de_callTy c1 (o.gl hgl) (o.mb m) c2 t1 o3 o1 (star_cons hs.1 es X.env) (plain_args X.env pos hs.2)
theorem kKw_ok (hE : ∀ e d, E e = some d → PE X e (tD g W d)) : ∀ {ks : List Keyword} {da : DA × List Str}, kKw E ks = some da → PK X ks (tDA g W da.1) ∧ (∀ env st xs st1, da.1 env st = .ok xs st1 → xs.length = da.2.length) ∧ ks.map (·.arg) = da.2.map some
  | [], da, h => by
    cases h
    exact ⟨dk_nil, fun _ _ _ _ h => by cases h; rfl, rfl⟩
  | ⟨some a, e, kp⟩ :: ks, da, h => by
    unfold kKw at h
    simp only [Option.bind_eq_some_iff, Option.some.injEq] at h
    obtain ⟨d, hd, r, hr, rfl⟩ := h
    obtain ⟨t1, t2, t3⟩ := kKw_ok hE hr
    refine ⟨dk_cons (hE e d hd) t1, fun env st xs st1 q => ?_, by simp [t3]⟩
    dsimp only at q
    unfold dCons at q
    cases q1 : d env st with
    | ok v st2 =>
      rw [q1] at q
      simp only [R.bind_ok] at q
      cases q2 : r.1 env st2 with
      | ok vs st3 =>
        rw [q2] at q
        cases q
        simp [t2 _ _ _ _ q2]
      | ex _ _ _ => rw [q2] at q; cases q
      | bad => rw [q2] at q; cases q
    | ex _ _ _ => rw [q1] at q; cases q
    | bad => rw [q1] at q; cases q
  | ⟨none, e, kp⟩ :: ks, da, h => by cases h
theorem backKw_map {pos : Pos} {ks : List Keyword} {env : Env} {ss : List Str} (h : ks.map (·.arg) = ss.map some) : (backToKw pos (keywordEach ks env)).map (·.1) = ss.map some := by
  have e : ∀ (ks : List Keyword), (keywordEach ks env).map (·.1) = ks.map (·.arg) := fun ks => by
    induction ks with
    | nil => rfl
    | cons k r ih =>
      obtain ⟨a, e, p⟩ := k
      have : keywordEach (⟨a, e, p⟩ :: r) env = (a, eval e env) :: keywordEach r env := rfl
      rw [this, List.map_cons, List.map_cons, ih]
  unfold backToKw
  rw [List.map_map, ← h, ← e ks]
  rfl
theorem kCallW_ok (o : CO g k W C X) (hE : ∀ e d, E e = some d → PE X e (tD g W d)) {x : Str} {ks : List Keyword} {d : D} {p pos : Pos} (h : kCallW E C x ks = some d) : PE X (.Call (.Name x p) [] ks pos) (tD g W d) := by
  unfold kCallW at h
  obtain ⟨h1, h⟩ := gd_some.mp h
  simp only [Bool.and_eq_true, Bool.not_eq_true'] at h1
  obtain ⟨⟨hc, hgl⟩, hod⟩ := h1
  obtain ⟨o1, o2, o3⟩ := odd_no hod
  split at h
  · rename_i n qs hn
    simp only [Option.bind_eq_some_iff] at h
    obtain ⟨da, hda, h⟩ := h
    obtain ⟨h2, h⟩ := gd_some.mp h
    cases h
    simp only [Bool.and_eq_true, decide_eq_true_eq, Bool.not_eq_true', List.isEmpty_eq_false_iff] at h2
    obtain ⟨t1, t2, t3⟩ := kKw_ok hE hda
    obtain ⟨f, fd, ps, e1, e2, e3, e4, e6, e5⟩ := o.po.fns x n qs hn
    obtain ⟨rfl, hb⟩ := e6 h2.2
    rw [h2.1] at t3
    have t4 := backKw_map (pos := pos) (env := X.env) t3
    have t5 : ∀ z ∈ backToKw pos (keywordEach ks X.env), z.1.isSome = true := fun z hz => by
      have : z.1 ∈ (backToKw pos (keywordEach ks X.env)).map (·.1) := List.mem_map.mpr ⟨z, hz, rfl⟩
      rw [t4] at this
      obtain ⟨a, _, ha⟩ := List.mem_map.mp this
      rw [← ha]; rfl
    refine de_callK e5 o.tk (o.room hc) o.gu (o.gl hgl) e1 e2 hb t1 (fun env st xs st1 q => ?_) o1 (List.all_eq_true.mpr t5) ?_ ?_
    · rw [t2 _ _ _ _ q, h2.1]
    · have e : ∀ l : List (Option Str × Sem Value), l.filterMap (fun x => x.1) = (l.map (·.1)).filterMap id := fun l => by rw [List.filterMap_map]; rfl
      rw [e, t4, List.filterMap_map]
      have e2 : ∀ l : List Str, l.filterMap (id ∘ some) = l := fun l => by induction l with
        | nil => rfl
        | cons a r ih => rw [List.filterMap_cons]; simp
      rw [e2]
    · rw [Bool.or_eq_false_iff]
      refine ⟨rfl, ?_⟩
      rw [List.any_eq_false]
      intro z hz
      have := t5 z hz
      cases q : z.1 <;> simp_all
  · cases h
end
end Bb
namespace Bb
open PySem L2 PyProof.Rows
section
variable {g : G} {k : Nat} {W : WX} {C : Cf} {X : Cx} {E : Expr → Option D}
theorem base_plain {o : Expr} (h : bareCall o = false) (name : Str) (env : Env) (whole : Sem Value) : attributeBase o name env whole = whole := by
  cases o <;> first | (cases h; done) | rfl
theorem all_plain : ∀ {es : List Expr} (env : Env) (pos : Pos), anySt es = false → (backTo pos (starEach es env)).all (fun x => !x.1) = true
  | [], _, _, _ => rfl
  | e :: es, env, pos, h => by
    unfold anySt at h
    rw [Bool.or_eq_false_iff] at h
    rw [star_cons h.1]
    have := all_plain env pos h.2
    simp only [backTo, List.map_cons, List.all_cons, Bool.true_and, Bool.not_false] at this ⊢
    exact this
theorem star_len : ∀ (es : List Expr) (env : Env), (starEach es env).length = es.length
  | [], _ => rfl
  | e :: es, env => by
    cases e <;> (show (starEach es env).length + 1 = _; rw [star_len es env]; rfl)
theorem methF_ok {name : Str} {f : Sto → PV → List PV → Option (PV × Sto)} (h : methF name = some f) : ∃ id, PySem.Slot "list" name id ∧ typeOf (.builtin id) = pure (.type "method_descriptor") ∧ MtR X id (rMP g f) := by
  unfold methF at h
  split at h
  · rename_i e; subst e; cases h; exact ⟨_, PySem.F.slot_list_append, PySem.F.type_list_append, mt_appendP⟩
  split at h
  · rename_i e; subst e; cases h; exact ⟨_, PySem.F.slot_list_extend, PySem.F.type_list_extend, mt_extendP⟩
  split at h
  · rename_i e; subst e; cases h; exact ⟨_, PySem.F.slot_list_pop, PySem.F.type_list_pop, mt_popP⟩
  · cases h
theorem kMeth_ok (o : CO g k W C X) (hE : ∀ e d, E e = some d → PE X e (tD g W d)) {ob : Expr} {name : Str} {es : List Expr} {f : Sto → PV → List PV → Option (PV × Sto)} {d : D} {da : DA} {ap cp : Pos} (hf : methF name = some f)
    (h1 : (C.calm && (ap.endLine == cp.line) && !anySt es && decide (es.length < 30) && !bareCall ob) = true) (hd : E ob = some d) {b : Bool} (hda : (if b = true then kAMf isLstD E es else kA E es) = some da) : PE X (.Call (.Attribute ob name ap) es [] cp) (tD g W (dMeth f d da)) := by
  simp only [Bool.and_eq_true, Bool.not_eq_true', decide_eq_true_eq] at h1
  obtain ⟨⟨⟨⟨h1, h2⟩, h3⟩, h4⟩, h5⟩ := h1
  obtain ⟨id, m1, m2, m3⟩ := methF_ok (X := X) (g := g) hf
  have t1 : PA X es (tDA g W da) := by
    split at hda
    · exact (kAMf_ok hE hda).1
    · exact (kA_ok hE hda).1
  cases es with
  | nil =>
    have e0 : da = dNil := by split at hda <;> cases hda <;> rfl
    subst e0
    exact de_meth0 o.po.hK m1 m2 m3 (hE ob d hd) (base_plain h5 _ _ _) h2
  | cons e es =>
    have hs := h3
    unfold anySt at hs
    rw [Bool.or_eq_false_iff] at hs
    refine de_meth o.po.hK m1 m2 m3 (hE ob d hd) t1 (base_plain h5 _ _ _) ?_ h2 (star_cons hs.1 es X.env) (plain_args X.env cp hs.2)
    rw [all_plain X.env cp h3]
    simp only [Bool.true_and]
    have : ((e :: es).length + ([] : List Keyword).length + (if ([] : List Keyword).isEmpty then 0 else 1)) = (e :: es).length := by simp
    rw [this, decide_eq_true h4, Bool.and_true]
    rfl
/-! ### targets -/
theorem kGs_ok {Gf : Expr → Option (BT × List Nat)} (hG : ∀ e b, Gf e = some b → PG X e (tGt g b.2 b.1)) : ∀ {es : List Expr} {r : BTs × List Nat}, kGs Gf es = some r → PGs X es (tGts g r.2 r.1) ∧ anySt es = false
  | [], r, h => by cases h; exact ⟨dgs_nil, rfl⟩
  | e :: es, r, h => by
    unfold kGs at h
    obtain ⟨h1, h⟩ := gd_some.mp h
    simp only [Option.bind_eq_some_iff, Option.some.injEq] at h
    obtain ⟨b, hb, r', hr, rfl⟩ := h
    obtain ⟨t1, t2⟩ := kGs_ok hG hr
    have hst : isSt e = false := by simpa using h1
    refine ⟨dgs_cons (hG e b hb) t1 ?_, by unfold anySt; rw [hst, t2]; rfl⟩
    cases e <;> first | (cases hst; done) | rfl
theorem asg_len : ∀ (es : List Expr) (env : Env), (assignEach es env).length = es.length
  | [], _ => rfl
  | e :: es, env => by
    cases e <;> (show (assignEach es env).length + 1 = _; rw [asg_len es env]; rfl)
theorem asg_nostar : ∀ {es : List Expr} (env : Env), anySt es = false → (assignEach es env).findIdx? (·.1) = none
  | [], _, _ => rfl
  | e :: es, env, h => by
    unfold anySt at h
    rw [Bool.or_eq_false_iff] at h
    have e1 : assignEach (e :: es) env = (false, assign e env) :: assignEach es env := by
      cases e <;> first | (cases h.1; done) | rfl
    rw [e1, List.findIdx?_cons]
    simp only [Bool.false_eq_true, if_false]
    rw [asg_nostar env h.2]
    rfl
end
/-! ### the recursion -/
/-- where statements stand -/
structure SO (X : Cx) : Prop where
  st : X.stack = X.env :: X.outer
  fr : X.env.frame = some X.env.locals
  kd : X.env.scope.kind = .function
structure ROk (g : G) (R : Rec) : Prop where
  hE : ∀ (k : Nat) (W : WX) (C : Cf) (X : Cx), CO g k W C X → ∀ e d, R.E C e = some d → PE X e (tD g W d)
  hT : ∀ (k : Nat) (W : WX) (C : Cf) (X : Cx), CO g k W C X → ∀ e d, R.T C e = some d → PT X e (tDT g W d)
  hG : ∀ (k : Nat) (W : WX) (C : Cf) (X : Cx), CO g k W C X → ∀ e b, R.G C e = some b → PG X e (tGt g b.2 b.1)
  hS : ∀ (k : Nat) (W : WX) (C : Cf) (X : Cx), CO g k W C X → SO X → ∀ e d, R.S C e = some d → PS X e (tS g W d)
theorem ROk.nil (g : G) : ROk g Rec.nil := ⟨fun _ _ _ _ _ _ _ h => (nomatch h), fun _ _ _ _ _ _ _ h => (nomatch h), fun _ _ _ _ _ _ _ h => (nomatch h), fun _ _ _ _ _ _ _ _ h => (nomatch h)⟩
section
variable {g : G} {k : Nat} {W : WX} {C : Cf} {X : Cx} {R : Rec}
theorem kG_ok (hR : ROk g R) (o : CO g k W C X) {e : Expr} {b : BT × List Nat} (h : kG R C e = some b) : PG X e (tGt g b.2 b.1) := by
  unfold kG at h
  split at h
  · rename_i x pos
    obtain ⟨h1, h⟩ := gd_some.mp h
    simp only [Option.bind_eq_some_iff, Option.some.injEq] at h
    obtain ⟨i, hi, rfl⟩ := h
    simp only [Bool.or_eq_true, Bool.and_eq_true, decide_eq_true_eq] at h1
    have nd : X.N.Nodup := by rw [o.N]; exact o.nd
    refine dg_name nd (o.ix hi).1 (by unfold L2.Loc; rw [o.sc]; exact h1.imp id fun z => z.1) ?_
    rcases h1 with h1 | h1
    · exact .inr (by rw [o.sc]; exact h1)
    · exact .inl (o.fn x h1.2)
  · obtain ⟨h1, h⟩ := gd_some.mp h
    simp only [Option.bind_eq_some_iff, Option.some.injEq] at h
    obtain ⟨r, hr, rfl⟩ := h
    obtain ⟨t1, t2⟩ := kGs_ok (hR.hG k W C X o) hr
    exact dg_tup o.po.hK (o.calm h1) t1 (asg_len _ _) (asg_nostar _ t2)
  · cases h
theorem own_blk {N : List Str} {sc scope : Scope} (h : blkC N sc scope (ownOf N scope) = true) : BlkOk N sc scope (ownOf N scope) := blkOk_by h
theorem CO.blk (o : CO g k W C X) {scope : Scope} (hc : C.calm = true) (s : Shared) (H : Hp) (L : Addr) (cl : List (Str × Addr)) (fp : List Addr) : CO g k wF (C.blk scope) (X.blk s H scope (compEnvC scope cl L X.env) fp) where
  po := o.po
  N := o.N
  nd := o.nd
  sc := by
    show relabel scope X.env = relS scope C.sc
    rw [← o.sc]
    rfl
  calm := o.calm
  tk := fun u s' ⟨_, _, _, _, _, _, _, _, _, _, _, _, _, _, _, _, w⟩ => w.elim
  un := o.un
  gu := o.gu
  room := o.room
  hp := PassesOwn.never
  fn := fun x h => h
  act := fun a i lv act h => by cases h
  hear := fun x hd h => by cases h
  lamT := fun h => by cases h
theorem kIf_ok {W : WX} {X : Cx} {T : Expr → Option DT} (hw : W = wF) (hT : ∀ e d, T e = some d → PT X e (tDT g W d)) {ifs : List Expr} {d : DT} (h : kIf T ifs = some d) : PTs X ifs (tDT g wF d) := by
  subst hw
  unfold kIf at h
  split at h
  · cases h; exact dt_yes
  · exact pts_one (hT _ _ h)
  · cases h
theorem kLc_ok (hR : ROk g R) (o : CO g k W C X) {elt tg iter : Expr} {ifs : List Expr} {scope : Scope} {d : D} {pos : Pos} {m : Bool} (h : kLc R C m elt tg iter ifs scope = some d) : PE X (.ListComp elt [⟨tg, iter, ifs, 0⟩] scope pos) (tD g W d) := by
  unfold kLc at h
  obtain ⟨h1, h⟩ := gd_some.mp h
  simp only [Bool.and_eq_true] at h1
  simp only [Option.bind_eq_some_iff] at h
  obtain ⟨di, hdi, bt, hbt, h⟩ := h
  obtain ⟨h2, h⟩ := gd_some.mp h
  simp only [Option.bind_eq_some_iff, Option.some.injEq] at h
  obtain ⟨tst, htst, de, hde, rfl⟩ := h
  have nd : X.N.Nodup := by rw [o.N]; exact o.nd
  have hb : BlkOk X.N X.env.scope scope (ownOf C.N scope) := by
    rw [o.N, o.sc]
    exact own_blk h1.1.2
  have hsl : ∀ i ∈ bt.2, i ∈ (ownOf C.N scope).map (·.2) := fun i hi => by
    have := List.all_eq_true.mp h2 i hi
    simpa using this
  split
  · exact de_lcM (o.calm h1.1.1) nd (kI_ok o (hR.hE k W C X o) hdi) hb hsl (fun s H L cl fp => hR.hG k wF _ _ (o.blk h1.1.1 s H L cl fp) tg bt hbt) (fun s H L cl fp => kIf_ok rfl (hR.hT k wF _ _ (o.blk h1.1.1 s H L cl fp)) htst)
      (fun s H L cl fp => hR.hE k wF _ _ (o.blk h1.1.1 s H L cl fp) elt de hde) (fun x => folded_no h1.2 X.env x)
  · exact de_lc (o.calm h1.1.1) nd (kI_ok o (hR.hE k W C X o) hdi) hb hsl (fun s H L cl fp => hR.hG k wF _ _ (o.blk h1.1.1 s H L cl fp) tg bt hbt) (fun s H L cl fp => kIf_ok rfl (hR.hT k wF _ _ (o.blk h1.1.1 s H L cl fp)) htst)
      (fun s H L cl fp => hR.hE k wF _ _ (o.blk h1.1.1 s H L cl fp) elt de hde) (fun x => folded_no h1.2 X.env x)
theorem kLc2_ok (hR : ROk g R) (o : CO g k W C X) {elt tg iter tg1 iter1 : Expr} {ifs ifs1 : List Expr} {scope : Scope} {d : D} {pos : Pos} (h : kLc2 R C elt tg iter ifs tg1 iter1 ifs1 scope = some d) : PE X (.ListComp elt [⟨tg, iter, ifs, 0⟩, ⟨tg1, iter1, ifs1, 0⟩] scope pos) (tD g W d) ∧ ∀ {i : Nat} {y : Str} {py spos : Pos}, X.N[i]? = some y → X.env.scope.names.lookup y = some .local →
    swapsWith (.ListComp elt [⟨tg, iter, ifs, 0⟩, ⟨tg1, iter1, ifs1, 0⟩] scope pos) (some (.Name y py)) spos.line X.env = pure true → ∀ M : Bool, PS X (.Assign [.Name y py] (.ListComp elt [⟨tg, iter, ifs, 0⟩, ⟨tg1, iter1, ifs1, 0⟩] scope pos) spos) (tS g W (if M = true then sSetM i d else sSet i d)) := by
  unfold kLc2 at h
  obtain ⟨h1, h⟩ := gd_some.mp h
  simp only [Bool.and_eq_true] at h1
  obtain ⟨⟨⟨c1, c2⟩, c3⟩, c4⟩ := h1
  simp only [Option.bind_eq_some_iff] at h
  obtain ⟨di, hdi, bt, hbt, h⟩ := h
  obtain ⟨h2, h⟩ := gd_some.mp h
  simp only [Option.bind_eq_some_iff] at h
  obtain ⟨tst, htst, di1, hdi1, bt1, hbt1, h⟩ := h
  obtain ⟨h3, h⟩ := gd_some.mp h
  simp only [Option.bind_eq_some_iff, Option.some.injEq] at h
  obtain ⟨tst1, htst1, de, hde, rfl⟩ := h
  have nd : X.N.Nodup := by rw [o.N]; exact o.nd
  have hb : BlkOk X.N X.env.scope scope (ownOf C.N scope) := by
    rw [o.N, o.sc]
    exact own_blk c2
  have in0 : ∀ i ∈ bt.2, i ∈ (ownOf C.N scope).map (·.2) := fun i hi => by simpa using List.all_eq_true.mp h2 i hi
  have in1 : ∀ i ∈ bt1.2, i ∈ (ownOf C.N scope).map (·.2) := fun i hi => by simpa using List.all_eq_true.mp h3 i hi
  have q1 := fun (s : Shared) (H : Hp) (L : Addr) (cl : List (Str × Addr)) (fp : List Addr) => hR.hG k wF _ _ (o.blk c1 s H L cl fp) tg bt hbt
  have q2 := fun (s : Shared) (H : Hp) (L : Addr) (cl : List (Str × Addr)) (fp : List Addr) => kIf_ok rfl (hR.hT k wF _ _ (o.blk c1 s H L cl fp)) htst
  have q3 := fun (s : Shared) (H : Hp) (L : Addr) (cl : List (Str × Addr)) (fp : List Addr) => kI_ok (o.blk c1 s H L cl fp) (hR.hE k wF _ _ (o.blk c1 s H L cl fp)) hdi1
  have q4 := fun (s : Shared) (H : Hp) (L : Addr) (cl : List (Str × Addr)) (fp : List Addr) => hR.hG k wF _ _ (o.blk c1 s H L cl fp) tg1 bt1 hbt1
  have q5 := fun (s : Shared) (H : Hp) (L : Addr) (cl : List (Str × Addr)) (fp : List Addr) => kIf_ok rfl (hR.hT k wF _ _ (o.blk c1 s H L cl fp)) htst1
  have q6 := fun (s : Shared) (H : Hp) (L : Addr) (cl : List (Str × Addr)) (fp : List Addr) => hR.hE k wF _ _ (o.blk c1 s H L cl fp) elt de hde
  exact ⟨de_lc2 (o.calm c1) nd (kI_ok o (hR.hE k W C X o) hdi) hb in1 in0 (fun i hi => hi) q1 q2 q3 q4 q5 q6 (fun x => folded_no c3 X.env x) (fun env x => folded_no c4 env x),
    fun hy hyl hsw M => ds_setLc2 (o.calm c1) nd hy hyl hsw (kI_ok o (hR.hE k W C X o) hdi) hb in1 in0 (fun i hi => hi) q1 q2 q3 q4 q5 q6 (fun x => folded_no c3 X.env x) (fun env x => folded_no c4 env x) M⟩
end
end Bb
namespace Bb
open PySem L2 PyProof.Rows LamX
/-! ### a lambda is made -/
section
variable {X : Cx} {pins : List (Addr × Obj)} {σ : L2.St} {H : Hp} {s : Shared}
theorem lam_own {T : List (Addr × Str)} {c P : Addr} {params : Arguments} {body : Expr} {scope : Scope} {pos : Pos} {E : Value → Shared → Prop} {Q : Value → Shared → Prop} {nm : Str} (hnm : nm = X.env.qual ++ "<lambda>") (I : Inv X pins σ H s) (TB : TabB X.base X.mg c P) (hcode : X.env.code = .ref c)
    (hm : (P, nm) ∈ T) (hu : ∀ p ∈ T, p.1 = P → p.2 = nm) (hT : Tabs T H) (hdef : defaultsOf params X.env = ([], [])) (hfree : ∀ y ∈ scope.names, y.2 = .free → ∃ c, X.env.cells.lookup y.1 = some c)
    (go : ∀ (f c1 : Addr) (pm ctv : Value) (H1 : Hp) (z : Shared), Inv X pins σ H1 z → ExtN H H1 → (∀ b q, H1 b = some (.tbl q) → ∃ q', H b = some (.tbl q')) → Tabs T H1 →
      z.heap.get? f = some (PySem.W.kla_obj "<lambda>" nm params body scope (cloFrom X.env.cells scope.names []) pm c1 ctv) → H1 f = none → f ∉ frs X.stack → H1 c1 = some (CodeO c1 nm) → Q (.ref f) z) :
    wpAny (model X.prog X.w) X.A (eval (.Lambda params body scope pos) X.env) Q E s := by
  obtain ⟨tab, hP, ht, ha⟩ := hT _ hm
  subst hnm
  refine PySem.W.kla_eval hdef ?_
  have bmP : s.heap.BuiltinsAt X.mg P := TB.bm.keeps I.bk
  have atP' : s.heap.get? P = some { cls := .none, data := .fields tab } := I.hok P _ hP
  have far : ∀ b, s.heap.objs.size ≤ b → b ∉ frs X.stack := fun b hb z => (List.mem_cons.mp (I.stkSub _ z)).elim (fun e => by
    have h1 := I.lt
    rw [← e] at h1
    exact absurd (Nat.lt_of_lt_of_le h1 hb) (Nat.lt_irrefl _)) fun e => I.nofs hb e
  cases hc : codeAmong pos tab.toList with
  | some cv =>
    obtain ⟨c1, e, hco⟩ := ha pos cv hc
    subst e
    refine PySem.W.kla_makeFunctionHit (mg := X.mg) (c := c) (P := P) (ps := tab) (closure_ok hfree) I.ok.glob (I.mod.glob.keeps I.bk) hcode (TB.code.keeps I.bk) atP' ht hc bmP fun ctv h' tk hx hsz => ?_
    have J : Inv X pins σ H { s with heap := h'.push (PySem.W.kla_obj "<lambda>" (X.env.qual ++ "<lambda>") params body scope (cloFrom X.env.cells scope.names []) ((X.mg "__name__").getD .none) c1 ctv), toks := tk } := I.kept fun b o z => Heap.get?_push_of_some _ (hx b o z)
    exact go h'.objs.size c1 _ ctv H _ J (ExtN.refl H) (fun b q z => ⟨q, z⟩) hT (Heap.get?_push_size _ rfl) (I.hok.fresh hsz) (far _ hsz) hco
  | none =>
    refine PySem.W.kla_makeFunction (mg := X.mg) (c := c) (P := P) (ps := tab) (closure_ok hfree) I.ok.glob (I.mod.glob.keeps I.bk) hcode (TB.code.keeps I.bk) atP' ht hc TB.gP bmP fun c1 ctv h' tk hx hge hlt hrec htb => ?_
    obtain ⟨c2, oc, vs, t, e2, hoc, hd, hv⟩ := hrec
    cases e2
    have big : s.heap.objs.size ≤ h'.objs.size := by omega
    have nC : H c1 = none := I.hok.fresh hge
    have J := inv_table (t' := tk) (more := #[rawInt pos.line, rawInt pos.col, .ref c1]) (h' := h'.push (PySem.W.kla_obj "<lambda>" (X.env.qual ++ "<lambda>") params body scope (cloFrom X.env.cells scope.names []) ((X.mg "__name__").getD .none) c1 ctv)) I hP
      (fun b o hb z => Heap.get?_push_of_some _ (hx b o hb z)) (Heap.get?_push_of_some _ htb) hge ⟨oc, vs, t, Heap.get?_push_of_some _ hoc, hd, hv⟩
    have keepN : ExtN H (upd (upd H P (.tbl (tab ++ #[rawInt pos.line, rawInt pos.col, .ref c1]))) c1 (CodeO c1 (X.env.qual ++ "<lambda>"))) := fun b o z n => by
      rw [upd_ne (ne_of_none z nC), upd_ne (fun y => n tab (by rw [y, hP] at z; exact (Option.some.inj z).symm))]
      exact z
    have eL : (tab ++ #[rawInt pos.line, rawInt pos.col, .ref c1]).toList = tab.toList ++ [rawInt pos.line, rawInt pos.col, .ref c1] := by simp
    refine go h'.objs.size c1 _ ctv _ _ J keepN (fun b q z => ?_) (fun p hp => ?_) (Heap.get?_push_size _ rfl) ?_ (far _ big) upd_same
    · by_cases b1 : b = c1
      · rw [b1, upd_same] at z
        exact absurd (Option.some.inj z) (codeO_ne q)
      · rw [upd_ne b1] at z
        by_cases b2 : b = P
        · exact ⟨tab, by rw [b2]; exact hP⟩
        · rw [upd_ne b2] at z
          exact ⟨q, z⟩
    · by_cases hb : p.1 = P
      · rw [hu p hp hb, hb]
        refine ⟨_, by rw [upd_ne (ne_of_none hP nC), upd_same], by rw [eL]; exact PySem.TriplesOk_snoc _ _ _ _ ht, fun p' cv hcv => ?_⟩
        rw [eL] at hcv
        rcases among_app _ ht hcv with z | z
        · obtain ⟨c0, e1, e2⟩ := ha p' cv z
          exact ⟨c0, e1, keepN _ _ e2 codeO_ne⟩
        · exact ⟨c1, z, upd_same⟩
      · obtain ⟨tab', a1, a2, a3⟩ := hT p hp
        refine ⟨tab', by rw [upd_ne (ne_of_none a1 nC), upd_ne hb]; exact a1, a2, fun p' cv hcv => ?_⟩
        obtain ⟨c0, e1, e2⟩ := a3 p' cv hcv
        exact ⟨c0, e1, keepN _ _ e2 codeO_ne⟩
    · have n1 : h'.objs.size ≠ c1 := by omega
      have n2 : h'.objs.size ≠ P := Nat.ne_of_gt (Nat.lt_of_lt_of_le (Heap.lt_size atP') big)
      rw [upd_ne n1, upd_ne n2]
      exact I.hok.fresh big
end
/-- the heap grows by code objects and rows of tables -/
theorem Ext.tabs {K : PySem.W.Frag} {T : List (Addr × Str)} {ρ : Lo} {H H1 : Hp} {st : Sto} (s : SR K T ρ H st) (e : ExtN H H1) (t1 : Tabs T H1) (tb : ∀ b q, H1 b = some (.tbl q) → ∃ q', H b = some (.tbl q')) : Ext ρ H ρ H1 ∧ SR K T ρ H1 st := by
  have dom : ∀ a, H1 a = none → H a = none := fun a z => by
    cases q : H a with
    | none => rfl
    | some o =>
      by_cases h : ∃ ps, o = .tbl ps
      · obtain ⟨ps, rfl⟩ := h
        obtain ⟨qn, hq⟩ := s.tbo a ps q
        obtain ⟨ps', h1, _⟩ := t1 _ hq
        rw [show H1 a = _ from h1] at z
        cases z
      · rw [e a o q (fun ps hp => h ⟨ps, hp⟩)] at z
        cases z
  have x : Ext ρ H ρ H1 := ⟨List.prefix_rfl, rfl, dom, fun a o h _ n => e a o h n, fun a o h _ n => e a o h n, fun a m => .inl m⟩
  refine ⟨x, s.nd, s.len, fun a m z => s.hid a m (dom a z), fun n a m h1 h2 => ?_, t1, fun b ps z => ?_⟩
  · obtain ⟨o, z, r⟩ := s.ob n a m h1 h2
    exact ⟨o, e a o z r.ntb, r.mono x⟩
  · obtain ⟨q', z'⟩ := tb b ps z
    exact s.tbo b q' z'
end Bb
namespace Bb
open PySem L2 PyProof.Rows LamX
/-! ### the call of a lambda that a parameter holds -/
def clOf (env : En) : List PV := env.map fun o => o.getD .non
def vsOf : En → L2.St → List V
  | o :: e, u :: s => (match o, u with
    | some _, some v => v
    | _, _ => .non) :: vsOf e s
  | _, _ => []
structure Capt (env : En) (σ : L2.St) (cl : List PV) (vs : List V) : Prop where
  len : env.length = σ.length
  at_ : ∀ (i : Nat) (p : PV), env[i]? = some (some p) → (∀ xs, p ≠ .tl xs) ∧ ∃ v, σ[i]? = some (some v) ∧ cl[i]? = some p ∧ vs[i]? = some v
theorem capt_of {K : PySem.W.Frag} {ρ : Lo} {H : Hp} : ∀ {env : En} {σ : L2.St}, ER K ρ H env σ → VRs K ρ H (clOf env) (vsOf env σ) ∧ Capt env σ (clOf env) (vsOf env σ)
  | [], [], _ => ⟨by unfold clOf vsOf; exact .nil, rfl, fun i p h => by simp at h⟩
  | [], _ :: _, e => by have h := e.1; simp at h
  | _ :: _, [], e => by have h := e.1; simp at h
  | o :: env, u :: σ, e => by
    have e' : ER K ρ H env σ := ⟨Nat.succ.inj e.1, fun i p h => e.2 (i + 1) p h⟩
    obtain ⟨t1, t2⟩ := capt_of e'
    refine ⟨?_, e.1, fun i p h => ?_⟩
    · unfold clOf vsOf
      refine .cons ?_ t1
      cases o with
      | none => cases u <;> (show VR K ρ H PV.non V.non; unfold VR; rfl)
      | some p =>
        obtain ⟨v, h1, h2, _⟩ := e.2 0 p rfl
        have h1 : some u = some (some v) := h1
        cases h1
        exact h2
    · cases i with
      | zero =>
        have h : some o = some (some p) := h
        cases h
        obtain ⟨v, h1, h2, h3⟩ := e.2 0 p rfl
        have h1 : some u = some (some v) := h1
        cases h1
        exact ⟨h3, v, rfl, rfl, rfl⟩
      | succ i =>
        obtain ⟨h3, v, h4, h5, h6⟩ := t2.at_ i p h
        exact ⟨h3, v, h4, h5, h6⟩
theorem Capt.er {K : PySem.W.Frag} {ρ : Lo} {H : Hp} {env : En} {σ : L2.St} {cl : List PV} {vs : List V} (c : Capt env σ cl vs) (r : VRs K ρ H cl vs) : ER K ρ H env σ := by
  refine ⟨c.len, fun i p h => ?_⟩
  obtain ⟨h3, v, h4, h5, h6⟩ := c.at_ i p h
  obtain ⟨u, h7, h8⟩ := r.get h5
  rw [h6] at h7
  cases h7
  exact ⟨v, h4, h8, h3⟩
section
variable {g : G} {X : Cx} {pins : List (Addr × Obj)} {σ : L2.St} {H : Hp} {s : Shared}
theorem pe_actG {Eg : XK} {Ng : List Str} {qg : Str} {sg : Scope} {gA f c1 : Addr} {cdg pm ctv : Value} {params : Arguments} {body : Expr} {scope : Scope} {j i : Nat} {a nm : Str} {pn : List (Addr × Obj)} {xe : Value → Shared → Prop} {W' : WX} {db : D} {env0 : En} {cl : List PV} {vs : List V} {p1 p2 : Pos} (hnm : nm = X.env.qual ++ "<lambda>")
    (I : Inv X pins σ H s) (L : LamS X.env.scope scope) (hf : s.heap.get? f = some (PySem.W.kla_obj "<lambda>" nm params body scope (cloFrom X.env.cells scope.names []) pm c1 ctv)) (hfn : H f = none) (hfr : f ∉ frs X.stack)
    (hbind : ∀ (q : Str) (cl : List (Str × Addr)) (pm cv ctv : Value), bindArgs (PySem.W.kla_fn "<lambda>" q params body scope cl pm cv ctv) ⟨[], []⟩ = pure [])
    (tk : Takes ((cxOf (L2.CX X.prog X.w) X.prog X.w X.K X.mg X.base Ng qg sg gA cdg X.A X.stack s H Eg).tr pn xe) W') (hr : Room (j + 1) (X.A.deeper (envOfC qg sg s.heap.objs.size gA cdg))) (hgu : X.A.guards = some [])
    (hbody : ∀ (E : XK) (A : Around) (outer : List Env) (s1 : Shared) (H1 : Hp), Room j (A.deeper (lamEnv X scope s1.heap.objs.size f c1)) → A.guards = some [] → PE (lamCx X A outer s1 H1 E scope f c1) body (tD g (WE E) db)) (cp : Capt env0 σ cl vs)
    (hN : Ng[i]? = some a) (hv : Vis sg a) (hd : (a == ("__debug__" : Str)) = false) (hcd : (a == ("__classdict__" : Str)) = false) :
    PE ((cxOf (L2.CX X.prog X.w) X.prog X.w X.K X.mg X.base Ng qg sg gA cdg X.A X.stack s H Eg).tr pn xe) (.Call (.Name a p1) [] [] p2) (tD g W' (dAct i (.lam f c1 nm cl vs) fun st => db env0 st)) := by
  subst hnm
  refine ⟨fun pinsZ sZ σZ HZ Q IZ ⟨ρ, env, st, sr, er, h⟩ => ?_⟩
  unfold dAct at h
  cases q1 : env[i]? with
  | none => simp only [q1] at h; exact h.elim
  | some o =>
  cases o with
  | none => simp only [q1] at h; exact h.elim
  | some v0 =>
  simp only [q1] at h
  split at h
  case isFalse => exact h.elim
  rename_i ev0
  subst ev0
  obtain ⟨u0, hs, rl, _⟩ := er.2 i _ q1
  unfold VR at rl
  obtain ⟨eu, hc, rcl⟩ := rl
  subst eu
  refine wpAny_Call_Name_kw (thn ((pe_var (pos := p1) (i := i) hN hv hd hcd).run pinsZ sZ σZ HZ (fun v H1 => v = .ref f ∧ H1 = HZ) IZ ⟨.ref f, hs, rfl, rfl⟩) fun u z1 ⟨v, H1, I1, r1, ev, eH⟩ => ?_)
  subst ev
  rw [eH] at I1
  obtain rfl : u = Value.ref f := r1
  have of1 : z1.heap.get? f = some (PySem.W.kla_obj "<lambda>" (X.env.qual ++ "<lambda>") params body scope (cloFrom X.env.cells scope.names []) pm c1 ctv) := I1.base.keep f _ hf hfn hfr (fun z => nomatch (show f ∈ ([] : List Addr) from z))
  refine PySem.W.callWith_F0 ⟨_, _, _, _, of1⟩ ?_
  have un1 : Un (frs X.stack) [] H HZ s.heap z1.heap := I1.base
  obtain ⟨⟨oc, cvs, t, hoc, hdc, hvc⟩, _, _⟩ := I1.hok c1 _ hc
  let EE : XK := fun cls d H' => W' cls d σZ H'
  have rc : codeAny (model X.prog X.w) (X.A.deeper (envOfC qg sg s.heap.objs.size gA cdg)) (.call (.ref f) ⟨[], []⟩) (CR (L2.CX X.prog X.w) (envOfC qg sg s.heap.objs.size gA cdg :: X.stack) X.prog X.w HZ z1 Q EE) z1 := by
    refine PySem.W.kla_callFunE hr.depth of1 rfl L.co L.gen rfl ⟨c1, oc, cvs, t, rfl, hoc, hdc, hvc⟩ ?_
    rw [hbind]
    refine wpAny_pure (wpAny_newFunctionEnv (fun y hy => (L.own y hy).2) (fun y hy => absurd hy (by simp)) (fun h₁ hns hsb => ⟨I1.nolimit.fresh _ hsb, ?_⟩) L.kind)
    show codeAny _ _ (.expr body (lamEnv X scope z1.heap.objs.size f c1)) _ _
    have keep1 : ∀ b o, z1.heap.get? b = some o → h₁.get? b = some o := fun b o e => hsb.extBut b o (Nat.ne_of_lt (Heap.lt_size e)) (Heap.get?_push_of_some _ e)
    have J : Inv (lamCx X (X.A.deeper (envOfC qg sg s.heap.objs.size gA cdg)) (envOfC qg sg s.heap.objs.size gA cdg :: X.stack) z1 HZ EE scope f c1) [] σ HZ { z1 with heap := h₁, toks := z1.toks + ([] : List (Str × Value)).length } :=
      lam_start2 I L I1.env0 hr.hd un1 hns keep1
    refine PySem.W.kla_codeExpr (wpAny_mono ((hbody EE _ _ z1 HZ (hr.deeper _) hgu).run [] _ _ HZ Q J ⟨ρ, env0, st, sr, cp.er rcl, h⟩) (fun v z2 hq => ?_) fun e z2 hq => hq)
    obtain ⟨w', H', J', rv, q⟩ := hq
    exact ⟨w', H', J'.os, J'.bare, J'.base, J'.hok, rv, q⟩
  refine wpAny_call (codeAny_mono rc fun r z2 hq => ?_)
  cases r with
  | error e => exact tk e z2 (XE.of_call I1 (fun cls d H' z => z) hq)
  | ok fl =>
    cases fl with
    | ret u => exact I1.after hq
    | next => exact False.elim hq
    | brk => exact False.elim hq
    | cont => exact False.elim hq
end
end Bb
namespace Bb
open PySem L2 PyProof.Rows LamX
section
variable {g : G} {k : Nat} {W : WX} {C : Cf} {X : Cx} {R : Rec}
theorem co_lam {k2 : Nat} {E : XK} {A : Around} {outer : List Env} {s1 : Shared} {H1 : Hp} {scope : Scope} {f c1 : Addr} (o : CO g k W C X) (hp : PrO g k2 X.prog X.w X.K X.mg X.base C.ar C.F2 C.con C.xs C.sb) (hr : Room (k2 + 2) (A.deeper (lamEnv X scope s1.heap.objs.size f c1))) (gu : A.guards = some []) :
    CO g k2 (WE E) (C.lam scope) (lamCx X A outer s1 H1 E scope f c1) where
  po := hp
  N := o.N
  nd := o.nd
  sc := rfl
  calm := fun _ => rfl
  tk := takes_of (E := E) rfl rfl rfl rfl
  un := by
    have := hr.un
    show (A.deeper (lamEnv X scope s1.heap.objs.size f c1)).units + 66 < cLine
    omega
  gu := gu
  room := fun _ => hr
  hp := passes_of rfl
  fn := fun x h => by cases h
  hear := fun x hd h => by cases h
  lamT := fun h => by cases h
  act := fun a i lv act h => by cases h
theorem lamOf_eq {e body : Expr} {scope : Scope} {pos : Pos} (h : lamOf e = some (body, scope, pos)) : e = .Lambda ⟨[], [], none, [], [], none, []⟩ body scope pos := by
  unfold lamOf at h
  split at h
  · cases h; rfl
  · cases h
theorem kLam_ok (hR : ROk g R) (o : CO g k W C X) {x : Str} {r body : Expr} {scope : Scope} {lpos p pos : Pos} {d : D} (hl : lamOf r = some (body, scope, lpos)) (h1 : (C.calm && C.lamb && isGlB C x && !odd x && LamX.lamSB C.sc scope) = true)
    (h : ((C.Hr x).bind fun hd => (R.E (C.lam scope) body).bind fun db => some (dLam hd db)) = some d) : PE X (.Call (.Name x p) [r] [] pos) (tD g W d) := by
  have er := lamOf_eq hl
  subst er
  simp only [Bool.and_eq_true, Bool.not_eq_true'] at h1
  obtain ⟨⟨⟨⟨hc, hlb⟩, hgl⟩, hod⟩, hls⟩ := h1
  simp only [Option.bind_eq_some_iff, Option.some.injEq] at h
  obtain ⟨hd, hhd, db, hdb, rfl⟩ := h
  obtain ⟨⟨gA, fdg, a, m1, m2, m3, run⟩, k2, hk2, po2⟩ := o.hear x hd hhd
  obtain ⟨c, P, l1, l2, l3, l4⟩ := o.lamT hlb
  have L : LamS X.env.scope scope := by rw [o.sc]; exact lamS_by hls
  refine ⟨fun pins s σ H Q I ⟨ρ, env, st, sr, er, h⟩ => ?_⟩
  unfold dLam at h
  split at h
  case isFalse => exact h.elim
  rename_i hx
  have hsp := hx.choose_spec
  generalize hx.choose = res at hsp h
  refine wpAny_Call_Name_kw (ld_glob I (o.gl hgl) m1 ?_ (odd_no hod).1)
  refine PySem.W.callWith_K (h₀ := X.base) I.ok.mod.kin m2 ?_ (by rfl) (by rfl)
  show wpAny _ _ (spliced ((false, eval (.Lambda ⟨[], [], none, [], [], none, []⟩ body scope lpos) X.env) :: backTo pos (starEach [] X.env))) _ _ s
  refine Calls.spliced_cons (lam_own rfl I l2 l1 l3 l4 sr.tb (by rfl) (L.has I.ok) fun f c1 pm ctv H1 z I1 eN tb1 T1 hf hfn hfr hco => ?_)
  refine Calls.spliced_nil ⟨I1.kIn, ?_⟩
  obtain ⟨x1, sr1⟩ := Ext.tabs sr eN T1 tb1
  have er1 := er.mono x1
  obtain ⟨rcl, cp⟩ := capt_of er1
  have rl : VR g.K ρ H1 (.lam f c1 (X.env.qual ++ "<lambda>") (clOf env) (vsOf env σ)) (.ref f) := by
    unfold VR
    exact ⟨rfl, hco, rcl⟩
  have hres := hsp f c1 (X.env.qual ++ "<lambda>") (vsOf env σ)
  have hb := m3 z [.ref f] I1.kIn rfl
  have rc : codeAny (model X.prog X.w) X.A (.call (.ref gA) ⟨[.ref f], []⟩) (CR (L2.CX X.prog X.w) X.stack X.prog X.w H1 z Q fun cls d H' => W cls d σ H') z := by
    refine run X.A X.stack z H1 ⟨[.ref f], []⟩ f (.lam f c1 (X.env.qual ++ "<lambda>") (clOf env) (vsOf env σ)) (fun z => db env z) Q _ (o.room hc) o.gu I1.env0 hb ?_ ?_
    · intro Ng qg sg cdg Eg i pn xe W' a' p1 p2 tk hr hN hv hod'
      exact pe_actG (j := k) rfl I1 L hf hfn hfr (fun _ _ _ _ _ => by rfl) tk hr o.gu (fun E A outer s1 H1 hr2 gu2 => hR.hE k2 (WE E) _ _ (co_lam o po2 (hr2.mono hk2) gu2) body db hdb) cp hN hv (odd_no hod').1 (odd_no hod').2.1
    · refine ⟨ρ, st, sr1, rl, ?_⟩
      rw [show hd (.lam f c1 (X.env.qual ++ "<lambda>") (clOf env) (vsOf env σ)) (fun z => db env z) st = res from hres]
      exact RP.mono okE.mono x1 h
  refine wpAny_call (codeAny_mono rc fun r s2 hq => ?_)
  cases r with
  | error e => exact o.tk e s2 (XE.of_call I1 (fun cls d H' z => z) hq)
  | ok fl =>
    cases fl with
    | ret u => exact I1.after hq
    | next => exact False.elim hq
    | brk => exact False.elim hq
    | cont => exact False.elim hq
end
end Bb
namespace Bb
open PySem L2 PyProof.Rows
section
variable {g : G} {k : Nat} {W : WX} {C : Cf} {X : Cx} {R : Rec}
theorem last_no {o1 o2 : CmpOp} {b c : Expr} (h : noSet c = true) : lastMarks [o1, o2] [b, c] = false := by
  have := behind_no (op := o2) h
  simpa [lastMarks] using this
theorem set2Of_eq {r e t0 j0 t1 j1 : Expr} {sc : Scope} {ps : Pos} (h : set2Of r = some (e, t0, j0, t1, j1, sc, ps)) : r = sc2E e t0 j0 t1 j1 [] [] sc ps := by
  unfold set2Of at h
  split at h
  · cases h; rfl
  · cases h
theorem isRange_eq {C : Cf} {r a : Expr} (h : isRange C r = some a) : isGlB C "range" = true ∧ ∃ p q, r = .Call (.Name "range" p) [a] [] q := by
  unfold isRange at h
  split at h
  · split at h
    · rename_i e
      subst e
      obtain ⟨h1, h⟩ := gd_some.mp h
      cases h
      exact ⟨h1, _, _, rfl⟩
    · cases h
  · cases h
theorem kSs_ok (hR : ROk g R) (o : CO g k W C X) {e t0 j0 t1 j1 : Expr} {sc : Scope} {d : D} {p ps pos : Pos} (h : kSs R C e t0 j0 t1 j1 sc = some d) : PE X (.Call (.Name "sorted" p) [sc2E e t0 j0 t1 j1 [] [] sc ps] [] pos) (tD g W d) := by
  unfold kSs at h
  obtain ⟨h1, h⟩ := gd_some.mp h
  simp only [Bool.and_eq_true] at h1
  obtain ⟨⟨⟨⟨hc, hgl⟩, hb⟩, n0⟩, n1⟩ := h1
  simp only [Option.bind_eq_some_iff] at h
  obtain ⟨di0, hd0, b0, hb0, h⟩ := h
  obtain ⟨h2, h⟩ := gd_some.mp h
  simp only [Option.bind_eq_some_iff] at h
  obtain ⟨di1, hd1, b1, hb1, h⟩ := h
  obtain ⟨h3, h⟩ := gd_some.mp h
  simp only [Option.bind_eq_some_iff, Option.some.injEq] at h
  obtain ⟨de, hde, rfl⟩ := h
  have nd : X.N.Nodup := by rw [o.N]; exact o.nd
  have own : BlkOk X.N X.env.scope sc (ownOf C.N sc) := by
    rw [o.N, o.sc]
    exact own_blk hb
  have in0 : ∀ i ∈ b0.2, i ∈ (ownOf C.N sc).map (·.2) := fun i hi => by simpa using List.all_eq_true.mp h2 i hi
  have in1 : ∀ i ∈ b1.2, i ∈ (ownOf C.N sc).map (·.2) := fun i hi => by simpa using List.all_eq_true.mp h3 i hi
  exact de_srtSet (o.calm hc) nd (kI_ok o (hR.hE k W C X o) hd0) own in1 in0 (fun i hi => hi) (fun s H L cl fp => hR.hG k wF _ _ (o.blk hc s H L cl fp) t0 b0 hb0) (fun s H L cl fp => kI_ok (o.blk hc s H L cl fp) (hR.hE k wF _ _ (o.blk hc s H L cl fp)) hd1) (fun s H L cl fp => hR.hG k wF _ _ (o.blk hc s H L cl fp) t1 b1 hb1)
    (fun s H L cl fp => hR.hE k wF _ _ (o.blk hc s H L cl fp) e de hde) (fun x => folded_no n0 X.env x) (fun env x => folded_no n1 env x) (o.gl hgl) (o.mb (by decide)) (star_cons rfl [] X.env) rfl
theorem kE_ok (hR : ROk g R) (o : CO g k W C X) {e : Expr} {d : D} (h : kE R C e = some d) : PE X e (tD g W d) := by
  have hE := hR.hE k W C X o
  have hT := hR.hT k W C X o
  unfold kE at h
  split at h
  · cases h; exact de_c pe_int (fun _ _ => int_vr _) (fun _ z => by cases z)
  · cases h; exact de_c pe_bl (fun _ _ => bl_vr _) (fun _ z => by cases z)
  · cases h; exact de_c pe_str (fun _ _ => str_vr _) (fun _ z => by cases z)
  · cases h; exact de_c pe_non (fun _ _ => non_vr) (fun _ z => by cases z)
  · exact kName_ok o h
  · simp only [Option.bind_eq_some_iff, Option.some.injEq] at h
    obtain ⟨f, hf, x, hx, y, hy, rfl⟩ := h
    exact de_bin (opB_ok o.po.hK hf) (hE _ _ hx) (hE _ _ hy)
  · simp only [Option.bind_eq_some_iff, Option.some.injEq] at h
    obtain ⟨x, hx, rfl⟩ := h
    exact de_notG o.po.hK (hE _ _ hx)
  · simp only [Option.bind_eq_some_iff, Option.some.injEq] at h
    obtain ⟨x, hx, rfl⟩ := h
    exact de_un un_negP (hE _ _ hx)
  · exact kV_ok o hE h
  · simp only [Option.bind_eq_some_iff, Option.some.injEq] at h
    obtain ⟨t, ht, x, hx, y, hy, rfl⟩ := h
    exact de_if (hT _ _ ht) (hE _ _ hx) (hE _ _ hy)
  · simp only [Option.bind_eq_some_iff] at h
    obtain ⟨f, hf, h⟩ := h
    obtain ⟨h1, h⟩ := gd_some.mp h
    simp only [Option.bind_eq_some_iff, Option.some.injEq] at h
    obtain ⟨x, hx, y, hy, rfl⟩ := h
    exact de_cmp (opC_ok o hf) (hE _ _ hx) (hE _ _ hy) (behind_no h1)
  · simp only [Option.bind_eq_some_iff] at h
    obtain ⟨f, hf, f', hf', h⟩ := h
    obtain ⟨h1, h⟩ := gd_some.mp h
    simp only [Option.bind_eq_some_iff, Option.some.injEq] at h
    obtain ⟨x, hx, y, hy, z, hz, rfl⟩ := h
    exact de_chain (opC_ok o hf) (opC_ok o hf') (hE _ _ hx) (hE _ _ hy) (hE _ _ hz) (last_no h1)
  · simp only [Option.bind_eq_some_iff, Option.some.injEq] at h
    obtain ⟨x, hx, rfl⟩ := h
    exact de_tup (kA_ok hE hx).1
  · simp only [Option.bind_eq_some_iff, Option.some.injEq] at h
    obtain ⟨x, hx, rfl⟩ := h
    exact de_lst (kA_ok hE hx).1
  · simp only [Option.bind_eq_some_iff, Option.some.injEq] at h
    obtain ⟨x, hx, l, hl, u, hu, rfl⟩ := h
    exact de_sl o.po.hK (hE _ _ hx) (kO_ok hE hl) (kO_ok hE hu)
  · simp only [Option.bind_eq_some_iff, Option.some.injEq] at h
    obtain ⟨x, hx, z, hz, rfl⟩ := h
    exact de_rev o.po.hK (hE _ _ hx) (hE _ _ hz)
  · obtain ⟨h1, h⟩ := gd_some.mp h
    simp only [Option.bind_eq_some_iff, Option.some.injEq] at h
    obtain ⟨x, hx, y, hy, rfl⟩ := h
    exact de_ix (ix_P o.po.hK) (hE _ _ hx) (hE _ _ hy) (plain_ix h1)
  · split at h
    · split at h
      · rename_i a i lv act ha
        obtain ⟨h1, h⟩ := gd_some.mp h
        cases h
        rw [eq_of_beq h1]
        exact o.act a i lv act ha X.pn X.xe W o.tk _ _
      · cases h
    · rename_i r
      split at h
      · rename_i body scope lpos hl
        obtain ⟨h1, h⟩ := gd_some.mp h
        exact kLam_ok hR o hl h1 h
      split at h
      · rename_i e t0 j0 t1 j1 sc ps hs
        split at h
        · rename_i ex
          subst ex
          rw [set2Of_eq hs]
          exact kSs_ok hR o h
        · cases h
      split at h
      · rename_i a ha
        obtain ⟨hg, p, q, rfl⟩ := isRange_eq ha
        split at h
        · rename_i e
          subst e
          obtain ⟨h1, h⟩ := gd_some.mp h
          unfold kRg at h
          obtain ⟨h2, h⟩ := gd_some.mp h
          simp only [Bool.and_eq_true, Bool.not_eq_true'] at h2
          simp only [Option.bind_eq_some_iff, Option.some.injEq] at h
          obtain ⟨x, hx, rfl⟩ := h
          exact de_tupRg1 (o.calm h2.1.1) (o.gl h1) (o.mb (by decide)) (o.gl hg) (o.mb (by decide)) (hE _ _ hx) (star_cons h2.2 [] X.env) (star_cons rfl [] X.env)
        · split at h
          · rename_i e
            subst e
            obtain ⟨h1, h⟩ := gd_some.mp h
            unfold kRg at h
            obtain ⟨h2, h⟩ := gd_some.mp h
            simp only [Bool.and_eq_true, Bool.not_eq_true'] at h2
            simp only [Option.bind_eq_some_iff, Option.some.injEq] at h
            obtain ⟨x, hx, rfl⟩ := h
            exact de_lstRg1 (o.calm h2.1.1) (o.gl h1) (o.mb (by decide)) (o.gl hg) (o.mb (by decide)) (hE _ _ hx) (star_cons h2.2 [] X.env) (star_cons rfl [] X.env)
          · cases h
      · exact kCall_ok o hE h
    · exact kCall_ok o hE h
  · exact kCallW_ok o hE h
  · split at h
    · rename_i hn
      subst hn
      split at h
      · rename_i e f
        obtain ⟨h1, h⟩ := gd_some.mp h
        simp only [Bool.and_eq_true, Bool.not_eq_true'] at h1
        obtain ⟨⟨⟨c1, c2⟩, c3⟩, c4⟩ := h1
        simp only [Option.bind_eq_some_iff, Option.some.injEq] at h
        obtain ⟨d, hd, de, hde, df, hdf, rfl⟩ := h
        refine de_get2 (by have := o.un; omega) (hE _ _ hd) (hE _ _ hde) (hE _ _ hdf) ⟨base_plain c4 _ _ _, ?_, c2, ?_⟩
        · rw [all_plain X.env _ c3]
          rfl
        · rw [star2 c3]
          rfl
      · cases h
    · simp only [Option.bind_eq_some_iff] at h
      obtain ⟨f, hf, h⟩ := h
      obtain ⟨h1, h⟩ := gd_some.mp h
      simp only [Option.bind_eq_some_iff, Option.some.injEq] at h
      obtain ⟨d, hd, da, hda, rfl⟩ := h
      exact kMeth_ok o hE hf h1 hd hda
  · exact kLc_ok hR o h
  · exact (kLc2_ok hR o h).1
  · cases h
theorem kT_ok (hR : ROk g R) (o : CO g k W C X) {e : Expr} {d : DT} (h : kT R C e = some d) : PT X e (tDT g W d) := by
  have hE := hR.hE k W C X o
  have hT := hR.hT k W C X o
  unfold kT at h
  split at h
  · simp only [Option.bind_eq_some_iff, Option.some.injEq] at h
    obtain ⟨x, hx, rfl⟩ := h
    exact dt_not (hT _ _ hx)
  · exact (kW_ok hT h).pt
  · simp only [Option.bind_eq_some_iff] at h
    obtain ⟨f, hf, h⟩ := h
    obtain ⟨h1, h⟩ := gd_some.mp h
    simp only [Option.bind_eq_some_iff, Option.some.injEq] at h
    obtain ⟨x, hx, y, hy, rfl⟩ := h
    exact dt_cmp (opC_ok o hf) (hE _ _ hx) (hE _ _ hy) (behind_no h1)
  · simp only [Option.bind_eq_some_iff] at h
    obtain ⟨f, hf, f', hf', h⟩ := h
    obtain ⟨h1, h⟩ := gd_some.mp h
    simp only [Option.bind_eq_some_iff, Option.some.injEq] at h
    obtain ⟨x, hx, y, hy, z, hz, rfl⟩ := h
    exact dt_chain (opC_ok o hf) (opC_ok o hf') (hE _ _ hx) (hE _ _ hy) (hE _ _ hz) (last_no h1)
  · obtain ⟨h1, h⟩ := gd_some.mp h
    simp only [Option.bind_eq_some_iff, Option.some.injEq] at h
    obtain ⟨x, hx, rfl⟩ := h
    exact dt_tru o.po.hK (hE _ _ hx) (truth_of h1 X.env)
end
end Bb
namespace Bb
open PySem L2 PyProof.Rows
/-! ### while -/
def whL (c : DT) (b : DS) : Nat → DS
  | 0, _, _ => .bad
  | n + 1, env, st => (c env st).toS env fun t st1 => if t = true then (match b env st1 with
    | .nx e s => whL c b n e s
    | .ct e s => whL c b n e s
    | .bk e s => .nx e s
    | r => r) else .nx env st1
open Classical in
noncomputable def sWhile (c : DT) (b : DS) : DS := fun env st => if h : ∃ n, whL c b n env st ≠ .bad then whL c b h.choose env st else .bad
theorem whL_mono {c : DT} {b : DS} : ∀ {n : Nat} {env : En} {st : Sto}, whL c b n env st ≠ .bad → whL c b (n + 1) env st = whL c b n env st
  | 0, _, _, h => absurd rfl h
  | n + 1, env, st, h => by
    unfold whL at h ⊢
    cases q : c env st with
    | bad => rw [q] at h; exact absurd rfl h
    | ex _ _ _ => rfl
    | ok t st1 =>
      simp only [q, R.toS_ok] at h ⊢
      cases t with
      | false => rfl
      | true =>
        simp only [if_pos] at h ⊢
        cases qb : b env st1 with
        | nx e s => simp only [qb] at h ⊢; exact whL_mono h
        | ct e s => simp only [qb] at h ⊢; exact whL_mono h
        | bk e s => rfl
        | rt v s => rfl
        | ex _ _ _ _ => rfl
        | bad => rfl
theorem whL_le {c : DT} {b : DS} {n : Nat} {env : En} {st : Sto} (h : whL c b n env st ≠ .bad) : ∀ {m : Nat}, n ≤ m → whL c b m env st = whL c b n env st := by
  intro m hm
  induction m with
  | zero => have : n = 0 := by omega
            subst this; rfl
  | succ m ih =>
    by_cases e : n = m + 1
    · subst e; rfl
    · have := ih (by omega)
      rw [whL_mono (by rw [this]; exact h), this]
theorem sWhile_eq {c : DT} {b : DS} {n : Nat} {env : En} {st : Sto} {r : RS} (h : whL c b n env st = r) (hr : r ≠ .bad) : sWhile c b env st = r := by
  have hx : ∃ n, whL c b n env st ≠ .bad := ⟨n, by rw [h]; exact hr⟩
  unfold sWhile
  rw [dif_pos hx]
  rcases Nat.le_total n hx.choose with l | l
  · rw [whL_le (by rw [h]; exact hr) l, h]
  · rw [← whL_le hx.choose_spec l, h]
section
variable {g : G} {W : WX} {X : Cx} {pos : Pos}
theorem ds_while {c : Expr} {body : List Stmt} {dc : DT} {db : DS} (hp : PassesOwn (model X.prog X.w) X.A X.env X.xe) (hc : PT X c (tDT g W dc)) (hb : PSs X body (tS g W db)) : PS X (.While c body [] pos) (tS g W (sWhile dc db)) :=
  PS.imp (ps_while hp hc hb) fun F σ H ⟨ρ, env, st, s, e, h⟩ => by
    unfold sWhile at h
    split at h
    · rename_i hx
      generalize hx.choose = n at h
      refine ⟨fun m σ' H' => ∃ ρ' env' st', SR g.K g.T ρ' H' st' ∧ ER g.K ρ' H' env' σ' ∧ SRP g W F ρ' H' (whL dc db m env' st'), ⟨n, ρ, env, st, s, e, h⟩, ?_⟩
      rintro m σ1 H1 ⟨ρ1, env1, st1, s1, e1, h1⟩
      cases m with
      | zero => exact h1.elim
      | succ m =>
        unfold whL at h1
        refine tDT_toS s1 e1 h1 fun ρ2 H2 t st2 x2 s2 h2 => ?_
        cases t with
        | false => rw [if_neg (by simp)] at h2 ⊢; exact h2 ρ2 σ1 H2 (.refl _ _) s2 (e1.mono x2)
        | true =>
          rw [if_pos rfl] at h2 ⊢
          refine ⟨fun σ' H' => ∃ ρ' env' st', SR g.K g.T ρ' H' st' ∧ ER g.K ρ' H' env' σ' ∧ SRP g W F ρ' H' (whL dc db m env' st'), fun σ' H' h => ⟨m, Nat.lt_succ_self _, h⟩, ρ2, env1, st2, s2, e1.mono x2, ?_⟩
          cases qb : db env1 st2 with
          | nx e3 s3 => simp only [qb] at h2; exact fun ρ3 σ3 H3 x3 s3' e3' => ⟨ρ3, e3, s3, s3', e3', SRP.mono x3 h2⟩
          | ct e3 s3 => simp only [qb] at h2; exact fun ρ3 σ3 H3 x3 s3' e3' => ⟨ρ3, e3, s3, s3', e3', SRP.mono x3 h2⟩
          | bk e3 s3 => simp only [qb] at h2; exact h2
          | rt v s3 => simp only [qb] at h2; exact h2
          | ex c w e3 s3 => simp only [qb] at h2; exact h2
          | bad => simp only [qb] at h2; exact h2.elim
    · exact h.elim
end
/-! ### statements from trees -/
def kB (S : Stmt → Option DS) : List Stmt → Option DS
  | [] => some sNil
  | a :: r => (S a).bind fun x => (kB S r).bind fun y => some (sCons x y)
def parOk (C : Cf) (x : Str) (px : Pos) (y : Str) (py : Pos) (a b : Expr) : Bool :=
  decide (C.sc.names.lookup x = some .local) && decide (C.sc.names.lookup y = some .local) && (py.line == px.line) && !(x == y) && !isSt a && !isSt b && !(foldedForSure 8 a && foldedForSure 8 b) && !(constantsAlone 8 a && constantsAlone 8 b)
def lcOf : Expr → Option (Expr × Expr × Expr × List Expr × Scope × Pos)
  | .ListComp elt [⟨tg, iter, ifs, 0⟩] scope pos => some (elt, tg, iter, ifs, scope, pos)
  | _ => none
def kLoc (C : Cf) (x : Str) : Option Nat := gd (decide (C.sc.names.lookup x = some .local) || (decide (C.sc.names.lookup x = some .cell) && C.fn x)) (ix? C x)
def swB (C : Cf) (t : Str) (tp vp : Pos) (scope : Scope) : Bool := decide (C.sc.names.lookup t = some .local) && (tp.line == vp.line) && !(scope.names.any fun y => y.1 == t && (y.2 == .local || y.2 == .cell))
def sSt (m : Bool) (i : Nat) (d : D) : DS := if m = true then sSetM i d else sSet i d
def lc2Of : Expr → Option (Expr × Expr × Expr × List Expr × Expr × Expr × List Expr × Scope × Pos)
  | .ListComp elt [⟨tg, iter, ifs, 0⟩, ⟨tg1, iter1, ifs1, 0⟩] scope pos => some (elt, tg, iter, ifs, tg1, iter1, ifs1, scope, pos)
  | _ => none
/-- {}, dict(a) -/
def dicOf : Expr → Option (Option (Expr × Pos × Pos))
  | .Dict [] [] _ => some none
  | .Call (.Name f p) [a] [] cp => if f = "dict" then some (some (a, p, cp)) else none
  | _ => none
noncomputable def kSet (R : Rec) (C : Cf) (x : Str) (px : Pos) (e : Expr) : Option DS := (kLoc C x).bind fun i => match lcOf e with
  | some (elt, tg, iter, ifs, scope, cp) => if swB C x px cp scope = true then (kLc R C (C.mu.contains (starS x)) elt tg iter ifs scope).bind fun d => some (sSt (C.mu.contains x) i d) else (R.E C e).bind fun d => some (sSt (C.mu.contains x) i d)
  | none => match lc2Of e with
    | some (elt, tg, iter, ifs, tg1, iter1, ifs1, scope, cp) => if swB C x px cp scope = true then (kLc2 R C elt tg iter ifs tg1 iter1 ifs1 scope).bind fun d => some (sSt (C.mu.contains x) i d) else (R.E C e).bind fun d => some (sSt (C.mu.contains x) i d)
    | none => match dicOf e with
      | some none => some (sDict0 i)
      | some (some (a, _, _)) => gd (C.calm && isGlB C "dict" && !isSt a) ((kA (R.E C) [a]).bind fun da => some (sDictP i da))
      | none => gd (noComp e) ((R.E C e).bind fun d => some (sSt (C.mu.contains x) i d))
section
variable {g : G} {k : Nat} {W : WX} {C : Cf} {X : Cx} {R : Rec}
theorem kB_ok {S : Stmt → Option DS} (hS : ∀ e d, S e = some d → PS X e (tS g W d)) : ∀ {es : List Stmt} {d : DS}, kB S es = some d → PSs X es (tS g W d)
  | [], d, h => by cases h; exact ds_nil
  | a :: r, d, h => by
    unfold kB at h
    simp only [Option.bind_eq_some_iff, Option.some.injEq] at h
    obtain ⟨x, hx, y, hy, rfl⟩ := h
    exact ds_cons (hS _ _ hx) (kB_ok hS hy)
theorem bk_fun (h : X.env.scope.kind = .function) : X.env.blockKind = .function := by
  unfold Env.blockKind
  rw [h]
  rfl
theorem kLoc_ok (o : CO g k W C X) {x : Str} {i : Nat} (h : kLoc C x = some i) : X.N[i]? = some x ∧ L2.Loc X.env.scope x ∧ (X.fn x = true ∨ X.env.scope.names.lookup x = some .local) := by
  unfold kLoc at h
  obtain ⟨h1, h⟩ := gd_some.mp h
  simp only [Bool.or_eq_true, Bool.and_eq_true, decide_eq_true_eq] at h1
  refine ⟨(o.ix h).1, by unfold L2.Loc; rw [o.sc]; exact h1.imp id fun z => z.1, ?_⟩
  rcases h1 with h1 | h1
  · exact .inr (by rw [o.sc]; exact h1)
  · exact .inl (o.fn x h1.2)
theorem lcOf_eq {e : Expr} {elt tg iter : Expr} {ifs : List Expr} {scope : Scope} {p : Pos} (h : lcOf e = some (elt, tg, iter, ifs, scope, p)) : e = .ListComp elt [⟨tg, iter, ifs, 0⟩] scope p := by
  unfold lcOf at h
  split at h
  · cases h; rfl
  · cases h
theorem swaps_lc {elt : Expr} {gens : List Comprehension} {scope : Scope} {p px : Pos} {x : Str} {n : Nat} (o : CO g k W C X) (so : SO X) : swapsWith (.ListComp elt gens scope p) (some (.Name x px)) n X.env = pure (swB C x px p scope) := by
  have hb := bk_fun so.kd
  unfold swB
  rw [← o.sc]
  show (pure (X.env.blockKind == .function && X.env.kindOf x == some .local && px.line == p.line && !(scope.names.any fun (n, k) => n == x && (k == .local || k == .cell))) : Sem Bool) = _
  rw [hb]
  congr 1
  simp only [beq_self_eq_true, Bool.true_and]
  congr 2
  unfold Env.kindOf
  cases hl : X.env.scope.names.lookup x with
  | none => rfl
  | some kk => cases kk <;> rfl
theorem lc2Of_eq {e elt tg iter tg1 iter1 : Expr} {ifs ifs1 : List Expr} {scope : Scope} {p : Pos} (h : lc2Of e = some (elt, tg, iter, ifs, tg1, iter1, ifs1, scope, p)) : e = .ListComp elt [⟨tg, iter, ifs, 0⟩, ⟨tg1, iter1, ifs1, 0⟩] scope p := by
  unfold lc2Of at h
  split at h
  · cases h; rfl
  · cases h
theorem dicOf_nil {e : Expr} (h : dicOf e = some none) : ∃ p, e = .Dict [] [] p := by
  unfold dicOf at h
  split at h
  · exact ⟨_, rfl⟩
  · split at h <;> cases h
  · cases h
theorem dicOf_eq {e a : Expr} {p cp : Pos} (h : dicOf e = some (some (a, p, cp))) : e = .Call (.Name "dict" p) [a] [] cp := by
  unfold dicOf at h
  split at h
  · cases h
  · split at h
    · rename_i hf
      subst hf
      cases h
      rfl
    · cases h
  · cases h
theorem kSet_ok (hR : ROk g R) (o : CO g k W C X) (so : SO X) {x : Str} {px pos : Pos} {e : Expr} {d : DS} (h : kSet R C x px e = some d) : PS X (.Assign [.Name x px] e pos) (tS g W d) := by
  have hE := hR.hE k W C X o
  have nd : X.N.Nodup := by rw [o.N]; exact o.nd
  unfold kSet at h
  simp only [Option.bind_eq_some_iff] at h
  obtain ⟨i, hi, h⟩ := h
  obtain ⟨l1, l2, l3⟩ := kLoc_ok o hi
  have plain : ∀ {e : Expr} {dd : D}, PE X e (tD g W dd) → swapsWith e (some (.Name x px)) pos.line X.env = pure false → PS X (.Assign [.Name x px] e pos) (tS g W (sSt (C.mu.contains x) i dd)) := fun {e dd} he hs => by
    unfold sSt
    split
    · exact ds_setM nd l1 l2 he hs l3
    · exact ds_set nd l1 l2 he hs l3
  split at h
  · rename_i elt tg iter ifs scope cp hl
    have he := lcOf_eq hl
    subst he
    have hsw := swaps_lc (elt := elt) (gens := [⟨tg, iter, ifs, 0⟩]) (scope := scope) (p := cp) (px := px) (x := x) (n := pos.line) o so
    split at h
    · rename_i hb
      rw [hb] at hsw
      simp only [Option.bind_eq_some_iff, Option.some.injEq] at h
      obtain ⟨dd, hd, rfl⟩ := h
      unfold kLc at hd
      obtain ⟨h1, hd⟩ := gd_some.mp hd
      simp only [Bool.and_eq_true] at h1
      simp only [Option.bind_eq_some_iff] at hd
      obtain ⟨di, hdi, bt, hbt, hd⟩ := hd
      obtain ⟨h2, hd⟩ := gd_some.mp hd
      simp only [Option.bind_eq_some_iff, Option.some.injEq] at hd
      obtain ⟨tst, htst, de, hde, rfl⟩ := hd
      have hb2 : BlkOk X.N X.env.scope scope (ownOf C.N scope) := by
        rw [o.N, o.sc]
        exact own_blk h1.1.2
      have hloc : X.env.scope.names.lookup x = some .local := by
        unfold swB at hb
        simp only [Bool.and_eq_true, decide_eq_true_eq] at hb
        rw [o.sc]
        exact hb.1.1
      have key1 := fun M => ds_setLc (g := g) (W := W) (py := px) (spos := pos) (elt := elt) (pos := cp) (o.calm h1.1.1) nd l1 hloc hsw (kI_ok o hE hdi) hb2 (fun i hi => by
          have := List.all_eq_true.mp h2 i hi
          simpa using this) (fun s H L cl fp => hR.hG k wF _ _ (o.blk h1.1.1 s H L cl fp) tg bt hbt) (fun s H L cl fp => kIf_ok rfl (hR.hT k wF _ _ (o.blk h1.1.1 s H L cl fp)) htst)
        (fun s H L cl fp => hR.hE k wF _ _ (o.blk h1.1.1 s H L cl fp) elt de hde) (fun x => folded_no h1.2 X.env x) M
      have key2 := fun M => ds_setLcM (g := g) (W := W) (py := px) (spos := pos) (elt := elt) (pos := cp) (o.calm h1.1.1) nd l1 hloc hsw (kI_ok o hE hdi) hb2 (fun i hi => by
          have := List.all_eq_true.mp h2 i hi
          simpa using this) (fun s H L cl fp => hR.hG k wF _ _ (o.blk h1.1.1 s H L cl fp) tg bt hbt) (fun s H L cl fp => kIf_ok rfl (hR.hT k wF _ _ (o.blk h1.1.1 s H L cl fp)) htst)
        (fun s H L cl fp => hR.hE k wF _ _ (o.blk h1.1.1 s H L cl fp) elt de hde) (fun x => folded_no h1.2 X.env x) M
      split
      · exact key2 (C.mu.contains x)
      · exact key1 (C.mu.contains x)
    · rename_i hb
      rw [Bool.not_eq_true] at hb
      rw [hb] at hsw
      simp only [Option.bind_eq_some_iff, Option.some.injEq] at h
      obtain ⟨dd, hd, rfl⟩ := h
      exact plain (hE _ _ hd) hsw
  split at h
  · rename_i elt tg iter ifs tg1 iter1 ifs1 scope cp hl
    have he := lc2Of_eq hl
    subst he
    have hsw := swaps_lc (elt := elt) (gens := [⟨tg, iter, ifs, 0⟩, ⟨tg1, iter1, ifs1, 0⟩]) (scope := scope) (p := cp) (px := px) (x := x) (n := pos.line) o so
    split at h
    · rename_i hb
      rw [hb] at hsw
      simp only [Option.bind_eq_some_iff, Option.some.injEq] at h
      obtain ⟨dd, hd, rfl⟩ := h
      have hloc : X.env.scope.names.lookup x = some .local := by
        unfold swB at hb
        simp only [Bool.and_eq_true, decide_eq_true_eq] at hb
        rw [o.sc]
        exact hb.1.1
      exact (kLc2_ok hR o hd).2 l1 hloc hsw (C.mu.contains x)
    · rename_i hb
      rw [Bool.not_eq_true] at hb
      rw [hb] at hsw
      simp only [Option.bind_eq_some_iff, Option.some.injEq] at h
      obtain ⟨dd, hd, rfl⟩ := h
      exact plain (hE _ _ hd) hsw
  split at h
  · rename_i hd
    cases h
    obtain ⟨cp, rfl⟩ := dicOf_nil hd
    exact ds_dict0 nd l1 l2 rfl l3
  · rename_i a p cp hd
    have he := dicOf_eq hd
    subst he
    obtain ⟨h1, h⟩ := gd_some.mp h
    simp only [Bool.and_eq_true, Bool.not_eq_true'] at h1
    simp only [Option.bind_eq_some_iff, Option.some.injEq] at h
    obtain ⟨da, hda, rfl⟩ := h
    exact ds_dictP nd l1 l2 o.po.hK (o.calm h1.1.1) (o.gl h1.1.2) (o.mb (by decide)) (kA_ok hE hda).1 (star_cons h1.2 [] X.env) rfl l3
  · obtain ⟨h1, h⟩ := gd_some.mp h
    simp only [Option.bind_eq_some_iff, Option.some.injEq] at h
    obtain ⟨dd, hd, rfl⟩ := h
    exact plain (hE _ _ hd) (swaps_no h1 _ _ _)
theorem par_ok (o : CO g k W C X) (so : SO X) {x y : Str} {px py pt pt2 : Pos} {kt k2 : Nat} {a b : Expr} (h : parOk C x px y py a b = true) : swappedStores [.Tuple [.Name x px, .Name y py] kt pt] (.Tuple [a, b] k2 pt2) X.env = pure (some [x, y]) := by
  have hb := bk_fun so.kd
  unfold parOk at h
  simp only [Bool.and_eq_true, decide_eq_true_eq, Bool.not_eq_true', ← o.sc] at h
  obtain ⟨⟨⟨⟨⟨⟨⟨h1, h2⟩, h3⟩, h4⟩, h5⟩, h6⟩, h7⟩, h8⟩ := h
  have s1 : ∀ {e : Expr}, isSt e = false → (match e with | .Starred .. => true | _ => false) = false := fun {e} h => by cases e <;> first | (cases h; done) | rfl
  unfold swappedStores
  simp only [hb, List.length_cons, List.length_nil, List.any_cons, List.any_nil, s1 h5, s1 h6, List.head?_cons, Option.map_some, Option.getD_some, Env.kindOf, h1, h2, List.filterMap_cons, List.filterMap_nil, Expr.pos, beq_self_eq_true, Bool.true_and, if_true, List.all_cons, List.all_nil, Bool.and_true, h3, h7, h8]
  have hne : (y == x) = false := by
    cases q : (y == x) with
    | false => rfl
    | true => rw [eq_of_beq q] at h4; simp at h4
  simp [List.eraseDups_cons, hne]
  refine fun h => h.elim (fun z => ?_) fun z => ?_
  · cases a <;> first | (cases h5; done) | (cases z; done)
  · cases b <;> first | (cases h6; done) | (cases z; done)
end
end Bb
namespace Bb
open PySem L2 PyProof.Rows
/-! ### raise x(e) -/
def sRaise (c : Str) (a : D) : DS := fun env st => (a env st).toS env fun v st1 => .ex c (frz v) env st1
section
variable {g : G} {k : Nat} {W : WX} {C : Cf} {X : Cx} {R : Rec}
theorem ds_raise (o : CO g k W C X) (hc : C.calm = true) {x : Str} {e : Expr} {d : D} {p p2 pos : Pos} (hx : x ∈ C.xs) (hg : Gl X x) (hd : PE X e (tD g W d)) (hst : isSt e = false) (hdb : (x == ("__debug__" : Str)) = false) : PS X (.Raise (some (.Call (.Name x p) [e] [] p2)) none pos) (tS g W (sRaise x d)) := by
  obtain ⟨D, fI, fd, e1, XC, F1, hb⟩ := o.po.exc x hx
  have mk := pmk_oex (pos := p2) (p := p) (dvs := []) (ds := []) XC.o XC.init XC.ty F1 ((o.room hc).mono (by omega)) hb .nil (fun _ _ _ _ _ _ _ z => z.elim) hg e1 (da_cons hd da_nil (star_cons hst [] X.env)) hdb (star_cons hst [] X.env) (by rfl)
  refine PS.imp (ps_raise (o.calm hc) o.tk mk) fun F σ H ⟨ρ, env, st, s, er, h⟩ => ?_
  refine ⟨ρ, env, st, s, er, ?_⟩
  unfold sRaise at h
  unfold dCons dNil
  cases q : d env st with
  | bad => rw [q] at h; exact h.elim
  | ex c w st1 => rw [q] at h; exact fun ρ' H' d x => h ρ' σ H' d x (er.mono x.ext)
  | ok v st1 =>
    rw [q] at h
    intro ρ1 H1 us x1 s1 r1
    obtain ⟨u, rfl, ru⟩ := vrs1 r1
    refine ⟨by simp, fun a na => ⟨a, g.cls x, u, rfl, XC, upd_same, fun dd nd hne => ⟨rfl, dd, [("what", u)], upd_same, ?_, ?_, ?_⟩⟩⟩
    · rw [upd_ne hne, upd_same]
    · rw [upd_ne hne] at nd; exact nd
    · have nd1 : H1 dd = none := by rw [upd_ne hne] at nd; exact nd
      have eH : upd (del (upd (upd (upd H1 a (exo a (g.cls x) none)) dd (exd dd [("what", u)])) a (exo a (g.cls x) (some dd))) a) dd (.xd [("what", u)]) = upd H1 dd (.xd [("what", u)]) := by
        funext b
        by_cases hb : b = dd
        · subst hb; rw [upd_same, upd_same]
        · rw [upd_ne hb, upd_ne hb]
          by_cases hb2 : b = a
          · subst hb2; rw [del_same, na]
          · rw [del_ne hb2, upd_ne hb2, upd_ne hb, upd_ne hb2]
      rw [eH]
      have xl := Ext.laid (o := .xd [("what", u)]) s1 nd1
      exact h ρ1 σ _ dd ⟨x1.trans xl, s1.laid nd1, u, upd_same, ru.mono xl, frz_nt v⟩ (er.mono (x1.trans xl))
end
end Bb
namespace Bb
open PySem L2 PyProof.Rows
/-! ### try with several clauses, some of which name the exception -/
abbrev CT := Addr → Value → Option Addr → TS
def offE (i : Option Nat) (D : Ends) : Ends := match i with
  | none => D
  | some i => { nx := fun τ H' => D.nx (τ.set i none) H', rt := D.rt, bk := fun τ H' => D.bk (τ.set i none) H', ct := fun τ H' => D.ct (τ.set i none) H' }
def onS (i : Option Nat) (σ : L2.St) (a : Addr) : L2.St := match i with
  | none => σ
  | some i => σ.set i (some (.ref a))
/-- what the clauses wish -/
def wCl (K : PySem.W.Frag) (Wo : WX) (D : Ends) : List (Value × Option Nat × CT) → WX
  | [] => Wo
  | (c, i, ts) :: r => fun cls d σ H => ∃ b, PySem.W.exmOne K cls c = some b ∧ (b = true → ∀ a, H a = none → ts a cls d (offE i D) (onS i σ a) H) ∧ (b = false → wCl K Wo D r cls d σ H)
def NmOk (X : Cx) (i : Option Nat) (n : Option Str) : Prop := match i, n with
  | none, none => True
  | some i, some n => X.N[i]? = some n ∧ X.env.kindOf n = some .local
  | _, _ => False
inductive ClOk (X : Cx) : List ExceptHandler → List (Value × Option Nat × CT) → Prop
  | nil : ClOk X [] []
  | cons {x : Str} {c : Value} {i : Option Nat} {n : Option Str} {ts : CT} {s₁ : Stmt} {suite : List Stmt} {p1 p2 : Pos} {hds : List ExceptHandler} {l : List (Value × Option Nat × CT)} (hc : Names X x c) (hn : NmOk X i n)
      (hsu : ∀ (a : Addr) (oe : Obj) (cls : Value) (d : Option Addr) (pn : List (Addr × Obj)), Zc cls d oe → (∃ vs, oe.data = .fields vs) → PSs (X.suite a ((a, oe) :: pn)) (s₁ :: suite) (ts a cls d)) (r : ClOk X hds l) :
      ClOk X (.ExceptHandler (some (.Name x p1)) n (s₁ :: suite) p2 :: hds) ((c, i, ts) :: l)
section
variable {X : Cx} {Wo : WX}
/-- an exception that has landed meets the clauses -/
theorem clauses_meet (hs : X.stack = X.env :: X.outer) (hf : X.env.frame = some X.env.locals) (hN : X.N.Nodup) (tk : Takes X Wo) {pins : List (Addr × Obj)} {σ : L2.St} {H : Hp} {sI s0 : Shared} {B : Heap} {a : Addr} {cls : Value} {d : Option Addr} {D : Ends} (ok : X.Ok)
    (J : Inv X pins σ H sI) (nb : ∀ y o, sI.heap.get? y = some o → y ∉ frs X.stack → B.get? y = some o) (up : sI.heap.UpToSlots s0.heap) (na : H a = none) (os : s0.os = sI.os) (ag : AllBare s0.gens) (fl : HandSPX.FlyingZ B (X.env :: X.outer) a (Zc cls d) s0.heap) :
    ∀ {hds : List ExceptHandler} {l : List (Value × Option Nat × CT)}, ClOk X hds l → wCl X.K Wo D l cls d σ H → wpAny (model X.prog X.w) X.A (handleBy (.ref a) X.env hds) (SP X pins D) X.xe s0 := by
  have J0 : Inv X pins σ H { s0 with heap := s0.heap } := J.landed nb fl.1 up os ag
  have away : ∀ {h : Heap}, HandSPX.FlyingZ B (X.env :: X.outer) a (Zc cls d) h → a ≠ X.env.locals ∧ a ∉ X.fs := fun {h} fh => by
    obtain ⟨oq, vq, eq1, _, eq2⟩ := fh.there
    have nfr : a ∉ frs (X.env :: X.outer) := fun hm => by
      obtain ⟨_, oz, ez, nz⟩ := fh.2.2.1.mem hm
      rw [eq1] at ez
      cases ez
      exact nz _ eq2
    refine ⟨fun z => nfr (List.mem_filterMap.mpr ⟨X.env, List.mem_cons_self, by rw [hf, z]⟩), fun hm => ?_⟩
    obtain ⟨e, he, q⟩ := List.mem_filterMap.mp hm
    exact nfr (List.mem_filterMap.mpr ⟨e, List.mem_cons_of_mem _ he, q⟩)
  obtain ⟨nL, nF⟩ := away fl
  obtain ⟨oe0, vs0, he0, hz0, hd0⟩ := fl.there
  have S0 := J0.suite he0 hd0 na nL nF
  intro hds l hk
  induction hk with
  | nil =>
    intro w
    refine wpAny_handleBy_nil ?_
    obtain ⟨_, _, _, ox, vx, Tx, _, _, hx1, _, hx2, hx3, _⟩ := id fl
    unfold PySem.passOn
    refine wpAny_bind (wpAny_field hx1 hx2 hx3 ?_)
    rw [if_neg (show ¬ (Value.ref Tx == Value.none) = true from by simp)]
    have out : wpAny (model X.prog X.w) X.A (setFlight (.ref a) X.env.frame) (fun _ z4 => wpAny (model X.prog X.w) X.A (throw (.ref a) : Sem Flow) (SP X pins D) X.xe z4) X.xe s0 := by
      rw [hf]
      refine HandSPX.setFlight_upZ (s := s0) fl fun h4 hh4 up4 => wpAny_throw (tk _ _ ?_)
      exact ⟨a, B, sI, pins, σ, H, cls, d, rfl, J, nb, up.trans up4, .inr (.inr (by rw [hs]; exact hh4)), na, os, ag, w⟩
    first
      | exact wpAny_bind (wpAny_pure (wpAny_bind out))
      | exact wpAny_bind out
  | @cons x c i n ts s₁ suite p1 p2 hds2 l2 hc hn hsu r ih =>
    intro w
    obtain ⟨b, hb1, hyes, hno⟩ := w
    refine wpAny_handleBy_cons (codeAny_handlers_test ?_) (by intro q; cases q)
    have lt : PySem.W.Looks (model X.prog X.w) s0.heap (typeOf (.ref a)) cls := fun A' Q' E' z k' q' => wpAny_typeOf_ref (k' _ _ he0) (by rw [hz0.1]; exact q')
    have lm := PySem.W.exm_one (M := model X.prog X.w) J0.kIn lt hb1
    have tst : ∀ {Q' : Value → Shared → Prop} {E' : Value → Shared → Prop}, Q' c s0 → wpAny (model X.prog X.w) (X.A.mark (some (.ref a))) (eval (.Name x p1) X.env) Q' E' s0 := fun {Q' E'} q' => by
      obtain ⟨u1, u2, u3 | ⟨u3, u4, u5⟩⟩ := hc
      · exact ld_glob (X := X.suite a ((a, oe0) :: (X.pn ++ pins))) S0 u1 u3 q' u2
      · exact ld_blt (X := X.suite a ((a, oe0) :: (X.pn ++ pins))) S0 u1 u3 u4 q' u5 u2
    refine tst (lm.here ?_)
    cases b with
    | false =>
      show wpAny _ X.A (handleBy (.ref a) X.env hds2) _ _ s0
      exact ih (hno rfl)
    | true =>
      have land : ∀ {Q : Shared → Prop}, (∀ h4 oe4, Inv X pins σ H { s0 with heap := h4 } → Inv (X.suite a ((a, oe4) :: (X.pn ++ pins))) [] σ H { s0 with heap := h4 } → Zc cls d oe4 → (∃ vs, oe4.data = .fields vs) → Q { s0 with heap := h4 }) → ∀ h4, HandSPX.FlyingZ B (X.env :: X.outer) a (Zc cls d) h4 → s0.heap.UpToSlots h4 → Q { s0 with heap := h4 } :=
        fun {Q} hq h4 fl4 up4 => by
          have J4 : Inv X pins σ H { s0 with heap := h4 } := J.landed nb fl4.1 (up.trans up4) os ag
          obtain ⟨oe4, vs4, y1, y2, y3⟩ := fl4.there
          exact hq h4 oe4 J4 (J4.suite y1 y3 na nL nF) y2 ⟨_, y3⟩
      cases i with
      | none =>
        cases n with
        | some n => exact hn.elim
        | none =>
          refine codeAny_handlers_suite ?_
          refine HandSPX.lands_againZ (s := s0) fl (land fun h4 oe4 J4 S4 z4 f4 => ?_)
          refine wpAny_mono ((hsu a oe4 cls d (X.pn ++ pins) z4 f4).run [] _ _ H _ S4 (hyes rfl a na)) (fun f z6 hsp => ?_) (fun _ _ z => z.elim)
          cases f with
          | ret u => obtain ⟨v6, σ6, H6, T6, r6, q6⟩ := hsp; exact ⟨v6, σ6, H6, T6.unsuite ok, r6, q6⟩
          | next => obtain ⟨σ6, H6, T6, q6⟩ := hsp; exact ⟨σ6, H6, T6.unsuite ok, q6⟩
          | brk => obtain ⟨σ6, H6, T6, q6⟩ := hsp; exact ⟨σ6, H6, T6.unsuite ok, q6⟩
          | cont => obtain ⟨σ6, H6, T6, q6⟩ := hsp; exact ⟨σ6, H6, T6.unsuite ok, q6⟩
      | some i =>
        cases n with
        | none => exact hn.elim
        | some n =>
          obtain ⟨hi, hln⟩ := hn
          refine codeAny_handlers_suite_as ?_
          refine HandSPX.lands_againZ (s := s0) fl (land fun h4 oe4 J4 S4 z4 f4 => ?_)
          refine store_ok (X := X.suite a ((a, oe4) :: (X.pn ++ pins))) (v := .ref a) S4 hN hi (.inl hln) rfl (fun z5 S5 => ?_) (.inr hln)
          refine wpAny_mono ((hsu a oe4 cls d (X.pn ++ pins) z4 f4).run [] z5 _ H _ S5 (hyes rfl a na)) (fun f z6 hsp => ?_) (fun _ _ z => z.elim)
          have fin : ∀ {σ6 : L2.St} {H6 : Hp} {Q : Shared → Prop}, Inv (X.suite a ((a, oe4) :: (X.pn ++ pins))) [] σ6 H6 z6 → (∀ z7, Inv X pins (σ6.set i none) H6 z7 → Q z7) →
              wpAny (model X.prog X.w) X.A (do bindName X.env n .none; unbindBehindTheSuite X.env n p2) (fun _ z7 => Q z7) X.xe z6 := fun {σ6 H6 Q} T6 hq => gone_ok (T6.unsuite ok) hN hi hln hq
          cases f with
          | ret u => obtain ⟨v6, σ6, H6, T6, r6, q6⟩ := hsp; exact fin T6 fun z7 J7 => ⟨v6, _, H6, J7, r6, q6⟩
          | next => obtain ⟨σ6, H6, T6, q6⟩ := hsp; exact fin T6 fun z7 J7 => ⟨_, H6, J7, q6⟩
          | brk => obtain ⟨σ6, H6, T6, q6⟩ := hsp; exact fin T6 fun z7 J7 => ⟨_, H6, J7, q6⟩
          | cont => obtain ⟨σ6, H6, T6, q6⟩ := hsp; exact fin T6 fun z7 J7 => ⟨_, H6, J7, q6⟩
theorem ps_tryC {body : List Stmt} {h₀ : ExceptHandler} {hds : List ExceptHandler} {l : List (Value × Option Nat × CT)} {pos : Pos} {tb : WX → TS} (hs : X.stack = X.env :: X.outer) (hf : X.env.frame = some X.env.locals) (hN : X.N.Nodup) (tk : Takes X Wo)
    (hb : ∀ (W : WX) (pn : List (Addr × Obj)) (xe : Value → Shared → Prop), Takes (X.tr pn xe) W → PassesOwn (model X.prog X.w) X.A X.env xe → PSs (X.tr pn xe) body (tb W)) (hh : ClOk X (h₀ :: hds) l) :
    PS X (.Try body (h₀ :: hds) [] [] pos) (fun D σ H => tb (wCl X.K Wo D l) D σ H) := by
  refine ⟨fun pins s σ H D I h => ?_⟩
  have ok := I.ok
  have hfr : X.A.frames = some (X.env :: X.outer) := by rw [ok.frames, hs]
  refine wpAny_Try_except ?_
  have bd := hb (wCl X.K Wo D l) (X.pn ++ pins) (fun e z1 => wpAny (model X.prog X.w) X.A (noteFrame e X.env) (fun _ z2 => wpAny (model X.prog X.w) X.A (setFlight e none) (fun _ z3 => wpAny (model X.prog X.w) X.A (handleBy e X.env (h₀ :: hds)) (SP X pins D) X.xe z3) X.xe z2) X.xe z1) (fun u z xx => by
      obtain ⟨a, B, sI, pins', σ', H', cls, d, rfl, J', nb, up, sky, na, os, ag, w⟩ := xx
      have sky' : Sky B (X.env :: X.outer) a (Zc cls d) X.env.locals z.heap := by rw [← hs]; exact sky
      show wpAny (model X.prog X.w) X.A (noteFrame (.ref a) X.env) _ _ _
      exact Sky.land Zc.steady hfr hf sky' fun h3 fl3 up3 => clauses_meet (s0 := { z with heap := h3 }) hs hf hN tk ok (J'.ofTry ok) nb (up.trans up3) na os ag fl3 hh w) PassesOwn.looking
  refine wpAny_mono (bd.run [] s σ H D (I.toTry _) h) (fun f z1 hsp => ?_) (fun e z1 he => he)
  cases f with
  | next => obtain ⟨σ', H', J', q⟩ := hsp; exact wpAny_execs_nil ⟨σ', H', J'.ofTry ok, q⟩
  | brk => obtain ⟨σ', H', J', q⟩ := hsp; exact ⟨σ', H', J'.ofTry ok, q⟩
  | cont => obtain ⟨σ', H', J', q⟩ := hsp; exact ⟨σ', H', J'.ofTry ok, q⟩
  | ret u => obtain ⟨v, σ', H', J', r, q⟩ := hsp; exact ⟨v, σ', H', J'.ofTry ok, r, q⟩
end
end Bb
namespace Bb
open PySem L2 PyProof.Rows
/-! ### what a try means -/
abbrev HC := Str × Option Nat × (Str → PV → DS)
def clr (i : Option Nat) (env : En) : En := match i with
  | none => env
  | some i => env.set i none
def offR (i : Option Nat) : RS → RS
  | .nx env st => .nx (clr i env) st
  | .bk env st => .bk (clr i env) st
  | .ct env st => .ct (clr i env) st
  | .rt v st => .rt v st
  | _ => .bad
def clR (sb : Str → Str → Option Bool) (c : Str) (w : PV) (env : En) (st : Sto) : List HC → RS
  | [] => .ex c w env st
  | (x, i, h) :: r => match sb c x with
    | none => .bad
    | some true => offR i (h c w (clr i env) st)
    | some false => clR sb c w env st r
def sTry (sb : Str → Str → Option Bool) (b : DS) (hs : List HC) : DS := fun env st => match b env st with
  | .ex c w env1 st1 => clR sb c w env1 st1 hs
  | r => r
/-- a suite's reading -/
def tsC (g : G) (xs : List Str) (i : Option Nat) (h : Str → PV → DS) : CT := fun a cls d D σ H => ∃ c w dd ρ env st v, d = some dd ∧ cls = .ref (g.cls c) ∧ c ∈ xs ∧ SR g.K g.T ρ H st ∧ ER g.K ρ H env σ ∧ H dd = some (.xd [("what", v)]) ∧ VR g.K ρ H w v ∧ (∀ ys, w ≠ .tl ys) ∧ (∀ j, i = some j → j < σ.length → σ[j]? = some (some (.ref a))) ∧
  SRP g wF D ρ H (h c w env st)
def clV (g : G) (xs : List Str) (l : List HC) : List (Value × Option Nat × CT) := l.map fun y => (.ref (g.cls y.1), y.2.1, tsC g xs y.2.1 y.2.2)
section
variable {g : G} {k : Nat} {W : WX} {C : Cf} {X : Cx} {R : Rec}
theorem ER.clr {K : PySem.W.Frag} {ρ : Lo} {H : Hp} {env : En} {σ : L2.St} (e : ER K ρ H env σ) (i : Nat) : ER K ρ H (env.set i none) (σ.set i none) := by
  refine ⟨by simp [e.1], fun j p h => ?_⟩
  rw [List.getElem?_set] at h
  by_cases hij : i = j
  · rw [if_pos hij] at h
    split at h <;> cases h
  · rw [if_neg hij] at h
    rw [List.getElem?_set_ne hij]
    exact e.2 j p h
theorem ER.clrOn {K : PySem.W.Frag} {ρ : Lo} {H : Hp} {env : En} {σ : L2.St} (e : ER K ρ H env σ) (i : Option Nat) (a : Addr) : ER K ρ H (Bb.clr i env) (onS i σ a) := by
  cases i with
  | none => exact e
  | some i =>
    refine ⟨by simp [Bb.clr, onS, e.1], fun j p h => ?_⟩
    have h : (env.set i none)[j]? = some (some p) := h
    show ∃ v, (σ.set i _)[j]? = _ ∧ _
    rw [List.getElem?_set] at h
    by_cases hij : i = j
    · rw [if_pos hij] at h
      split at h <;> cases h
    · rw [if_neg hij] at h
      rw [List.getElem?_set_ne hij]
      exact e.2 j p h
theorem srp_off {i : Option Nat} {D : Ends} {ρ : Lo} {H : Hp} {r : RS} (h : SRP g W D ρ H (offR i r)) : SRP g wF (offE i D) ρ H r := by
  cases r with
  | nx env st => cases i with
    | none => exact h
    | some i => exact fun ρ' σ' H' x s e => h ρ' _ H' x s (e.clr i)
  | bk env st => cases i with
    | none => exact h
    | some i => exact fun ρ' σ' H' x s e => h ρ' _ H' x s (e.clr i)
  | ct env st => cases i with
    | none => exact h
    | some i => exact fun ρ' σ' H' x s e => h ρ' _ H' x s (e.clr i)
  | rt v st => cases i <;> exact h
  | ex c w env st => exact h.elim
  | bad => exact h.elim
theorem cl_of (o : CO g k W C X) {D : Ends} {ρ : Lo} {H : Hp} {σ : L2.St} {env : En} {st : Sto} {c : Str} {w : PV} {dd : Addr} {v : V} (s : SR g.K g.T ρ H st) (e : ER g.K ρ H env σ) (hv : H dd = some (.xd [("what", v)])) (rv : VR g.K ρ H w v) (nt : ∀ ys, w ≠ .tl ys) :
    ∀ {l : List HC}, SRP g W D ρ H (clR C.sb c w env st l) → wCl X.K W D (clV g C.xs l) (.ref (g.cls c)) (some dd) σ H
  | [], h => h ρ σ H dd ⟨.refl _ _, s, v, hv, rv, nt⟩ e
  | (x, i, hd) :: r, h => by
    unfold clR at h
    cases q : C.sb c x with
    | none => rw [q] at h; exact h.elim
    | some b =>
      obtain ⟨hx, hm⟩ := o.po.sub c x b q
      refine ⟨b, hm, fun hb a na => ?_, fun hb => ?_⟩
      · subst hb
        rw [q] at h
        exact ⟨c, w, dd, ρ, clr i env, st, v, rfl, rfl, hx, s, e.clrOn i a, hv, rv, nt, fun j hj hl => (by
          have hj : i = some j := hj
          subst hj
          show (σ.set j (some (.ref a)))[j]? = _
          have hl : j < (σ.set j (some (.ref a))).length := hl
          rw [List.length_set] at hl
          exact List.getElem?_set_self hl), srp_off h⟩
      · subst hb
        rw [q] at h
        exact cl_of o s e hv rv nt h
theorem PSs.of {b : List Stmt} {t : TS} (h : ∀ D σ H, σ.length = X.N.length → t D σ H → ∃ t', PSs X b t' ∧ t' D σ H) : PSs X b t := ⟨fun pins s σ H D I ht => by
  obtain ⟨t', h1, h2⟩ := h D σ H I.len ht
  exact h1.run pins s σ H D I h2⟩
theorem ds_try {body : List Stmt} {h₀ : ExceptHandler} {hds : List ExceptHandler} {l : List HC} {db : DS} {pos : Pos} (o : CO g k W C X) (so : SO X)
    (hb : ∀ (W' : WX) (pn : List (Addr × Obj)) (xe : Value → Shared → Prop), Takes (X.tr pn xe) W' → PassesOwn (model X.prog X.w) X.A X.env xe → PSs (X.tr pn xe) body (tS g W' db)) (hh : ClOk X (h₀ :: hds) (clV g C.xs l)) :
    PS X (.Try body (h₀ :: hds) [] [] pos) (tS g W (sTry C.sb db l)) :=
  PS.imp (ps_tryC so.st so.fr (by rw [o.N]; exact o.nd) o.tk hb hh) fun D σ H ⟨ρ, env, st, s, e, h⟩ => by
    refine ⟨ρ, env, st, s, e, ?_⟩
    unfold sTry at h
    cases q : db env st with
    | nx _ _ => rw [q] at h; exact h
    | bk _ _ => rw [q] at h; exact h
    | ct _ _ => rw [q] at h; exact h
    | rt _ _ => rw [q] at h; exact h
    | bad => rw [q] at h; exact h
    | ex c w env1 st1 =>
      rw [q] at h
      intro ρ' σ' H' dd x e'
      obtain ⟨v, hv, rv, nt⟩ := x.dat
      exact cl_of o x.sr e' hv rv nt (SRP.mono x.ext h)
theorem CO.tr (o : CO g k W C X) {W' : WX} {pn : List (Addr × Obj)} {xe : Value → Shared → Prop} (tk : Takes (X.tr pn xe) W') (hp : PassesOwn (model X.prog X.w) X.A X.env xe) : CO g k W' C (X.tr pn xe) where
  po := o.po
  N := o.N
  nd := o.nd
  sc := o.sc
  calm := o.calm
  tk := tk
  un := o.un
  gu := o.gu
  room := o.room
  hp := hp
  fn := o.fn
  act := o.act
  hear := o.hear
  lamT := o.lamT
def Cf.hot (C : Cf) : Cf := { C with calm := false, act := none, Hr := fun _ => none, lamb := false }
theorem CO.suite (o : CO g k W C X) (a : Addr) (pn : List (Addr × Obj)) : CO g k wF C.hot (X.suite a pn) where
  po := o.po
  N := o.N
  nd := o.nd
  sc := o.sc
  calm := fun z => (nomatch (show false = true from z))
  tk := fun u s' ⟨_, _, _, _, _, _, _, _, _, _, _, _, _, _, _, _, w⟩ => w.elim
  un := o.un
  gu := o.gu
  room := fun z => (nomatch (show false = true from z))
  hp := PassesOwn.never
  fn := o.fn
  act := fun a i lv act h => by cases h
  hear := fun x hd h => by cases h
  lamT := fun h => by cases h
theorem SO.tr (so : SO X) {pn : List (Addr × Obj)} {xe : Value → Shared → Prop} : SO (X.tr pn xe) := ⟨so.st, so.fr, so.kd⟩
theorem SO.suite (so : SO X) {a : Addr} {pn : List (Addr × Obj)} : SO (X.suite a pn) := ⟨so.st, so.fr, so.kd⟩
end
/-! ### clauses from trees -/
/-- return ('..', error.what) -/
def xwOf (n : Str) : List Stmt → Option Str
  | [.Return (some (.Tuple [.Constant (.str s) _ _, .Attribute (.Name m _) "what" _] _ _)) _] => gd (m == n) (some s)
  | _ => none
def hXW (s : Str) : Str → PV → DS := fun _ w _ st => .rt (.tup [.str s, w]) st
/-- v = 's' if isinstance(error, X) else ..; return (v, error.what) -/
def chI (n : Str) : Expr → Option (List (Str × Str) × Str)
  | .Constant (.str z) _ _ => some ([], z)
  | .IfExp (.Call (.Name "isinstance" _) [.Name m _, .Name x _] [] _) (.Constant (.str s) _ _) r _ => gd (m == n) ((chI n r).bind fun y => some ((x, s) :: y.1, y.2))
  | _ => none
def xiOf (n : Str) : List Stmt → Option (Str × List (Str × Str) × Str)
  | [.Assign [.Name v _] e _, .Return (some (.Tuple [.Name v2 _, .Attribute (.Name m _) "what" _] _ _)) _] => gd (m == n && v2 == v && v != n) ((chI n e).bind fun y => some (v, y.1, y.2))
  | _ => none
def xiOk (C : Cf) (v : Str) (ts : List (Str × Str)) : Bool := decide (C.sc.names.lookup v = some .local) && !odd v && (ix? C v).isSome && isGlB C "isinstance" && ts.all fun y => decide (y.1 ∈ C.xs) && isGlB C y.1 && !odd y.1
def pickI (sb : Str → Str → Option Bool) (c : Str) : List (Str × Str) → Str → Option Str
  | [], z => some z
  | (x, s) :: r, z => match sb c x with
    | some true => some s
    | some false => pickI sb c r z
    | none => none
def hXI (sb : Str → Str → Option Bool) (ts : List (Str × Str)) (z : Str) : Str → PV → DS := fun c w _ st => match pickI sb c ts z with
  | some s => .rt (.tup [.str s, w]) st
  | none => .bad
def kHd (R : Rec) (C : Cf) : ExceptHandler → Option HC
  | .ExceptHandler (some (.Name x _)) none (s :: suite) _ => gd (decide (x ∈ C.xs) && isGlB C x && !odd x) ((kB (R.S C.hot) (s :: suite)).bind fun d => some (x, none, fun _ _ => d))
  | .ExceptHandler (some (.Name x _)) (some n) (s :: suite) _ => gd (decide (x ∈ C.xs) && isGlB C x && !odd x && !odd n && decide (C.sc.names.lookup n = some .local)) ((ix? C n).bind fun i => match xwOf n (s :: suite) with
    | some z => some (x, some i, hXW z)
    | none => match xiOf n (s :: suite) with
      | some (v, ts, z) => gd (xiOk C v ts) (some (x, some i, hXI C.sb ts z))
      | none => (kB (R.S C.hot) (s :: suite)).bind fun d => some (x, some i, fun _ _ => d))
  | _ => none
def kHds (R : Rec) (C : Cf) : List ExceptHandler → Option (List HC)
  | [] => some []
  | h :: r => (kHd R C h).bind fun x => (kHds R C r).bind fun y => some (x :: y)
section
variable {g : G} {k : Nat} {W : WX} {C : Cf} {X : Cx} {R : Rec}
theorem suite_plain (hR : ROk g R) (o : CO g k W C X) (so : SO X) {i : Option Nat} {b : List Stmt} {d : DS} (h : kB (R.S C.hot) b = some d) (a : Addr) (oe : Obj) (cls : Value) (dd : Option Addr) (pn : List (Addr × Obj)) :
    PSs (X.suite a ((a, oe) :: pn)) b (tsC g C.xs i (fun _ _ => d) a cls dd) :=
  PSs.imp (kB_ok (hR.hS k wF _ _ (o.suite a ((a, oe) :: pn)) so.suite) h) fun D σ H ⟨c, w, dd, ρ, env, st, v, _, _, _, s, e, _, _, _, _, h⟩ => ⟨ρ, env, st, s, e, h⟩
theorem xwOf_eq {n z : Str} {b : List Stmt} (h : xwOf n b = some z) : ∃ j p1 p2 p3 kk p4 p5, b = [.Return (some (.Tuple [.Constant (.str z) j p1, .Attribute (.Name n p2) "what" p3] kk p4)) p5] := by
  unfold xwOf at h
  split at h
  · obtain ⟨h1, h⟩ := gd_some.mp h
    cases h
    rw [eq_of_beq h1]
    exact ⟨_, _, _, _, _, _, _, rfl⟩
  · cases h
/-! isinstance of the exception that the suite holds -/
def rIsF (K : PySem.W.Frag) (D a dd : Addr) : List V → Hp → VK → Prop := fun xs H Q => ∃ (c : V) (cv : Value) (b : Bool) (fs : List (Str × V)), xs = [.ref a, c] ∧ (∀ u, RelV c u → u = cv) ∧ PySem.W.kitOne K (.ref D) cv = some b ∧ H dd = some (.xd fs) ∧ Q (.bl b) H
theorem call_isF {X : Cx} {a D dd : Addr} {oe : Obj} {pn : List (Addr × Obj)} (T : XfC X.K D) (C : EiC X.K D) (hz : Zc (.ref D) (some dd) oe) (hf : ∃ vs, oe.data = .fields vs) : CallR (X.suite a ((a, oe) :: pn)) (.builtin "isinstance") (rIsF X.K D a dd) := by
  intro pins s σ H xs us Q I r h
  obtain ⟨c, cv, b, fs, rfl, hcv, e, hd, q⟩ := h
  cases r with
  | cons rx rr =>
    cases rr with
    | cons rt rr =>
      cases rr
      cases rx
      have ec := hcv _ rt
      subst ec
      obtain ⟨hget, _⟩ := I.pin (a, oe) (List.mem_append.mpr (.inl List.mem_cons_self))
      obtain ⟨vs, hv⟩ := hf
      have hx : ObjOk X.prog X.w H s.heap dd (.xd fs) := I.hok dd _ hd
      obtain ⟨mA, hns, hr⟩ := hx
      obtain ⟨od, ho, hl⟩ := lookIn_ns hns
      have J : PySem.W.InstAt s.heap a oe D (some od) := ⟨hget, hz.1, by unfold PySem.W.notCls; rw [hv] <;> rfl, by rw [hz.2]; exact ho⟩
      have hcl : (PySem.W.clsIn X.K D).isSome = true := by
        obtain ⟨cd, hc, _⟩ := PySem.W.any_some T.hdC
        rw [hc]
        rfl
      exact PySem.W.kia_one (PySem.W.kitx_exc (od := some od) hcl T.ga T.gg T.exC C.ha C.hn C.ht C.hm) I.kIn J e (fun z => nomatch z) fun tk => ⟨.bl b, H, I.kept (t' := tk) fun _ _ z => z, rfl, q⟩
def tCh (g : G) (D a dd : Addr) (i : Nat) : List (Str × Str) → Str → TE
  | [], z => tC (.str z)
  | (x, s) :: r, z => tIf (tB (tCB (rIsF g.K D a dd) (tCons (tVar i) (tCons (tC (.ref (g.cls x))) tNil)))) (tC (.str s)) (tCh g D a dd i r z)
theorem xiOf_eq {n v z : Str} {ts : List (Str × Str)} {b : List Stmt} (h : xiOf n b = some (v, ts, z)) : ∃ e p1 p2 p3 p4 p5 kk p6 p7, b = [.Assign [.Name v p1] e p2, .Return (some (.Tuple [.Name v p3, .Attribute (.Name n p4) "what" p5] kk p6)) p7] ∧ chI n e = some (ts, z) ∧ (v == n) = false := by
  unfold xiOf at h
  split at h
  · obtain ⟨h1, h⟩ := gd_some.mp h
    simp only [Option.bind_eq_some_iff, Option.some.injEq, Prod.mk.injEq] at h
    obtain ⟨y, hy, rfl, rfl, rfl⟩ := h
    simp only [Bool.and_eq_true, bne, Bool.not_eq_true'] at h1
    obtain ⟨⟨h1, h2⟩, h3⟩ := h1
    rw [eq_of_beq h1, eq_of_beq h2]
    exact ⟨_, _, _, _, _, _, _, _, _, rfl, hy, h3⟩
  · cases h
theorem pe_ch (o : CO g k W C X) {i : Nat} {n : Str} (hn : ix? C n = some i) (hod : odd n = false) (hgi : isGlB C "isinstance" = true) {c : Str} (hx : c ∈ C.xs) {a dd : Addr} {oe : Obj} {pn : List (Addr × Obj)} (hz : Zc (.ref (g.cls c)) (some dd) oe) (hf : ∃ vs, oe.data = .fields vs) :
    ∀ {e : Expr} {ts : List (Str × Str)} {z : Str}, chI n e = some (ts, z) → (ts.all fun y => decide (y.1 ∈ C.xs) && isGlB C y.1 && !odd y.1) = true → PE (X.suite a ((a, oe) :: pn)) e (tCh g (g.cls c) a dd i ts z) := by
  intro e ts
  induction ts generalizing e with
  | nil =>
    intro z h _
    unfold chI at h
    split at h
    · cases h; exact pe_str
    · obtain ⟨_, h⟩ := gd_some.mp h
      simp only [Option.bind_eq_some_iff, Option.some.injEq, Prod.mk.injEq] at h
      obtain ⟨_, _, h, _⟩ := h
      cases h
    · cases h
  | cons y r ih =>
    intro z h hall
    unfold chI at h
    split at h
    · cases h
    · obtain ⟨h1, h⟩ := gd_some.mp h
      simp only [Option.bind_eq_some_iff, Option.some.injEq, Prod.mk.injEq, List.cons.injEq] at h
      obtain ⟨q, hq, ⟨rfl, rfl⟩, rfl⟩ := h
      rw [List.all_cons, Bool.and_eq_true] at hall
      obtain ⟨ha, hr⟩ := hall
      simp only [Bool.and_eq_true, Bool.not_eq_true', decide_eq_true_eq] at ha
      obtain ⟨⟨a1, a2⟩, a3⟩ := ha
      obtain ⟨D', fI, fd, e1, _⟩ := o.po.exc _ a1
      obtain ⟨o1, o2, _⟩ := odd_no hod
      have hnm : ∀ p, PE (X.suite a ((a, oe) :: pn)) (.Name n p) (tVar i) := fun p => pe_var (o.ix hn).1 (o.ix hn).2 o1 o2
      have hm := eq_of_beq h1
      subst hm
      have ih := ih hq hr
      have hcls : ∀ p, PE (X.suite a ((a, oe) :: pn)) (.Name _ p) (tC (.ref (g.cls _))) := fun p => pe_glob (X := X.suite a ((a, oe) :: pn)) (o.gl a2) e1 rfl (odd_no a3).1
      have hK : X.K = g.K := o.po.hK.symm
      have hcall := call_isF (X := X) (a := a) (D := g.cls c) (dd := dd) (oe := oe) (pn := pn) (o.po.xf c hx) (o.po.ei c hx) hz hf
      rw [hK] at hcall
      exact pe_ifExp (pt_val (pe_callB hcall (o.gl hgi) (o.mb (by decide)) (by decide +kernel) (pa_cons (hnm _) (pa_cons (hcls _) pa_nil (by rfl)) (by rfl)) (by decide) (by decide) (by rfl) (by rfl))) pe_str ih
    · cases h
theorem tCh_ok (o : CO g k W C X) {c : Str} {a dd : Addr} {i : Nat} {fs : List (Str × V)} {σ : L2.St} {H : Hp} {Q : VK} (hσ : σ[i]? = some (some (.ref a))) (hd : H dd = some (.xd fs)) : ∀ {ts : List (Str × Str)} {z s : Str}, pickI C.sb c ts z = some s → Q (.str s) H → tCh g (g.cls c) a dd i ts z σ H Q
  | [], z, s, h, q => by cases h; exact q
  | (x, t) :: r, z, s, h, q => by
    unfold pickI at h
    refine ⟨.ref a, hσ, ?_⟩
    cases w : C.sb c x with
    | none => rw [w] at h; cases h
    | some b =>
      rw [w] at h
      have hk := o.po.isi c x b w
      rw [← o.po.hK] at hk
      refine ⟨.ref (g.cls x), .ref (g.cls x), b, fs, rfl, fun u hu => hu, hk, hd, b, rfl, ?_⟩
      cases b with
      | true => cases h; exact q
      | false => exact tCh_ok o hσ hd h q
theorem suite_isw (o : CO g k W C X) {i : Nat} {n v z : Str} {ts : List (Str × Str)} {b : List Stmt} (hn : ix? C n = some i) (hod : odd n = false) (h : xiOf n b = some (v, ts, z)) (hk : xiOk C v ts = true) (a : Addr) (oe : Obj) (cls : Value) (dd : Option Addr) (pn : List (Addr × Obj)) (hz : Zc cls dd oe) (hf : ∃ vs, oe.data = .fields vs) :
    PSs (X.suite a ((a, oe) :: pn)) b (tsC g C.xs (some i) (hXI C.sb ts z) a cls dd) := by
  obtain ⟨e, p1, p2, p3, p4, p5, kk, p6, p7, rfl, hc, hvn⟩ := xiOf_eq h
  unfold xiOk at hk
  simp only [Bool.and_eq_true, Bool.not_eq_true', decide_eq_true_eq] at hk
  obtain ⟨⟨⟨⟨k1, k2⟩, k3⟩, k4⟩, k5⟩ := hk
  obtain ⟨jv, hjv⟩ := Option.isSome_iff_exists.mp k3
  refine PSs.of fun D σ H hlen ⟨c, w, d1, ρ, env, st, v0, ed, ec, hx, s, er, hv, rv, nt, hσ, hr⟩ => ?_
  subst ed
  subst ec
  obtain ⟨D', fI, fd, _, XC, _, _⟩ := o.po.exc c hx
  obtain ⟨o1, o2, _⟩ := odd_no hod
  obtain ⟨u1, u2, _⟩ := odd_no k2
  have hnm : PE (X.suite a ((a, oe) :: pn)) (.Name n p4) (tVar i) := pe_var (o.ix hn).1 (o.ix hn).2 o1 o2
  have hvm : PE (X.suite a ((a, oe) :: pn)) (.Name v p3) (tVar jv) := pe_var (o.ix hjv).1 (o.ix hjv).2 u1 u2
  have hl : i < σ.length := by
    rw [hlen]
    exact (List.getElem?_eq_some_iff.mp (o.ix hn).1).1
  have hl2 : jv < σ.length := by
    rw [hlen]
    exact (List.getElem?_eq_some_iff.mp (o.ix hjv).1).1
  have hij : jv ≠ i := fun e => by
    have h1 := (o.ix hn).1
    have h2 := (o.ix hjv).1
    rw [e, h1] at h2
    cases h2
    simp at hvn
  have hln : X.env.scope.names.lookup v = some .local := by rw [o.sc]; exact k1
  refine ⟨_, pss_cons (ps_set (X := X.suite a ((a, oe) :: pn)) (by rw [show (X.suite a ((a, oe) :: pn)).N = X.N from rfl, o.N]; exact o.nd) (o.ix hjv).1 (.inl hln) (pe_ch o hn hod k4 hx hz hf hc k5) ?_ (.inr hln)) (pss_one (ps_ret (pe_tup (pa_cons hvm (pa_cons (pe_xf (o.po.xf c hx) XC.what hz hf hnm (by rfl)) pa_nil (by rfl)) (by rfl))))), ?_⟩
  · unfold chI at hc
    split at hc <;> first | rfl | cases hc
  · unfold hXI at hr
    cases hp : pickI C.sb c ts z with
    | none => rw [hp] at hr; exact hr.elim
    | some sv =>
      rw [hp] at hr
      refine tCh_ok o (hσ i rfl hl) hv hp ?_
      refine ⟨.str sv, List.getElem?_set_self hl2, ?_⟩
      refine ⟨.ref a, by rw [List.getElem?_set_ne hij]; exact hσ i rfl hl, rfl, rfl, d1, _, v0, rfl, hv, by rfl, ?_⟩
      have hl3 : ([.str sv, v0] : List V).length ≤ sizeLine := by rw [sizeLine_eq]; show 2 ≤ 16777216; omega
      refine ⟨hl3, fun p np => ?_⟩
      exact hr ρ _ _ (.newTup s np hl3 (.cons (str_vr sv) (.cons rv .nil)))
theorem suite_what (o : CO g k W C X) {i : Nat} {n z : Str} {b : List Stmt} (hn : ix? C n = some i) (hod : odd n = false) (h : xwOf n b = some z) (a : Addr) (oe : Obj) (cls : Value) (dd : Option Addr) (pn : List (Addr × Obj)) (hz : Zc cls dd oe) (hf : ∃ vs, oe.data = .fields vs) :
    PSs (X.suite a ((a, oe) :: pn)) b (tsC g C.xs (some i) (hXW z) a cls dd) := by
  obtain ⟨j, p1, p2, p3, kk, p4, p5, rfl⟩ := xwOf_eq h
  refine PSs.of fun D σ H hlen ⟨c, w, d1, ρ, env, st, v, ed, ec, hx, s, e, hv, rv, nt, hσ, hr⟩ => ?_
  obtain ⟨D', fI, fd, _, XC, _, _⟩ := o.po.exc c hx
  obtain ⟨o1, o2, _⟩ := odd_no hod
  have hnm : PE (X.suite a ((a, oe) :: pn)) (.Name n p2) (tVar i) := pe_var (o.ix hn).1 (o.ix hn).2 o1 o2
  refine ⟨_, pss_one (ps_ret (pe_tup (pa_cons pe_str (pa_cons (pe_xf (o.po.xf c hx) XC.what hz hf hnm (by rfl)) pa_nil (by rfl)) (by rfl)))), ?_⟩
  have hl : i < σ.length := by
    rw [hlen]
    exact (List.getElem?_eq_some_iff.mp (o.ix hn).1).1
  refine ⟨.ref a, hσ i rfl hl, rfl, ec, d1, _, v, ed, hv, by rfl, ?_⟩
  have hl2 : ([.str z, v] : List V).length ≤ sizeLine := by rw [sizeLine_eq]; show 2 ≤ 16777216; omega
  refine ⟨hl2, fun p np => ?_⟩
  exact hr ρ _ _ (.newTup s np hl2 (.cons (str_vr z) (.cons rv .nil)))
end
end Bb
namespace Bb
open PySem L2 PyProof.Rows
/-- a name of the two is a cell: no stores are exchanged -/
def celled (C : Cf) (x y : Str) : Bool := decide (C.sc.names.lookup x = some .cell) || decide (C.sc.names.lookup y = some .cell)
noncomputable def kS (R : Rec) (C : Cf) : Stmt → Option DS
  | .Pass _ => some sPass
  | .Break _ => some fun env st => .bk env st
  | .Continue _ => some fun env st => .ct env st
  | .Expr e _ => gd (noComp e) ((R.E C e).bind fun d => some (sExpr d))
  | .Return (some e) _ => (R.E C e).bind fun d => some (sRet d)
  | .Return none _ => some fun _ st => .rt .non st
  | .If c a b _ => (R.T C c).bind fun t => (kB (R.S C) a).bind fun x => (kB (R.S C) b).bind fun y => some (sIf t x y)
  | .Assign [.Name x px] e _ => kSet R C x px e
  | .Assign [.Subscript ob i _] e _ => gd (noComp e && ixOk i) ((R.E C e).bind fun de => (R.E C ob).bind fun dO => (R.E C i).bind fun dI => some (sSub de dO dI))
  | .Assign [.Tuple [.Name x px, .Name y py] kt pt] (.Tuple [a, b] k2 pt2) _ => if (celled C x y && (C.mu.contains x || C.mu.contains y)) = true then gd (!isSt a && !isSt b) ((R.E C a).bind fun da => (R.E C b).bind fun db => (R.G C (.Tuple [.Name x px, .Name y py] kt pt)).bind fun t => some (sAsg (dN (mkT 2) (dConsM (C.mu.contains x) da (dConsM (C.mu.contains y) db dNil))) t.1)) else if (foldedForSure 8 a && foldedForSure 8 b || celled C x y) = true then (R.E C (.Tuple [a, b] k2 pt2)).bind fun d => (R.G C (.Tuple [.Name x px, .Name y py] kt pt)).bind fun t => some (sAsg d t.1) else gd (C.calm && parOk C x px y py a b) ((kLoc C x).bind fun i => (kLoc C y).bind fun j => (R.E C a).bind fun da => (R.E C b).bind fun db => some (sPar i j (dConsM (C.mu.contains x) da (dConsM (C.mu.contains y) db dNil))))
  | .Assign [.Tuple es kk pt] e _ => gd (noComp e && !isTup e) ((R.E C e).bind fun d => (R.G C (.Tuple es kk pt)).bind fun b => some (sAsg d b.1))
  | .For tg iter body [] _ => gd (C.calm && noSet iter) ((kI (R.E C) C tg iter).bind fun di => (R.G C tg).bind fun bt => (kB (R.S C) body).bind fun db => some (sFor di bt.1 db))
  | .While c body [] _ => (R.T C c).bind fun t => (kB (R.S C) body).bind fun db => some (sWhile t db)
  | .Raise (some (.Call (.Name x _) [e] [] _)) none _ => gd (C.calm && decide (x ∈ C.xs) && isGlB C x && !isSt e && !odd x) ((R.E C e).bind fun d => some (sRaise x d))
  | .Try body (h :: hds) [] [] _ => (kB (R.S C) body).bind fun db => (kHds R C (h :: hds)).bind fun l => some (sTry C.sb db l)
  | _ => none
noncomputable def kX : Nat → Rec
  | 0 => Rec.nil
  | n + 1 => ⟨kE (kX n), kT (kX n), kG (kX n), kS (kX n)⟩
section
variable {g : G} {k : Nat} {W : WX} {C : Cf} {X : Cx} {R : Rec}
theorem kHd_ok (hR : ROk g R) (o : CO g k W C X) (so : SO X) : ∀ {hds : List ExceptHandler} {l : List HC}, kHds R C hds = some l → ClOk X hds (clV g C.xs l)
  | [], l, h => by cases h; exact .nil
  | hd :: r, l, h => by
    unfold kHds at h
    simp only [Option.bind_eq_some_iff, Option.some.injEq] at h
    obtain ⟨y, hy, l2, hl2, rfl⟩ := h
    have ih := kHd_ok hR o so hl2
    have nm : ∀ {x : Str}, x ∈ C.xs → isGlB C x = true → odd x = false → Names X x (.ref (g.cls x)) := fun {x} h1 h2 h3 => by
      obtain ⟨D, fI, fd, e1, _⟩ := o.po.exc x h1
      exact ⟨o.gl h2, (odd_no h3).1, .inl e1⟩
    unfold kHd at hy
    split at hy
    · obtain ⟨h1, hy⟩ := gd_some.mp hy
      simp only [Bool.and_eq_true, Bool.not_eq_true', decide_eq_true_eq] at h1
      simp only [Option.bind_eq_some_iff, Option.some.injEq] at hy
      obtain ⟨d, hd, rfl⟩ := hy
      exact .cons (i := none) (nm h1.1.1 h1.1.2 h1.2) trivial (fun a oe cls dd pn _ _ => suite_plain hR o so hd a oe cls dd pn) ih
    · obtain ⟨h1, hy⟩ := gd_some.mp hy
      simp only [Bool.and_eq_true, Bool.not_eq_true', decide_eq_true_eq] at h1
      simp only [Option.bind_eq_some_iff] at hy
      obtain ⟨i, hi, hy⟩ := hy
      have hn : X.N[i]? = some _ ∧ X.env.kindOf _ = some .local := ⟨(o.ix hi).1, by unfold Env.kindOf; rw [o.sc]; exact h1.2⟩
      split at hy
      · rename_i z hz
        cases hy
        exact .cons (i := some i) (nm h1.1.1.1.1 h1.1.1.1.2 h1.1.1.2) hn (fun a oe cls dd pn z1 z2 => suite_what o hi h1.1.2 hz a oe cls dd pn z1 z2) ih
      · split at hy
        · rename_i v ts z hz
          obtain ⟨hk, hy⟩ := gd_some.mp hy
          cases hy
          exact .cons (i := some i) (nm h1.1.1.1.1 h1.1.1.1.2 h1.1.1.2) hn (fun a oe cls dd pn z1 z2 => suite_isw o hi h1.1.2 hz hk a oe cls dd pn z1 z2) ih
        · simp only [Option.bind_eq_some_iff, Option.some.injEq] at hy
          obtain ⟨d, hd, rfl⟩ := hy
          exact .cons (i := some i) (nm h1.1.1.1.1 h1.1.1.1.2 h1.1.1.2) hn (fun a oe cls dd pn _ _ => suite_plain hR o so hd a oe cls dd pn) ih
    · cases hy
theorem par_ne {N : List Str} {i j : Nat} {x y : Str} (h1 : N[i]? = some x) (h2 : N[j]? = some y) (h : (x == y) = false) : i ≠ j := fun e => by
  subst e
  rw [h1] at h2
  cases h2
  simp at h
theorem fold_none {env : Env} {ts : List Expr} {a b : Expr} {kt k2 : Nat} {pt pt2 : Pos} (h : (foldedForSure 8 a && foldedForSure 8 b) = true) : swappedStores [.Tuple ts kt pt] (.Tuple [a, b] k2 pt2) env = pure none := by
  have h2 : ([a, b] : List Expr).all (foldedForSure 8) = true := by simpa using h
  unfold swappedStores
  simp only [h2, if_true]
  repeat' split
  all_goals first | rfl | simp
theorem cell_none {env : Env} {x y : Str} {px py pt pt2 : Pos} {kt k2 : Nat} {a b : Expr} (h : env.scope.names.lookup x = some .cell ∨ env.scope.names.lookup y = some .cell) : swappedStores [.Tuple [.Name x px, .Name y py] kt pt] (.Tuple [a, b] k2 pt2) env = pure none := by
  unfold swappedStores
  have hn : ((List.filterMap (fun t : Expr => match t with
    | .Name id pos => if (env.kindOf id == some NameKind.local && pos.line == ((Option.map (fun t : Expr => t.pos.line) ([Expr.Name x px, Expr.Name y py] : List Expr).head?).getD 0)) = true then some id else none
    | _ => none) [Expr.Name x px, Expr.Name y py]).length != 2) = true := by
    have e : (some NameKind.cell == some NameKind.local) = false := by decide
    simp only [List.filterMap_cons, List.filterMap_nil, Env.kindOf]
    rcases h with h | h
    · simp only [h, e, Bool.false_and, Bool.false_eq_true, if_false]
      split <;> rfl
    · simp only [h, e, Bool.false_and, Bool.false_eq_true, if_false]
      split <;> rfl
  dsimp only
  split
  · rfl
  split
  · rfl
  rw [if_pos]
  rw [Bool.or_eq_true]
  exact .inl hn
theorem kS_ok (hR : ROk g R) (o : CO g k W C X) (so : SO X) {e : Stmt} {d : DS} (h : kS R C e = some d) : PS X e (tS g W d) := by
  have hE := hR.hE k W C X o
  have hT := hR.hT k W C X o
  have hS := hR.hS k W C X o so
  have hG := hR.hG k W C X o
  have nd : X.N.Nodup := by rw [o.N]; exact o.nd
  unfold kS at h
  split at h
  · cases h; exact ds_pass
  · cases h; exact ds_break
  · cases h; exact ds_continue
  · obtain ⟨h1, h⟩ := gd_some.mp h
    simp only [Option.bind_eq_some_iff, Option.some.injEq] at h
    obtain ⟨x, hx, rfl⟩ := h
    exact ds_expr (hE _ _ hx) (swaps_no h1 _ _ _)
  · simp only [Option.bind_eq_some_iff, Option.some.injEq] at h
    obtain ⟨x, hx, rfl⟩ := h
    exact ds_ret (hE _ _ hx)
  · cases h; exact ds_retN
  · simp only [Option.bind_eq_some_iff, Option.some.injEq] at h
    obtain ⟨t, ht, x, hx, y, hy, rfl⟩ := h
    exact ds_if (hT _ _ ht) (kB_ok hS hx) (kB_ok hS hy)
  · exact kSet_ok hR o so h
  · rename_i ob i p e q
    obtain ⟨h1, h⟩ := gd_some.mp h
    rw [Bool.and_eq_true] at h1
    simp only [Option.bind_eq_some_iff, Option.some.injEq] at h
    obtain ⟨de, hde, dO, hdO, dI, hdI, rfl⟩ := h
    refine ds_sub (hE _ _ hde) (hE _ _ hdO) (hE _ _ hdI) (sole_no h1.1 _ _ _) (by rfl) (by rfl) (fun v => ?_)
    cases i <;> first | (cases h1.2; done) | rfl
  · split at h
    · rename_i hcell
      obtain ⟨h1, h⟩ := gd_some.mp h
      simp only [Bool.and_eq_true, Bool.not_eq_true'] at h1
      simp only [Option.bind_eq_some_iff, Option.some.injEq] at h
      obtain ⟨da, hda, db, hdb, b, hb, rfl⟩ := h
      refine ds_asg (de_tup (da_consM (hE _ _ hda) (da_consM (hE _ _ hdb) da_nil (star_cons h1.2 [] X.env)) (star_cons h1.1 _ X.env))) (hG _ _ hb) (sole_no rfl _ _ _) ?_ (by rfl)
      rw [Bool.and_eq_true] at hcell
      have hcell := hcell.1
      unfold celled at hcell
      rw [Bool.or_eq_true] at hcell
      refine cell_none ?_
      rw [o.sc]
      exact hcell.imp (fun z => of_decide_eq_true z) (fun z => of_decide_eq_true z)
    split at h
    · rename_i hfold
      simp only [Option.bind_eq_some_iff, Option.some.injEq] at h
      obtain ⟨x, hx, b, hb, rfl⟩ := h
      refine ds_asg (hE _ _ hx) (hG _ _ hb) (sole_no rfl _ _ _) ?_ (by rfl)
      rw [Bool.or_eq_true] at hfold
      rcases hfold with hfold | hfold
      · exact fold_none hfold
      · unfold celled at hfold
        rw [Bool.or_eq_true] at hfold
        refine cell_none ?_
        rw [o.sc]
        exact hfold.imp (fun z => of_decide_eq_true z) (fun z => of_decide_eq_true z)
    obtain ⟨h1, h⟩ := gd_some.mp h
    rw [Bool.and_eq_true] at h1
    simp only [Option.bind_eq_some_iff, Option.some.injEq] at h
    obtain ⟨i, hi, j, hj, da, hda, db, hdb, rfl⟩ := h
    have hp := h1.2
    unfold parOk at hp
    simp only [Bool.and_eq_true, decide_eq_true_eq, Bool.not_eq_true', ← o.sc] at hp
    obtain ⟨⟨⟨⟨⟨⟨⟨p1, p2⟩, p3⟩, p4⟩, p5⟩, p6⟩, p7⟩, p8⟩ := hp
    exact ds_par (o.calm h1.1) nd (kLoc_ok o hi).1 (kLoc_ok o hj).1 (par_ne (kLoc_ok o hi).1 (kLoc_ok o hj).1 p4) p1 p2 (da_consM (hE _ _ hda) (da_consM (hE _ _ hdb) da_nil (star_cons p6 [] X.env)) (star_cons p5 _ X.env)) (nt_consM (nt_consM nt_nil)) (par_ok o so h1.2) (by rfl)
  · rename_i es kk pt e q hne
    obtain ⟨h1, h⟩ := gd_some.mp h
    simp only [Bool.and_eq_true, Bool.not_eq_true'] at h1
    simp only [Option.bind_eq_some_iff, Option.some.injEq] at h
    obtain ⟨x, hx, b, hb, rfl⟩ := h
    refine ds_asg (hE _ _ hx) (hG _ _ hb) (sole_no h1.1 _ _ _) ?_ (by rfl)
    cases e <;> first | (cases h1.2; done) | rfl
  · obtain ⟨h1, h⟩ := gd_some.mp h
    rw [Bool.and_eq_true] at h1
    simp only [Option.bind_eq_some_iff, Option.some.injEq] at h
    obtain ⟨di, hdi, bt, hbt, db, hdb, rfl⟩ := h
    exact ds_for o.hp (o.calm h1.1) (kI_ok o hE hdi) (hG _ _ hbt) (kB_ok hS hdb) (fun x => folded_no h1.2 X.env x)
  · simp only [Option.bind_eq_some_iff, Option.some.injEq] at h
    obtain ⟨t, ht, db, hdb, rfl⟩ := h
    exact ds_while o.hp (hT _ _ ht) (kB_ok hS hdb)
  · obtain ⟨h1, h⟩ := gd_some.mp h
    simp only [Bool.and_eq_true, Bool.not_eq_true', decide_eq_true_eq] at h1
    obtain ⟨⟨⟨⟨p1, p2⟩, p3⟩, p4⟩, p5⟩ := h1
    simp only [Option.bind_eq_some_iff, Option.some.injEq] at h
    obtain ⟨x, hx, rfl⟩ := h
    exact ds_raise o p1 p2 (o.gl p3) (hE _ _ hx) p4 (odd_no p5).1
  · simp only [Option.bind_eq_some_iff, Option.some.injEq] at h
    obtain ⟨db, hdb, l, hl, rfl⟩ := h
    exact ds_try o so (fun W' pn xe tk hp => kB_ok (hR.hS k W' C _ (o.tr tk hp) so.tr) hdb) (kHd_ok hR o so hl)
  · cases h
theorem kX_ok (g : G) : ∀ n, ROk g (kX n)
  | 0 => ROk.nil g
  | n + 1 => ⟨fun _ _ _ _ o _ _ h => kE_ok (kX_ok g n) o h, fun _ _ _ _ o _ _ h => kT_ok (kX_ok g n) o h, fun _ _ _ _ o _ _ h => kG_ok (kX_ok g n) o h, fun _ _ _ _ o so _ _ h => kS_ok (kX_ok g n) o so h⟩
end
end Bb
namespace Bb
open PySem L2 PyProof.Rows LamX
/-! ### a text's defs -/
structure DefT where
  x : Str
  params : Arguments
  body : List Stmt
  scope : Scope
  ps : List Str
  N : List Str
  mu : List Str
  lamb : Bool
  hears : Bool
abbrev FT := Str → List PV → Sto → R PV
structure Pg where
  defs : List DefT
  con : List (Str × PV)
  xs : List Str
  sb : Str → Str → Option Bool
  kwn : List Str
def Pg.ar (pr : Pg) : List (Str × Nat × List Str) := pr.defs.map fun d => (d.x, d.ps.length, if pr.kwn.contains d.x = true then d.ps else [])
def Pg.find (pr : Pg) (x : Str) : Option DefT := pr.defs.find? fun d => d.x == x
def badF : FT := fun _ _ _ => .bad
def cfg (pr : Pg) (d : DefT) (F F2 : FT) (Hr : Str → Option (PV → (Sto → R PV) → Sto → R PV)) (act : Option (Str × Nat × PV × (Sto → R PV))) : Cf :=
  { N := d.N, sc := d.scope, ar := pr.ar, F := F, con := pr.con, calm := true, mu := d.mu, fn := fun _ => true, xs := pr.xs, sb := pr.sb, act := act, F2 := F2, Hr := Hr, lamb := d.lamb }
/-- a def's body, as a meaning -/
noncomputable def bodyK (pr : Pg) (d : DefT) (F F2 : FT) (Hr : Str → Option (PV → (Sto → R PV) → Sto → R PV)) (act : Option (Str × Nat × PV × (Sto → R PV))) : Option DS := kB ((kX 60).S (cfg pr d F F2 Hr act)) d.body
noncomputable def hears (pr : Pg) (F1 : FT) : Str → Option (PV → (Sto → R PV) → Sto → R PV) := fun x => (pr.find x).bind fun d => gd d.hears (match d.ps with
  | [a] => gd (!odd a) (some fun lv act st => match bodyK pr d F1 badF (fun _ => none) (some (a, 0, lv, act)) with
    | some b => runF d.N.length b [lv] st
    | none => .bad)
  | _ => none)
noncomputable def stepF (pr : Pg) (F F1 F2 : FT) : FT := fun x args st => match pr.find x with
  | none => .bad
  | some d => match bodyK pr d F F2 (hears pr F1) none with
    | some b => runF d.N.length b args st
    | none => .bad
noncomputable def lev (pr : Pg) : Nat → FT × FT × FT
  | 0 => (badF, badF, badF)
  | k + 1 => (stepF pr (lev pr k).1 (lev pr k).2.1 (lev pr k).2.2, (lev pr k).1, (lev pr k).2.1)
/-- what is known of a def -/
structure DfOk (g : G) (K : PySem.W.Frag) (mg : Str → Option Value) (base : Heap) (d : DefT) (f : Addr) (fd : FuncData) : Prop where
  hm : mg d.x = some (.ref f)
  kp : PySem.W.keepIn K (.ref f) = true
  bd : L2.Binds K fd d.ps []
  fn : FunD K d.x d.x d.params d.body d.scope [] [] f fd
  sc : FnScope d.N d.ps d.scope
  lam : d.lamb = true → ∃ c P, fd.code = .ref c ∧ TabB base mg c P ∧ (P, (envOfC d.x d.scope 0 0 .none).qual ++ "<lambda>") ∈ g.T ∧ ∀ p ∈ g.T, p.1 = P → p.2 = (envOfC d.x d.scope 0 0 .none).qual ++ "<lambda>"
structure PgOk (g : G) (P : Program) (w : World) (K : PySem.W.Frag) (mg : Str → Option Value) (base : Heap) (pr : Pg) : Prop where
  hK : g.K = K
  defs : ∀ d ∈ pr.defs, ∃ f fd, DfOk g K mg base d f fd
  kws : ∀ d ∈ pr.defs, pr.kwn.contains d.x = true → ∀ (f : Addr) (fd : FuncData), FunD K d.x d.x d.params d.body d.scope [] [] f fd → KwB K fd d.ps
  con : ∀ x p, pr.con.lookup x = some p → ∃ u v, mg x = some u ∧ RelV v u ∧ (∀ ρ H, VR g.K ρ H p v) ∧ ∀ xs, p ≠ .tl xs
  blt : ∀ x ∈ bltNames, mg x = none
  xf : ∀ x ∈ pr.xs, XfC K (g.cls x)
  ei : ∀ x ∈ pr.xs, EiC K (g.cls x)
  isi : ∀ c x b, pr.sb c x = some b → PySem.W.kitOne K (.ref (g.cls c)) (.ref (g.cls x)) = some b
  sub : ∀ c x b, pr.sb c x = some b → c ∈ pr.xs ∧ PySem.W.exmOne K (.ref (g.cls c)) (.ref (g.cls x)) = some b
  exc : ∀ x ∈ pr.xs, ∃ D fI fd, mg x = some (.ref (g.cls x)) ∧ XCls K D fI (g.cls x) ∧ FnOk P w K mg base C8.CX0 1 fI fd ["self", "what"] (spXI K D fI) ∧ L2.Binds K fd ["self", "what"] []
section
variable {g : G} {P : Program} {w : World} {K : PySem.W.Frag} {mg : Str → Option Value} {base : Heap} {pr : Pg}
theorem ar_find {x : Str} {n : Nat} {qs : List Str} (h : pr.ar.lookup x = some (n, qs)) : ∃ d, pr.find x = some d ∧ d ∈ pr.defs ∧ d.x = x ∧ d.ps.length = n ∧ (qs ≠ [] → qs = d.ps ∧ pr.kwn.contains d.x = true) := by
  unfold Pg.ar at h
  generalize pr.kwn = kn at h ⊢
  unfold Pg.find
  generalize pr.defs = l at h
  induction l with
  | nil => cases h
  | cons d r ih =>
    rw [List.map_cons, List.lookup_cons] at h
    rw [List.find?_cons]
    cases q : (x == d.x) with
    | true =>
      rw [q] at h
      cases h
      have e := eq_of_beq q
      have q2 : (d.x == x) = true := by rw [e]; simp
      rw [q2]
      refine ⟨d, rfl, List.mem_cons_self, e.symm, rfl, fun hq => ?_⟩
      split at hq
      · rename_i hc; rw [if_pos hc]; exact ⟨rfl, hc⟩
      · exact absurd rfl hq
    | false =>
      rw [q] at h
      have q2 : (d.x == x) = false := by
        cases z : (d.x == x) with
        | false => rfl
        | true => rw [eq_of_beq z] at q; simp at q
      rw [q2]
      obtain ⟨d', h1, h2, h3, h4⟩ := ih h
      exact ⟨d', h1, List.mem_cons_of_mem _ h2, h3, h4⟩
theorem find_mem {x : Str} {d : DefT} (h : pr.find x = some d) : d ∈ pr.defs ∧ d.x = x := by
  unfold Pg.find at h
  exact ⟨List.mem_of_find?_eq_some h, eq_of_beq (List.find?_some (p := fun d : DefT => d.x == x) h)⟩
theorem PrO.of (o : PgOk g P w K mg base pr) {k : Nat} {F : FT} (h : ∀ x d, pr.find x = some d → ∀ f fd, DfOk g K mg base d f fd → FnG P w K mg base (k + 2) f fd d.ps (spF g d.ps.length (F x))) : PrO g k P w K mg base pr.ar F pr.con pr.xs pr.sb where
  hK := o.hK
  fns := fun x n qs hn => by
    obtain ⟨d, h1, h2, h3, h4, h5⟩ := ar_find hn
    obtain ⟨f, fd, D⟩ := o.defs d h2
    exact ⟨f, fd, d.ps, by rw [← h3]; exact D.hm, D.kp, D.bd, h4, fun hq => ⟨(h5 hq).1, o.kws d h2 (h5 hq).2 f fd D.fn⟩, h x d h1 f fd D⟩
  con := o.con
  blt := o.blt
  xf := o.xf
  ei := o.ei
  isi := o.isi
  sub := o.sub
  exc := o.exc
theorem fng_bad {k : Nat} {f : Addr} {fd : FuncData} {ps : List Str} {x : Str} : FnG P w K mg base k f fd ps (spF g ps.length (badF x)) :=
  ⟨fun _ _ _ _ h => h.1, fun _ _ _ _ _ _ _ _ _ _ _ _ _ _ h => by obtain ⟨_, _, _, _, _, _, h⟩ := h; exact h.elim⟩
/-- the context of a def's body -/
theorem co_def {k : Nat} {d : DefT} {F F2 : FT} {Hr : Str → Option (PV → (Sto → R PV) → Sto → R PV)} {act : Option (Str × Nat × PV × (Sto → R PV))} {f : Addr} {fd : FuncData} (D : DfOk g K mg base d f fd) (po : PrO g k P w K mg base pr.ar F pr.con pr.xs pr.sb)
    (hear : ∀ x hd, Hr x = some hd → HrG g k P w K mg base x hd ∧ ∃ k2, k2 + 2 ≤ k ∧ PrO g k2 P w K mg base pr.ar F2 pr.con pr.xs pr.sb) {cdv : Value} (hcd : fd.code = cdv) {A : Around} {outer : List Env} {s : Shared} {H : Hp} {E : XK} (hr : Room (k + 2) (A.deeper (envOfC d.x d.scope s.heap.objs.size f cdv))) (gu : A.guards = some [])
    (hact : ∀ a i lv ac, act = some (a, i, lv, ac) → ∀ (pn : List (Addr × Obj)) (xe : Value → Shared → Prop) (W' : WX), Takes ((cxOf (L2.CX P w) P w K mg base d.N d.x d.scope f cdv A outer s H E).tr pn xe) W' → ∀ p1 p2 : Pos, PE ((cxOf (L2.CX P w) P w K mg base d.N d.x d.scope f cdv A outer s H E).tr pn xe) (.Call (.Name a p1) [] [] p2) (tD g W' (dAct i lv ac))) :
    CO g k (WE E) (cfg pr d F F2 Hr act) (cxOf (L2.CX P w) P w K mg base d.N d.x d.scope f cdv A outer s H E) ∧ SO (cxOf (L2.CX P w) P w K mg base d.N d.x d.scope f cdv A outer s H E) := by
  refine ⟨⟨po, rfl, D.sc.nd, rfl, fun _ => rfl, takes_of (E := E) rfl rfl rfl rfl, ?_, gu, fun _ => hr, passes_of rfl, fun _ _ => rfl, hear, fun hl => ?_, hact⟩, ⟨rfl, rfl, D.sc.kind⟩⟩
  · have := hr.un
    show (A.deeper (envOfC d.x d.scope s.heap.objs.size f cdv)).units + 66 < cLine
    omega
  · obtain ⟨c, P', e1, e2, e3, e4⟩ := D.lam hl
    exact ⟨c, P', hcd.symm.trans e1, e2, e3, e4⟩
/-- a def by its body -/
theorem fng_def {k : Nat} {d : DefT} {F F2 : FT} {Hr : Str → Option (PV → (Sto → R PV) → Sto → R PV)} {b : DS} {f : Addr} {fd : FuncData} (D : DfOk g K mg base d f fd) (po : PrO g k P w K mg base pr.ar F pr.con pr.xs pr.sb)
    (hear : ∀ x hd, Hr x = some hd → HrG g k P w K mg base x hd ∧ ∃ k2, k2 + 2 ≤ k ∧ PrO g k2 P w K mg base pr.ar F2 pr.con pr.xs pr.sb) (hb : bodyK pr d F F2 Hr none = some b) : FnG P w K mg base (k + 3) f fd d.ps (spF g d.ps.length (runF d.N.length b)) := by
  refine fn_entry D.fn D.sc (fun vs H Q E h => h.1) fun cdv A outer s H vs Q E hcd hcode hr gu hsp => ?_
  obtain ⟨o, so⟩ := co_def (pr := pr) (F2 := F2) (Hr := Hr) (act := none) (E := E) (outer := outer) (H := H) D po hear hcode hr gu fun a i lv ac h => by cases h
  exact run_body (kB_ok ((kX_ok g 60).hS _ _ _ _ o so) hb) hsp
theorem hr_def {k : Nat} {F1 : FT} {x : Str} {hd : PV → (Sto → R PV) → Sto → R PV} (o : PgOk g P w K mg base pr) (po : PrO g (k + 1) P w K mg base pr.ar F1 pr.con pr.xs pr.sb) (h : hears pr F1 x = some hd) : HrG g (k + 2) P w K mg base x hd := by
  unfold hears at h
  simp only [Option.bind_eq_some_iff] at h
  obtain ⟨d, hd1, h⟩ := h
  obtain ⟨_, h⟩ := gd_some.mp h
  obtain ⟨hm, rfl⟩ := find_mem hd1
  obtain ⟨f, fd, D⟩ := o.defs d hm
  split at h
  · rename_i a hps
    obtain ⟨hod, h⟩ := gd_some.mp h
    have hod : odd a = false := by simpa using hod
    cases h
    have bd := D.bd
    rw [hps] at bd
    refine ⟨f, fd, a, D.hm, D.kp, bd, fun A outer s H args fl lv act Q E hr gu e0 hb actR hsp => ?_⟩
    obtain ⟨oc, od, dV, kV, doc, pm, an, cdv, ct, osl, rfl, lk, hcd, _, _⟩ := D.fn.ex
    have hN0 : d.N[0]? = some a := by
      have h1 := D.sc.pre
      rw [hps] at h1
      cases q : d.N with
      | nil => rw [q] at h1; cases h1
      | cons y r => rw [q] at h1; simp at h1; rw [h1]; rfl
    have hV : Vis d.scope a := by
      rcases D.sc.par a (by rw [hps]; exact List.mem_cons_self) with z | z
      · exact .inl z
      · exact .inr (.inl z)
    refine LamX.run_ofS (N := d.N) (ps := d.ps) (us := [.ref fl]) (vs := [.ref fl]) lk hcd D.sc hr e0 (by rw [hps]; exact hb) (.cons rfl .nil) (by rw [hps]; rfl) fun hr' => ?_
    cases hbk : bodyK pr d F1 badF (fun _ => none) (some (a, 0, lv, act)) with
    | none =>
      obtain ⟨_, _, _, _, hsp⟩ := hsp
      simp only [hbk] at hsp
      exact hsp.elim
    | some b =>
      simp only [hbk] at hsp
      obtain ⟨oc', so'⟩ := co_def (pr := pr) (F := F1) (F2 := badF) (Hr := fun _ => none) (act := some (a, 0, lv, act)) (E := E) (outer := outer) (s := s) (A := A) (H := H) (cdv := cdv) D po (fun x hd h => by cases h) rfl hr' gu (fun a' i lv' ac h pn xe W' tk p1 p2 => by
        cases h
        exact actR d.N d.x d.scope cdv E 0 pn xe W' a p1 p2 tk hr' hN0 hV hod)
      have key := kB_ok ((kX_ok g 60).hS _ _ _ _ oc' so') hbk
      obtain ⟨ρ, st, s0, r0, h1⟩ := hsp
      exact run_body (k := 1) key ⟨rfl, ρ, st, [lv], s0, .cons r0 .nil, h1⟩
  · cases h
theorem lev_ok (o : PgOk g P w K mg base pr) : ∀ k, PrO g (k + 2) P w K mg base pr.ar (lev pr k).1 pr.con pr.xs pr.sb ∧ PrO g (k + 1) P w K mg base pr.ar (lev pr k).2.1 pr.con pr.xs pr.sb ∧ PrO g k P w K mg base pr.ar (lev pr k).2.2 pr.con pr.xs pr.sb
  | 0 => ⟨.of o fun x _ _ _ _ _ => fng_bad (x := x), .of o fun x _ _ _ _ _ => fng_bad (x := x), .of o fun x _ _ _ _ _ => fng_bad (x := x)⟩
  | k + 1 => by
    obtain ⟨h1, h2, h3⟩ := lev_ok o k
    refine ⟨.of o fun x d hd f fd D => ?_, h1, h2⟩
    show FnG P w K mg base (k + 5) f fd d.ps (spF g d.ps.length (stepF pr (lev pr k).1 (lev pr k).2.1 (lev pr k).2.2 x))
    cases hb : bodyK pr d (lev pr k).1 (lev pr k).2.2 (hears pr (lev pr k).2.1) none with
    | none =>
      have e : stepF pr (lev pr k).1 (lev pr k).2.1 (lev pr k).2.2 x = badF x := by
        funext args st
        unfold stepF
        simp only [hd, hb]
        rfl
      rw [e]
      exact fng_bad
    | some b =>
      have e : stepF pr (lev pr k).1 (lev pr k).2.1 (lev pr k).2.2 x = runF d.N.length b := by
        funext args st
        unfold stepF
        simp only [hd, hb]
      rw [e]
      exact fng_def D h1 (fun x hd h => ⟨hr_def o h2 h, k, Nat.le_refl _, h3⟩) hb
end
end Bb
namespace Bb
open PySem L2 PyProof.Rows LamX
/-! ### the end of a law -/
/-- where the script stands -/
def ScrAt (K : PySem.W.Frag) (H : Hp) (a : Addr) (vs : List V) : Prop := (∃ o, H a = some (.frz o (.lst vs))) ∨ ∀ H', SqL K H' a vs
theorem law_coreG {P : Program} {w : World} {K : PySem.W.Frag} {mg mb : Str → Option Value} {k : Nat} {fa a : Addr} {cs : List (Addr × Addr)} {fd : FuncData} {x : Str} {sp : Sp} {z : Shared} {us : List Value} (KX : K.In z.heap) (nsg : z.heap.Ns mainGlobals mg) (nsb : z.heap.Ns builtinsNs mb) (bbt : ∀ y : Str, y ≠ "__name__" → mb y = bootBuiltins y)
    (nol : z.heap.NoLimit) (gn : z.gens = #[]) (tabs : ∀ p ∈ cs, z.heap.get? p.2 = some { cls := .none, data := .fields #[] }) (ntab : ∀ p ∈ cs, K.lookup p.2 = none) (hds : ∀ p ∈ cs, PySem.W.CodeHd z.heap p.1 p.2)
    (bmod : ∃ (bm : Addr) (ob : Obj), mg "__builtins__" = some (.ref bm) ∧ bm ≠ builtinsNs ∧ z.heap.get? bm = some ob ∧ ob.cls = .type "module" ∧ ob.dict = some builtinsNs ∧ ob.data = .plain) (scr : z.heap.get? a = some { cls := .type "list", data := .seq us.toArray }) (hr : Room k callerA)
    (F : ∀ base : Heap, K.In base → base.Ns mainGlobals mg → (∀ p ∈ cs, TabB base mg p.1 p.2) → FnG P w K mg base k fa fd [x] sp) (hbind : ∀ (s : Shared) (u : Value), BindsTo s fd ⟨[u], []⟩ [(x, u)]) {H : Hp} (h1 : ∀ p ∈ cs, H p.2 = some (.tbl #[])) (h2 : ∀ b, H b = none ∨ b ∈ cs.map (·.2) ∨ ∃ o xs, H b = some (.frz o (.lst xs)))
    (ok : HOk P w H z.heap) (only : ∀ b, H b ≠ none → b = a ∨ b ∈ cs.map (·.2)) (outK : H a ≠ none → K.lookup a = none) (hsp : sp [.ref a] H (fun v _ => v = .bl true) fun _ _ _ => False) :
    codeAny (model P w) callerA (.call (.ref fa) ⟨[.ref a], []⟩) (fun r z' => r = .ok (.ret (.bool true)) ∧ OldK z.heap z'.heap ∧ z'.os = z.os ∧ AllBare z'.gens) z := by
  have tabAt : ∀ b : Addr, b ∈ cs.map (·.2) → z.heap.get? b = some { cls := .none, data := .fields #[] } := fun b hb => by
    obtain ⟨p, hp, rfl⟩ := List.mem_map.mp hb
    exact tabs p hp
  have grd : ∀ {b : Addr} {o : Obj}, z.heap.get? b = some o → H b = none → (hidT z.heap H).get? b = some o := fun e n => hidT_get e n
  have un1 : ∀ {b : Addr} {o : Obj}, z.heap.get? b = some o → (∀ q n, o.data ≠ .seq q n) → o.data ≠ .fields #[] → H b = none := fun {b o} e d1 d2 => by
    cases q : H b with
    | none => rfl
    | some u =>
      rcases only b (by rw [q]; simp) with e' | e'
      · rw [e', scr] at e; cases e; exact (d1 _ _ rfl).elim
      · rw [tabAt b e'] at e; cases e; exact (d2 rfl).elim
  have unD : ∀ {b : Addr} {o : Obj} {es : Array DictEntry} {ep : Nat}, z.heap.get? b = some o → o.data = .dict es ep → H b = none := fun {b o es ep} e d => un1 e (fun q n y => by rw [d] at y; cases y) fun y => by rw [d] at y; cases y
  have ns2 : ∀ {b : Addr} {m : Str → Option Value}, z.heap.Ns b m → (hidT z.heap H).Ns b m := fun {b m} ⟨o, es, ep, e, d, r⟩ => ⟨o, es, ep, grd e (unD e d), d, r⟩
  have kin : K.In (hidT z.heap H) := fun b o e => grd (KX b o e) (by
    cases q : H b with
    | none => rfl
    | some u =>
      rcases only b (by rw [q]; simp) with e' | e'
      · subst e'; rw [outK (by rw [q]; simp)] at e; cases e
      · obtain ⟨p, hp, rfl⟩ := List.mem_map.mp e'; rw [ntab p hp] at e; cases e)
  have md : L2.Mod K mg (hidT z.heap H) := ⟨kin, ns2 nsg, ⟨mb, ns2 nsb, bbt⟩, let ⟨mc, y1, y2⟩ := nol; ⟨mc, ns2 y1, y2⟩⟩
  have tbs : ∀ p ∈ cs, TabB (hidT z.heap H) mg p.1 p.2 := fun p hp => by
    have tp := tabs p hp
    obtain ⟨oG, esG, epG, eG, dG, _⟩ := nsg
    refine ⟨?_, ?_, fun y => by rw [y, tp] at eG; cases eG; cases dG⟩
    · obtain ⟨o, qs, file, tf, flags, tg, inF, text, tt, e1, r1, r2, r3, r4, r5, r6, r7, r8, hne⟩ := hds p hp
      exact ⟨o, qs, file, tf, flags, tg, inF, text, tt, grd e1 (un1 e1 (fun q n y => by rw [r2] at y; cases y) fun y => by rw [r2] at y; cases y; simp at r3), r1, r2, r3, r4, r5, r6, r7, r8, hne⟩
    · obtain ⟨bm, ob, b1, b2, b3, b4, b5, b6⟩ := bmod
      refine ⟨bm, ob, b1, b2, fun q => ?_, fun q => ?_, grd b3 (un1 b3 (fun q n y => by rw [b6] at y; cases y) fun y => by rw [b6] at y; cases y), b4, b5, b6⟩
      · rw [q, eG] at b3; cases b3; rw [dG] at b6; cases b6
      · rw [q, tp] at b3; cases b3; cases b6
  have e0 : Env0 P w K mg (hidT z.heap H) callerA [] z H := ⟨rfl, md, fun b o e => of_hidT e, Nat.le_of_eq (hidT_size _ _), trivial, fun b hb => absurd (show b ∈ ([] : List Addr) from hb) (by simp), ok, .of_eq gn⟩
  refine codeAny_mono ((F _ kin (ns2 nsg) tbs).run callerA [] z H ⟨[.ref a], []⟩ [.ref a] [.ref a] _ _ hr rfl e0 (hbind z (.ref a)) (.cons rfl .nil) hsp) fun r z' h => ?_
  cases r with
  | error e =>
    obtain ⟨_, _, _, _, _, _, _, _, _, _, _, _, bad⟩ := h
    exact bad.elim
  | ok fl =>
    cases fl with
    | next => exact h.elim
    | brk => exact h.elim
    | cont => exact h.elim
    | ret u =>
      obtain ⟨v, H', os, bare, un, ok', r', q⟩ := h
      have q' : v = .bl true := q
      subst q'
      obtain rfl : u = Value.bool true := r'
      have stay : ∀ b o, b ∉ cs.map (·.2) → z.heap.get? b = some o → z'.heap.get? b = some o := fun b o nb e => by
        cases q : H b with
        | none => exact un.keep b o e q (by intro y; exact absurd (show b ∈ ([] : List Addr) from y) (by simp)) (by simp)
        | some u =>
          rcases h2 b with y | y | ⟨ob, xs, y⟩
          · rw [q] at y; cases y
          · exact absurd y nb
          · obtain ⟨e1, _⟩ := ok b _ y
            obtain ⟨e2, _⟩ := ok' b _ (un.frzs b ob _ y)
            rw [e] at e1; cases e1
            exact e2
      refine ⟨rfl, ⟨fun b o e => ?_, fun b o e => ?_⟩, os, bare⟩
      · by_cases hb : b ∈ cs.map (·.2)
        · obtain ⟨p, hp, rfl⟩ := List.mem_map.mp hb
          obtain ⟨more, y⟩ := un.tbls p.2 #[] (h1 p hp)
          have hm := ok' p.2 _ y
          rw [tabs p hp] at e; cases e
          exact .inr (.inl ⟨((hds p hp).tab (tabs p hp)).isCodeTable, rfl, #[], more, rfl, by have hm : z'.heap.get? p.2 = some { cls := .none, data := .fields (#[] ++ more) } := hm; rw [Array.empty_append] at hm ⊢; exact hm⟩)
        · exact .inl (stay b o hb e)
      · by_cases hb : b ∈ cs.map (·.2)
        · obtain ⟨p, hp, rfl⟩ := List.mem_map.mp hb
          obtain ⟨more, y⟩ := un.tbls p.2 #[] (h1 p hp)
          exact ⟨_, ok' p.2 _ y⟩
        · exact ⟨o, stay b o hb e⟩
theorem law_callG {P : Program} {w : World} {K : PySem.W.Frag} {mg mb : Str → Option Value} {k : Nat} {fa a : Addr} {cs : List (Addr × Addr)} {fd : FuncData} {x : Str} {sp : Sp} {z : Shared} {us : List Value} {ns : List Int} (KX : K.In z.heap) (nsg : z.heap.Ns mainGlobals mg) (nsb : z.heap.Ns builtinsNs mb) (bbt : ∀ y : Str, y ≠ "__name__" → mb y = bootBuiltins y)
    (nol : z.heap.NoLimit) (gn : z.gens = #[]) (tabs : ∀ p ∈ cs, z.heap.get? p.2 = some { cls := .none, data := .fields #[] }) (ntab : ∀ p ∈ cs, K.lookup p.2 = none) (hds : ∀ p ∈ cs, PySem.W.CodeHd z.heap p.1 p.2)
    (bmod : ∃ (bm : Addr) (ob : Obj), mg "__builtins__" = some (.ref bm) ∧ bm ≠ builtinsNs ∧ z.heap.get? bm = some ob ∧ ob.cls = .type "module" ∧ ob.dict = some builtinsNs ∧ ob.data = .plain) (scr : z.heap.get? a = some { cls := .type "list", data := .seq us.toArray }) (hi : IntsAre us ns) (hl : ns.length ≤ sizeLine) (hr : Room k callerA)
    (F : ∀ base : Heap, K.In base → base.Ns mainGlobals mg → (∀ p ∈ cs, TabB base mg p.1 p.2) → FnG P w K mg base k fa fd [x] sp) (hbind : ∀ (s : Shared) (u : Value), BindsTo s fd ⟨[u], []⟩ [(x, u)])
    (hsp : ∀ H : Hp, (∀ p ∈ cs, H p.2 = some (.tbl #[])) → (∀ b ps, H b = some (.tbl ps) → b ∈ cs.map (·.2)) → ScrAt K H a (ns.map V.int) → sp [.ref a] H (fun v _ => v = .bl true) fun _ _ _ => False) :
    codeAny (model P w) callerA (.call (.ref fa) ⟨[.ref a], []⟩) (fun r z' => r = .ok (.ret (.bool true)) ∧ OldK z.heap z'.heap ∧ z'.os = z.os ∧ AllBare z'.gens) z := by
  have rv := vals_ints hi
  have lenV := hi.length
  have aT : a ∉ cs.map (·.2) := fun y => by
    obtain ⟨p, hp, q⟩ := List.mem_map.mp y
    have q2 := tabs p hp
    rw [q, scr] at q2
    have := congrArg Obj.data (Option.some.inj q2)
    cases this
  let H : Hp := fun b => if b ∈ cs.map (·.2) then some (.tbl #[]) else if b = a ∧ K.lookup a = none then some (.frz { cls := .type "list", data := .seq us.toArray } (.lst (ns.map V.int))) else none
  have hT : ∀ p ∈ cs, H p.2 = some (.tbl #[]) := fun p hp => if_pos (List.mem_map.mpr ⟨p, hp, rfl⟩)
  have hcase : ∀ b, (b ∈ cs.map (·.2) ∧ H b = some (.tbl #[])) ∨ (b ∉ cs.map (·.2) ∧ b = a ∧ K.lookup a = none ∧ H b = some (.frz { cls := .type "list", data := .seq us.toArray } (.lst (ns.map V.int)))) ∨ (H b = none) := fun b => by
    by_cases h1 : b ∈ cs.map (·.2)
    · exact .inl ⟨h1, if_pos h1⟩
    · by_cases h2 : b = a ∧ K.lookup a = none
      · exact .inr (.inl ⟨h1, h2.1, h2.2, (if_neg h1).trans (if_pos h2)⟩)
      · exact .inr (.inr ((if_neg h1).trans (if_neg h2)))
  refine law_coreG (H := H) KX nsg nsb bbt nol gn tabs ntab hds bmod scr hr F hbind hT (fun b => ?_) (fun b u y => ?_) (fun b y => ?_) (fun y => ?_) (hsp H hT (fun b ps y => ?_) ?_)
  · rcases hcase b with h | h | h
    · exact .inr (.inl h.1)
    · exact .inr (.inr ⟨_, _, h.2.2.2⟩)
    · exact .inl h
  · rcases hcase b with h | h | h
    · rw [h.2] at y
      cases y
      obtain ⟨p, hp, rfl⟩ := List.mem_map.mp h.1
      exact tabs p hp
    · rw [h.2.2.2] at y
      cases y
      rw [h.2.1]
      exact ⟨scr, by rw [List.length_map]; exact hl, us, _, rv, scr⟩
    · rw [h] at y; cases y
  · rcases hcase b with h | h | h
    · exact .inr h.1
    · exact .inl h.2.1
    · exact absurd h y
  · rcases hcase a with h | h | h
    · exact absurd h.1 aT
    · exact h.2.2.1
    · exact absurd h y
  · rcases hcase b with h | h | h
    · exact h.1
    · rw [h.2.2.2] at y; cases y
    · rw [h] at y; cases y
  · cases hk : K.lookup a with
    | none => exact .inl ⟨_, (if_neg aT).trans (if_pos ⟨rfl, hk⟩)⟩
    | some o =>
      have e := KX a o hk
      rw [scr] at e
      cases e
      exact .inr fun H' => .inr ⟨_, us.toArray, _, hk, rfl, rfl, rfl, by rw [List.size_toArray, lenV]; exact hl, by simpa using rv⟩
/-- what is known of the law's promise at the head's heap h -/
def LawG (l : PySem.W.OpenLaw) (w : World) (K : PySem.W.Frag) (k n : Nat) (x : Str) (mg : Str → Option Value) (fa : Addr) (h : Heap) : Prop :=
  ∃ (fd : FuncData) (cs : List (Addr × Addr)) (sp : Sp), (∀ p ∈ cs, h.get? p.2 = some { cls := .none, data := .fields #[] }) ∧ (∀ p ∈ cs, K.lookup p.2 = none) ∧ (∀ p ∈ cs, PySem.W.CodeHd h p.1 p.2) ∧ (∀ (s : Shared) (u : Value), BindsTo s fd ⟨[u], []⟩ [(x, u)]) ∧
    (∀ (H : Hp) (a : Addr) (ns : List Int), ns.length ≤ n → (∀ y ∈ ns, Builtin.Int.intBits y ≤ 1048576) → (∀ p ∈ cs, H p.2 = some (.tbl #[])) → (∀ b ps, H b = some (.tbl ps) → b ∈ cs.map (·.2)) → ScrAt K H a (ns.map V.int) → sp [.ref a] H (fun v _ => v = .bl true) fun _ _ _ => False) ∧
    ∀ base : Heap, K.In base → base.Ns mainGlobals mg → (∀ p ∈ cs, TabB base mg p.1 p.2) → FnG l.prog w K mg base k fa fd [x] sp
theorem walkG {l : PySem.W.OpenLaw} {n k : Nat} {q : Program} {loose : List Str} {XP : (Str → Option Value) → Heap → Prop} {YP : World → Heap → Prop} {d : DefRec} {x : Str} (hn : l.most = some n) (hn2 : n ≤ sizeLine) (hdf : d.params.defaults = []) (hr : Room k callerA)
    (F : ∀ (w : World) (mg : Str → Option Value) (fa : Addr) (h : Heap), YP w h → h.Ns mainGlobals mg → mg d.name = some (.ref fa) → ∃ K : PySem.W.Frag, K.In h ∧ LawG l w K k n x mg fa h) :
    PySem.W.WalkO q loose XP YP l.row.toRowW d [] (fun f vs => PySem.call f vs) := by
  refine Att.attach_callB hn hdf fun w s₀ s₁ mg mb fa o pm cd doc a vs ns G Y ho hd hcd hmg hobj hints hlen hbits hg => ?_
  obtain ⟨K, KX, fd, cs, sp, t1, t2, t3, hb, hsp, hF⟩ := F w mg fa _ Y G.T.g hmg
  exact law_callG KX G.T.g G.T.b G.T.builtins G.T.nolimit hg t1 t2 t3 G.T.bmain hobj hints (Nat.le_trans hlen hn2) hr hF hb fun H h1 h2 h3 => hsp H a ns hlen hbits h1 h2 h3
end Bb
namespace Bb
open PySem L2 PyProof.Rows LamX He
/-! ### what the head tells: own exception classes -/
def oexB (K : PySem.W.Frag) (C : Addr) : Bool := (match K.lookup C with
  | some ⟨.type t, _, .cls ⟨_, _, .ref C' :: bm, _, _, true, _, _, _, _, false⟩, ⟨[_, _, _, _, some (.builtin nb), _]⟩⟩ => decide (t = "type") && decide (C' = C) && decide (nb = "ValueError.__new__") && PySem.HandSPX.refsVE bm
  | _ => false) && decide (PySem.W.findIn K (.ref C) "__setattr__" = some (some (.builtin "object.__setattr__"))) && decide (PySem.W.subIn K (.ref C) (.type "BaseException") = some true) && decide (PySem.W.typeIn K (.ref C) = some (.type "type")) && PySem.W.keepIn K (.ref C)
theorem oexB_ok {K : PySem.W.Frag} {C : Addr} (h : oexB K C = true) : OexC K C := by
  unfold oexB at h
  simp only [Bool.and_eq_true, decide_eq_true_eq] at h
  obtain ⟨⟨⟨⟨h1, h2⟩, h3⟩, h4⟩, h5⟩ := h
  refine ⟨?_, h2, h3, h4, h5⟩
  split at h1
  · rename_i t dd nm bs C' bm N q sn sub ab col k0 k1 k2 k3 nb k5 e
    simp only [Bool.and_eq_true, decide_eq_true_eq] at h1
    obtain ⟨⟨⟨rfl, rfl⟩, rfl⟩, hb⟩ := h1
    exact ⟨nm, q, N, bs, bm, sn, sub, ab, col, dd, k0, k1, k2, k3, k5, e, hb⟩
  · cases h1
def xclsB (K : PySem.W.Frag) (D fI C : Addr) : Bool := oexB K C && decide (PySem.W.findIn K (.ref C) "__init__" = some (some (.ref fI))) && decide (PySem.W.typeIn K (.ref fI) = some (.type "function")) && decide (PySem.W.mroIn K C (.ref D) = some true) && decide (PySem.W.ks_superIn K C D "__init__" = some (some (.builtin "ValueError.__init__"))) &&
  decide (PySem.W.subIn K (.ref C) (.type "ValueError") = some true) && decide (PySem.W.findIn K (.ref C) "what" = some none)
theorem xclsB_ok {K : PySem.W.Frag} {D fI C : Addr} (h : xclsB K D fI C = true) : XCls K D fI C := by
  unfold xclsB at h
  simp only [Bool.and_eq_true, decide_eq_true_eq] at h
  obtain ⟨⟨⟨⟨⟨⟨h1, h2⟩, h3⟩, h4⟩, h5⟩, h6⟩, h7⟩ := h
  exact ⟨oexB_ok h1, h2, h3, h4, h5, h6, h7⟩
/-! the base class' __init__ -/
abbrev IniW : Type := Option (Str × Str × Arguments × FuncBody × Scope × Addr × List Str × Addr)
def iniW (K : PySem.W.Frag) (p : Defn) : IniW := match K.lookup (fAd K p) with
  | some ⟨_, _, .func fd, _⟩ => some (fd.name, fd.qualname, fd.params, fd.body, fd.scope, fd.globals, fd.closure.map (·.1), fd.builtins)
  | _ => none
def cellOf (K : PySem.W.Frag) (p : Defn) : Addr := match K.lookup (fAd K p) with
  | some ⟨_, _, .func fd, _⟩ => (match fd.closure with
    | [(_, cc)] => cc
    | _ => 0)
  | _ => 0
def xbaseB (K : PySem.W.Frag) (P : Program) (p : Defn) (qual : Str) : Bool := PySem.W.codeIn K (.ref (codeOf K p)) qual && (match K.lookup (codeOf K p) with
  | some ⟨_, _, .fields vs, _⟩ => (match (vs[2]? : Option Value) with
    | some (.str file _) => ((P.main.file : Str) == file)
    | _ => false)
  | _ => false) && (match K.lookup (cellOf K p) with
  | some ⟨_, _, .cell (some (.ref D')), _⟩ => decide (D' = ga K p.1)
  | _ => false) && (PySem.W.clsIn K (ga K p.1)).isSome && !(P.main.scope.names.lookup ("super" : Str)).isSome && decide (PySem.W.nsIn K cStatics "thirdparty.any" = some none) && (match K.lookup (fAd K p) with
  | some ⟨_, _, .func fd, _⟩ => (match fd.code, fd.defaults with
    | .ref _, .none => true
    | _, _ => false)
  | _ => false)
theorem xbaseB_ok {K : PySem.W.Frag} {P : Program} {p : Defn} {qual : Str} {params : Arguments} {body : List Stmt} {scope : Scope} (h : xbaseB K P p qual = true) (hi : iniW K p = (some ((PySem.Str.ofString "__init__" : Str), qual, params, FuncBody.stmts body, scope, mainGlobals, [(PySem.Str.ofString "__class__" : Str)], builtinsNs) : IniW)) :
    XBase K P (ga K p.1) (fAd K p) (codeOf K p) (cellOf K p) qual params body scope ∧ ∃ fd, (∃ oc od osl, K.lookup (fAd K p) = some ⟨oc, od, .func fd, osl⟩) ∧ ∃ kV doc pm an cdv ct, fd = PySem.W.ksFn "__init__" qual params body scope .none kV doc pm an cdv ct (cellOf K p) := by
  unfold xbaseB at h
  simp only [Bool.and_eq_true, decide_eq_true_eq, Bool.not_eq_true'] at h
  obtain ⟨⟨⟨⟨⟨⟨h1, h2⟩, h3⟩, h4⟩, h5⟩, h6⟩, h7⟩ := h
  unfold iniW at hi
  split at hi
  · rename_i oc od fd osl e
    obtain ⟨fnm, fq, fp, fb, fs, fg, fcl, fdef, fkw, fdoc, fpm, fan, fcode, fct, fbu⟩ := fd
    simp only [Option.some.injEq, Prod.mk.injEq] at hi
    obtain ⟨rfl, rfl, rfl, rfl, rfl, rfl, hcl, rfl⟩ := hi
    obtain ⟨y, rfl⟩ : ∃ y, fcl = [y] := by
      cases fcl with
      | nil => cases hcl
      | cons y r =>
        cases r with
        | nil => exact ⟨y, rfl⟩
        | cons y2 r2 => simp at hcl
    obtain ⟨yn, yc⟩ := y
    have hyn : yn = ("__class__" : Str) := by simpa using hcl
    subst hyn
    have hcc : cellOf K p = yc := by
      unfold cellOf
      rw [e]
    rw [e] at h7
    have hcode : ∃ c, fcode = .ref c ∧ fdef = .none := by
      cases fcode <;> first | (cases fdef <;> first | exact ⟨_, rfl, rfl⟩ | (cases h7; done)) | (cases h7; done)
    obtain ⟨c, rfl, rfl⟩ := hcode
    have hco : codeOf K p = c := codeOf_eq e rfl
    rw [hcc] at h3 ⊢
    refine ⟨⟨⟨oc, od, osl, .none, fkw, fdoc, fpm, fan, fct, by rw [hco]; exact e⟩, h1, ?_, ?_, ?_, h5, h6⟩, _, ⟨oc, od, osl, e⟩, fkw, fdoc, fpm, fan, .ref c, fct, rfl⟩
    · cases q : K.lookup (codeOf K p) with
      | none => rw [q] at h2; cases h2
      | some o =>
        obtain ⟨o1, o2, o3, o4⟩ := o
        rw [q] at h2
        cases o3 with
        | fields vs =>
          cases q2 : vs[2]? with
          | none => simp only [q2] at h2; cases h2
          | some v =>
            simp only [q2] at h2
            cases v with
            | str file tf => exact ⟨o1, o2, vs, o4, tf, file, rfl, q2, h2⟩
            | _ => cases h2
        | _ => cases h2
    · cases q : K.lookup yc with
      | none => rw [q] at h3; cases h3
      | some o =>
        obtain ⟨o1, o2, o3, o4⟩ := o
        rw [q] at h3
        cases o3 with
        | cell u =>
          cases u with
          | none => cases h3
          | some v =>
            cases v with
            | ref D' =>
              have e3 : D' = ga K p.1 := of_decide_eq_true h3
              exact ⟨o1, o2, o4, by rw [e3]⟩
            | _ => cases h3
        | _ => cases h3
    · exact Option.isSome_iff_exists.mp h4
  · cases hi
end Bb
namespace Bb
open PySem L2 PyProof.Rows LamX He
/-! ### our own Hook: the kit's facts, and the __init__ of own exceptions -/
def adB (g : Addr → Option Obj) (n : Nat) : List Addr := asD g n ++ [cStatics]
abbrev AlB : Type := AlX × List IniW
def obsK (fa : List Fa) (fn : List DefD) (tf ini : List Defn) (ex : PySem.W.Frag → Bool) (g : Addr → Option Obj) (K : PySem.W.Frag) : AlB := ((obsT fa fn [] K, ex K && tabsB g tf K), ini.map (iniW K))
def obsB (n : Nat) (fa : List Fa) (fn : List DefD) (tf ini : List Defn) (ex : PySem.W.Frag → Bool) (g : Addr → Option Obj) : AlB := obsK fa fn tf ini ex g (frT g (adB g n))
def valB (fn : List DefD) (iv : List IniW) (w : World) : AlB := ((valT fn [] w, true), iv)
structure SaysB (fa : List Fa) (fn : List DefD) (tf ini : List Defn) (ex : PySem.W.Frag → Bool) (iv : List IniW) (w : World) (h : Heap) (K : PySem.W.Frag) : Prop where
  x : SaysX fa fn [] tf ex w h K
  ini : ini.map (iniW K) = iv
theorem saysB_of {as : List Addr} {fa : List Fa} {fn : List DefD} {tf ini : List Defn} {ex : PySem.W.Frag → Bool} {iv : List IniW} {w : World} {h : Heap} (e : obsK fa fn tf ini ex h.get? (frT h.get? as) = valB fn iv w) : SaysB fa fn tf ini ex iv w h (frT h.get? as) := by
  generalize hK : frT h.get? as = K at e
  have e1 : obsT fa fn [] K = valT fn [] w := congrArg (fun z : AlB => z.1.1) e
  have e2 : (ex K && tabsB h.get? tf K) = true := congrArg (fun z : AlB => z.1.2) e
  have e3 : ini.map (iniW K) = iv := congrArg (fun z : AlB => z.2) e
  obtain ⟨y1, y2⟩ := Bool.and_eq_true_iff.mp e2
  have each : ∀ p ∈ tf, PySem.W.codeHdIn K (cT K p).1 (cT K p).2 = true ∧ ∃ o, h.get? (cT K p).2 = some o ∧ emptyTab o = true := fun p hp => by
    obtain ⟨y3, y4⟩ := Bool.and_eq_true_iff.mp (List.all_eq_true.mp y2 p hp)
    cases q : h.get? (cT K p).2 with
    | none => simp only [q] at y4; cases y4
    | some o => simp only [q] at y4; exact ⟨y3, o, rfl, y4⟩
  refine ⟨⟨e1, y1, fun p hp => (each p hp).1, fun p hp => ?_, fun p hp => ?_⟩, e3⟩
  · obtain ⟨_, o, q, z⟩ := each p hp
    rw [← hK]
    exact frT_none (by rw [hK]; exact q) z
  · obtain ⟨_, o, q, z⟩ := each p hp
    rw [q, emptyTab_eq z]
def hookB (n : Nat) (fa : List Fa) (fn : List DefD) (tf ini : List Defn) (ex : PySem.W.Frag → Bool) (iv : List IniW) : PySem.W.Hook where
  α := AlB
  obs := fun s => obsB n fa fn tf ini ex s.heap.get?
  val := fun w => valB fn iv w
  says := fun w h => ∃ K : PySem.W.Frag, K.In h ∧ SaysB fa fn tf ini ex iv w h K
  of := fun _ _ e => ⟨_, frT_in, saysB_of e⟩
  keeps := fun _ _ _ ⟨K, hK, c⟩ k => ⟨K, PySem.W.Frag.In.keeps hK k, ⟨⟨c.x.t, c.x.more, c.x.hd, c.x.out, fun p hp => k _ _ (c.x.empty p hp)⟩, c.ini⟩⟩
theorem obsB_eq {n : Nat} {fa : List Fa} {fn : List DefD} {tf ini : List Defn} {ex : PySem.W.Frag → Bool} {iv : List IniW} {g : Addr → Option Obj} {s : Shared} (h : ∀ a, g a = s.heap.get? a) : obsB n fa fn tf ini ex g = (hookB n fa fn tf ini ex iv).obs s := by
  have e : g = s.heap.get? := funext h
  rw [e]
  rfl
/-! ### the facts of a text -/
def dOf (d : DefT) : DefD := ⟨(d.x, none), d.x, d.x, d.params, d.body, d.scope, [], []⟩
def faOf (pr : Pg) : List Fa := pr.defs.map (fun d => Fa.glo d.x) ++ pr.xs.map Fa.glo ++ bltNames.map Fa.free ++ pr.con.filterMap fun c => match c.2 with
  | .int i => some (Fa.int c.1 i)
  | _ => none
def tfOf (pr : Pg) : List Defn := (pr.defs.filter fun d => d.lamb).map fun d => (d.x, none)
def lamName (d : DefT) : Str := (envOfC d.x d.scope 0 0 .none).qual ++ "<lambda>"
def tabT (K : PySem.W.Frag) (pr : Pg) : List (Addr × Str) := (pr.defs.filter fun d => d.lamb).map fun d => ((cT K (d.x, none)).2, lamName d)
def subB (K : PySem.W.Frag) (pr : Pg) : Bool := pr.xs.all fun c => pr.xs.all fun x => match pr.sb c x with
  | some b => decide (PySem.W.exmOne K (.ref (ga K c)) (.ref (ga K x)) = some b) && decide (PySem.W.kitOne K (.ref (ga K c)) (.ref (ga K x)) = some b)
  | none => true
def nodupB : List Addr → Bool
  | [] => true
  | a :: r => !r.contains a && nodupB r
def exOf (P : Program) (pr : Pg) (p : Defn) (qual : Str) (K : PySem.W.Frag) : Bool := xbaseB K P p qual && (pr.xs.all fun c => xclsB K (ga K p.1) (fAd K p) (ga K c) && xfB K (ga K c) && eiB K (ga K c)) && subB K pr && nodupB ((tabT K pr).map (·.1))
def gOf (K : PySem.W.Frag) (pr : Pg) : G := ⟨K, tabT K pr, fun x => ga K x⟩
/-- what the text's words must keep, looked at by decide -/
structure PgT (pr : Pg) : Prop where
  sc : ∀ d ∈ pr.defs, FnScope d.N d.ps d.scope
  bd : ∀ d ∈ pr.defs, ∀ (K : PySem.W.Frag) (f : Addr) (fd : FuncData), FunD K d.x d.x d.params d.body d.scope [] [] f fd → L2.Binds K fd d.ps []
  kb : ∀ d ∈ pr.defs, pr.kwn.contains d.x = true → ∀ (K : PySem.W.Frag) (f : Addr) (fd : FuncData), FunD K d.x d.x d.params d.body d.scope [] [] f fd → KwB K fd d.ps
  con : ∀ c ∈ pr.con, ∃ i, c.2 = .int i
  sb : ∀ c x b, pr.sb c x = some b → c ∈ pr.xs ∧ x ∈ pr.xs
theorem nodupB_ok : ∀ {l : List (Addr × Str)}, nodupB (l.map (·.1)) = true → ∀ a ∈ l, ∀ b ∈ l, a.1 = b.1 → a = b
  | [], _, a, ha, _, _, _ => by cases ha
  | y :: r, h, a, ha, b, hb, e => by
    unfold nodupB at h
    simp only [List.map_cons] at h
    have h : (!(r.map (·.1)).contains y.1 && nodupB (r.map (·.1))) = true := h
    rw [Bool.and_eq_true] at h
    have no : ∀ c ∈ r, c.1 ≠ y.1 := fun c hc z => by
      have h1 := h.1
      simp only [Bool.not_eq_true', List.contains_eq_mem, decide_eq_false_iff_not] at h1
      exact h1 (List.mem_map.mpr ⟨c, hc, z⟩)
    rcases List.mem_cons.mp ha with e1 | ha'
    · rcases List.mem_cons.mp hb with e2 | hb'
      · rw [e1, e2]
      · exact absurd (by rw [← e, e1]) (no b hb')
    · rcases List.mem_cons.mp hb with e2 | hb'
      · exact absurd (by rw [e, e2]) (no a ha')
      · exact nodupB_ok h.2 a ha' b hb' e
theorem lookup_in {x : Str} {p : PV} : ∀ {l : List (Str × PV)}, l.lookup x = some p → (x, p) ∈ l := fun h => PySem.mem_of_lookup h
theorem pg_ok {P : Program} {w : World} {K : PySem.W.Frag} {mg : Str → Option Value} {base h : Heap} {pr : Pg} {x0 qual : Str} {params : Arguments} {scope : Scope} {p0 p1 p2 p3 p4 p5 q0 q1 q2 q3 : Pos} (T : PgT pr) (c : SaysB (faOf pr) (pr.defs.map dOf) (tfOf pr) [(x0, some "__init__")] (exOf P pr (x0, some "__init__") qual) [(some ((PySem.Str.ofString "__init__" : Str), qual, params, FuncBody.stmts (xiB p0 p1 p2 p3 p4 p5 q0 q1 q2 q3), scope, mainGlobals, [(PySem.Str.ofString "__class__" : Str)], builtinsNs) : IniW)] w h K)
    (KX : K.In base) (G : base.Ns mainGlobals mg) (tb : ∀ q ∈ (tfOf pr).map (cT K), TabB base mg q.1 q.2) (S : NdefX.NScope ["self", "what", "__class__"] ["self", "what"] ["__class__"] scope) (hsup : scope.names.lookup ("super" : Str) = some .globalImplicit) (hpar : ∃ ar, (params.posonlyargs ++ params.args).head? = some ar ∧ ar.arg = "self") (hline : (p2.endLine == p4.line) = true)
    (hbi : ∀ (kV doc pm : Value) (an : Option Addr) (cdv ct : Value) (cc : Addr) (us : List Value), us.length = 2 → bindArgs (PySem.W.ksFn "__init__" qual params (xiB p0 p1 p2 p3 p4 p5 q0 q1 q2 q3) scope .none kV doc pm an cdv ct cc) ⟨us, []⟩ = pure ((["self", "what"] : List Str).zip us)) : PgOk (gOf K pr) P w K mg base pr := by
  have D := c.x.t.d
  have ex := c.x.more
  unfold exOf at ex
  simp only [Bool.and_eq_true, List.all_eq_true] at ex
  obtain ⟨⟨⟨ex1, ex2⟩, ex3⟩, ex4⟩ := ex
  have ini := c.ini
  simp only [List.map_cons, List.map_nil, List.cons.injEq, and_true] at ini
  obtain ⟨XB, fdI, ⟨ocI, odI, oslI, lkI⟩, kV, doc, pm, an, cdv, ct, efd⟩ := xbaseB_ok ex1 ini
  have free : ∀ x ∈ bltNames, mg x = none := fun x hx => free_ok KX G (SaysD.facts D (f := .free x) (by
    unfold faOf
    exact List.mem_append_left _ (List.mem_append_right _ (List.mem_map.mpr ⟨x, hx, rfl⟩))))
  refine ⟨rfl, fun d hd => ?_, fun d hd hc f fd F => T.kb d hd hc K f fd F, fun x p hx => ?_, free, fun x hx => xfB_ok (ex2 x hx).1.2, fun x hx => eiB_ok (ex2 x hx).2, fun cc x b hb => ?_, fun cc x b hb => ?_, fun x hx => ?_⟩
  · obtain ⟨fd, F⟩ := SaysD.defs D (d := dOf d) (List.mem_map.mpr ⟨d, hd, rfl⟩)
    have F : FunD K d.x d.x d.params d.body d.scope [] [] (ga K d.x) fd := F
    have gl := glo_ok KX G (SaysD.facts D (f := .glo d.x) (by
      unfold faOf
      exact List.mem_append_left _ (List.mem_append_left _ (List.mem_append_left _ (List.mem_map.mpr ⟨d, hd, rfl⟩)))))
    refine ⟨ga K d.x, fd, gl, F.kp, T.bd d hd K _ fd F, F, T.sc d hd, fun hl => ?_⟩
    have hf : d ∈ pr.defs.filter fun d => d.lamb := List.mem_filter.mpr ⟨hd, hl⟩
    have htf : (d.x, none) ∈ tfOf pr := List.mem_map.mpr ⟨d, hf, rfl⟩
    obtain ⟨oc, od, dV, kV, doc, pm, an, cdv, ct, osl, e1, lk, hcd, _, _⟩ := F.ex
    obtain ⟨cc, hcc⟩ := codeIn_ref hcd
    have hco : codeOf K (d.x, none) = cc := codeOf_eq (p := (d.x, none)) lk (by rw [e1]; exact hcc)
    have hin : ((cT K (d.x, none)).2, lamName d) ∈ tabT K pr := List.mem_map.mpr ⟨d, hf, rfl⟩
    refine ⟨(cT K (d.x, none)).1, (cT K (d.x, none)).2, ?_, tb _ (List.mem_map.mpr ⟨_, htf, rfl⟩), hin, fun q hq e => ?_⟩
    · show fd.code = .ref (codeOf K (d.x, none))
      rw [hco, e1]
      exact hcc
    · have := nodupB_ok ex4 q hq _ hin e
      rw [this]
      rfl
  · have hm := lookup_in hx
    obtain ⟨i, hi⟩ := T.con _ hm
    have hi : p = .int i := hi
    subst hi
    obtain ⟨t, ht⟩ := int_ok KX G (SaysD.facts D (f := .int x i) (by
      unfold faOf
      exact List.mem_append_right _ (List.mem_filterMap.mpr ⟨(x, .int i), hm, rfl⟩)))
    exact ⟨_, .int i, ht, ⟨t, rfl⟩, fun _ _ => int_vr _, fun _ z => by cases z⟩
  · obtain ⟨h1, h2⟩ := T.sb cc x b hb
    have := List.all_eq_true.mp (List.all_eq_true.mp ex3 cc h1) x h2
    simp only [hb, Bool.and_eq_true] at this
    exact of_decide_eq_true this.2
  · obtain ⟨h1, h2⟩ := T.sb cc x b hb
    refine ⟨h1, ?_⟩
    have := List.all_eq_true.mp (List.all_eq_true.mp ex3 cc h1) x h2
    simp only [hb, Bool.and_eq_true] at this
    exact of_decide_eq_true this.1
  · have gl := glo_ok KX G (SaysD.facts D (f := .glo x) (by
      unfold faOf
      exact List.mem_append_left _ (List.mem_append_left _ (List.mem_append_right _ (List.mem_map.mpr ⟨x, hx, rfl⟩)))))
    refine ⟨ga K x0, fAd K (x0, some "__init__"), fdI, gl, xclsB_ok (ex2 x hx).1.1, xi_ok (k := 0) XB S hsup hpar (free _ (by decide)) hline (fun _ => trivial) ⟨ocI, odI, oslI, lkI⟩, ?_⟩
    rw [efd]
    exact .all (hbi kV doc pm an cdv ct _)
end Bb
namespace Bb
open PySem L2 PyProof.Rows LamX He
section
variable {g : G} {P : Program} {w : World} {K : PySem.W.Frag} {mg : Str → Option Value} {base : Heap} {pr : Pg}
theorem lev_fn (o : PgOk g P w K mg base pr) {x : Str} {d : DefT} (hd : pr.find x = some d) {f : Addr} {fd : FuncData} (D : DfOk g K mg base d f fd) : ∀ k, FnG P w K mg base (k + 4) f fd d.ps (spF g d.ps.length ((lev pr k).1 x))
  | 0 => fng_bad (x := x)
  | k + 1 => by
    obtain ⟨h1, h2, h3⟩ := lev_ok o k
    show FnG P w K mg base (k + 5) f fd d.ps (spF g d.ps.length (stepF pr (lev pr k).1 (lev pr k).2.1 (lev pr k).2.2 x))
    cases hb : bodyK pr d (lev pr k).1 (lev pr k).2.2 (hears pr (lev pr k).2.1) none with
    | none =>
      have e : stepF pr (lev pr k).1 (lev pr k).2.1 (lev pr k).2.2 x = badF x := by
        funext args st
        unfold stepF
        simp only [hd, hb]
        rfl
      rw [e]
      exact fng_bad
    | some b =>
      have e : stepF pr (lev pr k).1 (lev pr k).2.1 (lev pr k).2.2 x = runF d.N.length b := by
        funext args st
        unfold stepF
        simp only [hd, hb]
      rw [e]
      exact fng_def D h1 (fun x hd h => ⟨hr_def o h2 h, k, Nat.le_refl _, h3⟩) hb
end
/-- the pure side of a law -/
def LawTrue (pr : Pg) (kk : Nat) : Prop := ∀ ns : List Int, ns.length ≤ 63 → (∀ y ∈ ns, Builtin.Int.intBits y ≤ 1048576) → ∃ st, (lev pr kk).1 "law" [.ro (ns.map .int)] [] = .ok (.bl true) st
theorem law_sp {K : PySem.W.Frag} {pr : Pg} {kk : Nat} {H : Hp} {a : Addr} {ns : List Int} {h1 : ∀ p ∈ (tfOf pr).map (cT K), H p.2 = some (.tbl #[])} (h2 : ∀ b ps, H b = some (.tbl ps) → b ∈ ((tfOf pr).map (cT K)).map (·.2)) (hs : ScrAt K H a (ns.map V.int)) (hl : ns.length ≤ 63) {st : Sto} (hp : (lev pr kk).1 "law" [.ro (ns.map .int)] [] = .ok (.bl true) st) :
    spF (gOf K pr) 1 ((lev pr kk).1 "law") [.ref a] H (fun v _ => v = .bl true) fun _ _ _ => False := by
  refine ⟨rfl, ⟨[], []⟩, [], [.ro (ns.map .int)], ⟨by simp, rfl, fun a m => absurd m (by simp), fun n a m h => by simp at h, fun q hq => ?_, fun b ps z => ?_⟩, .cons ?_ .nil, ?_⟩
  · obtain ⟨d, hd, rfl⟩ := List.mem_map.mp (show q ∈ tabT K pr from hq)
    exact TabS.nil (h1 _ (List.mem_map.mpr ⟨(d.x, none), List.mem_map.mpr ⟨d, hd, rfl⟩, rfl⟩))
  · obtain ⟨p, hp1, hp2⟩ := List.mem_map.mp (h2 b ps z)
    obtain ⟨dn, hdn, rfl⟩ := List.mem_map.mp hp1
    obtain ⟨d, hd, rfl⟩ := List.mem_map.mp hdn
    exact ⟨lamName d, List.mem_map.mpr ⟨d, hd, by rw [← hp2]⟩⟩
  · unfold VR
    refine ⟨a, ns.map V.int, rfl, hs, by rw [List.length_map, sizeLine_eq]; omega, ints_vrs (g := gOf K pr) ns⟩
  · rw [hp]
    intro ρ' H' u Po
    exact vr_bl Po.vr
theorem lawG_of {l : PySem.W.OpenLaw} {w : World} {K : PySem.W.Frag} {mg : Str → Option Value} {h : Heap} {fa : Addr} {pr : Pg} {kk : Nat} {dL : DefT} {x x0 qual : Str} {params : Arguments} {scope : Scope} {p0 p1 p2 p3 p4 p5 q0 q1 q2 q3 : Pos} (T : PgT pr) (c : SaysB (faOf pr) (pr.defs.map dOf) (tfOf pr) [(x0, some "__init__")] (exOf l.prog pr (x0, some "__init__") qual) [(some ((PySem.Str.ofString "__init__" : Str), qual, params, FuncBody.stmts (xiB p0 p1 p2 p3 p4 p5 q0 q1 q2 q3), scope, mainGlobals, [(PySem.Str.ofString "__class__" : Str)], builtinsNs) : IniW)] w h K)
    (KX : K.In h) (G : h.Ns mainGlobals mg) (hfa : mg ("law" : Str) = some (.ref fa)) (S : NdefX.NScope ["self", "what", "__class__"] ["self", "what"] ["__class__"] scope) (hsup : scope.names.lookup ("super" : Str) = some .globalImplicit) (hpar : ∃ ar, (params.posonlyargs ++ params.args).head? = some ar ∧ ar.arg = "self") (hline : (p2.endLine == p4.line) = true)
    (hbi : ∀ (kV doc pm : Value) (an : Option Addr) (cdv ct : Value) (cc : Addr) (us : List Value), us.length = 2 → bindArgs (PySem.W.ksFn "__init__" qual params (xiB p0 p1 p2 p3 p4 p5 q0 q1 q2 q3) scope .none kV doc pm an cdv ct cc) ⟨us, []⟩ = pure ((["self", "what"] : List Str).zip us))
    (hL : pr.find "law" = some dL) (hps : dL.ps = [x]) (hbl : ∀ (kV doc pm : Value) (an : Option Addr) (cdv ct : Value) (us : List Value), us.length = 1 → bindArgs (PySem.W.fnOf dL.x dL.x dL.params dL.body dL.scope .none kV doc pm an cdv ct) ⟨us, []⟩ = pure ([x].zip us)) (pure_ : LawTrue pr kk) : LawG l w K (kk + 4) 63 x mg fa h := by
  obtain ⟨hmem, hx⟩ := find_mem hL
  have D := c.x.t.d
  obtain ⟨fd, F⟩ := SaysD.defs D (d := dOf dL) (List.mem_map.mpr ⟨dL, hmem, rfl⟩)
  have F : FunD K dL.x dL.x dL.params dL.body dL.scope [] [] (ga K dL.x) fd := F
  refine ⟨fd, (tfOf pr).map (cT K), spF (gOf K pr) 1 ((lev pr kk).1 "law"), fun p hp => ?_, fun p hp => ?_, fun p hp => ?_, fun s u => ?_, fun H a ns hl hb h1 h2 hs => ?_, fun base hK hG tb => ?_⟩
  · obtain ⟨q, hq, rfl⟩ := List.mem_map.mp hp
    exact c.x.empty q hq
  · obtain ⟨q, hq, rfl⟩ := List.mem_map.mp hp
    exact c.x.out q hq
  · obtain ⟨q, hq, rfl⟩ := List.mem_map.mp hp
    exact PySem.W.codeHd_of_K KX (c.x.hd q hq)
  · exact FunD.bindsA (ps := [x]) F hbl s [u] rfl
  · obtain ⟨st, hp⟩ := pure_ ns hl hb
    exact law_sp (h1 := h1) h2 hs hl hp
  · have o := pg_ok T c hK hG tb S hsup hpar hline hbi
    obtain ⟨f2, fd2, D2⟩ := o.defs dL hmem
    have gl := glo_ok KX G (SaysD.facts D (f := .glo dL.x) (by
      unfold faOf
      exact List.mem_append_left _ (List.mem_append_left _ (List.mem_append_left _ (List.mem_map.mpr ⟨dL, hmem, rfl⟩)))))
    have ef : fa = ga K dL.x := by
      rw [hx] at gl
      rw [hfa] at gl
      have := Option.some.inj gl
      cases this
      rw [hx]
    have gl2 := glo_ok hK hG (SaysD.facts D (f := .glo dL.x) (by
      unfold faOf
      exact List.mem_append_left _ (List.mem_append_left _ (List.mem_append_left _ (List.mem_map.mpr ⟨dL, hmem, rfl⟩)))))
    have ef2 : f2 = ga K dL.x := by
      have := D2.hm.symm.trans gl2
      cases this
      rfl
    have efd : fd2 = fd := by
      obtain ⟨_, _, _, _, _, _, _, _, _, _, _, lk, _⟩ := F.ex
      obtain ⟨_, _, _, _, _, _, _, _, _, _, _, lk2, _⟩ := D2.fn.ex
      rw [ef2, lk] at lk2
      cases lk2
      rfl
    subst ef2
    subst efd
    have r := lev_fn o hL D2 kk
    rw [hps] at r
    rw [ef]
    exact r
end Bb
namespace Bb
open PySem L2 PyProof.Rows LamX He
/-! ### looks at a text's words, by decide -/
def fnScB (d : DefT) : Bool := decide (d.scope.kind = .function) && !d.scope.isCoroutine && !d.scope.isGenerator && decide d.N.Nodup && decide (d.N.take d.ps.length = d.ps) && (d.ps.all fun x => decide (d.scope.names.lookup x = some .local) || decide (d.scope.names.lookup x = some .cell)) && d.scope.names.all fun y => !decide (y.2 = .free)
theorem fnScB_ok {d : DefT} (h : fnScB d = true) : FnScope d.N d.ps d.scope := by
  unfold fnScB at h
  simp only [Bool.and_eq_true, Bool.not_eq_true', decide_eq_true_eq, decide_eq_false_iff_not, List.all_eq_true, Bool.or_eq_true] at h
  obtain ⟨⟨⟨⟨⟨⟨h1, h2⟩, h3⟩, h4⟩, h5⟩, h6⟩, h7⟩ := h
  exact ⟨h1, h2, h3, h4, h5, h6, h7⟩
theorem sc_all {pr : Pg} (h : pr.defs.all fnScB = true) : ∀ d ∈ pr.defs, FnScope d.N d.ps d.scope := fun d hd => fnScB_ok (List.all_eq_true.mp h d hd)
def conB (pr : Pg) : Bool := pr.con.all fun c => match c.2 with
  | .int _ => true
  | _ => false
theorem conB_ok {pr : Pg} (h : conB pr = true) : ∀ c ∈ pr.con, ∃ i, c.2 = .int i := fun c hc => by
  have := List.all_eq_true.mp h c hc
  obtain ⟨n, v⟩ := c
  cases v <;> first | exact ⟨_, rfl⟩ | cases this
theorem mem_lk {α β : Type} [BEq α] [LawfulBEq α] {a : α} {b : β} : ∀ {l : List (α × β)}, l.lookup a = some b → (a, b) ∈ l
  | [], h => by cases h
  | (x, y) :: r, h => by
    rw [List.lookup_cons] at h
    cases q : (a == x) with
    | true =>
      rw [q] at h
      cases h
      rw [eq_of_beq q]
      exact List.mem_cons_self
    | false =>
      rw [q] at h
      exact List.mem_cons_of_mem _ (mem_lk h)
theorem sb_all {l : List ((Str × Str) × Bool)} {xs : List Str} (h : (l.all fun y => decide (y.1.1 ∈ xs) && decide (y.1.2 ∈ xs)) = true) : ∀ c x b, l.lookup (c, x) = some b → c ∈ xs ∧ x ∈ xs := fun c x b hl => by
  have := List.all_eq_true.mp h ((c, x), b) (mem_lk hl)
  simpa using this
end Bb
namespace Bb
open PySem L2 PyProof.Rows LamX He
/-! ### one level of calls -/
theorem step_eq {pr : Pg} {k : Nat} {x : Str} {d : DefT} {b : DS} (hf : pr.find x = some d) (hb : bodyK pr d (lev pr k).1 (lev pr k).2.2 (hears pr (lev pr k).2.1) none = some b) (args : List PV) (st : Sto) : (lev pr (k + 1)).1 x args st = runF d.N.length b args st := by
  show stepF pr (lev pr k).1 (lev pr k).2.1 (lev pr k).2.2 x args st = _
  unfold stepF
  simp only [hf, hb]
theorem low1 (pr : Pg) (k : Nat) : (lev pr (k + 1)).2.1 = (lev pr k).1 := rfl
theorem low2 (pr : Pg) (k : Nat) : (lev pr (k + 2)).2.2 = (lev pr k).1 := rfl
end Bb
namespace Bb
open PySem L2 PyProof.Rows LamX He
/-! ### frz, by forms -/
@[simp] theorem frz_non : frz .non = .non := rfl
@[simp] theorem frz_int (i : Int) : frz (.int i) = .int i := rfl
@[simp] theorem frz_bl (i : Bool) : frz (.bl i) = .bl i := rfl
@[simp] theorem frz_str (i : Str) : frz (.str i) = .str i := rfl
@[simp] theorem frz_tup (i : List PV) : frz (.tup i) = .tup i := rfl
@[simp] theorem frz_fl (i : List PV) : frz (.fl i) = .fl i := rfl
@[simp] theorem frz_tl (i : List PV) : frz (.tl i) = .fl i := rfl
@[simp] theorem frz_ro (i : List PV) : frz (.ro i) = .ro i := rfl
@[simp] theorem frz_loc (i : Nat) : frz (.loc i) = .loc i := rfl
@[simp] theorem frz_ty (i : String) : frz (.ty i) = .ty i := rfl
/-! ### loops in plain Lean -/
theorem forL_nil (all : List PV) (bt : BT) (body : DS) (env : En) (st : Sto) : forL none all bt body [] env st = .nx env st := by
  unfold forL
  rw [if_pos (show chkP none all st from trivial)]
theorem forL_cons (all : List PV) (bt : BT) (body : DS) (x : PV) (xs : List PV) (env : En) (st : Sto) : forL none all bt body (x :: xs) env st = (match bt (frz x) env with
    | none => .bad
    | some env1 => match body env1 st with
      | .nx e s => forL none all bt body xs e s
      | .ct e s => forL none all bt body xs e s
      | .bk e s => .nx e s
      | r => r) := by
  rw [forL]
  refine Eq.trans (if_pos (show chkP none all st from trivial)) ?_
  cases bt (frz x) env with
  | none => rfl
  | some env1 => first | rfl | (dsimp only; cases body env1 st <;> rfl)
theorem lcL_nil (all : List PV) (bt : BT) (tst : DT) (elt : D) (env : En) (acc : List PV) (st : Sto) : lcL none all bt tst elt env [] acc st = .ok (.tl acc) st := by
  rw [lcL]
  rw [if_pos (show chkP none all st from trivial)]
theorem lcL_cons (all : List PV) (bt : BT) (tst : DT) (elt : D) (env : En) (x : PV) (xs acc : List PV) (st : Sto) : lcL none all bt tst elt env (x :: xs) acc st = (match bt (frz x) env with
    | none => .bad
    | some env1 => (noX (tst env1 st)).bind fun b st1 => if b = true then (noX (elt env1 st1)).bind fun v st2 => lcL none all bt tst elt env xs (acc ++ [frz v]) st2 else lcL none all bt tst elt env xs acc st1) := by
  rw [lcL]
  refine Eq.trans (if_pos (show chkP none all st from trivial)) ?_
  cases bt (frz x) env <;> rfl
/-- a comprehension whose test and element leave the store alone -/
theorem lcL_map {all : List PV} {bt : BT} {tst : DT} {elt : D} {env : En} {st : Sto} {e : PV → En} {p : PV → Bool} {f : PV → PV} : ∀ (xs acc : List PV), (∀ x ∈ xs, bt (frz x) env = some (e x) ∧ tst (e x) st = .ok (p x) st ∧ (p x = true → elt (e x) st = .ok (f x) st)) →
    lcL none all bt tst elt env xs acc st = .ok (.tl (acc ++ (xs.filter p).map fun x => frz (f x))) st
  | [], acc, _ => by rw [lcL_nil]; simp
  | x :: xs, acc, h => by
    obtain ⟨h1, h2, h3⟩ := h x List.mem_cons_self
    have ih := fun acc => lcL_map (all := all) xs acc fun y hy => h y (List.mem_cons_of_mem _ hy)
    rw [lcL_cons, h1]
    simp only [h2, noX, R.bind_ok]
    cases hp : p x with
    | true =>
      simp only [if_true, h3 hp, R.bind_ok]
      rw [ih, List.filter_cons_of_pos hp]
      simp
    | false =>
      simp only [Bool.false_eq_true, if_false]
      rw [ih, List.filter_cons_of_neg (by simp [hp])]
end Bb
namespace Bb
open PySem L2 PyProof.Rows LamX He
/-! ### levels -/
theorem lw1 {pr : Pg} {k : Nat} (h : 1 ≤ k) : (lev pr k).2.1 = (lev pr (k - 1)).1 := by
  obtain ⟨j, rfl⟩ : ∃ j, k = j + 1 := ⟨k - 1, by omega⟩
  rfl
theorem lw2 {pr : Pg} {k : Nat} (h : 2 ≤ k) : (lev pr k).2.2 = (lev pr (k - 2)).1 := by
  obtain ⟨j, rfl⟩ : ∃ j, k = j + 2 := ⟨k - 2, by omega⟩
  rfl
theorem step_of {pr : Pg} {x : Str} {d : DefT} {B : FT → FT → FT → DS} (hf : pr.find x = some d) (hb : ∀ F F1 F2, bodyK pr d F F2 (hears pr F1) none = some (B F F1 F2)) {k : Nat} (hk : 1 ≤ k) (args : List PV) (st : Sto) :
    (lev pr k).1 x args st = runF d.N.length (B (lev pr (k - 1)).1 (lev pr (k - 1)).2.1 (lev pr (k - 1)).2.2) args st := by
  obtain ⟨j, rfl⟩ : ∃ j, k = j + 1 := ⟨k - 1, by omega⟩
  exact step_eq hf (hb _ _ _) args st
/-! ### the combinators, at work: what comes behind is a word of its own, so that it is left alone until its turn -/
def RS.sq (r : RS) (k : En → Sto → RS) : RS := match r with
  | .nx env1 st1 => k env1 st1
  | x => x
def RS.fin (r : RS) (n : Nat) : R PV := match r with
  | .nx _ st' => .ok (cutR n .non st').1 (cutR n .non st').2
  | .rt v st' => .ok (cutR n v st').1 (cutR n v st').2
  | .ex c w _ st' => .ex c w (cutX n w st')
  | _ => .bad
def oV (o : Option (Option PV)) (st : Sto) : R PV := match o with
  | some (some p) => .ok p st
  | _ => .bad
def oB (o : Option En) (st : Sto) : RS := match o with
  | some env1 => .nx env1 st
  | none => .bad
def oS (o : Option Sto) (env : En) : RS := match o with
  | some st4 => .nx env st4
  | none => .bad
def oM (o : Option (PV × Sto)) : R PV := match o with
  | some (z, st3) => .ok z st3
  | none => .bad
def oT {α : Type} (o : Option α) (k : α → Option En) : Option En := match o with
  | some x => k x
  | none => none
def asg (v : PV) (i : Nat) (env : En) (st : Sto) : RS := match v with
  | .tl xs => .nx (env.set i (some (.loc st.length))) (st ++ [.lst xs])
  | v => .nx (env.set i (some v)) st
def parS (xs : List PV) (i j : Nat) (env : En) (st : Sto) : RS := match xs with
  | [x, y] => .nx ((env.set i (some x)).set j (some y)) st
  | _ => .bad
def tryS (r : RS) (sb : Str → Str → Option Bool) (hs : List HC) : RS := match r with
  | .ex c w env1 st1 => clR sb c w env1 st1 hs
  | r => r
/-- a choice between two that wait -/
def bIf {α : Type} (b : Bool) (x y : En → Sto → α) (env : En) (st : Sto) : α := if b = true then x env st else y env st
def aTF (o : Option Bool) (b : D) (x : PV) (env : En) (st : Sto) : R PV := match o with
  | some true => b env st
  | some false => .ok (frz x) st
  | none => .bad
def oTF (o : Option Bool) (b : D) (x : PV) (env : En) (st : Sto) : R PV := match o with
  | some true => .ok (frz x) st
  | some false => b env st
  | none => .bad
def nIf (b : Bool) (x : DT) (c : Bool) (env : En) (st : Sto) : R Bool := if b = c then x env st else .ok (!c) st
def oCh (o : Option PV) (f' : Sto → PV → PV → Option PV) (c : D) (y : PV) (env : En) (st : Sto) : R PV := match o with
  | some (.bl true) => (c env st).bind fun z st3 => ofO st3 (f' st3 y z)
  | some (.bl false) => .ok (.bl false) st
  | _ => .bad
def mIf (b : Bool) (f : Sto → PV → List PV → Option (PV × Sto)) (a : DA) (x : PV) (env : En) (st : Sto) : R PV := if b = true then (a env st).bind fun xs st2 => oM (f st2 x xs) else .bad
def k1 (f : Sto → PV → Option PV) (x : PV) (st1 : Sto) : R PV := ofO st1 (f st1 x)
def k2b (f : Sto → PV → PV → Option PV) (x y : PV) (st2 : Sto) : R PV := ofO st2 (f st2 x y)
def k2 (f : Sto → PV → PV → Option PV) (b : D) (env : En) (x : PV) (st1 : Sto) : R PV := (b env st1).bind (k2b f x)
def kN (f : Sto → List PV → Option PV) (x : List PV) (st1 : Sto) : R PV := ofO st1 (f st1 x)
def kCb (x : PV) (xs : List PV) (st2 : Sto) : R (List PV) := .ok (frz x :: xs) st2
def kC (r : DA) (env : En) (x : PV) (st1 : Sto) : R (List PV) := (r env st1).bind (kCb x)
def kMb (y : PV) (xs : List PV) (st2 : Sto) : R (List PV) := .ok (y :: xs) st2
def kM (m : Bool) (r : DA) (env : En) (x : PV) (st1 : Sto) : R (List PV) := (r env (mat m x st1).2).bind (kMb (mat m x st1).1)
def kIff {α : Type} (a b : En → Sto → α) (env : En) (t : Bool) (st1 : Sto) : α := bIf t a b env st1
def kAn (b : D) (env : En) (x : PV) (st1 : Sto) : R PV := aTF (truP st1 x) b x env st1
def kOr (b : D) (env : En) (x : PV) (st1 : Sto) : R PV := oTF (truP st1 x) b x env st1
def kTr (f : Sto → PV → Option Bool) (x : PV) (st1 : Sto) : R Bool := ofO st1 (f st1 x)
def kNt (b : Bool) (st1 : Sto) : R Bool := .ok (!b) st1
def kAT (c : Bool) (b : DT) (env : En) (t : Bool) (st1 : Sto) : R Bool := nIf t b c env st1
def kChb (f : Sto → PV → PV → Option PV) (y z : PV) (st3 : Sto) : R PV := ofO st3 (f st3 y z)
def kCh2 (f f' : Sto → PV → PV → Option PV) (c : D) (env : En) (x y : PV) (st2 : Sto) : R PV := oCh (f st2 x y) f' c y env st2
def kCh (f f' : Sto → PV → PV → Option PV) (b c : D) (env : En) (x : PV) (st1 : Sto) : R PV := (b env st1).bind (kCh2 f f' c env x)
def kS3 (l : Option Int) (x : PV) (u : Option Int) (st3 : Sto) : R PV := ofO st3 (slP st3 l u x)
def kS2 (hi : DO) (env : En) (x : PV) (l : Option Int) (st2 : Sto) : R PV := (hi env st2).bind (kS3 l x)
def kSl (lo hi : DO) (env : En) (x : PV) (st1 : Sto) : R PV := (lo env st1).bind (kS2 hi env x)
def kPt (x : PV) (st1 : Sto) : R (Option Int) := ofO st1 (asI x)
def kMtb (f : Sto → PV → List PV → Option (PV × Sto)) (x : PV) (xs : List PV) (st2 : Sto) : R PV := oM (f st2 x xs)
def kMt (f : Sto → PV → List PV → Option (PV × Sto)) (a : DA) (env : En) (x : PV) (st1 : Sto) : R PV := mIf (isLoc st1 x) f a x env st1
noncomputable def kLc' (bt : BT) (tst : DT) (elt : D) (vs : List Nat) (env : En) (a : List PV × Option Nat) (st1 : Sto) : R PV := lcL a.2 a.1 bt tst elt (wipeE env vs) a.1 [] st1
def kSq (x : PV) (st1 : Sto) : R (List PV × Option Nat) := ofO st1 (seqI st1 x)
def kRg' (f : Sto → List PV → Option (List PV × Option Nat)) (x : List PV) (st1 : Sto) : R (List PV × Option Nat) := ofO st1 (f st1 x)
def jEx (env : En) (_ : PV) (st1 : Sto) : RS := .nx env st1
def jRt (v : PV) (st1 : Sto) : RS := .rt v st1
def jSt (i : Nat) (env : En) (v : PV) (st1 : Sto) : RS := .nx (env.set i (some (frz v))) st1
def jSM (i : Nat) (env : En) (v : PV) (st1 : Sto) : RS := asg v i env st1
noncomputable def jFr (bt : BT) (body : DS) (env : En) (a : List PV × Option Nat) (st1 : Sto) : RS := forL a.2 a.1 bt body a.1 env st1
def jAs (b : BT) (env : En) (v : PV) (st1 : Sto) : RS := oB (b (frz v) env) st1
def jRs (c : Str) (env : En) (v : PV) (st1 : Sto) : RS := .ex c (frz v) env st1
def jS3 (env : En) (v o i : PV) (st3 : Sto) : RS := oS (setP st3 o i (frz v)) env
def jS2 (dI : D) (env : En) (v o : PV) (st2 : Sto) : RS := (dI env st2).toS env (jS3 env v o)
def jSb (dO dI : D) (env : En) (v : PV) (st1 : Sto) : RS := (dO env st1).toS env (jS2 dI env v)
def jPr (i j : Nat) (env : En) (xs : List PV) (st1 : Sto) : RS := parS xs i j env st1
section
variable {env : En} {st : Sto} {α β : Type}
theorem k1_ap {f : Sto → PV → Option PV} {x : PV} : k1 f x st = ofO st (f st x) := rfl
theorem k2b_ap {f : Sto → PV → PV → Option PV} {x y : PV} : k2b f x y st = ofO st (f st x y) := rfl
theorem k2_ap {f : Sto → PV → PV → Option PV} {b : D} {x : PV} : k2 f b env x st = (b env st).bind (k2b f x) := rfl
theorem kN_ap {f : Sto → List PV → Option PV} {x : List PV} : kN f x st = ofO st (f st x) := rfl
theorem kCb_ap {x : PV} {xs : List PV} : kCb x xs st = .ok (frz x :: xs) st := rfl
theorem kC_ap {r : DA} {x : PV} : kC r env x st = (r env st).bind (kCb x) := rfl
theorem kMb_ap {y : PV} {xs : List PV} : kMb y xs st = .ok (y :: xs) st := rfl
theorem kM_ap {m : Bool} {r : DA} {x : PV} : kM m r env x st = (r env (mat m x st).2).bind (kMb (mat m x st).1) := rfl
theorem kIff_ap {a b : En → Sto → α} {t : Bool} : kIff a b env t st = bIf t a b env st := rfl
theorem kAn_ap {b : D} {x : PV} : kAn b env x st = aTF (truP st x) b x env st := rfl
theorem kOr_ap {b : D} {x : PV} : kOr b env x st = oTF (truP st x) b x env st := rfl
theorem kTr_ap {f : Sto → PV → Option Bool} {x : PV} : kTr f x st = ofO st (f st x) := rfl
theorem kNt_ap {b : Bool} : kNt b st = .ok (!b) st := rfl
theorem kAT_ap {c t : Bool} {b : DT} : kAT c b env t st = nIf t b c env st := rfl
theorem kChb_ap {f : Sto → PV → PV → Option PV} {y z : PV} : kChb f y z st = ofO st (f st y z) := rfl
theorem kCh2_ap {f f' : Sto → PV → PV → Option PV} {c : D} {x y : PV} : kCh2 f f' c env x y st = oCh (f st x y) f' c y env st := rfl
theorem kCh_ap {f f' : Sto → PV → PV → Option PV} {b c : D} {x : PV} : kCh f f' b c env x st = (b env st).bind (kCh2 f f' c env x) := rfl
theorem kS3_ap {l u : Option Int} {x : PV} : kS3 l x u st = ofO st (slP st l u x) := rfl
theorem kS2_ap {hi : DO} {l : Option Int} {x : PV} : kS2 hi env x l st = (hi env st).bind (kS3 l x) := rfl
theorem kSl_ap {lo hi : DO} {x : PV} : kSl lo hi env x st = (lo env st).bind (kS2 hi env x) := rfl
theorem kPt_ap {x : PV} : kPt x st = ofO st (asI x) := rfl
theorem kMtb_ap {f : Sto → PV → List PV → Option (PV × Sto)} {x : PV} {xs : List PV} : kMtb f x xs st = oM (f st x xs) := rfl
theorem kMt_ap {f : Sto → PV → List PV → Option (PV × Sto)} {a : DA} {x : PV} : kMt f a env x st = mIf (isLoc st x) f a x env st := rfl
theorem kLc_ap {bt : BT} {tst : DT} {elt : D} {vs : List Nat} {a : List PV × Option Nat} : kLc' bt tst elt vs env a st = lcL a.2 a.1 bt tst elt (wipeE env vs) a.1 [] st := rfl
theorem kSq_ap {x : PV} : kSq x st = ofO st (seqI st x) := rfl
theorem kRg_ap {f : Sto → List PV → Option (List PV × Option Nat)} {x : List PV} : kRg' f x st = ofO st (f st x) := rfl
theorem jEx_ap {v : PV} : jEx env v st = .nx env st := rfl
theorem jRt_ap {v : PV} : jRt v st = .rt v st := rfl
theorem jSt_ap {i : Nat} {v : PV} : jSt i env v st = .nx (env.set i (some (frz v))) st := rfl
theorem jSM_ap {i : Nat} {v : PV} : jSM i env v st = asg v i env st := rfl
theorem jFr_ap {bt : BT} {body : DS} {a : List PV × Option Nat} : jFr bt body env a st = forL a.2 a.1 bt body a.1 env st := rfl
theorem jAs_ap {b : BT} {v : PV} : jAs b env v st = oB (b (frz v) env) st := rfl
theorem jRs_ap {c : Str} {v : PV} : jRs c env v st = .ex c (frz v) env st := rfl
theorem jS3_ap {v o i : PV} : jS3 env v o i st = oS (setP st o i (frz v)) env := rfl
theorem jS2_ap {dI : D} {v o : PV} : jS2 dI env v o st = (dI env st).toS env (jS3 env v o) := rfl
theorem jSb_ap {dO dI : D} {v : PV} : jSb dO dI env v st = (dO env st).toS env (jS2 dI env v) := rfl
theorem jPr_ap {i j : Nat} {xs : List PV} : jPr i j env xs st = parS xs i j env st := rfl
theorem sq_nx {k : En → Sto → RS} : (RS.nx env st).sq k = k env st := rfl
theorem sq_rt {v : PV} {k : En → Sto → RS} : (RS.rt v st).sq k = .rt v st := rfl
theorem sq_ex {c : Str} {w : PV} {k : En → Sto → RS} : (RS.ex c w env st).sq k = .ex c w env st := rfl
theorem sq_bk {k : En → Sto → RS} : (RS.bk env st).sq k = .bk env st := rfl
theorem sq_ct {k : En → Sto → RS} : (RS.ct env st).sq k = .ct env st := rfl
theorem sq_bad {k : En → Sto → RS} : (RS.bad).sq k = .bad := rfl
theorem fin_nx {n : Nat} : (RS.nx env st).fin n = .ok (cutR n .non st).1 (cutR n .non st).2 := rfl
theorem fin_rt {n : Nat} {v : PV} : (RS.rt v st).fin n = .ok (cutR n v st).1 (cutR n v st).2 := rfl
theorem fin_ex {n : Nat} {c : Str} {w : PV} : (RS.ex c w env st).fin n = .ex c w (cutX n w st) := rfl
theorem aTF_t {b : D} {x : PV} : aTF (some true) b x env st = b env st := rfl
theorem aTF_f {b : D} {x : PV} : aTF (some false) b x env st = .ok (frz x) st := rfl
theorem oTF_t {b : D} {x : PV} : oTF (some true) b x env st = .ok (frz x) st := rfl
theorem oTF_f {b : D} {x : PV} : oTF (some false) b x env st = b env st := rfl
theorem oCh_t {f' : Sto → PV → PV → Option PV} {c : D} {y : PV} : oCh (some (.bl true)) f' c y env st = (c env st).bind (kChb f' y) := rfl
theorem oCh_f {f' : Sto → PV → PV → Option PV} {c : D} {y : PV} : oCh (some (.bl false)) f' c y env st = .ok (.bl false) st := rfl
theorem nIf_tt {b : DT} : nIf true b true env st = b env st := rfl
theorem nIf_ft {b : DT} : nIf false b true env st = .ok false st := rfl
theorem nIf_tf {b : DT} : nIf true b false env st = .ok true st := rfl
theorem nIf_ff {b : DT} : nIf false b false env st = b env st := rfl
theorem mIf_t {f : Sto → PV → List PV → Option (PV × Sto)} {a : DA} {x : PV} : mIf true f a x env st = (a env st).bind (kMtb f x) := rfl
theorem oV_s {p : PV} : oV (some (some p)) st = .ok p st := rfl
theorem oB_s {e : En} : oB (some e) st = .nx e st := rfl
theorem oS_s {s : Sto} : oS (some s) env = .nx env s := rfl
theorem oM_s {z : PV} {s : Sto} : oM (some (z, s)) = .ok z s := rfl
theorem oT_s {x : α} {k : α → Option En} : oT (some x) k = k x := rfl
theorem bIf_t {x y : En → Sto → β} : bIf true x y env st = x env st := rfl
theorem bIf_f {x y : En → Sto → β} : bIf false x y env st = y env st := rfl
theorem tryS_nx {sb : Str → Str → Option Bool} {hs : List HC} : tryS (.nx env st) sb hs = .nx env st := rfl
theorem tryS_rt {v : PV} {sb : Str → Str → Option Bool} {hs : List HC} : tryS (.rt v st) sb hs = .rt v st := rfl
theorem tryS_ex {c : Str} {w : PV} {sb : Str → Str → Option Bool} {hs : List HC} : tryS (.ex c w env st) sb hs = clR sb c w env st hs := rfl
theorem sNil_ap : sNil env st = .nx env st := rfl
theorem sCons_ap {a r : DS} : sCons a r env st = (a env st).sq r := rfl
theorem sPass_ap : sPass env st = .nx env st := rfl
theorem sExpr_ap {d : D} : sExpr d env st = (d env st).toS env (jEx env) := rfl
theorem sRet_ap {d : D} : sRet d env st = (d env st).toS env jRt := rfl
theorem sIf_ap {c : DT} {a b : DS} : sIf c a b env st = (c env st).toS env (kIff a b env) := rfl
theorem sSet_ap {i : Nat} {d : D} : sSet i d env st = (d env st).toS env (jSt i env) := rfl
theorem sSetM_ap {i : Nat} {d : D} : sSetM i d env st = (d env st).toS env (jSM i env) := rfl
theorem sFor_ap {di : DI} {bt : BT} {body : DS} : sFor di bt body env st = (di env st).toS env (jFr bt body env) := rfl
theorem sAsg_ap {d : D} {b : BT} : sAsg d b env st = (d env st).toS env (jAs b env) := rfl
theorem sRaise_ap {c : Str} {a : D} : sRaise c a env st = (a env st).toS env (jRs c env) := rfl
theorem sSub_ap {de dO dI : D} : sSub de dO dI env st = (de env st).toS env (jSb dO dI env) := rfl
theorem sPar_ap {i j : Nat} {a : DA} : sPar i j a env st = (a env st).toS env (jPr i j env) := rfl
theorem sTry_ap {sb : Str → Str → Option Bool} {b : DS} {hs : List HC} : sTry sb b hs env st = tryS (b env st) sb hs := rfl
theorem dC_ap {p : PV} : dC p env st = .ok p st := rfl
theorem dV_ap {i : Nat} : dV i env st = oV env[i]? st := rfl
theorem d1_ap {f : Sto → PV → Option PV} {a : D} : d1 f a env st = (a env st).bind (k1 f) := rfl
theorem d2_ap {f : Sto → PV → PV → Option PV} {a b : D} : d2 f a b env st = (a env st).bind (k2 f b env) := rfl
theorem dN_ap {f : Sto → List PV → Option PV} {a : DA} : dN f a env st = (a env st).bind (kN f) := rfl
theorem dNil_ap : dNil env st = .ok [] st := rfl
theorem dCons_ap {a : D} {r : DA} : dCons a r env st = (a env st).bind (kC r env) := rfl
theorem dConsM_ap {m : Bool} {a : D} {r : DA} : dConsM m a r env st = (a env st).bind (kM m r env) := rfl
theorem dCall_ap {f : List PV → Sto → R PV} {a : DA} : dCall f a env st = (a env st).bind f := rfl
theorem dIf_ap {c : DT} {a b : D} : dIf c a b env st = (c env st).bind (kIff a b env) := rfl
theorem dAnd_ap {a b : D} : dAnd a b env st = (a env st).bind (kAn b env) := rfl
theorem dOr_ap {a b : D} : dOr a b env st = (a env st).bind (kOr b env) := rfl
theorem dTru_ap {f : Sto → PV → Option Bool} {a : D} : dTru f a env st = (a env st).bind (kTr f) := rfl
theorem dNotT_ap {a : DT} : dNotT a env st = (a env st).bind kNt := rfl
theorem dAndT_ap {a b : DT} : dAndT a b env st = (a env st).bind (kAT true b env) := by
  show _ = _
  unfold dAndT
  congr 1
theorem dOrT_ap {a b : DT} : dOrT a b env st = (a env st).bind (kAT false b env) := by
  unfold dOrT
  congr 1
  funext c s
  cases c <;> rfl
theorem dYes_ap : dYes env st = .ok true st := rfl
theorem dChain_ap {f f' : Sto → PV → PV → Option PV} {a b c : D} : dChain f f' a b c env st = (a env st).bind (kCh f f' b c env) := by
  unfold dChain
  rfl
theorem dSl_ap {a : D} {lo hi : DO} : dSl a lo hi env st = (a env st).bind (kSl lo hi env) := rfl
theorem dNoPart_ap : dNoPart env st = .ok none st := rfl
theorem dPart_ap {d : D} : dPart d env st = (d env st).bind kPt := rfl
theorem dRev_ap {d ds : D} : dRev d ds env st = (d env st).bind fun x st1 => (ds env st1).bind fun i st2 => match x, i with
  | .tup xs, .int j => if j = -1 then .ok (.tup xs.reverse) st2 else .bad
  | _, _ => .bad := rfl
theorem dMeth_ap {f : Sto → PV → List PV → Option (PV × Sto)} {o : D} {a : DA} : dMeth f o a env st = (o env st).bind (kMt f a env) := rfl
theorem dLc_ap {di : DI} {bt : BT} {tst : DT} {elt : D} {vs : List Nat} : dLc di bt tst elt vs env st = (di env st).bind (kLc' bt tst elt vs env) := rfl
theorem dSeqI_ap {d : D} : dSeqI d env st = (d env st).bind kSq := rfl
theorem dRngI_ap {f : Sto → List PV → Option (List PV × Option Nat)} {d : DA} : dRngI f d env st = (d env st).bind (kRg' f) := rfl
theorem bName_ap {i : Nat} {p : PV} : bName i p env = some (env.set i (some p)) := rfl
theorem bTup_ap {n : Nat} {r : BTs} {xs : List PV} : bTup n r (.tup xs) env = if xs.length = n then r (frzs xs) env else none := Eq.trans rfl rfl
theorem bNil_ap : bNil [] env = some env := rfl
theorem bCons_ap {b : BT} {r : BTs} {p : PV} {ps : List PV} : bCons b r (p :: ps) env = oT (b p env) (r ps) := by
  show (match b p env with
    | some env1 => r ps env1
    | none => none) = _
  cases b p env <;> rfl
theorem toS_ok {a : α} {k : α → Sto → RS} : (R.ok a st).toS env k = k a st := rfl
theorem toS_ex {c : Str} {w : PV} {k : α → Sto → RS} : (R.ex c w st : R α).toS env k = .ex c w env st := rfl
theorem toS_bad {k : α → Sto → RS} : (R.bad : R α).toS env k = .bad := rfl
theorem ofO_some {a : α} : ofO st (some a) = .ok a st := rfl
theorem ofO_none : ofO st (none : Option α) = .bad := rfl
theorem noX_ok {a : α} : noX (.ok a st) = .ok a st := rfl
theorem asg_tl {i : Nat} {xs : List PV} : asg (.tl xs) i env st = .nx (env.set i (some (.loc st.length))) (st ++ [.lst xs]) := rfl
theorem asg_of {i : Nat} {v : PV} (h : ∀ xs, v ≠ .tl xs) : asg v i env st = .nx (env.set i (some v)) st := by cases v <;> first | rfl | exact absurd rfl (h _)
theorem parS_ap {x y : PV} {i j : Nat} : parS [x, y] i j env st = .nx ((env.set i (some x)).set j (some y)) st := rfl
theorem seqI_tup {xs : List PV} : seqI st (.tup xs) = some (xs, none) := rfl
theorem seqI_fl {xs : List PV} : seqI st (.fl xs) = some (xs, none) := rfl
theorem seqI_tl {xs : List PV} : seqI st (.tl xs) = some (xs, none) := rfl
theorem seqI_ro {xs : List PV} : seqI st (.ro xs) = some (xs, none) := rfl
theorem isiP_ap {x : PV} {T : String} : isiP st [x, .ty T] = (tyP st x).bind fun t => (isiB t T).map PV.bl := by
  show (match tyP st x with
    | some t => (isiB t T).map PV.bl
    | none => none) = _
  cases tyP st x <;> rfl
theorem ty_non : tyP st .non = some "NoneType" := rfl
theorem ty_bl {b : Bool} : tyP st (.bl b) = some "bool" := rfl
theorem ty_int {i : Int} : tyP st (.int i) = some "int" := rfl
theorem ty_str {x : Str} : tyP st (.str x) = some "str" := rfl
theorem ty_tup {xs : List PV} : tyP st (.tup xs) = some "tuple" := rfl
theorem ty_fl {xs : List PV} : tyP st (.fl xs) = some "list" := rfl
theorem ty_tl {xs : List PV} : tyP st (.tl xs) = some "list" := rfl
theorem tr_non : truP st .non = some false := rfl
theorem tr_bl {b : Bool} : truP st (.bl b) = some b := rfl
theorem tr_int {i : Int} : truP st (.int i) = some (i != 0) := rfl
theorem tr_tup {xs : List PV} : truP st (.tup xs) = some (!xs.isEmpty) := rfl
theorem tr_fl {xs : List PV} : truP st (.fl xs) = some (!xs.isEmpty) := rfl
theorem tr_tl {xs : List PV} : truP st (.tl xs) = some (!xs.isEmpty) := rfl
theorem asB_bl {b : Bool} : asB st (.bl b) = some b := rfl
theorem notT_ap {x : PV} : notT st x = (truP st x).map fun b => PV.bl (!b) := rfl
theorem negP_int {i : Int} : negP st (.int i) = some (.int (-i)) := rfl
theorem addP_int {i j : Int} : addP st (.int i) (.int j) = some (.int (i + j)) := rfl
theorem addP_tup {a b : List PV} : addP st (.tup a) (.tup b) = if a.length + b.length ≤ 16777216 then some (.tup (a ++ b)) else none := Eq.trans rfl rfl
theorem subP_int {i j : Int} : subP st (.int i) (.int j) = some (.int (i - j)) := rfl
theorem modP_int {i j : Int} : modP st (.int i) (.int j) = if 0 < j then some (.int (i % j)) else none := Eq.trans rfl rfl
theorem fdivP_int {i j : Int} : fdivP st (.int i) (.int j) = if 0 < j ∧ j < 1073741824 then some (.int (i / j)) else none := Eq.trans rfl rfl
theorem mulP_int {i j : Int} : mulP st (.int i) (.int j) = if (-18446744073709551616 < i ∧ i < 18446744073709551616) ∨ (-18446744073709551616 < j ∧ j < 18446744073709551616) then some (.int (i * j)) else none := Eq.trans rfl rfl
theorem powP_int {i j : Int} : powP st (.int i) (.int j) = if 0 ≤ j ∧ j ≤ 1000 ∧ i.natAbs < 1000 then some (.int (i ^ j.toNat)) else none := Eq.trans rfl rfl
theorem intP_int {i : Int} : intP st [.int i] = some (.int i) := rfl
theorem intP_bl {b : Bool} : intP st [.bl b] = some (.int (if b then 1 else 0)) := Eq.trans rfl rfl
theorem max2P_int {i j : Int} : max2P st [.int i, .int j] = some (.int (if j > i then j else i)) := Eq.trans rfl rfl
theorem min2P_int {i j : Int} : min2P st [.int i, .int j] = some (.int (if j < i then j else i)) := Eq.trans rfl rfl
theorem lenP_tup {xs : List PV} : lenP st [.tup xs] = some (.int xs.length) := rfl
theorem lenP_fl {xs : List PV} : lenP st [.fl xs] = some (.int xs.length) := rfl
theorem lenP_tl {xs : List PV} : lenP st [.tl xs] = some (.int xs.length) := rfl
theorem lenP_ro {xs : List PV} : lenP st [.ro xs] = some (.int xs.length) := rfl
theorem lenP_loc {n : Nat} {xs : List PV} (h : st[n]? = some (.lst xs)) : lenP st [.loc n] = some (.int xs.length) := by simp [lenP, asS, asL, asM, h]
theorem isNP_ap {x : PV} : isNP st x .non = some (.bl (isN x)) := rfl
theorem isntNP_ap {x : PV} : isntNP st x .non = some (.bl (!isN x)) := rfl
theorem isNP_bl {x : PV} {b : Bool} : isNP st x (.bl b) = some (.bl (isBl b x)) := rfl
theorem isntNP_bl {x : PV} {b : Bool} : isntNP st x (.bl b) = some (.bl (!isBl b x)) := rfl
theorem isN_non : isN .non = true := rfl
theorem isN_int {i : Int} : isN (.int i) = false := rfl
theorem isN_bl {i : Bool} : isN (.bl i) = false := rfl
theorem isN_str {i : Str} : isN (.str i) = false := rfl
theorem isN_tup {i : List PV} : isN (.tup i) = false := rfl
theorem isN_fl {i : List PV} : isN (.fl i) = false := rfl
theorem isBl_bl {b c : Bool} : isBl b (.bl c) = (c == b) := rfl
theorem asI_int {i : Int} : asI (.int i) = some (some i) := rfl
theorem slP_tup {xs : List PV} {lo hi : Option Int} : slP st lo hi (.tup xs) = some (.tup (cutP xs lo hi)) := rfl
theorem slP_fl {xs : List PV} {lo hi : Option Int} : slP st lo hi (.fl xs) = some (.tl (cutP xs lo hi)) := rfl
theorem slP_tl {xs : List PV} {lo hi : Option Int} : slP st lo hi (.tl xs) = some (.tl (cutP xs lo hi)) := rfl
theorem slP_ro {xs : List PV} {lo hi : Option Int} : slP st lo hi (.ro xs) = some (.tl (cutP xs lo hi)) := rfl
theorem asS_tup {xs : List PV} : asS st (.tup xs) = some xs := rfl
theorem asS_fl {xs : List PV} : asS st (.fl xs) = some xs := rfl
theorem asS_tl {xs : List PV} : asS st (.tl xs) = some xs := rfl
theorem asS_ro {xs : List PV} : asS st (.ro xs) = some xs := rfl
theorem mkT_ap {n : Nat} {xs : List PV} : mkT n st xs = if n ≤ 1000 ∧ xs.length = n then some (.tup xs) else none := Eq.trans rfl rfl
theorem mkL_ap {n : Nat} {xs : List PV} : mkL n st xs = if n ≤ 1000 ∧ xs.length = n then some (.tl xs) else none := Eq.trans rfl rfl
theorem mat_f {xs : List PV} : mat false (.tl xs) st = (.fl xs, st) := rfl
theorem mat_t {xs : List PV} : mat true (.tl xs) st = (.loc st.length, st ++ [.lst xs]) := rfl
theorem mat_of {b : Bool} {v : PV} (h : ∀ xs, v ≠ .tl xs) : mat b v st = (v, st) := by cases v <;> first | rfl | exact absurd rfl (h _)
theorem mat_int {b : Bool} {i : Int} : mat b (.int i) st = (.int i, st) := rfl
theorem mat_non {b : Bool} : mat b .non st = (.non, st) := rfl
theorem mat_tup {b : Bool} {xs : List PV} : mat b (.tup xs) st = (.tup xs, st) := rfl
theorem mat_loc {b : Bool} {n : Nat} : mat b (.loc n) st = (.loc n, st) := rfl
theorem mat_bl {b c : Bool} : mat b (.bl c) st = (.bl c, st) := rfl
theorem mat_fl {b : Bool} {xs : List PV} : mat b (.fl xs) st = (.fl xs, st) := rfl
theorem asg_loc {i n : Nat} : asg (.loc n) i env st = .nx (env.set i (some (.loc n))) st := rfl
theorem tupP_tup {xs : List PV} : tupP st [.tup xs] = some (.tup xs) := rfl
theorem tupP_fl {xs : List PV} : tupP st [.fl xs] = some (.tup xs) := rfl
theorem tupP_ro {xs : List PV} : tupP st [.ro xs] = some (.tup xs) := rfl
theorem lstP_tup {xs : List PV} : lstP st [.tup xs] = some (.tl xs) := rfl
theorem lstP_fl {xs : List PV} : lstP st [.fl xs] = some (.tl xs) := rfl
theorem lstP_ro {xs : List PV} : lstP st [.ro xs] = some (.tl xs) := rfl
theorem isLoc_at {n : Nat} {xs : List PV} (h : st[n]? = some (.lst xs)) : isLoc st (.loc n) = true := by simp [isLoc, h]
end
theorem runF_ap {n : Nat} {b : DS} {args : List PV} {st : Sto} : runF n b args st = (b (startP n args) st).fin st.length := rfl
theorem cutR_same {n : Nat} {v : PV} {st : Sto} (h : st.length = n) : cutR n v st = (v, st) := by
  unfold cutR
  rw [if_pos h]
/-! ### loops -/
def LpQ (I : En → Sto → Prop) (Q : RS → Prop) : RS → Prop
  | .nx e s => I e s
  | .ct e s => I e s
  | .bk e s => Q (.nx e s)
  | .rt v s => Q (.rt v s)
  | .ex c w e s => Q (.ex c w e s)
  | .bad => Q .bad
theorem forL_inv {all : List PV} {bt : BT} {body : DS} (I : List PV → En → Sto → Prop) (Q : RS → Prop) (step : ∀ x xs env st, I (x :: xs) env st → ∃ env1, bt (frz x) env = some env1 ∧ LpQ (I xs) Q (body env1 st)) (fin : ∀ env st, I [] env st → Q (.nx env st)) :
    ∀ (xs : List PV) (env : En) (st : Sto), I xs env st → Q (forL none all bt body xs env st)
  | [], env, st, h => by rw [forL_nil]; exact fin env st h
  | x :: xs, env, st, h => by
    obtain ⟨env1, h1, h2⟩ := step x xs env st h
    rw [forL_cons, h1]
    dsimp only
    cases q : body env1 st with
    | nx e s => rw [q] at h2; exact forL_inv I Q step fin xs e s h2
    | ct e s => rw [q] at h2; exact forL_inv I Q step fin xs e s h2
    | bk e s => rw [q] at h2; exact h2
    | rt v s => rw [q] at h2; exact h2
    | ex c w e s => rw [q] at h2; exact h2
    | bad => rw [q] at h2; exact h2
/-- a loop over things that are told by a list -/
theorem forL_map {α : Type} {all : List PV} {bt : BT} {body : DS} {g : α → PV} (I : List α → En → Sto → Prop) (Q : RS → Prop) (step : ∀ a l env st, I (a :: l) env st → ∃ env1, bt (frz (g a)) env = some env1 ∧ LpQ (I l) Q (body env1 st)) (fin : ∀ env st, I [] env st → Q (.nx env st)) :
    ∀ (l : List α) (env : En) (st : Sto), I l env st → Q (forL none all bt body (l.map g) env st)
  | [], env, st, h => by rw [List.map_nil, forL_nil]; exact fin env st h
  | a :: l, env, st, h => by
    obtain ⟨env1, h1, h2⟩ := step a l env st h
    rw [List.map_cons, forL_cons, h1]
    dsimp only
    cases q : body env1 st with
    | nx e s => rw [q] at h2; exact forL_map I Q step fin l e s h2
    | ct e s => rw [q] at h2; exact forL_map I Q step fin l e s h2
    | bk e s => rw [q] at h2; exact h2
    | rt v s => rw [q] at h2; exact h2
    | ex c w e s => rw [q] at h2; exact h2
    | bad => rw [q] at h2; exact h2
theorem lcL_mapA {α : Type} {all : List PV} {bt : BT} {tst : DT} {elt : D} {env : En} {st : Sto} {g : α → PV} {e : α → En} {p : α → Bool} {f : α → PV} : ∀ (l : List α) (acc : List PV), (∀ a ∈ l, bt (frz (g a)) env = some (e a) ∧ tst (e a) st = .ok (p a) st ∧ (p a = true → elt (e a) st = .ok (f a) st)) →
    lcL none all bt tst elt env (l.map g) acc st = .ok (.tl (acc ++ (l.filter p).map fun a => frz (f a))) st
  | [], acc, _ => by rw [List.map_nil, lcL_nil]; simp
  | x :: xs, acc, h => by
    obtain ⟨h1, h2, h3⟩ := h x List.mem_cons_self
    have ih := fun acc => lcL_mapA (all := all) xs acc fun y hy => h y (List.mem_cons_of_mem _ hy)
    rw [List.map_cons, lcL_cons, h1]
    simp only [h2, noX, R.bind_ok]
    cases hp : p x with
    | true =>
      simp only [if_true, h3 hp, R.bind_ok]
      rw [ih, List.filter_cons_of_pos hp]
      simp
    | false =>
      simp only [Bool.false_eq_true, if_false]
      rw [ih, List.filter_cons_of_neg (by simp [hp])]
theorem lcL_yes {α : Type} {all : List PV} {bt : BT} {elt : D} {env : En} {st : Sto} {g : α → PV} {e : α → En} {f : α → PV} (l : List α) (h : ∀ a ∈ l, bt (frz (g a)) env = some (e a) ∧ elt (e a) st = .ok (f a) st) :
    lcL none all bt dYes elt env (l.map g) [] st = .ok (.tl (l.map fun a => frz (f a))) st := by
  rw [lcL_mapA (e := e) (f := f) (p := fun _ => true) l [] fun a ha => ⟨(h a ha).1, rfl, fun _ => (h a ha).2⟩]
  rw [List.filter_eq_self.mpr fun _ _ => rfl]
  rfl
/-- a comprehension that changes the store -/
theorem lcL_ex {α : Type} {all : List PV} {bt : BT} {elt : D} {env : En} {g : α → PV} (I : Sto → Prop) (P : PV → Prop) (hs : ∀ (a : α) (st : Sto), I st → ∃ env1 v st', bt (frz (g a)) env = some env1 ∧ elt env1 st = .ok v st' ∧ I st' ∧ P (frz v)) :
    ∀ (l : List α) (acc : List PV) (st : Sto), I st → ∃ vs st', lcL none all bt dYes elt env (l.map g) acc st = .ok (.tl (acc ++ vs)) st' ∧ I st' ∧ vs.length = l.length ∧ ∀ v ∈ vs, P v
  | [], acc, st, h => ⟨[], st, by rw [List.map_nil, lcL_nil, List.append_nil], h, rfl, fun _ h => nomatch h⟩
  | a :: l, acc, st, h => by
    obtain ⟨env1, v, st', h1, h2, h3, h4⟩ := hs a st h
    obtain ⟨vs, st2, k1, k2, k3, k4⟩ := lcL_ex I P hs l (acc ++ [frz v]) st' h3
    refine ⟨frz v :: vs, st2, ?_, k2, by simp [k3], fun u hu => ?_⟩
    · rw [List.map_cons, lcL_cons, h1]
      simp only [dYes, noX, R.bind_ok, if_true, h2]
      rw [k1]
      simp
    · rcases List.mem_cons.mp hu with rfl | hu
      · exact h4
      · exact k4 u hu
end Bb
namespace Bb
open PySem L2 PyProof.Rows LamX He
/-! ### numbers -/
theorem pd_int {st : Sto} {i : Int} : pd st (.int i) = some (.int i) := rfl
theorem pd_non {st : Sto} : pd st .non = some .none := rfl
theorem pd_str {st : Sto} {x : Str} : pd st (.str x) = some (.str x) := rfl
theorem pd_bl {st : Sto} {b : Bool} : pd st (.bl b) = some (.bool b) := rfl
theorem shaped_int {i : Int} : SeqAt.shaped (.int i) = true := by simp [SeqAt.shaped, PyData.canLay0, PyData.depth]
theorem shaped_none : SeqAt.shaped .none = true := by simp [SeqAt.shaped, PyData.canLay0, PyData.depth]
theorem shaped_bool {b : Bool} : SeqAt.shaped (.bool b) = true := by simp [SeqAt.shaped, PyData.canLay0, PyData.depth]
theorem shaped_str {x : Str} (h : PyData.strOk x = true) : SeqAt.shaped (.str x) = true := by simp [SeqAt.shaped, PyData.canLay0, PyData.depth, h]
theorem eqP_int {neg : Bool} {st : Sto} {i j : Int} : eqP neg st (.int i) (.int j) = some (.bl ((i == j) != neg)) := by
  unfold eqP
  rw [pd_int, pd_int]
  simp [shaped_int, PyData.eqv]
theorem eqP_str {neg : Bool} {st : Sto} {x y : Str} (hx : PyData.strOk x = true) (hy : PyData.strOk y = true) : eqP neg st (.str x) (.str y) = some (.bl ((x == y) != neg)) := by
  unfold eqP
  rw [pd_str, pd_str]
  simp [shaped_str hx, shaped_str hy, PyData.eqv]
theorem pds0_ints : ∀ ns : List Int, pds0 (ns.map .int) = some (ns.map .int)
  | [] => rfl
  | n :: ns => by simp [pds0, pd0, pds0_ints ns]
theorem canLay_ints : ∀ ns : List Int, PyData.canLayAll0 (ns.map .int) = true
  | [] => by simp [PyData.canLayAll0]
  | n :: ns => by simp [PyData.canLayAll0, PyData.canLay0, canLay_ints ns]
theorem any_ints (i : Int) (ns : List Int) : ((ns.map PyData.int).any fun z => PyData.eqv z (.int i)) = ns.contains i := by
  induction ns with
  | nil => rfl
  | cons n ns ih =>
    rw [List.map_cons, List.any_cons, ih, List.contains_cons]
    simp only [PyData.eqv]
    rw [BEq.comm]
theorem inP_ints {neg : Bool} {st : Sto} {i : Int} {y : PV} {ns : List Int} (h : asS st y = some (ns.map .int)) : inP neg st (.int i) y = some (.bl (ns.contains i != neg)) := by
  unfold inP
  rw [pd_int, h]
  simp only [pds0_ints, shaped_int, canLay_ints, and_self, if_true, any_ints]
theorem intsP_ints (ns : List Int) : intsP (ns.map .int) = some ns := by
  induction ns with
  | nil => rfl
  | cons n ns ih => simp [intsP, ih]
theorem srtG_ints {st : Sto} {y : PV} {ns : List Int} (h : asS st y = some (ns.map .int)) : srtG st [y] = some (.tl ((srt ns).map .int)) := by
  simp [srtG, h, intsP_ints]
theorem atI_nat {α : Type} {xs : List α} {i : Int} {n : Nat} (h : i = (n : Int)) (hn : n < xs.length) : atI xs i = some xs[n] := by
  subst h
  unfold atI ixN
  rw [if_pos (by omega), if_pos (by omega)]
  simp [List.getElem?_eq_getElem hn]
theorem atI_some {α : Type} {xs : List α} {i : Int} {n : Nat} {x : α} (h : i = (n : Int)) (hn : xs[n]? = some x) : atI xs i = some x := by
  obtain ⟨h1, h2⟩ := List.getElem?_eq_some_iff.mp hn
  rw [atI_nat h h1, h2]
theorem atI_0 {α : Type} {x : α} {xs : List α} : atI (x :: xs) 0 = some x := atI_some (n := 0) rfl rfl
theorem atI_1 {α : Type} {x y : α} {xs : List α} : atI (x :: y :: xs) 1 = some y := atI_some (n := 1) rfl rfl
theorem ixP_tup {st : Sto} {xs : List PV} {i : Int} : ixP st (.tup xs) (.int i) = (atI xs i).map frz := rfl
theorem ixP_fl {st : Sto} {xs : List PV} {i : Int} : ixP st (.fl xs) (.int i) = (atI xs i).map frz := rfl
theorem ixP_tl {st : Sto} {xs : List PV} {i : Int} : ixP st (.tl xs) (.int i) = (atI xs i).map frz := rfl
theorem ixP_ro {st : Sto} {xs : List PV} {i : Int} : ixP st (.ro xs) (.int i) = (atI xs i).map frz := rfl
theorem ixP_loc {st : Sto} {n : Nat} {xs : List PV} {i : Int} (h : st[n]? = some (.lst xs)) : ixP st (.loc n) (.int i) = (atI xs i).map frz := by
  simp [ixP, asS, asL, asM, h]
theorem cmpP_int {f : Int → Int → Bool} {st : Sto} {i j : Int} : cmpP f st (.int i) (.int j) = some (.bl (f i j)) := Eq.trans rfl rfl
/-- the cut ahead of a place -/
theorem cutP_take {xs : List PV} {i : Int} {n : Nat} (h : i = (n : Int)) (hn : n ≤ xs.length) : cutP xs none (some i) = xs.take n := by
  subst h
  unfold cutP
  rw [HT.sIx_none, HT.sIx_nat, Nat.min_eq_left hn]
  rfl
theorem cutP_take' {xs : List PV} {i : Int} (h : 0 ≤ i) : cutP xs none (some i) = xs.take i.toNat := by
  obtain ⟨n, rfl⟩ := Int.eq_ofNat_of_zero_le h
  unfold cutP
  show ((xs.drop (HT.sIx xs.length 0 none)).take (HT.sIx xs.length xs.length (some (n : Int)) - HT.sIx xs.length 0 none)) = xs.take n
  rw [HT.sIx_none, HT.sIx_nat]
  show xs.take (min n xs.length) = xs.take n
  by_cases e : n ≤ xs.length
  · rw [Nat.min_eq_left e]
  · rw [Nat.min_eq_right (by omega), List.take_of_length_le (Nat.le_refl _), List.take_of_length_le (by omega)]
theorem rngL_len {i : Int} {n : Nat} : (rngL i n).length = n := by simp [rngL]
/-! ### texts -/
theorem strOk_app (a b : Str) : PyData.strOk (a ++ b) = (PyData.strOk a && PyData.strOk b) := by
  show (a.cps ++ b.cps).all _ = _
  rw [Array.all_append]
  rfl
theorem strOk_of (s : String) : PyData.strOk (Str.ofString s) = true := by
  rw [Str.ofString_eq_toList]
  unfold PyData.strOk
  rw [List.all_toArray, List.all_eq_true]
  intro c hc
  obtain ⟨d, _, rfl⟩ := List.mem_map.mp hc
  have h := d.valid
  simp only [UInt32.isValidChar, Nat.isValidChar] at h
  have e : d.toNat = d.val.toNat := rfl
  rw [decide_eq_true_iff, e]
  omega
theorem strOk_join (sep : Str) (hs : PyData.strOk sep = true) : ∀ ts : List Str, (∀ t ∈ ts, PyData.strOk t = true) → PyData.strOk (Str.join sep ts) = true
  | [], _ => by show (Array.all #[] _) = true; simp
  | [x], h => h x List.mem_cons_self
  | x :: y :: r, h => by
    show PyData.strOk (x ++ sep ++ Str.join sep (y :: r)) = true
    rw [strOk_app, strOk_app, h x List.mem_cons_self, hs, strOk_join sep hs (y :: r) fun t ht => h t (List.mem_cons_of_mem _ ht)]
    rfl
/-! ### data that repr shows -/
structure Sm (h n : Nat) (x : PV) : Prop where
  ex : ∃ d, pd0 x = some d ∧ d.showable = true ∧ d.canLay0 = true ∧ d.depth ≤ h ∧ d.shown.length ≤ n ∧ PyData.strOk d.shown = true
structure Sms (h n : Nat) (xs : List PV) : Prop where
  ex : ∃ ds, pds0 xs = some ds ∧ PyData.showableAll ds = true ∧ PyData.canLayAll0 ds = true ∧ PyData.depthAll ds ≤ h ∧ piled (PyData.shownAll ds) ≤ n ∧ ∀ t ∈ PyData.shownAll ds, PyData.strOk t = true
theorem Sm.mono {h n h' n' : Nat} {x : PV} (s : Sm h n x) (a : h ≤ h') (b : n ≤ n') : Sm h' n' x :=
  let ⟨d, h1, h2, h3, h4, h5, h6⟩ := s.ex
  ⟨d, h1, h2, h3, Nat.le_trans h4 a, Nat.le_trans h5 b, h6⟩
theorem Sms.nil {h n : Nat} : Sms h n [] := ⟨[], rfl, by simp [PyData.showableAll], by simp [PyData.canLayAll0], by simp [PyData.depthAll], by simp [PyData.shownAll, piled], by simp [PyData.shownAll]⟩
theorem Sms.cons {h n m : Nat} {x : PV} {xs : List PV} (s : Sm h n x) (t : Sms h m xs) : Sms h (n + 2 + m) (x :: xs) := by
  obtain ⟨d, h1, h2, h3, h4, h5, h6⟩ := s.ex
  obtain ⟨ds, k1, k2, k3, k4, k5, k6⟩ := t.ex
  refine ⟨d :: ds, by simp [pds0, h1, k1], by simp [PyData.showableAll, h2, k2], by simp [PyData.canLayAll0, h3, k3], by simp [PyData.depthAll]; omega, ?_, ?_⟩
  · simp [PyData.shownAll, piled] at k5 ⊢
    omega
  · intro u hu
    simp [PyData.shownAll] at hu
    rcases hu with rfl | hu
    · exact h6
    · exact k6 u hu
theorem Sms.all {h n : Nat} : ∀ {xs : List PV}, (∀ x ∈ xs, Sm h n x) → Sms h (xs.length * (n + 2)) xs
  | [], _ => .nil
  | x :: xs, s => by
    have := Sms.cons (s x List.mem_cons_self) (Sms.all fun y hy => s y (List.mem_cons_of_mem _ hy))
    have e : n + 2 + xs.length * (n + 2) = (x :: xs).length * (n + 2) := by rw [List.length_cons, Nat.succ_mul, Nat.add_comm]
    rw [e] at this
    exact this
theorem len_app (a b : Str) : (a ++ b).length = a.length + b.length := by
  show (a.cps ++ b.cps).size = _
  rw [Array.size_append]
  rfl
theorem Sm.tup {h n : Nat} {xs : List PV} (t : Sms h n xs) : Sm (h + 1) (n + 4) (.tup xs) := by
  obtain ⟨ds, k1, k2, k3, k4, k5, k6⟩ := t.ex
  refine ⟨.tuple ds, by simp [pd0, k1], by simp [PyData.showable, k2], by simp [PyData.canLay0, k3], by simp [PyData.depth]; omega, ?_, ?_⟩
  · simp only [PyData.shown, tupleText, len_app]
    have h1 : (("(" : String) : Str).length = 1 := rfl
    have h2 : ∀ b : Bool, ((if b = true then ",)" else ")" : String) : Str).length ≤ 2 := by decide
    have h3 := h2 ((PyData.shownAll ds).length == 1)
    have h4 : (Str.join ", " (PyData.shownAll ds)).length ≤ n := by
      by_cases e : PyData.shownAll ds = []
      · rw [e]; exact Nat.zero_le _
      · have := join_length_add _ e
        omega
    omega
  · simp only [PyData.shown, tupleText, strOk_app, Bool.and_eq_true]
    exact ⟨⟨strOk_of _, strOk_join _ (strOk_of _) _ k6⟩, strOk_of _⟩
theorem Sm.tup2 {h n m : Nat} {x y : PV} (a : Sm h n x) (b : Sm h m y) : Sm (h + 1) (n + m + 8) (.tup [x, y]) :=
  (Sm.tup (.cons a (.cons b (.nil (n := 0))))).mono (Nat.le_refl _) (by omega)
theorem Sm.non {h : Nat} : Sm h 4 .non := ⟨.none, rfl, by simp [PyData.showable], by simp [PyData.canLay0], by simp [PyData.depth], by simp [PyData.shown]; decide, by simp only [PyData.shown]; exact strOk_of _⟩
theorem Sm.bl {h : Nat} (b : Bool) : Sm h 5 (.bl b) := ⟨.bool b, rfl, by simp [PyData.showable], by simp [PyData.canLay0], by simp [PyData.depth], by simp only [PyData.shown]; cases b <;> decide, by simp only [PyData.shown]; cases b <;> exact strOk_of _⟩
theorem Sm.int' {h n : Nat} {i : Int} (hs : i.natAbs < 1000000000) (hl : (Str.ofString (toString i)).length ≤ n) : Sm h n (.int i) := by
  refine ⟨.int i, rfl, ?_, by simp [PyData.canLay0], by simp [PyData.depth], by simp only [PyData.shown]; exact hl, by simp only [PyData.shown]; exact strOk_of _⟩
  simp only [PyData.showable, decide_eq_true_eq]
  by_cases h0 : i.natAbs = 0
  · rw [h0]; decide
  · exact Nat.lt_of_lt_of_le ((Nat.log2_lt h0).mpr (Nat.lt_trans hs (by decide))) (by decide : 30 ≤ 1920)
theorem Sm.small {h : Nat} {i : Int} (h0 : -2 ≤ i) (h1 : i ≤ 13) : Sm h 2 (.int i) := by
  refine Sm.int' (by omega) ?_
  have key : ∀ k : Fin 16, (Str.ofString (toString ((k.val : Int) - 2))).length ≤ 2 := by decide +kernel
  have := key ⟨(i + 2).toNat, by omega⟩
  have e : (((i + 2).toNat : Nat) : Int) - 2 = i := by omega
  simp only [e] at this
  exact this
theorem Sm.str {h n : Nat} (x : String) (hl : (reprText (Str.ofString x)).length ≤ n) (ho : PyData.strOk (reprText (Str.ofString x)) = true) : Sm h n (.str (Str.ofString x)) :=
  ⟨.str (Str.ofString x), rfl, by simp [PyData.showable], by simp only [PyData.canLay0]; exact strOk_of _, by simp [PyData.depth], by simp only [PyData.shown]; exact hl, by simp only [PyData.shown]; exact ho⟩
theorem pd_of {x : PV} {d : PyData} (h : pd0 x = some d) (st : Sto) : pd st x = some d := by
  cases x <;> first | exact h | (simp [pd0] at h; done) | (simp [pd0] at h; simp [pd, asL, asM]; exact h)
theorem Sm.repr {h n : Nat} {x : PV} (s : Sm h n x) (hh : h ≤ 64) (hn : n ≤ 16777216) (st : Sto) : ∃ z, reprP st [x] = some (.str z) ∧ PyData.strOk z = true := by
  obtain ⟨d, h1, h2, h3, h4, h5, h6⟩ := s.ex
  refine ⟨d.shown, ?_, h6⟩
  simp only [reprP, pd_of h1]
  rw [if_pos ⟨h2, Nat.le_trans h4 hh, Nat.le_trans h5 hn⟩]
/-- repr(x) != repr(y) of one thing -/
theorem Sm.same {h n : Nat} {x : PV} (s : Sm h n x) (hh : h ≤ 64) (hn : n ≤ 16777216) (st : Sto) : ∃ z, reprP st [x] = some (.str z) ∧ (∀ st, eqP true st (.str z) (.str z) = some (.bl false)) ∧ ∀ st, eqP false st (.str z) (.str z) = some (.bl true) := by
  obtain ⟨z, h1, h2⟩ := s.repr hh hn st
  exact ⟨z, h1, fun st => by rw [eqP_str h2 h2]; simp, fun st => by rw [eqP_str h2 h2]; simp⟩
/-! ### plain data by their height -/
inductive Ph : Nat → PV → Prop
  | non {h} : Ph h .non
  | bl {h} (b : Bool) : Ph h (.bl b)
  | int {h} (i : Int) : Ph h (.int i)
  | str {h} (x : Str) : Ph h (.str x)
  | tup {h} (xs : List PV) (t : ∀ x ∈ xs, Ph h x) : Ph (h + 1) (.tup xs)
theorem Ph.mono {h h' : Nat} {x : PV} (p : Ph h x) (e : h ≤ h') : Ph h' x := by
  induction p generalizing h' with
  | non => exact .non
  | bl b => exact .bl b
  | int i => exact .int i
  | str x => exact .str x
  | tup xs t ih =>
    obtain ⟨j, rfl⟩ : ∃ j, h' = j + 1 := ⟨h' - 1, by omega⟩
    exact .tup xs fun x hx => ih x hx (by omega)
theorem Ph.frz {h : Nat} {x : PV} (p : Ph h x) : Bb.frz x = x := by cases p <;> rfl
theorem Ph.clo {h m : Nat} {x : PV} (p : Ph h x) : Bb.clo m x = true := by
  induction p with
  | non | bl | int | str => simp [Bb.clo]
  | tup xs t ih =>
    simp only [Bb.clo]
    clear t
    induction xs with
    | nil => simp [clos]
    | cons y ys ih2 =>
      simp only [clos, Bool.and_eq_true]
      exact ⟨ih y List.mem_cons_self, ih2 fun x hx => ih x (List.mem_cons_of_mem _ hx)⟩
theorem Ph.tup2 {h : Nat} {x y : PV} (a : Ph h x) (b : Ph h y) : Ph (h + 1) (.tup [x, y]) := .tup _ fun z hz => by
  rcases List.mem_cons.mp hz with rfl | hz
  · exact a
  · rw [List.mem_singleton.mp hz]; exact b
theorem frzs_ph {h : Nat} {xs : List PV} (t : ∀ x ∈ xs, Ph h x) : frzs xs = xs := by
  unfold frzs
  conv => rhs; rw [← List.map_id xs]
  exact List.map_congr_left fun x hx => (t x hx).frz
theorem clos_ints (m : Nat) (ns : List Int) : clos m (ns.map .int) = true := by
  induction ns with
  | nil => simp [clos]
  | cons n ns ih => simp [clos, clo, ih]
theorem clos_all {m : Nat} {xs : List PV} : clos m xs = true ↔ ∀ x ∈ xs, clo m x = true := by
  induction xs with
  | nil => simp [clos]
  | cons n ns ih => simp [clos, ih]
end Bb
namespace Bb
open PySem L2 PyProof.Rows LamX He
theorem cutR_self {v : PV} {st : Sto} : cutR st.length v st = (v, st) := cutR_same rfl
theorem cutR_set {v : PV} {st : Sto} {j : Nat} {m : MO} : cutR st.length v (st.set j m) = (v, st.set j m) := cutR_same (by simp)
theorem cutX_self {v : PV} {st : Sto} : cutX st.length v st = st := by unfold cutX; split <;> simp
theorem isi_non_int {st : Sto}  : isiP st [.non, .ty "int"] = some (.bl false) := by simp [isiP, tyP, isiB]
theorem isi_non_bool {st : Sto}  : isiP st [.non, .ty "bool"] = some (.bl false) := by simp [isiP, tyP, isiB]
theorem isi_non_tuple {st : Sto}  : isiP st [.non, .ty "tuple"] = some (.bl false) := by simp [isiP, tyP, isiB]
theorem isi_non_str {st : Sto}  : isiP st [.non, .ty "str"] = some (.bl false) := by simp [isiP, tyP, isiB]
theorem isi_non_list {st : Sto}  : isiP st [.non, .ty "list"] = some (.bl false) := by simp [isiP, tyP, isiB]
theorem isi_bl_int {st : Sto} {b : Bool} : isiP st [.bl b, .ty "int"] = some (.bl true) := by simp [isiP, tyP, isiB]
theorem isi_bl_bool {st : Sto} {b : Bool} : isiP st [.bl b, .ty "bool"] = some (.bl true) := by simp [isiP, tyP, isiB]
theorem isi_bl_tuple {st : Sto} {b : Bool} : isiP st [.bl b, .ty "tuple"] = some (.bl false) := by simp [isiP, tyP, isiB]
theorem isi_bl_str {st : Sto} {b : Bool} : isiP st [.bl b, .ty "str"] = some (.bl false) := by simp [isiP, tyP, isiB]
theorem isi_bl_list {st : Sto} {b : Bool} : isiP st [.bl b, .ty "list"] = some (.bl false) := by simp [isiP, tyP, isiB]
theorem isi_int_int {st : Sto} {i : Int} : isiP st [.int i, .ty "int"] = some (.bl true) := by simp [isiP, tyP, isiB]
theorem isi_int_bool {st : Sto} {i : Int} : isiP st [.int i, .ty "bool"] = some (.bl false) := by simp [isiP, tyP, isiB]
theorem isi_int_tuple {st : Sto} {i : Int} : isiP st [.int i, .ty "tuple"] = some (.bl false) := by simp [isiP, tyP, isiB]
theorem isi_int_str {st : Sto} {i : Int} : isiP st [.int i, .ty "str"] = some (.bl false) := by simp [isiP, tyP, isiB]
theorem isi_int_list {st : Sto} {i : Int} : isiP st [.int i, .ty "list"] = some (.bl false) := by simp [isiP, tyP, isiB]
theorem isi_str_int {st : Sto} {x : Str} : isiP st [.str x, .ty "int"] = some (.bl false) := by simp [isiP, tyP, isiB]
theorem isi_str_bool {st : Sto} {x : Str} : isiP st [.str x, .ty "bool"] = some (.bl false) := by simp [isiP, tyP, isiB]
theorem isi_str_tuple {st : Sto} {x : Str} : isiP st [.str x, .ty "tuple"] = some (.bl false) := by simp [isiP, tyP, isiB]
theorem isi_str_str {st : Sto} {x : Str} : isiP st [.str x, .ty "str"] = some (.bl true) := by simp [isiP, tyP, isiB]
theorem isi_str_list {st : Sto} {x : Str} : isiP st [.str x, .ty "list"] = some (.bl false) := by simp [isiP, tyP, isiB]
theorem isi_tup_int {st : Sto} {xs : List PV} : isiP st [.tup xs, .ty "int"] = some (.bl false) := by simp [isiP, tyP, isiB]
theorem isi_tup_bool {st : Sto} {xs : List PV} : isiP st [.tup xs, .ty "bool"] = some (.bl false) := by simp [isiP, tyP, isiB]
theorem isi_tup_tuple {st : Sto} {xs : List PV} : isiP st [.tup xs, .ty "tuple"] = some (.bl true) := by simp [isiP, tyP, isiB]
theorem isi_tup_str {st : Sto} {xs : List PV} : isiP st [.tup xs, .ty "str"] = some (.bl false) := by simp [isiP, tyP, isiB]
theorem isi_tup_list {st : Sto} {xs : List PV} : isiP st [.tup xs, .ty "list"] = some (.bl false) := by simp [isiP, tyP, isiB]
theorem isi_fl_int {st : Sto} {xs : List PV} : isiP st [.fl xs, .ty "int"] = some (.bl false) := by simp [isiP, tyP, isiB]
theorem isi_fl_bool {st : Sto} {xs : List PV} : isiP st [.fl xs, .ty "bool"] = some (.bl false) := by simp [isiP, tyP, isiB]
theorem isi_fl_tuple {st : Sto} {xs : List PV} : isiP st [.fl xs, .ty "tuple"] = some (.bl false) := by simp [isiP, tyP, isiB]
theorem isi_fl_str {st : Sto} {xs : List PV} : isiP st [.fl xs, .ty "str"] = some (.bl false) := by simp [isiP, tyP, isiB]
theorem isi_fl_list {st : Sto} {xs : List PV} : isiP st [.fl xs, .ty "list"] = some (.bl true) := by simp [isiP, tyP, isiB]
theorem isi_tl_int {st : Sto} {xs : List PV} : isiP st [.tl xs, .ty "int"] = some (.bl false) := by simp [isiP, tyP, isiB]
theorem isi_tl_bool {st : Sto} {xs : List PV} : isiP st [.tl xs, .ty "bool"] = some (.bl false) := by simp [isiP, tyP, isiB]
theorem isi_tl_tuple {st : Sto} {xs : List PV} : isiP st [.tl xs, .ty "tuple"] = some (.bl false) := by simp [isiP, tyP, isiB]
theorem isi_tl_str {st : Sto} {xs : List PV} : isiP st [.tl xs, .ty "str"] = some (.bl false) := by simp [isiP, tyP, isiB]
theorem isi_tl_list {st : Sto} {xs : List PV} : isiP st [.tl xs, .ty "list"] = some (.bl true) := by simp [isiP, tyP, isiB]
theorem pow1018 {st : Sto} : powP st (.int 10) (.int 18) = some (.int 1000000000000000000) := by
  rw [powP_int, if_pos (by decide)]
  rfl
theorem blsP_map {α : Type} (f : α → Bool) (l : List α) : blsP (l.map fun a => PV.bl (f a)) = some (l.map f) := by
  induction l with
  | nil => rfl
  | cons x xs ih => simp [blsP, ih]
theorem allP_map {α : Type} {st : Sto} (f : α → Bool) (l : List α) : allP st [.fl (l.map fun a => PV.bl (f a))] = some (.bl (l.all f)) := by
  simp [allP, asL, asM, blsP_map, List.all_map]
theorem anyP_map {α : Type} {st : Sto} (f : α → Bool) (l : List α) : anyP st [.fl (l.map fun a => PV.bl (f a))] = some (.bl (l.any f)) := by
  simp [anyP, asL, asM, blsP_map, List.any_map]
theorem enumL_rng (xs : List PV) (k : Nat) : enumL xs k = (List.range xs.length).map fun n => .tup [.int ((n + k : Nat) : Int), frz (xs.getD n .non)] := by
  induction xs generalizing k with
  | nil => rfl
  | cons x r ih =>
    rw [enumL, ih, List.length_cons, List.range_succ_eq_map, List.map_cons, List.map_map]
    congr 1
    · simp
    · refine List.map_congr_left fun n _ => ?_
      simp
      omega
theorem enumL_0 (xs : List PV) : enumL xs 0 = (List.range xs.length).map fun n => .tup [.int (n : Int), frz (xs.getD n .non)] := enumL_rng xs 0
theorem rngL_0 (n : Nat) : rngL 0 n = (List.range n).map fun (k : Nat) => PV.int (k : Int) := by simp [rngL]
theorem atI_ints {ns : List Int} {i : Int} {n : Nat} (h : i = (n : Int)) (hn : n < ns.length) : atI (ns.map PV.int) i = some (.int (ns.getD n 0)) := by
  refine atI_some h ?_
  rw [List.getElem?_map, List.getElem?_eq_getElem hn]
  simp [List.getElem?_eq_getElem hn]
theorem rng1_ok {st : Sto} {n : Nat} (h : n ≤ 16777216) : rng1P st [.int (n : Int)] = some ((List.range n).map fun (k : Nat) => PV.int (k : Int), none) := by
  unfold rng1P
  dsimp only
  rw [if_pos ⟨by omega, by omega⟩]
  simp [rngL]
theorem rng2_1 {st : Sto} {n : Nat} (h : n ≤ 8388608) : rng2P st [.int 1, .int (n : Int)] = some ((List.range (n - 1)).map fun (k : Nat) => PV.int (1 + (k : Int)), none) := by
  unfold rng2P
  dsimp only
  rw [if_pos ⟨by omega, by omega, by omega, by omega⟩]
  have e : ((n : Int) - 1).toNat = n - 1 := by omega
  simp [rngL, e]
/-- a loop that looks for something -/
theorem forL_search {α β : Type} {all : List PV} {bt : BT} {body : DS} {st : Sto} {g : α → PV} (p : α → Option β) (f : β → PV) (J : En → Prop) : ∀ (l : List α), (∀ a ∈ l, ∀ env, J env → ∃ env1, bt (frz (g a)) env = some env1 ∧ match p a with
      | some v => body env1 st = .rt (f v) st
      | none => ∃ e, body env1 st = .nx e st ∧ J e) → ∀ env, J env → match l.findSome? p with
      | some v => forL none all bt body (l.map g) env st = .rt (f v) st
      | none => ∃ e, forL none all bt body (l.map g) env st = .nx e st ∧ J e
  | [], _, env, h => by
    simp only [List.findSome?_nil, List.map_nil, forL_nil]
    exact ⟨env, rfl, h⟩
  | a :: l, step, env, h => by
    obtain ⟨env1, h1, h2⟩ := step a List.mem_cons_self env h
    rw [List.findSome?_cons, List.map_cons, forL_cons, h1]
    cases q : p a with
    | some v =>
      rw [q] at h2
      dsimp only at h2 ⊢
      rw [h2]
    | none =>
      rw [q] at h2
      obtain ⟨e, h3, h4⟩ := h2
      dsimp only
      rw [h3]
      exact forL_search p f J l (fun b hb => step b (List.mem_cons_of_mem _ hb)) e h4
theorem getD_mem {α : Type} {xs : List α} {n : Nat} {d : α} (h : n < xs.length) : xs.getD n d ∈ xs := by
  rw [List.getD_eq_getElem?_getD, List.getElem?_eq_getElem h]
  exact List.getElem_mem h
theorem filter_head {α β : Type} (l : List α) (p : α → Bool) (f : α → β) : ((l.filter p).map f).head? = l.findSome? fun a => if p a = true then some (f a) else none := by
  induction l with
  | nil => rfl
  | cons a l ih =>
    rw [List.findSome?_cons]
    cases h : p a with
    | true => rw [List.filter_cons_of_pos h]; simp
    | false => rw [List.filter_cons_of_neg (by simp [h])]; simp [ih]
end Bb
namespace Bb
open PySem L2 PyProof.Rows LamX He
/-! ### the law's jar of drawn numbers, at a place of the store -/
def jar (a b : Int) : MO := .lst [.int a, .int b]
structure Jr (j : Nat) (st : Sto) : Prop where
  ex : ∃ a b : Int, 0 ≤ a ∧ 0 ≤ b ∧ b < 2147483647 ∧ st[j]? = some (jar a b)
  cl : st.all (cloM st.length) = true
def Js (j : Nat) (st st' : Sto) : Prop := ∃ a b : Int, 0 ≤ a ∧ 0 ≤ b ∧ b < 2147483647 ∧ st' = st.set j (jar a b)
theorem Jr.lt {j : Nat} {st : Sto} (h : Jr j st) : j < st.length := by
  obtain ⟨a, b, _, _, _, e⟩ := h.ex
  exact (List.getElem?_eq_some_iff.mp e).1
theorem Js.len {j : Nat} {st st' : Sto} (h : Js j st st') : st'.length = st.length := by
  obtain ⟨a, b, _, _, _, rfl⟩ := h
  simp
theorem set_self {α : Type} {l : List α} {j : Nat} {x : α} (h : l[j]? = some x) : l.set j x = l := by
  obtain ⟨h1, h2⟩ := List.getElem?_eq_some_iff.mp h
  rw [← h2, List.set_getElem_self]
theorem Js.refl {j : Nat} {st : Sto} (h : Jr j st) : Js j st st := by
  obtain ⟨a, b, h1, h2, h3, e⟩ := h.ex
  exact ⟨a, b, h1, h2, h3, (set_self e).symm⟩
theorem Js.trans {j : Nat} {st s1 s2 : Sto} (h : Js j st s1) (k : Js j s1 s2) : Js j st s2 := by
  obtain ⟨a, b, h1, h2, h3, rfl⟩ := h
  obtain ⟨c, d, k1, k2, k3, rfl⟩ := k
  exact ⟨c, d, k1, k2, k3, by rw [List.set_set]⟩
theorem all_set {α : Type} {p : α → Bool} {l : List α} {j : Nat} {x : α} (h : l.all p = true) (hx : p x = true) : (l.set j x).all p = true := by
  rw [List.all_eq_true] at h ⊢
  intro y hy
  rcases List.mem_or_eq_of_mem_set hy with hy | rfl
  · exact h y hy
  · exact hx
theorem jar_clo (n : Nat) (a b : Int) : cloM n (jar a b) = true := by simp [cloM, jar, clos, clo]
theorem Js.jr {j : Nat} {st st' : Sto} (k : Js j st st') (h : Jr j st) : Jr j st' := by
  have l := h.lt
  have hc := h.cl
  have e := k.len
  obtain ⟨a, b, h1, h2, h3, rfl⟩ := k
  refine ⟨⟨a, b, h1, h2, h3, by rw [List.getElem?_set_self l]⟩, ?_⟩
  rw [e]
  exact all_set hc (jar_clo _ _ _)
/-- a longer store -/
theorem clo_le {m n : Nat} (h : m ≤ n) : ∀ (x : PV), clo m x = true → clo n x = true := by
  have key : ∀ k : Nat, (∀ x : PV, sizeOf x < k → clo m x = true → clo n x = true) ∧ (∀ xs : List PV, sizeOf xs < k → clos m xs = true → clos n xs = true) := by
    intro k
    induction k with
    | zero => exact ⟨fun _ h => absurd h (Nat.not_lt_zero _), fun _ h => absurd h (Nat.not_lt_zero _)⟩
    | succ k ih =>
      refine ⟨fun x hx hc => ?_, fun xs hx hc => ?_⟩
      · cases x with
        | loc i => simp only [clo, decide_eq_true_eq] at hc ⊢; omega
        | tup xs | fl xs | tl xs | ro xs =>
          simp only [clo] at hc ⊢
          exact ih.2 xs (by simp at hx; omega) hc
        | lam f c q cl vs =>
          simp only [clo] at hc ⊢
          exact ih.2 cl (by simp at hx; omega) hc
        | _ => simp only [clo]
      · cases xs with
        | nil => simp [clos]
        | cons x xs =>
          simp only [clos, Bool.and_eq_true] at hc ⊢
          exact ⟨ih.1 x (by simp at hx; omega) hc.1, ih.2 xs (by simp at hx; omega) hc.2⟩
  exact fun x => (key (sizeOf x + 1)).1 x (Nat.lt_succ_self _)
theorem clos_le {m n : Nat} (h : m ≤ n) {xs : List PV} (hc : clos m xs = true) : clos n xs = true := clos_all.mpr fun x hx => clo_le h x (clos_all.mp hc x hx)
theorem cloM_le {m n : Nat} (h : m ≤ n) {x : MO} (hc : cloM m x = true) : cloM n x = true := by
  cases x with
  | lst xs => simp only [cloM] at hc ⊢; exact clos_le h hc
  | dct kvs => simp only [cloM] at hc ⊢; exact clos_le h hc
theorem Jr.app {j : Nat} {st l : Sto} (h : Jr j st) (hl : l.all (cloM (st.length + l.length)) = true) : Jr j (st ++ l) := by
  obtain ⟨a, b, h1, h2, h3, e⟩ := h.ex
  refine ⟨⟨a, b, h1, h2, h3, by rw [List.getElem?_append_left h.lt]; exact e⟩, ?_⟩
  rw [List.all_append, List.length_append, hl, Bool.and_true]
  have hc := h.cl
  rw [List.all_eq_true] at hc ⊢
  exact fun x hx => cloM_le (Nat.le_add_right _ _) (hc x hx)
theorem Js.app {j : Nat} {st l s : Sto} (h : j < st.length) (k : Js j (st ++ l) s) : ∃ st', s = st' ++ l ∧ Js j st st' := by
  obtain ⟨a, b, h1, h2, h3, rfl⟩ := k
  exact ⟨st.set j (jar a b), by rw [List.set_append_left _ _ h], a, b, h1, h2, h3, rfl⟩
theorem Jr.same {j : Nat} {st st' : Sto} (h : Jr j st) (k : Js j st st') (n : Nat) (e : n = st.length) (v : PV) : cutR n v st' = (v, st') := cutR_same (by rw [k.len, e])
/-- a function's own things are cut off behind it -/
theorem cut_list {n m : Nat} {st l : Sto} {xs : List PV} (h : st.length = n) (hl : l ≠ []) (hc : st.all (cloM n) = true) (hm : l[m]? = some (.lst xs)) (hx : clos n xs = true) : cutR n (.loc (n + m)) (st ++ l) = (.tl xs, st) := by
  unfold cutR
  have h1 : (st ++ l).length ≠ n := by
    rw [List.length_append, h]
    have := List.length_pos_iff.mpr hl
    omega
  have h2 : (st ++ l).take n = st := by rw [← h, List.take_left]
  have h3 : (st ++ l)[n + m]? = some (.lst xs) := by rw [← h, List.getElem?_append_right (by omega)]; simpa using hm
  rw [if_neg h1, h2, if_pos hc]
  simp only [h3]
  rw [if_neg (by omega), if_pos hx]
theorem cut_plain {n : Nat} {st l : Sto} {v : PV} (h : st.length = n) (hc : st.all (cloM n) = true) (hv : clo n v = true) (hp : ∀ m, v ≠ .loc m) (ht : ∀ xs, v ≠ .tl xs) : cutR n v (st ++ l) = (v, st) := by
  by_cases hl : l = []
  · subst hl
    rw [List.append_nil]
    exact cutR_same h
  unfold cutR
  have h1 : (st ++ l).length ≠ n := by
    rw [List.length_append, h]
    have := List.length_pos_iff.mpr hl
    omega
  have h2 : (st ++ l).take n = st := by rw [← h, List.take_left]
  rw [if_neg h1, h2, if_pos hc]
  cases v <;> first | exact absurd rfl (hp _) | exact absurd rfl (ht _) | (simp only [hv, if_true])
theorem cut_any {n : Nat} {st l : Sto} {v : PV} (h : st.length = n) (hc : st.all (cloM n) = true) (hv : clo n v = true) (hp : ∀ m, v ≠ .loc m) : cutR n v (st ++ l) = (v, st) := by
  by_cases hl : l = []
  · subst hl
    rw [List.append_nil]
    exact cutR_same h
  unfold cutR
  have h1 : (st ++ l).length ≠ n := by
    rw [List.length_append, h]
    have := List.length_pos_iff.mpr hl
    omega
  have h2 : (st ++ l).take n = st := by rw [← h, List.take_left]
  rw [if_neg h1, h2, if_pos hc]
  cases v <;> first | exact absurd rfl (hp _) | (simp only [hv, if_true])
theorem cutR_bl {n : Nat} {b : Bool} {st : Sto} : (cutR n (.bl b) st).1 = .bl b := by
  unfold cutR
  split
  · rfl
  · split
    · simp [clo]
    · rfl
/-! ### lists in the store -/
theorem at_app {st l : Sto} {n m : Nat} {x : MO} (h : st.length = n) (e : l[m]? = some x) : (st ++ l)[n + m]? = some x := by
  rw [← h, List.getElem?_append_right (by omega)]
  simpa using e
theorem at_app0 {st l : Sto} {n : Nat} {x : MO} (h : st.length = n) : (st ++ x :: l)[n]? = some x := at_app (m := 0) h rfl
theorem at_app1 {st l : Sto} {n : Nat} {x y : MO} (h : st.length = n) : (st ++ x :: y :: l)[n + 1]? = some y := at_app (m := 1) h rfl
theorem set_app0 {st l : Sto} {n : Nat} {x y : MO} (h : st.length = n) : (st ++ x :: l).set n y = st ++ y :: l := by
  rw [← h, List.set_append_right _ _ (Nat.le_refl _), Nat.sub_self, List.set_cons_zero]
theorem set_app1 {st l : Sto} {n : Nat} {x y z : MO} (h : st.length = n) : (st ++ x :: y :: l).set (n + 1) z = st ++ x :: z :: l := by
  rw [← h, List.set_append_right _ _ (by omega), Nat.add_sub_cancel_left, List.set_cons_succ, List.set_cons_zero]
theorem setP_at {st : Sto} {n k : Nat} {i : Int} {v : PV} {xs : List PV} (h : st[n]? = some (.lst xs)) (hi : i = (k : Int)) (hk : k < xs.length) : setP st (.loc n) (.int i) v = some (st.set n (.lst (xs.set k v))) := by
  subst hi
  unfold setP ixN
  simp only [h]
  rw [if_pos (by omega), if_pos (by omega)]
  simp
theorem appendP_at {st : Sto} {n : Nat} {v : PV} {xs : List PV} (h : st[n]? = some (.lst xs)) (hl : xs.length < 16777216) : appendP st (.loc n) [v] = some (.non, st.set n (.lst (xs ++ [v]))) := by
  simp [appendP, h, hl]
theorem popP_at {st : Sto} {n k : Nat} {i : Int} {v : PV} {xs : List PV} (h : st[n]? = some (.lst xs)) (hi : i = (k : Int)) (hl : xs.length ≤ 1000000) (hk : xs[k]? = some v) : popP st (.loc n) [.int i] = some (frz v, st.set n (.lst (xs.eraseIdx k))) := by
  subst hi
  have hlt := (List.getElem?_eq_some_iff.mp hk).1
  unfold popP
  simp only [h]
  rw [if_pos (by omega)]
  have e : seqIndex? (k : Int) xs.length = some k := by
    unfold seqIndex?
    rw [if_neg (show ¬ ((k : Int) < 0) by omega)]
    simp [hlt]
  rw [e]
  simp [hk]
theorem extendP_at {st : Sto} {n : Nat} {y : PV} {xs ys : List PV} (h : st[n]? = some (.lst xs)) (hy : asM st y = some ys) (hl : xs.length + ys.length ≤ 16777216) : extendP st (.loc n) [y] = some (.non, st.set n (.lst (xs ++ ys))) := by
  simp [extendP, h, hy, hl]
theorem seqI_loc {st : Sto} {n : Nat} {xs : List PV} (h : st[n]? = some (.lst xs)) : seqI st (.loc n) = some (xs, some n) := by simp [seqI, h]
/-- a comprehension that takes none, or all, of a list of the store -/
theorem lcL_noneC {chk : Option Nat} {all : List PV} {bt : BT} {tst : DT} {elt : D} {env : En} {st : Sto} (hc : chkP chk all st) : ∀ (l acc : List PV), (∀ a ∈ l, ∃ e, bt (frz a) env = some e ∧ tst e st = .ok false st) → lcL chk all bt tst elt env l acc st = .ok (.tl acc) st
  | [], acc, _ => by rw [lcL, if_pos hc]
  | x :: xs, acc, h => by
    obtain ⟨e, h1, h2⟩ := h x List.mem_cons_self
    have ih := lcL_noneC (elt := elt) hc xs acc fun y hy => h y (List.mem_cons_of_mem _ hy)
    rw [lcL, if_pos hc, h1]
    simp only [h2, noX, R.bind_ok, Bool.false_eq_true, if_false]
    exact ih
/-- a loop that only looks -/
theorem forL_allC {chk : Option Nat} {all : List PV} {bt : BT} {body : DS} {st : Sto} (J : En → Prop) (hc : chkP chk all st) : ∀ (l : List PV), (∀ x ∈ l, ∀ env, J env → ∃ env1 e, bt (frz x) env = some env1 ∧ body env1 st = .nx e st ∧ J e) → ∀ env, J env → ∃ e, forL chk all bt body l env st = .nx e st ∧ J e
  | [], _, env, h => ⟨env, by rw [forL, if_pos hc], h⟩
  | x :: xs, hs, env, h => by
    obtain ⟨env1, e, h1, h2, h3⟩ := hs x List.mem_cons_self env h
    obtain ⟨e2, k1, k2⟩ := forL_allC (chk := chk) (all := all) (bt := bt) (body := body) J hc xs (fun y hy => hs y (List.mem_cons_of_mem _ hy)) e h3
    refine ⟨e2, ?_, k2⟩
    rw [forL]
    refine Eq.trans (if_pos hc) ?_
    rw [h1]
    dsimp only
    rw [h2]
    exact k1
theorem dRev_tup {d ds : D} {env : En} {st : Sto} {xs : List PV} (h1 : d env st = .ok (.tup xs) st) (h2 : ds env st = .ok (.int (-1)) st) : dRev d ds env st = .ok (.tup xs.reverse) st := by
  rw [dRev_ap, h1, R.bind_ok, h2, R.bind_ok]
  simp
/-! ### while -/
theorem sWhile_rule {c : DT} {b : DS} (I : Nat → En → Sto → Prop) (F : En → Sto → Prop) (h : ∀ m env st, I m env st → (∃ s, c env st = .ok false s ∧ F env s) ∨ ∃ s e s' m', c env st = .ok true s ∧ b env s = .nx e s' ∧ m' < m ∧ I m' e s') (m : Nat) (env : En) (st : Sto) (hI : I m env st) : ∃ e s, sWhile c b env st = .nx e s ∧ F e s := by
  have key : ∀ m, ∀ env st, I m env st → ∃ n e s, whL c b n env st = .nx e s ∧ F e s := by
    intro m
    induction m using Nat.strongRecOn with
    | ind m ih =>
      intro env st hI
      rcases h m env st hI with ⟨s, h1, h2⟩ | ⟨s, e, s', m', h1, h2, h3, h4⟩
      · exact ⟨1, env, s, by simp [whL, h1, R.toS], h2⟩
      · obtain ⟨n, e2, s2, k1, k2⟩ := ih m' h3 e s' h4
        refine ⟨n + 1, e2, s2, ?_, k2⟩
        simp [whL, h1, h2, R.toS, k1]
  obtain ⟨n, e, s, h1, h2⟩ := key m env st hI
  exact ⟨e, s, sWhile_eq h1 (by simp), h2⟩
/-! ### the same things in another order -/
theorem perm_map {α β : Type} {f : α → β} {g : β → α} (hg : ∀ a, g (f a) = a) {ys : List β} {l : List α} (h : ys.Perm (l.map f)) : ∃ l' : List α, ys = l'.map f ∧ l'.Perm l := by
  refine ⟨ys.map g, ?_, ?_⟩
  · rw [List.map_map]
    conv => lhs; rw [← List.map_id ys]
    refine List.map_congr_left fun y hy => ?_
    obtain ⟨a, _, rfl⟩ := List.mem_map.mp (h.mem_iff.mp hy)
    simp [hg]
  · have := h.map g
    rw [List.map_map] at this
    have e : l.map (g ∘ f) = l := by
      conv => rhs; rw [← List.map_id l]
      exact List.map_congr_left fun a _ => hg a
    rwa [e] at this
theorem perm_erase {α : Type} {l : List α} {n : Nat} (h : n < l.length) : (l[n] :: l.eraseIdx n).Perm l := by
  rw [List.eraseIdx_eq_take_drop_succ]
  have e : l = l.take n ++ l[n] :: l.drop (n + 1) := by rw [List.getElem_cons_drop, List.take_append_drop]
  conv => rhs; rw [e]
  exact List.perm_middle.symm
theorem er_map {α β : Type} (f : α → β) : ∀ (l : List α) (n : Nat), (l.map f).eraseIdx n = (l.eraseIdx n).map f
  | [], _ => rfl
  | _ :: _, 0 => rfl
  | a :: l, n + 1 => by simp [er_map f l n]
def toI : PV → Int
  | .int i => i
  | _ => 0
theorem perm_ints {ys : List PV} {ns : List Int} (h : ys.Perm (ns.map .int)) : ∃ ms : List Int, ys = ms.map .int ∧ ms.Perm ns := perm_map (g := toI) (fun _ => rfl) h
theorem srt_lt {ns : List Int} (h : ns.Nodup) : (srt ns).Pairwise (· < ·) := by
  have h1 := srt_sorted ns
  have h2 : (srt ns).Nodup := (srt_perm ns).nodup_iff.mpr h
  exact (h1.and h2).imp fun ⟨a, b⟩ => by omega
theorem mem_srt {ns : List Int} {i : Int} : i ∈ srt ns ↔ i ∈ ns := (srt_perm ns).mem_iff
theorem len_srt {ns : List Int} : (srt ns).length = ns.length := (srt_perm ns).length_eq
theorem srt_self {ns : List Int} (h : ns.Pairwise (· ≤ ·)) : srt ns = ns := (srt_unique (List.Perm.refl _) h).symm
theorem srt_eq {ns ms : List Int} (h : ns.Perm ms) : srt ns = srt ms := srt_unique ((srt_perm ns).trans h) (srt_sorted ns)
theorem depth_ints : ∀ ns : List Int, PyData.depthAll (ns.map .int) = 0
  | [] => by simp [PyData.depthAll]
  | n :: ns => by simp [PyData.depthAll, PyData.depth, depth_ints ns]
theorem shaped_lst (ns : List Int) : SeqAt.shaped (.list (ns.map .int)) = true := by
  simp [SeqAt.shaped, PyData.canLay0, canLay_ints, PyData.depth, depth_ints]
theorem shaped_tpl (ns : List Int) : SeqAt.shaped (.tuple (ns.map .int)) = true := by
  simp [SeqAt.shaped, PyData.canLay0, canLay_ints, PyData.depth, depth_ints]
theorem eqv_ints : ∀ ns ms : List Int, PyData.eqvAll (ns.map .int) (ms.map .int) = (ns == ms)
  | [], [] => by simp [PyData.eqvAll]
  | [], _ :: _ => by simp [PyData.eqvAll]
  | _ :: _, [] => by simp [PyData.eqvAll]
  | n :: ns, m :: ms => by
    simp only [List.map_cons, PyData.eqvAll, PyData.eqv, eqv_ints ns ms]
    rfl
theorem eqP_lst {neg : Bool} {st : Sto} {x y : PV} {ns ms : List Int} (hx : asL st x = some (ns.map .int)) (hy : asL st y = some (ms.map .int)) : eqP neg st x y = some (.bl ((ns == ms) != neg)) := by
  unfold eqP pd
  rw [hx, hy]
  simp only [pds0_ints, Option.map_some, shaped_lst, and_self, if_true, PyData.eqv, eqv_ints]
theorem eqP_tpl {neg : Bool} {st : Sto} {ns ms : List Int} : eqP neg st (.tup (ns.map .int)) (.tup (ms.map .int)) = some (.bl ((ns == ms) != neg)) := by
  have e : ∀ ks : List Int, pd st (.tup (ks.map .int)) = some (.tuple (ks.map .int)) := fun ks => by
    unfold pd
    simp [asL, asM, pd0, pds0_ints]
  unfold eqP
  rw [e, e]
  simp only [shaped_tpl, and_self, if_true, PyData.eqv, eqv_ints]
end Bb
namespace Bb
open PySem L2 PyProof.Rows LamX He
/-! ### loops and comprehensions, out of the goal: `generalize hF : forL none _ _ _ _ _ _ = X`, then these -/
def oR {β : Type} (o : Option En) (k : En → Sto → R β) (st : Sto) : R β := match o with
  | some e => k e st
  | none => .bad
def oZ (o : Option En) (k : DS) (st : Sto) : RS := match o with
  | some e => k e st
  | none => .bad
theorem oR_s {β : Type} {e : En} {k : En → Sto → R β} {st : Sto} : oR (some e) k st = k e st := rfl
theorem oZ_s {e : En} {k : DS} {st : Sto} : oZ (some e) k st = k e st := rfl
theorem oR_ok {β : Type} {o : Option En} {k : En → Sto → R β} {st st' : Sto} {v : β} (h : oR o k st = .ok v st') : ∃ e, o = some e ∧ k e st = .ok v st' := by
  cases o with
  | none => cases h
  | some e => exact ⟨e, rfl, h⟩
section
variable {α : Type} {all : List PV} {bt : BT} {tst : DT} {elt : D} {body : DS} {env : En} {st : Sto} {g : α → PV}
theorem lc_fil {l : List α} (p : α → Bool) (f : α → PV) (h1 : ∀ a ∈ l, oR (bt (frz (g a)) env) tst st = .ok (p a) st) (h2 : ∀ a ∈ l, p a = true → oR (bt (frz (g a)) env) elt st = .ok (f a) st) :
    lcL none all bt tst elt env (l.map g) [] st = .ok (.tl ((l.filter p).map fun a => frz (f a))) st := by
  have := lcL_mapA (all := all) (bt := bt) (tst := tst) (elt := elt) (env := env) (st := st) (g := g) (e := fun a => (bt (frz (g a)) env).getD []) (p := p) (f := f) l [] fun a ha => by
    obtain ⟨e, e1, e2⟩ := oR_ok (h1 a ha)
    rw [e1]
    refine ⟨rfl, e2, fun hp => ?_⟩
    have := h2 a ha hp
    rw [e1] at this
    exact this
  simpa using this
theorem lc_map {l : List α} (f : α → PV) (h : ∀ a ∈ l, oR (bt (frz (g a)) env) elt st = .ok (f a) st) :
    lcL none all bt dYes elt env (l.map g) [] st = .ok (.tl (l.map fun a => frz (f a))) st := by
  have := lc_fil (all := all) (bt := bt) (tst := dYes) (elt := elt) (env := env) (st := st) (g := g) (l := l) (fun _ => true) f (fun a ha => by
    obtain ⟨e, e1, e2⟩ := oR_ok (h a ha)
    rw [e1]; rfl) (fun a ha _ => h a ha)
  rwa [List.filter_eq_self.mpr fun _ _ => rfl] at this
theorem lc_fil0 {l : List PV} (p : PV → Bool) (f : PV → PV) (h1 : ∀ a ∈ l, oR (bt (frz a) env) tst st = .ok (p a) st) (h2 : ∀ a ∈ l, p a = true → oR (bt (frz a) env) elt st = .ok (f a) st) :
    lcL none all bt tst elt env l [] st = .ok (.tl ((l.filter p).map fun a => frz (f a))) st := by
  have := lc_fil (all := all) (bt := bt) (tst := tst) (elt := elt) (env := env) (st := st) (g := fun x : PV => x) p f h1 h2
  simpa using this
theorem lc_map0 {l : List PV} (f : PV → PV) (h : ∀ a ∈ l, oR (bt (frz a) env) elt st = .ok (f a) st) :
    lcL none all bt dYes elt env l [] st = .ok (.tl (l.map fun a => frz (f a))) st := by
  have := lc_map (all := all) (bt := bt) (elt := elt) (env := env) (st := st) (g := fun x : PV => x) f h
  simpa using this
/-- a loop that looks for something -/
theorem for_look {X : RS} {l : List α} (hF : forL none all bt body (l.map g) env st = X) (p : α → Option PV) (J : En → Prop) (hJ : J env) (h : ∀ a ∈ l, ∀ env, J env → match p a with
      | some v => oZ (bt (frz (g a)) env) body st = .rt v st
      | none => ∃ e, oZ (bt (frz (g a)) env) body st = .nx e st ∧ J e) : match l.findSome? p with
      | some v => X = .rt v st
      | none => ∃ e, X = .nx e st ∧ J e := by
  subst hF
  have key := forL_search (all := all) (bt := bt) (body := body) (st := st) (g := g) (f := fun v => v) p J l (fun a ha env hj => by
    have := h a ha env hj
    cases q : bt (frz (g a)) env with
    | none =>
      rw [q] at this
      cases w : p a <;> rw [w] at this
      · obtain ⟨e, h1, _⟩ := this; cases h1
      · cases this
    | some e =>
      rw [q] at this
      refine ⟨e, rfl, ?_⟩
      cases w : p a <;> rw [w] at this <;> exact this) env hJ
  cases w : l.findSome? p with
  | none => rw [w] at key; exact key
  | some v => rw [w] at key; exact key
/-- a loop with its state -/
theorem for_inv {X : RS} {l : List α} (hF : forL none all bt body (l.map g) env st = X) (I : List α → En → Sto → Prop) (Q : RS → Prop) (h0 : I l env st) (fin : ∀ env st, I [] env st → Q (.nx env st)) (step : ∀ a l env st, I (a :: l) env st → LpQ (I l) Q (oZ (bt (frz (g a)) env) body st)) (hb : ¬ Q .bad) : Q X := by
  subst hF
  refine forL_map I Q (fun a l env st hi => ?_) fin l env st h0
  have := step a l env st hi
  cases q : bt (frz (g a)) env with
  | none => rw [q] at this; exact absurd this hb
  | some e => rw [q] at this; exact ⟨e, rfl, this⟩
end
/-! ### plain data, looked at for likeness -/
theorem pd0_plain : ∀ (x : PV) (d : PyData), pd0 x = some d → d.plain = true := by
  have key : ∀ k : Nat, (∀ x : PV, sizeOf x < k → ∀ d, pd0 x = some d → d.plain = true) ∧ (∀ xs : List PV, sizeOf xs < k → ∀ ds, pds0 xs = some ds → PyData.plainAll ds = true) := by
    intro k
    induction k with
    | zero => exact ⟨fun _ h => absurd h (Nat.not_lt_zero _), fun _ h => absurd h (Nat.not_lt_zero _)⟩
    | succ k ih =>
      refine ⟨fun x hx d hd => ?_, fun xs hx ds hd => ?_⟩
      · cases x with
        | tup xs | fl xs | tl xs | ro xs =>
          simp only [pd0, Option.map_eq_some_iff] at hd
          obtain ⟨ds, h1, rfl⟩ := hd
          have := ih.2 xs (by simp at hx; omega) ds h1
          simpa [PyData.plain] using this
        | loc _ | ty _ => cases hd
        | lam _ _ _ _ _ => cases hd
        | _ => cases hd; simp [PyData.plain]
      · cases xs with
        | nil => cases hd; simp [PyData.plainAll]
        | cons x xs =>
          simp only [pds0] at hd
          split at hd
          · rename_i d ds' h1 h2
            cases hd
            have a := ih.1 x (by simp at hx; omega) d h1
            have b := ih.2 xs (by simp at hx; omega) ds' h2
            simp [PyData.plainAll, a, b]
          · cases hd
  exact fun x => (key (sizeOf x + 1)).1 x (Nat.lt_succ_self _)
theorem Sm.pdx {h n : Nat} {x : PV} (s : Sm h n x) (hh : h ≤ 60) : ∃ d, pd0 x = some d ∧ (∀ st, pd st x = some d) ∧ SeqAt.shaped d = true ∧ PyData.eqv d d = true := by
  obtain ⟨d, h1, h2, h3, h4, h5, h6⟩ := s.ex
  refine ⟨d, h1, pd_of h1, ?_, SeqAt.eqv_refl_plain d (pd0_plain x d h1)⟩
  simp [SeqAt.shaped, h3]
  omega
theorem Sm.eqSelf {h n : Nat} {x : PV} (s : Sm h n x) (hh : h ≤ 60) (neg : Bool) (st : Sto) : eqP neg st x x = some (.bl (true != neg)) := by
  obtain ⟨d, _, h2, h3, h4⟩ := s.pdx hh
  unfold eqP
  rw [h2]
  simp only [h3, and_self, if_true, h4]
/-- x in (y, ..), of plain things -/
def inB (x : PV) (ys : List PV) : Bool := match inP false [] x (.tup ys) with
  | some (.bl b) => b
  | _ => false
theorem inP_sm {h n h' n' : Nat} {x : PV} {ys : List PV} (s : Sm h n x) (hh : h ≤ 60) (t : ∀ y ∈ ys, Sm h' n' y) (neg : Bool) {y : PV} {st : Sto} (hy : asS st y = some ys) : inP neg st x y = some (.bl (inB x ys != neg)) := by
  obtain ⟨d, _, h2, h3, _⟩ := s.pdx hh
  obtain ⟨ds, k1, _, k3, _⟩ := (Sms.all t).ex
  have e : ∀ (neg : Bool) (st : Sto) (y : PV), asS st y = some ys → inP neg st x y = some (.bl ((ds.any fun z => PyData.eqv z d) != neg)) := fun neg st y hy => by
    unfold inP
    rw [h2, hy]
    simp only [k1, h3, k3, and_self, if_true]
  rw [e neg st y hy]
  unfold inB
  rw [e false [] (.tup ys) rfl]
  simp
end Bb
namespace Bb
open PySem L2 PyProof.Rows LamX He
/-! ### a def's own lists behind the store that it was handed -/
structure Own (j : Nat) (st : Sto) (ls : List MO) (s : Sto) : Prop where
  ex : ∃ s1, s = s1 ++ ls ∧ Js j st s1
  pl : ls.all (cloM (st.length + ls.length)) = true
section
variable {j : Nat} {st s : Sto} {ls : List MO}
theorem Own.nil (h : Jr j st) : Own j st [] st := ⟨⟨st, by simp, Js.refl h⟩, rfl⟩
theorem Own.len (o : Own j st ls s) : s.length = st.length + ls.length := by
  obtain ⟨s1, rfl, h⟩ := o.ex
  rw [List.length_append, h.len]
theorem Own.jr (o : Own j st ls s) (h : Jr j st) : Jr j s := by
  obtain ⟨s1, rfl, h1⟩ := o.ex
  exact (h1.jr h).app (by rw [h1.len]; exact o.pl)
theorem Own.js (o : Own j st ls s) (h : Jr j st) {s' : Sto} (k : Js j s s') : Own j st ls s' := by
  obtain ⟨s1, rfl, h1⟩ := o.ex
  obtain ⟨s2, rfl, h2⟩ := Js.app (by rw [h1.len]; exact h.lt) k
  exact ⟨⟨s2, rfl, h1.trans h2⟩, o.pl⟩
theorem Own.at (o : Own j st ls s) {n i : Nat} {x : MO} (hn : n = st.length + i) (h : ls[i]? = some x) : s[n]? = some x := by
  obtain ⟨s1, rfl, h1⟩ := o.ex
  subst hn
  exact at_app h1.len h
theorem Own.set (o : Own j st ls s) {n i : Nat} {x : MO} (hn : n = st.length + i) (hi : i < ls.length) (hx : cloM (st.length + ls.length) x = true) : Own j st (ls.set i x) (s.set n x) := by
  obtain ⟨s1, rfl, h1⟩ := o.ex
  subst hn
  refine ⟨⟨s1, ?_, h1⟩, ?_⟩
  · rw [← h1.len, List.set_append_right _ _ (by omega), Nat.add_sub_cancel_left]
  · rw [List.length_set]
    exact all_set o.pl hx
theorem Own.push (o : Own j st ls s) {x : MO} (hx : cloM (st.length + (ls.length + 1)) x = true) : Own j st (ls ++ [x]) (s ++ [x]) := by
  obtain ⟨s1, rfl, h1⟩ := o.ex
  refine ⟨⟨s1, by simp, h1⟩, ?_⟩
  rw [List.all_append, List.length_append]
  simp only [List.length_cons, List.length_nil, List.all_cons, List.all_nil, Bool.and_true, Bool.and_eq_true]
  refine ⟨?_, hx⟩
  have hc := o.pl
  rw [List.all_eq_true] at hc ⊢
  exact fun y hy => cloM_le (by omega) (hc y hy)
theorem Own.cutV (o : Own j st ls s) (h : Jr j st) {v : PV} (hv : clo st.length v = true) (hp : ∀ m, v ≠ .loc m) (ht : ∀ xs, v ≠ .tl xs) : ∃ s1, cutR st.length v s = (v, s1) ∧ Js j st s1 := by
  obtain ⟨s1, rfl, h1⟩ := o.ex
  have hc := (h1.jr h).cl
  rw [h1.len] at hc
  exact ⟨s1, cut_plain h1.len hc hv hp ht, h1⟩
theorem Own.cutA (o : Own j st ls s) (h : Jr j st) {v : PV} (hv : clo st.length v = true) (hp : ∀ m, v ≠ .loc m) : ∃ s1, cutR st.length v s = (v, s1) ∧ Js j st s1 := by
  obtain ⟨s1, rfl, h1⟩ := o.ex
  have hc := (h1.jr h).cl
  rw [h1.len] at hc
  exact ⟨s1, cut_any h1.len hc hv hp, h1⟩
theorem Own.cutL (o : Own j st ls s) (h : Jr j st) {n i : Nat} {xs : List PV} (hn : n = st.length + i) (hi : ls[i]? = some (.lst xs)) (hv : clos st.length xs = true) : ∃ s1, cutR st.length (.loc n) s = (.tl xs, s1) ∧ Js j st s1 := by
  obtain ⟨s1, rfl, h1⟩ := o.ex
  have hc := (h1.jr h).cl
  rw [h1.len] at hc
  subst hn
  exact ⟨s1, cut_list h1.len (fun e => by subst e; cases hi) hc hi hv, h1⟩
theorem Own.loc (o : Own j st ls s) {n i : Nat} {xs : List PV} (hn : n = st.length + i) (h : ls[i]? = some (.lst xs)) : isLoc s (.loc n) = true := isLoc_at (o.at hn h)
theorem Own.append (o : Own j st ls s) {n i : Nat} {xs : List PV} {v : PV} (hn : n = st.length + i) (h : ls[i]? = some (.lst xs)) (hl : xs.length < 16777216) (hv : clo (st.length + ls.length) v = true) :
    appendP s (.loc n) [v] = some (.non, s.set n (.lst (xs ++ [v]))) ∧ Own j st (ls.set i (.lst (xs ++ [v]))) (s.set n (.lst (xs ++ [v]))) := by
  refine ⟨appendP_at (o.at hn h) hl, o.set hn (List.getElem?_eq_some_iff.mp h).1 ?_⟩
  have hc : cloM (st.length + ls.length) (.lst xs) = true := List.all_eq_true.mp o.pl _ (List.mem_of_getElem? h)
  simp only [cloM] at hc ⊢
  exact clos_all.mpr fun x hx => by
    rcases List.mem_append.mp hx with hx | hx
    · exact clos_all.mp hc x hx
    · rw [List.mem_singleton.mp hx]; exact hv
theorem Own.extend (o : Own j st ls s) {n i : Nat} {xs ys : List PV} {y : PV} (hn : n = st.length + i) (h : ls[i]? = some (.lst xs)) (hy : asM s y = some ys) (hl : xs.length + ys.length ≤ 16777216) (hv : clos (st.length + ls.length) ys = true) :
    extendP s (.loc n) [y] = some (.non, s.set n (.lst (xs ++ ys))) ∧ Own j st (ls.set i (.lst (xs ++ ys))) (s.set n (.lst (xs ++ ys))) := by
  refine ⟨extendP_at (o.at hn h) hy hl, o.set hn (List.getElem?_eq_some_iff.mp h).1 ?_⟩
  have hc : cloM (st.length + ls.length) (.lst xs) = true := List.all_eq_true.mp o.pl _ (List.mem_of_getElem? h)
  simp only [cloM] at hc ⊢
  exact clos_all.mpr fun x hx => by
    rcases List.mem_append.mp hx with hx | hx
    · exact clos_all.mp hc x hx
    · exact clos_all.mp hv x hx
end
theorem cloM_nil {m : Nat} : cloM m (.lst []) = true := rfl
theorem clo_tup {m : Nat} {xs : List PV} (h : ∀ x ∈ xs, clo m x = true) : clo m (.tup xs) = true := by
  simp only [clo]
  exact clos_all.mpr h
theorem clo_int {m : Nat} {i : Int} : clo m (.int i) = true := by simp [clo]
/-- a loop with its state; in a step the claim is a word of its own -/
theorem for_st {α : Type} {X : RS} {all : List PV} {bt : BT} {body : DS} {env : En} {g : α → PV} {s : Sto} {l : List α} (hF : forL none all bt body (l.map g) env s = X) (I : List α → En → Sto → Prop) (Q : RS → Prop) (h0 : I l env s) (fin : ∀ env st, I [] env st → Q (.nx env st)) (hb : ¬ Q .bad)
    (step : ∀ a l env st, I (a :: l) env st → ∀ (J : En → Sto → Prop) (K : RS → Prop), (∀ e s, I l e s → J e s) → (∀ r, Q r → K r) → LpQ J K (oZ (bt (frz (g a)) env) body st)) : Q X :=
  for_inv hF I Q h0 fin (fun a l env st h => step a l env st h _ _ (fun _ _ h => h) fun _ h => h) hb
/-- a loop that only looks, over a list of the store too -/
theorem for_allC {X : RS} {chk : Option Nat} {l all : List PV} {bt : BT} {body : DS} {env : En} {st : Sto} (hF : forL chk all bt body l env st = X) (J : En → Prop) (hJ : J env) (hc : chkP chk all st) (h : ∀ x ∈ l, ∀ env, J env → ∃ e, oZ (bt (frz x) env) body st = .nx e st ∧ J e) : ∃ e, X = .nx e st ∧ J e := by
  subst hF
  refine forL_allC J hc l (fun x hx env hj => ?_) env hJ
  obtain ⟨e, h1, h2⟩ := h x hx env hj
  cases q : bt (frz x) env with
  | none => rw [q] at h1; cases h1
  | some e1 => rw [q] at h1; exact ⟨e1, e, rfl, h1, h2⟩
/-- a comprehension with draws -/
theorem lc_draw {α : Type} {X : R PV} {all : List PV} {bt : BT} {elt : D} {env : En} {g : α → PV} {s : Sto} {l : List α} (hF : lcL none all bt dYes elt env (l.map g) [] s = X) (I : Sto → Prop) (P : α → PV → Prop) (hI : I s)
    (h : ∀ a ∈ l, ∀ s, I s → ∃ v s', oR (bt (frz (g a)) env) elt s = .ok v s' ∧ I s' ∧ P a (frz v)) : ∃ vs s', X = .ok (.tl vs) s' ∧ I s' ∧ vs.length = l.length ∧ (∀ v ∈ vs, ∃ a ∈ l, P a v) ∧ ∀ (i : Nat) (a : α), l[i]? = some a → ∃ v, vs[i]? = some v ∧ P a v := by
  have key : ∀ (l : List α) (acc : List PV) (s : Sto), I s → (∀ a ∈ l, ∀ s, I s → ∃ v s', oR (bt (frz (g a)) env) elt s = .ok v s' ∧ I s' ∧ P a (frz v)) → ∃ vs s', lcL none all bt dYes elt env (l.map g) acc s = .ok (.tl (acc ++ vs)) s' ∧ I s' ∧ vs.length = l.length ∧ ∀ (i : Nat) (a : α), l[i]? = some a → ∃ v, vs[i]? = some v ∧ P a v := by
    intro l
    induction l with
    | nil => exact fun acc s hi _ => ⟨[], s, by rw [List.map_nil, lcL_nil, List.append_nil], hi, rfl, fun i a e => by simp at e⟩
    | cons a l ih =>
      intro acc s hi h
      obtain ⟨v, s1, e1, h1, h2⟩ := h a List.mem_cons_self s hi
      obtain ⟨e, e2, e3⟩ := oR_ok e1
      obtain ⟨vs, s2, k1, k2, k3, k4⟩ := ih (acc ++ [frz v]) s1 h1 fun b hb => h b (List.mem_cons_of_mem _ hb)
      refine ⟨frz v :: vs, s2, ?_, k2, by simp [k3], fun i b hb => ?_⟩
      · rw [List.map_cons, lcL_cons, e2]
        simp only [dYes, noX, R.bind_ok, if_true, e3]
        rw [k1]
        simp
      · cases i with
        | zero => simp at hb; subst hb; exact ⟨_, rfl, h2⟩
        | succ i => exact k4 i b (by simpa using hb)
  obtain ⟨vs, s', e1, e2, e3, e4⟩ := key l [] s hI h
  refine ⟨vs, s', by rw [← hF, e1]; rfl, e2, e3, fun v hv => ?_, e4⟩
  obtain ⟨i, hi, rfl⟩ := List.mem_iff_getElem.mp hv
  obtain ⟨v, h1, h2⟩ := e4 i (l[i]'(by omega)) (List.getElem?_eq_getElem (by omega))
  rw [List.getElem?_eq_getElem hi] at h1
  cases h1
  exact ⟨_, List.getElem_mem _, h2⟩
end Bb
namespace Bb
open PySem L2 PyProof.Rows LamX He
/-! ### things that are walked: a tuple, a list, a list of the store -/
def Lk (j : Nat) (st : Sto) (y : PV) (xs : List PV) : Prop := y = .tup xs ∨ y = .fl xs ∨ ∃ n, y = .loc n ∧ n ≠ j ∧ st[n]? = some (.lst xs)
section
variable {j : Nat} {st : Sto} {y : PV} {xs : List PV}
theorem Lk.len (h : Lk j st y xs) : lenP st [y] = some (.int (xs.length : Int)) := by
  rcases h with rfl | rfl | ⟨n, rfl, _, h⟩
  · rfl
  · rfl
  · exact lenP_loc h
theorem Lk.lst (h : Lk j st y xs) : lstP st [y] = some (.tl xs) := by
  rcases h with rfl | rfl | ⟨n, rfl, _, h⟩
  · rfl
  · rfl
  · simp [lstP, asL, asM, asS, h]
theorem Lk.frz (h : Lk j st y xs) : frz y = y := by
  rcases h with rfl | rfl | ⟨n, rfl, _, h⟩ <;> rfl
theorem Lk.app (h : Lk j st y xs) (l : Sto) : Lk j (st ++ l) y xs := by
  rcases h with h | h | ⟨n, h1, h2, h3⟩
  · exact .inl h
  · exact .inr (.inl h)
  · exact .inr (.inr ⟨n, h1, h2, by rw [List.getElem?_append_left (List.getElem?_eq_some_iff.mp h3).1]; exact h3⟩)
theorem Lk.js {s' : Sto} (h : Lk j st y xs) (k : Js j st s') : Lk j s' y xs := by
  rcases h with h | h | ⟨n, h1, h2, h3⟩
  · exact .inl h
  · exact .inr (.inl h)
  · obtain ⟨a, b, _, _, _, rfl⟩ := k
    exact .inr (.inr ⟨n, h1, h2, by rw [List.getElem?_set_ne (Ne.symm h2)]; exact h3⟩)
theorem Lk.ix (h : Lk j st y xs) {i : Int} : ixP st y (.int i) = (atI xs i).map Bb.frz := by
  rcases h with rfl | rfl | ⟨n, rfl, _, h⟩
  · rfl
  · rfl
  · exact ixP_loc h
theorem Lk.seq (h : Lk j st y xs) : ∃ chk, seqI st y = some (xs, chk) ∧ chkP chk xs st := by
  rcases h with rfl | rfl | ⟨n, rfl, _, h⟩
  · exact ⟨none, rfl, trivial⟩
  · exact ⟨none, rfl, trivial⟩
  · exact ⟨some n, seqI_loc h, h⟩
theorem Lk.asS (h : Lk j st y xs) : Bb.asS st y = some xs := by
  rcases h with rfl | rfl | ⟨n, rfl, _, h⟩
  · rfl
  · rfl
  · simp [Bb.asS, asL, asM, h]
end
theorem Own.lk {j : Nat} {st s : Sto} {ls : List MO} (o : Own j st ls s) (h : Jr j st) {n i : Nat} {xs : List PV} (hn : n = st.length + i) (hi : ls[i]? = some (.lst xs)) : Lk j s (.loc n) xs := .inr (.inr ⟨n, rfl, by have := h.lt; omega, o.at hn hi⟩)
theorem asS_at {st : Sto} {n : Nat} {xs : List PV} (h : st[n]? = some (.lst xs)) : asS st (.loc n) = some xs := by simp [asS, asL, asM, h]
theorem asL_at {st : Sto} {n : Nat} {xs : List PV} (h : st[n]? = some (.lst xs)) : asL st (.loc n) = some xs := by simp [asL, asM, h]
theorem asM_at {st : Sto} {n : Nat} {xs : List PV} (h : st[n]? = some (.lst xs)) : asM st (.loc n) = some xs := by simp [asM, h]
theorem tupP_at {st : Sto} {n : Nat} {xs : List PV} (h : st[n]? = some (.lst xs)) : tupP st [.loc n] = some (.tup xs) := by simp [tupP, asL, asM, h]
theorem get_last {α : Type} {l : List α} {x : α} : (l ++ [x])[l.length]? = some x := by simp
theorem set_last {α : Type} {l : List α} {x y : α} : (l ++ [x]).set l.length y = l ++ [y] := by simp
theorem getD_app {α : Type} {l : List α} {x d : α} {i : Nat} (h : i < l.length) : (l ++ [x]).getD i d = l.getD i d := by
  simp [List.getD_eq_getElem?_getD, List.getElem?_append_left h]
theorem getD_last {α : Type} {l : List α} {x d : α} : (l ++ [x]).getD l.length d = x := by
  simp [List.getD_eq_getElem?_getD]
theorem getD_map' {α β : Type} (f : α → β) (l : List α) (i : Nat) (d : α) (d' : β) (h : i < l.length) : (l.map f).getD i d' = f (l.getD i d) := by
  simp [List.getD_eq_getElem?_getD, List.getElem?_eq_getElem h]
/-! ### a comprehension over a list of the store too -/
section
variable {chk : Option Nat} {all : List PV} {bt : BT} {tst : DT} {elt : D} {env : En} {st : Sto}
theorem lc_filC {l : List PV} (hc : chkP chk all st) (p : PV → Bool) (f : PV → PV) (h1 : ∀ a ∈ l, oR (bt (frz a) env) tst st = .ok (p a) st) (h2 : ∀ a ∈ l, p a = true → oR (bt (frz a) env) elt st = .ok (f a) st) :
    lcL chk all bt tst elt env l [] st = .ok (.tl ((l.filter p).map fun a => frz (f a))) st := by
  have key : ∀ (l acc : List PV), (∀ a ∈ l, oR (bt (frz a) env) tst st = .ok (p a) st) → (∀ a ∈ l, p a = true → oR (bt (frz a) env) elt st = .ok (f a) st) → lcL chk all bt tst elt env l acc st = .ok (.tl (acc ++ (l.filter p).map fun a => frz (f a))) st := by
    intro l
    induction l with
    | nil => intro acc _ _; rw [lcL, if_pos hc]; simp
    | cons x xs ih =>
      intro acc h1 h2
      obtain ⟨e, e1, e2⟩ := oR_ok (h1 x List.mem_cons_self)
      have ih := fun acc => ih acc (fun a ha => h1 a (List.mem_cons_of_mem _ ha)) fun a ha => h2 a (List.mem_cons_of_mem _ ha)
      rw [lcL, if_pos hc, e1]
      simp only [e2, noX, R.bind_ok]
      cases hp : p x with
      | true =>
        have h3 := h2 x List.mem_cons_self hp
        rw [e1] at h3
        have h3 : elt e st = .ok (f x) st := h3
        simp only [if_true, h3, R.bind_ok]
        rw [ih, List.filter_cons_of_pos hp]
        simp
      | false =>
        simp only [Bool.false_eq_true, if_false]
        rw [ih, List.filter_cons_of_neg (by simp [hp])]
  have := key l [] h1 h2
  simpa using this
theorem lc_mapC {l : List PV} (hc : chkP chk all st) (f : PV → PV) (h : ∀ a ∈ l, oR (bt (frz a) env) elt st = .ok (f a) st) : lcL chk all bt dYes elt env l [] st = .ok (.tl (l.map fun a => frz (f a))) st := by
  have := lc_filC (tst := dYes) hc (fun _ => true) f (fun a ha => by
    obtain ⟨e, e1, e2⟩ := oR_ok (h a ha)
    rw [e1]; rfl) (fun a ha _ => h a ha)
  rwa [List.filter_eq_self.mpr fun _ _ => rfl] at this
end
/-- a loop with its state, over a list of the store too -/
theorem for_stC {X : RS} {chk : Option Nat} {all : List PV} {bt : BT} {body : DS} {env : En} {s : Sto} {l : List PV} (hF : forL chk all bt body l env s = X) (I : List PV → En → Sto → Prop) (Q : RS → Prop) (hc : ∀ l env s, I l env s → chkP chk all s) (h0 : I l env s) (fin : ∀ env st, I [] env st → Q (.nx env st)) (hb : ¬ Q .bad)
    (step : ∀ a l env st, I (a :: l) env st → ∀ (J : En → Sto → Prop) (K : RS → Prop), (∀ e s, I l e s → J e s) → (∀ r, Q r → K r) → LpQ J K (oZ (bt (frz a) env) body st)) : Q X := by
  subst hF
  have key : ∀ (l : List PV) (env : En) (st : Sto), I l env st → Q (forL chk all bt body l env st) := by
    intro l
    induction l with
    | nil => intro env st h; rw [forL, if_pos (hc _ _ _ h)]; exact fin env st h
    | cons a l ih =>
      intro env st h
      have h2 := step a l env st h _ _ (fun _ _ h => h) fun _ h => h
      rw [forL, if_pos (hc _ _ _ h)]
      cases q : bt (frz a) env with
      | none => rw [q] at h2; exact absurd h2 hb
      | some e1 =>
        rw [q] at h2
        dsimp only
        have h2 : LpQ (I l) Q (body e1 st) := h2
        cases w : body e1 st with
        | nx e s => rw [w] at h2; exact ih e s h2
        | ct e s => rw [w] at h2; exact ih e s h2
        | bk e s => rw [w] at h2; exact h2
        | rt v s => rw [w] at h2; exact h2
        | ex c w e s => rw [w] at h2; exact h2
        | bad => rw [w] at h2; exact h2
  exact key l env s h0
/-! ### two fors that only look -/
section
variable {all : List PV} {bt bt1 : BT} {tst tst1 : DT} {di : DI} {elt : D} {vs1 : List Nat} {env : En} {st : Sto}
theorem l2I_fil {chk : Option Nat} {l : List PV} (hc : chkP chk all st) (p : PV → Bool) (f : PV → PV) : ∀ {acc : List PV}, acc.length + l.length ≤ 16777216 → (∀ a ∈ l, oR (bt (frz a) env) tst st = .ok (p a) st) → (∀ a ∈ l, p a = true → oR (bt (frz a) env) elt st = .ok (f a) st) →
    l2I chk all bt tst elt env l acc st = .ok (acc ++ (l.filter p).map fun a => frz (f a)) st := by
  induction l with
  | nil => intro acc _ _ _; rw [l2I, if_pos hc]; simp
  | cons x xs ih =>
    intro acc hl h1 h2
    simp only [List.length_cons] at hl
    obtain ⟨e, e1, e2⟩ := oR_ok (h1 x List.mem_cons_self)
    rw [l2I, if_pos hc, e1]
    simp only [e2, noX, R.bind_ok]
    cases hp : p x with
    | true =>
      have h3 := h2 x List.mem_cons_self hp
      rw [e1] at h3
      have h3 : elt e st = .ok (f x) st := h3
      simp only [if_true, h3, R.bind_ok]
      rw [if_pos (by omega), ih (by simp; omega) (fun a ha => h1 a (List.mem_cons_of_mem _ ha)) fun a ha => h2 a (List.mem_cons_of_mem _ ha), List.filter_cons_of_pos hp]
      simp
    | false =>
      simp only [Bool.false_eq_true, if_false]
      rw [ih (by omega) (fun a ha => h1 a (List.mem_cons_of_mem _ ha)) fun a ha => h2 a (List.mem_cons_of_mem _ ha), List.filter_cons_of_neg (by simp [hp])]
theorem l2_fil {α β : Type} {g : α → PV} {g1 : β → PV} {l : List α} (c : α → Option Nat) (m : α → List β) (p : α → β → Bool) (f : α → β → PV)
    (hl : ((l.map fun a => (m a).length).sum) ≤ 16777216)
    (h0 : ∀ a ∈ l, ∃ e, bt (frz (g a)) env = some e ∧ tst e st = .ok true st ∧ di e st = .ok ((m a).map g1, c a) st ∧ chkP (c a) ((m a).map g1) st ∧ (∀ b ∈ m a, oR (bt1 (frz (g1 b)) (wipeE e vs1)) tst1 st = .ok (p a b) st) ∧ ∀ b ∈ m a, p a b = true → oR (bt1 (frz (g1 b)) (wipeE e vs1)) elt st = .ok (f a b) st) :
    l2L none all bt tst di bt1 tst1 elt vs1 env (l.map g) [] st = .ok (.tl (l.flatMap fun a => ((m a).filter (p a)).map fun b => frz (f a b))) st := by
  have key : ∀ (l : List α) (acc : List PV), acc.length + ((l.map fun a => (m a).length).sum) ≤ 16777216 → (∀ a ∈ l, ∃ e, bt (frz (g a)) env = some e ∧ tst e st = .ok true st ∧ di e st = .ok ((m a).map g1, c a) st ∧ chkP (c a) ((m a).map g1) st ∧ (∀ b ∈ m a, oR (bt1 (frz (g1 b)) (wipeE e vs1)) tst1 st = .ok (p a b) st) ∧ ∀ b ∈ m a, p a b = true → oR (bt1 (frz (g1 b)) (wipeE e vs1)) elt st = .ok (f a b) st) →
      l2L none all bt tst di bt1 tst1 elt vs1 env (l.map g) acc st = .ok (.tl (acc ++ l.flatMap fun a => ((m a).filter (p a)).map fun b => frz (f a b))) st := by
    intro l
    induction l with
    | nil => intro acc _ _; rw [List.map_nil, l2L, if_pos (show chkP none all st from trivial)]; simp
    | cons a l ih =>
      intro acc hl h
      simp only [List.map_cons, List.sum_cons] at hl
      obtain ⟨e, e1, e2, e3, e4, e5, e6⟩ := h a List.mem_cons_self
      rw [List.map_cons, l2L, if_pos (show chkP none all st from trivial), e1]
      simp only [e2, noX, R.bind_ok, if_true, e3]
      -- the inner loop told over the things themselves
      have inner : ∀ (k : List β) (acc : List PV), (∀ b ∈ k, b ∈ m a) → acc.length + k.length ≤ 16777216 → l2I (c a) ((m a).map g1) bt1 tst1 elt (wipeE e vs1) (k.map g1) acc st = .ok (acc ++ (k.filter (p a)).map fun b => frz (f a b)) st := by
        intro k
        induction k with
        | nil => intro acc _ _; rw [List.map_nil, l2I, if_pos e4]; simp
        | cons b k ih2 =>
          intro acc hk hlen
          simp only [List.length_cons] at hlen
          have hb := hk b List.mem_cons_self
          obtain ⟨w, w1, w2⟩ := oR_ok (e5 b hb)
          rw [List.map_cons, l2I, if_pos e4, w1]
          simp only [w2, noX, R.bind_ok]
          cases hp : p a b with
          | true =>
            have h3 := e6 b hb hp
            rw [w1] at h3
            have h3 : elt w st = .ok (f a b) st := h3
            simp only [if_true, h3, R.bind_ok]
            rw [if_pos (by omega), ih2 _ (fun x hx => hk x (List.mem_cons_of_mem _ hx)) (by simp; omega), List.filter_cons_of_pos hp]
            simp
          | false =>
            simp only [Bool.false_eq_true, if_false]
            rw [ih2 _ (fun x hx => hk x (List.mem_cons_of_mem _ hx)) (by omega), List.filter_cons_of_neg (by simp [hp])]
      rw [inner (m a) acc (fun _ h => h) (by omega)]
      simp only [R.bind_ok]
      rw [ih _ (by
        have := List.length_filter_le (p a) (m a)
        simp only [List.length_append, List.length_map]
        omega) fun b hb => h b (List.mem_cons_of_mem _ hb), List.flatMap_cons, List.append_assoc]
  have := key l [] (by simpa using hl) h0
  simpa using this
end
/-- a comprehension that lays its fresh lists in the store -/
theorem lm_new {α : Type} {all : List PV} {bt : BT} {elt : D} {env : En} {g : α → PV} (f : α → List PV) : ∀ {l : List α} {acc : List PV} {s : Sto}, (∀ a ∈ l, ∀ s : Sto, oR (bt (frz (g a)) env) elt s = .ok (.tl (f a)) s) →
    lmL none all bt dYes elt env (l.map g) acc s = .ok (.tl (acc ++ (List.range l.length).map fun i => .loc (s.length + i))) (s ++ l.map fun a => .lst (f a))
  | [], acc, s, _ => by rw [List.map_nil, lmL, if_pos (show chkP none all s from trivial)]; simp
  | a :: l, acc, s, h => by
    obtain ⟨e, e1, e2⟩ := oR_ok (h a List.mem_cons_self s)
    rw [List.map_cons, lmL, if_pos (show chkP none all s from trivial), e1]
    simp only [dYes, noX, R.bind_ok, if_true, e2]
    have m : mat true (.tl (f a)) s = (.loc s.length, s ++ [.lst (f a)]) := rfl
    rw [m, lm_new f fun b hb => h b (List.mem_cons_of_mem _ hb)]
    congr 1
    · rw [List.length_cons, List.range_succ_eq_map, List.map_cons, List.map_map, List.append_assoc]
      congr 2
      simp only [List.cons_append, List.nil_append, Nat.add_zero, List.cons.injEq, true_and]
      refine List.map_congr_left fun i _ => ?_
      simp only [Function.comp, List.length_append, List.length_cons, List.length_nil]
      congr 1
      omega
    · simp
theorem srtA_ints {st : Sto} {y : PV} {ns : List Int} (h : asS st y = some (ns.map .int)) : srtA st [y] = some (.tl ((srt ns).map .int)) := by
  unfold srtA
  rw [srtG_ints h]
theorem tupsP_tups : ∀ nss : List (List Int), tupsP (nss.map fun ns => PV.tup (ns.map .int)) = some nss
  | [] => rfl
  | ns :: r => by simp [tupsP, intsP_ints, tupsP_tups r]
theorem srtA_tups {st : Sto} {y : PV} {nss : List (List Int)} (h : asL st y = some (nss.map fun ns => PV.tup (ns.map .int))) (hn : nss ≠ []) (ho : okC nss = true) : srtA st [y] = some (.tl ((srtC nss).map fun ns => PV.tup (ns.map .int))) := by
  have e : srtG st [y] = none := by
    have : asS st y = some (nss.map fun ns => PV.tup (ns.map .int)) := by
      cases y <;> first | exact h | cases h
    cases nss with
    | nil => exact absurd rfl hn
    | cons a r =>
      unfold srtG
      dsimp only
      rw [this]
      simp [intsP]
  unfold srtA
  rw [e]
  simp only [srtTs, h, Option.bind_some, tupsP_tups, ho, if_true]
theorem dLc2_ap {di0 di1 : DI} {bt0 bt1 : BT} {tst0 tst1 : DT} {elt : D} {vs vs1 : List Nat} {env : En} {st : Sto} : dLc2 di0 bt0 tst0 di1 bt1 tst1 elt vs vs1 env st = (di0 env st).bind fun a st1 => l2L a.2 a.1 bt0 tst0 di1 bt1 tst1 elt vs1 (wipeE env vs) a.1 [] st1 := rfl
theorem dLcM_ap {di : DI} {bt : BT} {tst : DT} {elt : D} {vs : List Nat} {env : En} {st : Sto} : dLcM di bt tst elt vs env st = (di env st).bind fun a st1 => lmL a.2 a.1 bt tst elt (wipeE env vs) a.1 [] st1 := rfl
theorem sDictP_ap {i : Nat} {a : DA} {env : En} {st : Sto} : sDictP i a env st = (a env st).toS env fun xs st1 => match xs with
  | [v] => (match pairsP st1 v with
    | some kvs => .nx (env.set i (some (.loc st1.length))) (st1 ++ [.dct (mergeP [] kvs)])
    | none => .bad)
  | _ => .bad := rfl
theorem dGet2_ap {o e f : D} {env : En} {st : Sto} : dGet2 o e f env st = (o env st).bind fun x st1 => if isDct st1 x = true then (e env st1).bind fun y st2 => (f env st2).bind fun z st3 => match getP st3 x y with
  | some r => .ok (frz (r.getD z)) st3
  | none => .bad else .bad := rfl
end Bb
namespace Bb
open PySem L2 PyProof.Rows LamX He
/-! ### while with its state -/
def WhB (J : En → Sto → Prop) : RS → Prop
  | .nx e s => J e s
  | _ => False
def WhC (F J : En → Sto → Prop) (k : Sto → RS) (env : En) : R Bool → Prop
  | .ok false s => F env s
  | .ok true s => WhB J (k s)
  | _ => False
/-- in a step the claims are words of their own -/
theorem while_st {c : DT} {b : DS} {env : En} {st : Sto} {X : RS} (hF : sWhile c b env st = X) (I : Nat → En → Sto → Prop) (F : En → Sto → Prop) (m : Nat) (hI : I m env st)
    (step : ∀ m env st, I m env st → ∀ (F' J' : En → Sto → Prop), (∀ e s, F e s → F' e s) → (∀ m' e s, m' < m → I m' e s → J' e s) → WhC F' J' (b env) env (c env st)) : ∃ e s, X = .nx e s ∧ F e s := by
  subst hF
  refine sWhile_rule I F (fun m env st h => ?_) m env st hI
  have h2 := step m env st h F (fun e s => ∃ m', m' < m ∧ I m' e s) (fun _ _ h => h) fun m' e s h1 h2 => ⟨m', h1, h2⟩
  cases q : c env st with
  | ok v s =>
    rw [q] at h2
    cases v with
    | false => exact .inl ⟨s, rfl, h2⟩
    | true =>
      have h2 : WhB (fun e s => ∃ m', m' < m ∧ I m' e s) (b env s) := h2
      cases w : b env s with
      | nx e s' =>
        rw [w] at h2
        obtain ⟨m', h3, h4⟩ := h2
        exact .inr ⟨s, e, s', m', rfl, w, h3, h4⟩
      | _ => rw [w] at h2; exact h2.elim
  | _ => rw [q] at h2; exact h2.elim
theorem popP_last {st : Sto} {n : Nat} {v : PV} {xs : List PV} (h : st[n]? = some (.lst (xs ++ [v]))) : popP st (.loc n) [] = some (frz v, st.set n (.lst xs)) := by
  unfold popP
  simp [h]
theorem Own.pop {j : Nat} {st s : Sto} {ls : List MO} (o : Own j st ls s) {n i : Nat} {v : PV} {xs : List PV} (hn : n = st.length + i) (h : ls[i]? = some (.lst (xs ++ [v]))) : popP s (.loc n) [] = some (frz v, s.set n (.lst xs)) ∧ Own j st (ls.set i (.lst xs)) (s.set n (.lst xs)) := by
  refine ⟨popP_last (o.at hn h), o.set hn (List.getElem?_eq_some_iff.mp h).1 ?_⟩
  have hc : cloM (st.length + ls.length) (.lst (xs ++ [v])) = true := List.all_eq_true.mp o.pl _ (List.mem_of_getElem? h)
  simp only [cloM] at hc ⊢
  exact clos_all.mpr fun x hx => clos_all.mp hc x (List.mem_append_left _ hx)
section
variable {α : Type} {g : α → PV} {chk : Option Nat} {all : List PV} {bt : BT} {tst : DT} {elt : D} {env : En} {st : Sto}
theorem lcg_fil {l : List α} (hc : chkP chk all st) (p : α → Bool) (f : α → PV) (h1 : ∀ a ∈ l, oR (bt (frz (g a)) env) tst st = .ok (p a) st) (h2 : ∀ a ∈ l, p a = true → oR (bt (frz (g a)) env) elt st = .ok (f a) st) :
    lcL chk all bt tst elt env (l.map g) [] st = .ok (.tl ((l.filter p).map fun a => frz (f a))) st := by
  have key : ∀ (l : List α) (acc : List PV), (∀ a ∈ l, oR (bt (frz (g a)) env) tst st = .ok (p a) st) → (∀ a ∈ l, p a = true → oR (bt (frz (g a)) env) elt st = .ok (f a) st) → lcL chk all bt tst elt env (l.map g) acc st = .ok (.tl (acc ++ (l.filter p).map fun a => frz (f a))) st := by
    intro l
    induction l with
    | nil => intro acc _ _; rw [List.map_nil, lcL, if_pos hc]; simp
    | cons x xs ih =>
      intro acc h1 h2
      obtain ⟨e, e1, e2⟩ := oR_ok (h1 x List.mem_cons_self)
      have ih := fun acc => ih acc (fun a ha => h1 a (List.mem_cons_of_mem _ ha)) fun a ha => h2 a (List.mem_cons_of_mem _ ha)
      rw [List.map_cons, lcL, if_pos hc, e1]
      simp only [e2, noX, R.bind_ok]
      cases hp : p x with
      | true =>
        have h3 := h2 x List.mem_cons_self hp
        rw [e1] at h3
        have h3 : elt e st = .ok (f x) st := h3
        simp only [if_true, h3, R.bind_ok]
        rw [ih, List.filter_cons_of_pos hp]
        simp
      | false =>
        simp only [Bool.false_eq_true, if_false]
        rw [ih, List.filter_cons_of_neg (by simp [hp])]
  have := key l [] h1 h2
  simpa using this
theorem lcg_map {l : List α} (hc : chkP chk all st) (f : α → PV) (h : ∀ a ∈ l, oR (bt (frz (g a)) env) elt st = .ok (f a) st) : lcL chk all bt dYes elt env (l.map g) [] st = .ok (.tl (l.map fun a => frz (f a))) st := by
  have := lcg_fil (tst := dYes) hc (fun _ => true) f (fun a ha => by
    obtain ⟨e, e1, e2⟩ := oR_ok (h a ha)
    rw [e1]; rfl) (fun a ha _ => h a ha)
  rwa [List.filter_eq_self.mpr fun _ _ => rfl] at this
end
/-- a drawn part, in its order -/
theorem lc_some {α : Type} {g : α → PV} {all : List PV} {bt : BT} {tst : DT} {elt : D} {env : En} (I : Sto → Prop) : ∀ {l : List α} {acc : List PV} {s : Sto}, I s → (∀ a ∈ l, ∀ s, I s → ∃ e b s', bt (frz (g a)) env = some e ∧ tst e s = .ok b s' ∧ I s' ∧ elt e s' = .ok (frz (g a)) s') →
    ∃ (l' : List α) (s' : Sto), l'.Sublist l ∧ lcL none all bt tst elt env (l.map g) acc s = .ok (.tl (acc ++ l'.map fun a => frz (frz (g a)))) s' ∧ I s'
  | [], acc, s, hi, _ => ⟨[], s, .slnil, by rw [List.map_nil, lcL, if_pos (show chkP none all s from trivial)]; simp, hi⟩
  | a :: l, acc, s, hi, h => by
    obtain ⟨e, b, s1, e1, e2, i1, e3⟩ := h a List.mem_cons_self s hi
    cases b with
    | true =>
      obtain ⟨l', s2, k1, k2, k3⟩ := lc_some (acc := acc ++ [frz (frz (g a))]) I i1 fun x hx => h x (List.mem_cons_of_mem _ hx)
      refine ⟨a :: l', s2, k1.cons₂ a, ?_, k3⟩
      rw [List.map_cons, lcL, if_pos (show chkP none all s from trivial), e1]
      simp only [e2, noX, R.bind_ok, if_true, e3]
      rw [k2]
      simp
    | false =>
      obtain ⟨l', s2, k1, k2, k3⟩ := lc_some (acc := acc) I i1 fun x hx => h x (List.mem_cons_of_mem _ hx)
      refine ⟨l', s2, k1.cons a, ?_, k3⟩
      rw [List.map_cons, lcL, if_pos (show chkP none all s from trivial), e1]
      simp only [e2, noX, R.bind_ok, Bool.false_eq_true, if_false]
      exact k2
end Bb
namespace K01
open Bb PySem L2 PyProof.Rows LamX He
local macro_rules | `(tactic| dsimp! [$ls,*]) => `(tactic| simp -implicitDefEqProofs only [List.length_map, List.map_cons, List.map_nil, List.length_cons, List.length_nil, List.replicate_succ, List.replicate_zero, List.cons_append, List.nil_append, List.getElem?_cons_zero, List.getElem?_cons_succ, List.set_cons_zero, List.set_cons_succ, Option.map_some, Option.map_none, Option.bind_some, Option.bind_none, frz_non, frz_int, frz_bl, frz_str, frz_tup, frz_fl, frz_tl, frz_ro, frz_loc, frz_ty, R.bind_ok, R.bind_ex, Bool.not_true, Bool.not_false, Bool.not_not, if_true, if_false, reduceIte, reduceCtorEq, Nat.reduceAdd, Nat.reduceSub, Nat.reduceLeDiff, Nat.zero_add, and_true, true_and, and_self, or_true, true_or, or_false, false_or, not_true, not_false_eq_true, decide_true, decide_false, Bool.and_true, Bool.true_and, Bool.and_false, Bool.false_and, Bool.or_false, Bool.or_true, Bool.false_or, Bool.true_or, Bool.bne_false, Bool.bne_true, Bool.false_eq_true, runF_ap, startP, sNil_ap, sCons_ap, sPass_ap, sExpr_ap, sRet_ap, sIf_ap, sSet_ap, sSetM_ap, sFor_ap, sAsg_ap, sRaise_ap, sSub_ap, sPar_ap, sTry_ap, dC_ap, dV_ap, d1_ap, d2_ap, dN_ap, dNil_ap, dCons_ap, dConsM_ap, dCall_ap, dIf_ap, dAnd_ap, dOr_ap, dTru_ap, dNotT_ap, dAndT_ap, dOrT_ap, dYes_ap, dChain_ap, dSl_ap, dNoPart_ap, dPart_ap, dMeth_ap, dLc_ap, dSeqI_ap, dRngI_ap, bName_ap, bTup_ap, bNil_ap, bCons_ap, toS_ok, toS_ex, ofO_some, noX_ok, cutR_self, cutR_set, cutX_self, wipeE, seqI_tup, seqI_fl, seqI_tl, seqI_ro, isi_non_int, isi_non_bool, isi_non_tuple, isi_non_str, isi_non_list, isi_bl_int, isi_bl_bool, isi_bl_tuple, isi_bl_str, isi_bl_list, isi_int_int, isi_int_bool, isi_int_tuple, isi_int_str, isi_int_list, isi_str_int, isi_str_bool, isi_str_tuple, isi_str_str, isi_str_list, isi_tup_int, isi_tup_bool, isi_tup_tuple, isi_tup_str, isi_tup_list, isi_fl_int, isi_fl_bool, isi_fl_tuple, isi_fl_str, isi_fl_list, isi_tl_int, isi_tl_bool, isi_tl_tuple, isi_tl_str, isi_tl_list, tr_non, tr_bl, tr_int, tr_tup, tr_fl, tr_tl, asB_bl, notT_ap, negP_int, addP_int, addP_tup, subP_int, modP_int, fdivP_int, mulP_int, intP_int, intP_bl, max2P_int, min2P_int, cmpP_int, lenP_tup, lenP_fl, lenP_tl, lenP_ro, isNP_ap, isntNP_ap, isNP_bl, isntNP_bl, isN_non, isN_int, isN_bl, isN_str, isN_tup, isN_fl, isBl_bl, asI_int, slP_tup, slP_fl, slP_tl, slP_ro, asS_tup, asS_fl, asS_tl, asS_ro, mkT_ap, mkL_ap, mat_f, mat_t, mat_int, mat_non, mat_tup, mat_loc, mat_bl, mat_fl, asg_tl, asg_loc, parS_ap, tupP_tup, tupP_fl, tupP_ro, lstP_tup, lstP_fl, lstP_ro, frzs, eqP_int, sq_nx, sq_rt, sq_ex, sq_bk, sq_ct, sq_bad, fin_nx, fin_rt, fin_ex, aTF_t, aTF_f, oTF_t, oTF_f, oCh_t, oCh_f, nIf_tt, nIf_ft, nIf_tf, nIf_ff, mIf_t, k1_ap, k2b_ap, k2_ap, kN_ap, kCb_ap, kC_ap, kMb_ap, kM_ap, kIff_ap, kAn_ap, kOr_ap, kTr_ap, kNt_ap, kAT_ap, kChb_ap, kCh2_ap, kCh_ap, kS3_ap, kS2_ap, kSl_ap, kPt_ap, kMtb_ap, kMt_ap, kLc_ap, kSq_ap, kRg_ap, jEx_ap, jRt_ap, jSt_ap, jSM_ap, jFr_ap, jAs_ap, jRs_ap, jS3_ap, jS2_ap, jSb_ap, jPr_ap, oV_s, oB_s, oS_s, oM_s, oT_s, bIf_t, bIf_f, tryS_nx, tryS_rt, tryS_ex, $ls,*])
def top (i : Nat) : Stmt := PySem.Challenge.pw_behindboth_k01_groups_and_the_pieces_of.main.body.getD i (.Pass ⟨0, 0, 0, 0⟩)
def d_is_whole_number : DefT := ⟨"is_whole_number", defArgs (top 8), defBody (top 8), defScope (top 8), ["thing"], ["thing"], [], false, false⟩
def d_is_between : DefT := ⟨"is_between", defArgs (top 9), defBody (top 9), defScope (top 9), ["thing", "least", "most"], ["thing", "least", "most"], [], false, false⟩
def d_is_below : DefT := ⟨"is_below", defArgs (top 10), defBody (top 10), defScope (top 10), ["thing", "bound"], ["thing", "bound"], [], false, false⟩
def d_is_rising : DefT := ⟨"is_rising", defArgs (top 11), defBody (top 11), defScope (top 11), ["thing", "bound"], ["thing", "bound", "at", "one"], [], false, false⟩
def d_is_scheme : DefT := ⟨"is_scheme", defArgs (top 12), defBody (top 12), defScope (top 12), ["thing"], ["thing"], [], false, false⟩
def d_has_size : DefT := ⟨"has_size", defArgs (top 13), defBody (top 13), defScope (top 13), ["thing"], ["thing"], [], false, false⟩
def d_first_wrong : DefT := ⟨"first_wrong", defArgs (top 14), defBody (top 14), defScope (top 14), ["thing"], ["thing", "index", "scheme"], [], false, false⟩
def d_made_book : DefT := ⟨"made_book", defArgs (top 15), defBody (top 15), defScope (top 15), ["thing"], ["thing", "index"], [], false, false⟩
def d_columns_of : DefT := ⟨"columns_of", defArgs (top 16), defBody (top 16), defScope (top 16), ["book", "sources"], ["book", "sources", "source", "column"], [], false, false⟩
def d_shared_of : DefT := ⟨"shared_of", defArgs (top 17), defBody (top 17), defScope (top 17), ["book", "i", "j"], ["book", "i", "j", "column"], [], false, false⟩
def d_are_neighbours : DefT := ⟨"are_neighbours", defArgs (top 18), defBody (top 18), defScope (top 18), ["book", "i", "j"], ["book", "i", "j"], [], false, false⟩
def d_is_group : DefT := ⟨"is_group", defArgs (top 20), defBody (top 20), defScope (top 20), ["book", "thing"], ["book", "thing"], [], false, false⟩
def d_want_group : DefT := ⟨"want_group", defArgs (top 21), defBody (top 21), defScope (top 21), ["book", "thing"], ["book", "thing"], [], false, false⟩
def d_made_group : DefT := ⟨"made_group", defArgs (top 22), defBody (top 22), defScope (top 22), ["book", "thing"], ["book", "thing"], [], false, false⟩
def d_group_columns : DefT := ⟨"group_columns", defArgs (top 23), defBody (top 23), defScope (top 23), ["book", "group"], ["book", "group"], [], false, false⟩
def d_piece_with : DefT := ⟨"piece_with", defArgs (top 24), defBody (top 24), defScope (top 24), ["book", "group", "source"], ["book", "group", "source", "met", "waiting", "here", "later", "other"], ["met", "waiting"], false, false⟩
def d_pieces_of : DefT := ⟨"pieces_of", defArgs (top 25), defBody (top 25), defScope (top 25), ["book", "group"], ["book", "group", "found", "source", "piece"], ["found"], false, false⟩
def d_pieces : DefT := ⟨"pieces", defArgs (top 26), defBody (top 26), defScope (top 26), ["book", "group"], ["book", "group"], [], false, false⟩
def d_hangs_of : DefT := ⟨"hangs_of", defArgs (top 27), defBody (top 27), defScope (top 27), ["book", "group"], ["book", "group"], [], false, false⟩
def d_hangs : DefT := ⟨"hangs", defArgs (top 28), defBody (top 28), defScope (top 28), ["book", "group"], ["book", "group"], [], false, false⟩
def d__law_pool : DefT := ⟨"_law_pool", defArgs (top 30), defBody (top 30), defScope (top 30), ["_law_script", "_law_k"], ["_law_script", "_law_k", "_law_cell", "_law_big", "_law_mixed_here"], [], false, false⟩
def d__law_take : DefT := ⟨"_law_take", defArgs (top 31), defBody (top 31), defScope (top 31), ["_law_jar", "_law_top"], ["_law_jar", "_law_top", "_law_drawn"], [], false, false⟩
def d__law_one : DefT := ⟨"_law_one", defArgs (top 32), defBody (top 32), defScope (top 32), ["_law_jar", "_law_things"], ["_law_jar", "_law_things"], [], false, false⟩
def d__law_mixed : DefT := ⟨"_law_mixed", defArgs (top 33), defBody (top 33), defScope (top 33), ["_law_jar", "_law_things"], ["_law_jar", "_law_things", "_law_place", "_law_left_over", "_law_found"], ["_law_left_over", "_law_found"], false, false⟩
def d__law_some : DefT := ⟨"_law_some", defArgs (top 34), defBody (top 34), defScope (top 34), ["_law_jar", "_law_things"], ["_law_jar", "_law_things", "_law_thing"], [], false, false⟩
def d__law_rising : DefT := ⟨"_law_rising", defArgs (top 35), defBody (top 35), defScope (top 35), ["_law_lists"], ["_law_lists", "_law_found", "_law_one_here", "_law_thing"], ["_law_found"], false, false⟩
def d__law_common_columns : DefT := ⟨"_law_common_columns", defArgs (top 36), defBody (top 36), defScope (top 36), ["_law_book", "_law_i", "_law_j"], ["_law_book", "_law_i", "_law_j", "_law_c"], [], false, false⟩
def d__law_are_near : DefT := ⟨"_law_are_near", defArgs (top 37), defBody (top 37), defScope (top 37), ["_law_book", "_law_i", "_law_j"], ["_law_book", "_law_i", "_law_j"], [], false, false⟩
def d__law_all_sources : DefT := ⟨"_law_all_sources", defArgs (top 38), defBody (top 38), defScope (top 38), ["_law_book"], ["_law_book", "_law_i"], [], false, false⟩
def d__law_scheme : DefT := ⟨"_law_scheme", defArgs (top 39), defBody (top 39), defScope (top 39), ["_law_jar", "_law_wide", "_law_most"], ["_law_jar", "_law_wide", "_law_most", "_law_lot", "_law_c"], [], false, false⟩
def d__law_loose_book : DefT := ⟨"_law_loose_book", defArgs (top 40), defBody (top 40), defScope (top 40), ["_law_jar", "_law_most", "_law_wide"], ["_law_jar", "_law_most", "_law_wide", "_law_i"], [], false, false⟩
def d__law_hung_book : DefT := ⟨"_law_hung_book", defArgs (top 41), defBody (top 41), defScope (top 41), ["_law_jar", "_law_most", "_law_wide"], ["_law_jar", "_law_most", "_law_wide", "_law_found", "_law_i", "_law_link"], ["_law_found"], false, false⟩
def d__law_fellow_columns : DefT := ⟨"_law_fellow_columns", defArgs (top 42), defBody (top 42), defScope (top 42), ["_law_book", "_law_i"], ["_law_book", "_law_i", "_law_c", "_law_j"], [], false, false⟩
def d__law_same_columns : DefT := ⟨"_law_same_columns", defArgs (top 43), defBody (top 43), defScope (top 43), ["_law_jar", "_law_book"], ["_law_jar", "_law_book", "_law_rows", "_law_drawn", "_law_lot", "_law_row"], [], false, false⟩
def d__law_called : DefT := ⟨"_law_called", defArgs (top 44), defBody (top 44), defScope (top 44), ["_law_book", "_law_pairs"], ["_law_book", "_law_pairs", "_law_calls", "_law_scheme_here", "_law_c"], [], false, false⟩
def d__law_glued : DefT := ⟨"_law_glued", defArgs (top 45), defBody (top 45), defScope (top 45), ["_law_jar", "_law_size", "_law_begin"], ["_law_jar", "_law_size", "_law_begin", "_law_low", "_law_wide", "_law_one_here", "_law_later", "_law_two", "_law_end", "_law_first", "_law_second", "_law_k", "_law_c"], [], false, false⟩
def d__law_ringless_book : DefT := ⟨"_law_ringless_book", defArgs (top 46), defBody (top 46), defScope (top 46), ["_law_jar", "_law_most"], ["_law_jar", "_law_most", "_law_ids", "_law_found", "_law_schemes", "_law_end", "_law_scheme_here", "_law_c"], [], false, false⟩
def d__law_ring_book : DefT := ⟨"_law_ring_book", defArgs (top 47), defBody (top 47), defScope (top 47), ["_law_jar", "_law_most"], ["_law_jar", "_law_most", "_law_size", "_law_ids", "_law_found", "_law_i", "_law_row", "_law_c"], ["_law_found", "_law_row", "*_law_found"], false, false⟩
def d__law_some_book : DefT := ⟨"_law_some_book", defArgs (top 48), defBody (top 48), defScope (top 48), ["_law_jar", "_law_most"], ["_law_jar", "_law_most", "_law_drawn"], [], false, false⟩
def d__law_heard : DefT := ⟨"_law_heard", defArgs (top 49), defBody (top 49), defScope (top 49), ["_law_call"], ["_law_call", "error", "_law_word"], [], false, true⟩
def d__law_closed : DefT := ⟨"_law_closed", defArgs (top 50), defBody (top 50), defScope (top 50), ["_law_book", "_law_lot", "_law_least"], ["_law_book", "_law_lot", "_law_least", "_law_found", "_law_came", "_law_i", "_law_j"], ["_law_found"], false, false⟩
def d__law_own_pieces : DefT := ⟨"_law_own_pieces", defArgs (top 51), defBody (top 51), defScope (top 51), ["_law_book", "_law_lot"], ["_law_book", "_law_lot", "_law_found", "_law_i", "_law_piece"], ["_law_found"], false, false⟩
def d__law_group_right : DefT := ⟨"_law_group_right", defArgs (top 52), defBody (top 52), defScope (top 52), ["_law_book", "_law_lot"], ["_law_book", "_law_lot", "_law_due", "_law_own", "_law_c", "_law_i"], [], false, false⟩
def d__law_odd_right : DefT := ⟨"_law_odd_right", defArgs (top 53), defBody (top 53), defScope (top 53), ["_law_jar", "_law_book", "_law_lot"], ["_law_jar", "_law_book", "_law_lot", "_law_odd", "_law_some_here", "_law_word", "_law_bad"], [], true, false⟩
def d__law_asked : DefT := ⟨"_law_asked", defArgs (top 54), defBody (top 54), defScope (top 54), ["_law_word", "_law_book", "_law_lot"], ["_law_word", "_law_book", "_law_lot"], [], false, false⟩
def d_law : DefT := ⟨"law", defArgs (top 55), defBody (top 55), defScope (top 55), ["_law_script"], ["_law_script", "_law_jar", "_law_turn", "_law_book", "_law_every", "_law_lot", "_law_some_here"], ["_law_jar"], false, false⟩
def sbT : List ((Str × Str) × Bool) := [(("Refused", "Refused"), true), (("Refused", "BadBook"), false), (("Refused", "BadGroup"), false), (("BadBook", "Refused"), true), (("BadBook", "BadBook"), true), (("BadBook", "BadGroup"), false), (("BadGroup", "Refused"), true), (("BadGroup", "BadBook"), false), (("BadGroup", "BadGroup"), true)]
def pr : Pg := ⟨[d_is_whole_number, d_is_between, d_is_below, d_is_rising, d_is_scheme, d_has_size, d_first_wrong, d_made_book, d_columns_of, d_shared_of, d_are_neighbours, d_is_group, d_want_group, d_made_group, d_group_columns, d_piece_with, d_pieces_of, d_pieces, d_hangs_of, d_hangs, d__law_pool, d__law_take, d__law_one, d__law_mixed, d__law_some, d__law_rising, d__law_common_columns, d__law_are_near, d__law_all_sources, d__law_scheme, d__law_loose_book, d__law_hung_book, d__law_fellow_columns, d__law_same_columns, d__law_called, d__law_glued, d__law_ringless_book, d__law_ring_book, d__law_some_book, d__law_heard, d__law_closed, d__law_own_pieces, d__law_group_right, d__law_odd_right, d__law_asked, d_law], [("MOST_COLUMNS", .int 24), ("MOST_IN_SCHEME", .int 8), ("MOST_SOURCES", .int 12)], ["Refused", "BadBook", "BadGroup"], fun c x => sbT.lookup (c, x), []⟩
noncomputable def t_is_whole_number (F F1 F2 : FT) : DS := (sCons (sRet (dAnd (dN isiP (dCons (dV 0) (dCons (dC (.ty "int")) dNil))) (d1 notT (dN isiP (dCons (dV 0) (dCons (dC (.ty "bool")) dNil)))))) sNil)
theorem e_is_whole_number (F F1 F2 : FT) : bodyK pr d_is_whole_number F F2 (hears pr F1) none = some (t_is_whole_number F F1 F2) := by kernel_rfl
theorem s_is_whole_number {k : Nat} (hk : 1 ≤ k) (args : List PV) (st : Sto) : (lev pr k).1 "is_whole_number" args st = runF 1 (t_is_whole_number (lev pr (k - 1)).1 (lev pr (k - 1)).2.1 (lev pr (k - 1)).2.2) args st := step_of (d := d_is_whole_number) (B := t_is_whole_number) (by kernel_rfl) e_is_whole_number hk args st
noncomputable def t_is_between (F F1 F2 : FT) : DS := (sCons (sRet (dAnd (dCall (F "is_whole_number") (dCons (dV 0) dNil)) (dChain leP leP (dV 1) (dV 0) (dV 2)))) sNil)
theorem e_is_between (F F1 F2 : FT) : bodyK pr d_is_between F F2 (hears pr F1) none = some (t_is_between F F1 F2) := by kernel_rfl
theorem s_is_between {k : Nat} (hk : 1 ≤ k) (args : List PV) (st : Sto) : (lev pr k).1 "is_between" args st = runF 3 (t_is_between (lev pr (k - 1)).1 (lev pr (k - 1)).2.1 (lev pr (k - 1)).2.2) args st := step_of (d := d_is_between) (B := t_is_between) (by kernel_rfl) e_is_between hk args st
noncomputable def t_is_below (F F1 F2 : FT) : DS := (sCons (sRet (dCall (F "is_between") (dCons (dV 0) (dCons (dC (.int 0)) (dCons (d2 subP (dV 1) (dC (.int 1))) dNil))))) sNil)
theorem e_is_below (F F1 F2 : FT) : bodyK pr d_is_below F F2 (hears pr F1) none = some (t_is_below F F1 F2) := by kernel_rfl
theorem s_is_below {k : Nat} (hk : 1 ≤ k) (args : List PV) (st : Sto) : (lev pr k).1 "is_below" args st = runF 2 (t_is_below (lev pr (k - 1)).1 (lev pr (k - 1)).2.1 (lev pr (k - 1)).2.2) args st := step_of (d := d_is_below) (B := t_is_below) (by kernel_rfl) e_is_below hk args st
noncomputable def t_is_rising (F F1 F2 : FT) : DS := (sCons (sIf (dOrT (dNotT (dTru truP (dN isiP (dCons (dV 0) (dCons (dC (.ty "tuple")) dNil))))) (dNotT (dTru truP (dN allP (dCons (dLc (dSeqI (dV 0)) (bName 3) dYes (dCall (F "is_below") (dCons (dV 3) (dCons (dV 1) dNil))) [3]) dNil))))) (sCons (sRet (dC (.bl false))) sNil) sNil) (sCons (sRet (dN allP (dCons (dLc (dRngI rng2P (dCons (dC (.int 1)) (dCons (dN lenP (dCons (dV 0) dNil)) dNil))) (bName 2) dYes (d2 ltP (d2 ixP (dV 0) (d2 subP (dV 2) (dC (.int 1)))) (d2 ixP (dV 0) (dV 2))) [2]) dNil))) sNil))
theorem e_is_rising (F F1 F2 : FT) : bodyK pr d_is_rising F F2 (hears pr F1) none = some (t_is_rising F F1 F2) := by kernel_rfl
theorem s_is_rising {k : Nat} (hk : 1 ≤ k) (args : List PV) (st : Sto) : (lev pr k).1 "is_rising" args st = runF 4 (t_is_rising (lev pr (k - 1)).1 (lev pr (k - 1)).2.1 (lev pr (k - 1)).2.2) args st := step_of (d := d_is_rising) (B := t_is_rising) (by kernel_rfl) e_is_rising hk args st
noncomputable def t_is_scheme (F F1 F2 : FT) : DS := (sCons (sRet (dAnd (dCall (F "is_rising") (dCons (dV 0) (dCons (dC (.int 24)) dNil))) (dChain leP leP (dC (.int 1)) (dN lenP (dCons (dV 0) dNil)) (dC (.int 8))))) sNil)
theorem e_is_scheme (F F1 F2 : FT) : bodyK pr d_is_scheme F F2 (hears pr F1) none = some (t_is_scheme F F1 F2) := by kernel_rfl
theorem s_is_scheme {k : Nat} (hk : 1 ≤ k) (args : List PV) (st : Sto) : (lev pr k).1 "is_scheme" args st = runF 1 (t_is_scheme (lev pr (k - 1)).1 (lev pr (k - 1)).2.1 (lev pr (k - 1)).2.2) args st := step_of (d := d_is_scheme) (B := t_is_scheme) (by kernel_rfl) e_is_scheme hk args st
noncomputable def t_has_size (F F1 F2 : FT) : DS := (sCons (sRet (dAnd (dN isiP (dCons (dV 0) (dCons (dC (.ty "tuple")) dNil))) (dChain leP leP (dC (.int 1)) (dN lenP (dCons (dV 0) dNil)) (dC (.int 12))))) sNil)
theorem e_has_size (F F1 F2 : FT) : bodyK pr d_has_size F F2 (hears pr F1) none = some (t_has_size F F1 F2) := by kernel_rfl
theorem s_has_size {k : Nat} (hk : 1 ≤ k) (args : List PV) (st : Sto) : (lev pr k).1 "has_size" args st = runF 1 (t_has_size (lev pr (k - 1)).1 (lev pr (k - 1)).2.1 (lev pr (k - 1)).2.2) args st := step_of (d := d_has_size) (B := t_has_size) (by kernel_rfl) e_has_size hk args st
noncomputable def t_first_wrong (F F1 F2 : FT) : DS := (sCons (sFor (dRngI enI (dCons (dV 0) dNil)) (bTup 2 (bCons (bName 1) (bCons (bName 2) bNil))) (sCons (sIf (dNotT (dTru truP (dCall (F "is_scheme") (dCons (dV 2) dNil)))) (sCons (sRet (dV 1)) sNil) sNil) sNil)) (sCons (sRet (dC .non)) sNil))
theorem e_first_wrong (F F1 F2 : FT) : bodyK pr d_first_wrong F F2 (hears pr F1) none = some (t_first_wrong F F1 F2) := by kernel_rfl
theorem s_first_wrong {k : Nat} (hk : 1 ≤ k) (args : List PV) (st : Sto) : (lev pr k).1 "first_wrong" args st = runF 3 (t_first_wrong (lev pr (k - 1)).1 (lev pr (k - 1)).2.1 (lev pr (k - 1)).2.2) args st := step_of (d := d_first_wrong) (B := t_first_wrong) (by kernel_rfl) e_first_wrong hk args st
noncomputable def t_made_book (F F1 F2 : FT) : DS := (sCons (sIf (dNotT (dTru truP (dCall (F "has_size") (dCons (dV 0) dNil)))) (sCons (sRaise "BadBook" (d1 negP (dC (.int 1)))) sNil) sNil) (sCons (sSet 1 (dCall (F "first_wrong") (dCons (dV 0) dNil))) (sCons (sIf (dTru asB (d2 isntNP (dV 1) (dC .non))) (sCons (sRaise "BadBook" (dV 1)) sNil) sNil) (sCons (sRet (dV 0)) sNil))))
theorem e_made_book (F F1 F2 : FT) : bodyK pr d_made_book F F2 (hears pr F1) none = some (t_made_book F F1 F2) := by kernel_rfl
theorem s_made_book {k : Nat} (hk : 1 ≤ k) (args : List PV) (st : Sto) : (lev pr k).1 "made_book" args st = runF 2 (t_made_book (lev pr (k - 1)).1 (lev pr (k - 1)).2.1 (lev pr (k - 1)).2.2) args st := step_of (d := d_made_book) (B := t_made_book) (by kernel_rfl) e_made_book hk args st
noncomputable def t_columns_of (F F1 F2 : FT) : DS := (sCons (sRet (dN tupP (dCons (dSrtSet (dSeqI (dV 1)) (bName 2) (dSeqI (d2 ixP (dV 0) (dV 2))) (bName 3) (dV 3) [2, 3] [3]) dNil))) sNil)
theorem e_columns_of (F F1 F2 : FT) : bodyK pr d_columns_of F F2 (hears pr F1) none = some (t_columns_of F F1 F2) := by kernel_rfl
theorem s_columns_of {k : Nat} (hk : 1 ≤ k) (args : List PV) (st : Sto) : (lev pr k).1 "columns_of" args st = runF 4 (t_columns_of (lev pr (k - 1)).1 (lev pr (k - 1)).2.1 (lev pr (k - 1)).2.2) args st := step_of (d := d_columns_of) (B := t_columns_of) (by kernel_rfl) e_columns_of hk args st
noncomputable def t_shared_of (F F1 F2 : FT) : DS := (sCons (sRet (dN tupP (dCons (dLc (dSeqI (d2 ixP (dV 0) (dV 1))) (bName 3) (dTru asB (d2 (inP false) (dV 3) (d2 ixP (dV 0) (dV 2)))) (dV 3) [3]) dNil))) sNil)
theorem e_shared_of (F F1 F2 : FT) : bodyK pr d_shared_of F F2 (hears pr F1) none = some (t_shared_of F F1 F2) := by kernel_rfl
theorem s_shared_of {k : Nat} (hk : 1 ≤ k) (args : List PV) (st : Sto) : (lev pr k).1 "shared_of" args st = runF 4 (t_shared_of (lev pr (k - 1)).1 (lev pr (k - 1)).2.1 (lev pr (k - 1)).2.2) args st := step_of (d := d_shared_of) (B := t_shared_of) (by kernel_rfl) e_shared_of hk args st
noncomputable def t_are_neighbours (F F1 F2 : FT) : DS := (sCons (sRet (dAnd (d2 (eqP true) (dV 1) (dV 2)) (d2 (eqP true) (dCall (F "shared_of") (dCons (dV 0) (dCons (dV 1) (dCons (dV 2) dNil)))) (dN (mkT 0) dNil)))) sNil)
theorem e_are_neighbours (F F1 F2 : FT) : bodyK pr d_are_neighbours F F2 (hears pr F1) none = some (t_are_neighbours F F1 F2) := by kernel_rfl
theorem s_are_neighbours {k : Nat} (hk : 1 ≤ k) (args : List PV) (st : Sto) : (lev pr k).1 "are_neighbours" args st = runF 3 (t_are_neighbours (lev pr (k - 1)).1 (lev pr (k - 1)).2.1 (lev pr (k - 1)).2.2) args st := step_of (d := d_are_neighbours) (B := t_are_neighbours) (by kernel_rfl) e_are_neighbours hk args st
noncomputable def t_is_group (F F1 F2 : FT) : DS := (sCons (sRet (dAnd (dCall (F "is_rising") (dCons (dV 1) (dCons (dN lenP (dCons (dV 0) dNil)) dNil))) (d2 (eqP true) (dV 1) (dN (mkT 0) dNil)))) sNil)
theorem e_is_group (F F1 F2 : FT) : bodyK pr d_is_group F F2 (hears pr F1) none = some (t_is_group F F1 F2) := by kernel_rfl
theorem s_is_group {k : Nat} (hk : 1 ≤ k) (args : List PV) (st : Sto) : (lev pr k).1 "is_group" args st = runF 2 (t_is_group (lev pr (k - 1)).1 (lev pr (k - 1)).2.1 (lev pr (k - 1)).2.2) args st := step_of (d := d_is_group) (B := t_is_group) (by kernel_rfl) e_is_group hk args st
noncomputable def t_want_group (F F1 F2 : FT) : DS := (sCons (sIf (dNotT (dTru truP (dCall (F "is_group") (dCons (dV 0) (dCons (dV 1) dNil))))) (sCons (sRaise "BadGroup" (d1 negP (dC (.int 1)))) sNil) sNil) sNil)
theorem e_want_group (F F1 F2 : FT) : bodyK pr d_want_group F F2 (hears pr F1) none = some (t_want_group F F1 F2) := by kernel_rfl
theorem s_want_group {k : Nat} (hk : 1 ≤ k) (args : List PV) (st : Sto) : (lev pr k).1 "want_group" args st = runF 2 (t_want_group (lev pr (k - 1)).1 (lev pr (k - 1)).2.1 (lev pr (k - 1)).2.2) args st := step_of (d := d_want_group) (B := t_want_group) (by kernel_rfl) e_want_group hk args st
noncomputable def t_made_group (F F1 F2 : FT) : DS := (sCons (sSet 0 (dCall (F "made_book") (dCons (dV 0) dNil))) (sCons (sExpr (dCall (F "want_group") (dCons (dV 0) (dCons (dV 1) dNil)))) (sCons (sRet (dV 1)) sNil)))
theorem e_made_group (F F1 F2 : FT) : bodyK pr d_made_group F F2 (hears pr F1) none = some (t_made_group F F1 F2) := by kernel_rfl
theorem s_made_group {k : Nat} (hk : 1 ≤ k) (args : List PV) (st : Sto) : (lev pr k).1 "made_group" args st = runF 2 (t_made_group (lev pr (k - 1)).1 (lev pr (k - 1)).2.1 (lev pr (k - 1)).2.2) args st := step_of (d := d_made_group) (B := t_made_group) (by kernel_rfl) e_made_group hk args st
noncomputable def t_group_columns (F F1 F2 : FT) : DS := (sCons (sSet 0 (dCall (F "made_book") (dCons (dV 0) dNil))) (sCons (sExpr (dCall (F "want_group") (dCons (dV 0) (dCons (dV 1) dNil)))) (sCons (sRet (dCall (F "columns_of") (dCons (dV 0) (dCons (dV 1) dNil)))) sNil)))
theorem e_group_columns (F F1 F2 : FT) : bodyK pr d_group_columns F F2 (hears pr F1) none = some (t_group_columns F F1 F2) := by kernel_rfl
theorem s_group_columns {k : Nat} (hk : 1 ≤ k) (args : List PV) (st : Sto) : (lev pr k).1 "group_columns" args st = runF 2 (t_group_columns (lev pr (k - 1)).1 (lev pr (k - 1)).2.1 (lev pr (k - 1)).2.2) args st := step_of (d := d_group_columns) (B := t_group_columns) (by kernel_rfl) e_group_columns hk args st
noncomputable def t_piece_with (F F1 F2 : FT) : DS := (sCons (sSetM 3 (dN (mkL 1) (dCons (dV 2) dNil))) (sCons (sSetM 4 (dN (mkL 1) (dCons (dV 2) dNil))) (sCons (sWhile (dTru asB (d2 (eqP true) (dV 4) (dN (mkL 0) dNil))) (sCons (sSet 5 (dMeth popP (dV 4) dNil)) (sCons (sSet 6 (dLc (dSeqI (dV 1)) (bName 7) (dAndT (dTru asB (d2 (inP true) (dV 7) (dV 3))) (dTru truP (dCall (F "are_neighbours") (dCons (dV 0) (dCons (dV 5) (dCons (dV 7) dNil)))))) (dV 7) [7])) (sCons (sExpr (dMeth extendP (dV 3) (dCons (dV 6) dNil))) (sCons (sExpr (dMeth extendP (dV 4) (dCons (dV 6) dNil))) sNil))))) (sCons (sRet (dN tupP (dCons (dN srtA (dCons (dV 3) dNil)) dNil))) sNil))))
theorem e_piece_with (F F1 F2 : FT) : bodyK pr d_piece_with F F2 (hears pr F1) none = some (t_piece_with F F1 F2) := by kernel_rfl
theorem s_piece_with {k : Nat} (hk : 1 ≤ k) (args : List PV) (st : Sto) : (lev pr k).1 "piece_with" args st = runF 8 (t_piece_with (lev pr (k - 1)).1 (lev pr (k - 1)).2.1 (lev pr (k - 1)).2.2) args st := step_of (d := d_piece_with) (B := t_piece_with) (by kernel_rfl) e_piece_with hk args st
noncomputable def t_pieces_of (F F1 F2 : FT) : DS := (sCons (sSetM 2 (dN (mkL 0) dNil)) (sCons (sFor (dSeqI (dV 1)) (bName 3) (sCons (sIf (dNotT (dTru truP (dN anyP (dCons (dLc (dSeqI (dV 2)) (bName 4) dYes (d2 (inP false) (dV 3) (dV 4)) [4]) dNil)))) (sCons (sExpr (dMeth appendP (dV 2) (dCons (dCall (F "piece_with") (dCons (dV 0) (dCons (dV 1) (dCons (dV 3) dNil)))) dNil))) sNil) sNil) sNil)) (sCons (sRet (dN tupP (dCons (dV 2) dNil))) sNil)))
theorem e_pieces_of (F F1 F2 : FT) : bodyK pr d_pieces_of F F2 (hears pr F1) none = some (t_pieces_of F F1 F2) := by kernel_rfl
theorem s_pieces_of {k : Nat} (hk : 1 ≤ k) (args : List PV) (st : Sto) : (lev pr k).1 "pieces_of" args st = runF 5 (t_pieces_of (lev pr (k - 1)).1 (lev pr (k - 1)).2.1 (lev pr (k - 1)).2.2) args st := step_of (d := d_pieces_of) (B := t_pieces_of) (by kernel_rfl) e_pieces_of hk args st
noncomputable def t_pieces (F F1 F2 : FT) : DS := (sCons (sSet 0 (dCall (F "made_book") (dCons (dV 0) dNil))) (sCons (sExpr (dCall (F "want_group") (dCons (dV 0) (dCons (dV 1) dNil)))) (sCons (sRet (dCall (F "pieces_of") (dCons (dV 0) (dCons (dV 1) dNil)))) sNil)))
theorem e_pieces (F F1 F2 : FT) : bodyK pr d_pieces F F2 (hears pr F1) none = some (t_pieces F F1 F2) := by kernel_rfl
theorem s_pieces {k : Nat} (hk : 1 ≤ k) (args : List PV) (st : Sto) : (lev pr k).1 "pieces" args st = runF 2 (t_pieces (lev pr (k - 1)).1 (lev pr (k - 1)).2.1 (lev pr (k - 1)).2.2) args st := step_of (d := d_pieces) (B := t_pieces) (by kernel_rfl) e_pieces hk args st
noncomputable def t_hangs_of (F F1 F2 : FT) : DS := (sCons (sRet (d2 (eqP false) (dN lenP (dCons (dCall (F "pieces_of") (dCons (dV 0) (dCons (dV 1) dNil))) dNil)) (dC (.int 1)))) sNil)
theorem e_hangs_of (F F1 F2 : FT) : bodyK pr d_hangs_of F F2 (hears pr F1) none = some (t_hangs_of F F1 F2) := by kernel_rfl
theorem s_hangs_of {k : Nat} (hk : 1 ≤ k) (args : List PV) (st : Sto) : (lev pr k).1 "hangs_of" args st = runF 2 (t_hangs_of (lev pr (k - 1)).1 (lev pr (k - 1)).2.1 (lev pr (k - 1)).2.2) args st := step_of (d := d_hangs_of) (B := t_hangs_of) (by kernel_rfl) e_hangs_of hk args st
noncomputable def t_hangs (F F1 F2 : FT) : DS := (sCons (sSet 0 (dCall (F "made_book") (dCons (dV 0) dNil))) (sCons (sExpr (dCall (F "want_group") (dCons (dV 0) (dCons (dV 1) dNil)))) (sCons (sRet (dCall (F "hangs_of") (dCons (dV 0) (dCons (dV 1) dNil)))) sNil)))
theorem e_hangs (F F1 F2 : FT) : bodyK pr d_hangs F F2 (hears pr F1) none = some (t_hangs F F1 F2) := by kernel_rfl
theorem s_hangs {k : Nat} (hk : 1 ≤ k) (args : List PV) (st : Sto) : (lev pr k).1 "hangs" args st = runF 2 (t_hangs (lev pr (k - 1)).1 (lev pr (k - 1)).2.1 (lev pr (k - 1)).2.2) args st := step_of (d := d_hangs) (B := t_hangs) (by kernel_rfl) e_hangs hk args st
noncomputable def t__law_pool (F F1 F2 : FT) : DS := (sCons (sSet 2 (dC (.int 0))) (sCons (sIf (dTru asB (d2 ltP (dV 1) (dN lenP (dCons (dV 0) dNil)))) (sCons (sSet 2 (d2 ixP (dV 0) (dV 1))) sNil) (sCons (sIf (dTru asB (d2 (eqP true) (dV 0) (dN (mkL 0) dNil))) (sCons (sSet 2 (d2 ixP (dV 0) (dC (.int 0)))) sNil) sNil) sNil)) (sCons (sSet 3 (dN max2P (dCons (dN intP (dCons (dV 2) dNil)) (dCons (dN intP (dCons (d2 subP (d1 negP (dC (.int 1))) (dV 2)) dNil)) dNil)))) (sCons (sSet 4 (d2 modP (dN intP (dCons (d2 mulP (d2 addP (d2 addP (d2 addP (d2 modP (dN intP (dCons (dV 3) dNil)) (dC (.int 2147483629))) (d2 mulP (d2 mulP (dC (.int 7919)) (dV 1)) (dV 1))) (d2 mulP (dC (.int 31)) (dV 1))) (dC (.int 17))) (dC (.int 48271))) dNil)) (dC (.int 2147483647)))) (sCons (sRet (dN (mkL 2) (dCons (d2 mulP (dV 3) (dN intP (dCons (dAnd (d2 geP (dV 3) (d2 powP (dC (.int 10)) (dC (.int 18)))) (d2 ltP (dV 1) (dN lenP (dCons (dV 0) dNil)))) dNil))) (dCons (dV 4) dNil)))) sNil)))))
theorem e__law_pool (F F1 F2 : FT) : bodyK pr d__law_pool F F2 (hears pr F1) none = some (t__law_pool F F1 F2) := by kernel_rfl
theorem s__law_pool {k : Nat} (hk : 1 ≤ k) (args : List PV) (st : Sto) : (lev pr k).1 "_law_pool" args st = runF 5 (t__law_pool (lev pr (k - 1)).1 (lev pr (k - 1)).2.1 (lev pr (k - 1)).2.2) args st := step_of (d := d__law_pool) (B := t__law_pool) (by kernel_rfl) e__law_pool hk args st
noncomputable def t__law_take (F F1 F2 : FT) : DS := (sCons (sIf (dTru asB (d2 gtP (d2 ixP (dV 0) (dC (.int 0))) (dC (.int 0)))) (sCons (sSet 2 (d2 modP (dN intP (dCons (d2 ixP (dV 0) (dC (.int 0))) dNil)) (dV 1))) (sCons (sSub (d2 fdivP (d2 ixP (dV 0) (dC (.int 0))) (dV 1)) (dV 0) (dC (.int 0))) (sCons (sRet (dV 2)) sNil))) sNil) (sCons (sSub (d2 modP (dN intP (dCons (d2 addP (d2 mulP (d2 ixP (dV 0) (dC (.int 1))) (dC (.int 39373))) (dC (.int 7))) dNil)) (dC (.int 2147483647))) (dV 0) (dC (.int 1))) (sCons (sRet (d2 modP (dN intP (dCons (d2 fdivP (d2 modP (dN intP (dCons (d2 mulP (d2 ixP (dV 0) (dC (.int 1))) (d2 ixP (dV 0) (dC (.int 1)))) dNil)) (dC (.int 2147483629))) (dC (.int 32))) dNil)) (dV 1))) sNil)))
theorem e__law_take (F F1 F2 : FT) : bodyK pr d__law_take F F2 (hears pr F1) none = some (t__law_take F F1 F2) := by kernel_rfl
theorem s__law_take {k : Nat} (hk : 1 ≤ k) (args : List PV) (st : Sto) : (lev pr k).1 "_law_take" args st = runF 3 (t__law_take (lev pr (k - 1)).1 (lev pr (k - 1)).2.1 (lev pr (k - 1)).2.2) args st := step_of (d := d__law_take) (B := t__law_take) (by kernel_rfl) e__law_take hk args st
noncomputable def t__law_one (F F1 F2 : FT) : DS := (sCons (sRet (d2 ixP (dV 1) (dCall (F "_law_take") (dCons (dV 0) (dCons (dN lenP (dCons (dV 1) dNil)) dNil))))) sNil)
theorem e__law_one (F F1 F2 : FT) : bodyK pr d__law_one F F2 (hears pr F1) none = some (t__law_one F F1 F2) := by kernel_rfl
theorem s__law_one {k : Nat} (hk : 1 ≤ k) (args : List PV) (st : Sto) : (lev pr k).1 "_law_one" args st = runF 2 (t__law_one (lev pr (k - 1)).1 (lev pr (k - 1)).2.1 (lev pr (k - 1)).2.2) args st := step_of (d := d__law_one) (B := t__law_one) (by kernel_rfl) e__law_one hk args st
noncomputable def t__law_mixed (F F1 F2 : FT) : DS := (sCons (sPar 3 4 (dConsM true (dN lstP (dCons (dV 1) dNil)) (dConsM true (dN (mkL 0) dNil) dNil))) (sCons (sFor (dRngI rng1P (dCons (dN lenP (dCons (dV 1) dNil)) dNil)) (bName 2) (sCons (sExpr (dMeth appendP (dV 4) (dCons (dMeth popP (dV 3) (dCons (dCall (F "_law_take") (dCons (dV 0) (dCons (dN lenP (dCons (dV 3) dNil)) dNil))) dNil)) dNil))) sNil)) (sCons (sRet (dV 4)) sNil)))
theorem e__law_mixed (F F1 F2 : FT) : bodyK pr d__law_mixed F F2 (hears pr F1) none = some (t__law_mixed F F1 F2) := by kernel_rfl
theorem s__law_mixed {k : Nat} (hk : 1 ≤ k) (args : List PV) (st : Sto) : (lev pr k).1 "_law_mixed" args st = runF 5 (t__law_mixed (lev pr (k - 1)).1 (lev pr (k - 1)).2.1 (lev pr (k - 1)).2.2) args st := step_of (d := d__law_mixed) (B := t__law_mixed) (by kernel_rfl) e__law_mixed hk args st
noncomputable def t__law_some (F F1 F2 : FT) : DS := (sCons (sRet (dLc (dSeqI (dV 1)) (bName 2) (dTru asB (d2 (eqP false) (dCall (F "_law_take") (dCons (dV 0) (dCons (dC (.int 2)) dNil))) (dC (.int 1)))) (dV 2) [2])) sNil)
theorem e__law_some (F F1 F2 : FT) : bodyK pr d__law_some F F2 (hears pr F1) none = some (t__law_some F F1 F2) := by kernel_rfl
theorem s__law_some {k : Nat} (hk : 1 ≤ k) (args : List PV) (st : Sto) : (lev pr k).1 "_law_some" args st = runF 3 (t__law_some (lev pr (k - 1)).1 (lev pr (k - 1)).2.1 (lev pr (k - 1)).2.2) args st := step_of (d := d__law_some) (B := t__law_some) (by kernel_rfl) e__law_some hk args st
noncomputable def t__law_rising (F F1 F2 : FT) : DS := (sCons (sSetM 1 (dN (mkL 0) dNil)) (sCons (sFor (dSeqI (dV 0)) (bName 2) (sCons (sExpr (dMeth extendP (dV 1) (dCons (dLc (dSeqI (dV 2)) (bName 3) (dTru asB (d2 (inP true) (dV 3) (dV 1))) (dV 3) [3]) dNil))) sNil)) (sCons (sRet (dN tupP (dCons (dN srtA (dCons (dV 1) dNil)) dNil))) sNil)))
theorem e__law_rising (F F1 F2 : FT) : bodyK pr d__law_rising F F2 (hears pr F1) none = some (t__law_rising F F1 F2) := by kernel_rfl
theorem s__law_rising {k : Nat} (hk : 1 ≤ k) (args : List PV) (st : Sto) : (lev pr k).1 "_law_rising" args st = runF 4 (t__law_rising (lev pr (k - 1)).1 (lev pr (k - 1)).2.1 (lev pr (k - 1)).2.2) args st := step_of (d := d__law_rising) (B := t__law_rising) (by kernel_rfl) e__law_rising hk args st
noncomputable def t__law_common_columns (F F1 F2 : FT) : DS := (sCons (sRet (dN tupP (dCons (dLc (dSeqI (d2 ixP (dV 0) (dV 1))) (bName 3) (dTru asB (d2 (inP false) (dV 3) (d2 ixP (dV 0) (dV 2)))) (dV 3) [3]) dNil))) sNil)
theorem e__law_common_columns (F F1 F2 : FT) : bodyK pr d__law_common_columns F F2 (hears pr F1) none = some (t__law_common_columns F F1 F2) := by kernel_rfl
theorem s__law_common_columns {k : Nat} (hk : 1 ≤ k) (args : List PV) (st : Sto) : (lev pr k).1 "_law_common_columns" args st = runF 4 (t__law_common_columns (lev pr (k - 1)).1 (lev pr (k - 1)).2.1 (lev pr (k - 1)).2.2) args st := step_of (d := d__law_common_columns) (B := t__law_common_columns) (by kernel_rfl) e__law_common_columns hk args st
noncomputable def t__law_are_near (F F1 F2 : FT) : DS := (sCons (sRet (dAnd (d2 (eqP true) (dV 1) (dV 2)) (d2 (eqP true) (dCall (F "_law_common_columns") (dCons (dV 0) (dCons (dV 1) (dCons (dV 2) dNil)))) (dN (mkT 0) dNil)))) sNil)
theorem e__law_are_near (F F1 F2 : FT) : bodyK pr d__law_are_near F F2 (hears pr F1) none = some (t__law_are_near F F1 F2) := by kernel_rfl
theorem s__law_are_near {k : Nat} (hk : 1 ≤ k) (args : List PV) (st : Sto) : (lev pr k).1 "_law_are_near" args st = runF 3 (t__law_are_near (lev pr (k - 1)).1 (lev pr (k - 1)).2.1 (lev pr (k - 1)).2.2) args st := step_of (d := d__law_are_near) (B := t__law_are_near) (by kernel_rfl) e__law_are_near hk args st
noncomputable def t__law_all_sources (F F1 F2 : FT) : DS := (sCons (sRet (dN tupP (dCons (dLc (dRngI rng1P (dCons (dN lenP (dCons (dV 0) dNil)) dNil)) (bName 1) dYes (dV 1) [1]) dNil))) sNil)
theorem e__law_all_sources (F F1 F2 : FT) : bodyK pr d__law_all_sources F F2 (hears pr F1) none = some (t__law_all_sources F F1 F2) := by kernel_rfl
theorem s__law_all_sources {k : Nat} (hk : 1 ≤ k) (args : List PV) (st : Sto) : (lev pr k).1 "_law_all_sources" args st = runF 2 (t__law_all_sources (lev pr (k - 1)).1 (lev pr (k - 1)).2.1 (lev pr (k - 1)).2.2) args st := step_of (d := d__law_all_sources) (B := t__law_all_sources) (by kernel_rfl) e__law_all_sources hk args st
noncomputable def t__law_scheme (F F1 F2 : FT) : DS := (sCons (sSet 3 (dSl (dCall (F "_law_mixed") (dCons (dV 0) (dCons (dLc (dRngI rng1P (dCons (dV 1) dNil)) (bName 4) dYes (dV 4) [4]) dNil))) dNoPart (dPart (d2 addP (dC (.int 1)) (dCall (F "_law_take") (dCons (dV 0) (dCons (dV 2) dNil))))))) (sCons (sRet (dN tupP (dCons (dN srtA (dCons (dV 3) dNil)) dNil))) sNil))
theorem e__law_scheme (F F1 F2 : FT) : bodyK pr d__law_scheme F F2 (hears pr F1) none = some (t__law_scheme F F1 F2) := by kernel_rfl
theorem s__law_scheme {k : Nat} (hk : 1 ≤ k) (args : List PV) (st : Sto) : (lev pr k).1 "_law_scheme" args st = runF 5 (t__law_scheme (lev pr (k - 1)).1 (lev pr (k - 1)).2.1 (lev pr (k - 1)).2.2) args st := step_of (d := d__law_scheme) (B := t__law_scheme) (by kernel_rfl) e__law_scheme hk args st
noncomputable def t__law_loose_book (F F1 F2 : FT) : DS := (sCons (sRet (dN tupP (dCons (dLc (dRngI rng1P (dCons (d2 addP (dC (.int 1)) (dCall (F "_law_take") (dCons (dV 0) (dCons (dV 1) dNil)))) dNil)) (bName 3) dYes (dCall (F "_law_scheme") (dCons (dV 0) (dCons (dV 2) (dCons (dC (.int 3)) dNil)))) [3]) dNil))) sNil)
theorem e__law_loose_book (F F1 F2 : FT) : bodyK pr d__law_loose_book F F2 (hears pr F1) none = some (t__law_loose_book F F1 F2) := by kernel_rfl
theorem s__law_loose_book {k : Nat} (hk : 1 ≤ k) (args : List PV) (st : Sto) : (lev pr k).1 "_law_loose_book" args st = runF 4 (t__law_loose_book (lev pr (k - 1)).1 (lev pr (k - 1)).2.1 (lev pr (k - 1)).2.2) args st := step_of (d := d__law_loose_book) (B := t__law_loose_book) (by kernel_rfl) e__law_loose_book hk args st
noncomputable def t__law_hung_book (F F1 F2 : FT) : DS := (sCons (sSetM 3 (dN (mkL 1) (dCons (dCall (F "_law_scheme") (dCons (dV 0) (dCons (dV 2) (dCons (dC (.int 3)) dNil)))) dNil))) (sCons (sFor (dRngI rng1P (dCons (dCall (F "_law_take") (dCons (dV 0) (dCons (dV 1) dNil))) dNil)) (bName 4) (sCons (sSet 5 (dCall (F "_law_one") (dCons (dV 0) (dCons (dCall (F "_law_one") (dCons (dV 0) (dCons (dV 3) dNil))) dNil)))) (sCons (sExpr (dMeth appendP (dV 3) (dCons (dCall (F "_law_rising") (dCons (dN (mkL 2) (dCons (dN (mkL 1) (dCons (dV 5) dNil)) (dCons (dCall (F "_law_scheme") (dCons (dV 0) (dCons (dV 2) (dCons (dC (.int 2)) dNil)))) dNil))) dNil)) dNil))) sNil))) (sCons (sRet (dN tupP (dCons (dV 3) dNil))) sNil)))
theorem e__law_hung_book (F F1 F2 : FT) : bodyK pr d__law_hung_book F F2 (hears pr F1) none = some (t__law_hung_book F F1 F2) := by kernel_rfl
theorem s__law_hung_book {k : Nat} (hk : 1 ≤ k) (args : List PV) (st : Sto) : (lev pr k).1 "_law_hung_book" args st = runF 6 (t__law_hung_book (lev pr (k - 1)).1 (lev pr (k - 1)).2.1 (lev pr (k - 1)).2.2) args st := step_of (d := d__law_hung_book) (B := t__law_hung_book) (by kernel_rfl) e__law_hung_book hk args st
noncomputable def t__law_fellow_columns (F F1 F2 : FT) : DS := (sCons (sRet (dLc (dSeqI (d2 ixP (dV 0) (dV 1))) (bName 2) dYes (dN (mkT 2) (dCons (dV 2) (dCons (dN tupP (dCons (dLc (dRngI rng1P (dCons (dN lenP (dCons (dV 0) dNil)) dNil)) (bName 3) (dTru asB (d2 (inP false) (dV 2) (d2 ixP (dV 0) (dV 3)))) (dV 3) [3]) dNil)) dNil))) [2])) sNil)
theorem e__law_fellow_columns (F F1 F2 : FT) : bodyK pr d__law_fellow_columns F F2 (hears pr F1) none = some (t__law_fellow_columns F F1 F2) := by kernel_rfl
theorem s__law_fellow_columns {k : Nat} (hk : 1 ≤ k) (args : List PV) (st : Sto) : (lev pr k).1 "_law_fellow_columns" args st = runF 4 (t__law_fellow_columns (lev pr (k - 1)).1 (lev pr (k - 1)).2.1 (lev pr (k - 1)).2.2) args st := step_of (d := d__law_fellow_columns) (B := t__law_fellow_columns) (by kernel_rfl) e__law_fellow_columns hk args st
noncomputable def t__law_same_columns (F F1 F2 : FT) : DS := (sCons (sSet 2 (dCall (F "_law_fellow_columns") (dCons (dV 1) (dCons (dCall (F "_law_take") (dCons (dV 0) (dCons (dN lenP (dCons (dV 1) dNil)) dNil))) dNil)))) (sCons (sSet 3 (dCall (F "_law_one") (dCons (dV 0) (dCons (dV 2) dNil)))) (sCons (sSet 4 (dCall (F "_law_mixed") (dCons (dV 0) (dCons (dLc (dSeqI (dV 2)) (bName 5) (dTru asB (d2 (eqP false) (d2 ixP (dV 5) (dC (.int 1))) (d2 ixP (dV 3) (dC (.int 1))))) (d2 ixP (dV 5) (dC (.int 0))) [5]) dNil)))) (sCons (sRet (dSl (dV 4) dNoPart (dPart (d2 addP (dC (.int 1)) (dCall (F "_law_take") (dCons (dV 0) (dCons (dN lenP (dCons (dV 4) dNil)) dNil))))))) sNil))))
theorem e__law_same_columns (F F1 F2 : FT) : bodyK pr d__law_same_columns F F2 (hears pr F1) none = some (t__law_same_columns F F1 F2) := by kernel_rfl
theorem s__law_same_columns {k : Nat} (hk : 1 ≤ k) (args : List PV) (st : Sto) : (lev pr k).1 "_law_same_columns" args st = runF 6 (t__law_same_columns (lev pr (k - 1)).1 (lev pr (k - 1)).2.1 (lev pr (k - 1)).2.2) args st := step_of (d := d__law_same_columns) (B := t__law_same_columns) (by kernel_rfl) e__law_same_columns hk args st
noncomputable def t__law_called (F F1 F2 : FT) : DS := (sCons (sDictP 2 (dCons (dV 1) dNil)) (sCons (sRet (dLc (dSeqI (dV 0)) (bName 3) dYes (dN tupP (dCons (dN srtA (dCons (dLc (dSeqI (dV 3)) (bName 4) dYes (dGet2 (dV 2) (dV 4) (dV 4)) [4]) dNil)) dNil)) [3])) sNil))
theorem e__law_called (F F1 F2 : FT) : bodyK pr d__law_called F F2 (hears pr F1) none = some (t__law_called F F1 F2) := by kernel_rfl
theorem s__law_called {k : Nat} (hk : 1 ≤ k) (args : List PV) (st : Sto) : (lev pr k).1 "_law_called" args st = runF 5 (t__law_called (lev pr (k - 1)).1 (lev pr (k - 1)).2.1 (lev pr (k - 1)).2.2) args st := step_of (d := d__law_called) (B := t__law_called) (by kernel_rfl) e__law_called hk args st
noncomputable def t__law_glued (F F1 F2 : FT) : DS := (sCons (sIf (dTru asB (d2 (eqP false) (dV 1) (dC (.int 1)))) (sCons (sSet 4 (d2 addP (dC (.int 1)) (dCall (F "_law_take") (dCons (dV 0) (dCons (dC (.int 3)) dNil))))) (sCons (sRet (dN (mkT 2) (dCons (dN (mkL 1) (dCons (dN tupP (dCons (dLc (dRngI rng1P (dCons (dV 4) dNil)) (bName 12) dYes (d2 addP (dV 2) (dV 12)) [12]) dNil)) dNil)) (dCons (d2 addP (dV 2) (dV 4)) dNil)))) sNil)) sNil) (sCons (sSet 3 (d2 addP (dC (.int 1)) (dCall (F "_law_take") (dCons (dV 0) (dCons (d2 subP (dV 1) (dC (.int 1))) dNil))))) (sCons (sAsg (dCall (F "_law_glued") (dCons (dV 0) (dCons (dV 3) (dCons (dV 2) dNil)))) (bTup 2 (bCons (bName 5) (bCons (bName 6) bNil)))) (sCons (sAsg (dCall (F "_law_glued") (dCons (dV 0) (dCons (d2 subP (dV 1) (dV 3)) (dCons (dV 6) dNil)))) (bTup 2 (bCons (bName 7) (bCons (bName 8) bNil)))) (sCons (sAsg (dN (mkT 2) (dCons (dCall (F "_law_same_columns") (dCons (dV 0) (dCons (dV 5) dNil))) (dCons (dCall (F "_law_same_columns") (dCons (dV 0) (dCons (dV 7) dNil))) dNil))) (bTup 2 (bCons (bName 9) (bCons (bName 10) bNil)))) (sCons (sSet 4 (dN minG (dCons (dN lenP (dCons (dV 9) dNil)) (dCons (dN lenP (dCons (dV 10) dNil)) dNil)))) (sCons (sRet (dN (mkT 2) (dCons (d2 addP (dV 5) (dCall (F "_law_called") (dCons (dV 7) (dCons (dLc (dRngI rng1P (dCons (dV 4) dNil)) (bName 11) dYes (dN (mkT 2) (dCons (d2 ixP (dV 10) (dV 11)) (dCons (d2 ixP (dV 9) (dV 11)) dNil))) [11]) dNil)))) (dCons (dV 8) dNil)))) sNil)))))))
theorem e__law_glued (F F1 F2 : FT) : bodyK pr d__law_glued F F2 (hears pr F1) none = some (t__law_glued F F1 F2) := by kernel_rfl
theorem s__law_glued {k : Nat} (hk : 1 ≤ k) (args : List PV) (st : Sto) : (lev pr k).1 "_law_glued" args st = runF 13 (t__law_glued (lev pr (k - 1)).1 (lev pr (k - 1)).2.1 (lev pr (k - 1)).2.2) args st := step_of (d := d__law_glued) (B := t__law_glued) (by kernel_rfl) e__law_glued hk args st
noncomputable def t__law_ringless_book (F F1 F2 : FT) : DS := (sCons (sAsg (dCall (F "_law_glued") (dCons (dV 0) (dCons (d2 addP (dC (.int 1)) (dCall (F "_law_take") (dCons (dV 0) (dCons (dV 1) dNil)))) (dCons (dC (.int 0)) dNil)))) (bTup 2 (bCons (bName 4) (bCons (bName 5) bNil)))) (sCons (sSet 2 (dCall (F "_law_mixed") (dCons (dV 0) (dCons (dLc (dRngI rng1P (dCons (dC (.int 24)) dNil)) (bName 7) dYes (dV 7) [7]) dNil)))) (sCons (sSet 3 (dLc (dSeqI (dV 4)) (bName 6) dYes (dN tupP (dCons (dN srtA (dCons (dLc (dSeqI (dV 6)) (bName 7) dYes (d2 ixP (dV 2) (dV 7)) [7]) dNil)) dNil)) [6])) (sCons (sRet (dN tupP (dCons (dCall (F "_law_mixed") (dCons (dV 0) (dCons (dV 3) dNil))) dNil))) sNil))))
theorem e__law_ringless_book (F F1 F2 : FT) : bodyK pr d__law_ringless_book F F2 (hears pr F1) none = some (t__law_ringless_book F F1 F2) := by kernel_rfl
theorem s__law_ringless_book {k : Nat} (hk : 1 ≤ k) (args : List PV) (st : Sto) : (lev pr k).1 "_law_ringless_book" args st = runF 8 (t__law_ringless_book (lev pr (k - 1)).1 (lev pr (k - 1)).2.1 (lev pr (k - 1)).2.2) args st := step_of (d := d__law_ringless_book) (B := t__law_ringless_book) (by kernel_rfl) e__law_ringless_book hk args st
noncomputable def t__law_ring_book (F F1 F2 : FT) : DS := (sCons (sSet 2 (d2 addP (dC (.int 3)) (dCall (F "_law_take") (dCons (dV 0) (dCons (d2 subP (dV 1) (dC (.int 2))) dNil))))) (sCons (sSet 3 (dCall (F "_law_mixed") (dCons (dV 0) (dCons (dLc (dRngI rng1P (dCons (dC (.int 24)) dNil)) (bName 7) dYes (dV 7) [7]) dNil)))) (sCons (sSetM 4 (dLcM (dRngI rng1P (dCons (dV 2) dNil)) (bName 5) dYes (dN (mkL 2) (dCons (d2 ixP (dV 3) (dV 5)) (dCons (d2 ixP (dV 3) (d2 modP (dN intP (dCons (d2 subP (dV 5) (dC (.int 1))) dNil)) (dV 2))) dNil))) [5])) (sCons (sFor (dRngI rng1P (dCons (dV 2) dNil)) (bName 5) (sCons (sSetM 6 (d2 ixP (dV 4) (dV 5))) (sCons (sExpr (dMeth extendP (dV 6) (dCons (dIf (dTru asB (d2 (eqP false) (dCall (F "_law_take") (dCons (dV 0) (dCons (dC (.int 3)) dNil))) (dC (.int 0)))) (dN (mkL 1) (dCons (d2 ixP (dV 3) (d2 subP (dV 2) (dC (.int 1)))) dNil)) (dN (mkL 0) dNil)) dNil))) (sCons (sExpr (dMeth extendP (dV 6) (dCons (dIf (dTru asB (d2 (eqP false) (dCall (F "_law_take") (dCons (dV 0) (dCons (dC (.int 3)) dNil))) (dC (.int 0)))) (dN (mkL 1) (dCons (d2 ixP (dV 3) (d2 addP (dV 2) (dV 5))) dNil)) (dN (mkL 0) dNil)) dNil))) sNil)))) (sCons (sIf (dTru asB (d2 (eqP false) (dCall (F "_law_take") (dCons (dV 0) (dCons (dC (.int 2)) dNil))) (dC (.int 0)))) (sCons (sExpr (dMeth appendP (dV 4) (dConsM true (dN (mkL 2) (dCons (dCall (F "_law_one") (dCons (dV 0) (dCons (dSl (dV 3) dNoPart (dPart (dV 2))) dNil))) (dCons (d2 ixP (dV 3) (dC (.int 23))) dNil))) dNil))) sNil) sNil) (sCons (sRet (dN tupP (dCons (dLc (dSeqI (dCall (F "_law_mixed") (dCons (dV 0) (dCons (dV 4) dNil)))) (bName 6) dYes (dCall (F "_law_rising") (dCons (dLc (dSeqI (dV 6)) (bName 7) dYes (dN (mkL 1) (dCons (dV 7) dNil)) [7]) dNil)) [6]) dNil))) sNil))))))
theorem e__law_ring_book (F F1 F2 : FT) : bodyK pr d__law_ring_book F F2 (hears pr F1) none = some (t__law_ring_book F F1 F2) := by kernel_rfl
theorem s__law_ring_book {k : Nat} (hk : 1 ≤ k) (args : List PV) (st : Sto) : (lev pr k).1 "_law_ring_book" args st = runF 8 (t__law_ring_book (lev pr (k - 1)).1 (lev pr (k - 1)).2.1 (lev pr (k - 1)).2.2) args st := step_of (d := d__law_ring_book) (B := t__law_ring_book) (by kernel_rfl) e__law_ring_book hk args st
noncomputable def t__law_some_book (F F1 F2 : FT) : DS := (sCons (sSet 2 (dCall (F "_law_take") (dCons (dV 0) (dCons (dC (.int 4)) dNil)))) (sCons (sIf (dTru asB (d2 ltP (dV 2) (dC (.int 2)))) (sCons (sRet (dCall (F "_law_ringless_book") (dCons (dV 0) (dCons (dV 1) dNil)))) sNil) sNil) (sCons (sRet (dIf (dTru asB (d2 (eqP false) (dV 2) (dC (.int 2)))) (dCall (F "_law_ring_book") (dCons (dV 0) (dCons (dN max2P (dCons (dC (.int 3)) (dCons (d2 subP (dV 1) (dC (.int 1))) dNil))) dNil))) (dCall (F "_law_hung_book") (dCons (dV 0) (dCons (dV 1) (dCons (dC (.int 6)) dNil)))))) sNil)))
theorem e__law_some_book (F F1 F2 : FT) : bodyK pr d__law_some_book F F2 (hears pr F1) none = some (t__law_some_book F F1 F2) := by kernel_rfl
theorem s__law_some_book {k : Nat} (hk : 1 ≤ k) (args : List PV) (st : Sto) : (lev pr k).1 "_law_some_book" args st = runF 3 (t__law_some_book (lev pr (k - 1)).1 (lev pr (k - 1)).2.1 (lev pr (k - 1)).2.2) args st := step_of (d := d__law_some_book) (B := t__law_some_book) (by kernel_rfl) e__law_some_book hk args st
noncomputable def t__law_heard (F : FT) (lv : PV) (act : Sto → R PV) : DS := (sCons (sTry pr.sb (sCons (sRet (dN (mkT 2) (dCons (dC (.str "told")) (dCons (dAct 0 lv act) dNil)))) sNil) [("Refused", some 1, hXI pr.sb [("BadGroup", "group"), ("BadBook", "book")] "")]) sNil)
noncomputable def h__law_heard (F : FT) : PV → (Sto → R PV) → Sto → R PV := fun lv act st => runF 3 (t__law_heard F lv act) [lv] st
theorem e__law_heard (F : FT) : hears pr F "_law_heard" = some (h__law_heard F) := by kernel_rfl
noncomputable def t__law_closed (F F1 F2 : FT) : DS := (sCons (sAsg (dN (mkT 2) (dConsM true (dN (mkL 1) (dCons (dV 2) dNil)) (dConsM false (dN (mkL 1) (dCons (dV 2) dNil)) dNil))) (bTup 2 (bCons (bName 3) (bCons (bName 4) bNil)))) (sCons (sWhile (dTru asB (d2 (eqP true) (dV 4) (dN (mkL 0) dNil))) (sCons (sSet 4 (dLc (dSeqI (dV 1)) (bName 5) (dAndT (dTru asB (d2 (inP true) (dV 5) (dV 3))) (dTru asB (d2 (eqP true) (dLc (dSeqI (dV 3)) (bName 6) (dTru truP (dCall (F "_law_are_near") (dCons (dV 0) (dCons (dV 5) (dCons (dV 6) dNil))))) (dV 6) [6]) (dN (mkL 0) dNil)))) (dV 5) [5])) (sCons (sExpr (dMeth extendP (dV 3) (dCons (dV 4) dNil))) sNil))) (sCons (sRet (dN tupP (dCons (dN srtA (dCons (dV 3) dNil)) dNil))) sNil)))
theorem e__law_closed (F F1 F2 : FT) : bodyK pr d__law_closed F F2 (hears pr F1) none = some (t__law_closed F F1 F2) := by kernel_rfl
theorem s__law_closed {k : Nat} (hk : 1 ≤ k) (args : List PV) (st : Sto) : (lev pr k).1 "_law_closed" args st = runF 7 (t__law_closed (lev pr (k - 1)).1 (lev pr (k - 1)).2.1 (lev pr (k - 1)).2.2) args st := step_of (d := d__law_closed) (B := t__law_closed) (by kernel_rfl) e__law_closed hk args st
noncomputable def t__law_own_pieces (F F1 F2 : FT) : DS := (sCons (sSetM 2 (dN (mkL 0) dNil)) (sCons (sFor (dSeqI (dV 1)) (bName 3) (sCons (sIf (dTru asB (d2 (eqP false) (dLc (dSeqI (dV 2)) (bName 4) (dTru asB (d2 (inP false) (dV 3) (dV 4))) (dV 4) [4]) (dN (mkL 0) dNil))) (sCons (sExpr (dMeth appendP (dV 2) (dCons (dCall (F "_law_closed") (dCons (dV 0) (dCons (dV 1) (dCons (dV 3) dNil)))) dNil))) sNil) sNil) sNil)) (sCons (sRet (dN tupP (dCons (dV 2) dNil))) sNil)))
theorem e__law_own_pieces (F F1 F2 : FT) : bodyK pr d__law_own_pieces F F2 (hears pr F1) none = some (t__law_own_pieces F F1 F2) := by kernel_rfl
theorem s__law_own_pieces {k : Nat} (hk : 1 ≤ k) (args : List PV) (st : Sto) : (lev pr k).1 "_law_own_pieces" args st = runF 5 (t__law_own_pieces (lev pr (k - 1)).1 (lev pr (k - 1)).2.1 (lev pr (k - 1)).2.2) args st := step_of (d := d__law_own_pieces) (B := t__law_own_pieces) (by kernel_rfl) e__law_own_pieces hk args st
noncomputable def t__law_group_right (F F1 F2 : FT) : DS := (sCons (sIf (dTru asB (d2 (eqP true) (dN reprP (dCons (dCall (F "made_group") (dCons (dV 0) (dCons (dV 1) dNil))) dNil)) (dN reprP (dCons (dV 1) dNil)))) (sCons (sRet (dC (.bl false))) sNil) sNil) (sCons (sSet 2 (dN tupP (dCons (dLc (dRngI rng1P (dCons (dC (.int 24)) dNil)) (bName 4) (dTru asB (d2 (eqP true) (dLc (dSeqI (dV 1)) (bName 5) (dTru asB (d2 (inP false) (dV 4) (d2 ixP (dV 0) (dV 5)))) (dV 5) [5]) (dN (mkL 0) dNil))) (dV 4) [4]) dNil))) (sCons (sIf (dTru asB (d2 (eqP true) (dN reprP (dCons (dCall (F "group_columns") (dCons (dV 0) (dCons (dV 1) dNil))) dNil)) (dN reprP (dCons (dV 2) dNil)))) (sCons (sRet (dC (.bl false))) sNil) sNil) (sCons (sSet 3 (dCall (F "_law_own_pieces") (dCons (dV 0) (dCons (dV 1) dNil)))) (sCons (sRet (dAnd (d2 (eqP false) (dN reprP (dCons (dCall (F "pieces") (dCons (dV 0) (dCons (dV 1) dNil))) dNil)) (dN reprP (dCons (dV 3) dNil))) (d2 (eqP false) (dN reprP (dCons (dCall (F "hangs") (dCons (dV 0) (dCons (dV 1) dNil))) dNil)) (dN reprP (dCons (d2 (eqP false) (dN lenP (dCons (dV 3) dNil)) (dC (.int 1))) dNil))))) sNil)))))
theorem e__law_group_right (F F1 F2 : FT) : bodyK pr d__law_group_right F F2 (hears pr F1) none = some (t__law_group_right F F1 F2) := by kernel_rfl
theorem s__law_group_right {k : Nat} (hk : 1 ≤ k) (args : List PV) (st : Sto) : (lev pr k).1 "_law_group_right" args st = runF 6 (t__law_group_right (lev pr (k - 1)).1 (lev pr (k - 1)).2.1 (lev pr (k - 1)).2.2) args st := step_of (d := d__law_group_right) (B := t__law_group_right) (by kernel_rfl) e__law_group_right hk args st
noncomputable def t__law_odd_right (F F1 F2 : FT) : DS := (sCons (sSet 3 (dN (mkL 9) (dCons (dC .non) (dCons (dN (mkT 0) dNil) (dCons (d2 addP (dV 2) (dSl (dV 2) dNoPart (dPart (dC (.int 1))))) (dCons (d2 addP (dV 2) (dN (mkT 1) (dCons (dN lenP (dCons (dV 1) dNil)) dNil))) (dCons (d2 addP (dN (mkT 1) (dCons (d1 negP (dC (.int 1))) dNil)) (dV 2)) (dCons (dN (mkT 1) (dCons (dC (.str "0")) dNil)) (dCons (dN (mkT 1) (dCons (dV 2) dNil)) (dCons (dC (.int 0)) (dCons (d2 addP (dRev (dV 2) (d1 negP (dC (.int 1)))) (dSl (dV 2) dNoPart (dPart (dC (.int 1))))) dNil))))))))))) (sCons (sSet 4 (dCall (F "_law_one") (dCons (dV 0) (dCons (dV 3) dNil)))) (sCons (sFor (dSeqI (dN (mkL 4) (dCons (dC (.str "made")) (dCons (dC (.str "columns")) (dCons (dC (.str "pieces")) (dCons (dC (.str "hangs")) dNil)))))) (bName 5) (sCons (sIf (dTru asB (d2 (eqP true) (dLam (h__law_heard F1) (dCall (F2 "_law_asked") (dCons (dV 5) (dCons (dV 1) (dCons (dV 4) dNil))))) (dN (mkT 2) (dCons (dC (.str "group")) (dCons (d1 negP (dC (.int 1))) dNil))))) (sCons (sRet (dC (.bl false))) sNil) sNil) sNil)) (sCons (sSet 6 (dCall (F "_law_one") (dCons (dV 0) (dCons (dN (mkL 4) (dCons (dN (mkT 2) (dCons (dC .non) (dCons (d1 negP (dC (.int 1))) dNil))) (dCons (dN (mkT 2) (dCons (dN (mkT 0) dNil) (dCons (d1 negP (dC (.int 1))) dNil))) (dCons (dN (mkT 2) (dCons (d2 addP (dV 1) (dN (mkT 1) (dCons (dN (mkT 0) dNil) dNil))) (dCons (dN lenP (dCons (dV 1) dNil)) dNil))) (dCons (dN (mkT 2) (dCons (d2 addP (dN (mkT 1) (dCons (dN (mkT 1) (dCons (dC (.int 24)) dNil)) dNil)) (dSl (dV 1) (dPart (dC (.int 1))) dNoPart)) (dCons (dC (.int 0)) dNil))) dNil))))) dNil)))) (sCons (sIf (dAndT (dTru asB (d2 gtP (dN lenP (dCons (dV 1) dNil)) (dC (.int 11)))) (dTru asB (d2 (eqP false) (d2 ixP (dV 6) (dC (.int 1))) (dN lenP (dCons (dV 1) dNil))))) (sCons (sRet (dC (.bl true))) sNil) sNil) (sCons (sRet (d2 (eqP false) (dLam (h__law_heard F1) (dCall (F2 "pieces") (dCons (d2 ixP (dV 6) (dC (.int 0))) (dCons (dC .non) dNil)))) (dN (mkT 2) (dCons (dC (.str "book")) (dCons (d2 ixP (dV 6) (dC (.int 1))) dNil))))) sNil))))))
theorem e__law_odd_right (F F1 F2 : FT) : bodyK pr d__law_odd_right F F2 (hears pr F1) none = some (t__law_odd_right F F1 F2) := by kernel_rfl
theorem s__law_odd_right {k : Nat} (hk : 1 ≤ k) (args : List PV) (st : Sto) : (lev pr k).1 "_law_odd_right" args st = runF 7 (t__law_odd_right (lev pr (k - 1)).1 (lev pr (k - 1)).2.1 (lev pr (k - 1)).2.2) args st := step_of (d := d__law_odd_right) (B := t__law_odd_right) (by kernel_rfl) e__law_odd_right hk args st
noncomputable def t__law_asked (F F1 F2 : FT) : DS := (sCons (sIf (dTru asB (d2 (eqP false) (dV 0) (dC (.str "made")))) (sCons (sRet (dCall (F "made_group") (dCons (dV 1) (dCons (dV 2) dNil)))) sNil) sNil) (sCons (sIf (dTru asB (d2 (eqP false) (dV 0) (dC (.str "columns")))) (sCons (sRet (dCall (F "group_columns") (dCons (dV 1) (dCons (dV 2) dNil)))) sNil) sNil) (sCons (sRet (dIf (dTru asB (d2 (eqP false) (dV 0) (dC (.str "pieces")))) (dCall (F "pieces") (dCons (dV 1) (dCons (dV 2) dNil))) (dCall (F "hangs") (dCons (dV 1) (dCons (dV 2) dNil))))) sNil)))
theorem e__law_asked (F F1 F2 : FT) : bodyK pr d__law_asked F F2 (hears pr F1) none = some (t__law_asked F F1 F2) := by kernel_rfl
theorem s__law_asked {k : Nat} (hk : 1 ≤ k) (args : List PV) (st : Sto) : (lev pr k).1 "_law_asked" args st = runF 3 (t__law_asked (lev pr (k - 1)).1 (lev pr (k - 1)).2.1 (lev pr (k - 1)).2.2) args st := step_of (d := d__law_asked) (B := t__law_asked) (by kernel_rfl) e__law_asked hk args st
noncomputable def t_law (F F1 F2 : FT) : DS := (sCons (sSetM 1 (dCall (F "_law_pool") (dCons (dV 0) (dCons (dC (.int 0)) dNil)))) (sCons (sFor (dRngI rng1P (dCons (dC (.int 3)) dNil)) (bName 2) (sCons (sSet 3 (dIf (dTru asB (d2 (eqP false) (dCall (F "_law_take") (dCons (dV 1) (dCons (dC (.int 2)) dNil))) (dC (.int 0)))) (dCall (F "_law_loose_book") (dCons (dV 1) (dCons (dC (.int 6)) (dCons (dC (.int 8)) dNil)))) (dCall (F "_law_some_book") (dCons (dV 1) (dCons (dC (.int 6)) dNil))))) (sCons (sSet 4 (dCall (F "_law_all_sources") (dCons (dV 3) dNil))) (sCons (sSet 5 (dN tupP (dCons (dCall (F "_law_some") (dCons (dV 1) (dCons (dV 4) dNil))) dNil))) (sCons (sFor (dSeqI (dN (mkL 3) (dCons (dV 4) (dCons (dIf (dTru asB (d2 (eqP true) (dV 5) (dN (mkT 0) dNil))) (dV 5) (dSl (dV 4) dNoPart (dPart (dC (.int 1))))) (dCons (dSl (dV 4) (dPart (d1 negP (dC (.int 1)))) dNoPart) dNil))))) (bName 6) (sCons (sIf (dNotT (dTru truP (dCall (F "_law_group_right") (dCons (dV 3) (dCons (dV 6) dNil))))) (sCons (sRet (dC (.bl false))) sNil) sNil) sNil)) (sCons (sIf (dNotT (dTru truP (dCall (F "_law_odd_right") (dCons (dV 1) (dCons (dV 3) (dCons (dV 4) dNil)))))) (sCons (sRet (dC (.bl false))) sNil) sNil) sNil)))))) (sCons (sRet (dC (.bl true))) sNil)))
theorem e_law (F F1 F2 : FT) : bodyK pr d_law F F2 (hears pr F1) none = some (t_law F F1 F2) := by kernel_rfl
theorem s_law {k : Nat} (hk : 1 ≤ k) (args : List PV) (st : Sto) : (lev pr k).1 "law" args st = runF 7 (t_law (lev pr (k - 1)).1 (lev pr (k - 1)).2.1 (lev pr (k - 1)).2.2) args st := step_of (d := d_law) (B := t_law) (by kernel_rfl) e_law hk args st
def betw (x : PV) (a b : Int) : Bool := match x with
  | .int i => decide (a ≤ i) && decide (i ≤ b)
  | _ => false
def isI : PV → Bool
  | .int _ => true
  | _ => false
theorem p_is_whole_number {h k : Nat} (hk : 1 ≤ k) {x : PV} (hx : Ph h x) (st : Sto) : (lev pr k).1 "is_whole_number" [x] st = .ok (.bl (isI x)) st := by
  rw [s_is_whole_number hk]
  cases hx <;> dsimp! [t_is_whole_number, isI]
theorem p_is_between {h k : Nat} (hk : 2 ≤ k) {x : PV} (hx : Ph h x) (a b : Int) (st : Sto) : (lev pr k).1 "is_between" [x, .int a, .int b] st = .ok (.bl (betw x a b)) st := by
  rw [s_is_between (by omega)]
  have e : frz x = x := hx.frz
  dsimp! [t_is_between, e, p_is_whole_number (k := k - 1) (by omega) hx]
  cases hx <;> dsimp! [isI, betw]
  rename_i i
  by_cases h : a ≤ i <;> dsimp! [h]
theorem p_is_below {h k : Nat} (hk : 3 ≤ k) {x : PV} (hx : Ph h x) (b : Int) (st : Sto) : (lev pr k).1 "is_below" [x, .int b] st = .ok (.bl (betw x 0 (b - 1))) st := by
  rw [s_is_below (by omega)]
  have e : frz x = x := hx.frz
  dsimp! [t_is_below, e, p_is_between (k := k - 1) (by omega) hx]
/-- rising -/
def isInc : List Int → Bool
  | a :: b :: r => decide (a < b) && isInc (b :: r)
  | _ => true
theorem inc_rng (ns : List Int) : ((List.range (ns.length - 1)).all fun n => decide (ns.getD n 0 < ns.getD (n + 1) 0)) = isInc ns := by
  induction ns with
  | nil => rfl
  | cons a r ih =>
    cases r with
    | nil => rfl
    | cons b r =>
      rw [isInc, ← ih]
      simp only [List.length_cons, Nat.add_sub_cancel]
      rw [List.range_succ_eq_map, List.all_cons, List.all_map]
      rfl
def risB (x : PV) (b : Int) : Bool := match x with
  | .tup xs => (xs.all fun y => betw y 0 (b - 1)) && match intsP xs with
    | some ns => isInc ns
    | none => false
  | _ => false
theorem ints_of {xs : List PV} {a b : Int} (h : (xs.all fun y => betw y a b) = true) : ∃ ns : List Int, xs = ns.map .int ∧ ∀ n ∈ ns, a ≤ n ∧ n ≤ b := by
  induction xs with
  | nil => exact ⟨[], rfl, by simp⟩
  | cons x xs ih =>
    rw [List.all_cons, Bool.and_eq_true] at h
    obtain ⟨ns, rfl, h2⟩ := ih h.2
    cases x with
    | int i =>
      refine ⟨i :: ns, rfl, fun n hn => ?_⟩
      rcases List.mem_cons.mp hn with rfl | hn
      · simpa [betw] using h.1
      · exact h2 n hn
    | _ => exact absurd h.1 (by simp [betw])
theorem p_is_rising {h k : Nat} (hk : 4 ≤ k) {x : PV} (hx : Ph h x) (b : Int) (st : Sto) (hz : ∀ xs, x = .tup xs → xs.length ≤ 8388608) : (lev pr k).1 "is_rising" [x, .int b] st = .ok (.bl (risB x b)) st := by
  rw [s_is_rising (by omega)]
  cases hx with
  | tup xs t =>
    rename_i h
    have e1 : lcL none xs (bName 3) dYes (dCall ((lev pr (k - 1)).1 "is_below") (dCons (dV 3) (dCons (dV 1) dNil))) [some (.tup xs), some (.int b), none, none] xs [] st = .ok (.tl (xs.map fun y => .bl (betw y 0 (b - 1)))) st := by
      have := lcL_yes (all := xs) (bt := bName 3) (elt := dCall ((lev pr (k - 1)).1 "is_below") (dCons (dV 3) (dCons (dV 1) dNil))) (env := [some (.tup xs), some (.int b), none, none]) (st := st) (g := fun y => y) (e := fun y => [some (.tup xs), some (.int b), none, some (frz y)]) (f := fun y => .bl (betw y 0 (b - 1))) xs fun y hy => ⟨by rfl, by
        have e : frz y = y := (t y hy).frz
        dsimp! [e, p_is_below (k := k - 1) (by omega) (t y hy)]⟩
      simpa using this
    have e2 := allP_map (st := st) (fun y => betw y 0 (b - 1)) xs
    cases q : xs.all fun y => betw y 0 (b - 1) with
    | false =>
      rw [q] at e2
      simp only [risB, q]
      dsimp! [t_is_rising, e1, e2]
    | true =>
      rw [q] at e2
      obtain ⟨ns, rfl, h2⟩ := ints_of q
      have hl : ns.length ≤ 8388608 := by simpa using hz _ rfl
      have e3 : lcL none ((List.range (ns.length - 1)).map fun (k : Nat) => PV.int (1 + (k : Int))) (bName 2) dYes (d2 ltP (d2 ixP (dV 0) (d2 subP (dV 2) (dC (.int 1)))) (d2 ixP (dV 0) (dV 2))) [some (.tup (ns.map .int)), some (.int b), none, none] ((List.range (ns.length - 1)).map fun (k : Nat) => PV.int (1 + (k : Int))) [] st = .ok (.tl ((List.range (ns.length - 1)).map fun n => .bl (decide (ns.getD n 0 < ns.getD (n + 1) 0)))) st := by
        have := lcL_yes (all := (List.range (ns.length - 1)).map fun (k : Nat) => PV.int (1 + (k : Int))) (bt := bName 2) (elt := d2 ltP (d2 ixP (dV 0) (d2 subP (dV 2) (dC (.int 1)))) (d2 ixP (dV 0) (dV 2))) (env := [some (.tup (ns.map .int)), some (.int b), none, none]) (st := st) (g := fun (k : Nat) => PV.int (1 + (k : Int)))
          (e := fun k => [some (.tup (ns.map .int)), some (.int b), some (.int (1 + (k : Int))), none]) (f := fun n => .bl (decide (ns.getD n 0 < ns.getD (n + 1) 0))) (List.range (ns.length - 1)) fun n hn => ⟨by rfl, by
            have hn := List.mem_range.mp hn
            have a1 := atI_ints (ns := ns) (i := 1 + (n : Int) - 1) (n := n) (by omega) (by omega)
            have a2 := atI_ints (ns := ns) (i := 1 + (n : Int)) (n := n + 1) (by omega) (by omega)
            dsimp! [ixP_tup, a1, a2]⟩
        simpa using this
      have e4 := allP_map (st := st) (fun n => decide (ns.getD n 0 < ns.getD (n + 1) 0)) (List.range (ns.length - 1))
      rw [inc_rng] at e4
      have e5 := rng2_1 (st := st) hl
      simp only [risB, q]
      dsimp! [t_is_rising, e1, e2, intsP_ints, e5, e3, e4]
  | _ => dsimp! [t_is_rising, risB]
def lenB (x : PV) (a b : Int) : Bool := match x with
  | .tup xs => decide (a ≤ (xs.length : Int)) && decide ((xs.length : Int) ≤ b)
  | _ => false
def schB (x : PV) : Bool := risB x 24 && lenB x 1 8
theorem ris_tup {x : PV} {b : Int} (h : risB x b = true) : ∃ ns : List Int, x = .tup (ns.map .int) ∧ isInc ns = true ∧ ∀ n ∈ ns, 0 ≤ n ∧ n ≤ b - 1 := by
  cases x with
  | tup xs =>
    simp only [risB, Bool.and_eq_true] at h
    obtain ⟨ns, rfl, h2⟩ := ints_of h.1
    refine ⟨ns, rfl, ?_, h2⟩
    have := h.2
    rw [intsP_ints] at this
    exact this
  | _ => simp [risB] at h
theorem p_is_scheme {h k : Nat} (hk : 5 ≤ k) {x : PV} (hx : Ph h x) (st : Sto) (hz : ∀ xs, x = .tup xs → xs.length ≤ 8388608) : (lev pr k).1 "is_scheme" [x] st = .ok (.bl (schB x)) st := by
  rw [s_is_scheme (by omega)]
  have e : frz x = x := hx.frz
  have e1 := p_is_rising (k := k - 1) (by omega) hx 24 st hz
  cases q : risB x 24 with
  | false =>
    rw [q] at e1
    dsimp! [t_is_scheme, e, e1, schB, q]
  | true =>
    rw [q] at e1
    obtain ⟨ns, rfl, -, -⟩ := ris_tup q
    dsimp! [t_is_scheme, e1, schB, q, lenB]
    by_cases h1 : (1 : Int) ≤ (ns.length : Int) <;> dsimp! [h1]
theorem p_has_size {h k : Nat} (hk : 1 ≤ k) {x : PV} (hx : Ph h x) (st : Sto) : (lev pr k).1 "has_size" [x] st = .ok (.bl (lenB x 1 12)) st := by
  rw [s_has_size (by omega)]
  cases hx <;> dsimp! [t_has_size, lenB]
  rename_i xs _
  by_cases h1 : (1 : Int) ≤ (xs.length : Int) <;> dsimp! [h1]
def oI : Option Int → PV
  | none => .non
  | some i => .int i
/-- the first that is no scheme -/
def wrongB (xs : List PV) : Option Int := (List.range xs.length).findSome? fun n => if schB (xs.getD n .non) = true then none else some (n : Int)
theorem p_first_wrong {h k : Nat} (hk : 6 ≤ k) {xs : List PV} (t : ∀ x ∈ xs, Ph h x) (st : Sto) (hz : ∀ x ∈ xs, ∀ ys, x = .tup ys → ys.length ≤ 8388608) : (lev pr k).1 "first_wrong" [.tup xs] st = .ok (oI (wrongB xs)) st := by
  rw [s_first_wrong (by omega)]
  have hl := forL_search (all := enumL xs 0) (bt := bTup 2 (bCons (bName 1) (bCons (bName 2) bNil))) (body := sCons (sIf (dNotT (dTru truP (dCall ((lev pr (k - 1)).1 "is_scheme") (dCons (dV 2) dNil)))) (sCons (sRet (dV 1)) sNil) sNil) sNil) (st := st) (g := fun n : Nat => PV.tup [.int (n : Int), frz (xs.getD n .non)])
    (fun n => if schB (xs.getD n .non) = true then none else some (n : Int)) .int (fun env => ∃ o1 o2, env = [some (.tup xs), o1, o2]) (List.range xs.length) (by
      rintro n hn env ⟨o1, o2, rfl⟩
      have hn := List.mem_range.mp hn
      have hm : xs.getD n .non ∈ xs := getD_mem hn
      have e : frz (xs.getD n .non) = xs.getD n .non := (t _ hm).frz
      have e1 := p_is_scheme (k := k - 1) (by omega) (t _ hm) st (hz _ hm)
      refine ⟨[some (.tup xs), some (.int (n : Int)), some (xs.getD n .non)], by dsimp! [e], ?_⟩
      cases q : schB (xs.getD n .non) with
      | true =>
        rw [q] at e1
        dsimp! [e, e1]
        exact ⟨_, rfl, _, _, rfl⟩
      | false =>
        rw [q] at e1
        dsimp! [e, e1]) [some (.tup xs), none, none] ⟨_, _, rfl⟩
  rw [← enumL_0] at hl
  cases q : wrongB xs with
  | none =>
    unfold wrongB at q
    rw [q] at hl
    obtain ⟨e, h3, o1, o2, rfl⟩ := hl
    dsimp! [t_first_wrong, enI, h3, oI]
  | some i =>
    unfold wrongB at q
    rw [q] at hl
    dsimp only at hl
    dsimp! [t_first_wrong, enI, hl, oI]
/-- what is no book: the error -/
def bookE (x : PV) : Option Int := match x with
  | .tup xs => if lenB x 1 12 = true then wrongB xs else some (-1)
  | _ => some (-1)
theorem p_made_book {h k : Nat} (hk : 7 ≤ k) {x : PV} (hx : Ph h x) (st : Sto) (hz : ∀ xs, x = .tup xs → ∀ y ∈ xs, ∀ ys, y = .tup ys → ys.length ≤ 8388608) : (lev pr k).1 "made_book" [x] st = match bookE x with
    | none => .ok x st
    | some i => .ex "BadBook" (.int i) st := by
  rw [s_made_book (by omega)]
  have e : frz x = x := hx.frz
  have e1 := p_has_size (k := k - 1) (by omega) hx st
  cases q : lenB x 1 12 with
  | false =>
    rw [q] at e1
    have e2 : bookE x = some (-1) := by
      unfold bookE
      cases x <;> simp [q]
    rw [e2]
    dsimp! [t_made_book, e, e1]
  | true =>
    rw [q] at e1
    cases hx with
    | tup xs t =>
      have e3 := p_first_wrong (k := k - 1) (by omega) t st fun y hy ys h => hz xs rfl y hy ys h
      have e2 : bookE (.tup xs) = wrongB xs := by simp [bookE, q]
      rw [e2]
      cases w : wrongB xs with
      | none =>
        rw [w] at e3
        dsimp! [t_made_book, e1, e3, oI]
      | some i =>
        rw [w] at e3
        dsimp! [t_made_book, e1, e3, oI]
    | _ => simp [lenB] at q
/-- a right book of so many sources -/
structure BookOk (bk : PV) (n : Nat) : Prop where
  ex : ∃ xs, bk = .tup xs ∧ xs.length = n
  n1 : 1 ≤ n
  n12 : n ≤ 12
  ok : bookE bk = none
  ph : Ph 2 bk
  hz : ∀ xs, bk = .tup xs → ∀ y ∈ xs, ∀ ys, y = .tup ys → ys.length ≤ 8388608
theorem BookOk.made {bk : PV} {n k : Nat} (b : BookOk bk n) (hk : 7 ≤ k) (st : Sto) : (lev pr k).1 "made_book" [bk] st = .ok bk st := by
  rw [p_made_book hk b.ph st b.hz, b.ok]
theorem BookOk.len {bk : PV} {n : Nat} (b : BookOk bk n) (st : Sto) : lenP st [bk] = some (.int (n : Int)) := by
  obtain ⟨xs, rfl, rfl⟩ := b.ex
  rfl
theorem BookOk.frz {bk : PV} {n : Nat} (b : BookOk bk n) : Bb.frz bk = bk := b.ph.frz
theorem p_pool {k : Nat} (hk : 1 ≤ k) (ns : List Int) (i : Nat) (hi : i ≤ 1000) (st : Sto) : ∃ a b : Int, 0 ≤ a ∧ 0 ≤ b ∧ b < 2147483647 ∧ (lev pr k).1 "_law_pool" [.ro (ns.map .int), .int (i : Int)] st = .ok (.tl [.int a, .int b]) st := by
  rw [s__law_pool (by omega)]
  have ev1 : ∀ c : Int, ∃ q : Int, 0 ≤ q ∧ (if -1 - c > c then -1 - c else c) = q := fun c => ⟨_, by split <;> omega, rfl⟩
  have c1 : (-18446744073709551616 < (7919 : Int) ∧ (7919 : Int) < 18446744073709551616) ∨ (-18446744073709551616 < (i : Int) ∧ (i : Int) < 18446744073709551616) := .inl (by omega)
  have c2 : (-18446744073709551616 < (7919 * i : Int) ∧ (7919 * i : Int) < 18446744073709551616) ∨ (-18446744073709551616 < (i : Int) ∧ (i : Int) < 18446744073709551616) := .inr (by omega)
  have c3 : (-18446744073709551616 < (31 : Int) ∧ (31 : Int) < 18446744073709551616) ∨ (-18446744073709551616 < (i : Int) ∧ (i : Int) < 18446744073709551616) := .inl (by omega)
  have c4 : ∀ x : Int, (-18446744073709551616 < x ∧ x < 18446744073709551616) ∨ (-18446744073709551616 < (48271 : Int) ∧ (48271 : Int) < 18446744073709551616) := fun x => .inr (by omega)
  have c5 : ∀ x : Int, (-18446744073709551616 < x ∧ x < 18446744073709551616) ∨ (-18446744073709551616 < (1 : Int) ∧ (1 : Int) < 18446744073709551616) := fun x => .inr (by omega)
  have d5 : ∀ x : Int, (-18446744073709551616 < x ∧ x < 18446744073709551616) ∨ (-18446744073709551616 < (0 : Int) ∧ (0 : Int) < 18446744073709551616) := fun x => .inr (by omega)
  have c6 : (0 : Int) < 2147483629 := by omega
  have c7 : (0 : Int) < 2147483647 := by omega
  have hq : ∀ x : Int, 0 ≤ x % 2147483647 ∧ x % 2147483647 < 2147483647 := fun x => ⟨Int.emod_nonneg _ (by decide), Int.emod_lt_of_pos _ (by decide)⟩
  have e0 : ∀ s : Sto, eqP true s (.ro (ns.map .int)) (.tl []) = some (.bl ((ns == []) != true)) := fun s => eqP_lst (ms := []) rfl rfl
  have last : ∀ x : Int, 0 ≤ x → ∀ b : Bool, 0 ≤ x * (if b = true then 1 else 0 : Int) := fun x hx b => by cases b <;> simp [hx]
  by_cases h : i < ns.length
  · have h1 : decide ((i : Int) < (ns.length : Int)) = true := by rw [decide_eq_true_eq]; omega
    have e1 := atI_ints (ns := ns) (i := (i : Int)) (n := i) rfl h
    obtain ⟨q, q0, hb⟩ := ev1 (ns.getD i 0)
    by_cases hg : (1000000000000000000 : Int) ≤ q
    · refine ⟨_, _, last q q0 true, (hq ((q % 2147483629 + 7919 * i * i + 31 * i + 17) * 48271)).1, (hq _).2, ?_⟩
      dsimp! [t__law_pool, h1, ixP_ro, e1, hb, c1, c2, c3, c4, c5, d5, c6, c7, pow1018, hg]
    · refine ⟨_, _, last q q0 false, (hq ((q % 2147483629 + 7919 * i * i + 31 * i + 17) * 48271)).1, (hq _).2, ?_⟩
      dsimp! [t__law_pool, h1, ixP_ro, e1, hb, c1, c2, c3, c4, c5, d5, c6, c7, pow1018, decide_eq_false hg]
  · have h1 : decide ((i : Int) < (ns.length : Int)) = false := by rw [decide_eq_false_iff_not]; omega
    by_cases hn : ns = []
    · have hne : (ns == []) = true := by rw [hn]; rfl
      obtain ⟨q, q0, hb⟩ := ev1 0
      by_cases hg : (1000000000000000000 : Int) ≤ q
      · refine ⟨_, _, last q q0 false, (hq ((q % 2147483629 + 7919 * i * i + 31 * i + 17) * 48271)).1, (hq _).2, ?_⟩
        dsimp! [t__law_pool, h1, e0, hne, hb, c1, c2, c3, c4, c5, d5, c6, c7, pow1018, hg]
      · refine ⟨_, _, last q q0 false, (hq ((q % 2147483629 + 7919 * i * i + 31 * i + 17) * 48271)).1, (hq _).2, ?_⟩
        dsimp! [t__law_pool, h1, e0, hne, hb, c1, c2, c3, c4, c5, d5, c6, c7, pow1018, decide_eq_false hg]
    · have hne : (ns == []) = false := by rw [beq_eq_false_iff_ne]; exact hn
      obtain ⟨q, q0, hb⟩ := ev1 (ns.getD 0 0)
      have e1 := atI_ints (ns := ns) (i := 0) (n := 0) rfl (List.length_pos_iff.mpr hn)
      by_cases hg : (1000000000000000000 : Int) ≤ q
      · refine ⟨_, _, last q q0 false, (hq ((q % 2147483629 + 7919 * i * i + 31 * i + 17) * 48271)).1, (hq _).2, ?_⟩
        dsimp! [t__law_pool, h1, e0, hne, ixP_ro, e1, hb, c1, c2, c3, c4, c5, d5, c6, c7, pow1018, hg]
      · refine ⟨_, _, last q q0 false, (hq ((q % 2147483629 + 7919 * i * i + 31 * i + 17) * 48271)).1, (hq _).2, ?_⟩
        dsimp! [t__law_pool, h1, e0, hne, ixP_ro, e1, hb, c1, c2, c3, c4, c5, d5, c6, c7, pow1018, decide_eq_false hg]
theorem p_take {j k : Nat} (hk : 1 ≤ k) {st : Sto} (hj : Jr j st) {m : Int} (h0 : 0 < m) (h1 : m < 1073741824) : ∃ r st', (lev pr k).1 "_law_take" [.loc j, .int m] st = .ok (.int r) st' ∧ 0 ≤ r ∧ r < m ∧ Js j st st' := by
  rw [s__law_take (by omega)]
  obtain ⟨a, b, ha, hb, hb2, he⟩ := hj.ex
  have hl := hj.lt
  have i0 : ∀ {a b : Int} {s : Sto}, s[j]? = some (jar a b) → ixP s (.loc j) (.int 0) = some (.int a) := fun h => by rw [ixP_loc h, atI_0]; rfl
  have i1 : ∀ {a b : Int} {s : Sto}, s[j]? = some (jar a b) → ixP s (.loc j) (.int 1) = some (.int b) := fun h => by rw [ixP_loc h, atI_1]; rfl
  have i0' := i0 he
  have i1' := i1 he
  by_cases ha0 : 0 < a
  · refine ⟨a % m, st.set j (jar (a / m) b), ?_, Int.emod_nonneg _ (by omega), Int.emod_lt_of_pos _ h0, a / m, b, Int.ediv_nonneg ha (by omega), hb, hb2, rfl⟩
    have e1 : setP st (.loc j) (.int 0) (.int (a / m)) = some (st.set j (jar (a / m) b)) := setP_at (k := 0) he rfl (by simp)
    dsimp! [t__law_take, i0', ha0, h0, h1, e1]
  · have hq : 0 ≤ (b * 39373 + 7) % 2147483647 ∧ (b * 39373 + 7) % 2147483647 < 2147483647 := ⟨Int.emod_nonneg _ (by decide), Int.emod_lt_of_pos _ (by decide)⟩
    generalize hb' : (b * 39373 + 7) % 2147483647 = b' at hq
    refine ⟨(b' * b') % 2147483629 / 32 % m, st.set j (jar a b'), ?_, Int.emod_nonneg _ (by omega), Int.emod_lt_of_pos _ h0, a, b', ha, hq.1, hq.2, rfl⟩
    have e1 : setP st (.loc j) (.int 1) (.int b') = some (st.set j (jar a b')) := setP_at (k := 1) he rfl (by simp)
    have e2 : (st.set j (jar a b'))[j]? = some (jar a b') := List.getElem?_set_self hl
    have e3 := i1 e2
    have c1 : (-18446744073709551616 < b ∧ b < 18446744073709551616) ∨ (-18446744073709551616 < (39373 : Int) ∧ (39373 : Int) < 18446744073709551616) := .inr (by omega)
    have c2 : (-18446744073709551616 < b' ∧ b' < 18446744073709551616) ∨ (-18446744073709551616 < b' ∧ b' < 18446744073709551616) := .inr (by omega)
    have c3 : (0 : Int) < 2147483647 := by decide
    have c4 : (0 : Int) < 2147483629 := by decide
    have c5 : (0 : Int) < 32 ∧ (32 : Int) < 1073741824 := by decide
    dsimp! [t__law_take, i0', i1', decide_eq_false ha0, c1, c3, hb', e1, e3, c2, c4, c5, h0]
/-- values that may stand in lists that are drawn from -/
def Fz (x : PV) : Prop := frz x = x ∧ ∀ m, clo m x = true
theorem Fz.int (i : Int) : Fz (.int i) := ⟨rfl, fun _ => by simp [clo]⟩
theorem Fz.ph {h : Nat} {x : PV} (p : Ph h x) : Fz x := ⟨p.frz, fun _ => p.clo⟩
theorem Fz.clos {xs : List PV} (h : ∀ x ∈ xs, Fz x) (m : Nat) : Bb.clos m xs = true := clos_all.mpr fun x hx => (h x hx).2 m
theorem p_one {j k : Nat} (hk : 2 ≤ k) {st : Sto} (hj : Jr j st) {y : PV} {xs : List PV} (hy : Lk j st y xs) (hx : xs ≠ []) (hl : xs.length < 1000000) : ∃ x st', (lev pr k).1 "_law_one" [.loc j, y] st = .ok (frz x) st' ∧ x ∈ xs ∧ Js j st st' := by
  rw [s__law_one (by omega)]
  have hp := List.length_pos_iff.mpr hx
  obtain ⟨r, st', e1, h1, h2, h3⟩ := p_take (k := k - 1) (by omega) hj (m := (xs.length : Int)) (by omega) (by omega)
  obtain ⟨n, rfl⟩ := Int.eq_ofNat_of_zero_le h1
  have e2 := atI_nat (xs := xs) (i := (n : Int)) (n := n) rfl (by omega)
  have e3 := fun v => hj.same h3 _ rfl v
  have e4 := hy.len
  have e5 := (hy.js h3).ix (i := (n : Int))
  have e6 := hy.frz
  refine ⟨xs[n], st', ?_, List.getElem_mem _, h3⟩
  dsimp! [t__law_one, e6, e4, e1, e5, e2, e3]
theorem p_mixed {j k : Nat} (hk : 2 ≤ k) {st : Sto} (hj : Jr j st) {y : PV} {xs : List PV} (hy : Lk j st y xs) (hf : ∀ x ∈ xs, frz x = x ∧ clo st.length x = true) (hl : xs.length < 1000000) : ∃ ys st', (lev pr k).1 "_law_mixed" [.loc j, y] st = .ok (.tl ys) st' ∧ ys.Perm xs ∧ Js j st st' := by
  rw [s__law_mixed (by omega)]
  have hr := fun s : Sto => rng1_ok (st := s) (n := xs.length) (by omega)
  have hlen : (st ++ [MO.lst xs]).length = st.length + 1 := by simp
  have e1 := hy.lst
  have e2 := ((hy.app [.lst xs]).app [.lst []]).len
  have e3 := hy.frz
  have cx : ∀ m, st.length ≤ m → ∀ zs : List PV, (∀ z ∈ zs, z ∈ xs) → cloM m (.lst zs) = true := fun m hm zs hz => clos_all.mpr fun z h => clo_le hm z (hf z (hz z h)).2
  have o0 : Own j st [.lst xs, .lst []] (st ++ [.lst xs] ++ [.lst []]) := ((Own.nil hj).push (cx _ (by omega) xs fun _ h => h)).push cloM_nil
  dsimp! [t__law_mixed, e3, e1, hlen, e2, hr]
  generalize hF : forL none _ _ _ _ _ _ = X
  have h := for_st (g := fun (k : Nat) => PV.int (k : Int)) (l := List.range xs.length) hF (fun l env s => ∃ o left found, env = [some (.loc j), some y, o, some (.loc st.length), some (.loc (st.length + 1))] ∧ Own j st [.lst left, .lst found] s ∧ (left ++ found).Perm xs ∧ left.length = l.length)
    (fun r => ∃ o ys s, r = .nx [some (.loc j), some y, o, some (.loc st.length), some (.loc (st.length + 1))] s ∧ Own j st [.lst [], .lst ys] s ∧ ys.Perm xs)
    ⟨none, xs, [], rfl, o0, by simp, by simp⟩
    (by
      rintro env s ⟨o, left, found, rfl, h1, h2, h3⟩
      have : left = [] := List.length_eq_zero_iff.mp (by simpa using h3)
      subst this
      exact ⟨o, found, s, rfl, h1, by simpa using h2⟩) (by rintro ⟨_, _, _, h, _⟩; cases h)
    (by
      rintro a l env s ⟨o, left, found, rfl, h1, h2, h3⟩ J K hJ hK
      have hlen : left.length + found.length = xs.length := by rw [← List.length_append]; exact h2.length_eq
      have hmem : ∀ x ∈ left ++ found, x ∈ xs := fun x hx => h2.mem_iff.mp hx
      obtain ⟨r, s2, t1, r0, r1, g1⟩ := p_take (k := k - 1) (by omega) (h1.jr hj) (m := (left.length : Int)) (by simp only [List.length_cons] at h3; omega) (by omega)
      obtain ⟨n, rfl⟩ := Int.eq_ofNat_of_zero_le r0
      have hn : n < left.length := by omega
      have h1' := h1.js hj g1
      have hin : left[n] ∈ xs := hmem _ (List.mem_append_left _ (List.getElem_mem hn))
      have l0 := lenP_loc (h1.at (n := st.length) (i := 0) rfl rfl)
      have c0 := h1.loc (n := st.length) (i := 0) rfl rfl
      have c1 := h1.loc (n := st.length + 1) (i := 1) rfl rfl
      have e2 := popP_at (v := left[n]) (h1'.at (n := st.length) (i := 0) rfl rfl) (i := (n : Int)) rfl (by omega) (List.getElem?_eq_getElem hn)
      have h2' := h1'.set (n := st.length) (i := 0) (x := .lst (left.eraseIdx n)) rfl (by simp) (cx _ (by simp) _ fun z hz => hmem z (List.mem_append_left _ (List.mem_of_mem_eraseIdx hz)))
      have hfz : frz left[n] = left[n] := (hf _ hin).1
      obtain ⟨e3, h3'⟩ := h2'.append (n := st.length + 1) (i := 1) rfl rfl (v := left[n]) (by omega) (clo_le (by simp) _ (hf _ hin).2)
      dsimp! [oZ_s, c1, c0, l0, t1, e2, hfz, e3, LpQ]
      refine hJ _ _ ⟨_, left.eraseIdx n, found ++ [left[n]], rfl, h3', ?_, ?_⟩
      · have p1 : (left[n] :: left.eraseIdx n).Perm left := perm_erase hn
        have p2 : (left.eraseIdx n ++ (found ++ [left[n]])).Perm (left[n] :: left.eraseIdx n ++ found) := by
          rw [← List.append_assoc]
          exact List.perm_append_comm
        exact p2.trans ((p1.append_right found).trans h2)
      · rw [List.length_eraseIdx_of_lt hn, h3]
        simp)
  obtain ⟨o, ys, s, rfl, h1, h2⟩ := h
  obtain ⟨s1, ec, k1⟩ := h1.cutL hj (n := st.length + 1) (i := 1) rfl rfl (clos_all.mpr fun z hz => (hf z (h2.mem_iff.mp hz)).2)
  refine ⟨ys, s1, ?_, h2, k1⟩
  dsimp! [ec]
/-- columns below some bound, drawn: a scheme -/
theorem inc_of {ns : List Int} (h : ns.Pairwise (· < ·)) : isInc ns = true := by
  induction ns with
  | nil => rfl
  | cons a r ih =>
    cases r with
    | nil => rfl
    | cons b r =>
      rw [List.pairwise_cons] at h
      simp only [isInc, Bool.and_eq_true, decide_eq_true_eq]
      exact ⟨h.1 b List.mem_cons_self, ih h.2⟩
theorem ris_of {ns : List Int} {b : Int} (h : isInc ns = true) (hm : ∀ n ∈ ns, 0 ≤ n ∧ n < b) : risB (.tup (ns.map .int)) b = true := by
  simp only [risB, intsP_ints, h, Bool.and_true]
  rw [List.all_map, List.all_eq_true]
  intro n hn
  have := hm n hn
  simp [betw]
  omega
def SchOk (x : PV) (b most : Int) : Prop := ∃ ns : List Int, x = .tup (ns.map .int) ∧ isInc ns = true ∧ (∀ n ∈ ns, 0 ≤ n ∧ n < b) ∧ 1 ≤ ns.length ∧ (ns.length : Int) ≤ most
theorem nodup_rng (n : Nat) : ((List.range n).map fun (k : Nat) => (k : Int)).Nodup := by
  rw [List.nodup_iff_pairwise_ne, List.pairwise_map]
  exact (List.nodup_range (n := n)).imp fun h e => h (by omega)
theorem rng_comp {bt : BT} {elt : D} {env : En} {st : Sto} {n : Nat} {all : List PV} (e : Nat → En) (h : ∀ k : Nat, bt (.int (k : Int)) env = some (e k) ∧ elt (e k) st = .ok (.int (k : Int)) st) : lcL none all bt dYes elt env ((List.range n).map fun (k : Nat) => PV.int (k : Int)) [] st = .ok (.tl (((List.range n).map fun (k : Nat) => (k : Int)).map .int)) st := by
  rw [lcL_yes (e := e) (f := fun (k : Nat) => PV.int (k : Int)) (List.range n) fun a _ => h a, List.map_map]
  rfl
theorem p_scheme {j k : Nat} (hk : 3 ≤ k) {st : Sto} (hj : Jr j st) {wide most : Nat} (hw : 1 ≤ wide ∧ wide ≤ 1000) (hm : 1 ≤ most ∧ most ≤ 1000) : ∃ x st', (lev pr k).1 "_law_scheme" [.loc j, .int (wide : Int), .int (most : Int)] st = .ok x st' ∧ SchOk x wide most ∧ Js j st st' := by
  rw [s__law_scheme (by omega)]
  have hr := fun s : Sto => rng1_ok (st := s) (n := wide) (by omega)
  have hc := rng_comp (all := (List.range wide).map fun (k : Nat) => PV.int (k : Int)) (bt := bName 4) (elt := dV 4) (env := [some (.loc j), some (.int (wide : Int)), some (.int (most : Int)), none, none]) (st := st) (n := wide) (fun k => [some (.loc j), some (.int (wide : Int)), some (.int (most : Int)), none, some (.int (k : Int))]) fun k => ⟨by dsimp! [], by dsimp! []⟩
  obtain ⟨ys, s1, e1, h1, h2⟩ := p_mixed (k := k - 1) (by omega) hj (y := .fl (((List.range wide).map fun (k : Nat) => (k : Int)).map .int)) (.inr (.inl rfl)) (fun x hx => by
    obtain ⟨i, _, rfl⟩ := List.mem_map.mp hx
    exact ⟨rfl, clo_int⟩) (by simp; omega)
  obtain ⟨ms, rfl, h3⟩ := perm_ints h1
  obtain ⟨r, s2, e2, r0, r1, h4⟩ := p_take (k := k - 1) (by omega) (h2.jr hj) (m := (most : Int)) (by omega) (by omega)
  obtain ⟨n, rfl⟩ := Int.eq_ofNat_of_zero_le r0
  have e3 : cutP (ms.map .int) none (some (1 + (n : Int))) = (ms.take (n + 1)).map PV.int := by
    rw [cutP_take' (by omega), ← List.map_take]
    congr 2
    omega
  have e4 := fun s : Sto => srtA_ints (st := s) (y := .fl ((ms.take (n + 1)).map .int)) (ns := ms.take (n + 1)) rfl
  have e5 := fun v => hj.same (h2.trans h4) _ rfl v
  have hnd : (ms.take (n + 1)).Nodup := ((h3.nodup_iff).mpr (nodup_rng wide)).sublist (List.take_sublist _ _)
  have hlen : ms.length = wide := by rw [h3.length_eq]; simp
  refine ⟨.tup ((srt (ms.take (n + 1))).map .int), s2, ?_, ⟨_, rfl, inc_of (srt_lt hnd), fun i hi => ?_, ?_, ?_⟩, h2.trans h4⟩
  · dsimp! [t__law_scheme, hr, hc, e1, e2, e3, e4, e5]
  · have := h3.mem_iff.mp (List.mem_of_mem_take (mem_srt.mp hi))
    simp at this
    omega
  · rw [len_srt, List.length_take]
    omega
  · rw [len_srt, List.length_take]
    omega
theorem SchOk.ph {x : PV} {b most : Int} (h : SchOk x b most) : Ph 1 x := by
  obtain ⟨ns, rfl, _⟩ := h
  exact .tup _ fun y hy => by
    obtain ⟨i, _, rfl⟩ := List.mem_map.mp hy
    exact .int i
theorem SchOk.sch {x : PV} {b most : Int} (h : SchOk x b most) (hb : b ≤ 24) (hm : most ≤ 8) : schB x = true := by
  obtain ⟨ns, rfl, h1, h2, h3, h4⟩ := h
  unfold schB
  rw [ris_of h1 fun n hn => ⟨(h2 n hn).1, by have := (h2 n hn).2; omega⟩]
  simp [lenB]
  omega
theorem book_of {xs : List PV} {b most : Int} (h : ∀ x ∈ xs, SchOk x b most) (hb : b ≤ 24) (hm : most ≤ 8) (h1 : 1 ≤ xs.length) (h2 : xs.length ≤ 12) : BookOk (.tup xs) xs.length where
  ex := ⟨xs, rfl, rfl⟩
  n1 := h1
  n12 := h2
  ok := by
    have e : lenB (.tup xs) 1 12 = true := by simp [lenB]; omega
    simp only [bookE, e, if_true]
    unfold wrongB
    rw [List.findSome?_eq_none_iff]
    intro n hn
    rw [if_pos ((h _ (getD_mem (List.mem_range.mp hn))).sch hb hm)]
  ph := .tup _ fun x hx => (h x hx).ph
  hz := fun ys e y hy zs ez => by
    cases e
    obtain ⟨ns, rfl, h1, h2, h3, h4⟩ := h y hy
    cases ez
    rw [List.length_map]
    omega
theorem p_loose_book {j k : Nat} (hk : 4 ≤ k) {st : Sto} (hj : Jr j st) {wide most : Nat} (hw : 1 ≤ wide ∧ wide ≤ 24) (hm : 1 ≤ most ∧ most ≤ 12) : ∃ x n st', (lev pr k).1 "_law_loose_book" [.loc j, .int (most : Int), .int (wide : Int)] st = .ok x st' ∧ BookOk x n ∧ n ≤ most ∧ (∃ xs, x = .tup xs ∧ ∀ y ∈ xs, SchOk y wide 3) ∧ Js j st st' := by
  rw [s__law_loose_book (by omega)]
  obtain ⟨r, s1, e1, r0, r1, h1⟩ := p_take (k := k - 1) (by omega) hj (m := (most : Int)) (by omega) (by omega)
  obtain ⟨n, rfl⟩ := Int.eq_ofNat_of_zero_le r0
  have hr := fun s : Sto => rng1_ok (st := s) (n := 1 + n) (by omega)
  have hcast : ((1 + n : Nat) : Int) = 1 + (n : Int) := by omega
  rw [hcast] at hr
  obtain ⟨vs, s2, e2, h2, h3, h4⟩ := lcL_ex (all := (List.range (1 + n)).map fun (k : Nat) => PV.int (k : Int)) (bt := bName 3) (elt := dCall ((lev pr (k - 1)).1 "_law_scheme") (dCons (dV 0) (dCons (dV 2) (dCons (dC (.int 3)) dNil)))) (env := [some (.loc j), some (.int (most : Int)), some (.int (wide : Int)), none]) (g := fun (k : Nat) => PV.int (k : Int)) (Js j st) (fun y => SchOk y wide 3) (fun a s hs => by
    obtain ⟨x, s', k1, k2, k3⟩ := p_scheme (k := k - 1) (by omega) (hs.jr hj) (wide := wide) (most := 3) ⟨hw.1, by omega⟩ (by omega)
    refine ⟨[some (.loc j), some (.int (most : Int)), some (.int (wide : Int)), some (.int (a : Int))], x, s', by dsimp! [], ?_, hs.trans k3, ?_⟩
    · dsimp! []
      exact k1
    · rw [k2.ph.frz]
      exact k2) (List.range (1 + n)) [] s1 h1
  have hlen : vs.length = 1 + n := by rw [h3]; simp
  have hb := book_of h4 (by omega) (by omega) (by omega) (by omega)
  have e5 := fun v => hj.same h2 _ rfl v
  rw [List.nil_append] at e2
  refine ⟨.tup vs, vs.length, s2, ?_, hb, by omega, ⟨vs, rfl, h4⟩, h2⟩
  dsimp! [t__law_loose_book, e1, hr, e2, e5]
/-- what is told, or the refusal -/
def wd (s : String) (w : PV) : PV := .tup [.str s, w]
theorem dAct_ap {i : Nat} {lv : PV} {act : Sto → R PV} {env : En} {st : Sto} (h : env[i]? = some (some lv)) : dAct i lv act env st = act st := by simp [dAct, h]
theorem hXW_ap {s : String} {c : Str} {w : PV} {env : En} {st : Sto} : hXW s c w env st = .rt (wd s w) st := rfl
theorem clR_t {sb : Str → Str → Option Bool} {c x : Str} {w : PV} {env : En} {st : Sto} {i : Option Nat} {h : Str → PV → DS} {r : List HC} (e : sb c x = some true) : clR sb c w env st ((x, i, h) :: r) = offR i (h c w (clr i env) st) := by simp [clR, e]
theorem clR_f {sb : Str → Str → Option Bool} {c x : Str} {w : PV} {env : En} {st : Sto} {i : Option Nat} {h : Str → PV → DS} {r : List HC} (e : sb c x = some false) : clR sb c w env st ((x, i, h) :: r) = clR sb c w env st r := by simp [clR, e]
theorem offR_rt {i : Option Nat} {v : PV} {st : Sto} : offR i (.rt v st) = .rt v st := rfl
theorem same_of {x : PV} {st : Sto} (h : ∃ h n, h ≤ 60 ∧ n ≤ 16000000 ∧ Sm h n x) : ∃ z, reprP st [x] = some (.str z) ∧ ∀ neg, eqP neg st (.str z) (.str z) = some (.bl (true != neg)) := by
  obtain ⟨h, n, h1, h2, s⟩ := h
  obtain ⟨z, e1, e2, e3⟩ := s.same (by omega) (by omega) st
  exact ⟨z, e1, fun neg => by cases neg; exact e3 st; exact e2 st⟩
theorem zero_eq : ((0 : Int) == 0) = true := rfl
/-- schemes as numbers -/
def scP (s : List Int) : PV := .tup (s.map .int)
def bkP (bs : List (List Int)) : PV := .tup (bs.map scP)
structure GB (bs : List (List Int)) : Prop where
  n1 : 1 ≤ bs.length
  n12 : bs.length ≤ 12
  ok : ∀ s ∈ bs, isInc s = true ∧ (∀ i ∈ s, 0 ≤ i ∧ i < 24) ∧ 1 ≤ s.length ∧ s.length ≤ 8
theorem GB.sch {bs : List (List Int)} (g : GB bs) : ∀ y ∈ bs.map scP, SchOk y 24 8 := fun y hy => by
  obtain ⟨s, hs, rfl⟩ := List.mem_map.mp hy
  obtain ⟨h1, h2, h3, h4⟩ := g.ok s hs
  exact ⟨s, rfl, h1, h2, h3, by omega⟩
theorem GB.book {bs : List (List Int)} (g : GB bs) : BookOk (bkP bs) bs.length := by
  have := book_of g.sch (by omega) (by omega) (by rw [List.length_map]; exact g.n1) (by rw [List.length_map]; exact g.n12)
  rw [List.length_map] at this
  exact this
theorem gb_of {xs : List PV} {b most : Int} (h : ∀ y ∈ xs, SchOk y b most) (hb : b ≤ 24) (hm : most ≤ 8) : ∃ bs : List (List Int), xs = bs.map scP ∧ ∀ s ∈ bs, isInc s = true ∧ (∀ i ∈ s, 0 ≤ i ∧ i < 24) ∧ 1 ≤ s.length ∧ s.length ≤ 8 := by
  induction xs with
  | nil => exact ⟨[], rfl, by simp⟩
  | cons x xs ih =>
    obtain ⟨bs, rfl, h2⟩ := ih fun y hy => h y (List.mem_cons_of_mem _ hy)
    obtain ⟨s, rfl, h3, h4, h5, h6⟩ := h x List.mem_cons_self
    refine ⟨s :: bs, rfl, fun t ht => ?_⟩
    rcases List.mem_cons.mp ht with rfl | ht
    · exact ⟨h3, fun i hi => ⟨(h4 i hi).1, by have := (h4 i hi).2; omega⟩, h5, by omega⟩
    · exact h2 t ht
theorem at_bk {bs : List (List Int)} {i : Nat} (h : i < bs.length) : atI (bs.map scP) (i : Int) = some (scP (bs.getD i [])) := by
  refine atI_some rfl ?_
  rw [List.getElem?_map, List.getElem?_eq_getElem h]
  simp [List.getElem?_eq_getElem h]
def common (a b : List Int) : List Int := a.filter fun c => b.contains c
theorem com_loop {bs : List (List Int)} {i j : Nat} (hi : i < bs.length) (hj : j < bs.length) (st : Sto) : lcL none ((bs.getD i []).map .int) (bName 3) (dTru asB (d2 (inP false) (dV 3) (d2 ixP (dV 0) (dV 2)))) (dV 3) [some (bkP bs), some (.int (i : Int)), some (.int (j : Int)), none] ((bs.getD i []).map .int) [] st = .ok (.tl ((common (bs.getD i []) (bs.getD j [])).map .int)) st := by
  have := lcL_mapA (all := (bs.getD i []).map .int) (bt := bName 3) (tst := dTru asB (d2 (inP false) (dV 3) (d2 ixP (dV 0) (dV 2)))) (elt := dV 3) (env := [some (bkP bs), some (.int (i : Int)), some (.int (j : Int)), none]) (st := st) (g := PV.int) (e := fun c => [some (bkP bs), some (.int (i : Int)), some (.int (j : Int)), some (.int c)]) (p := fun c => (bs.getD j []).contains c) (f := fun c => .int c) (bs.getD i []) [] fun c _ => by
    have e1 := at_bk hj
    have e2 := inP_ints (neg := false) (st := st) (i := c) (y := scP (bs.getD j [])) (ns := bs.getD j []) rfl
    have e3 : frz (scP (bs.getD j [])) = scP (bs.getD j []) := rfl
    unfold bkP
    refine ⟨rfl, by dsimp! [ixP_tup, e1, e3, e2], fun _ => by dsimp! []⟩
  rw [List.nil_append] at this
  exact this
theorem p_shared_of {k : Nat} (hk : 1 ≤ k) {bs : List (List Int)} {i j : Nat} (hi : i < bs.length) (hj : j < bs.length) (st : Sto) : (lev pr k).1 "shared_of" [bkP bs, .int (i : Int), .int (j : Int)] st = .ok (scP (common (bs.getD i []) (bs.getD j []))) st := by
  rw [s_shared_of (by omega)]
  have e1 := at_bk hi
  have e2 := com_loop hi hj st
  have e3 : ∀ s, frz (scP s) = scP s := fun s => rfl
  have e4 : ∀ s st, seqI st (scP s) = some (s.map .int, none) := fun s st => rfl
  unfold bkP at e2 ⊢
  dsimp! [t_shared_of, ixP_tup, e1, e3, e4, e2]
  rfl
def nearB (bs : List (List Int)) (i j : Nat) : Bool := (i : Int) != (j : Int) && common (bs.getD i []) (bs.getD j []) != []
theorem neT {st : Sto} (s : List Int) : eqP true st (scP s) (.tup []) = some (.bl (s != [])) := by
  have := eqP_tpl (neg := true) (st := st) (ns := s) (ms := [])
  have e : (s != []) = ((s == []) != true) := by
    unfold bne
    cases (s == []) <;> rfl
  rw [e]
  exact this
theorem p_are_neighbours {k : Nat} (hk : 2 ≤ k) {bs : List (List Int)} {i j : Nat} (hi : i < bs.length) (hj : j < bs.length) (st : Sto) : (lev pr k).1 "are_neighbours" [bkP bs, .int (i : Int), .int (j : Int)] st = .ok (.bl (nearB bs i j)) st := by
  rw [s_are_neighbours (by omega)]
  have e1 := p_shared_of (k := k - 1) (by omega) hi hj st
  have e2 : frz (bkP bs) = bkP bs := rfl
  have e3 := neT (st := st) (common (bs.getD i []) (bs.getD j []))
  unfold nearB
  cases q : ((i : Int) == (j : Int)) with
  | true =>
    have q2 : ((i : Int) != (j : Int)) = false := by simp [bne, q]
    dsimp! [t_are_neighbours, q, q2, e2]
  | false =>
    have q2 : ((i : Int) != (j : Int)) = true := by simp [bne, q]
    dsimp! [t_are_neighbours, q, q2, e2, e1, e3]
theorem betw_nat {i n : Nat} (h : i < n) : betw (.int (i : Int)) 0 ((n : Int) - 1) = true := by simp [betw]; omega
/-! ### the law's own look -/
theorem eq_tl_nil {neg : Bool} {st : Sto} {hs ns : Nat} {xs : List PV} (h : ∀ x ∈ xs, Sm hs ns x) (hb : hs ≤ 60) : eqP neg st (.tl xs) (.tl []) = some (.bl (xs.isEmpty != neg)) := by
  obtain ⟨ds, h1, h2, h3, h4, h5, h6⟩ := (Sms.all h).ex
  have e1 : pd st (.tl xs) = some (.list ds) := by simp [pd, asL, asM, h1]
  have e2 : pd st (.tl []) = some (.list []) := rfl
  unfold eqP
  rw [e1, e2]
  have s1 : SeqAt.shaped (.list ds) = true := by
    simp [SeqAt.shaped, PyData.canLay0, h3, PyData.depth]
    omega
  have s2 : SeqAt.shaped (.list []) = true := by decide +kernel
  have e3 : PyData.eqv (.list ds) (.list []) = xs.isEmpty := by
    cases xs with
    | nil =>
      cases h1
      simp [PyData.eqv, PyData.eqvAll]
    | cons x xs =>
      cases ds with
      | nil =>
        simp only [pds0] at h1
        split at h1 <;> cases h1
      | cons d ds => simp [PyData.eqv, PyData.eqvAll]
  simp only [s1, s2, and_self, if_true, e3]
theorem cutP_drop {xs : List PV} {i : Int} {n : Nat} (h : i = (n : Int)) : cutP xs (some i) none = xs.drop n := by
  subst h
  unfold cutP
  rw [HT.sIx_none, HT.sIx_nat]
  by_cases hn : n ≤ xs.length
  · rw [Nat.min_eq_left hn, List.take_of_length_le (by rw [List.length_drop]; exact Nat.le_refl _)]
  · rw [Nat.min_eq_right (by omega), Nat.sub_self, List.take_zero, List.drop_eq_nil_of_le (by omega)]
theorem eq_tup_nil {st : Sto} {hs ns : Nat} {xs : List PV} (h : ∀ x ∈ xs, Sm hs ns x) (hb : hs ≤ 60) : eqP true st (.tup xs) (.tup []) = some (.bl (!xs.isEmpty)) := by
  obtain ⟨ds, h1, h2, h3, h4, h5, h6⟩ := (Sms.all h).ex
  have e1 : pd st (.tup xs) = some (.tuple ds) := by
    unfold pd
    simp [asL, asM, pd0, h1]
  have e2 : pd st (.tup []) = some (.tuple []) := rfl
  unfold eqP
  rw [e1, e2]
  have s1 : SeqAt.shaped (.tuple ds) = true := by
    simp [SeqAt.shaped, PyData.canLay0, h3, PyData.depth]
    omega
  have s2 : SeqAt.shaped (.tuple []) = true := by decide +kernel
  have e3 : PyData.eqv (.tuple ds) (.tuple []) = xs.isEmpty := by
    cases xs with
    | nil =>
      cases h1
      simp [PyData.eqv, PyData.eqvAll]
    | cons x xs =>
      cases ds with
      | nil =>
        simp only [pds0] at h1
        split at h1 <;> cases h1
      | cons d ds => simp [PyData.eqv, PyData.eqvAll]
  simp only [s1, s2, and_self, if_true, e3]
  cases xs.isEmpty <;> rfl
theorem gb_mk {xs : List PV} {b most : Int} (h : ∀ y ∈ xs, SchOk y b most) (hb : b ≤ 24) (hm : most ≤ 8) (h1 : 1 ≤ xs.length) (h2 : xs.length ≤ 12) : ∃ bs, PV.tup xs = bkP bs ∧ GB bs := by
  obtain ⟨bs, rfl, ok⟩ := gb_of h hb hm
  rw [List.length_map] at h1 h2
  exact ⟨bs, rfl, h1, h2, ok⟩
theorem frz_sc {s : List Int} : frz (scP s) = scP s := rfl
theorem frz_bk {bs : List (List Int)} : frz (bkP bs) = bkP bs := rfl
/-! ### what stands in some lists, each once -/
def itP (x : Bool × List Int) : PV := if x.1 = true then .tup (x.2.map .int) else .fl (x.2.map .int)
theorem itP_frz (x : Bool × List Int) : frz (itP x) = itP x := by unfold itP; split <;> rfl
theorem itP_seq (x : Bool × List Int) (s : Sto) : seqI s (itP x) = some (x.2.map .int, none) := by unfold itP; split <;> rfl
def risL (ls : List (List Int)) : List Int := ls.foldl (fun a s => a ++ s.filter fun x => !a.contains x) []
def risF (a : List Int) (ls : List (List Int)) : List Int := ls.foldl (fun a s => a ++ s.filter fun x => !a.contains x) a
theorem risF_len {a : List Int} {ls : List (List Int)} : (risF a ls).length ≤ a.length + (ls.map List.length).sum := by
  induction ls generalizing a with
  | nil => simp [risF]
  | cons s ls ih =>
    have h := ih (a := a ++ s.filter fun x => !a.contains x)
    have h2 := List.length_filter_le (fun x => !a.contains x) s
    simp only [List.length_append, List.map_cons, List.sum_cons] at h ⊢
    show (risF (a ++ s.filter fun x => !a.contains x) ls).length ≤ _
    omega
theorem risF_mem {ls : List (List Int)} {a : List Int} {c : Int} : c ∈ risF a ls ↔ c ∈ a ∨ ∃ s ∈ ls, c ∈ s := by
  induction ls generalizing a with
  | nil => simp [risF]
  | cons s ls ih =>
    show c ∈ risF (a ++ s.filter fun x => !a.contains x) ls ↔ _
    rw [ih]
    simp only [List.mem_append, List.mem_filter, List.mem_cons, exists_eq_or_imp]
    by_cases h : c ∈ a <;> simp [h]
theorem risF_nodup {ls : List (List Int)} {a : List Int} (ha : a.Nodup) (h : ∀ s ∈ ls, s.Nodup) : (risF a ls).Nodup := by
  induction ls generalizing a with
  | nil => exact ha
  | cons s ls ih =>
    refine ih (a := a ++ s.filter fun x => !a.contains x) ?_ fun t ht => h t (List.mem_cons_of_mem _ ht)
    rw [List.nodup_append]
    refine ⟨ha, (h s List.mem_cons_self).filter _, fun x hx y hy e => ?_⟩
    subst e
    have := (List.mem_filter.mp hy).2
    simp [hx] at this
theorem clos_ints' {m : Nat} {ns : List Int} : clos m (ns.map .int) = true := clos_ints m ns
theorem p_rising {j k : Nat} (hk : 1 ≤ k) {st : Sto} (hj : Jr j st) {y : PV} {its : List (Bool × List Int)} (hy : y = .tup (its.map itP) ∨ y = .fl (its.map itP)) (hl : ((its.map (·.2)).map List.length).sum ≤ 1000) :
    ∃ st', (lev pr k).1 "_law_rising" [y] st = .ok (scP (srt (risL (its.map (·.2))))) st' ∧ Js j st st' := by
  rw [s__law_rising (by omega)]
  have hsq : ∀ s : Sto, seqI s y = some (its.map itP, none) := by rcases hy with rfl | rfl <;> exact fun _ => rfl
  have hfr : frz y = y := by rcases hy with rfl | rfl <;> rfl
  dsimp! [t__law_rising, hfr, hsq]
  generalize hF : forL none _ _ _ _ _ _ = X
  have h := for_st hF (fun l env s => ∃ (o : Option PV) (a : List Int), env = [some y, some (.loc st.length), o, none] ∧ Own j st [.lst (a.map .int)] s ∧ risF a (l.map (·.2)) = risL (its.map (·.2)) ∧ a.length + ((l.map (·.2)).map List.length).sum ≤ 1000)
    (fun r => ∃ o s, r = .nx [some y, some (.loc st.length), o, none] s ∧ Own j st [.lst ((risL (its.map (·.2))).map .int)] s)
    ⟨none, [], rfl, by exact (Own.nil hj).push cloM_nil, rfl, by simpa using hl⟩
    (by
      rintro env s ⟨o, a, rfl, h1, h2, h3⟩
      have : a = risL (its.map (·.2)) := h2
      rw [this] at h1
      exact ⟨o, s, rfl, h1⟩) (by rintro ⟨_, _, h, _⟩; cases h)
    (by
      rintro x l env s ⟨o, a, rfl, h1, h2, h3⟩ J K hJ hK
      simp only [List.map_cons, List.sum_cons] at h3
      have hat := h1.at (n := st.length) (i := 0) rfl rfl
      have hlc : ∀ o, lcL none (x.2.map PV.int) (bName 3) (dTru asB (d2 (inP true) (dV 3) (dV 1))) (dV 3) [some y, some (.loc st.length), o, none] (x.2.map PV.int) [] s = .ok (.tl ((x.2.filter fun c => !a.contains c).map .int)) s := fun o => by
        rw [lc_fil (g := PV.int) (p := fun c => !a.contains c) (f := .int)]
        · rfl
        · intro c hc
          have := inP_ints (neg := true) (st := s) (i := c) (asS_at hat)
          dsimp! [oR_s, this]
        · intro c hc _
          dsimp! [oR_s]
      have hfl := List.length_filter_le (fun c => !a.contains c) x.2
      obtain ⟨e1, o1⟩ := h1.extend (n := st.length) (i := 0) rfl rfl (y := .fl ((x.2.filter fun c => !a.contains c).map .int)) rfl (by simp only [List.length_map]; omega) (clos_ints _ _)
      have hlo := h1.loc (n := st.length) (i := 0) rfl rfl
      dsimp! [oZ_s, itP_frz, itP_seq, hlo, hlc, e1, LpQ]
      refine hJ _ _ ⟨_, a ++ x.2.filter fun c => !a.contains c, rfl, by rw [List.map_append]; exact o1, h2, ?_⟩
      rw [List.length_append]
      omega)
  obtain ⟨o, s, rfl, h1⟩ := h
  have e1 := fun ns : List Int => srtA_ints (st := s) (y := .loc st.length) (ns := ns)
  have e2 := e1 _ (asS_at (h1.at (n := st.length) (i := 0) rfl rfl))
  obtain ⟨s1, ec, k1⟩ := h1.cutV hj (v := scP (srt (risL (its.map (·.2))))) (clo_tup fun x hx => by
    obtain ⟨i, _, rfl⟩ := List.mem_map.mp hx
    exact clo_int) (fun _ z => nomatch z) (fun _ z => nomatch z)
  change cutR _ (.tup _) _ = _ at ec
  refine ⟨s1, ?_, k1⟩
  dsimp! [e2, ec]
/-- a good scheme out of unlike columns -/
theorem sch_srt {ns : List Int} {b m : Int} (h1 : ns.Nodup) (h2 : ∀ c ∈ ns, 0 ≤ c ∧ c < b) (h3 : 1 ≤ ns.length) (h4 : (ns.length : Int) ≤ m) : SchOk (scP (srt ns)) b m :=
  ⟨srt ns, rfl, inc_of (srt_lt h1), fun c hc => h2 c (mem_srt.mp hc), by rw [len_srt]; exact h3, by rw [len_srt]; exact h4⟩
theorem inc_pw {s : List Int} (h : isInc s = true) : s.Pairwise (· < ·) := by
  induction s with
  | nil => exact .nil
  | cons a r ih =>
    cases r with
    | nil => exact .cons (fun _ h => nomatch h) .nil
    | cons b r =>
      rw [isInc, Bool.and_eq_true, decide_eq_true_eq] at h
      have t := ih h.2
      refine .cons (fun c hc => ?_) t
      rcases List.mem_cons.mp hc with rfl | hc
      · exact h.1
      · have := (List.pairwise_cons.mp t).1 c hc
        omega
theorem inc_nodup {s : List Int} (h : isInc s = true) : s.Nodup := (inc_pw h).imp fun h => by omega
theorem p_hung_book {j k : Nat} (hk : 4 ≤ k) {st : Sto} (hj : Jr j st) {wide most : Nat} (hw : 1 ≤ wide ∧ wide ≤ 24) (hm : 1 ≤ most ∧ most ≤ 12) : ∃ bs st', (lev pr k).1 "_law_hung_book" [.loc j, .int (most : Int), .int (wide : Int)] st = .ok (bkP bs) st' ∧ GB bs ∧ bs.length ≤ most ∧ Js j st st' := by
  rw [s__law_hung_book (by omega)]
  obtain ⟨x0, s0, t0, hx0, g0⟩ := p_scheme (k := k - 1) (by omega) hj (wide := wide) (most := 3) (by omega) (by omega)
  have t0' : (lev pr (k - 1)).1 "_law_scheme" [.loc j, .int (wide : Int), .int 3] st = .ok x0 s0 := t0
  have f0 := hx0.ph.frz
  have sl0 := g0.len
  have j0 := g0.jr hj
  have wk : ∀ {x : PV}, SchOk x wide 3 → SchOk x 24 8 := fun ⟨ns, h1, h2, h3, h4, h5⟩ => ⟨ns, h1, h2, fun n hn => ⟨(h3 n hn).1, by have := (h3 n hn).2; omega⟩, h4, by omega⟩
  have o0 : Own j st [.lst [x0]] (s0 ++ [.lst [x0]]) := ((Own.nil hj).js hj g0).push (by simp only [cloM, clos, hx0.ph.clo, Bool.and_true])
  obtain ⟨r, s1, t1, r0, r1, g1⟩ := p_take (k := k - 1) (by omega) (o0.jr hj) (m := (most : Int)) (by omega) (by omega)
  obtain ⟨n, rfl⟩ := Int.eq_ofNat_of_zero_le r0
  have o1 := o0.js hj g1
  have hr := fun s : Sto => rng1_ok (st := s) (n := n) (by omega)
  dsimp! [t__law_hung_book, t0', f0, sl0, t1, hr]
  generalize hF : forL none _ _ _ _ _ _ = X
  have h := for_st (g := fun (k : Nat) => PV.int (k : Int)) (l := List.range n) hF (fun l env s => ∃ o4 o5 xs, env = [some (.loc j), some (.int (most : Int)), some (.int (wide : Int)), some (.loc st.length), o4, o5] ∧ Own j st [.lst xs] s ∧ xs.length + l.length = 1 + n ∧ 1 ≤ xs.length ∧ ∀ x ∈ xs, SchOk x wide 3)
    (fun r => ∃ o4 o5 xs s, r = .nx [some (.loc j), some (.int (most : Int)), some (.int (wide : Int)), some (.loc st.length), o4, o5] s ∧ Own j st [.lst xs] s ∧ xs.length = 1 + n ∧ ∀ x ∈ xs, SchOk x wide 3)
    ⟨_, _, [x0], rfl, o1, by simp, by simp, by simpa using hx0⟩
    (by
      rintro env s ⟨o4, o5, xs, rfl, h1, h2, _, h3⟩
      exact ⟨_, _, xs, s, rfl, h1, by simpa using h2, h3⟩) (by rintro ⟨_, _, _, _, h, _⟩; cases h)
    (by
      rintro a l env s ⟨o4, o5, xs, rfl, h1, h2, h2', h3⟩ J K hJ hK
      simp only [List.length_cons] at h2
      have hjs := h1.jr hj
      obtain ⟨x, s2, t2, hx, g2⟩ := p_one (k := k - 1) (by omega) hjs (h1.lk hj (n := st.length) (i := 0) rfl rfl) (by intro e; rw [e] at h2'; simp at h2') (by omega)
      have hsx := h3 x hx
      have fx := hsx.ph.frz
      obtain ⟨ns, rfl, n1, n2, n3, n4⟩ := hsx
      have j2 := g2.jr hjs
      obtain ⟨y, s3, t3, hy, g3⟩ := p_one (k := k - 1) (by omega) j2 (y := .tup (ns.map .int)) (.inl rfl) (by intro e; rw [List.map_eq_nil_iff] at e; rw [e] at n3; simp at n3) (by simp; omega)
      obtain ⟨c, hc, rfl⟩ := List.mem_map.mp hy
      have j3 := g3.jr j2
      obtain ⟨z, s4, t4, hz, g4⟩ := p_scheme (k := k - 1) (by omega) j3 (wide := wide) (most := 2) (by omega) (by omega)
      have t4' : (lev pr (k - 1)).1 "_law_scheme" [.loc j, .int (wide : Int), .int 2] s3 = .ok z s4 := t4
      have fz := hz.ph.frz
      obtain ⟨ms, rfl, m1, m2, m3, m4⟩ := hz
      have j4 := g4.jr j3
      obtain ⟨s5, t5, g5⟩ := p_rising (k := k - 1) (by omega) j4 (y := .fl [.fl [.int c], .tup (ms.map .int)]) (its := [(false, [c]), (true, ms)]) (.inr rfl) (by simp; omega)
      have hnd : (risL [[c], ms]).Nodup := risF_nodup .nil fun s hs => by
        simp only [List.mem_cons, List.not_mem_nil, or_false] at hs
        rcases hs with rfl | rfl
        · simp
        · exact inc_nodup m1
      have hlen : (risL [[c], ms]).length ≤ 3 := by
        have := risF_len (a := []) (ls := [[c], ms])
        simp at this
        have e : risL [[c], ms] = risF [] [[c], ms] := rfl
        rw [e]
        omega
      have hsch : SchOk (scP (srt (risL [[c], ms]))) wide 3 := sch_srt hnd (fun d hd => by
        rcases risF_mem.mp hd with h | ⟨s, hs, h⟩
        · cases h
        · simp only [List.mem_cons, List.not_mem_nil, or_false] at hs
          rcases hs with rfl | rfl
          · rw [List.mem_singleton.mp h]; exact n2 c hc
          · exact m2 d h) (List.length_pos_iff.mpr fun e => by
        have : c ∈ risL [[c], ms] := risF_mem.mpr (.inr ⟨[c], by simp, by simp⟩)
        rw [e] at this
        cases this) (by omega)
      have gg := ((g2.trans g3).trans g4).trans g5
      have o5' := h1.js hj gg
      obtain ⟨e6, o6⟩ := o5'.append (n := st.length) (i := 0) rfl rfl (v := scP (srt (risL [[c], ms]))) (by omega) hsch.ph.clo
      have hlo := h1.loc (n := st.length) (i := 0) rfl rfl
      have hlo2 : isLoc s3 (.loc st.length) = true := (h1.js hj (g2.trans g3)).loc (n := st.length) (i := 0) rfl rfl
      dsimp! [oZ_s, t2, fx, t3, hlo2, t4', fz, t5, frz_sc, e6, LpQ]
      refine hJ _ _ ⟨_, _, xs ++ [scP (srt (risL [[c], ms]))], rfl, o6, by simp; omega, by simp, fun x hx => ?_⟩
      rcases List.mem_append.mp hx with hx | hx
      · exact h3 x hx
      · rw [List.mem_singleton.mp hx]; exact hsch)
  obtain ⟨o4, o5, xs, s, rfl, h1, h2, h3⟩ := h
  obtain ⟨bs, hbs, g⟩ := gb_mk (fun y hy => wk (h3 y hy)) (by omega) (by omega) (by omega) (by omega)
  have hln : bs.length = xs.length := by
    have : xs = bs.map scP := by injection hbs
    rw [this, List.length_map]
  have et := tupP_at (h1.at (n := st.length) (i := 0) rfl rfl)
  obtain ⟨s1, ec, k1⟩ := h1.cutV hj (v := .tup xs) (clo_tup fun x hx => (h3 x hx).ph.clo) (fun _ z => nomatch z) (fun _ z => nomatch z)
  refine ⟨bs, s1, ?_, g, by omega, k1⟩
  rw [← hbs]
  dsimp! [et, ec]
/-! ### books without a ring, glued two by two -/
def flB (bs : List (List Int)) : PV := .fl (bs.map scP)
theorem frz_fl {bs : List (List Int)} : frz (flB bs) = flB bs := rfl
theorem fl_ln {bs : List (List Int)} {st : Sto} : lenP st [flB bs] = some (.int (bs.length : Int)) := by simp [flB, lenP_fl]
theorem ix_fl {bs : List (List Int)} {i : Nat} (h : i < bs.length) {st : Sto} : ixP st (flB bs) (.int (i : Int)) = some (scP (bs.getD i [])) := by
  unfold flB
  rw [ixP_fl, at_bk h]
  rfl
theorem sc_seq {s : List Int} {st : Sto} : seqI st (scP s) = some (s.map .int, none) := rfl
theorem in_sc {neg : Bool} {c : Int} {s : List Int} {st : Sto} : inP neg st (.int c) (scP s) = some (.bl (s.contains c != neg)) := inP_ints rfl
def hasL (bs : List (List Int)) (c : Int) : List Int := ((List.range bs.length).filter fun j => (bs.getD j []).contains c).map fun (j : Nat) => (j : Int)
def rowP (bs : List (List Int)) (c : Int) : PV := .tup [.int c, scP (hasL bs c)]
theorem p_fellow {k : Nat} (hk : 1 ≤ k) {bs : List (List Int)} {i : Nat} (hi : i < bs.length) (hn : bs.length ≤ 1000) (st : Sto) : (lev pr k).1 "_law_fellow_columns" [flB bs, .int (i : Int)] st = .ok (.tl ((bs.getD i []).map (rowP bs))) st := by
  rw [s__law_fellow_columns (by omega)]
  have i1 := fun s : Sto => ix_fl hi (st := s)
  have hr := fun s : Sto => rng1_ok (st := s) (n := bs.length) (by omega)
  dsimp! [t__law_fellow_columns, frz_fl, i1, sc_seq]
  rw [lc_map (g := PV.int) (f := rowP bs)]
  · dsimp! []
    rfl
  · intro c hc
    dsimp! [oR_s, frz_fl, fl_ln, hr]
    rw [lc_fil (p := fun j => (bs.getD j []).contains c) (f := fun (j : Nat) => .int (j : Int))]
    · dsimp! []
      simp [rowP, scP, hasL]
    · intro j hj
      have hj := List.mem_range.mp hj
      have i2 := fun s : Sto => ix_fl hj (st := s)
      dsimp! [oR_s, frz_fl, i2, in_sc]
    · intro j hj _
      dsimp! [oR_s]
theorem eq_sc {neg : Bool} {a b : List Int} {st : Sto} : eqP neg st (scP a) (scP b) = some (.bl ((a == b) != neg)) := eqP_tpl
theorem row0 {bs : List (List Int)} {c : Int} {st : Sto} : ixP st (rowP bs c) (.int 0) = some (.int c) := by
  unfold rowP
  rw [ixP_tup, atI_0]
  rfl
theorem row1 {bs : List (List Int)} {c : Int} {st : Sto} : ixP st (rowP bs c) (.int 1) = some (scP (hasL bs c)) := by
  unfold rowP
  rw [ixP_tup, atI_1]
  rfl
theorem row_frz {bs : List (List Int)} {c : Int} : frz (rowP bs c) = rowP bs c := rfl
theorem p_same {j k : Nat} (hk : 3 ≤ k) {bs : List (List Int)} (h1 : 1 ≤ bs.length) (hn : bs.length ≤ 1000) (hs : ∀ s ∈ bs, s.Nodup ∧ 1 ≤ s.length ∧ s.length ≤ 3) {st : Sto} (hj : Jr j st) :
    ∃ (ns : List Int) (st' : Sto), (lev pr k).1 "_law_same_columns" [.loc j, flB bs] st = .ok (.tl (ns.map .int)) st' ∧ ns.Nodup ∧ 1 ≤ ns.length ∧ ns.length ≤ 3 ∧ (∀ c ∈ ns, ∃ s ∈ bs, c ∈ s) ∧ Js j st st' := by
  rw [s__law_same_columns (by omega)]
  obtain ⟨r, s1, t1, r0, r1, g1⟩ := p_take (k := k - 1) (by omega) hj (m := (bs.length : Int)) (by omega) (by omega)
  obtain ⟨i, rfl⟩ := Int.eq_ofNat_of_zero_le r0
  have hi : i < bs.length := by omega
  have hb : bs.getD i [] ∈ bs := getD_mem hi
  obtain ⟨n0, n1, n2⟩ := hs _ hb
  have t2 := p_fellow (k := k - 1) (by omega) hi hn s1
  have j1 := g1.jr hj
  obtain ⟨x, s2, t3, hx, g2⟩ := p_one (k := k - 1) (by omega) j1 (y := .fl ((bs.getD i []).map (rowP bs))) (.inr (.inl rfl)) (by intro e; rw [List.map_eq_nil_iff] at e; rw [e] at n1; simp at n1) (by simp only [List.length_map]; omega)
  obtain ⟨c, hc, rfl⟩ := List.mem_map.mp hx
  have j2 := g2.jr j1
  obtain ⟨lot, hlot⟩ : ∃ lot, lot = (bs.getD i []).filter fun d => hasL bs d == hasL bs c := ⟨_, rfl⟩
  have hcl : c ∈ lot := by rw [hlot]; exact List.mem_filter.mpr ⟨hc, by simp⟩
  have hll : lot.length ≤ 3 := by rw [hlot]; exact Nat.le_trans (List.length_filter_le _ _) n2
  obtain ⟨ys, s3, t4, hp, g3⟩ := p_mixed (k := k - 1) (by omega) j2 (y := .fl (lot.map .int)) (.inr (.inl rfl)) (fun x hx => by
    obtain ⟨i, _, rfl⟩ := List.mem_map.mp hx
    exact ⟨rfl, clo_int⟩) (by simp only [List.length_map]; omega)
  obtain ⟨ms, rfl, hp2⟩ := perm_ints hp
  have hml : ms.length = lot.length := hp2.length_eq
  have hm1 : 1 ≤ ms.length := by rw [hml]; exact List.length_pos_iff.mpr fun e => by rw [e] at hcl; cases hcl
  have j3 := g3.jr j2
  obtain ⟨q, s4, t5, q0, q1, g4⟩ := p_take (k := k - 1) (by omega) j3 (m := (ms.length : Int)) (by omega) (by omega)
  obtain ⟨n, rfl⟩ := Int.eq_ofNat_of_zero_le q0
  have gg := ((g1.trans g2).trans g3).trans g4
  have ec := fun v => hj.same gg _ rfl v
  have hlc : ∀ o4, lcL none ((bs.getD i []).map (rowP bs)) (bName 5) (dTru asB (d2 (eqP false) (d2 ixP (dV 5) (dC (.int 1))) (d2 ixP (dV 3) (dC (.int 1))))) (d2 ixP (dV 5) (dC (.int 0))) [some (.loc j), some (flB bs), some (.fl ((bs.getD i []).map (rowP bs))), some (rowP bs c), o4, none] ((bs.getD i []).map (rowP bs)) [] s2 = .ok (.tl (lot.map .int)) s2 := fun o4 => by
    rw [lc_fil (g := rowP bs) (p := fun d => hasL bs d == hasL bs c) (f := .int)]
    · rw [hlot]; rfl
    · intro d hd
      dsimp! [oR_s, row_frz, row1, frz_sc, eq_sc]
    · intro d hd _
      dsimp! [oR_s, row_frz, row0]
  have ecut : cutP (ms.map .int) none (some (1 + (n : Int))) = (ms.take (n + 1)).map PV.int := by
    rw [cutP_take' (by omega), ← List.map_take]
    congr 2
    omega
  refine ⟨ms.take (n + 1), s4, ?_, (hp2.nodup_iff.mpr (by rw [hlot]; exact n0.filter _)).sublist (List.take_sublist _ _), by rw [List.length_take]; omega, by rw [List.length_take]; omega, fun d hd => ⟨_, hb, ?_⟩, gg⟩
  · dsimp! [t__law_same_columns, frz_fl, fl_ln, t1, t2, t3, row_frz, hlc, t4, t5, ecut, ec]
  · have := hp2.mem_iff.mp (List.mem_of_mem_take hd)
    rw [hlot] at this
    exact (List.mem_filter.mp this).1
/-- columns called otherwise -/
def prP (p : Int × Int) : PV := .tup [.int p.1, .int p.2]
def kvP (p : Int × Int) : Key × PV := (.inl p.1, .int p.2)
theorem pairs_pr (ps : List (Int × Int)) : pairs1 (ps.map prP) = some (ps.map kvP) := by
  induction ps with
  | nil => rfl
  | cons p ps ih =>
    simp only [List.map_cons, pairs1, ih, prP, pair1, keyP, Option.map_some, Option.bind_some]
    rfl
theorem valP_put (kvs : List (Key × PV)) (k j : Key) (v : PV) : valP (putP kvs k v) j = if k = j then some v else valP kvs j := by
  unfold putP
  split
  · rename_i h
    induction kvs with
    | nil => simp at h
    | cons x r ih =>
      obtain ⟨a, b⟩ := x
      simp only [List.map_cons]
      by_cases e1 : a = k
      · subst e1
        by_cases e2 : a = j
        · subst e2; simp [valP]
        · rw [if_neg e2]
          have ih2 : valP (r.map fun kv => if kv.1 = a then (kv.1, v) else kv) j = valP r j := by
            by_cases hr : (r.any fun kv => decide (kv.1 = a)) = true
            · rw [ih hr, if_neg e2]
            · have : (r.map fun kv => if kv.1 = a then (kv.1, v) else kv) = r := by
                conv => rhs; rw [← List.map_id r]
                refine List.map_congr_left fun z hz => ?_
                rw [if_neg (fun e => hr (List.any_eq_true.mpr ⟨z, hz, by simpa using e⟩))]
                rfl
              rw [this]
          simp only [if_true]
          unfold valP at ih2 ⊢
          simp only [List.find?_cons, e2, decide_false]
          exact ih2
      · rw [if_neg e1]
        have hr : (r.any fun kv => decide (kv.1 = k)) = true := by simpa [e1] using h
        have ih2 := ih hr
        by_cases e2 : a = j
        · subst e2
          rw [if_neg (fun e => e1 e.symm)]
          simp [valP]
        · unfold valP at ih2 ⊢
          simp only [List.find?_cons, e2, decide_false]
          exact ih2
  · rename_i h
    unfold valP
    rw [List.find?_append]
    by_cases e : k = j
    · subst e
      have : (kvs.find? fun kv => decide (kv.1 = k)) = none := by
        rw [List.find?_eq_none]
        intro z hz hd
        exact h (List.any_eq_true.mpr ⟨z, hz, hd⟩)
      rw [this]
      simp
    · rw [if_neg e]
      cases kvs.find? fun kv => decide (kv.1 = j) <;> simp [e]
theorem valP_merge (ps : List (Int × Int)) (c : Int) : ∀ acc : List (Key × PV), (∃ d, (c, d) ∈ ps ∧ valP (mergeP acc (ps.map kvP)) (.inl c) = some (.int d)) ∨ (∀ d, (c, d) ∉ ps) ∧ valP (mergeP acc (ps.map kvP)) (.inl c) = valP acc (.inl c) := by
  induction ps with
  | nil => exact fun acc => .inr ⟨by simp, rfl⟩
  | cons p ps ih =>
    intro acc
    have e : mergeP acc ((p :: ps).map kvP) = mergeP (putP acc (.inl p.1) (.int p.2)) (ps.map kvP) := rfl
    rw [e]
    rcases ih (putP acc (.inl p.1) (.int p.2)) with ⟨d, h1, h2⟩ | ⟨h1, h2⟩
    · exact .inl ⟨d, List.mem_cons_of_mem _ h1, h2⟩
    · by_cases hc : p.1 = c
      · refine .inl ⟨p.2, by rw [← hc]; exact List.mem_cons_self, ?_⟩
        rw [h2, valP_put, if_pos (by rw [hc])]
      · refine .inr ⟨fun d hd => ?_, ?_⟩
        · rcases List.mem_cons.mp hd with h | h
          · exact hc (by rw [← h])
          · exact h1 d h
        · rw [h2, valP_put, if_neg (fun h => hc (Sum.inl.inj h))]
def phi (ps : List (Int × Int)) (c : Int) : Int := match valP (mergeP [] (ps.map kvP)) (.inl c) with
  | some (.int d) => d
  | _ => c
theorem phi_or (ps : List (Int × Int)) (c : Int) : (∃ d, (c, d) ∈ ps ∧ phi ps c = d ∧ valP (mergeP [] (ps.map kvP)) (.inl c) = some (.int d)) ∨ (∀ d, (c, d) ∉ ps) ∧ phi ps c = c ∧ valP (mergeP [] (ps.map kvP)) (.inl c) = none := by
  rcases valP_merge ps c [] with ⟨d, h1, h2⟩ | ⟨h1, h2⟩
  · exact .inl ⟨d, h1, by simp [phi, h2], h2⟩
  · have e : valP ([] : List (Key × PV)) (.inl c) = none := rfl
    exact .inr ⟨h1, by simp [phi, h2, e], by rw [h2, e]⟩
theorem p_called {j k : Nat} (hk : 1 ≤ k) {bs : List (List Int)} {ps : List (Int × Int)} {st : Sto} (hj : Jr j st) : ∃ st', (lev pr k).1 "_law_called" [flB bs, .fl (ps.map prP)] st = .ok (.tl (bs.map fun s => scP (srt (s.map (phi ps))))) st' ∧ Js j st st' := by
  rw [s__law_called (by omega)]
  have hp : pairsP st (.fl (ps.map prP)) = some (ps.map kvP) := by
    unfold pairsP
    rw [show asL st (.fl (ps.map prP)) = some (ps.map prP) from rfl, Option.bind_some, pairs_pr]
  obtain ⟨D, hD⟩ : ∃ D, D = mergeP [] (ps.map kvP) := ⟨_, rfl⟩
  have hcl : ∀ m, cloM m (.dct D) = true := fun m => by
    simp only [cloM]
    refine clos_all.mpr fun v hv => ?_
    have key : ∀ (ps : List (Int × Int)) (acc : List (Key × PV)), (∀ z ∈ acc, ∃ i, z.2 = .int i) → ∀ z ∈ mergeP acc (ps.map kvP), ∃ i, z.2 = .int i := by
      intro ps
      induction ps with
      | nil => exact fun acc h => h
      | cons p ps ih =>
        intro acc h
        refine ih (putP acc (.inl p.1) (.int p.2)) fun z hz => ?_
        unfold putP at hz
        split at hz
        · obtain ⟨w, hw, rfl⟩ := List.mem_map.mp hz
          split
          · exact ⟨_, rfl⟩
          · exact h w hw
        · rcases List.mem_append.mp hz with hz | hz
          · exact h z hz
          · rw [List.mem_singleton.mp hz]; exact ⟨_, rfl⟩
    obtain ⟨z, hz, rfl⟩ := List.mem_map.mp hv
    rw [hD] at hz
    obtain ⟨i, hi⟩ := key ps [] (fun _ h => nomatch h) z hz
    rw [hi]
    exact clo_int
  have o1 : Own j st [.dct D] (st ++ [.dct D]) := (Own.nil hj).push (hcl _)
  have hat : (st ++ [MO.dct D])[st.length]? = some (.dct D) := o1.at (i := 0) rfl rfl
  have hdc : isDct (st ++ [MO.dct D]) (.loc st.length) = true := by simp [isDct, hat]
  have hg : ∀ c : Int, getP (st ++ [MO.dct D]) (.loc st.length) (.int c) = some (valP D (.inl c)) := fun c => by simp [getP, hat, keyP]
  have hget : ∀ (c : Int), frz ((valP D (.inl c)).getD (.int c)) = .int (phi ps c) := fun c => by
    rw [hD]
    rcases phi_or ps c with ⟨d, _, h2, h3⟩ | ⟨_, h2, h3⟩
    · rw [h3, h2]; rfl
    · rw [h3, h2]; rfl
  have hsq : ∀ s : Sto, seqI s (flB bs) = some (bs.map scP, none) := fun _ => rfl
  obtain ⟨s1, ec, k1⟩ := o1.cutA hj (v := .tl (bs.map fun s => scP (srt (s.map (phi ps))))) (by
    simp only [clo]
    refine clos_all.mpr fun x hx => ?_
    obtain ⟨s, _, rfl⟩ := List.mem_map.mp hx
    exact clo_tup fun y hy => by
      obtain ⟨i, _, rfl⟩ := List.mem_map.mp hy
      exact clo_int) (fun _ z => nomatch z)
  have hdp : sDictP 2 (dCons (dV 1) dNil) [some (flB bs), some (.fl (ps.map prP)), none, none, none] st = .nx [some (flB bs), some (.fl (ps.map prP)), some (.loc st.length), none, none] (st ++ [.dct D]) := by
    rw [sDictP_ap]
    dsimp! []
    rw [hp, hD]
  refine ⟨s1, ?_, k1⟩
  dsimp! [t__law_called, frz_fl, hdp, hsq]
  rw [lc_map (g := scP) (f := fun s => scP (srt (s.map (phi ps))))]
  · dsimp! [frz_sc, ec]
  · intro s hs
    dsimp! [oR_s, frz_sc, sc_seq]
    rw [lc_map (g := PV.int) (f := fun c => .int (phi ps c))]
    · have e := srtA_ints (st := st ++ [MO.dct D]) (y := .fl ((s.map (phi ps)).map .int)) (ns := s.map (phi ps)) rfl
      rw [List.map_map] at e
      have e' : ∀ s' : Sto, srtA s' [.fl (s.map fun c => PV.int (phi ps c))] = some (.tl ((srt (s.map (phi ps))).map .int)) := fun s' => srtA_ints (by rw [List.map_map]; rfl)
      dsimp! [e']
      rfl
    · intro c hc
      rw [show oR (bName 4 (frz (.int c)) [some (flB bs), some (.fl (ps.map prP)), some (.loc st.length), some (scP s), none]) (dGet2 (dV 2) (dV 4) (dV 4)) (st ++ [MO.dct D]) = dGet2 (dV 2) (dV 4) (dV 4) [some (flB bs), some (.fl (ps.map prP)), some (.loc st.length), some (scP s), some (.int c)] (st ++ [MO.dct D]) from rfl, dGet2_ap]
      dsimp! [hdc, hg, hget]
/-- schemes within a range of columns -/
def Gl (bs : List (List Int)) (b e : Nat) : Prop := ∀ s ∈ bs, isInc s = true ∧ 1 ≤ s.length ∧ s.length ≤ 3 ∧ ∀ c ∈ s, (b : Int) ≤ c ∧ c < (e : Int)
theorem flat_flP {bs : List (List Int)} {x : PV} : True := trivial
theorem addP_fl_tl {st : Sto} {a b : List PV} (h : a.length + b.length ≤ 16777216) : addP st (.fl a) (.tl b) = some (.tl (a ++ b)) := by
  show (if a.length + b.length ≤ 16777216 then some (PV.tl (a ++ b)) else none) = _
  rw [if_pos h]
theorem min2 {st : Sto} {i j : Int} : minG st [.int i, .int j] = some (.int (if j < i then j else i)) := Eq.trans rfl rfl
theorem add_range (b w : Nat) : isInc ((List.range w).map fun (c : Nat) => ((b : Int) + (c : Int))) = true := by
  refine inc_of ?_
  rw [List.pairwise_map]
  exact (List.pairwise_lt_range (n := w)).imp fun h => by omega
theorem phi_nodup {ps : List (Int × Int)} {s : List Int} {b m e : Int} (hs : s.Nodup) (hr : ∀ c ∈ s, m ≤ c ∧ c < e) (h2 : ∀ p ∈ ps, b ≤ p.2 ∧ p.2 < m) (hi : ∀ p ∈ ps, ∀ q ∈ ps, p.2 = q.2 → p.1 = q.1) : (s.map (phi ps)).Nodup := by
  rw [List.nodup_iff_pairwise_ne, List.pairwise_map]
  refine List.Pairwise.imp_of_mem (fun {x y} hx hy hne h => hne ?_) hs
  have rx := hr x hx
  have ry := hr y hy
  rcases phi_or ps x with ⟨d, x1, x2, _⟩ | ⟨_, x2, _⟩ <;> rcases phi_or ps y with ⟨d', y1, y2, _⟩ | ⟨_, y2, _⟩
  · rw [x2, y2] at h
    exact hi _ x1 _ y1 h
  · rw [x2, y2] at h
    have := h2 _ x1
    dsimp only at this
    omega
  · rw [x2, y2] at h
    have := h2 _ y1
    dsimp only at this
    omega
  · rw [x2, y2] at h
    exact h
theorem p_glued {j : Nat} : ∀ (n : Nat), 1 ≤ n → n ≤ 12 → ∀ {k : Nat}, n + 4 ≤ k → ∀ {st : Sto}, Jr j st → ∀ (b : Nat), ∃ (bs : List (List Int)) (e : Nat) (st' : Sto), (lev pr k).1 "_law_glued" [.loc j, .int (n : Int), .int (b : Int)] st = .ok (.tup [flB bs, .int (e : Int)]) st' ∧ bs.length = n ∧ b ≤ e ∧ e ≤ b + 3 * n ∧ Gl bs b e ∧ Js j st st' := by
  intro n
  induction n using Nat.strongRecOn with
  | ind n ih =>
    intro hn1 hn k hk st hj b
    rw [s__law_glued (by omega)]
    by_cases h1 : n = 1
    · subst h1
      obtain ⟨r, s1, t1, r0, r1, g1⟩ := p_take (k := k - 1) (by omega) hj (m := 3) (by omega) (by omega)
      obtain ⟨w, rfl⟩ := Int.eq_ofNat_of_zero_le r0
      have hw : ((1 + w : Nat) : Int) = 1 + (w : Int) := by omega
      have hr := fun s : Sto => rng1_ok (st := s) (n := 1 + w) (by omega)
      rw [hw] at hr
      have ec := fun v => hj.same g1 _ rfl v
      have o1 : (((1 : Nat) : Int) == 1) = true := rfl
      refine ⟨[(List.range (1 + w)).map fun (c : Nat) => ((b : Int) + (c : Int))], b + (1 + w), s1, ?_, rfl, by omega, by omega, ?_, g1⟩
      · dsimp! [t__law_glued, o1, t1, hr]
        rw [lc_map (f := fun (c : Nat) => PV.int ((b : Int) + (c : Int)))]
        · dsimp! [ec]
          simp only [flB, scP, List.map_cons, List.map_nil, List.map_map]
          congr 5
        · intro c hc
          dsimp! [oR_s]
      · intro s hs
        rw [List.mem_singleton.mp hs]
        refine ⟨add_range b (1 + w), by simp, by simp; omega, fun c hc => ?_⟩
        obtain ⟨i, hi, rfl⟩ := List.mem_map.mp hc
        have := List.mem_range.mp hi
        omega
    · have o1 : (((n : Nat) : Int) == 1) = false := by rw [beq_eq_false_iff_ne]; omega
      obtain ⟨r, s1, t1, r0, r1, g1⟩ := p_take (k := k - 1) (by omega) hj (m := (n : Int) - 1) (by omega) (by omega)
      obtain ⟨w, rfl⟩ := Int.eq_ofNat_of_zero_le r0
      have j1 := g1.jr hj
      have hlow : ((1 + w : Nat) : Int) = 1 + (w : Int) := by omega
      obtain ⟨b1, e1, s2, t2, l1, p1, p2, G1, g2⟩ := ih (1 + w) (by omega) (by omega) (by omega) (k := k - 1) (by omega) j1 b
      rw [hlow] at t2
      have j2 := g2.jr j1
      have hsz : ((n - (1 + w) : Nat) : Int) = (n : Int) - (1 + (w : Int)) := by omega
      obtain ⟨b2, e2, s3, t3, l2, p3, p4, G2, g3⟩ := ih (n - (1 + w)) (by omega) (by omega) (by omega) (k := k - 1) (by omega) j2 e1
      rw [hsz] at t3
      have j3 := g3.jr j2
      obtain ⟨f1, s4, t4, n1, m1, m1', i1, g4⟩ := p_same (k := k - 1) (by omega) (bs := b1) (by omega) (by omega) (fun s hs => ⟨inc_nodup (G1 s hs).1, (G1 s hs).2.1, (G1 s hs).2.2.1⟩) j3
      have j4 := g4.jr j3
      obtain ⟨f2, s5, t5, n2, m2, m2', i2, g5⟩ := p_same (k := k - 1) (by omega) (bs := b2) (by omega) (by omega) (fun s hs => ⟨inc_nodup (G2 s hs).1, (G2 s hs).2.1, (G2 s hs).2.2.1⟩) j4
      have j5 := g5.jr j4
      obtain ⟨v, hv, hv1, hv2⟩ : ∃ v : Nat, (if (f2.length : Int) < (f1.length : Int) then (f2.length : Int) else (f1.length : Int)) = (v : Int) ∧ v ≤ f1.length ∧ v ≤ f2.length := by
        by_cases h : (f2.length : Int) < (f1.length : Int)
        · rw [if_pos h]; exact ⟨f2.length, rfl, by omega, by omega⟩
        · rw [if_neg h]; exact ⟨f1.length, rfl, by omega, by omega⟩
      obtain ⟨ps, hps⟩ : ∃ ps, ps = (List.range v).map fun i => (f2.getD i 0, f1.getD i 0) := ⟨_, rfl⟩
      obtain ⟨s6, t6, g6⟩ := p_called (k := k - 1) (by omega) (bs := b2) (ps := ps) j5
      have hr := fun s : Sto => rng1_ok (st := s) (n := v) (by omega)
      have gg := ((((g1.trans g2).trans g3).trans g4).trans g5).trans g6
      have ec := fun v => hj.same gg _ rfl v
      have hmin : ∀ s : Sto, minG s [.int (f1.length : Int), .int (f2.length : Int)] = some (.int (v : Int)) := fun s => by rw [min2, hv]
      have hin1 : ∀ i < v, b ≤ f1.getD i 0 ∧ f1.getD i 0 < e1 := fun i hi => by
        obtain ⟨s, hs, hc⟩ := i1 _ (getD_mem (d := 0) (by omega : i < f1.length))
        exact (G1 s hs).2.2.2 _ hc
      have hps2 : ∀ p ∈ ps, (b : Int) ≤ p.2 ∧ p.2 < (e1 : Int) := fun p hp => by
        rw [hps] at hp
        obtain ⟨i, hi, rfl⟩ := List.mem_map.mp hp
        exact hin1 i (List.mem_range.mp hi)
      have hpsi : ∀ p ∈ ps, ∀ q ∈ ps, p.2 = q.2 → p.1 = q.1 := fun p hp q hq h => by
        rw [hps] at hp hq
        obtain ⟨i, hi, rfl⟩ := List.mem_map.mp hp
        obtain ⟨i', hi', rfl⟩ := List.mem_map.mp hq
        have hi := List.mem_range.mp hi
        have hi' := List.mem_range.mp hi'
        have h : f1.getD i 0 = f1.getD i' 0 := h
        have a1 : i < f1.length := by omega
        have a2 : i' < f1.length := by omega
        rw [List.getD_eq_getElem?_getD, List.getD_eq_getElem?_getD, List.getElem?_eq_getElem a1, List.getElem?_eq_getElem a2] at h
        have : i = i' := (List.getElem_inj n1).mp h
        subst this
        rfl
      refine ⟨b1 ++ b2.map fun s => srt (s.map (phi ps)), e2, s6, ?_, by rw [List.length_append, List.length_map, l1, l2]; omega, by omega, by omega, ?_, gg⟩
      · have hlc : ∀ (o : Option PV), lcL none ((List.range v).map fun (k : Nat) => PV.int (k : Int)) (bName 11) dYes (dN (mkT 2) (dCons (d2 ixP (dV 10) (dV 11)) (dCons (d2 ixP (dV 9) (dV 11)) dNil))) [some (.loc j), some (.int (n : Int)), some (.int (b : Int)), some (.int (1 + (w : Int))), some (.int (v : Int)), some (flB b1), some (.int (e1 : Int)), some (flB b2), some (.int (e2 : Int)), some (.fl (f1.map .int)), some (.fl (f2.map .int)), none, o] ((List.range v).map fun (k : Nat) => PV.int (k : Int)) [] s5 = .ok (.tl (ps.map prP)) s5 := fun o => by
          rw [lc_map (f := fun i => prP (f2.getD i 0, f1.getD i 0))]
          · rw [hps, List.map_map]; rfl
          · intro i hi
            have hi := List.mem_range.mp hi
            have q1 := atI_ints (ns := f1) (i := (i : Int)) (n := i) rfl (by omega)
            have q2 := atI_ints (ns := f2) (i := (i : Int)) (n := i) rfl (by omega)
            dsimp! [oR_s, ixP_fl, q1, q2]
            rfl
        have had : ∀ s : Sto, addP s (flB b1) (.tl (b2.map fun s => scP (srt (s.map (phi ps))))) = some (.tl (b1.map scP ++ b2.map fun s => scP (srt (s.map (phi ps))))) := fun s => addP_fl_tl (by simp only [List.length_map]; omega)
        dsimp! [t__law_glued, o1, t1, t2, frz_fl, t3, t4, t5, hmin, hr, hlc, t6, had, ec]
        simp [flB, List.map_append, List.map_map]
      · intro s hs
        rcases List.mem_append.mp hs with hs | hs
        · obtain ⟨a1, a2, a3, a4⟩ := G1 s hs
          exact ⟨a1, a2, a3, fun c hc => ⟨(a4 c hc).1, by have := (a4 c hc).2; omega⟩⟩
        · obtain ⟨u, hu, rfl⟩ := List.mem_map.mp hs
          obtain ⟨a1, a2, a3, a4⟩ := G2 u hu
          refine ⟨inc_of (srt_lt (phi_nodup (inc_nodup a1) a4 hps2 hpsi)), by rw [len_srt, List.length_map]; exact a2, by rw [len_srt, List.length_map]; exact a3, fun c hc => ?_⟩
          have hc := mem_srt.mp hc
          obtain ⟨d, hd, rfl⟩ := List.mem_map.mp hc
          have hd := a4 d hd
          rcases phi_or ps d with ⟨x, x1, x2, _⟩ | ⟨_, x2, _⟩
          · have := hps2 _ x1
            rw [x2]
            dsimp only at this
            omega
          · rw [x2]
            omega
/-- all columns in a drawn order -/
structure Ids (ids : List Int) : Prop where
  ln : ids.length = 24
  nd : ids.Nodup
  rg : ∀ c ∈ ids, 0 ≤ c ∧ c < 24
theorem p_ids {j k : Nat} (hk : 2 ≤ k) {st : Sto} (hj : Jr j st) : ∃ ids st', (lev pr k).1 "_law_mixed" [.loc j, .fl (((List.range 24).map fun (k : Nat) => (k : Int)).map .int)] st = .ok (.tl (ids.map .int)) st' ∧ Ids ids ∧ Js j st st' := by
  obtain ⟨ys, s1, t1, hp, g1⟩ := p_mixed hk hj (y := .fl (((List.range 24).map fun (k : Nat) => (k : Int)).map .int)) (.inr (.inl rfl)) (fun x hx => by
    obtain ⟨i, _, rfl⟩ := List.mem_map.mp hx
    exact ⟨rfl, clo_int⟩) (by simp)
  obtain ⟨ms, rfl, hp2⟩ := perm_ints hp
  refine ⟨ms, s1, t1, ⟨by rw [hp2.length_eq]; simp, hp2.nodup_iff.mpr (nodup_rng 24), fun c hc => ?_⟩, g1⟩
  have := hp2.mem_iff.mp hc
  simp at this
  omega
theorem Ids.at {ids : List Int} (h : Ids ids) {i : Int} {n : Nat} (hi : i = (n : Int)) (hn : n < 24) {st : Sto} : ixP st (.fl (ids.map .int)) (.int i) = some (.int (ids.getD n 0)) := by
  rw [ixP_fl, atI_ints hi (by rw [h.ln]; exact hn)]
  rfl
theorem Ids.rng {ids : List Int} (h : Ids ids) {n : Nat} (hn : n < 24) : 0 ≤ ids.getD n 0 ∧ ids.getD n 0 < 24 := h.rg _ (Bb.getD_mem (by rw [h.ln]; exact hn))
theorem Ids.inj {ids : List Int} (h : Ids ids) {n m : Nat} (hn : n < 24) (hm : m < 24) (e : ids.getD n 0 = ids.getD m 0) : n = m := by
  have a1 : n < ids.length := by rw [h.ln]; exact hn
  have a2 : m < ids.length := by rw [h.ln]; exact hm
  rw [List.getD_eq_getElem?_getD, List.getD_eq_getElem?_getD, List.getElem?_eq_getElem a1, List.getElem?_eq_getElem a2] at e
  exact (List.getElem_inj h.nd).mp e
theorem rng24 {bt : BT} {elt : D} {env : En} {st : Sto} {all : List PV} (h : ∀ k : Nat, oR (bt (.int (k : Int)) env) elt st = .ok (.int (k : Int)) st) : lcL none all bt dYes elt env ((List.range 24).map fun (k : Nat) => PV.int (k : Int)) [] st = .ok (.tl (((List.range 24).map fun (k : Nat) => (k : Int)).map .int)) st := by
  rw [lc_map (f := fun (k : Nat) => PV.int (k : Int)) (fun a _ => h a), List.map_map]
  rfl
theorem p_ringless {j k : Nat} (hk : 14 ≤ k) {st : Sto} (hj : Jr j st) {most : Nat} (hm : 1 ≤ most ∧ most ≤ 8) : ∃ bs st', (lev pr k).1 "_law_ringless_book" [.loc j, .int (most : Int)] st = .ok (bkP bs) st' ∧ GB bs ∧ bs.length ≤ most ∧ Js j st st' := by
  rw [s__law_ringless_book (by omega)]
  obtain ⟨r, s1, t1, r0, r1, g1⟩ := p_take (k := k - 1) (by omega) hj (m := (most : Int)) (by omega) (by omega)
  obtain ⟨w, rfl⟩ := Int.eq_ofNat_of_zero_le r0
  have j1 := g1.jr hj
  have hw : ((1 + w : Nat) : Int) = 1 + (w : Int) := by omega
  obtain ⟨b1, e1, s2, t2, l1, p1, p2, G1, g2⟩ := p_glued (1 + w) (by omega) (by omega) (k := k - 1) (by omega) j1 0
  rw [hw] at t2
  have t2' : (lev pr (k - 1)).1 "_law_glued" [.loc j, .int (1 + (w : Int)), .int 0] s1 = .ok (.tup [flB b1, .int (e1 : Int)]) s2 := t2
  have j2 := g2.jr j1
  obtain ⟨ids, s3, t3, hI, g3⟩ := p_ids (k := k - 1) (by omega) j2
  have j3 := g3.jr j2
  obtain ⟨cs, hcs⟩ : ∃ cs, cs = b1.map fun s => srt (s.map fun c => ids.getD c.toNat 0) := ⟨_, rfl⟩
  have hok : ∀ s ∈ b1, SchOk (scP (srt (s.map fun c => ids.getD c.toNat 0))) 24 3 := fun s hs => by
    obtain ⟨a1, a2, a3, a4⟩ := G1 s hs
    refine sch_srt ?_ (fun c hc => ?_) (by rw [List.length_map]; exact a2) (by rw [List.length_map]; omega)
    · rw [List.nodup_iff_pairwise_ne, List.pairwise_map]
      refine List.Pairwise.imp_of_mem (fun {x y} hx hy hne h => hne ?_) (inc_nodup a1)
      have rx := a4 x hx
      have ry := a4 y hy
      have := hI.inj (by omega) (by omega) h
      omega
    · obtain ⟨d, hd, rfl⟩ := List.mem_map.mp hc
      have rd := a4 d hd
      exact hI.rng (by omega)
  obtain ⟨ys, s4, t4, hp, g4⟩ := p_mixed (k := k - 1) (by omega) j3 (y := .fl (cs.map scP)) (.inr (.inl rfl)) (fun x hx => by
    obtain ⟨i, _, rfl⟩ := List.mem_map.mp hx
    exact ⟨rfl, clo_tup fun y hy => by
      obtain ⟨i, _, rfl⟩ := List.mem_map.mp hy
      exact clo_int⟩) (by rw [hcs]; simp only [List.length_map]; omega)
  have hys : ∀ y ∈ ys, SchOk y 24 3 := fun y hy => by
    have := hp.mem_iff.mp hy
    rw [hcs, List.map_map] at this
    obtain ⟨s, hs, rfl⟩ := List.mem_map.mp this
    exact hok s hs
  have hyl : ys.length = 1 + w := by rw [hp.length_eq, hcs]; simp only [List.length_map]; exact l1
  obtain ⟨bs, hbs, g⟩ := gb_mk hys (by omega) (by omega) (by omega) (by omega)
  have gg := ((g1.trans g2).trans g3).trans g4
  have ec := fun v => hj.same gg _ rfl v
  have hr := fun s : Sto => rng1_ok (st := s) (n := 24) (by omega)
  have h24 : (((24 : Nat) : Int)) = 24 := rfl
  rw [h24] at hr
  refine ⟨bs, s4, ?_, g, ?_, gg⟩
  · have h1 : ∀ o, lcL none ((List.range 24).map fun (k : Nat) => PV.int (k : Int)) (bName 7) dYes (dV 7) [some (.loc j), some (.int (most : Int)), none, none, some (flB b1), some (.int (e1 : Int)), none, o] ((List.range 24).map fun (k : Nat) => PV.int (k : Int)) [] s2 = .ok (.tl (((List.range 24).map fun (k : Nat) => (k : Int)).map .int)) s2 := fun o => rng24 fun k => by dsimp! [oR_s]
    have h2 : ∀ o o', lcL none (b1.map scP) (bName 6) dYes (dN tupP (dCons (dN srtA (dCons (dLc (dSeqI (dV 6)) (bName 7) dYes (d2 ixP (dV 2) (dV 7)) [7]) dNil)) dNil)) [some (.loc j), some (.int (most : Int)), some (.fl (ids.map .int)), none, some (flB b1), some (.int (e1 : Int)), o, o'] (b1.map scP) [] s3 = .ok (.tl (cs.map scP)) s3 := fun o o' => by
      rw [lc_map (f := fun s => scP (srt (s.map fun c => ids.getD c.toNat 0)))]
      · rw [hcs, List.map_map]; rfl
      · intro s hs
        dsimp! [oR_s, frz_sc, sc_seq]
        rw [lc_map (g := PV.int) (f := fun c => .int (ids.getD c.toNat 0))]
        · have e' : ∀ s' : Sto, srtA s' [.fl (s.map fun c => PV.int (ids.getD c.toNat 0))] = some (.tl ((srt (s.map fun c => ids.getD c.toNat 0)).map .int)) := fun s' => srtA_ints (by rw [List.map_map]; rfl)
          dsimp! [e']
          rfl
        · intro c hc
          have rc := (G1 s hs).2.2.2 c hc
          have i1 := fun s : Sto => hI.at (i := c) (n := c.toNat) (by omega) (by omega) (st := s)
          dsimp! [oR_s, i1]
    have hsq : ∀ s : Sto, seqI s (flB b1) = some (b1.map scP, none) := fun _ => rfl
    rw [← hbs]
    generalize hR : (List.range 24).map (fun (k : Nat) => PV.int (k : Int)) = R24 at hr h1
    generalize hL : ((List.range 24).map fun (k : Nat) => (k : Int)).map PV.int = L24 at t3 h1
    dsimp! [t__law_ringless_book, t1, t2', frz_fl, hr, h1, t3, hsq, h2, t4, ec]
  · have : ys = bs.map scP := by injection hbs
    have := congrArg List.length this
    rw [List.length_map] at this
    omega
/-- a row of a ring's book on its way: some columns -/
def RowOk (m : Nat) (r : List Int) : Prop := 1 ≤ r.length ∧ r.length ≤ m ∧ ∀ c ∈ r, 0 ≤ c ∧ c < 24
def rowsM (rs : List (List Int)) : List MO := rs.map fun r => .lst (r.map .int)
theorem rowsM_len {rs : List (List Int)} : (rowsM rs).length = rs.length := by simp [rowsM]
theorem rowsM_at {rs : List (List Int)} {l : List MO} {i : Nat} (h : i < rs.length) : (rowsM rs ++ l)[i]? = some (.lst ((rs.getD i []).map .int)) := by
  rw [List.getElem?_append_left (by rw [rowsM_len]; exact h)]
  unfold rowsM
  rw [List.getElem?_map, List.getElem?_eq_getElem h]
  simp [List.getD_eq_getElem?_getD, List.getElem?_eq_getElem h]
theorem rowsM_set {rs : List (List Int)} {l : List MO} {i : Nat} (h : i < rs.length) (r : List Int) : (rowsM rs ++ l).set i (.lst (r.map .int)) = rowsM (rs.set i r) ++ l := by
  rw [List.set_append_left _ _ (by rw [rowsM_len]; exact h)]
  unfold rowsM
  rw [List.map_set]
theorem rowsM_clo {rs : List (List Int)} (m : Nat) : (rowsM rs).all (cloM m) = true := by
  rw [List.all_eq_true]
  intro x hx
  obtain ⟨r, _, rfl⟩ := List.mem_map.mp hx
  exact clos_ints _ _
def locsP (n m : Nat) : List PV := (List.range m).map fun i => .loc (n + i)
theorem locs_ln {n m : Nat} : (locsP n m).length = m := by simp [locsP]
theorem row_draw {r : List Int} {m : Nat} (h : RowOk m r) {c : Int} (hc : 0 ≤ c ∧ c < 24) (b : Bool) : RowOk (m + 1) (r ++ if b = true then [c] else []) := by
  obtain ⟨h1, h2, h3⟩ := h
  refine ⟨by rw [List.length_append]; omega, by rw [List.length_append]; cases b <;> simp <;> omega, fun d hd => ?_⟩
  rcases List.mem_append.mp hd with hd | hd
  · exact h3 d hd
  · cases b with
    | false => simp at hd
    | true => simp at hd; rw [hd]; exact hc
theorem ris_single {r : List Int} : (r.map fun c => (false, [c])).map (·.2) = r.map fun c => [c] := by rw [List.map_map]; rfl
/-- what a row's columns make -/
theorem ris_row {m : Nat} {r : List Int} (h : RowOk m r) (hm : m ≤ 8) : SchOk (scP (srt (risL ((r.map fun c => (false, [c])).map (·.2))))) 24 8 := by
  rw [ris_single]
  have e : risL (r.map fun c => [c]) = risF [] (r.map fun c => [c]) := rfl
  have hmem : ∀ d, d ∈ risL (r.map fun c => [c]) ↔ d ∈ r := fun d => by
    rw [e, risF_mem]
    constructor
    · rintro (h | ⟨s, hs, h⟩)
      · cases h
      · obtain ⟨a, ha, rfl⟩ := List.mem_map.mp hs
        rw [List.mem_singleton.mp h]; exact ha
    · exact fun h => .inr ⟨[d], List.mem_map.mpr ⟨d, h, rfl⟩, by simp⟩
  obtain ⟨h1, h2, h3⟩ := h
  refine sch_srt (risF_nodup .nil fun s hs => by
    obtain ⟨c, _, rfl⟩ := List.mem_map.mp hs
    simp) (fun d hd => h3 d ((hmem d).mp hd)) ?_ ?_
  · refine List.length_pos_iff.mpr fun e0 => ?_
    cases r with
    | nil => simp at h1
    | cons a r =>
      have := (hmem a).mpr List.mem_cons_self
      rw [e0] at this
      cases this
  · have := risF_len (a := []) (ls := r.map fun c => [c])
    rw [← e] at this
    have hs : ((r.map fun c => [c]).map List.length).sum = r.length := by
      rw [List.map_map]
      clear h1 h2 h3 hmem e this
      induction r with
      | nil => rfl
      | cons a r ih => simp only [List.map_cons, List.sum_cons, ih, List.length_cons, Function.comp]; simp; omega
    rw [hs] at this
    simp at this
    omega
theorem p_ring_book {j k : Nat} (hk : 6 ≤ k) {st : Sto} (hj : Jr j st) {most : Nat} (hm : 3 ≤ most ∧ most ≤ 8) : ∃ bs st', (lev pr k).1 "_law_ring_book" [.loc j, .int (most : Int)] st = .ok (bkP bs) st' ∧ GB bs ∧ bs.length ≤ most + 1 ∧ Js j st st' := by
  rw [s__law_ring_book (by omega)]
  obtain ⟨r, s1, t1, r0, r1, g1⟩ := p_take (k := k - 1) (by omega) hj (m := (most : Int) - 2) (by omega) (by omega)
  obtain ⟨w, rfl⟩ := Int.eq_ofNat_of_zero_le r0
  have j1 := g1.jr hj
  obtain ⟨m, hmw⟩ : ∃ m : Nat, m = 3 + w := ⟨_, rfl⟩
  have hw : (3 : Int) + (w : Int) = (m : Int) := by omega
  have hm8 : 3 ≤ m ∧ m ≤ most := by omega
  obtain ⟨ids, s2, t2, hI, g2⟩ := p_ids (k := k - 1) (by omega) j1
  have g12 := g1.trans g2
  have j2 := g12.jr hj
  have hl2 := g12.len
  obtain ⟨f, hf⟩ : ∃ f : Nat → List Int, f = fun i => [ids.getD i 0, ids.getD ((i + m - 1) % m) 0] := ⟨_, rfl⟩
  have hlc : ∀ s : Sto, lmL none ((List.range m).map fun (k : Nat) => PV.int (k : Int)) (bName 5) dYes (dN (mkL 2) (dCons (d2 ixP (dV 3) (dV 5)) (dCons (d2 ixP (dV 3) (d2 modP (dN intP (dCons (d2 subP (dV 5) (dC (.int 1))) dNil)) (dV 2))) dNil))) [some (.loc j), some (.int (most : Int)), some (.int (m : Int)), some (.fl (ids.map .int)), none, none, none, none] ((List.range m).map fun (k : Nat) => PV.int (k : Int)) [] s = .ok (.tl (locsP s.length m)) (s ++ rowsM ((List.range m).map f)) := fun s => by
    rw [lm_new (f := fun i => (f i).map PV.int)]
    · rw [List.length_range]
      simp [locsP, rowsM, Function.comp]
    · intro i hi s
      have hi := List.mem_range.mp hi
      have hmod : ((i : Int) - 1) % (m : Int) = (((i + m - 1) % m : Nat) : Int) := by
        have e : (((i + m - 1) % m : Nat) : Int) = ((i + m - 1 : Nat) : Int) % (m : Int) := rfl
        rw [e]
        have : ((i + m - 1 : Nat) : Int) = ((i : Int) - 1) + (m : Int) := by omega
        rw [this, Int.add_emod_right]
      have hlt : (i + m - 1) % m < 24 := by
        have := Nat.mod_lt (i + m - 1) (show 0 < m by omega)
        omega
      have i1 := fun s : Sto => hI.at (i := (i : Int)) (n := i) rfl (by omega) (st := s)
      have i2 := fun s : Sto => hI.at (i := (((i + m - 1) % m : Nat) : Int)) rfl hlt (st := s)
      have mp : (0 : Int) < (m : Int) := by omega
      rw [hf]
      dsimp! [oR_s, i1, mp, hmod, i2]
  have hrow0 : ∀ i < m, RowOk 2 (f i) := fun i hi => by
    rw [hf]
    have hlt : (i + m - 1) % m < 24 := by
      have := Nat.mod_lt (i + m - 1) (show 0 < m by omega)
      omega
    refine ⟨by simp, by simp, fun c hc => ?_⟩
    simp only [List.mem_cons, List.not_mem_nil, or_false] at hc
    rcases hc with rfl | rfl
    · exact hI.rng (by omega)
    · exact hI.rng hlt
  have hr := fun s : Sto => rng1_ok (st := s) (n := m) (by omega)
  have hr24 : ∀ s : Sto, rng1P s [.int 24] = some ((List.range 24).map fun (k : Nat) => PV.int (k : Int), none) := fun s => rng1_ok (st := s) (n := 24) (by omega)
  have h1 : ∀ o o' o'' o''', lcL none ((List.range 24).map fun (k : Nat) => PV.int (k : Int)) (bName 7) dYes (dV 7) [some (.loc j), some (.int (most : Int)), some (.int (m : Int)), none, o, o', o'', o'''] ((List.range 24).map fun (k : Nat) => PV.int (k : Int)) [] s1 = .ok (.tl (((List.range 24).map fun (k : Nat) => (k : Int)).map .int)) s1 := fun o o' o'' o''' => rng24 fun k => by dsimp! [oR_s]
  obtain ⟨R24, hR⟩ : ∃ R, R = (List.range 24).map fun (k : Nat) => PV.int (k : Int) := ⟨_, rfl⟩
  obtain ⟨L24, hL⟩ : ∃ R, R = ((List.range 24).map fun (k : Nat) => (k : Int)).map PV.int := ⟨_, rfl⟩
  rw [← hR] at hr24
  simp only [← hR, ← hL] at h1
  rw [← hL] at t2
  obtain ⟨rs0, hrs0⟩ : ∃ rs0, rs0 = (List.range m).map f := ⟨_, rfl⟩
  rw [← hrs0] at hlc
  have hrl : rs0.length = m := by rw [hrs0]; simp
  obtain ⟨S0, hS0⟩ : ∃ S, S = s2 ++ rowsM rs0 ++ [MO.lst (locsP st.length m)] := ⟨_, rfl⟩
  have o0 : Own j st (rowsM rs0 ++ [.lst (locsP st.length m)]) S0 := by
    obtain ⟨s', e, k'⟩ := ((Own.nil hj).js hj g12).ex
    refine ⟨⟨s2, by rw [hS0, List.append_assoc], g12⟩, ?_⟩
    rw [List.all_append, List.length_append, rowsM_len, rowsM_clo]
    simp only [List.all_cons, List.all_nil, Bool.and_true, Bool.true_and, cloM, List.length_cons, List.length_nil]
    refine clos_all.mpr fun x hx => ?_
    obtain ⟨i, hi, rfl⟩ := List.mem_map.mp hx
    have := List.mem_range.mp hi
    simp only [clo, decide_eq_true_eq]
    omega
  have hpos : (s2 ++ rowsM rs0).length = st.length + m := by rw [List.length_append, rowsM_len, hl2, hrl]
  have asgL : ∀ (i : Nat) (env : En), asg (.tl (locsP s2.length m)) i env (s2 ++ rowsM rs0) = .nx (env.set i (some (.loc (st.length + m)))) S0 := fun i env => by rw [asg_tl, hpos, hl2, hS0]
  dsimp! [t__law_ring_book, t1, hw, hr24, ← hR, h1, ← hL, t2, hr, dLcM_ap, hlc, asgL]
  have lat : ∀ {rs : List (List Int)} {s : Sto} {more : List MO} {ls : List PV}, rs.length = m → Own j st (rowsM rs ++ .lst ls :: more) s → s[st.length + m]? = some (.lst ls) := fun {rs s more ls} hrs o => o.at (i := m) rfl (by rw [List.getElem?_append_right (by rw [rowsM_len, hrs]; exact Nat.le_refl _), rowsM_len, hrs]; simp)
  generalize hF : forL none _ _ _ _ _ _ = X
  have h := for_st (g := fun (k : Nat) => PV.int (k : Int)) (l := List.range m) hF (fun l env s => ∃ o5 o6 rs, env = [some (.loc j), some (.int (most : Int)), some (.int (m : Int)), some (.fl (ids.map .int)), some (.loc (st.length + m)), o5, o6, none] ∧ Own j st (rowsM rs ++ [.lst (locsP st.length m)]) s ∧ rs.length = m ∧ l.Nodup ∧ (∀ i ∈ l, i < m ∧ RowOk 2 (rs.getD i [])) ∧ ∀ i < m, RowOk 4 (rs.getD i []))
    (fun r => ∃ o5 o6 rs s, r = .nx [some (.loc j), some (.int (most : Int)), some (.int (m : Int)), some (.fl (ids.map .int)), some (.loc (st.length + m)), o5, o6, none] s ∧ Own j st (rowsM rs ++ [.lst (locsP st.length m)]) s ∧ rs.length = m ∧ ∀ i < m, RowOk 4 (rs.getD i []))
    ⟨none, none, rs0, rfl, o0, hrl, List.nodup_range, fun i hi => ⟨List.mem_range.mp hi, by
      have hi := List.mem_range.mp hi
      rw [hrs0, getD_map' f _ _ 0 _ (by simpa using hi)]
      have : (List.range m).getD i 0 = i := by simp [List.getD_eq_getElem?_getD, hi]
      rw [this]
      exact hrow0 i hi⟩, fun i hi => by
      rw [hrs0, getD_map' f _ _ 0 _ (by simpa using hi)]
      have : (List.range m).getD i 0 = i := by simp [List.getD_eq_getElem?_getD, hi]
      rw [this]
      obtain ⟨a1, a2, a3⟩ := hrow0 i hi
      exact ⟨a1, by omega, a3⟩⟩
    (by
      rintro env s ⟨o5, o6, rs, rfl, h1, h2, _, _, h3⟩
      exact ⟨_, _, rs, s, rfl, h1, h2, h3⟩) (by rintro ⟨_, _, _, _, h, _⟩; cases h)
    (by
      rintro i l env s ⟨o5, o6, rs, rfl, q1, q2, q3, q4, q5⟩ J K hJ hK
      obtain ⟨him, hr2⟩ := q4 i List.mem_cons_self
      have e1 : ixP s (.loc (st.length + m)) (.int (i : Int)) = some (.loc (st.length + i)) := by
        rw [ixP_loc (lat q2 q1), atI_nat rfl (by rw [locs_ln]; exact him)]
        simp [locsP]
      have hrs : i < rs.length := by omega
      have c1 := q1.loc (n := st.length + i) (i := i) rfl (rowsM_at hrs)
      obtain ⟨x, s3, t3, x0, x1, g3⟩ := p_take (k := k - 1) (by omega) (q1.jr hj) (m := 3) (by omega) (by omega)
      have q1' := q1.js hj g3
      have v1 : ∀ (b : Bool) (o5 o6 : Option PV) (s : Sto), bIf b (dN (mkL 1) (dCons (d2 ixP (dV 3) (d2 subP (dV 2) (dC (.int 1)))) dNil)) (dN (mkL 0) dNil) [some (.loc j), some (.int (most : Int)), some (.int (m : Int)), some (.fl (ids.map .int)), some (.loc (st.length + m)), o5, o6, none] s = .ok (.tl ((if b = true then [ids.getD (m - 1) 0] else []).map .int)) s := fun b o5 o6 s => by
        have i1 := fun s : Sto => hI.at (i := (m : Int) - 1) (n := m - 1) (by omega) (by omega) (st := s)
        cases b <;> dsimp! [i1]
      have v2 : ∀ (b : Bool) (o6 : Option PV) (s : Sto), bIf b (dN (mkL 1) (dCons (d2 ixP (dV 3) (d2 addP (dV 2) (dV 5))) dNil)) (dN (mkL 0) dNil) [some (.loc j), some (.int (most : Int)), some (.int (m : Int)), some (.fl (ids.map .int)), some (.loc (st.length + m)), some (.int (i : Int)), o6, none] s = .ok (.tl ((if b = true then [ids.getD (m + i) 0] else []).map .int)) s := fun b o6 s => by
        have i1 := fun s : Sto => hI.at (i := (m : Int) + (i : Int)) (n := m + i) (by omega) (by omega) (st := s)
        cases b <;> dsimp! [i1]
      obtain ⟨e2, q2'⟩ := q1'.extend (n := st.length + i) (i := i) rfl (rowsM_at hrs) (y := .fl ((if (x == 0) = true then [ids.getD (m - 1) 0] else []).map .int)) rfl (by simp only [List.length_map]; have := hr2.2.1; split <;> simp only [List.length_cons, List.length_nil] <;> omega) (clos_ints _ _)
      rw [← List.map_append, rowsM_set hrs] at q2'
      rw [← List.map_append] at e2
      have hr3 := row_draw hr2 (hI.rng (n := m - 1) (by omega)) (x == 0)
      obtain ⟨ra, hra⟩ : ∃ ra, ra = rs.getD i [] ++ if (x == 0) = true then [ids.getD (m - 1) 0] else [] := ⟨_, rfl⟩
      rw [← hra] at e2 q2' hr3
      obtain ⟨S2, hS2⟩ : ∃ S, S = s3.set (st.length + i) (.lst (ra.map .int)) := ⟨_, rfl⟩
      rw [← hS2] at e2 q2'
      have hrs2 : i < (rs.set i ra).length := by rw [List.length_set]; exact hrs
      have hra2 : (rs.set i ra).getD i [] = ra := by simp [List.getD_eq_getElem?_getD, hrs]
      have c2 := q2'.loc (n := st.length + i) (i := i) rfl (rowsM_at hrs2)
      obtain ⟨y, s4, t4, y0, y1, g4⟩ := p_take (k := k - 1) (by omega) (q2'.jr hj) (m := 3) (by omega) (by omega)
      have q3' := q2'.js hj g4
      obtain ⟨e3, q4'⟩ := q3'.extend (n := st.length + i) (i := i) rfl (rowsM_at hrs2) (y := .fl ((if (y == 0) = true then [ids.getD (m + i) 0] else []).map .int)) rfl (by simp only [List.length_map]; rw [hra2]; have := hr3.2.1; split <;> simp only [List.length_cons, List.length_nil] <;> omega) (clos_ints _ _)
      rw [← List.map_append, rowsM_set hrs2, hra2] at q4'
      rw [← List.map_append, hra2] at e3
      have hr4 := row_draw hr3 (hI.rng (n := m + i) (by omega)) (y == 0)
      dsimp! [oZ_s, e1, asg_loc, c1, t3, v1, e2, c2, t4, v2, e3, LpQ]
      refine hJ _ _ ⟨_, _, (rs.set i ra).set i (ra ++ if (y == 0) = true then [ids.getD (m + i) 0] else []), rfl, q4', by simp [q2], (List.nodup_cons.mp q3).2, fun i' hi' => ?_, fun i' hi' => ?_⟩
      · obtain ⟨p1, p2⟩ := q4 i' (List.mem_cons_of_mem _ hi')
        have hne : i ≠ i' := fun e => (List.nodup_cons.mp q3).1 (by rw [e]; exact hi')
        rw [List.getD_eq_getElem?_getD, List.getElem?_set_ne hne, List.getElem?_set_ne hne, ← List.getD_eq_getElem?_getD]
        exact ⟨p1, p2⟩
      · by_cases hne : i = i'
        · subst hne
          have : ((rs.set i ra).set i (ra ++ if (y == 0) = true then [ids.getD (m + i) 0] else [])).getD i [] = ra ++ if (y == 0) = true then [ids.getD (m + i) 0] else [] := by simp [List.getD_eq_getElem?_getD, hrs]
          rw [this]
          exact hr4
        · rw [List.getD_eq_getElem?_getD, List.getElem?_set_ne hne, List.getElem?_set_ne hne, ← List.getD_eq_getElem?_getD]
          exact q5 i' hi')
  obtain ⟨o5, o6, rs, s5, rfl, w1, w2, w3⟩ := h
  obtain ⟨z, s6, t6, z0, z1, g6⟩ := p_take (k := k - 1) (by omega) (w1.jr hj) (m := 2) (by omega) (by omega)
  have w1' := w1.js hj g6
  -- the rows are mixed, and told
  obtain ⟨T, hT⟩ : ∃ T : DS, T = sRet (dN tupP (dCons (dLc (dSeqI (dCall ((lev pr (k - 1)).1 "_law_mixed") (dCons (dV 0) (dCons (dV 4) dNil)))) (bName 6) dYes (dCall ((lev pr (k - 1)).1 "_law_rising") (dCons (dLc (dSeqI (dV 6)) (bName 7) dYes (dN (mkL 1) (dCons (dV 7) dNil)) [7]) dNil)) [6]) dNil)) := ⟨_, rfl⟩
  rw [← hT]
  have tail : ∀ (s : Sto) (more : List MO) (ls : List PV) (o5 o6 : Option PV), Own j st (rowsM rs ++ .lst ls :: more) s → (∀ x ∈ ls, ∃ (i p : Nat) (r : List Int), x = .loc p ∧ p = st.length + i ∧ (rowsM rs ++ .lst ls :: more)[i]? = some (.lst (r.map .int)) ∧ RowOk 4 r) → ls.length ≤ m + 1 → 1 ≤ ls.length →
      ∃ bs st', ((T [some (.loc j), some (.int (most : Int)), some (.int (m : Int)), some (.fl (ids.map .int)), some (.loc (st.length + m)), o5, o6, none] s).sq sNil).fin st.length = .ok (bkP bs) st' ∧ GB bs ∧ bs.length ≤ most + 1 ∧ Js j st st' := by
    intro s more ls o5 o6 ow hls hl1 hl2
    have hls' : ∀ x ∈ ls, frz x = x ∧ clo s.length x = true := fun x hx => by
      obtain ⟨i, p, r, rfl, rfl, hi, _⟩ := hls x hx
      refine ⟨rfl, ?_⟩
      have := (List.getElem?_eq_some_iff.mp hi).1
      simp only [clo, decide_eq_true_eq]
      rw [ow.len]
      omega
    obtain ⟨ys, s7, t7, hp, g7⟩ := p_mixed (k := k - 1) (by omega) (ow.jr hj) (y := .loc (st.length + m)) (.inr (.inr ⟨_, rfl, by have := hj.lt; omega, lat w2 ow⟩)) hls' (by omega)
    have ow7 := ow.js hj g7
    have hyl := hp.length_eq
    rw [hT]
    dsimp! [t7]
    have hid : ys = ys.map fun x : PV => x := by simp
    generalize hF3 : lcL none _ _ _ _ _ _ _ _ = Z
    have hF3' := hF3
    rw [hid] at hF3'
    obtain ⟨vs, s8, e8, u1, u2, u3, -⟩ := lc_draw (g := fun x : PV => x) (l := ys) hF3' (Own j st (rowsM rs ++ .lst ls :: more)) (fun _ v => SchOk v 24 8) ow7 (by
      intro x hx s' hs'
      obtain ⟨i, p, r, rfl, hpi, hi, hr⟩ := hls x (hp.mem_iff.mp hx)
      have hat := hs'.at hpi hi
      obtain ⟨s9, t9, g9⟩ := p_rising (k := k - 1) (by omega) (hs'.jr hj) (y := .fl (r.map fun c => .fl [.int c])) (its := r.map fun c => (false, [c])) (.inr (by rw [List.map_map]; rfl)) (by
        rw [ris_single]
        have hs : ((r.map fun c => [c]).map List.length).sum = r.length := by
          rw [List.map_map]
          generalize r = q
          induction q with
          | nil => rfl
          | cons a q ih => simp only [List.map_cons, List.sum_cons, ih, List.length_cons, Function.comp]; simp; omega
        rw [hs]
        have := hr.2.1
        omega)
      have hsc := ris_row hr (by omega)
      refine ⟨scP (srt (risL ((r.map fun c => (false, [c])).map (·.2)))), s9, ?_, hs'.js hj g9, ?_⟩
      rotate_left
      · show SchOk (frz (scP _)) 24 8
        exact hsc
      · dsimp! [oR_s, seqI_loc hat]
        rw [lc_mapC (chk := some p) (all := r.map PV.int) (l := r.map PV.int) (f := fun v => .tl [v]) hat]
        · have hm2 : ((r.map PV.int).map fun a => PV.fl [a]) = r.map fun c => .fl [.int c] := by rw [List.map_map]; rfl
          dsimp! [hm2]
          rw [t9]
        · intro v hv
          obtain ⟨c, _, rfl⟩ := List.mem_map.mp hv
          dsimp! [oR_s])
    have hvs : ∀ v ∈ vs, SchOk v 24 8 := fun v hv => (u3 v hv).elim fun _ h => h.2
    obtain ⟨bs, hbs, gb⟩ := gb_mk hvs (by omega) (by omega) (by omega) (by omega)
    have hbl : vs.length = bs.length := by
      have : vs = bs.map scP := by injection hbs
      rw [this, List.length_map]
    obtain ⟨s9, ec, k9⟩ := u1.cutV hj (v := .tup vs) (clo_tup fun x hx => (hvs x hx).ph.clo) (fun _ z => nomatch z) (fun _ z => nomatch z)
    subst e8
    refine ⟨bs, s9, ?_, gb, by omega, k9⟩
    rw [← hbs]
    dsimp! [ec]
  have lsr : ∀ (more : List MO) (x : PV), x ∈ locsP st.length m → ∃ (i p : Nat) (r : List Int), x = .loc p ∧ p = st.length + i ∧ (rowsM rs ++ more)[i]? = some (.lst (r.map .int)) ∧ RowOk 4 r := fun more x hx => by
    obtain ⟨i, hi, rfl⟩ := List.mem_map.mp hx
    have hi := List.mem_range.mp hi
    exact ⟨i, _, _, rfl, rfl, rowsM_at (by omega), w3 i hi⟩
  cases hz : (z == 0) with
  | false =>
    obtain ⟨bs, st', e, gb, hbl, kk⟩ := tail s6 [] _ o5 o6 w1' (fun x hx => lsr _ x hx) (by rw [locs_ln]; omega) (by rw [locs_ln]; omega)
    refine ⟨bs, st', ?_, gb, hbl, kk⟩
    dsimp! [t6, hz]
    exact e
  | true =>
    obtain ⟨x, s7, t7, hx, g7⟩ := p_one (k := k - 1) (by omega) (w1'.jr hj) (y := .fl ((ids.take m).map .int)) (.inr (.inl rfl)) (by intro e; have := congrArg List.length e; simp only [List.length_map, List.length_take, List.length_nil, hI.ln] at this; omega) (by simp only [List.length_map, List.length_take, hI.ln]; omega)
    obtain ⟨c, hc, rfl⟩ := List.mem_map.mp hx
    have hcr := hI.rg c (List.mem_of_mem_take hc)
    have w2' := w1'.js hj g7
    have i23 := fun s : Sto => hI.at (i := 23) (n := 23) rfl (by omega) (st := s)
    have hcut : cutP (ids.map .int) none (some (m : Int)) = (ids.take m).map PV.int := by
      rw [cutP_take' (by omega), ← List.map_take]
      congr 2
    have w3' := w2'.push (x := .lst [.int c, .int (ids.getD 23 0)]) (by simp only [cloM, clos, clo_int, Bool.and_true])
    have hl7 : s7.length = st.length + (m + 1) := by rw [w2'.len, List.length_append, rowsM_len, w2]; simp
    have assoc : rowsM rs ++ [MO.lst (locsP st.length m)] ++ [MO.lst [PV.int c, .int (ids.getD 23 0)]] = rowsM rs ++ .lst (locsP st.length m) :: [MO.lst [PV.int c, .int (ids.getD 23 0)]] := by simp
    rw [assoc] at w3'
    have hm3 : (rowsM rs ++ .lst (locsP st.length m) :: [MO.lst [PV.int c, .int (ids.getD 23 0)]])[m]? = some (.lst (locsP st.length m)) := by rw [List.getElem?_append_right (by rw [rowsM_len, w2]; exact Nat.le_refl _), rowsM_len, w2]; simp
    obtain ⟨e4, w4⟩ := w3'.append (n := st.length + m) (i := m) rfl hm3 (v := .loc (st.length + (m + 1))) (by rw [locs_ln]; omega) (by
      simp only [clo, decide_eq_true_eq, List.length_append, rowsM_len, w2, List.length_cons, List.length_nil]
      omega)
    have hset : (rowsM rs ++ .lst (locsP st.length m) :: [MO.lst [PV.int c, .int (ids.getD 23 0)]]).set m (.lst (locsP st.length m ++ [.loc (st.length + (m + 1))])) = rowsM rs ++ .lst (locsP st.length m ++ [.loc (st.length + (m + 1))]) :: [MO.lst [PV.int c, .int (ids.getD 23 0)]] := by
      rw [List.set_append_right _ _ (by rw [rowsM_len, w2]; exact Nat.le_refl _), rowsM_len, w2]
      simp
    rw [hset] at w4
    have lo := w1'.loc (n := st.length + m) (i := m) rfl (by rw [List.getElem?_append_right (by rw [rowsM_len, w2]; exact Nat.le_refl _), rowsM_len, w2]; simp : (rowsM rs ++ [MO.lst (locsP st.length m)])[m]? = some (.lst (locsP st.length m)))
    obtain ⟨bs, st', e, gb, hbl, kk⟩ := tail _ _ _ o5 o6 w4 (fun x hx => by
      rcases List.mem_append.mp hx with hx | hx
      · exact lsr _ x hx
      · refine ⟨m + 1, _, [c, ids.getD 23 0], List.mem_singleton.mp hx, rfl, ?_, by simp, by simp, fun d hd => ?_⟩
        · rw [List.getElem?_append_right (by rw [rowsM_len, w2]; omega), rowsM_len, w2]
          have : m + 1 - m = 1 := by omega
          rw [this]
          rfl
        · simp only [List.mem_cons, List.not_mem_nil, or_false] at hd
          rcases hd with rfl | rfl
          · exact hcr
          · exact hI.rng (by omega)) (by rw [List.length_append, locs_ln]; simp) (by rw [List.length_append, locs_ln]; omega)
    refine ⟨bs, st', ?_, gb, hbl, kk⟩
    have hmt : ∀ xs : List PV, mat true (.tl xs) s7 = (.loc (st.length + (m + 1)), s7 ++ [.lst xs]) := fun xs => by rw [mat_t, hl7]
    dsimp! [t6, hz, lo, hcut, t7, i23, hmt, e4]
    exact e
/-! ### all columns -/
theorem lenN {l : List Int} (N : Nat) (h : l.Nodup) (hr : ∀ i ∈ l, 0 ≤ i ∧ i < (N : Int)) : l.length ≤ N := by
  have key : ∀ (n : Nat) (l : List Int), l.Pairwise (· < ·) → (∀ i ∈ l, (N : Int) - n ≤ i ∧ i < N) → l.length ≤ n := by
    intro n
    induction n with
    | zero =>
      intro l _ h
      cases l with
      | nil => simp
      | cons a r => have := h a (by simp); omega
    | succ n ih =>
      intro l hp h
      cases l with
      | nil => simp
      | cons a r =>
        rw [List.pairwise_cons] at hp
        have ha := h a (by simp)
        have := ih r hp.2 fun i hi => by
          have h1 := hp.1 i hi
          have h2 := h i (List.mem_cons_of_mem _ hi)
          constructor <;> omega
        simp only [List.length_cons]
        omega
  have := key N (srt l) (srt_lt h) fun i hi => by
    have := hr i (mem_srt.mp hi)
    constructor <;> omega
  rwa [len_srt] at this
theorem p_some_book {j k : Nat} (hk : 16 ≤ k) {st : Sto} (hj : Jr j st) {most : Nat} (hm : 3 ≤ most ∧ most ≤ 8) : ∃ bs st', (lev pr k).1 "_law_some_book" [.loc j, .int (most : Int)] st = .ok (bkP bs) st' ∧ GB bs ∧ bs.length ≤ most + 1 ∧ Js j st st' := by
  rw [s__law_some_book (by omega)]
  obtain ⟨r, s1, t1, r0, r1, g1⟩ := p_take (k := k - 1) (by omega) hj (m := 4) (by omega) (by omega)
  have j1 := g1.jr hj
  by_cases h1 : r < 2
  · obtain ⟨bs, s2, t2, g, hl, g2⟩ := p_ringless (k := k - 1) (by omega) j1 (most := most) (by omega)
    have ec := fun v => hj.same (g1.trans g2) _ rfl v
    refine ⟨bs, s2, ?_, g, by omega, g1.trans g2⟩
    dsimp! [t__law_some_book, t1, h1, t2, ec]
  · by_cases h2 : r = 2
    · subst h2
      obtain ⟨q, hq, hq1, hq2⟩ : ∃ q : Nat, (if (most : Int) - 1 > 3 then (most : Int) - 1 else 3) = (q : Int) ∧ 3 ≤ q ∧ q ≤ most := by
        by_cases h : (most : Int) - 1 > 3
        · rw [if_pos h]; exact ⟨most - 1, by omega, by omega, by omega⟩
        · rw [if_neg h]; exact ⟨3, rfl, by omega, by omega⟩
      have hmx : ∀ s : Sto, max2P s [.int 3, .int ((most : Int) - 1)] = some (.int (q : Int)) := fun s => by rw [max2P_int, hq]
      obtain ⟨bs, s2, t2, g, hl, g2⟩ := p_ring_book (k := k - 1) (by omega) j1 (most := q) (by omega)
      have ec := fun v => hj.same (g1.trans g2) _ rfl v
      have o1 : ((2 : Int) == 2) = true := rfl
      refine ⟨bs, s2, ?_, g, by omega, g1.trans g2⟩
      dsimp! [t__law_some_book, t1, h1, o1, hmx, t2, ec]
    · obtain ⟨bs, s2, t2, g, hl, g2⟩ := p_hung_book (k := k - 1) (by omega) j1 (wide := 6) (most := most) (by omega) (by omega)
      have t2' : (lev pr (k - 1)).1 "_law_hung_book" [.loc j, .int (most : Int), .int 6] s1 = .ok (bkP bs) s2 := t2
      have ec := fun v => hj.same (g1.trans g2) _ rfl v
      have o1 : (r == 2) = false := by rw [beq_eq_false_iff_ne]; exact h2
      refine ⟨bs, s2, ?_, g, by omega, g1.trans g2⟩
      dsimp! [t__law_some_book, t1, h1, o1, t2', ec]
/-! ### groups of sources -/
def grP (L : List Nat) : PV := scP (L.map fun (i : Nat) => (i : Int))
structure Gr (n : Nat) (L : List Nat) : Prop where
  ne : L ≠ []
  pw : L.Pairwise (· < ·)
  lt : ∀ i ∈ L, i < n
theorem frz_gr {L : List Nat} : frz (grP L) = grP L := rfl
theorem Gr.ris {n : Nat} {L : List Nat} (h : Gr n L) : risB (grP L) (n : Int) = true := by
  unfold grP scP
  refine ris_of (inc_of ?_) fun c hc => ?_
  · rw [List.pairwise_map]
    exact h.pw.imp fun h => by omega
  · obtain ⟨i, hi, rfl⟩ := List.mem_map.mp hc
    have := h.lt i hi
    omega
theorem Gr.nodup {n : Nat} {L : List Nat} (h : Gr n L) : L.Nodup := h.pw.imp fun h => by omega
theorem Gr.len {n : Nat} {L : List Nat} (h : Gr n L) : L.length ≤ n := by
  have := lenN (l := L.map fun (i : Nat) => (i : Int)) n (by
    rw [List.nodup_iff_pairwise_ne, List.pairwise_map]
    exact h.nodup.imp fun h e => h (by omega)) fun c hc => by
    obtain ⟨i, hi, rfl⟩ := List.mem_map.mp hc
    have := h.lt i hi
    omega
  simpa using this
theorem Gr.ph {L : List Nat} : Ph 1 (grP L) := .tup _ fun y hy => by
  obtain ⟨i, _, rfl⟩ := List.mem_map.mp hy
  exact .int i
theorem ints_nat {ns : List Int} (h : ∀ c ∈ ns, 0 ≤ c) : (ns.map Int.toNat).map (fun (i : Nat) => (i : Int)) = ns := by
  rw [List.map_map]
  conv => rhs; rw [← List.map_id ns]
  exact List.map_congr_left fun c hc => by have := h c hc; simp; omega
theorem gr_srt {n : Nat} {ns : List Int} (h1 : ns.Nodup) (h2 : ∀ c ∈ ns, 0 ≤ c ∧ c < (n : Int)) (h3 : ns ≠ []) : ∃ L, scP (srt ns) = grP L ∧ Gr n L ∧ ∀ i : Nat, i ∈ L ↔ (i : Int) ∈ ns := by
  have hm : ∀ c ∈ srt ns, 0 ≤ c ∧ c < (n : Int) := fun c hc => h2 c (mem_srt.mp hc)
  have e := ints_nat fun c hc => (hm c hc).1
  have hmem : ∀ i : Nat, i ∈ (srt ns).map Int.toNat ↔ (i : Int) ∈ ns := fun i => by
    constructor
    · intro hi
      obtain ⟨c, hc, rfl⟩ := List.mem_map.mp hi
      have := hm c hc
      have e2 : ((c.toNat : Nat) : Int) = c := by omega
      rw [e2]
      exact mem_srt.mp hc
    · intro hi
      exact List.mem_map.mpr ⟨_, mem_srt.mpr hi, by simp⟩
  refine ⟨(srt ns).map Int.toNat, by unfold grP; rw [e], ⟨?_, ?_, fun i hi => ?_⟩, hmem⟩
  · intro e0
    rw [List.map_eq_nil_iff] at e0
    have := len_srt (ns := ns)
    rw [e0] at this
    exact h3 (List.length_eq_zero_iff.mp this.symm)
  · rw [List.pairwise_map]
    refine List.Pairwise.imp_of_mem (fun {a b} ha hb h => ?_) (srt_lt h1)
    have := hm a ha
    have := hm b hb
    omega
  · have := h2 _ ((hmem i).mp hi)
    omega
def Cl24 (a : List Int) : Prop := a.Nodup ∧ ∀ i ∈ a, 0 ≤ i ∧ i < 24
theorem Cl24.len {a : List Int} (h : Cl24 a) : a.length ≤ 24 := lenN 24 h.1 h.2
theorem Cl24.add {a : List Int} {c : Int} (h : Cl24 a) (hc : 0 ≤ c ∧ c < 24) : Cl24 (addI a c) := ⟨nodup_addI h.1, fun i hi => by
  rcases mem_addI.mp hi with hi | rfl
  · exact h.2 i hi
  · exact hc⟩
theorem Cl24.fold {s : List Int} : ∀ {a : List Int}, Cl24 a → (∀ i ∈ s, 0 ≤ i ∧ i < 24) → Cl24 (s.foldl addI a) := by
  induction s with
  | nil => exact fun h _ => h
  | cons c s ih => exact fun h hs => ih (h.add (hs c (by simp))) fun i hi => hs i (List.mem_cons_of_mem _ hi)
theorem sc1_fold {env : En} (hl : 3 < env.length) : ∀ (s a : List Int) (st : Sto), Cl24 a → (∀ i ∈ s, 0 ≤ i ∧ i < 24) → sc1 (bName 3) (dV 3) env (s.map .int) a st = .ok (s.foldl addI a) st
  | [], a, st, _, _ => rfl
  | c :: s, a, st, h, hs => by
    have e1 : dV 3 (env.set 3 (some (PV.int c))) st = .ok (.int c) st := by
      have : (env.set 3 (some (PV.int c)))[3]? = some (some (.int c)) := List.getElem?_set_self hl
      simp [dV_ap, this, oV_s]
    rw [List.map_cons]
    unfold sc1
    simp only [bName, frz_int, e1]
    rw [if_pos (by have := h.len; omega), sc1_fold hl s _ _ (h.add (hs c (by simp))) fun i hi => hs i (List.mem_cons_of_mem _ hi)]
    rfl
def allC (l : List (List Int)) (a : List Int) : List Int := l.foldl (fun a s => s.foldl addI a) a
theorem Cl24.all {l : List (List Int)} : ∀ {a : List Int}, Cl24 a → (∀ s ∈ l, ∀ i ∈ s, 0 ≤ i ∧ i < 24) → Cl24 (allC l a) := by
  induction l with
  | nil => exact fun h _ => h
  | cons s l ih => exact fun h hs => ih (h.fold (hs s (by simp))) fun t ht => hs t (List.mem_cons_of_mem _ ht)
theorem sc0_fold {bs : List (List Int)} {y : PV} (g : GB bs) : ∀ (l : List Nat) (a : List Int) (st : Sto), Cl24 a → (∀ i ∈ l, i < bs.length) → sc0 (bName 2) (dSeqI (d2 ixP (dV 0) (dV 2))) (bName 3) (dV 3) [3] [some (bkP bs), some y, none, none] (l.map fun (k : Nat) => PV.int (k : Int)) a st = .ok (allC (l.map fun i => bs.getD i []) a) st
  | [], a, st, _, _ => rfl
  | i :: l, a, st, h, hs => by
    have hi := hs i (by simp)
    have hm := g.ok _ (Bb.getD_mem (d := []) hi)
    have e1 := at_bk hi
    have e2 : (dSeqI (d2 ixP (dV 0) (dV 2))) [some (bkP bs), some y, some (.int (i : Int)), none] st = .ok ((bs.getD i []).map .int, none) st := by
      have e3 : ∀ s, frz (scP s) = scP s := fun s => rfl
      have e4 : ∀ s st, seqI st (scP s) = some (s.map .int, none) := fun s st => rfl
      unfold bkP
      dsimp! [ixP_tup, e1, e3, e4]
    rw [List.map_cons]
    unfold sc0
    simp only [bName, frz_int, List.set_cons_succ, List.set_cons_zero, e2, wipeE]
    rw [sc1_fold (by simp) _ a st h hm.2.1]
    dsimp only
    rw [sc0_fold g l _ st (h.fold hm.2.1) fun j hj => hs j (List.mem_cons_of_mem _ hj)]
    rfl
theorem sm24 {h : Nat} {i : Int} (h0 : 0 ≤ i) (h1 : i < 25) : Sm h 2 (.int i) := by
  refine Sm.int' (by omega) ?_
  have key : ∀ k : Fin 25, (Str.ofString (toString (k.val : Int))).length ≤ 2 := by decide +kernel
  have := key ⟨i.toNat, by omega⟩
  have e : ((i.toNat : Nat) : Int) = i := by omega
  simp only [e] at this
  exact this
theorem sm_sc {s : List Int} (h : ∀ i ∈ s, 0 ≤ i ∧ i < 25) (hl : s.length ≤ 100) : Sm 1 500 (scP s) := by
  have h2 : s.length * (2 + 2) ≤ 100 * (2 + 2) := Nat.mul_le_mul_right _ hl
  have := Sm.tup (Sms.all (h := 0) (n := 2) (xs := s.map .int) fun y hy => by
    obtain ⟨i, hi, rfl⟩ := List.mem_map.mp hy
    exact sm24 (h i hi).1 (h i hi).2)
  rw [List.length_map] at this
  exact this.mono (by omega) (by omega)
theorem bk_ln {bs : List (List Int)} {st : Sto} : lenP st [bkP bs] = some (.int (bs.length : Int)) := by simp [bkP, lenP_tup]
theorem ix_bk {bs : List (List Int)} {i : Nat} (h : i < bs.length) {st : Sto} : ixP st (bkP bs) (.int (i : Int)) = some (scP (bs.getD i [])) := by
  unfold bkP
  rw [ixP_tup, at_bk h]
  rfl
/-! ### groups that are asked for -/
def grB (n : Nat) (x : PV) : Bool := risB x (n : Int) && match x with
  | .tup [] => false
  | _ => true
theorem p_is_group {h k : Nat} (hk : 5 ≤ k) {bs : List (List Int)} {x : PV} (hx : Ph h x) (st : Sto) (hz : ∀ xs, x = .tup xs → xs.length ≤ 8388608) : (lev pr k).1 "is_group" [bkP bs, x] st = .ok (.bl (grB bs.length x)) st := by
  rw [s_is_group (by omega)]
  have f := hx.frz
  have e1 := p_is_rising (k := k - 1) (by omega) hx (bs.length : Int) st hz
  unfold grB
  cases q : risB x (bs.length : Int) with
  | false =>
    rw [q] at e1
    dsimp! [t_is_group, f, frz_bk, bk_ln, e1]
  | true =>
    rw [q] at e1
    obtain ⟨ns, rfl, _, _⟩ := ris_tup q
    have e2 := neT (st := st) ns
    have e2' : eqP true st (.tup (ns.map .int)) (.tup []) = some (.bl (ns != [])) := e2
    dsimp! [t_is_group, frz_bk, bk_ln, e1, e2']
    cases ns <;> rfl
theorem p_want_group {h k : Nat} (hk : 6 ≤ k) {bs : List (List Int)} {x : PV} (hx : Ph h x) (st : Sto) (hz : ∀ xs, x = .tup xs → xs.length ≤ 8388608) : (lev pr k).1 "want_group" [bkP bs, x] st = if grB bs.length x = true then .ok .non st else .ex "BadGroup" (.int (-1)) st := by
  rw [s_want_group (by omega)]
  have f := hx.frz
  have e1 := p_is_group (k := k - 1) (by omega) (bs := bs) hx st hz
  cases q : grB bs.length x with
  | false =>
    rw [q] at e1
    dsimp! [t_want_group, f, frz_bk, e1]
  | true =>
    rw [q] at e1
    dsimp! [t_want_group, f, frz_bk, e1]
theorem Gr.grB {n : Nat} {L : List Nat} (h : Gr n L) : grB n (grP L) = true := by
  unfold K01.grB
  rw [h.ris]
  cases L with
  | nil => exact absurd rfl h.ne
  | cons a r => rfl
theorem Gr.hz {n : Nat} (hn : n ≤ 12) {L : List Nat} (h : Gr n L) : ∀ xs, grP L = .tup xs → xs.length ≤ 8388608 := fun xs e => by
  cases e
  have := h.len
  simp
  omega
theorem gr_seq {L : List Nat} {st : Sto} : seqI st (grP L) = some (L.map (fun (i : Nat) => PV.int (i : Int)), none) := by
  unfold grP scP
  rw [seqI_tup, List.map_map]
  rfl
theorem in_gr {neg : Bool} {i : Nat} {L : List Nat} {st : Sto} : inP neg st (.int (i : Int)) (grP L) = some (.bl (decide (i ∈ L) != neg)) := by
  unfold grP
  rw [in_sc]
  congr 3
  rw [Bool.eq_iff_iff]
  simp only [List.contains_eq_mem, decide_eq_true_eq, List.mem_map]
  exact ⟨fun ⟨a, ha, e⟩ => by have : a = i := by omega
                              rw [← this]; exact ha, fun h => ⟨i, h, rfl⟩⟩
/-! ### what meets -/
def colsL (bs : List (List Int)) (L : List Nat) : List Int := srt (allC (L.map fun i => bs.getD i []) [])
theorem p_columns_of {k : Nat} (hk : 1 ≤ k) {bs : List (List Int)} (g : GB bs) {L : List Nat} (hL : Gr bs.length L) (st : Sto) : (lev pr k).1 "columns_of" [bkP bs, grP L] st = .ok (scP (colsL bs L)) st := by
  rw [s_columns_of (by omega)]
  have cl0 : Cl24 [] := ⟨by simp, by simp⟩
  have e1 := sc0_fold (y := grP L) g L [] st cl0 hL.lt
  have hl := (Cl24.all cl0 (l := L.map fun i => bs.getD i []) fun s hs => by
    obtain ⟨i, hi, rfl⟩ := List.mem_map.mp hs
    exact (g.ok _ (Bb.getD_mem (hL.lt i hi))).2.1).len
  have e2 : dSrtSet (dSeqI (dV 1)) (bName 2) (dSeqI (d2 ixP (dV 0) (dV 2))) (bName 3) (dV 3) [2, 3] [3] [some (bkP bs), some (grP L), none, none] st = .ok (.tl ((colsL bs L).map .int)) st := by
    unfold dSrtSet
    have e3 : (dSeqI (dV 1)) [some (bkP bs), some (grP L), none, none] st = .ok (L.map (fun (k : Nat) => PV.int (k : Int)), none) st := by
      rw [dSeqI_ap]
      dsimp! [gr_seq]
    rw [e3]
    simp only [R.bind_ok, wipeE, List.set_cons_succ, List.set_cons_zero, e1]
    rw [if_pos (by omega)]
    rfl
  dsimp! [t_columns_of, frz_bk, frz_gr, e2]
  rfl
theorem mem_fold {s : List Int} : ∀ {a : List Int} {c : Int}, c ∈ s.foldl addI a ↔ c ∈ a ∨ c ∈ s := by
  induction s with
  | nil => simp
  | cons x s ih =>
    intro a c
    rw [List.foldl_cons, ih, mem_addI, List.mem_cons]
    constructor
    · rintro ((h | h) | h)
      · exact .inl h
      · exact .inr (.inl h)
      · exact .inr (.inr h)
    · rintro (h | h | h)
      · exact .inl (.inl h)
      · exact .inl (.inr h)
      · exact .inr h
theorem mem_allC {l : List (List Int)} : ∀ {a : List Int} {c : Int}, c ∈ allC l a ↔ c ∈ a ∨ ∃ s ∈ l, c ∈ s := by
  induction l with
  | nil => simp [allC]
  | cons s l ih =>
    intro a c
    show c ∈ allC l (s.foldl addI a) ↔ _
    rw [ih, mem_fold]
    simp only [List.mem_cons, exists_eq_or_imp]
    constructor
    · rintro ((h | h) | h)
      · exact .inl h
      · exact .inr (.inl h)
      · exact .inr (.inr h)
    · rintro (h | h | h)
      · exact .inl (.inl h)
      · exact .inl (.inr h)
      · exact .inr h
theorem mem_cols {bs : List (List Int)} {L : List Nat} {c : Int} : c ∈ colsL bs L ↔ ∃ i ∈ L, c ∈ bs.getD i [] := by
  unfold colsL
  rw [mem_srt, mem_allC]
  constructor
  · rintro (h | ⟨s, hs, h⟩)
    · cases h
    · obtain ⟨i, hi, rfl⟩ := List.mem_map.mp hs
      exact ⟨i, hi, h⟩
  · rintro ⟨i, hi, h⟩
    exact .inr ⟨_, List.mem_map.mpr ⟨i, hi, rfl⟩, h⟩
theorem cols_cl {bs : List (List Int)} (g : GB bs) {L : List Nat} (hL : Gr bs.length L) : Cl24 (allC (L.map fun i => bs.getD i []) []) := Cl24.all ⟨by simp, by simp⟩ fun s hs => by
  obtain ⟨i, hi, rfl⟩ := List.mem_map.mp hs
  exact (g.ok _ (Bb.getD_mem (hL.lt i hi))).2.1
theorem cols_lt {bs : List (List Int)} (g : GB bs) {L : List Nat} (hL : Gr bs.length L) : (colsL bs L).Pairwise (· < ·) := srt_lt (cols_cl g hL).1
theorem cols_rg {bs : List (List Int)} (g : GB bs) {L : List Nat} (hL : Gr bs.length L) : ∀ c ∈ colsL bs L, 0 ≤ c ∧ c < 24 := fun c hc => (cols_cl g hL).2 c (mem_srt.mp hc)
theorem ext_lt {l m : List Int} (hl : l.Pairwise (· < ·)) (hm : m.Pairwise (· < ·)) (h : ∀ c, c ∈ l ↔ c ∈ m) : l = m := by
  have nl : l.Nodup := hl.imp fun h => by omega
  have nm : m.Nodup := hm.imp fun h => by omega
  have p : l.Perm m := (List.perm_ext_iff_of_nodup nl nm).mpr h
  have a := srt_unique p (hl.imp fun h => Int.le_of_lt h)
  have b := srt_unique (List.Perm.refl m) (hm.imp fun h => Int.le_of_lt h)
  rw [a, ← b]
theorem com_mem {a b : List Int} {c : Int} : c ∈ common a b ↔ c ∈ a ∧ c ∈ b := by
  unfold common
  simp [List.mem_filter]
theorem com_sym {a b : List Int} (ha : isInc a = true) (hb : isInc b = true) : common b a = common a b := by
  refine ext_lt ((inc_pw hb).filter _) ((inc_pw ha).filter _) fun c => ?_
  have h1 := com_mem (a := b) (b := a) (c := c)
  have h2 := com_mem (a := a) (b := b) (c := c)
  rw [h1, h2]
  exact and_comm
theorem near_sym {bs : List (List Int)} (g : GB bs) {i j : Nat} (hi : i < bs.length) (hj : j < bs.length) : nearB bs j i = nearB bs i j := by
  unfold nearB
  rw [com_sym (g.ok _ (Bb.getD_mem hi)).1 (g.ok _ (Bb.getD_mem hj)).1]
  congr 1
  rw [Bool.eq_iff_iff, bne_iff_ne, bne_iff_ne]
  exact ne_comm
theorem ne_ints {st : Sto} {ns : List Int} : eqP true st (.tl (ns.map .int)) (.tl []) = some (.bl (!ns.isEmpty)) := by
  have := eqP_lst (neg := true) (st := st) (x := .tl (ns.map .int)) (y := .tl []) (ns := ns) (ms := []) rfl rfl
  rw [this]
  cases ns <;> rfl
def nI (k : Nat) : PV := .int (k : Int)
theorem ints_nI (L : List Nat) : L.map nI = (L.map fun (k : Nat) => (k : Int)).map .int := by rw [List.map_map]; rfl
theorem ne_nats {st : Sto} {L : List Nat} : eqP true st (.tl (L.map nI)) (.tl []) = some (.bl (!L.isEmpty)) := by
  rw [ints_nI, ne_ints]
  cases L <;> rfl
theorem nI_frz (L : List Nat) : (L.map fun a => frz (nI a)) = L.map nI := rfl
theorem lenNat {M : List Nat} {n : Nat} (h : M.Nodup) (hr : ∀ i ∈ M, i < n) : M.length ≤ n := by
  have := lenN (l := M.map fun (i : Nat) => (i : Int)) n (by
    rw [List.nodup_iff_pairwise_ne, List.pairwise_map]
    exact h.imp fun h e => h (by omega)) fun c hc => by
    obtain ⟨i, hi, rfl⟩ := List.mem_map.mp hc
    have := hr i hi
    omega
  simpa using this
/-! ### what hangs on a source -/
inductive Re (bs : List (List Int)) (L : List Nat) (s : Nat) : Nat → Prop
  | refl : Re bs L s s
  | step {x y : Nat} (h : Re bs L s x) (hy : y ∈ L) (hn : nearB bs x y = true) : Re bs L s y
open Classical in
noncomputable def cmp (bs : List (List Int)) (L : List Nat) (s : Nat) : List Nat := L.filter fun y => decide (Re bs L s y)
theorem cmp_mem {bs : List (List Int)} {L : List Nat} {s y : Nat} : y ∈ cmp bs L s ↔ y ∈ L ∧ Re bs L s y := by
  classical
  unfold cmp
  rw [List.mem_filter, decide_eq_true_eq]
structure Clo (bs : List (List Int)) (L : List Nat) (s : Nat) (M : List Nat) : Prop where
  nd : M.Nodup
  hs : s ∈ M
  re : ∀ x ∈ M, x ∈ L ∧ Re bs L s x
theorem Clo.grow {bs : List (List Int)} {L M C : List Nat} {s : Nat} (h : Clo bs L s M) (hc : C.Nodup) (h1 : ∀ y ∈ C, y ∉ M) (h2 : ∀ y ∈ C, y ∈ L ∧ Re bs L s y) : Clo bs L s (M ++ C) where
  nd := List.nodup_append.mpr ⟨h.nd, hc, fun a ha b hb e => h1 b hb (e ▸ ha)⟩
  hs := List.mem_append_left _ h.hs
  re := fun x hx => (List.mem_append.mp hx).elim (h.re x) (h2 x)
theorem Clo.len {bs : List (List Int)} {n : Nat} {L M : List Nat} {s : Nat} (hL : Gr n L) (h : Clo bs L s M) : M.length ≤ n := lenNat h.nd fun i hi => hL.lt i (h.re i hi).1
theorem cmp_eq {bs : List (List Int)} {n : Nat} {L M : List Nat} {s : Nat} (hL : Gr n L) (h : Clo bs L s M) (hcl : ∀ x ∈ M, ∀ y ∈ L, nearB bs x y = true → y ∈ M) : scP (srt (M.map fun (i : Nat) => (i : Int))) = grP (cmp bs L s) := by
  have hall : ∀ y, Re bs L s y → y ∈ M := fun y hy => by
    induction hy with
    | refl => exact h.hs
    | step _ hy hn ih => exact hcl _ ih _ hy hn
  unfold grP
  congr 1
  refine ext_lt (srt_lt ?_) ?_ fun c => ?_
  · rw [List.nodup_iff_pairwise_ne, List.pairwise_map]
    exact h.nd.imp fun h e => h (by omega)
  · rw [List.pairwise_map]
    exact (hL.pw.filter _).imp fun h => by omega
  · rw [mem_srt, List.mem_map, List.mem_map]
    constructor
    · rintro ⟨i, hi, rfl⟩
      exact ⟨i, cmp_mem.mpr (h.re i hi), rfl⟩
    · rintro ⟨i, hi, rfl⟩
      exact ⟨i, hall i (cmp_mem.mp hi).2, rfl⟩
theorem cmp_gr {bs : List (List Int)} {n : Nat} {L : List Nat} {s : Nat} (hL : Gr n L) (hs : s ∈ L) : Gr n (cmp bs L s) where
  ne := fun e => by
    have := cmp_mem.mpr ⟨hs, Re.refl (bs := bs) (L := L) (s := s)⟩
    rw [e] at this
    cases this
  pw := hL.pw.filter _
  lt := fun i hi => hL.lt i (cmp_mem.mp hi).1
/-! ### the program's walk -/
theorem gr_seqN {L : List Nat} {st : Sto} : seqI st (grP L) = some (L.map nI, none) := gr_seq
theorem nI_mem {neg : Bool} {st : Sto} {n i : Nat} {M : List Nat} (h : st[n]? = some (.lst (M.map nI))) : inP neg st (.int (i : Int)) (.loc n) = some (.bl (decide (i ∈ M) != neg)) := by
  rw [inP_ints (ns := M.map fun (k : Nat) => (k : Int)) (by rw [asS_at h, ints_nI])]
  congr 3
  rw [Bool.eq_iff_iff]
  simp only [List.contains_eq_mem, decide_eq_true_eq, List.mem_map]
  exact ⟨fun ⟨a, ha, e⟩ => by have : a = i := by omega
                              rw [← this]; exact ha, fun h => ⟨i, h, rfl⟩⟩
theorem nI_ne {st : Sto} {n : Nat} {M : List Nat} (h : st[n]? = some (.lst (M.map nI))) : eqP true st (.loc n) (.tl []) = some (.bl (!M.isEmpty)) := by
  rw [eqP_lst (ns := M.map fun (k : Nat) => (k : Int)) (ms := []) (by rw [asL_at h, ints_nI]) rfl]
  cases M <;> rfl
theorem nI_clos {m : Nat} (C : List Nat) : clos m (C.map nI) = true := clos_all.mpr fun x hx => by
  obtain ⟨i, _, rfl⟩ := List.mem_map.mp hx
  exact clo_int
def ltrB (bs : List (List Int)) (M : List Nat) (x y : Nat) : Bool := !decide (y ∈ M) && nearB bs x y
theorem later_loop {k : Nat} (hk : 2 ≤ k) {bs : List (List Int)} {L M : List Nat} (hL : ∀ i ∈ L, i < bs.length) {x n : Nat} (hx : x < bs.length) {e2 e4 e6 : Option PV} {st : Sto} (h : st[n]? = some (.lst (M.map nI))) : lcL none (L.map nI) (bName 7) (dAndT (dTru asB (d2 (inP true) (dV 7) (dV 3))) (dTru truP (dCall ((lev pr k).1 "are_neighbours") (dCons (dV 0) (dCons (dV 5) (dCons (dV 7) dNil)))))) (dV 7) [some (bkP bs), some (grP L), e2, some (.loc n), e4, some (.int (x : Int)), e6, none] (L.map nI) [] st = .ok (.tl ((L.filter (ltrB bs M x)).map nI)) st := by
  rw [lc_fil (g := nI) (p := ltrB bs M x) (f := nI)]
  · rfl
  · intro y hy
    have e1 := nI_mem (neg := true) (i := y) h
    have e2 := p_are_neighbours (k := k) hk hx (hL y hy) st
    have fy : frz (nI y) = .int (y : Int) := rfl
    unfold ltrB
    by_cases hm : y ∈ M
    · dsimp! [oR_s, fy, e1, hm]
    · dsimp! [oR_s, fy, e1, hm, frz_bk, e2]
  · intro y hy _
    have fy : frz (nI y) = .int (y : Int) := rfl
    dsimp! [oR_s, fy]
    rfl
theorem frz_nI {i : Nat} : frz (nI i) = .int (i : Int) := rfl
theorem nI_eq {i : Nat} : PV.int (i : Int) = nI i := rfl
theorem p_piece_with {j k : Nat} (hk : 3 ≤ k) {bs : List (List Int)} (g : GB bs) {L : List Nat} (hL : Gr bs.length L) {s0 : Nat} (hs : s0 ∈ L) {st : Sto} (hj : Jr j st) : ∃ st', (lev pr k).1 "piece_with" [bkP bs, grP L, .int (s0 : Int)] st = .ok (grP (cmp bs L s0)) st' ∧ Js j st st' := by
  rw [s_piece_with (by omega)]
  have n12 := g.n12
  dsimp! [t_piece_with, frz_bk, frz_gr]
  generalize hF : sWhile _ _ _ _ = X
  have o1 : Own j st [.lst [nI s0]] (st ++ [.lst [nI s0]]) := (Own.nil hj).push (by simp [cloM, clos, clo, nI])
  have o2 : Own j st [.lst [nI s0], .lst [nI s0]] ((st ++ [.lst [nI s0]]) ++ [.lst [nI s0]]) := o1.push (by simp [cloM, clos, clo, nI])
  obtain ⟨e, s, rfl, hfin⟩ := while_st hF (fun m env s => ∃ (o5 o6 : Option PV) (M W : List Nat), env = [some (bkP bs), some (grP L), some (.int (s0 : Int)), some (.loc st.length), some (.loc (st.length + 1)), o5, o6, none] ∧ Own j st [.lst (M.map nI), .lst (W.map nI)] s ∧ Clo bs L s0 M ∧ (∀ x ∈ W, x ∈ M) ∧ (∀ x ∈ M, x ∉ W → ∀ y ∈ L, nearB bs x y = true → y ∈ M) ∧ m = 2 * (12 - M.length) + W.length ∧ m ≤ 100)
    (fun env s => ∃ (o5 o6 : Option PV) (M : List Nat), env = [some (bkP bs), some (grP L), some (.int (s0 : Int)), some (.loc st.length), some (.loc (st.length + 1)), o5, o6, none] ∧ Own j st [.lst (M.map nI), .lst []] s ∧ Clo bs L s0 M ∧ (∀ x ∈ M, ∀ y ∈ L, nearB bs x y = true → y ∈ M))
    23 ⟨none, none, [s0], [s0], by simp, by simpa [nI] using o2, ⟨by simp, by simp, fun x hx => by rw [List.mem_singleton.mp hx]; exact ⟨hs, .refl⟩⟩, by simp, fun x hx h => absurd hx h, by simp, by omega⟩
    (by
      rintro m env s ⟨o5, o6, M, W, rfl, q1, q2, q3, q4, q5, q6⟩ F' J' hF' hJ'
      have hMl := q2.len hL
      have at0 := q1.at (n := st.length) (i := 0) rfl rfl
      have at1 := q1.at (n := st.length + 1) (i := 1) rfl rfl
      have ene := nI_ne at1
      cases hW : W.isEmpty with
      | true =>
        have hW0 : W = [] := List.isEmpty_iff.mp hW
        subst hW0
        dsimp! [ene, WhC]
        exact hF' _ _ ⟨_, _, M, rfl, q1, q2, fun x hx => q4 x hx (by simp)⟩
      | false =>
        obtain ⟨W0, x, rfl⟩ : ∃ W0 x, W = W0 ++ [x] := by
          have hne : W ≠ [] := fun e => by rw [e] at hW; cases hW
          exact ⟨W.dropLast, W.getLast hne, (List.dropLast_concat_getLast hne).symm⟩
        rw [hW] at ene
        have hxM := q3 x (by simp)
        have hxL := (q2.re x hxM).1
        rw [List.map_append] at q1
        obtain ⟨ep, op⟩ := q1.pop (n := st.length + 1) (i := 1) (v := nI x) (xs := W0.map nI) rfl rfl
        have op : Own j st [.lst (M.map nI), .lst (W0.map nI)] _ := op
        have at0' := op.at (n := st.length) (i := 0) rfl rfl
        have el := later_loop (k := k - 1) (by omega) hL.lt (hL.lt x hxL) (e2 := some (.int (s0 : Int))) (e4 := some (.loc (st.length + 1))) (e6 := o6) at0'
        obtain ⟨C, hC⟩ : ∃ C, C = L.filter (ltrB bs M x) := ⟨_, rfl⟩
        rw [← hC] at el
        have hCm : ∀ y, y ∈ C ↔ y ∈ L ∧ y ∉ M ∧ nearB bs x y = true := fun y => by
          rw [hC, List.mem_filter]
          unfold ltrB
          simp
        have hCn : C.Nodup := by rw [hC]; exact hL.nodup.filter _
        have q2' := q2.grow hCn (fun y hy => ((hCm y).mp hy).2.1) fun y hy => ⟨((hCm y).mp hy).1, .step (q2.re x hxM).2 ((hCm y).mp hy).1 ((hCm y).mp hy).2.2⟩
        have hMl' := q2'.len hL
        rw [List.length_append] at hMl' q5
        simp only [List.length_cons, List.length_nil] at q5
        obtain ⟨x1, ox1⟩ := op.extend (n := st.length) (i := 0) (ys := C.map nI) (y := .fl (C.map nI)) rfl rfl rfl (by rw [List.length_map, List.length_map]; omega) (nI_clos C)
        have ox1 : Own j st [.lst (M.map nI ++ C.map nI), .lst (W0.map nI)] _ := ox1
        obtain ⟨x2, ox2⟩ := ox1.extend (n := st.length + 1) (i := 1) (ys := C.map nI) (y := .fl (C.map nI)) rfl rfl rfl (by rw [List.length_map, List.length_map]; omega) (nI_clos C)
        have lo0 := op.loc (n := st.length) (i := 0) rfl rfl
        have lo1 := ox1.loc (n := st.length + 1) (i := 1) rfl rfl
        have lo2 := q1.loc (n := st.length + 1) (i := 1) rfl rfl
        dsimp! [ene, WhC, ep, lo0, lo1, lo2, frz_nI, frz_gr, gr_seqN, el, x1, x2, WhB]
        refine hJ' (2 * (12 - (M ++ C).length) + (W0 ++ C).length) _ _ ?_ ⟨_, _, M ++ C, W0 ++ C, rfl, ?_, q2', ?_, ?_, rfl, ?_⟩
        · rw [List.length_append, List.length_append]; omega
        · rw [List.map_append, List.map_append]; exact ox2
        · intro y hy
          rcases List.mem_append.mp hy with hy | hy
          · exact List.mem_append_left _ (q3 y (List.mem_append_left _ hy))
          · exact List.mem_append_right _ hy
        · intro z hz hzW y hy hn
          have hz1 : z ∉ W0 := fun h => hzW (List.mem_append_left _ h)
          have hz2 : z ∉ C := fun h => hzW (List.mem_append_right _ h)
          have hz3 : z ∈ M := (List.mem_append.mp hz).elim id fun h => absurd h hz2
          by_cases hzx : z = x
          · subst hzx
            by_cases hyM : y ∈ M
            · exact List.mem_append_left _ hyM
            · exact List.mem_append_right _ ((hCm y).mpr ⟨hy, hyM, hn⟩)
          · exact List.mem_append_left _ (q4 z hz3 (by simp [hz1, hzx]) y hy hn)
        · rw [List.length_append, List.length_append]; omega)
  obtain ⟨o5, o6, M, rfl, f1, f2, f3⟩ := hfin
  have at0 := f1.at (n := st.length) (i := 0) rfl rfl
  have eS := srtA_ints (st := s) (y := .loc st.length) (ns := M.map fun (i : Nat) => (i : Int)) (by rw [asS_at at0, ints_nI])
  have eT : tupP s [.fl ((srt (M.map fun (i : Nat) => (i : Int))).map .int)] = some (grP (cmp bs L s0)) := by
    rw [← cmp_eq hL f2 f3]
    rfl
  obtain ⟨s1, ec, k1⟩ := f1.cutV hj (v := grP (cmp bs L s0)) (clo_tup fun x hx => by
    obtain ⟨p, _, rfl⟩ := List.mem_map.mp hx
    exact clo_int) (fun _ z => nomatch z) (fun _ z => nomatch z)
  refine ⟨s1, ?_, k1⟩
  dsimp! [eS, eT, ec]
/-! ### the law's own closing -/
theorem p_common {k : Nat} (hk : 1 ≤ k) {bs : List (List Int)} {i j : Nat} (hi : i < bs.length) (hj : j < bs.length) (st : Sto) : (lev pr k).1 "_law_common_columns" [bkP bs, .int (i : Int), .int (j : Int)] st = .ok (scP (common (bs.getD i []) (bs.getD j []))) st := by
  rw [s__law_common_columns (by omega)]
  have e1 := at_bk hi
  have e2 := com_loop hi hj st
  have e3 : ∀ s, frz (scP s) = scP s := fun s => rfl
  have e4 : ∀ s st, seqI st (scP s) = some (s.map .int, none) := fun s st => rfl
  unfold bkP at e2 ⊢
  dsimp! [t__law_common_columns, ixP_tup, e1, e3, e4, e2]
  rfl
theorem p_are_near {k : Nat} (hk : 2 ≤ k) {bs : List (List Int)} {i j : Nat} (hi : i < bs.length) (hj : j < bs.length) (st : Sto) : (lev pr k).1 "_law_are_near" [bkP bs, .int (i : Int), .int (j : Int)] st = .ok (.bl (nearB bs i j)) st := by
  rw [s__law_are_near (by omega)]
  have e1 := p_common (k := k - 1) (by omega) hi hj st
  have e2 : frz (bkP bs) = bkP bs := rfl
  have e3 := neT (st := st) (common (bs.getD i []) (bs.getD j []))
  unfold nearB
  cases q : ((i : Int) == (j : Int)) with
  | true =>
    have q2 : ((i : Int) != (j : Int)) = false := by simp [bne, q]
    dsimp! [t__law_are_near, q, q2, e2]
  | false =>
    have q2 : ((i : Int) != (j : Int)) = true := by simp [bne, q]
    dsimp! [t__law_are_near, q, q2, e2, e1, e3]
theorem near_loop {k : Nat} (hk : 2 ≤ k) {bs : List (List Int)} {M : List Nat} (hM : ∀ i ∈ M, i < bs.length) {i n : Nat} (hi : i < bs.length) {e1 e2 e4 : Option PV} {st : Sto} (h : st[n]? = some (.lst (M.map nI))) : lcL (some n) (M.map nI) (bName 6) (dTru truP (dCall ((lev pr k).1 "_law_are_near") (dCons (dV 0) (dCons (dV 5) (dCons (dV 6) dNil))))) (dV 6) [some (bkP bs), e1, e2, some (.loc n), e4, some (.int (i : Int)), none] (M.map nI) [] st = .ok (.tl ((M.filter (nearB bs i)).map nI)) st := by
  rw [lcg_fil (g := nI) (show chkP (some n) (M.map nI) st from h) (nearB bs i) nI]
  · rfl
  · intro y hy
    have e2 := p_are_near (k := k) hk hi (hM y hy) st
    dsimp! [oR_s, frz_nI, frz_bk, e2]
  · intro y hy _
    dsimp! [oR_s, frz_nI]
    rfl
def cameB (bs : List (List Int)) (M : List Nat) (i : Nat) : Bool := !decide (i ∈ M) && !(M.filter (nearB bs i)).isEmpty
theorem came_loop {k : Nat} (hk : 2 ≤ k) {bs : List (List Int)} {L M : List Nat} (hL : ∀ i ∈ L, i < bs.length) (hM : ∀ i ∈ M, i < bs.length) {n : Nat} {e2 e4 : Option PV} {st : Sto} (h : st[n]? = some (.lst (M.map nI))) : lcL none (L.map nI) (bName 5) (dAndT (dTru asB (d2 (inP true) (dV 5) (dV 3))) (dTru asB (d2 (eqP true) (dLc (dSeqI (dV 3)) (bName 6) (dTru truP (dCall ((lev pr k).1 "_law_are_near") (dCons (dV 0) (dCons (dV 5) (dCons (dV 6) dNil))))) (dV 6) [6]) (dN (mkL 0) dNil)))) (dV 5) [some (bkP bs), some (grP L), e2, some (.loc n), e4, none, none] (L.map nI) [] st = .ok (.tl ((L.filter (cameB bs M)).map nI)) st := by
  rw [lc_fil (g := nI) (p := cameB bs M) (f := nI)]
  · rfl
  · intro y hy
    have e1 := nI_mem (neg := true) (i := y) h
    have e2 := near_loop (k := k) hk hM (hL y hy) h (e1 := some (grP L)) (e2 := e2) (e4 := e4)
    have e3 : seqI st (.loc n) = some (M.map nI, some n) := seqI_loc h
    unfold cameB
    by_cases hm : y ∈ M
    · dsimp! [oR_s, frz_nI, e1, hm]
    · dsimp! [oR_s, frz_nI, e1, hm, e3, e2, ne_nats]
  · intro y hy _
    dsimp! [oR_s, frz_nI]
    rfl
theorem p_closed {j k : Nat} (hk : 3 ≤ k) {bs : List (List Int)} (g : GB bs) {L : List Nat} (hL : Gr bs.length L) {s0 : Nat} (hs : s0 ∈ L) {st : Sto} (hj : Jr j st) : ∃ st', (lev pr k).1 "_law_closed" [bkP bs, grP L, .int (s0 : Int)] st = .ok (grP (cmp bs L s0)) st' ∧ Js j st st' := by
  rw [s__law_closed (by omega)]
  have n12 := g.n12
  dsimp! [t__law_closed, frz_bk, frz_gr]
  generalize hF : sWhile _ _ _ _ = X
  have o1 : Own j st [.lst [nI s0]] (st ++ [.lst [nI s0]]) := (Own.nil hj).push (by simp [cloM, clos, clo, nI])
  obtain ⟨e, s, rfl, hfin⟩ := while_st hF (fun m env s => ∃ (o5 : Option PV) (M C : List Nat), env = [some (bkP bs), some (grP L), some (.int (s0 : Int)), some (.loc st.length), some (.fl (C.map nI)), none, none] ∧ Own j st [.lst (M.map nI)] s ∧ Clo bs L s0 M ∧ (C = [] → ∀ x ∈ M, ∀ y ∈ L, nearB bs x y = true → y ∈ M) ∧ m = 2 * (12 - M.length) + if C.isEmpty = true then 0 else 1)
    (fun env s => ∃ (o4 : Option PV) (M : List Nat), env = [some (bkP bs), some (grP L), some (.int (s0 : Int)), some (.loc st.length), o4, none, none] ∧ Own j st [.lst (M.map nI)] s ∧ Clo bs L s0 M ∧ (∀ x ∈ M, ∀ y ∈ L, nearB bs x y = true → y ∈ M))
    23 ⟨none, [s0], [s0], by simp [nI], by simpa [nI] using o1, ⟨by simp, by simp, fun x hx => by rw [List.mem_singleton.mp hx]; exact ⟨hs, .refl⟩⟩, by simp, by simp⟩
    (by
      rintro m env s ⟨o5, M, C, rfl, q1, q2, q3, q5⟩ F' J' hF' hJ'
      have hMl := q2.len hL
      have at0 := q1.at (n := st.length) (i := 0) rfl rfl
      have ene : eqP true s (.fl (C.map nI)) (.tl []) = some (.bl (!C.isEmpty)) := ne_nats
      cases hW : C.isEmpty with
      | true =>
        rw [hW] at ene
        dsimp! [ene, WhC]
        exact hF' _ _ ⟨_, M, rfl, q1, q2, q3 (List.isEmpty_iff.mp hW)⟩
      | false =>
        rw [hW] at ene q5
        have hM : ∀ i ∈ M, i < bs.length := fun i hi => hL.lt i (q2.re i hi).1
        have el := came_loop (k := k - 1) (by omega) hL.lt hM (e2 := some (.int (s0 : Int))) (e4 := some (.fl (C.map nI))) at0
        obtain ⟨D, hD⟩ : ∃ D, D = L.filter (cameB bs M) := ⟨_, rfl⟩
        rw [← hD] at el
        have hDm : ∀ y, y ∈ D ↔ y ∈ L ∧ y ∉ M ∧ ∃ x ∈ M, nearB bs y x = true := fun y => by
          rw [hD, List.mem_filter]
          unfold cameB
          rw [Bool.and_eq_true, Bool.not_eq_true', Bool.not_eq_true', decide_eq_false_iff_not]
          have : (M.filter (nearB bs y)).isEmpty = false ↔ ∃ x ∈ M, nearB bs y x = true := by
            constructor
            · intro h
              cases q : M.filter (nearB bs y) with
              | nil => rw [q] at h; cases h
              | cons a r =>
                have := List.mem_filter.mp (q ▸ List.mem_cons_self : a ∈ M.filter (nearB bs y))
                exact ⟨a, this.1, this.2⟩
            · rintro ⟨x, hx, hn⟩
              cases q : M.filter (nearB bs y) with
              | nil =>
                have := List.mem_filter.mpr (⟨hx, hn⟩ : x ∈ M ∧ nearB bs y x = true)
                rw [q] at this
                cases this
              | cons a r => rfl
          rw [this]
        have hDn : D.Nodup := by rw [hD]; exact hL.nodup.filter _
        have q2' := q2.grow hDn (fun y hy => ((hDm y).mp hy).2.1) fun y hy => by
          obtain ⟨h1, h2, x, h3, h4⟩ := (hDm y).mp hy
          refine ⟨h1, .step (q2.re x h3).2 h1 ?_⟩
          rw [near_sym g (hL.lt y h1) (hM x h3)]
          exact h4
        have hMl' := q2'.len hL
        rw [List.length_append] at hMl'
        obtain ⟨x1, ox1⟩ := q1.extend (n := st.length) (i := 0) (ys := D.map nI) (y := .fl (D.map nI)) rfl rfl rfl (by rw [List.length_map, List.length_map]; omega) (nI_clos D)
        have lo0 := q1.loc (n := st.length) (i := 0) rfl rfl
        dsimp! [ene, WhC, lo0, frz_gr, gr_seqN, el, x1, WhB]
        refine hJ' (2 * (12 - (M ++ D).length) + if D.isEmpty = true then 0 else 1) _ _ ?_ ⟨none, M ++ D, D, rfl, ?_, q2', ?_, rfl⟩
        · rw [List.length_append]
          cases D with
          | nil => simp at q5 ⊢; omega
          | cons a r => simp at q5 hMl' ⊢; omega
        · rw [List.map_append]; exact ox1
        · intro hD0 x hx y hy hn
          subst hD0
          rw [List.append_nil] at hx ⊢
          refine Classical.byContradiction fun hyM => ?_
          have := (hDm y).mpr ⟨hy, hyM, x, hx, by rw [near_sym g (hM x hx) (hL.lt y hy)]; exact hn⟩
          cases this)
  obtain ⟨o4, M, rfl, f1, f2, f3⟩ := hfin
  have at0 := f1.at (n := st.length) (i := 0) rfl rfl
  have eS := srtA_ints (st := s) (y := .loc st.length) (ns := M.map fun (i : Nat) => (i : Int)) (by rw [asS_at at0, ints_nI])
  have eT : tupP s [.fl ((srt (M.map fun (i : Nat) => (i : Int))).map .int)] = some (grP (cmp bs L s0)) := by
    rw [← cmp_eq hL f2 f3]
    rfl
  obtain ⟨s1, ec, k1⟩ := f1.cutV hj (v := grP (cmp bs L s0)) (clo_tup fun x hx => by
    obtain ⟨p, _, rfl⟩ := List.mem_map.mp hx
    exact clo_int) (fun _ z => nomatch z) (fun _ z => nomatch z)
  refine ⟨s1, ?_, k1⟩
  dsimp! [eS, eT, ec]
/-! ### pieces -/
noncomputable def pcs (bs : List (List Int)) (L : List Nat) : List Nat → List (List Nat) → List (List Nat)
  | [], acc => acc
  | i :: r, acc => pcs bs L r (if acc.any (fun P => decide (i ∈ P)) = true then acc else acc ++ [cmp bs L i])
theorem pcs_len {bs : List (List Int)} {L : List Nat} : ∀ {l : List Nat} {acc : List (List Nat)}, (pcs bs L l acc).length ≤ acc.length + l.length
  | [], acc => by simp [pcs]
  | i :: r, acc => by
    unfold pcs
    have := pcs_len (bs := bs) (L := L) (l := r) (acc := if acc.any (fun P => decide (i ∈ P)) = true then acc else acc ++ [cmp bs L i])
    split at this <;> simp at this ⊢ <;> (split <;> simp_all <;> omega)
def GrS (n : Nat) (acc : List (List Nat)) : Prop := ∀ P ∈ acc, Gr n P
theorem pcs_gr {bs : List (List Int)} {n : Nat} {L : List Nat} (hL : Gr n L) : ∀ {l : List Nat} {acc : List (List Nat)}, (∀ i ∈ l, i ∈ L) → GrS n acc → GrS n (pcs bs L l acc)
  | [], acc, _, h => h
  | i :: r, acc, hl, h => by
    unfold pcs
    refine pcs_gr hL (fun j hj => hl j (List.mem_cons_of_mem _ hj)) ?_
    split
    · exact h
    · intro P hP
      rcases List.mem_append.mp hP with hP | hP
      · exact h P hP
      · rw [List.mem_singleton.mp hP]; exact cmp_gr hL (hl i List.mem_cons_self)
def pcP (ps : List (List Nat)) : PV := .tup (ps.map grP)
theorem gr_clo {m : Nat} {P : List Nat} : clo m (grP P) = true := clo_tup fun x hx => by
  obtain ⟨p, _, rfl⟩ := List.mem_map.mp hx
  exact clo_int
theorem p_pieces_of {j k : Nat} (hk : 4 ≤ k) {bs : List (List Int)} (g : GB bs) {L : List Nat} (hL : Gr bs.length L) {st : Sto} (hj : Jr j st) : ∃ st', (lev pr k).1 "pieces_of" [bkP bs, grP L] st = .ok (pcP (pcs bs L L [])) st' ∧ Js j st st' := by
  rw [s_pieces_of (by omega)]
  have n12 := g.n12
  have hLl := hL.len
  obtain ⟨T, hT⟩ : ∃ T, T = pcs bs L L [] := ⟨_, rfl⟩
  rw [← hT]
  dsimp! [t_pieces_of, frz_bk, frz_gr, gr_seqN]
  generalize hF : forL none _ _ _ _ _ _ = X
  have h := for_st (g := nI) (l := L) hF (fun l env s => ∃ (o3 : Option PV) (acc : List (List Nat)), env = [some (bkP bs), some (grP L), some (.loc st.length), o3, none] ∧ Own j st [.lst (acc.map grP)] s ∧ pcs bs L l acc = T ∧ (∀ i ∈ l, i ∈ L) ∧ acc.length + l.length ≤ 12)
    (fun r => ∃ (o3 : Option PV) (s : Sto), r = .nx [some (bkP bs), some (grP L), some (.loc st.length), o3, none] s ∧ Own j st [.lst (T.map grP)] s)
    ⟨none, [], rfl, by exact (Own.nil hj).push cloM_nil, hT.symm, fun i hi => hi, by simp; omega⟩
    (by
      rintro env s ⟨o3, acc, rfl, h1, h2, _⟩
      have h2 : acc = T := h2
      subst h2
      exact ⟨_, s, rfl, h1⟩) (by rintro ⟨_, _, h, _⟩; cases h)
    (by
      rintro i l env s ⟨o3, acc, rfl, h1, h2, h3, h4⟩ J K hJ hK
      rw [List.length_cons] at h4
      have at0 := h1.at (n := st.length) (i := 0) rfl rfl
      have e3 : seqI s (.loc st.length) = some (acc.map grP, some st.length) := seqI_loc at0
      have e4 : ∀ o, lcL (some st.length) (acc.map grP) (bName 4) dYes (d2 (inP false) (dV 3) (dV 4)) [some (bkP bs), some (grP L), some (.loc st.length), some (.int (i : Int)), o] (acc.map grP) [] s = .ok (.tl (acc.map fun P => .bl (decide (i ∈ P)))) s := fun o => by
        rw [lcg_map (g := grP) (show chkP (some st.length) (acc.map grP) s from at0) (fun P => .bl (decide (i ∈ P)))]
        · rfl
        · intro P hP
          dsimp! [oR_s, frz_gr, in_gr]
      have e5 := anyP_map (st := s) (fun P : List Nat => decide (i ∈ P)) acc
      have h2 : pcs bs L l (if acc.any (fun P => decide (i ∈ P)) = true then acc else acc ++ [cmp bs L i]) = T := h2
      cases q : acc.any fun P => decide (i ∈ P) with
      | true =>
        rw [q] at e5
        rw [q, if_pos rfl] at h2
        dsimp! [oZ_s, frz_nI, e3, e4, e5, LpQ]
        exact hJ _ _ ⟨_, acc, rfl, h1, h2, fun x hx => h3 x (List.mem_cons_of_mem _ hx), by omega⟩
      | false =>
        rw [q] at e5
        rw [q, if_neg (by simp)] at h2
        obtain ⟨s2, t2, g2⟩ := p_piece_with (k := k - 1) (by omega) g hL (h3 i List.mem_cons_self) (h1.jr hj)
        have h1' := h1.js hj g2
        obtain ⟨ea, oa⟩ := h1'.append (n := st.length) (i := 0) rfl rfl (v := grP (cmp bs L i)) (by rw [List.length_map]; omega) gr_clo
        have lo0 := h1.loc (n := st.length) (i := 0) rfl rfl
        have lo1 := h1'.loc (n := st.length) (i := 0) rfl rfl
        dsimp! [oZ_s, frz_nI, e3, e4, e5, frz_bk, frz_gr, t2, lo0, lo1, ea, LpQ]
        refine hJ _ _ ⟨_, acc ++ [cmp bs L i], rfl, by rw [List.map_append]; exact oa, h2, fun x hx => h3 x (List.mem_cons_of_mem _ hx), by simp; omega⟩)
  obtain ⟨o3, s, rfl, h1⟩ := h
  have et := tupP_at (h1.at (n := st.length) (i := 0) rfl rfl)
  have et : tupP s [.loc st.length] = some (pcP T) := et
  obtain ⟨s1, ec, k1⟩ := h1.cutV hj (v := pcP T) (clo_tup fun x hx => by
    obtain ⟨p, _, rfl⟩ := List.mem_map.mp hx
    exact gr_clo) (fun _ z => nomatch z) (fun _ z => nomatch z)
  refine ⟨s1, ?_, k1⟩
  dsimp! [et, ec]
theorem p_own_pieces {j k : Nat} (hk : 4 ≤ k) {bs : List (List Int)} (g : GB bs) {L : List Nat} (hL : Gr bs.length L) {st : Sto} (hj : Jr j st) : ∃ st', (lev pr k).1 "_law_own_pieces" [bkP bs, grP L] st = .ok (pcP (pcs bs L L [])) st' ∧ Js j st st' := by
  rw [s__law_own_pieces (by omega)]
  have n12 := g.n12
  have hLl := hL.len
  obtain ⟨T, hT⟩ : ∃ T, T = pcs bs L L [] := ⟨_, rfl⟩
  rw [← hT]
  dsimp! [t__law_own_pieces, frz_bk, frz_gr, gr_seqN]
  generalize hF : forL none _ _ _ _ _ _ = X
  have h := for_st (g := nI) (l := L) hF (fun l env s => ∃ (o3 : Option PV) (acc : List (List Nat)), env = [some (bkP bs), some (grP L), some (.loc st.length), o3, none] ∧ Own j st [.lst (acc.map grP)] s ∧ pcs bs L l acc = T ∧ (∀ i ∈ l, i ∈ L) ∧ acc.length + l.length ≤ 12 ∧ GrS bs.length acc)
    (fun r => ∃ (o3 : Option PV) (s : Sto), r = .nx [some (bkP bs), some (grP L), some (.loc st.length), o3, none] s ∧ Own j st [.lst (T.map grP)] s)
    ⟨none, [], rfl, by exact (Own.nil hj).push cloM_nil, hT.symm, fun i hi => hi, by simp; omega, fun _ h => (by cases h)⟩
    (by
      rintro env s ⟨o3, acc, rfl, h1, h2, _⟩
      have h2 : acc = T := h2
      subst h2
      exact ⟨_, s, rfl, h1⟩) (by rintro ⟨_, _, h, _⟩; cases h)
    (by
      rintro i l env s ⟨o3, acc, rfl, h1, h2, h3, h4, h5⟩ J K hJ hK
      rw [List.length_cons] at h4
      have at0 := h1.at (n := st.length) (i := 0) rfl rfl
      have e3 : seqI s (.loc st.length) = some (acc.map grP, some st.length) := seqI_loc at0
      have e4 : ∀ o, lcL (some st.length) (acc.map grP) (bName 4) (dTru asB (d2 (inP false) (dV 3) (dV 4))) (dV 4) [some (bkP bs), some (grP L), some (.loc st.length), some (.int (i : Int)), o] (acc.map grP) [] s = .ok (.tl ((acc.filter fun P => decide (i ∈ P)).map grP)) s := fun o => by
        rw [lcg_fil (g := grP) (show chkP (some st.length) (acc.map grP) s from at0) (fun P => decide (i ∈ P)) grP]
        · rfl
        · intro P hP
          dsimp! [oR_s, frz_gr, in_gr]
        · intro P hP _
          dsimp! [oR_s, frz_gr]
      have e5 : eqP false s (.tl ((acc.filter fun P => decide (i ∈ P)).map grP)) (.tl []) = some (.bl (!acc.any fun P => decide (i ∈ P))) := by
        have := eq_tl_nil (neg := false) (st := s) (hs := 1) (ns := 500) (xs := (acc.filter fun P => decide (i ∈ P)).map grP) (fun x hx => by
          obtain ⟨P, hP, rfl⟩ := List.mem_map.mp hx
          have hg := h5 P (List.mem_filter.mp hP).1
          have := hg.len
          exact sm_sc (s := P.map fun (i : Nat) => (i : Int)) (fun c hc => by
            obtain ⟨y, hy, rfl⟩ := List.mem_map.mp hc
            have := hg.lt y hy
            omega) (by rw [List.length_map]; omega)) (by omega)
        rw [this]
        congr 2
        rw [Bool.eq_iff_iff]
        simp [List.isEmpty_iff, List.filter_eq_nil_iff]
      have h2 : pcs bs L l (if acc.any (fun P => decide (i ∈ P)) = true then acc else acc ++ [cmp bs L i]) = T := h2
      cases q : acc.any fun P => decide (i ∈ P) with
      | true =>
        rw [q] at e5
        rw [q, if_pos rfl] at h2
        dsimp! [oZ_s, frz_nI, e3, e4, e5, LpQ]
        exact hJ _ _ ⟨_, acc, rfl, h1, h2, fun x hx => h3 x (List.mem_cons_of_mem _ hx), by omega, h5⟩
      | false =>
        rw [q] at e5
        rw [q, if_neg (by simp)] at h2
        obtain ⟨s2, t2, g2⟩ := p_closed (k := k - 1) (by omega) g hL (h3 i List.mem_cons_self) (h1.jr hj)
        have h1' := h1.js hj g2
        obtain ⟨ea, oa⟩ := h1'.append (n := st.length) (i := 0) rfl rfl (v := grP (cmp bs L i)) (by rw [List.length_map]; omega) gr_clo
        have lo0 := h1.loc (n := st.length) (i := 0) rfl rfl
        have lo1 := h1'.loc (n := st.length) (i := 0) rfl rfl
        dsimp! [oZ_s, frz_nI, e3, e4, e5, frz_bk, frz_gr, t2, lo0, lo1, ea, LpQ]
        refine hJ _ _ ⟨_, acc ++ [cmp bs L i], rfl, by rw [List.map_append]; exact oa, h2, fun x hx => h3 x (List.mem_cons_of_mem _ hx), by simp; omega, fun P hP => ?_⟩
        rcases List.mem_append.mp hP with hP | hP
        · exact h5 P hP
        · rw [List.mem_singleton.mp hP]; exact cmp_gr hL (h3 i List.mem_cons_self))
  obtain ⟨o3, s, rfl, h1⟩ := h
  have et := tupP_at (h1.at (n := st.length) (i := 0) rfl rfl)
  have et : tupP s [.loc st.length] = some (pcP T) := et
  obtain ⟨s1, ec, k1⟩ := h1.cutV hj (v := pcP T) (clo_tup fun x hx => by
    obtain ⟨p, _, rfl⟩ := List.mem_map.mp hx
    exact gr_clo) (fun _ z => nomatch z) (fun _ z => nomatch z)
  refine ⟨s1, ?_, k1⟩
  dsimp! [et, ec]
/-! ### asked for -/
theorem p_want_ok {k : Nat} (hk : 6 ≤ k) {bs : List (List Int)} (g : GB bs) {L : List Nat} (hL : Gr bs.length L) (st : Sto) : (lev pr k).1 "want_group" [bkP bs, grP L] st = .ok .non st := by
  have e1 := p_want_group (k := k) hk (bs := bs) (Gr.ph (L := L)) st (hL.hz g.n12)
  rwa [hL.grB, if_pos rfl] at e1
theorem p_made_group {k : Nat} (hk : 8 ≤ k) {bs : List (List Int)} (g : GB bs) {L : List Nat} (hL : Gr bs.length L) (st : Sto) : (lev pr k).1 "made_group" [bkP bs, grP L] st = .ok (grP L) st := by
  rw [s_made_group (by omega)]
  have e1 := g.book.made (k := k - 1) (by omega) st
  have e2 := p_want_ok (k := k - 1) (by omega) g hL st
  dsimp! [t_made_group, frz_bk, frz_gr, e1, e2]
theorem p_group_columns {k : Nat} (hk : 8 ≤ k) {bs : List (List Int)} (g : GB bs) {L : List Nat} (hL : Gr bs.length L) (st : Sto) : (lev pr k).1 "group_columns" [bkP bs, grP L] st = .ok (scP (colsL bs L)) st := by
  rw [s_group_columns (by omega)]
  have e1 := g.book.made (k := k - 1) (by omega) st
  have e2 := p_want_ok (k := k - 1) (by omega) g hL st
  have e3 := p_columns_of (k := k - 1) (by omega) g hL st
  dsimp! [t_group_columns, frz_bk, frz_gr, e1, e2, e3]
theorem p_pieces {j k : Nat} (hk : 8 ≤ k) {bs : List (List Int)} (g : GB bs) {L : List Nat} (hL : Gr bs.length L) {st : Sto} (hj : Jr j st) : ∃ st', (lev pr k).1 "pieces" [bkP bs, grP L] st = .ok (pcP (pcs bs L L [])) st' ∧ Js j st st' := by
  rw [s_pieces (by omega)]
  have e1 := g.book.made (k := k - 1) (by omega) st
  have e2 := p_want_ok (k := k - 1) (by omega) g hL st
  obtain ⟨s1, e3, g1⟩ := p_pieces_of (k := k - 1) (by omega) g hL hj
  have ec := fun v => hj.same g1 _ rfl v
  refine ⟨s1, ?_, g1⟩
  dsimp! [t_pieces, frz_bk, frz_gr, e1, e2, e3, ec]
theorem pc_ln {ps : List (List Nat)} {st : Sto} : lenP st [pcP ps] = some (.int (ps.length : Int)) := by simp [pcP, lenP_tup]
theorem frz_pc {ps : List (List Nat)} : frz (pcP ps) = pcP ps := rfl
theorem p_hangs {j k : Nat} (hk : 8 ≤ k) {bs : List (List Int)} (g : GB bs) {L : List Nat} (hL : Gr bs.length L) {st : Sto} (hj : Jr j st) : ∃ st', (lev pr k).1 "hangs" [bkP bs, grP L] st = .ok (.bl (((pcs bs L L []).length : Int) == 1)) st' ∧ Js j st st' := by
  rw [s_hangs (by omega)]
  have e1 := g.book.made (k := k - 1) (by omega) st
  have e2 := p_want_ok (k := k - 1) (by omega) g hL st
  obtain ⟨s1, e3, g1⟩ := p_pieces_of (k := k - 1 - 1) (by omega) g hL hj
  have ec := fun v => hj.same g1 _ rfl v
  have e4 : (lev pr (k - 1)).1 "hangs_of" [bkP bs, grP L] st = .ok (.bl (((pcs bs L L []).length : Int) == 1)) s1 := by
    rw [s_hangs_of (by omega)]
    dsimp! [t_hangs_of, frz_bk, frz_gr, frz_pc, e3, pc_ln, ec]
  refine ⟨s1, ?_, g1⟩
  dsimp! [t_hangs, frz_bk, frz_gr, e1, e2, e4, ec]
/-! ### the law's look at a group -/
def hasB (bs : List (List Int)) (c : Int) (i : Nat) : Bool := (bs.getD i []).contains c
def dueB (bs : List (List Int)) (L : List Nat) (c : Nat) : Bool := !(L.filter (hasB bs c)).isEmpty
theorem has5 {bs : List (List Int)} {L : List Nat} {c : Nat} (h : ∀ i ∈ L, i < bs.length) (st : Sto) {e1 e2 e3 : Option PV} : lcL none (L.map nI) (bName 5) (dTru asB (d2 (inP false) (dV 4) (d2 ixP (dV 0) (dV 5)))) (dV 5) [some (bkP bs), e1, e2, e3, some (.int (c : Int)), none] (L.map nI) [] st = .ok (.tl ((L.filter (hasB bs c)).map nI)) st := by
  rw [lc_fil (g := nI) (p := hasB bs c) (f := nI)]
  · rfl
  · intro i hi
    have i1 := fun s : Sto => ix_bk (h i hi) (st := s)
    dsimp! [oR_s, frz_nI, i1, frz_sc, in_sc]
    rfl
  · intro i hi _
    dsimp! [oR_s, frz_nI]
    rfl
theorem due_cols {bs : List (List Int)} (g : GB bs) {L : List Nat} (hL : Gr bs.length L) : (((List.range 24).filter (dueB bs L)).map fun (c : Nat) => (c : Int)) = colsL bs L := by
  have hm : ∀ (c : Nat) (M : List Nat), (M.filter (hasB bs c)).isEmpty = false ↔ (c : Int) ∈ colsL bs M := fun c M => by
    rw [mem_cols]
    constructor
    · intro h
      cases q : M.filter (hasB bs c) with
      | nil => rw [q] at h; cases h
      | cons a r =>
        have := List.mem_filter.mp (q ▸ List.mem_cons_self : a ∈ M.filter (hasB bs c))
        exact ⟨a, this.1, by simpa [hasB] using this.2⟩
    · rintro ⟨i, hi, h⟩
      cases q : M.filter (hasB bs c) with
      | nil =>
        have := List.mem_filter.mpr (⟨hi, by simpa [hasB] using h⟩ : i ∈ M ∧ hasB bs c i = true)
        rw [q] at this
        cases this
      | cons a r => rfl
  refine ext_lt ?_ (cols_lt g hL) fun c => ?_
  · rw [List.pairwise_map]
    exact (List.pairwise_lt_range.filter _).imp fun h => by omega
  · rw [List.mem_map]
    constructor
    · rintro ⟨a, ha, rfl⟩
      have := (List.mem_filter.mp ha).2
      unfold dueB at this
      rw [Bool.not_eq_true'] at this
      exact (hm a L).mp this
    · intro h1
      have r := cols_rg g hL c h1
      have e : ((c.toNat : Nat) : Int) = c := by omega
      refine ⟨c.toNat, List.mem_filter.mpr ⟨List.mem_range.mpr (by omega), ?_⟩, e⟩
      unfold dueB
      rw [Bool.not_eq_true']
      exact (hm _ L).mpr (by rw [e]; exact h1)
theorem gr_sm {n : Nat} (hn : n ≤ 12) {L : List Nat} (h : Gr n L) : Sm 1 500 (grP L) := by
  have hl := h.len
  exact sm_sc (s := L.map fun (i : Nat) => (i : Int)) (fun c hc => by
    obtain ⟨y, hy, rfl⟩ := List.mem_map.mp hc
    have := h.lt y hy
    omega) (by rw [List.length_map]; omega)
theorem pc_sm {n : Nat} (hn : n ≤ 12) {ps : List (List Nat)} (h : GrS n ps) (hl : ps.length ≤ 12) : Sm 2 7000 (pcP ps) := by
  have := Sm.tup (Sms.all (h := 1) (n := 500) (xs := ps.map grP) fun y hy => by
    obtain ⟨P, hP, rfl⟩ := List.mem_map.mp hy
    exact gr_sm hn (h P hP))
  rw [List.length_map] at this
  have h2 : ps.length * (500 + 2) ≤ 12 * (500 + 2) := Nat.mul_le_mul_right _ hl
  exact this.mono (by omega) (by omega)
theorem p_group_right {j k : Nat} (hk : 9 ≤ k) {bs : List (List Int)} (g : GB bs) {L : List Nat} (hL : Gr bs.length L) {st : Sto} (hj : Jr j st) : ∃ st', (lev pr k).1 "_law_group_right" [bkP bs, grP L] st = .ok (.bl true) st' ∧ Js j st st' := by
  rw [s__law_group_right (by omega)]
  have n12 := g.n12
  have hLl := hL.len
  have e1 := p_made_group (k := k - 1) (by omega) g hL st
  have e2 := p_group_columns (k := k - 1) (by omega) g hL st
  obtain ⟨s1, t1, g1⟩ := p_own_pieces (k := k - 1) (by omega) g hL hj
  have j1 := g1.jr hj
  obtain ⟨s2, t2, g2⟩ := p_pieces (k := k - 1) (by omega) g hL j1
  have j2 := g2.jr j1
  obtain ⟨s3, t3, g3⟩ := p_hangs (k := k - 1) (by omega) g hL j2
  have gg := (g1.trans g2).trans g3
  have ec := fun v => hj.same gg _ rfl v
  obtain ⟨z1, r1, q1⟩ := same_of (st := st) ⟨1, 500, by omega, by omega, gr_sm n12 hL⟩
  have hcl := (cols_cl g hL).len
  have hcl2 : (colsL bs L).length ≤ 24 := by unfold colsL; rw [len_srt]; exact hcl
  obtain ⟨z2, r2, q2⟩ := same_of (st := st) ⟨1, 500, by omega, by omega, sm_sc (s := colsL bs L) (fun c hc => by have := cols_rg g hL c hc; omega) (by omega)⟩
  have hps : GrS bs.length (pcs bs L L []) := pcs_gr hL (fun i hi => hi) (fun _ h => (by cases h))
  have hpl : (pcs bs L L []).length ≤ 12 := by
    have := pcs_len (bs := bs) (L := L) (l := L) (acc := [])
    simp at this
    omega
  obtain ⟨z3, r3, q3⟩ := same_of (st := s2) ⟨2, 7000, by omega, by omega, pc_sm n12 hps hpl⟩
  obtain ⟨z4, r4, q4⟩ := same_of (st := s3) ⟨0, 5, by omega, by omega, Sm.bl (h := 0) (((pcs bs L L []).length : Int) == 1)⟩
  have hr : ∀ s : Sto, rng1P s [.int 24] = some ((List.range 24).map fun (k : Nat) => PV.int (k : Int), none) := fun s => rng1_ok (st := s) (n := 24) (by omega)
  have due : ∀ o, lcL none ((List.range 24).map fun (k : Nat) => PV.int (k : Int)) (bName 4) (dTru asB (d2 (eqP true) (dLc (dSeqI (dV 1)) (bName 5) (dTru asB (d2 (inP false) (dV 4) (d2 ixP (dV 0) (dV 5)))) (dV 5) [5]) (dN (mkL 0) dNil))) (dV 4) [some (bkP bs), some (grP L), none, none, o, none] ((List.range 24).map fun (k : Nat) => PV.int (k : Int)) [] st = .ok (.tl ((colsL bs L).map .int)) st := fun o => by
    show lcL none ((List.range 24).map nI) _ _ _ _ ((List.range 24).map nI) [] st = _
    rw [lc_fil (g := nI) (l := List.range 24) (p := dueB bs L) (f := nI)]
    · rw [← due_cols g hL, List.map_map]
      rfl
    · intro c hc
      have e5 := has5 (c := c) hL.lt st (e1 := some (grP L)) (e2 := none) (e3 := none)
      dsimp! [oR_s, frz_nI, frz_gr, gr_seqN, e5, ne_nats]
      rfl
    · intro c hc _
      dsimp! [oR_s, frz_nI]
      rfl
  have et : ∀ s : Sto, tupP s [.fl ((colsL bs L).map .int)] = some (scP (colsL bs L)) := fun s => rfl
  refine ⟨s3, ?_, gg⟩
  dsimp! [t__law_group_right, frz_bk, frz_gr, e1, r1, q1, hr, due, et, frz_sc, e2, r2, q2, t1, frz_pc, t2, r3, q3, t3, pc_ln, r4, q4, ec]
/-! ### refusals -/
theorem p_want_bad {h k : Nat} (hk : 6 ≤ k) {bs : List (List Int)} {x : PV} (hx : Ph h x) (hz : ∀ xs, x = .tup xs → xs.length ≤ 8388608) (hb : grB bs.length x = false) (st : Sto) : (lev pr k).1 "want_group" [bkP bs, x] st = .ex "BadGroup" (.int (-1)) st := by
  have e1 := p_want_group (k := k) hk (bs := bs) hx st hz
  rwa [hb, if_neg (by simp)] at e1
theorem p_asked_bad {h k : Nat} (hk : 9 ≤ k) {bs : List (List Int)} (g : GB bs) {x : PV} (hx : Ph h x) (hz : ∀ xs, x = .tup xs → xs.length ≤ 8388608) (hb : grB bs.length x = false) (st : Sto) {w : String} (hw : w ∈ ["made", "columns", "pieces", "hangs"]) : (lev pr k).1 "_law_asked" [.str w, bkP bs, x] st = .ex "BadGroup" (.int (-1)) st := by
  rw [s__law_asked (by omega)]
  have f := hx.frz
  have e1 := g.book.made (k := k - 1 - 1) (by omega) st
  have e2 := p_want_bad (k := k - 1 - 1) (by omega) hx hz hb st
  have a1 : (lev pr (k - 1)).1 "made_group" [bkP bs, x] st = .ex "BadGroup" (.int (-1)) st := by
    rw [s_made_group (by omega)]
    dsimp! [t_made_group, frz_bk, f, e1, e2]
  have a2 : (lev pr (k - 1)).1 "group_columns" [bkP bs, x] st = .ex "BadGroup" (.int (-1)) st := by
    rw [s_group_columns (by omega)]
    dsimp! [t_group_columns, frz_bk, f, e1, e2]
  have a3 : (lev pr (k - 1)).1 "pieces" [bkP bs, x] st = .ex "BadGroup" (.int (-1)) st := by
    rw [s_pieces (by omega)]
    dsimp! [t_pieces, frz_bk, f, e1, e2]
  have a4 : (lev pr (k - 1)).1 "hangs" [bkP bs, x] st = .ex "BadGroup" (.int (-1)) st := by
    rw [s_hangs (by omega)]
    dsimp! [t_hangs, frz_bk, f, e1, e2]
  have q : ∀ (x y : String), x ∈ ["made", "columns", "pieces", "hangs"] → y ∈ ["made", "columns", "pieces"] → eqP false st (.str x) (.str y) = some (.bl (x == y)) := by
    intro x y hx hy
    simp only [List.mem_cons, List.not_mem_nil, or_false] at hx hy
    rcases hx with rfl | rfl | rfl | rfl <;> rcases hy with rfl | rfl | rfl <;> (rw [eqP_str (by decide +kernel) (by decide +kernel)]; exact congrArg some (congrArg PV.bl (by decide +kernel)))
  simp only [List.mem_cons, List.not_mem_nil, or_false] at hw
  rcases hw with rfl | rfl | rfl | rfl
  · have q1 := q "made" "made" (by simp) (by simp)
    have b1 : (("made" : String) == "made") = true := by decide +kernel
    rw [b1] at q1
    dsimp! [t__law_asked, q1, frz_bk, f, a1]
  · have q1 := q "columns" "made" (by simp) (by simp)
    have q2 := q "columns" "columns" (by simp) (by simp)
    have b1 : (("columns" : String) == "made") = false := by decide +kernel
    have b2 : (("columns" : String) == "columns") = true := by decide +kernel
    rw [b1] at q1
    rw [b2] at q2
    dsimp! [t__law_asked, q1, q2, frz_bk, f, a2]
  · have q1 := q "pieces" "made" (by simp) (by simp)
    have q2 := q "pieces" "columns" (by simp) (by simp)
    have q3 := q "pieces" "pieces" (by simp) (by simp)
    have b1 : (("pieces" : String) == "made") = false := by decide +kernel
    have b2 : (("pieces" : String) == "columns") = false := by decide +kernel
    have b3 : (("pieces" : String) == "pieces") = true := by decide +kernel
    rw [b1] at q1
    rw [b2] at q2
    rw [b3] at q3
    dsimp! [t__law_asked, q1, q2, q3, frz_bk, f, a3]
  · have q1 := q "hangs" "made" (by simp) (by simp)
    have q2 := q "hangs" "columns" (by simp) (by simp)
    have q3 := q "hangs" "pieces" (by simp) (by simp)
    have b1 : (("hangs" : String) == "made") = false := by decide +kernel
    have b2 : (("hangs" : String) == "columns") = false := by decide +kernel
    have b3 : (("hangs" : String) == "pieces") = false := by decide +kernel
    rw [b1] at q1
    rw [b2] at q2
    rw [b3] at q3
    dsimp! [t__law_asked, q1, q2, q3, frz_bk, f, a4]
theorem p_pieces_nobook {h k : Nat} (hk : 8 ≤ k) {x y : PV} (hx : Ph h x) (hz : ∀ xs, x = .tup xs → ∀ y ∈ xs, ∀ ys, y = .tup ys → ys.length ≤ 8388608) (fy : frz y = y) {i : Int} (hb : bookE x = some i) (st : Sto) : (lev pr k).1 "pieces" [x, y] st = .ex "BadBook" (.int i) st := by
  rw [s_pieces (by omega)]
  have e1 := p_made_book (k := k - 1) (by omega) hx st hz
  rw [hb] at e1
  dsimp only at e1
  have f := hx.frz
  dsimp! [t_pieces, f, fy, e1]
/-! ### what is heard -/
theorem sbR : pr.sb "BadBook" "Refused" = some true ∧ pr.sb "BadGroup" "Refused" = some true ∧ pickI pr.sb "BadBook" [("BadGroup", "group"), ("BadBook", "book")] "" = some (Str.ofString "book") ∧ pickI pr.sb "BadGroup" [("BadGroup", "group"), ("BadBook", "book")] "" = some (Str.ofString "group") := ⟨by decide +kernel, by decide +kernel, by decide +kernel, by decide +kernel⟩
theorem hXI_ap {sb : Str → Str → Option Bool} {ts : List (Str × Str)} {z c : Str} {s : String} {w : PV} {env : En} {st : Sto} (h : pickI sb c ts z = some (Str.ofString s)) : hXI sb ts z c w env st = .rt (wd s w) st := by
  unfold hXI
  rw [h]
  rfl
theorem heard_book {F : FT} {lv w : PV} {act : Sto → R PV} {st : Sto} (hl : frz lv = lv) (h : act st = .ex "BadBook" w st) : h__law_heard F lv act st = .ok (wd "book" w) st := by
  unfold h__law_heard
  have e := fun e2 e3 => dAct_ap (i := 0) (lv := lv) (act := act) (env := [some lv, e2, e3]) (st := st) rfl
  rw [h] at e
  dsimp! [t__law_heard, hl, e, clR_t sbR.1, hXI_ap sbR.2.2.1, offR_rt]
theorem heard_group {F : FT} {lv w : PV} {act : Sto → R PV} {st : Sto} (hl : frz lv = lv) (h : act st = .ex "BadGroup" w st) : h__law_heard F lv act st = .ok (wd "group" w) st := by
  unfold h__law_heard
  have e := fun e2 e3 => dAct_ap (i := 0) (lv := lv) (act := act) (env := [some lv, e2, e3]) (st := st) rfl
  rw [h] at e
  dsimp! [t__law_heard, hl, e, clR_t sbR.2.1, hXI_ap sbR.2.2.2, offR_rt]
theorem Sm.wd {h n : Nat} {w : PV} (x : String) (hx : x ∈ ["book", "group"]) (s : Sm h n w) : Sm (h + 1) (n + 20) (wd x w) := by
  have k : Sm h 10 (.str x) := by
    simp only [List.mem_cons, List.not_mem_nil, or_false] at hx
    rcases hx with rfl | rfl <;> exact Sm.str _ (by decide +kernel) (by decide +kernel)
  exact (Sm.tup2 k s).mono (Nat.le_refl _) (by omega)
theorem frz_wd {x : String} {w : PV} : frz (wd x w) = wd x w := rfl
/-! ### what is no group -/
def ev0 (n : Nat) : List Int := (List.range n).map fun (i : Nat) => (i : Int)
theorem ev_gr {n : Nat} : grP (List.range n) = .tup ((ev0 n).map .int) := rfl
theorem ev_len {n : Nat} : (ev0 n).length = n := by simp [ev0]
theorem ev_0 {n : Nat} (h : 1 ≤ n) : (0 : Int) ∈ ev0 n := List.mem_map.mpr ⟨0, List.mem_range.mpr h, rfl⟩
theorem ev_take {n : Nat} (h : 1 ≤ n) : (ev0 n).take 1 = [0] := by
  obtain ⟨m, rfl⟩ : ∃ m, n = m + 1 := ⟨n - 1, by omega⟩
  unfold ev0
  rw [List.range_succ_eq_map]
  rfl
theorem all_gr {n : Nat} (h : 1 ≤ n) : Gr n (List.range n) where
  ne := fun e => by
    have := congrArg List.length e
    simp at this
    omega
  pw := List.pairwise_lt_range
  lt := fun i hi => List.mem_range.mp hi
theorem not_gr {n : Nat} {ms : List Int} (h : ¬ (isInc ms = true ∧ ∀ c ∈ ms, 0 ≤ c ∧ c ≤ (n : Int) - 1)) : grB n (.tup (ms.map .int)) = false := by
  cases q : grB n (.tup (ms.map .int)) with
  | false => rfl
  | true =>
    unfold grB at q
    rw [Bool.and_eq_true] at q
    obtain ⟨ns, e, h1, h2⟩ := ris_tup q.1
    injection e with e
    have e : ms = ns := map_inj_on (fun a _ b _ h => by injection h) e
    subst e
    exact absurd ⟨h1, h2⟩ h
def oddG (n : Nat) : List PV := [.non, .tup [], .tup ((ev0 n ++ [0]).map .int), .tup ((ev0 n ++ [(n : Int)]).map .int), .tup (((-1) :: ev0 n).map .int), .tup [.str "0"], .tup [grP (List.range n)], .int 0, .tup (((ev0 n).reverse ++ [0]).map .int)]
theorem ints_ph {ms : List Int} : Ph 1 (.tup (ms.map .int)) := .tup _ fun y hy => by
  obtain ⟨i, _, rfl⟩ := List.mem_map.mp hy
  exact .int i
theorem oddG_ok {n : Nat} (h1 : 1 ≤ n) (h12 : n ≤ 12) {x : PV} (h : x ∈ oddG n) : grB n x = false ∧ Ph 2 x ∧ ∀ xs, x = .tup xs → xs.length ≤ 8388608 := by
  unfold oddG at h
  simp only [List.mem_cons, List.not_mem_nil, or_false] at h
  have hl := ev_len (n := n)
  have h0 := ev_0 h1
  rcases h with rfl | rfl | rfl | rfl | rfl | rfl | rfl | rfl | rfl
  · exact ⟨rfl, .non, fun xs e => nomatch e⟩
  · exact ⟨by simp [grB], .tup _ (fun _ h => nomatch h), fun xs e => by cases e; simp⟩
  · refine ⟨not_gr fun ⟨a, _⟩ => ?_, ints_ph.mono (by omega), fun xs e => by cases e; simp; omega⟩
    have := (List.pairwise_append.mp (inc_pw a)).2.2 0 h0 0 (by simp)
    omega
  · refine ⟨not_gr fun ⟨_, a⟩ => ?_, ints_ph.mono (by omega), fun xs e => by cases e; simp; omega⟩
    have := a (n : Int) (by simp)
    omega
  · refine ⟨not_gr fun ⟨_, a⟩ => ?_, ints_ph.mono (by omega), fun xs e => by cases e; simp; omega⟩
    have := a (-1) (by simp)
    omega
  · exact ⟨by simp [grB, risB, betw], .tup _ (fun y h => by rw [List.mem_singleton.mp h]; exact .str _), fun xs e => by cases e; simp⟩
  · exact ⟨by simp [grB, risB, betw, grP, scP], .tup _ (fun y h => by rw [List.mem_singleton.mp h]; exact Gr.ph), fun xs e => by cases e; simp⟩
  · exact ⟨rfl, .int _, fun xs e => nomatch e⟩
  · refine ⟨not_gr fun ⟨a, _⟩ => ?_, ints_ph.mono (by omega), fun xs e => by cases e; simp; omega⟩
    have := (List.pairwise_append.mp (inc_pw a)).2.2 0 (List.mem_reverse.mpr h0) 0 (by simp)
    omega
/-! ### what is no book -/
def oddB (bs : List (List Int)) : List PV := [PV.tup [.non, .int (-1)], .tup [.tup [], .int (-1)], .tup [.tup (bs.map scP ++ [.tup []]), .int (bs.length : Int)], .tup [.tup (.tup [.int 24] :: (bs.map scP).drop 1), .int 0]]
theorem wrongB_app {bs : List (List Int)} (g : GB bs) (h11 : bs.length ≤ 11) : bookE (.tup (bs.map scP ++ [.tup []])) = some (bs.length : Int) := by
  have n1 := g.n1
  have e : lenB (.tup (bs.map scP ++ [.tup []])) 1 12 = true := by simp [lenB]; omega
  simp only [bookE, e, if_true]
  unfold wrongB
  rw [List.length_append, List.length_map]
  simp only [List.length_cons, List.length_nil, Nat.zero_add]
  rw [List.range_succ, List.findSome?_append]
  have h1 : ((List.range bs.length).findSome? fun n => if schB ((bs.map scP ++ [PV.tup []]).getD n .non) = true then none else some (n : Int)) = none := by
    rw [List.findSome?_eq_none_iff]
    intro n hn
    have hn := List.mem_range.mp hn
    have hm : n < (bs.map scP).length := by simpa using hn
    rw [getD_app hm, if_pos]
    exact (g.sch _ (Bb.getD_mem hm)).sch (by omega) (by omega)
  rw [h1, Option.none_or]
  have h2 : (bs.map scP ++ [PV.tup []]).getD bs.length .non = .tup [] := by
    have := getD_last (l := bs.map scP) (x := PV.tup []) (d := .non)
    rwa [List.length_map] at this
  simp only [List.findSome?_cons, List.findSome?_nil, h2]
  rfl
theorem sch_len {bs : List (List Int)} (g : GB bs) : ∀ y ∈ bs.map scP, ∀ ys, y = .tup ys → ys.length ≤ 8388608 := fun y hy ys he => by
  obtain ⟨s, hs, rfl⟩ := List.mem_map.mp hy
  have := (g.ok s hs).2.2.2
  cases he
  simp
  omega
theorem oddB_ok {bs : List (List Int)} (g : GB bs) (h7 : bs.length ≤ 7) {x : PV} (h : x ∈ oddB bs) :
    ∃ (o : PV) (i : Int), x = .tup [o, .int i] ∧ bookE o = some i ∧ -1 ≤ i ∧ i ≤ 12 ∧ Ph 2 o ∧ ∀ xs, o = .tup xs → ∀ y ∈ xs, ∀ ys, y = .tup ys → ys.length ≤ 8388608 := by
  unfold oddB at h
  simp only [List.mem_cons, List.not_mem_nil, or_false] at h
  have n1 := g.n1
  rcases h with rfl | rfl | rfl | rfl
  · exact ⟨_, -1, rfl, rfl, by omega, by omega, .non, fun xs e => nomatch e⟩
  · exact ⟨_, -1, rfl, rfl, by omega, by omega, .tup _ (fun _ h => nomatch h), fun xs e => by cases e; exact fun _ h => nomatch h⟩
  · refine ⟨_, _, rfl, wrongB_app g (by omega), by omega, by omega, .tup _ fun y hy => ?_, fun xs e => by
      cases e
      intro y hy ys he
      rcases List.mem_append.mp hy with hy | hy
      · exact sch_len g y hy ys he
      · rw [List.mem_singleton.mp hy] at he
        cases he
        simp⟩
    rcases List.mem_append.mp hy with hy | hy
    · exact (g.sch y hy).ph
    · rw [List.mem_singleton.mp hy]; exact .tup _ fun _ h => nomatch h
  · refine ⟨_, _, rfl, ?_, by omega, by omega, .tup _ fun y hy => ?_, fun xs e => by
      cases e
      intro y hy ys he
      rcases List.mem_cons.mp hy with rfl | hy
      · cases he
        simp
      · exact sch_len g y (List.mem_of_mem_drop hy) ys he⟩
    · have e : lenB (.tup (.tup [.int 24] :: (bs.map scP).drop 1)) 1 12 = true := by simp [lenB]; omega
      simp only [bookE, e, if_true]
      unfold wrongB
      rw [List.length_cons, List.range_succ_eq_map, List.findSome?_cons]
      rfl
    · rcases List.mem_cons.mp hy with rfl | hy
      · exact .tup _ fun z hz => by rw [List.mem_singleton.mp hz]; exact .int _
      · exact (g.sch y (List.mem_of_mem_drop hy)).ph
theorem p_odd_right {j k : Nat} (hk : 16 ≤ k) {bs : List (List Int)} (g : GB bs) (h7 : bs.length ≤ 7) {st : Sto} (hj : Jr j st) : ∃ st', (lev pr k).1 "_law_odd_right" [.loc j, bkP bs, grP (List.range bs.length)] st = .ok (.bl true) st' ∧ Js j st st' := by
  rw [s__law_odd_right (by omega), lw2 (by omega)]
  have n1 := g.n1
  have n12 := g.n12
  have hel := ev_len (n := bs.length)
  obtain ⟨x, s1, t1, hx, g1⟩ := p_one (k := k - 1) (by omega) hj (y := .fl (oddG bs.length)) (.inr (.inl rfl)) (by simp [oddG]) (by simp [oddG])
  obtain ⟨b1, b2, b3⟩ := oddG_ok n1 n12 hx
  have fx := b2.frz
  have j1 := g1.jr hj
  obtain ⟨y, s2, t2, hy, g2⟩ := p_one (k := k - 1) (by omega) j1 (y := .fl (oddB bs)) (.inr (.inl rfl)) (by simp [oddB]) (by simp [oddB])
  obtain ⟨o, i, rfl, c1, c2, c3, c4, c5⟩ := oddB_ok g h7 hy
  have fo := c4.frz
  have gg := g1.trans g2
  have ec := fun v => hj.same gg _ rfl v
  have sl : ∀ s : Sto, slP s none (some 1) (grP (List.range bs.length)) = some (.tup [.int 0]) := fun s => by
    have h1 : (1 : Int).toNat = 1 := rfl
    rw [ev_gr, slP_tup, cutP_take' (by omega), h1, ← List.map_take, ev_take n1]
    rfl
  have ad1 : ∀ s : Sto, addP s (grP (List.range bs.length)) (.tup [.int 0]) = some (.tup ((ev0 bs.length ++ [0]).map .int)) := fun s => by
    rw [ev_gr, addP_tup, if_pos (by simp; omega), List.map_append]
    rfl
  have ad2 : ∀ s : Sto, addP s (grP (List.range bs.length)) (.tup [.int (bs.length : Int)]) = some (.tup ((ev0 bs.length ++ [(bs.length : Int)]).map .int)) := fun s => by
    rw [ev_gr, addP_tup, if_pos (by simp; omega), List.map_append]
    rfl
  have ad3 : ∀ s : Sto, addP s (.tup [.int (-1)]) (grP (List.range bs.length)) = some (.tup (.int (-1) :: (ev0 bs.length).map .int)) := fun s => by
    rw [ev_gr, addP_tup, if_pos (by simp; omega)]
    rfl
  have rev : ∀ (s : Sto) (o3 o4 o5 o6 : Option PV), dRev (dV 2) (d1 negP (dC (.int 1))) [some (.loc j), some (bkP bs), some (grP (List.range bs.length)), o3, o4, o5, o6] s = .ok (.tup (((ev0 bs.length).reverse).map .int)) s := fun s o3 o4 o5 o6 => by
    have := dRev_tup (d := dV 2) (ds := d1 negP (dC (.int 1))) (env := [some (.loc j), some (bkP bs), some (grP (List.range bs.length)), o3, o4, o5, o6]) (st := s) (xs := (ev0 bs.length).map .int) (by rw [← ev_gr]; dsimp! [frz_gr]) (by dsimp! [])
    rw [this, List.map_reverse]
  have ad4 : ∀ s : Sto, addP s (.tup (((ev0 bs.length).reverse).map .int)) (.tup [.int 0]) = some (.tup (((ev0 bs.length).reverse ++ [0]).map .int)) := fun s => by
    rw [addP_tup, if_pos (by simp; omega), List.map_append]
    rfl
  have od : PV.fl [.non, .tup [], .tup ((ev0 bs.length ++ [0]).map .int), .tup ((ev0 bs.length ++ [(bs.length : Int)]).map .int), .tup (.int (-1) :: (ev0 bs.length).map .int), .tup [.str "0"], .tup [grP (List.range bs.length)], .int 0, .tup (((ev0 bs.length).reverse ++ [0]).map .int)] = .fl (oddG bs.length) := rfl
  have frT : ∀ ms : List Int, frz (.tup (ms.map .int)) = .tup (ms.map .int) := fun _ => rfl
  have w1 : ∀ (s : String) v, PV.tup [.str s, v] = wd s v := fun s v => rfl
  have sG : Sm 1 22 (wd "group" (.int (-1))) := Sm.wd "group" (by simp) (Sm.small (h := 0) (by omega) (by omega))
  have sB : Sm 1 22 (wd "book" (.int i)) := Sm.wd "book" (by simp) (Sm.small (h := 0) (by omega) (by omega))
  have q1 := fun s => sG.eqSelf (by omega) true s
  have q3 := fun s => sB.eqSelf (by omega) false s
  dsimp! [t__law_odd_right, frz_bk, frz_gr, sl, ad1, bk_ln, ad2, ad3, rev, ad4, frT, od, t1, fx]
  generalize hF : forL none _ _ _ _ _ _ = X
  obtain ⟨e, rfl, o5, rfl⟩ := for_allC hF (fun env => ∃ o5, env = [some (.loc j), some (bkP bs), some (grP (List.range bs.length)), some (.fl (oddG bs.length)), some x, o5, none]) ⟨_, rfl⟩ trivial (by
    rintro v hv env ⟨o5, rfl⟩
    obtain ⟨w, hw, rfl⟩ : ∃ w : String, w ∈ ["made", "columns", "pieces", "hangs"] ∧ v = .str w := by
      simp only [List.mem_cons, List.not_mem_nil, or_false] at hv
      rcases hv with rfl | rfl | rfl | rfl
      · exact ⟨"made", by simp, rfl⟩
      · exact ⟨"columns", by simp, rfl⟩
      · exact ⟨"pieces", by simp, rfl⟩
      · exact ⟨"hangs", by simp, rfl⟩
    have l1 : ∀ (F : FT), dLam (h__law_heard F) (dCall ((lev pr (k - 1 - 2)).1 "_law_asked") (dCons (dV 5) (dCons (dV 1) (dCons (dV 4) dNil)))) [some (.loc j), some (bkP bs), some (grP (List.range bs.length)), some (.fl (oddG bs.length)), some x, some (.str w), none] s1 = .ok (wd "group" (.int (-1))) s1 := fun F => dLam_eq fun f c q vs => heard_group rfl (by
      have e1 := p_asked_bad (k := k - 1 - 2) (by omega) g b2 b3 b1 s1 hw
      dsimp! [fx, frz_bk, e1])
    refine ⟨[some (.loc j), some (bkP bs), some (grP (List.range bs.length)), some (.fl (oddG bs.length)), some x, some (.str w), none], ?_, _, rfl⟩
    dsimp! [oZ_s, l1, w1, frz_wd, q1])
  have sl2 : ∀ s : Sto, slP s (some 1) none (bkP bs) = some (.tup ((bs.map scP).drop 1)) := fun s => by
    unfold bkP
    rw [slP_tup, cutP_drop (n := 1) (by omega)]
  have ad5 : ∀ s : Sto, addP s (bkP bs) (.tup [.tup []]) = some (.tup (bs.map scP ++ [.tup []])) := fun s => by
    unfold bkP
    rw [addP_tup, if_pos (by simp; omega)]
  have ad6 : ∀ s : Sto, addP s (.tup [.tup [.int 24]]) (.tup ((bs.map scP).drop 1)) = some (.tup (.tup [.int 24] :: (bs.map scP).drop 1)) := fun s => by
    rw [addP_tup, if_pos (by simp; omega)]
    rfl
  have ob : PV.fl [PV.tup [.non, .int (-1)], .tup [.tup [], .int (-1)], .tup [.tup (bs.map scP ++ [.tup []]), .int (bs.length : Int)], .tup [.tup (.tup [.int 24] :: (bs.map scP).drop 1), .int 0]] = .fl (oddB bs) := rfl
  have hgt : decide ((11 : Int) < (bs.length : Int)) = false := by rw [decide_eq_false_iff_not]; omega
  have i0 : ∀ s : Sto, ixP s (.tup [o, .int i]) (.int 0) = some o := fun s => by rw [ixP_tup, atI_0]; simp [fo]
  have i1 : ∀ s : Sto, ixP s (.tup [o, .int i]) (.int 1) = some (.int i) := fun s => by rw [ixP_tup]; rfl
  have fy : frz (.tup [o, .int i]) = .tup [o, .int i] := rfl
  have l2 : ∀ (F : FT), dLam (h__law_heard F) (dCall ((lev pr (k - 1 - 2)).1 "pieces") (dCons (d2 ixP (dV 6) (dC (.int 0))) (dCons (dC .non) dNil))) [some (.loc j), some (bkP bs), some (grP (List.range bs.length)), some (.fl (oddG bs.length)), some x, o5, some (.tup [o, .int i])] s2 = .ok (wd "book" (.int i)) s2 := fun F => dLam_eq fun f c q vs => heard_book rfl (by
    have e1 := p_pieces_nobook (k := k - 1 - 2) (by omega) c4 c5 (y := .non) rfl c1 s2
    dsimp! [fy, i0, fo, e1])
  refine ⟨s2, ?_, gg⟩
  dsimp! [frz_bk, frz_gr, ad5, bk_ln, sl2, ad6, ob, t2, fy, hgt, l2, i1, w1, frz_wd, q3, ec]
/-! ### the law -/
theorem gr_nI {L : List Nat} : PV.tup (L.map nI) = grP L := by rw [ints_nI]; rfl
theorem p_all_sources {k : Nat} (hk : 1 ≤ k) {bs : List (List Int)} (h : bs.length ≤ 1000) (st : Sto) : (lev pr k).1 "_law_all_sources" [bkP bs] st = .ok (grP (List.range bs.length)) st := by
  rw [s__law_all_sources (by omega)]
  have hr := fun s : Sto => rng1_ok (st := s) (n := bs.length) (by omega)
  have e : ∀ o, lcL none ((List.range bs.length).map fun (k : Nat) => PV.int (k : Int)) (bName 1) dYes (dV 1) [some (bkP bs), o] ((List.range bs.length).map fun (k : Nat) => PV.int (k : Int)) [] st = .ok (.tl ((List.range bs.length).map nI)) st := fun o => by
    rw [lc_map (f := nI) (fun a _ => by dsimp! [oR_s]; rfl)]
    rfl
  dsimp! [t__law_all_sources, frz_bk, bk_ln, hr, e, gr_nI]
theorem p_some {j k : Nat} (hk : 2 ≤ k) {L : List Nat} {st : Sto} (hj : Jr j st) : ∃ (l' : List Nat) (st' : Sto), (lev pr k).1 "_law_some" [.loc j, grP L] st = .ok (.tl (l'.map nI)) st' ∧ l'.Sublist L ∧ Js j st st' := by
  rw [s__law_some (by omega)]
  obtain ⟨l', s1, k1, k2, k3⟩ := lc_some (g := nI) (all := L.map nI) (bt := bName 2) (tst := dTru asB (d2 (eqP false) (dCall ((lev pr (k - 1)).1 "_law_take") (dCons (dV 0) (dCons (dC (.int 2)) dNil))) (dC (.int 1)))) (elt := dV 2) (env := [some (.loc j), some (grP L), none]) (fun s => Js j st s) (l := L) (acc := []) (s := st) (Js.refl hj) (fun a _ s hs => by
    obtain ⟨r, s1, t1, _, _, g1⟩ := p_take (k := k - 1) (by omega) (hs.jr hj) (m := 2) (by omega) (by omega)
    refine ⟨[some (.loc j), some (grP L), some (.int (a : Int))], (r == 1), s1, by dsimp! [frz_nI], ?_, hs.trans g1, by dsimp! [frz_nI]⟩
    dsimp! [t1])
  have ec := fun v => hj.same k3 _ rfl v
  refine ⟨l', s1, ?_, k1, k3⟩
  have k2 : lcL none (L.map nI) (bName 2) (dTru asB (d2 (eqP false) (dCall ((lev pr (k - 1)).1 "_law_take") (dCons (dV 0) (dCons (dC (.int 2)) dNil))) (dC (.int 1)))) (dV 2) [some (.loc j), some (grP L), none] (L.map nI) [] st = .ok (.tl (l'.map nI)) s1 := by rw [k2]; rfl
  dsimp! [t__law_some, frz_gr, gr_seqN, k2, ec]
theorem gr_sub {n : Nat} {l' : List Nat} (h : l'.Sublist (List.range n)) (hne : l' ≠ []) : Gr n l' where
  ne := hne
  pw := List.pairwise_lt_range.sublist h
  lt := fun i hi => List.mem_range.mp (h.subset hi)
theorem gr_one {n i : Nat} (h : i < n) : Gr n [i] where
  ne := by simp
  pw := by simp
  lt := fun j hj => by rw [List.mem_singleton.mp hj]; exact h
theorem sl_first {n : Nat} (h : 1 ≤ n) {s : Sto} : slP s none (some 1) (grP (List.range n)) = some (grP [0]) := by
  have h1 : (1 : Int).toNat = 1 := rfl
  rw [ev_gr, slP_tup, cutP_take' (by omega), h1, ← List.map_take, ev_take h]
  rfl
theorem sl_last {n : Nat} (h : 1 ≤ n) {s : Sto} : slP s (some (-1)) none (grP (List.range n)) = some (grP [n - 1]) := by
  obtain ⟨m, rfl⟩ : ∃ m, n = m + 1 := ⟨n - 1, by omega⟩
  have hl := ev_len (n := m + 1)
  rw [ev_gr, slP_tup]
  unfold cutP
  have e1 : HT.sIx ((ev0 (m + 1)).map PV.int).length 0 (some (-1)) = m := by
    rw [List.length_map, hl]
    show (if (-1 : Int) < 0 then ((-1 : Int) + ((m + 1 : Nat) : Int)).toNat else min (-1 : Int).toNat (m + 1)) = m
    rw [if_pos (by omega)]
    omega
  rw [e1, HT.sIx_none, List.length_map, hl]
  have e2 : (ev0 (m + 1)).drop m = [(m : Int)] := by
    unfold ev0
    rw [List.range_succ, List.map_append, List.drop_append_of_le_length (by simp)]
    simp
  rw [← List.map_drop, e2]
  have e3 : m + 1 - m = 1 := by omega
  rw [e3]
  simp [grP, scP]
theorem gr_ne {L : List Nat} {st : Sto} : eqP true st (grP L) (.tup []) = some (.bl (!L.isEmpty)) := by
  unfold grP
  rw [neT]
  cases L <;> rfl
theorem pure_law : Bb.LawTrue pr 60 := by
  intro ns hns hbits
  rw [s_law (k := 60) (by omega)]
  obtain ⟨a, b, a0, b0, b1, ep⟩ := p_pool (k := 59) (by omega) ns 0 (by omega) []
  obtain ⟨st, hst⟩ : ∃ st, st = [jar a b] := ⟨_, rfl⟩
  have hcl : st.all (cloM st.length) = true := by
    rw [hst]
    simp [jar_clo]
  have j0 : Jr 0 st := ⟨⟨a, b, a0, b0, b1, by rw [hst]; rfl⟩, hcl⟩
  have ep' : (lev pr 59).1 "_law_pool" [.ro (ns.map .int), .int 0] [] = .ok (.tl [.int a, .int b]) [] := ep
  have hr3 : ∀ s : Sto, rng1P s [.int 3] = some ((List.range 3).map fun (k : Nat) => PV.int (k : Int), none) := fun s => rng1_ok (st := s) (n := 3) (by omega)
  have hl0 : ∀ a b : Int, MO.lst [PV.int a, PV.int b] = jar a b := fun a b => rfl
  dsimp! [t_law, ep', hl0, ← hst, hr3]
  generalize hF : forL none _ _ _ _ _ _ = X
  have h := for_st (g := fun (k : Nat) => PV.int (k : Int)) (l := List.range 3) hF (fun l env s => (∃ o2 o3 o4 o5 o6, env = [some (.ro (ns.map .int)), some (.loc 0), o2, o3, o4, o5, o6]) ∧ Jr 0 s) (fun r => ∃ env s, r = .nx env s)
    ⟨⟨_, _, _, _, _, rfl⟩, j0⟩ (fun env s _ => ⟨env, s, rfl⟩) (by rintro ⟨_, _, h⟩; cases h)
    (by
      rintro t l env s ⟨⟨o2, o3, o4, o5, o6, rfl⟩, q0⟩ J K hJ hK
      obtain ⟨r, s1, t1, r0, r1, g1⟩ := p_take (k := 59) (by omega) q0 (m := 2) (by omega) (by omega)
      have q1 := g1.jr q0
      have key : ∃ bs s2, GB bs ∧ bs.length ≤ 7 ∧ Js 0 s1 s2 ∧ ((r == 0) = true → (lev pr 59).1 "_law_loose_book" [.loc 0, .int 6, .int 8] s1 = .ok (bkP bs) s2) ∧ ((r == 0) = false → (lev pr 59).1 "_law_some_book" [.loc 0, .int 6] s1 = .ok (bkP bs) s2) := by
        by_cases hr : (r == 0) = true
        · obtain ⟨x, n, s2, t2, hb, hn, ⟨xs, rfl, hex⟩, g2⟩ := p_loose_book (k := 59) (by omega) q1 (wide := 8) (most := 6) (by omega) (by omega)
          obtain ⟨ys, e, hl⟩ := hb.ex
          cases e
          have n1 := hb.n1
          obtain ⟨bs, e, g⟩ := gb_mk hex (by omega) (by omega) (by omega) (by omega)
          have hl2 : bs.length ≤ 7 := by
            unfold bkP at e
            cases e
            rw [List.length_map] at hl
            omega
          rw [e] at t2
          exact ⟨bs, s2, g, hl2, g2, fun _ => t2, fun h => by rw [hr] at h; cases h⟩
        · obtain ⟨bs, s2, t2, g, hl, g2⟩ := p_some_book (k := 59) (by omega) q1 (most := 6) (by omega)
          exact ⟨bs, s2, g, by omega, g2, fun h => absurd h hr, fun _ => t2⟩
      obtain ⟨bs, s2, g, h7, g2, k1, k2⟩ := key
      have n1 := g.n1
      have q2 := g2.jr q1
      have e1 := p_all_sources (k := 59) (by omega) (bs := bs) (by omega) s2
      obtain ⟨l', s3, t3, hsub, g3⟩ := p_some (k := 59) (by omega) (L := List.range bs.length) q2
      have q3 := g3.jr q2
      have sf := fun s : Sto => sl_first n1 (s := s)
      have sL := fun s : Sto => sl_last n1 (s := s)
      have ne := fun s : Sto => gr_ne (L := l') (st := s)
      obtain ⟨G2, hG2, hG2e⟩ : ∃ G2, Gr bs.length G2 ∧ (if l'.isEmpty = true then [0] else l') = G2 := by
        cases q : l'.isEmpty with
        | true => exact ⟨[0], gr_one (by omega), by simp⟩
        | false => exact ⟨l', gr_sub hsub (fun e => by rw [e] at q; cases q), by simp⟩
      have loop : ∀ {X : RS} {all : List PV} {o6 : Option PV}, forL none all (bName 6) (sCons (sIf (dNotT (dTru truP (dCall ((lev pr 59).1 "_law_group_right") (dCons (dV 3) (dCons (dV 6) dNil))))) (sCons (sRet (dC (.bl false))) sNil) sNil) sNil) [grP (List.range bs.length), grP G2, grP [bs.length - 1]] [some (.ro (ns.map .int)), some (.loc 0), some (.int (t : Int)), some (bkP bs), some (grP (List.range bs.length)), some (grP l'), o6] s3 = X → ∃ o6 s, X = .nx [some (.ro (ns.map .int)), some (.loc 0), some (.int (t : Int)), some (bkP bs), some (grP (List.range bs.length)), some (grP l'), o6] s ∧ Jr 0 s := by
        intro X all o6 hF2
        have hin := for_st (g := grP) (l := [List.range bs.length, G2, [bs.length - 1]]) hF2 (fun l env s => (∃ o6, env = [some (.ro (ns.map .int)), some (.loc 0), some (.int (t : Int)), some (bkP bs), some (grP (List.range bs.length)), some (grP l'), o6]) ∧ Jr 0 s ∧ ∀ P ∈ l, Gr bs.length P) (fun r => ∃ o6 s, r = .nx [some (.ro (ns.map .int)), some (.loc 0), some (.int (t : Int)), some (bkP bs), some (grP (List.range bs.length)), some (grP l'), o6] s ∧ Jr 0 s)
          ⟨⟨_, rfl⟩, q3, fun P hP => by
            simp only [List.mem_cons, List.not_mem_nil, or_false] at hP
            rcases hP with rfl | rfl | rfl
            · exact all_gr n1
            · exact hG2
            · exact gr_one (by omega)⟩
          (by rintro env s ⟨⟨o6, rfl⟩, hs, _⟩; exact ⟨_, s, rfl, hs⟩) (by rintro ⟨_, _, h, _⟩; cases h)
          (by
            rintro P l env s ⟨⟨o6, rfl⟩, hs, hP⟩ J K hJ hK
            obtain ⟨s4, t4, g4⟩ := p_group_right (k := 59) (by omega) g (hP P List.mem_cons_self) hs
            dsimp! [oZ_s, frz_gr, frz_bk, t4, LpQ]
            exact hJ _ _ ⟨⟨_, rfl⟩, g4.jr hs, fun Q hQ => hP Q (List.mem_cons_of_mem _ hQ)⟩)
        exact hin
      cases hq : (r == 0) with
      | true =>
        have k1 := k1 hq
        cases q : l'.isEmpty with
        | true =>
          rw [q] at ne hG2e
          rw [if_pos rfl] at hG2e
          subst hG2e
          dsimp! [oZ_s, t1, hq, k1, frz_bk, e1, frz_gr, t3, gr_nI, ne, sf, sL]
          generalize hF2 : forL none _ _ _ _ _ _ = Y
          obtain ⟨o6', s5, rfl, q5⟩ := loop hF2
          obtain ⟨s6, t6, g6⟩ := p_odd_right (k := 59) (by omega) g h7 q5
          dsimp! [frz_bk, frz_gr, t6, LpQ]
          exact hJ _ _ ⟨⟨_, _, _, _, _, rfl⟩, g6.jr q5⟩
        | false =>
          rw [q] at ne hG2e
          rw [if_neg (by simp)] at hG2e
          subst hG2e
          dsimp! [oZ_s, t1, hq, k1, frz_bk, e1, frz_gr, t3, gr_nI, ne, sf, sL]
          generalize hF2 : forL none _ _ _ _ _ _ = Y
          obtain ⟨o6', s5, rfl, q5⟩ := loop hF2
          obtain ⟨s6, t6, g6⟩ := p_odd_right (k := 59) (by omega) g h7 q5
          dsimp! [frz_bk, frz_gr, t6, LpQ]
          exact hJ _ _ ⟨⟨_, _, _, _, _, rfl⟩, g6.jr q5⟩
      | false =>
        have k2 := k2 hq
        cases q : l'.isEmpty with
        | true =>
          rw [q] at ne hG2e
          rw [if_pos rfl] at hG2e
          subst hG2e
          dsimp! [oZ_s, t1, hq, k2, frz_bk, e1, frz_gr, t3, gr_nI, ne, sf, sL]
          generalize hF2 : forL none _ _ _ _ _ _ = Y
          obtain ⟨o6', s5, rfl, q5⟩ := loop hF2
          obtain ⟨s6, t6, g6⟩ := p_odd_right (k := 59) (by omega) g h7 q5
          dsimp! [frz_bk, frz_gr, t6, LpQ]
          exact hJ _ _ ⟨⟨_, _, _, _, _, rfl⟩, g6.jr q5⟩
        | false =>
          rw [q] at ne hG2e
          rw [if_neg (by simp)] at hG2e
          subst hG2e
          dsimp! [oZ_s, t1, hq, k2, frz_bk, e1, frz_gr, t3, gr_nI, ne, sf, sL]
          generalize hF2 : forL none _ _ _ _ _ _ = Y
          obtain ⟨o6', s5, rfl, q5⟩ := loop hF2
          obtain ⟨s6, t6, g6⟩ := p_odd_right (k := 59) (by omega) g h7 q5
          dsimp! [frz_bk, frz_gr, t6, LpQ]
          exact hJ _ _ ⟨⟨_, _, _, _, _, rfl⟩, g6.jr q5⟩)
  obtain ⟨env, s, rfl⟩ := h
  dsimp! [cutR_bl]
  exact ⟨_, rfl⟩
theorem b_is_whole_number (K : PySem.W.Frag) (f : Addr) (fd : FuncData) (F : FunD K d_is_whole_number.x d_is_whole_number.x d_is_whole_number.params d_is_whole_number.body d_is_whole_number.scope [] [] f fd) : L2.Binds K fd d_is_whole_number.ps [] := F.bindsN fun _ _ _ _ _ _ us hl => match us, hl with | [_], _ => rfl
theorem b_is_between (K : PySem.W.Frag) (f : Addr) (fd : FuncData) (F : FunD K d_is_between.x d_is_between.x d_is_between.params d_is_between.body d_is_between.scope [] [] f fd) : L2.Binds K fd d_is_between.ps [] := F.bindsN fun _ _ _ _ _ _ us hl => match us, hl with | [_, _, _], _ => rfl
theorem b_is_below (K : PySem.W.Frag) (f : Addr) (fd : FuncData) (F : FunD K d_is_below.x d_is_below.x d_is_below.params d_is_below.body d_is_below.scope [] [] f fd) : L2.Binds K fd d_is_below.ps [] := F.bindsN fun _ _ _ _ _ _ us hl => match us, hl with | [_, _], _ => rfl
theorem b_is_rising (K : PySem.W.Frag) (f : Addr) (fd : FuncData) (F : FunD K d_is_rising.x d_is_rising.x d_is_rising.params d_is_rising.body d_is_rising.scope [] [] f fd) : L2.Binds K fd d_is_rising.ps [] := F.bindsN fun _ _ _ _ _ _ us hl => match us, hl with | [_, _], _ => rfl
theorem b_is_scheme (K : PySem.W.Frag) (f : Addr) (fd : FuncData) (F : FunD K d_is_scheme.x d_is_scheme.x d_is_scheme.params d_is_scheme.body d_is_scheme.scope [] [] f fd) : L2.Binds K fd d_is_scheme.ps [] := F.bindsN fun _ _ _ _ _ _ us hl => match us, hl with | [_], _ => rfl
theorem b_has_size (K : PySem.W.Frag) (f : Addr) (fd : FuncData) (F : FunD K d_has_size.x d_has_size.x d_has_size.params d_has_size.body d_has_size.scope [] [] f fd) : L2.Binds K fd d_has_size.ps [] := F.bindsN fun _ _ _ _ _ _ us hl => match us, hl with | [_], _ => rfl
theorem b_first_wrong (K : PySem.W.Frag) (f : Addr) (fd : FuncData) (F : FunD K d_first_wrong.x d_first_wrong.x d_first_wrong.params d_first_wrong.body d_first_wrong.scope [] [] f fd) : L2.Binds K fd d_first_wrong.ps [] := F.bindsN fun _ _ _ _ _ _ us hl => match us, hl with | [_], _ => rfl
theorem b_made_book (K : PySem.W.Frag) (f : Addr) (fd : FuncData) (F : FunD K d_made_book.x d_made_book.x d_made_book.params d_made_book.body d_made_book.scope [] [] f fd) : L2.Binds K fd d_made_book.ps [] := F.bindsN fun _ _ _ _ _ _ us hl => match us, hl with | [_], _ => rfl
theorem b_columns_of (K : PySem.W.Frag) (f : Addr) (fd : FuncData) (F : FunD K d_columns_of.x d_columns_of.x d_columns_of.params d_columns_of.body d_columns_of.scope [] [] f fd) : L2.Binds K fd d_columns_of.ps [] := F.bindsN fun _ _ _ _ _ _ us hl => match us, hl with | [_, _], _ => rfl
theorem b_shared_of (K : PySem.W.Frag) (f : Addr) (fd : FuncData) (F : FunD K d_shared_of.x d_shared_of.x d_shared_of.params d_shared_of.body d_shared_of.scope [] [] f fd) : L2.Binds K fd d_shared_of.ps [] := F.bindsN fun _ _ _ _ _ _ us hl => match us, hl with | [_, _, _], _ => rfl
theorem b_are_neighbours (K : PySem.W.Frag) (f : Addr) (fd : FuncData) (F : FunD K d_are_neighbours.x d_are_neighbours.x d_are_neighbours.params d_are_neighbours.body d_are_neighbours.scope [] [] f fd) : L2.Binds K fd d_are_neighbours.ps [] := F.bindsN fun _ _ _ _ _ _ us hl => match us, hl with | [_, _, _], _ => rfl
theorem b_is_group (K : PySem.W.Frag) (f : Addr) (fd : FuncData) (F : FunD K d_is_group.x d_is_group.x d_is_group.params d_is_group.body d_is_group.scope [] [] f fd) : L2.Binds K fd d_is_group.ps [] := F.bindsN fun _ _ _ _ _ _ us hl => match us, hl with | [_, _], _ => rfl
theorem b_want_group (K : PySem.W.Frag) (f : Addr) (fd : FuncData) (F : FunD K d_want_group.x d_want_group.x d_want_group.params d_want_group.body d_want_group.scope [] [] f fd) : L2.Binds K fd d_want_group.ps [] := F.bindsN fun _ _ _ _ _ _ us hl => match us, hl with | [_, _], _ => rfl
theorem b_made_group (K : PySem.W.Frag) (f : Addr) (fd : FuncData) (F : FunD K d_made_group.x d_made_group.x d_made_group.params d_made_group.body d_made_group.scope [] [] f fd) : L2.Binds K fd d_made_group.ps [] := F.bindsN fun _ _ _ _ _ _ us hl => match us, hl with | [_, _], _ => rfl
theorem b_group_columns (K : PySem.W.Frag) (f : Addr) (fd : FuncData) (F : FunD K d_group_columns.x d_group_columns.x d_group_columns.params d_group_columns.body d_group_columns.scope [] [] f fd) : L2.Binds K fd d_group_columns.ps [] := F.bindsN fun _ _ _ _ _ _ us hl => match us, hl with | [_, _], _ => rfl
theorem b_piece_with (K : PySem.W.Frag) (f : Addr) (fd : FuncData) (F : FunD K d_piece_with.x d_piece_with.x d_piece_with.params d_piece_with.body d_piece_with.scope [] [] f fd) : L2.Binds K fd d_piece_with.ps [] := F.bindsN fun _ _ _ _ _ _ us hl => match us, hl with | [_, _, _], _ => rfl
theorem b_pieces_of (K : PySem.W.Frag) (f : Addr) (fd : FuncData) (F : FunD K d_pieces_of.x d_pieces_of.x d_pieces_of.params d_pieces_of.body d_pieces_of.scope [] [] f fd) : L2.Binds K fd d_pieces_of.ps [] := F.bindsN fun _ _ _ _ _ _ us hl => match us, hl with | [_, _], _ => rfl
theorem b_pieces (K : PySem.W.Frag) (f : Addr) (fd : FuncData) (F : FunD K d_pieces.x d_pieces.x d_pieces.params d_pieces.body d_pieces.scope [] [] f fd) : L2.Binds K fd d_pieces.ps [] := F.bindsN fun _ _ _ _ _ _ us hl => match us, hl with | [_, _], _ => rfl
theorem b_hangs_of (K : PySem.W.Frag) (f : Addr) (fd : FuncData) (F : FunD K d_hangs_of.x d_hangs_of.x d_hangs_of.params d_hangs_of.body d_hangs_of.scope [] [] f fd) : L2.Binds K fd d_hangs_of.ps [] := F.bindsN fun _ _ _ _ _ _ us hl => match us, hl with | [_, _], _ => rfl
theorem b_hangs (K : PySem.W.Frag) (f : Addr) (fd : FuncData) (F : FunD K d_hangs.x d_hangs.x d_hangs.params d_hangs.body d_hangs.scope [] [] f fd) : L2.Binds K fd d_hangs.ps [] := F.bindsN fun _ _ _ _ _ _ us hl => match us, hl with | [_, _], _ => rfl
theorem b__law_pool (K : PySem.W.Frag) (f : Addr) (fd : FuncData) (F : FunD K d__law_pool.x d__law_pool.x d__law_pool.params d__law_pool.body d__law_pool.scope [] [] f fd) : L2.Binds K fd d__law_pool.ps [] := F.bindsN fun _ _ _ _ _ _ us hl => match us, hl with | [_, _], _ => rfl
theorem b__law_take (K : PySem.W.Frag) (f : Addr) (fd : FuncData) (F : FunD K d__law_take.x d__law_take.x d__law_take.params d__law_take.body d__law_take.scope [] [] f fd) : L2.Binds K fd d__law_take.ps [] := F.bindsN fun _ _ _ _ _ _ us hl => match us, hl with | [_, _], _ => rfl
theorem b__law_one (K : PySem.W.Frag) (f : Addr) (fd : FuncData) (F : FunD K d__law_one.x d__law_one.x d__law_one.params d__law_one.body d__law_one.scope [] [] f fd) : L2.Binds K fd d__law_one.ps [] := F.bindsN fun _ _ _ _ _ _ us hl => match us, hl with | [_, _], _ => rfl
theorem b__law_mixed (K : PySem.W.Frag) (f : Addr) (fd : FuncData) (F : FunD K d__law_mixed.x d__law_mixed.x d__law_mixed.params d__law_mixed.body d__law_mixed.scope [] [] f fd) : L2.Binds K fd d__law_mixed.ps [] := F.bindsN fun _ _ _ _ _ _ us hl => match us, hl with | [_, _], _ => rfl
theorem b__law_some (K : PySem.W.Frag) (f : Addr) (fd : FuncData) (F : FunD K d__law_some.x d__law_some.x d__law_some.params d__law_some.body d__law_some.scope [] [] f fd) : L2.Binds K fd d__law_some.ps [] := F.bindsN fun _ _ _ _ _ _ us hl => match us, hl with | [_, _], _ => rfl
theorem b__law_rising (K : PySem.W.Frag) (f : Addr) (fd : FuncData) (F : FunD K d__law_rising.x d__law_rising.x d__law_rising.params d__law_rising.body d__law_rising.scope [] [] f fd) : L2.Binds K fd d__law_rising.ps [] := F.bindsN fun _ _ _ _ _ _ us hl => match us, hl with | [_], _ => rfl
theorem b__law_common_columns (K : PySem.W.Frag) (f : Addr) (fd : FuncData) (F : FunD K d__law_common_columns.x d__law_common_columns.x d__law_common_columns.params d__law_common_columns.body d__law_common_columns.scope [] [] f fd) : L2.Binds K fd d__law_common_columns.ps [] := F.bindsN fun _ _ _ _ _ _ us hl => match us, hl with | [_, _, _], _ => rfl
theorem b__law_are_near (K : PySem.W.Frag) (f : Addr) (fd : FuncData) (F : FunD K d__law_are_near.x d__law_are_near.x d__law_are_near.params d__law_are_near.body d__law_are_near.scope [] [] f fd) : L2.Binds K fd d__law_are_near.ps [] := F.bindsN fun _ _ _ _ _ _ us hl => match us, hl with | [_, _, _], _ => rfl
theorem b__law_all_sources (K : PySem.W.Frag) (f : Addr) (fd : FuncData) (F : FunD K d__law_all_sources.x d__law_all_sources.x d__law_all_sources.params d__law_all_sources.body d__law_all_sources.scope [] [] f fd) : L2.Binds K fd d__law_all_sources.ps [] := F.bindsN fun _ _ _ _ _ _ us hl => match us, hl with | [_], _ => rfl
theorem b__law_scheme (K : PySem.W.Frag) (f : Addr) (fd : FuncData) (F : FunD K d__law_scheme.x d__law_scheme.x d__law_scheme.params d__law_scheme.body d__law_scheme.scope [] [] f fd) : L2.Binds K fd d__law_scheme.ps [] := F.bindsN fun _ _ _ _ _ _ us hl => match us, hl with | [_, _, _], _ => rfl
theorem b__law_loose_book (K : PySem.W.Frag) (f : Addr) (fd : FuncData) (F : FunD K d__law_loose_book.x d__law_loose_book.x d__law_loose_book.params d__law_loose_book.body d__law_loose_book.scope [] [] f fd) : L2.Binds K fd d__law_loose_book.ps [] := F.bindsN fun _ _ _ _ _ _ us hl => match us, hl with | [_, _, _], _ => rfl
theorem b__law_hung_book (K : PySem.W.Frag) (f : Addr) (fd : FuncData) (F : FunD K d__law_hung_book.x d__law_hung_book.x d__law_hung_book.params d__law_hung_book.body d__law_hung_book.scope [] [] f fd) : L2.Binds K fd d__law_hung_book.ps [] := F.bindsN fun _ _ _ _ _ _ us hl => match us, hl with | [_, _, _], _ => rfl
theorem b__law_fellow_columns (K : PySem.W.Frag) (f : Addr) (fd : FuncData) (F : FunD K d__law_fellow_columns.x d__law_fellow_columns.x d__law_fellow_columns.params d__law_fellow_columns.body d__law_fellow_columns.scope [] [] f fd) : L2.Binds K fd d__law_fellow_columns.ps [] := F.bindsN fun _ _ _ _ _ _ us hl => match us, hl with | [_, _], _ => rfl
theorem b__law_same_columns (K : PySem.W.Frag) (f : Addr) (fd : FuncData) (F : FunD K d__law_same_columns.x d__law_same_columns.x d__law_same_columns.params d__law_same_columns.body d__law_same_columns.scope [] [] f fd) : L2.Binds K fd d__law_same_columns.ps [] := F.bindsN fun _ _ _ _ _ _ us hl => match us, hl with | [_, _], _ => rfl
theorem b__law_called (K : PySem.W.Frag) (f : Addr) (fd : FuncData) (F : FunD K d__law_called.x d__law_called.x d__law_called.params d__law_called.body d__law_called.scope [] [] f fd) : L2.Binds K fd d__law_called.ps [] := F.bindsN fun _ _ _ _ _ _ us hl => match us, hl with | [_, _], _ => rfl
theorem b__law_glued (K : PySem.W.Frag) (f : Addr) (fd : FuncData) (F : FunD K d__law_glued.x d__law_glued.x d__law_glued.params d__law_glued.body d__law_glued.scope [] [] f fd) : L2.Binds K fd d__law_glued.ps [] := F.bindsN fun _ _ _ _ _ _ us hl => match us, hl with | [_, _, _], _ => rfl
theorem b__law_ringless_book (K : PySem.W.Frag) (f : Addr) (fd : FuncData) (F : FunD K d__law_ringless_book.x d__law_ringless_book.x d__law_ringless_book.params d__law_ringless_book.body d__law_ringless_book.scope [] [] f fd) : L2.Binds K fd d__law_ringless_book.ps [] := F.bindsN fun _ _ _ _ _ _ us hl => match us, hl with | [_, _], _ => rfl
theorem b__law_ring_book (K : PySem.W.Frag) (f : Addr) (fd : FuncData) (F : FunD K d__law_ring_book.x d__law_ring_book.x d__law_ring_book.params d__law_ring_book.body d__law_ring_book.scope [] [] f fd) : L2.Binds K fd d__law_ring_book.ps [] := F.bindsN fun _ _ _ _ _ _ us hl => match us, hl with | [_, _], _ => rfl
theorem b__law_some_book (K : PySem.W.Frag) (f : Addr) (fd : FuncData) (F : FunD K d__law_some_book.x d__law_some_book.x d__law_some_book.params d__law_some_book.body d__law_some_book.scope [] [] f fd) : L2.Binds K fd d__law_some_book.ps [] := F.bindsN fun _ _ _ _ _ _ us hl => match us, hl with | [_, _], _ => rfl
theorem b__law_heard (K : PySem.W.Frag) (f : Addr) (fd : FuncData) (F : FunD K d__law_heard.x d__law_heard.x d__law_heard.params d__law_heard.body d__law_heard.scope [] [] f fd) : L2.Binds K fd d__law_heard.ps [] := F.bindsN fun _ _ _ _ _ _ us hl => match us, hl with | [_], _ => rfl
theorem b__law_closed (K : PySem.W.Frag) (f : Addr) (fd : FuncData) (F : FunD K d__law_closed.x d__law_closed.x d__law_closed.params d__law_closed.body d__law_closed.scope [] [] f fd) : L2.Binds K fd d__law_closed.ps [] := F.bindsN fun _ _ _ _ _ _ us hl => match us, hl with | [_, _, _], _ => rfl
theorem b__law_own_pieces (K : PySem.W.Frag) (f : Addr) (fd : FuncData) (F : FunD K d__law_own_pieces.x d__law_own_pieces.x d__law_own_pieces.params d__law_own_pieces.body d__law_own_pieces.scope [] [] f fd) : L2.Binds K fd d__law_own_pieces.ps [] := F.bindsN fun _ _ _ _ _ _ us hl => match us, hl with | [_, _], _ => rfl
theorem b__law_group_right (K : PySem.W.Frag) (f : Addr) (fd : FuncData) (F : FunD K d__law_group_right.x d__law_group_right.x d__law_group_right.params d__law_group_right.body d__law_group_right.scope [] [] f fd) : L2.Binds K fd d__law_group_right.ps [] := F.bindsN fun _ _ _ _ _ _ us hl => match us, hl with | [_, _], _ => rfl
theorem b__law_odd_right (K : PySem.W.Frag) (f : Addr) (fd : FuncData) (F : FunD K d__law_odd_right.x d__law_odd_right.x d__law_odd_right.params d__law_odd_right.body d__law_odd_right.scope [] [] f fd) : L2.Binds K fd d__law_odd_right.ps [] := F.bindsN fun _ _ _ _ _ _ us hl => match us, hl with | [_, _, _], _ => rfl
theorem b__law_asked (K : PySem.W.Frag) (f : Addr) (fd : FuncData) (F : FunD K d__law_asked.x d__law_asked.x d__law_asked.params d__law_asked.body d__law_asked.scope [] [] f fd) : L2.Binds K fd d__law_asked.ps [] := F.bindsN fun _ _ _ _ _ _ us hl => match us, hl with | [_, _, _], _ => rfl
theorem b_law (K : PySem.W.Frag) (f : Addr) (fd : FuncData) (F : FunD K d_law.x d_law.x d_law.params d_law.body d_law.scope [] [] f fd) : L2.Binds K fd d_law.ps [] := F.bindsN fun _ _ _ _ _ _ us hl => match us, hl with | [_], _ => rfl
theorem bdT : ∀ d ∈ pr.defs, ∀ (K : PySem.W.Frag) (f : Addr) (fd : FuncData), FunD K d.x d.x d.params d.body d.scope [] [] f fd → L2.Binds K fd d.ps [] := by
  intro d hd
  simp only [pr, List.mem_cons, List.not_mem_nil, or_false] at hd
  rcases hd with rfl | rfl | rfl | rfl | rfl | rfl | rfl | rfl | rfl | rfl | rfl | rfl | rfl | rfl | rfl | rfl | rfl | rfl | rfl | rfl | rfl | rfl | rfl | rfl | rfl | rfl | rfl | rfl | rfl | rfl | rfl | rfl | rfl | rfl | rfl | rfl | rfl | rfl | rfl | rfl | rfl | rfl | rfl | rfl | rfl | rfl
  · exact b_is_whole_number
  · exact b_is_between
  · exact b_is_below
  · exact b_is_rising
  · exact b_is_scheme
  · exact b_has_size
  · exact b_first_wrong
  · exact b_made_book
  · exact b_columns_of
  · exact b_shared_of
  · exact b_are_neighbours
  · exact b_is_group
  · exact b_want_group
  · exact b_made_group
  · exact b_group_columns
  · exact b_piece_with
  · exact b_pieces_of
  · exact b_pieces
  · exact b_hangs_of
  · exact b_hangs
  · exact b__law_pool
  · exact b__law_take
  · exact b__law_one
  · exact b__law_mixed
  · exact b__law_some
  · exact b__law_rising
  · exact b__law_common_columns
  · exact b__law_are_near
  · exact b__law_all_sources
  · exact b__law_scheme
  · exact b__law_loose_book
  · exact b__law_hung_book
  · exact b__law_fellow_columns
  · exact b__law_same_columns
  · exact b__law_called
  · exact b__law_glued
  · exact b__law_ringless_book
  · exact b__law_ring_book
  · exact b__law_some_book
  · exact b__law_heard
  · exact b__law_closed
  · exact b__law_own_pieces
  · exact b__law_group_right
  · exact b__law_odd_right
  · exact b__law_asked
  · exact b_law
theorem kbT : ∀ d ∈ pr.defs, pr.kwn.contains d.x = true → ∀ (K : PySem.W.Frag) (f : Addr) (fd : FuncData), FunD K d.x d.x d.params d.body d.scope [] [] f fd → KwB K fd d.ps := by
  exact fun d _ h => by cases h
theorem pgT : PgT pr := ⟨sc_all (by decide +kernel), bdT, kbT, conB_ok (by decide +kernel), sb_all (by decide +kernel)⟩
def ini : Stmt := match top 1 with
  | .ClassDef _ _ _ [st] _ _ _ _ _ _ _ => st
  | st => st
def inis : List IniW := [some ((PySem.Str.ofString "__init__" : Str), "Refused.__init__", defArgs ini, FuncBody.stmts (xiB ⟨5, 8, 5, 13⟩ ⟨5, 8, 5, 15⟩ ⟨5, 8, 5, 24⟩ ⟨5, 25, 5, 29⟩ ⟨5, 8, 5, 30⟩ ⟨5, 8, 5, 30⟩ ⟨6, 8, 6, 12⟩ ⟨6, 8, 6, 17⟩ ⟨6, 20, 6, 24⟩ ⟨6, 8, 6, 24⟩), defScope ini, mainGlobals, [(PySem.Str.ofString "__class__" : Str)], builtinsNs)]
abbrev RR : PySem.W.OpenRow := PySem.W.OpenLaw.row PySem.Challenge.rw_behindboth_k01_groups_and_the_pieces_of
abbrev exK : PySem.W.Frag → Bool := exOf PySem.Challenge.pw_behindboth_k01_groups_and_the_pieces_of pr ("Refused", some "__init__") "Refused.__init__"
abbrev hk : PySem.W.Hook := hookB 6 (faOf pr) (pr.defs.map dOf) (tfOf pr) [("Refused", some "__init__")] exK inis
def ob (s : PySem.W.SharedT) : AlB := obsB 6 (faOf pr) (pr.defs.map dOf) (tfOf pr) [("Refused", some "__init__")] exK (HandSHeadRun.getT s)
theorem ob_eq (s : PySem.W.SharedT) : ob s = hk.obs s.abs := obsB_eq (HandSHeadRun.getT_eq s)
def loose : List Str := (["Refused", "BadBook", "BadGroup", "MOST_COLUMNS", "MOST_IN_SCHEME", "MOST_SOURCES", "is_whole_number", "is_between", "is_below", "is_rising", "is_scheme", "has_size", "first_wrong", "made_book", "columns_of", "shared_of", "are_neighbours", "is_group", "want_group", "made_group", "group_columns", "piece_with", "pieces_of", "pieces", "hangs_of", "hangs", "_law_pool", "_law_take", "_law_one", "_law_mixed"] : List Str) ++ (["_law_some", "_law_rising", "_law_common_columns", "_law_are_near", "_law_all_sources", "_law_scheme", "_law_loose_book", "_law_hung_book", "_law_fellow_columns", "_law_same_columns", "_law_called", "_law_glued", "_law_ringless_book", "_law_ring_book", "_law_some_book", "_law_heard", "_law_closed", "_law_own_pieces", "_law_group_right", "_law_odd_right", "_law_asked"] : List Str)
theorem run (w : World) : HandSHeadRun.RunEq RR (PySem.W.view RR.prog [55]) hk ob 4000 loose w := by
  intro os
  kernel_rfl
end K01
open PySem PySem.W PySem.Calls PyProof.Rows
theorem K01.holds (hp : Bb.LawTrue K01.pr 60) : PySem.Challenge.rw_behindboth_k01_groups_and_the_pieces_of.Holds := by
  w_on; o_law
  refine HandSHeadRun.head_any (r := OpenLaw.row PySem.Challenge.rw_behindboth_k01_groups_and_the_pieces_of) (q := view (OpenLaw.row PySem.Challenge.rw_behindboth_k01_groups_and_the_pieces_of).prog [55]) (H := K01.hk) (ob := K01.ob) (M := 4000) (loose := K01.loose) (d := HandSHeadRun.topDef (OpenLaw.row PySem.Challenge.rw_behindboth_k01_groups_and_the_pieces_of).prog 55) (kwd := []) K01.ob_eq
    (by kernel_rfl) (fun s => by kernel_rfl) K01.run (by kernel_rfl) (by kernel_rfl) (by kernel_rfl) (by rfl) (by first | assumption | decide +kernel) (by decide +kernel) ⟨rfl, rfl, rfl, rfl, rfl, by decide +kernel⟩ ?hw ?hc
  case hw => w_witness2
  case hc =>
    refine Bb.walkG (l := PySem.Challenge.rw_behindboth_k01_groups_and_the_pieces_of) (n := 63) (k := 60 + 4) (x := "_law_script") rfl (by decide) (by kernel_rfl) ⟨rfl, by decide +kernel, by decide +kernel⟩ ?F
    intro w mg fa h Y G hmg0
    obtain ⟨K, KX, c⟩ := Y
    have hmg : mg ("law" : PySem.Str) = some (.ref fa) := by
      have e : (HandSHeadRun.topDef (OpenLaw.row PySem.Challenge.rw_behindboth_k01_groups_and_the_pieces_of).prog 55).name = ("law" : PySem.Str) := by kernel_rfl
      rw [← e]
      exact hmg0
    exact ⟨K, KX, Bb.lawG_of (l := PySem.Challenge.rw_behindboth_k01_groups_and_the_pieces_of) (dL := K01.d_law) (x := "_law_script") (x0 := "Refused") (qual := "Refused.__init__") (params := L2.defArgs K01.ini) (scope := L2.defScope K01.ini) K01.pgT c KX G hmg (NdefX.nscope_by (by decide +kernel)) (by decide +kernel) ⟨_, rfl, rfl⟩ rfl
      (fun _ _ _ _ _ _ _ us hl => match us, hl with | [_, _], _ => rfl) (by kernel_rfl) rfl (fun _ _ _ _ _ _ us hl => match us, hl with | [_], _ => rfl) hp⟩

theorem PySem.Challenge.cw_behindboth_k01_groups_and_the_pieces_of_holds : PySem.Challenge.rw_behindboth_k01_groups_and_the_pieces_of.Holds :=
  K01.holds K01.pure_law
