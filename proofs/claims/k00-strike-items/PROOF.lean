import PyProof.Rows.All
import Wide.All
import OpenK.AllK
import Wide.FinOn
import HandS.ForMost
import HandS.Exc
import HandS.ExcOwn
import HandS.ExcCtx
import HandS.Hot
import HandS.HotCalls
import HandS.More
import HandS.Star
import HandS.ClsMeth
import HandS.Property
import HandS.OwnEq
import HandS.IsInst
import HandS.FStr
import HandS.TryOnly
import HandS.TryMany
import HandS.Wide
import HandS.TupAny
import HandS.Deep
import HandS.Style
import KE.KUnpack
import PyProof.StrLoop
import PyProof.Rows.TupIter
import KE.KStar
import HandS.ExcInitHot
import PyProof.InstNe
import HandS.ExcInit
import HandS.List
import HandS.RaiseMore
import PyProof.Rows.StrMeet
import HandS.Text
import HandS.ExcIs
import HandS.Comp
import HandS.ReplaceLit
import PyProof.ToksMono
import HandS.Ends
import HandS.Words
import PySem.Challenge.RW_struckbodies_k00_strike_items
set_option Elab.async false
set_option linter.all false
set_option maxRecDepth 100000
/-! PI: a small interpreter over the hand layer. Part 1: values, heap, results, and how they stand in the layer's abstract heap. -/
namespace PI
open PySem PySem.Spec PyProof.Rows L2
abbrev St := L2.St

/-- values: tuples are data, mutable objects are numbers in the heap -/
inductive D where
  | non | bl (b : Bool) | int (i : Int) | str (s : List Nat) | tup (xs : List D) | ref (i : Nat) | cls (c : Nat) | scr | ty (n : String)
/-- objects -/
inductive O where
  | lst (xs : List D) | ins (c : Nat) (fs : List (Nat × D)) | dic (kvs : List (D × D))
abbrev Hh := List O
abbrev Ev := List (Option D)
/-- results: a value; an exception of the class c with its fields; no word -/
inductive R (α : Type) where
  | ok (a : α) (h : Hh) | exc (c : Nat) (fs : List (Nat × D)) (h : Hh) | bad
def R.bind {α β : Type} : R α → (α → Hh → R β) → R β
  | .ok a h, f => f a h
  | .exc c fs h, _ => .exc c fs h
  | .bad, _ => .bad

/-- what the names and numbers of the interpreter stand for -/
structure Gam0 where
  ca : Nat → Addr
  fa : Nat → Addr
  nm : Nat → Str
  scr : List Int
  scrA : Addr
/-- the same, and where the def (or the except suite) began: what it then knew of things that never change stays known -/
structure Gam extends Gam0 where
  jr : List Addr
  jh : Hp
  /-- in an except suite: the name's slot, the exception -/
  jx : Option (Nat × Addr)
instance : Coe Gam Gam0 := ⟨Gam.toGam0⟩

def sOf (s : List Nat) : Str := ⟨s.toArray⟩
theorem sOf_list (s : Str) : sOf s.cps.toList = s := by
  obtain ⟨c⟩ := s
  simp [sOf]
theorem sOf_inj {a b : List Nat} (h : sOf a = sOf b) : a = b := by
  have e := congrArg (fun s : Str => s.cps.toList) h
  simpa [sOf] using e
theorem sOf_cps (s : List Nat) : (sOf s).cps.toList = s := by simp [sOf]
theorem sOf_len (s : List Nat) : (sOf s).length = s.length := by
  show (sOf s).cps.size = s.length
  simp [sOf]

/-- a list that stays: locked, or an object of the module -/
def SqF (K : PySem.W.Frag) (H : Hp) (a : Addr) (xs : List V) : Prop :=
  (∃ o, H a = some (.frz o (.lst xs))) ∨
    ∃ (o : Obj) (its : Array Value) (n : Nat), K.lookup a = some o ∧ o.cls = .type "list" ∧ o.dict = none ∧ o.data = .seq its n ∧ its.size ≤ sizeLine ∧ Vals xs its.toList
theorem SqF.to {K : PySem.W.Frag} {H : Hp} {a : Addr} {xs : List V} (h : SqF K H a xs) : SqL K H a xs :=
  h.elim (fun h => .inl (.inr h)) fun h => .inr h
mutual
def RD (K : PySem.W.Frag) (G : Gam0) (ρ : List Addr) (H : Hp) : D → V → Prop
  | .non, v => v = .non
  | .bl b, v => v = .bl b
  | .int i, v => v = .int i
  | .str s, v => v = .str (sOf s)
  | .tup xs, v => ∃ a vs, v = .ref a ∧ SqT K H a vs ∧ RDs K G ρ H xs vs
  | .ref i, v => ∃ a, ρ[i]? = some a ∧ v = .ref a
  | .cls c, v => v = .ref (G.ca c)
  | .scr, v => v = .ref G.scrA ∧ SqF K H G.scrA (G.scr.map V.int)
  | .ty n, v => v = .ty n
def RDs (K : PySem.W.Frag) (G : Gam0) (ρ : List Addr) (H : Hp) : List D → List V → Prop
  | [], vs => vs = []
  | d :: ds, vs => ∃ v r, vs = v :: r ∧ RD K G ρ H d v ∧ RDs K G ρ H ds r
end
def RFs (K : PySem.W.Frag) (G : Gam0) (ρ : List Addr) (H : Hp) : List (Nat × D) → List (Str × V) → Prop
  | [], fs => fs = []
  | (f, d) :: r, fs => ∃ v fs', fs = (G.nm f, v) :: fs' ∧ RD K G ρ H d v ∧ RFs K G ρ H r fs'
/-- keys: ints and texts -/
def kD : Key → D
  | .inl i => .int i
  | .inr s => .str s.cps.toList
def RKs (K : PySem.W.Frag) (G : Gam0) (ρ : List Addr) (H : Hp) : List (D × D) → List (Key × V) → Prop
  | [], gs => gs = []
  | (k, d) :: r, gs => ∃ kk v gs', gs = (kk, v) :: gs' ∧ k = kD kk ∧ RD K G ρ H d v ∧ RKs K G ρ H r gs'
def OR (K : PySem.W.Frag) (G : Gam0) (ρ : List Addr) (H : Hp) (a : Addr) : O → Prop
  | .lst xs => ∃ vs, H a = some (.lst vs) ∧ RDs K G ρ H xs vs
  | .ins c fs => ∃ dx gs, H a = some (.ins (G.ca c) dx gs) ∧ RFs K G ρ H fs gs
  | .dic kvs => ∃ gs, H a = some (.dK gs) ∧ RKs K G ρ H kvs gs
structure HR (K : PySem.W.Frag) (G : Gam0) (ρ : List Addr) (H : Hp) (h : Hh) : Prop where
  len : ρ.length = h.length
  nd : ρ.Nodup
  obj : ∀ (i : Nat) (o : O), h[i]? = some o → ∃ a, ρ[i]? = some a ∧ OR K G ρ H a o
/-- what never changes -/
def Imm : HO → Prop
  | .tup _ => True
  | .frz _ _ => True
  | .xd _ => True
  | _ => False
structure Gr (ρ : List Addr) (H : Hp) (ρ' : List Addr) (H' : Hp) : Prop where
  pre : ∃ t, ρ' = ρ ++ t
  imm : ∀ a o, H a = some o → Imm o → H' a = some o
structure ER (K : PySem.W.Frag) (G : Gam) (ρ : List Addr) (H : Hp) (env : Ev) (σ : St) : Prop where
  len : env.length = σ.length
  jn : Gr G.jr G.jh ρ H
  sl : ∀ j a, G.jx = some (j, a) → env[j]? = some none → σ[j]? = some (some (.ref a))
  get : ∀ (i : Nat) (d : D), env[i]? = some (some d) → ∃ v, σ[i]? = some (some v) ∧ RD K G ρ H d v

theorem Gr.refl {ρ : List Addr} {H : Hp} : Gr ρ H ρ H := ⟨⟨[], by simp⟩, fun _ _ h _ => h⟩
theorem Gr.trans {ρ ρ1 ρ2 : List Addr} {H H1 H2 : Hp} (a : Gr ρ H ρ1 H1) (b : Gr ρ1 H1 ρ2 H2) : Gr ρ H ρ2 H2 := by
  obtain ⟨t, e⟩ := a.pre
  obtain ⟨u, f⟩ := b.pre
  exact ⟨⟨t ++ u, by rw [f, e, List.append_assoc]⟩, fun c o q i => b.imm c o (a.imm c o q i) i⟩
theorem Gr.at {ρ ρ' : List Addr} {H H' : Hp} (g : Gr ρ H ρ' H') {i : Nat} {a : Addr} (h : ρ[i]? = some a) : ρ'[i]? = some a := by
  obtain ⟨t, e⟩ := g.pre
  have l : i < ρ.length := (List.getElem?_eq_some_iff.mp h).1
  rw [e, List.getElem?_append_left l]
  exact h

section
variable {K : PySem.W.Frag} {G : Gam0} {ρ ρ' : List Addr} {H H' : Hp}
theorem SqT.gr {a : Addr} {xs : List V} (g : Gr ρ H ρ' H') (h : SqT K H a xs) : SqT K H' a xs := by
  rcases h with (h | ⟨o, h⟩) | h
  · exact .inl (.inl (g.imm _ _ h True.intro))
  · exact .inl (.inr ⟨o, g.imm _ _ h True.intro⟩)
  · exact .inr h
theorem SqF.gr {a : Addr} {xs : List V} (g : Gr ρ H ρ' H') (h : SqF K H a xs) : SqF K H' a xs :=
  h.elim (fun ⟨o, h⟩ => .inl ⟨o, g.imm _ _ h True.intro⟩) fun h => .inr h
mutual
theorem RD.gr (g : Gr ρ H ρ' H') : ∀ (d : D) (v : V), RD K G ρ H d v → RD K G ρ' H' d v
  | .non, _, h => h
  | .bl _, _, h => h
  | .int _, _, h => h
  | .str _, _, h => h
  | .tup xs, _, h => by
    obtain ⟨a, vs, e, s, r⟩ := h
    exact ⟨a, vs, e, SqT.gr g s, RDs.gr g xs vs r⟩
  | .ref i, _, h => by
    obtain ⟨a, e, q⟩ := h
    exact ⟨a, g.at e, q⟩
  | .cls _, _, h => h
  | .scr, v, h => ⟨h.1, SqF.gr g h.2⟩
  | .ty _, _, h => h
theorem RDs.gr (g : Gr ρ H ρ' H') : ∀ (ds : List D) (vs : List V), RDs K G ρ H ds vs → RDs K G ρ' H' ds vs
  | [], _, h => h
  | d :: ds, _, h => by
    obtain ⟨v, r, e, h1, h2⟩ := h
    exact ⟨v, r, e, RD.gr g d v h1, RDs.gr g ds r h2⟩
end
theorem RFs.gr (g : Gr ρ H ρ' H') : ∀ (fs : List (Nat × D)) (gs : List (Str × V)), RFs K G ρ H fs gs → RFs K G ρ' H' fs gs
  | [], _, h => h
  | (f, d) :: r, _, h => by
    obtain ⟨v, fs', e, h1, h2⟩ := h
    exact ⟨v, fs', e, RD.gr g d v h1, RFs.gr g r fs' h2⟩
theorem RKs.gr (g : Gr ρ H ρ' H') : ∀ (fs : List (D × D)) (gs : List (Key × V)), RKs K G ρ H fs gs → RKs K G ρ' H' fs gs
  | [], _, h => h
  | (f, d) :: r, _, h => by
    obtain ⟨kk, v, fs', e, ek, h1, h2⟩ := h
    exact ⟨kk, v, fs', e, ek, RD.gr g d v h1, RKs.gr g r fs' h2⟩
theorem OR.gr {a : Addr} {o : O} (g : Gr ρ H ρ' H') (e : H' a = H a) (h : OR K G ρ H a o) : OR K G ρ' H' a o := by
  cases o with
  | lst xs =>
    obtain ⟨vs, q, r⟩ := h
    exact ⟨vs, e.trans q, RDs.gr g _ _ r⟩
  | ins c fs =>
    obtain ⟨dx, gs, q, r⟩ := h
    exact ⟨dx, gs, e.trans q, RFs.gr g _ _ r⟩
  | dic kvs =>
    obtain ⟨gs, q, r⟩ := h
    exact ⟨gs, e.trans q, RKs.gr g _ _ r⟩
theorem OR.some {a : Addr} {o : O} (h : OR K G ρ H a o) : ∃ u, H a = some u ∧ Mut (some u) := by
  cases o with
  | lst xs => obtain ⟨vs, q, _⟩ := h; exact ⟨_, q, True.intro⟩
  | ins c fs => obtain ⟨dx, gs, q, _⟩ := h; exact ⟨_, q, True.intro⟩
  | dic kvs => obtain ⟨gs, q, _⟩ := h; exact ⟨_, q, True.intro⟩
theorem ER.gr {G : Gam} {env : Ev} {σ : St} (g : Gr ρ H ρ' H') (h : ER K G ρ H env σ) : ER K G ρ' H' env σ :=
  ⟨h.len, h.jn.trans g, h.sl, fun i d e => by
    obtain ⟨v, q, r⟩ := h.get i d e
    exact ⟨v, q, RD.gr g d v r⟩⟩
theorem ER.set {G : Gam} {env : Ev} {σ : St} {d : D} {v : V} (h : ER K G ρ H env σ) (i : Nat) (r : RD K G ρ H d v) : ER K G ρ H (env.set i (some d)) (σ.set i (some v)) := by
  refine ⟨by rw [List.length_set, List.length_set, h.len], h.jn, fun j a e q => ?_, fun j e q => ?_⟩
  · by_cases hj : i = j
    · subst hj
      have hl : i < env.length := by
        have := (List.getElem?_eq_some_iff.mp q).1
        rwa [List.length_set] at this
      rw [List.getElem?_set_self hl] at q
      cases q
    · rw [List.getElem?_set_ne hj] at q ⊢
      exact h.sl j a e q
  by_cases hj : i = j
  · subst hj
    have hl : i < env.length := by
      have := (List.getElem?_eq_some_iff.mp q).1
      rwa [List.length_set] at this
    rw [List.getElem?_set_self hl] at q
    cases q
    refine ⟨v, ?_, r⟩
    rw [List.getElem?_set_self (by rw [← h.len]; exact hl)]
  · rw [List.getElem?_set_ne hj] at q
    obtain ⟨w, q1, r1⟩ := h.get j e q
    exact ⟨w, by rw [List.getElem?_set_ne hj]; exact q1, r1⟩
theorem ER.unset {G G' : Gam} {env : Ev} {σ : St} (h : ER K G ρ H env σ) (i : Nat) {o : Option V} (e0 : G'.toGam0 = G.toGam0) (hj : Gr G'.jr G'.jh ρ H) (hs : ∀ j a, G'.jx = some (j, a) → j = i ∧ o = some (.ref a)) : ER K G' ρ H (env.set i none) (σ.set i o) := by
  refine ⟨by rw [List.length_set, List.length_set, h.len], hj, fun j a e q => ?_, fun j e q => ?_⟩
  · obtain ⟨rfl, rfl⟩ := hs j a e
    have hl : j < env.length := by
      have := (List.getElem?_eq_some_iff.mp q).1
      rwa [List.length_set] at this
    rw [List.getElem?_set_self (by rw [← h.len]; exact hl)]
  by_cases hj : i = j
  · subst hj
    have hl : i < env.length := by
      have := (List.getElem?_eq_some_iff.mp q).1
      rwa [List.length_set] at this
    rw [List.getElem?_set_self hl] at q
    cases q
  · rw [List.getElem?_set_ne hj] at q
    obtain ⟨w, q1, r1⟩ := h.get j e q
    exact ⟨w, by rw [List.getElem?_set_ne hj]; exact q1, by rw [e0]; exact r1⟩
end

/-! ### lists of values -/
section
variable {K : PySem.W.Frag} {G : Gam0} {ρ ρ' : List Addr} {H H' : Hp}
theorem RDs.len : ∀ {ds : List D} {vs : List V}, RDs K G ρ H ds vs → vs.length = ds.length
  | [], _, h => by rw [show _ = _ from h]; rfl
  | d :: ds, _, h => by
    obtain ⟨v, r, e, _, h2⟩ := h
    rw [e, List.length_cons, List.length_cons, RDs.len h2]
theorem RDs.get : ∀ {ds : List D} {vs : List V} {i : Nat} {d : D}, RDs K G ρ H ds vs → ds[i]? = some d → ∃ v, vs[i]? = some v ∧ RD K G ρ H d v
  | [], _, _, _, _, q => by simp at q
  | d :: ds, _, 0, _, h, q => by
    obtain ⟨v, r, e, h1, h2⟩ := h
    simp at q; subst q; subst e
    exact ⟨v, rfl, h1⟩
  | d :: ds, _, i + 1, x, h, q => by
    obtain ⟨v, r, e, h1, h2⟩ := h
    subst e
    obtain ⟨w, q1, q2⟩ := RDs.get (i := i) (d := x) h2 (by simpa using q)
    exact ⟨w, by simpa using q1, q2⟩
theorem RDs.app : ∀ {ds es : List D} {vs ws : List V}, RDs K G ρ H ds vs → RDs K G ρ H es ws → RDs K G ρ H (ds ++ es) (vs ++ ws)
  | [], _, _, _, h, h' => by rw [show _ = _ from h]; exact h'
  | d :: ds, es, _, ws, h, h' => by
    obtain ⟨v, r, e, h1, h2⟩ := h
    subst e
    exact ⟨v, r ++ ws, rfl, h1, RDs.app h2 h'⟩
theorem RDs.one {d : D} {v : V} (h : RD K G ρ H d v) : RDs K G ρ H [d] [v] := ⟨v, [], rfl, h, rfl⟩
theorem RDs.set : ∀ {ds : List D} {vs : List V} {d : D} {v : V} (i : Nat), RDs K G ρ H ds vs → RD K G ρ H d v → RDs K G ρ H (ds.set i d) (vs.set i v)
  | [], _, _, _, i, h, _ => by rw [show _ = _ from h]; exact rfl
  | x :: ds, _, d, v, 0, h, h' => by
    obtain ⟨w, r, e, h1, h2⟩ := h
    subst e
    exact ⟨v, r, rfl, h', h2⟩
  | x :: ds, _, d, v, i + 1, h, h' => by
    obtain ⟨w, r, e, h1, h2⟩ := h
    subst e
    exact ⟨w, r.set i v, rfl, h1, RDs.set i h2 h'⟩
theorem RDs.take : ∀ {ds : List D} {vs : List V} (n : Nat), RDs K G ρ H ds vs → RDs K G ρ H (ds.take n) (vs.take n)
  | [], _, n, h => by rw [show _ = _ from h, List.take_nil, List.take_nil]; exact rfl
  | x :: ds, _, 0, h => rfl
  | x :: ds, _, n + 1, h => by
    obtain ⟨w, r, e, h1, h2⟩ := h
    subst e
    exact ⟨w, r.take n, rfl, h1, RDs.take n h2⟩
theorem RDs.drop : ∀ {ds : List D} {vs : List V} (n : Nat), RDs K G ρ H ds vs → RDs K G ρ H (ds.drop n) (vs.drop n)
  | [], _, n, h => by rw [show _ = _ from h, List.drop_nil, List.drop_nil]; exact rfl
  | x :: ds, _, 0, h => h
  | x :: ds, _, n + 1, h => by
    obtain ⟨w, r, e, h1, h2⟩ := h
    subst e
    exact RDs.drop n h2
theorem RDs.split : ∀ {ds es : List D} {vs : List V}, RDs K G ρ H (ds ++ es) vs → ∃ u w, vs = u ++ w ∧ RDs K G ρ H ds u ∧ RDs K G ρ H es w
  | [], _, vs, h => ⟨[], vs, rfl, rfl, h⟩
  | d :: ds, es, _, h => by
    obtain ⟨v, r, e, h1, h2⟩ := h
    obtain ⟨u, w, e2, h3, h4⟩ := RDs.split (ds := ds) h2
    exact ⟨v :: u, w, by rw [e, e2]; rfl, ⟨v, u, rfl, h1, h3⟩, h4⟩
theorem RDs.ints : ∀ (ns : List Int), RDs K G ρ H (ns.map D.int) (ns.map V.int)
  | [] => rfl
  | n :: ns => ⟨.int n, _, rfl, rfl, RDs.ints ns⟩
theorem RDs.strs : ∀ (ns : List (List Nat)), RDs K G ρ H (ns.map D.str) ((ns.map sOf).map V.str)
  | [] => rfl
  | n :: ns => ⟨.str (sOf n), _, rfl, rfl, RDs.strs ns⟩

/-! ### the heap grows, is written -/
variable {h : Hh}
theorem HR.addr (r : HR K G ρ H h) {i : Nat} {a : Addr} (e : ρ[i]? = some a) : ∃ o, h[i]? = some o ∧ OR K G ρ H a o := by
  have hl : i < h.length := by rw [← r.len]; exact (List.getElem?_eq_some_iff.mp e).1
  have q : h[i]? = some h[i] := List.getElem?_eq_getElem hl
  obtain ⟨b, e2, o⟩ := r.obj i _ q
  rw [e] at e2; cases e2
  exact ⟨_, q, o⟩
theorem HR.at (r : HR K G ρ H h) {i : Nat} {o : O} {a : Addr} (e : ρ[i]? = some a) (q : h[i]? = some o) : OR K G ρ H a o := by
  obtain ⟨b, e2, x⟩ := r.obj i o q
  rw [e] at e2; cases e2
  exact x
theorem HR.notNew (r : HR K G ρ H h) {p : Addr} (hp : H p = none) : p ∉ ρ := fun hm => by
  obtain ⟨i, hi⟩ := List.mem_iff_getElem?.mp hm
  obtain ⟨o, _, x⟩ := r.addr hi
  obtain ⟨u, q, _⟩ := x.some
  rw [hp] at q; cases q
theorem Gr.newImm {p : Addr} {u : HO} (hp : H p = none) : Gr ρ H ρ (upd H p u) :=
  ⟨⟨[], by simp⟩, fun a o q _ => by rw [upd_ne (ne_of_none q hp)]; exact q⟩
theorem Gr.newObj {p : Addr} {u : HO} (hp : H p = none) : Gr ρ H (ρ ++ [p]) (upd H p u) :=
  ⟨⟨[p], rfl⟩, fun a o q _ => by rw [upd_ne (ne_of_none q hp)]; exact q⟩
/-- a thing that the interpreter's heap does not know is laid -/
theorem HR.newImm (r : HR K G ρ H h) {p : Addr} {u : HO} (hp : H p = none) : HR K G ρ (upd H p u) h :=
  ⟨r.len, r.nd, fun i o q => by
    obtain ⟨a, e, x⟩ := r.obj i o q
    obtain ⟨v, q2, _⟩ := x.some
    exact ⟨a, e, x.gr (Gr.newImm hp) (by rw [upd_ne (ne_of_none q2 hp)])⟩⟩
/-- a new object -/
theorem HR.newObj (r : HR K G ρ H h) {p : Addr} {u : HO} {o : O} (hp : H p = none) (new : OR K G (ρ ++ [p]) (upd H p u) p o) : HR K G (ρ ++ [p]) (upd H p u) (h ++ [o]) := by
  refine ⟨by rw [List.length_append, List.length_append, r.len] <;> rfl, ?_, fun i o' q => ?_⟩
  · rw [List.nodup_append]
    refine ⟨r.nd, List.nodup_cons.mpr ⟨List.not_mem_nil, List.nodup_nil⟩, fun a ha b hb e => ?_⟩
    rw [List.mem_singleton] at hb
    subst hb
    subst e
    exact r.notNew hp ha
  · by_cases hi : i < h.length
    · rw [List.getElem?_append_left hi] at q
      obtain ⟨a, e, x⟩ := r.obj i o' q
      obtain ⟨v, q2, _⟩ := x.some
      exact ⟨a, (Gr.newObj (u := u) hp).at e, x.gr (Gr.newObj hp) (by rw [upd_ne (ne_of_none q2 hp)])⟩
    · have hi' : i = h.length := by
        have := (List.getElem?_eq_some_iff.mp q).1
        rw [List.length_append, List.length_singleton] at this
        omega
      subst hi'
      rw [List.getElem?_append_right (Nat.le_refl _), Nat.sub_self] at q
      cases q
      refine ⟨p, ?_, new⟩
      rw [← r.len, List.getElem?_append_right (Nat.le_refl _), Nat.sub_self] <;> rfl
theorem Gr.write {a : Addr} {u v : HO} (q : H a = some u) (m : Mut (some u)) : Gr ρ H ρ (upd H a v) :=
  ⟨⟨[], by simp⟩, fun b o e i => by
    by_cases hb : b = a
    · subst hb
      rw [q] at e; cases e
      cases u <;> first | exact False.elim i | exact False.elim m
    · rw [upd_ne hb]; exact e⟩
theorem HR.write (r : HR K G ρ H h) {i : Nat} {a : Addr} {o' : O} {u v : HO} (e : ρ[i]? = some a) (q : H a = some u) (m : Mut (some u)) (new : OR K G ρ (upd H a v) a o') : HR K G ρ (upd H a v) (h.set i o') := by
  refine ⟨by rw [List.length_set]; exact r.len, r.nd, fun j o2 q2 => ?_⟩
  by_cases hj : i = j
  · subst hj
    have hl : i < h.length := by rw [← r.len]; exact (List.getElem?_eq_some_iff.mp e).1
    rw [List.getElem?_set_self hl] at q2
    cases q2
    exact ⟨a, e, new⟩
  · rw [List.getElem?_set_ne hj] at q2
    obtain ⟨b, e2, x⟩ := r.obj j o2 q2
    have hb : b ≠ a := fun z => hj (by
      subst z
      exact (List.getElem?_inj (List.getElem?_eq_some_iff.mp e).1 r.nd).mp (e.trans e2.symm))
    exact ⟨b, e2, x.gr (Gr.write q m) (by rw [upd_ne hb])⟩
end
end PI

set_option maxRecDepth 100000
/-! PI, part 2: what it is for an expression, a test, arguments, a statement to be told by the interpreter. -/
namespace PI
open PySem PySem.Spec PyProof.Rows L2

def XD (K : PySem.W.Frag) (G : Gam0) (ρ : List Addr) (H : Hp) (fs : List (Nat × D)) : Option Addr → Prop
  | none => fs = []
  | some dd => ∃ gs, H dd = some (.xd gs) ∧ RFs K G ρ H fs gs
def QR (K : PySem.W.Frag) (G : Gam0) (ρ : List Addr) (H : Hp) (r : R D) : VK := fun v H' =>
  match r with
  | .ok d h' => ∃ ρ', Gr ρ H ρ' H' ∧ HR K G ρ' H' h' ∧ RD K G ρ' H' d v
  | _ => False
def QT (K : PySem.W.Frag) (G : Gam0) (ρ : List Addr) (H : Hp) (r : R Bool) : Bool → Hp → Prop := fun b H' =>
  match r with
  | .ok d h' => b = d ∧ ∃ ρ', Gr ρ H ρ' H' ∧ HR K G ρ' H' h'
  | _ => False
def QA (K : PySem.W.Frag) (G : Gam0) (ρ : List Addr) (H : Hp) (r : R (List D)) : List V → Hp → Prop := fun vs H' =>
  match r with
  | .ok ds h' => ∃ ρ', Gr ρ H ρ' H' ∧ HR K G ρ' H' h' ∧ RDs K G ρ' H' ds vs
  | _ => False
def ExcOk (K : PySem.W.Frag) (G : Gam0) (W : WX) (ρ : List Addr) (H : Hp) (σ : St) {α : Type} : R α → Prop
  | .ok _ _ => True
  | .exc c fs h' => ∀ dd ρ' H', Gr ρ H ρ' H' → HR K G ρ' H' h' → XD K G ρ' H' fs dd → W (.ref (G.ca c)) dd σ H'
  | .bad => False
/-- the mode: calm, or within an except suite -/
def XMode (m : Bool) (X : Cx) : Prop := if m = true then L2H.HotC X else X.A.handled = none
structure XOk (m : Bool) (k : Nat) (W : WX) (X : Cx) : Prop where
  room : L2H.RoomH k X.A
  mode : XMode m X
  tk : m = false → L2N.Takes X W
def SE (X : Cx) (G : Gam) (W : WX) (e : Expr) (f : Ev → Hh → R D) : Prop :=
  ∀ (pins : List (Addr × Obj)) (s : Shared) (σ : St) (H : Hp) (ρ : List Addr) (env : Ev) (h : Hh), Inv X pins σ H s → HR X.K G ρ H h → ER X.K G ρ H env σ → ExcOk X.K G W ρ H σ (f env h) →
    wpAny (model X.prog X.w) X.A (eval e X.env) (EP X pins σ (QR X.K G ρ H (f env h))) X.xe s
/-- a test, whatever its whole is -/
def STw (X : Cx) (G : Gam) (W : WX) (e : Expr) (whole : Sem Value) (f : Ev → Hh → R Bool) : Prop :=
  ∀ (pins : List (Addr × Obj)) (s : Shared) (σ : St) (H : Hp) (ρ : List Addr) (env : Ev) (h : Hh), Inv X pins σ H s → HR X.K G ρ H h → ER X.K G ρ H env σ → ExcOk X.K G W ρ H σ (f env h) →
    wpAny (model X.prog X.w) X.A (isTrue e X.env whole) (TP X pins σ (QT X.K G ρ H (f env h))) X.xe s
abbrev STe (X : Cx) (G : Gam) (W : WX) (e : Expr) (f : Ev → Hh → R Bool) : Prop := STw X G W e (eval e X.env) f
def SA (X : Cx) (G : Gam) (W : WX) (es : List Expr) (f : Ev → Hh → R (List D)) : Prop :=
  ∀ (pos : Pos) (pins : List (Addr × Obj)) (s : Shared) (σ : St) (H : Hp) (ρ : List Addr) (env : Ev) (h : Hh), Inv X pins σ H s → HR X.K G ρ H h → ER X.K G ρ H env σ → ExcOk X.K G W ρ H σ (f env h) →
    wpAny (model X.prog X.w) X.A (spliced (backTo pos (starEach es X.env))) (AP X pins σ (QA X.K G ρ H (f env h))) X.xe s

/-- what a statement leads to -/
inductive RS where
  | nx (env : Ev) (h : Hh) | rt (d : D) (h : Hh) | bk (env : Ev) (h : Hh) | ct (env : Ev) (h : Hh) | exc (c : Nat) (fs : List (Nat × D)) (env : Ev) (h : Hh) | bad
def DE (K : PySem.W.Frag) (G : Gam) (ρ : List Addr) (H : Hp) (r : RS) : Ends where
  nx := fun σ' H' => match r with
    | .nx env' h' => ∃ ρ', Gr ρ H ρ' H' ∧ HR K G ρ' H' h' ∧ ER K G ρ' H' env' σ'
    | _ => False
  rt := fun v H' => match r with
    | .rt d h' => ∃ ρ', Gr ρ H ρ' H' ∧ HR K G ρ' H' h' ∧ RD K G ρ' H' d v
    | _ => False
  bk := fun σ' H' => match r with
    | .bk env' h' => ∃ ρ', Gr ρ H ρ' H' ∧ HR K G ρ' H' h' ∧ ER K G ρ' H' env' σ'
    | _ => False
  ct := fun σ' H' => match r with
    | .ct env' h' => ∃ ρ', Gr ρ H ρ' H' ∧ HR K G ρ' H' h' ∧ ER K G ρ' H' env' σ'
    | _ => False
def ExcOkS (K : PySem.W.Frag) (G : Gam) (W : WX) (ρ : List Addr) (H : Hp) : RS → Prop
  | .exc c fs env' h' => ∀ dd ρ' H' σ', Gr ρ H ρ' H' → HR K G ρ' H' h' → ER K G ρ' H' env' σ' → XD K G ρ' H' fs dd → W (.ref (G.ca c)) dd σ' H'
  | .bad => False
  | _ => True
def SS (X : Cx) (G : Gam) (W : WX) (st : Stmt) (f : Ev → Hh → RS) : Prop :=
  ∀ (pins : List (Addr × Obj)) (s : Shared) (σ : St) (H : Hp) (ρ : List Addr) (env : Ev) (h : Hh), Inv X pins σ H s → HR X.K G ρ H h → ER X.K G ρ H env σ → ExcOkS X.K G W ρ H (f env h) →
    wpAny (model X.prog X.w) X.A (exec st X.env) (SP X pins (DE X.K G ρ H (f env h))) X.xe s
def SSs (X : Cx) (G : Gam) (W : WX) (sts : List Stmt) (f : Ev → Hh → RS) : Prop :=
  ∀ (pins : List (Addr × Obj)) (s : Shared) (σ : St) (H : Hp) (ρ : List Addr) (env : Ev) (h : Hh), Inv X pins σ H s → HR X.K G ρ H h → ER X.K G ρ H env σ → ExcOkS X.K G W ρ H (f env h) →
    wpAny (model X.prog X.w) X.A (execs sts X.env) (SP X pins (DE X.K G ρ H (f env h))) X.xe s

section
variable {K : PySem.W.Frag} {G : Gam0} {W : WX} {ρ ρ1 : List Addr} {H H1 : Hp} {σ : St}
theorem ExcOk.fst {α β : Type} {m : R α} {f : α → Hh → R β} (h : ExcOk K G W ρ H σ (m.bind f)) : ExcOk K G W ρ H σ m := by
  cases m with
  | ok a h' => trivial
  | exc c fs h' => exact h
  | bad => exact h
theorem ExcOk.gr {α : Type} {m : R α} (g : Gr ρ H ρ1 H1) (h : ExcOk K G W ρ H σ m) : ExcOk K G W ρ1 H1 σ m := by
  cases m with
  | ok a h' => trivial
  | exc c fs h' => exact fun dd ρ' H' g' r x => h dd ρ' H' (g.trans g') r x
  | bad => exact h
theorem QR.gr {r : R D} {v : V} {H' : Hp} (g : Gr ρ H ρ1 H1) (h : QR K G ρ1 H1 r v H') : QR K G ρ H r v H' := by
  cases r with
  | ok d h' => obtain ⟨ρ', g', x, y⟩ := h; exact ⟨ρ', g.trans g', x, y⟩
  | exc c fs h' => exact h
  | bad => exact h
theorem QT.gr {r : R Bool} {v : Bool} {H' : Hp} (g : Gr ρ H ρ1 H1) (h : QT K G ρ1 H1 r v H') : QT K G ρ H r v H' := by
  cases r with
  | ok d h' => obtain ⟨e, ρ', g', x⟩ := h; exact ⟨e, ρ', g.trans g', x⟩
  | exc c fs h' => exact h
  | bad => exact h
theorem QA.gr {r : R (List D)} {v : List V} {H' : Hp} (g : Gr ρ H ρ1 H1) (h : QA K G ρ1 H1 r v H') : QA K G ρ H r v H' := by
  cases r with
  | ok d h' => obtain ⟨ρ', g', x, y⟩ := h; exact ⟨ρ', g.trans g', x, y⟩
  | exc c fs h' => exact h
  | bad => exact h
variable {X : Cx} {pins : List (Addr × Obj)}
theorem ep_mono {Q Q' : VK} (hq : ∀ v H', Q v H' → Q' v H') {u : Value} {s : Shared} (h : EP X pins σ Q u s) : EP X pins σ Q' u s :=
  let ⟨v, H', I, r, q⟩ := h
  ⟨v, H', I, r, hq v H' q⟩
theorem ep_gr {r : R D} {u : Value} {s : Shared} (g : Gr ρ H ρ1 H1) (h : EP X pins σ (QR K G ρ1 H1 r) u s) : EP X pins σ (QR K G ρ H r) u s := ep_mono (fun _ _ q => q.gr g) h
theorem tp_mono {Q Q' : Bool → Hp → Prop} (hq : ∀ v H', Q v H' → Q' v H') {u : Bool} {s : Shared} (h : TP X pins σ Q u s) : TP X pins σ Q' u s :=
  let ⟨H', I, q⟩ := h
  ⟨H', I, hq u H' q⟩
theorem tp_gr {r : R Bool} {u : Bool} {s : Shared} (g : Gr ρ H ρ1 H1) (h : TP X pins σ (QT K G ρ1 H1 r) u s) : TP X pins σ (QT K G ρ H r) u s := tp_mono (fun _ _ q => q.gr g) h
theorem ap_mono {Q Q' : List V → Hp → Prop} (hq : ∀ v H', Q v H' → Q' v H') {u : List Value} {s : Shared} (h : AP X pins σ Q u s) : AP X pins σ Q' u s :=
  let ⟨v, H', I, r, q⟩ := h
  ⟨v, H', I, r, hq v H' q⟩
theorem ap_gr {r : R (List D)} {u : List Value} {s : Shared} (g : Gr ρ H ρ1 H1) (h : AP X pins σ (QA K G ρ1 H1 r) u s) : AP X pins σ (QA K G ρ H r) u s := ap_mono (fun _ _ q => q.gr g) h
theorem xe_gr {α : Type} {t : Sem Value} {r : R D} {s : Shared} (g : Gr ρ H ρ1 H1) (h : wpAny (model X.prog X.w) X.A t (EP X pins σ (QR K G ρ1 H1 r)) X.xe s) : wpAny (model X.prog X.w) X.A t (EP X pins σ (QR K G ρ H r)) X.xe s := thn h fun _ _ q => ep_gr g q
end

section
variable {X : Cx} {G : Gam} {W : WX} {e : Expr} {f : Ev → Hh → R D}
/-- an expression, then what follows; rt: the whole's result -/
theorem SE.then (he : SE X G W e f) {β : Type} {F : D → Hh → R β} {rt : R β} {pins : List (Addr × Obj)} {s : Shared} {σ : St} {H : Hp} {ρ : List Addr} {env : Ev} {h : Hh} (I : Inv X pins σ H s) (r : HR X.K G ρ H h) (er : ER X.K G ρ H env σ)
    (hr : (f env h).bind F = rt) (hx : ExcOk X.K G W ρ H σ rt) {Q : Value → Shared → Prop}
    (k : ∀ x h1 u s1 v ρ1 H1, F x h1 = rt → Inv X pins σ H1 s1 → Gr ρ H ρ1 H1 → HR X.K G ρ1 H1 h1 → ER X.K G ρ1 H1 env σ → RelV v u → RD X.K G ρ1 H1 x v → ExcOk X.K G W ρ1 H1 σ rt → Q u s1) :
    wpAny (model X.prog X.w) X.A (eval e X.env) Q X.xe s := by
  subst hr
  refine thn (he pins s σ H ρ env h I r er hx.fst) fun u s1 ⟨v, H1, I1, rv, q⟩ => ?_
  cases ef : f env h with
  | ok x h1 =>
    rw [ef] at q hx
    obtain ⟨ρ1, g, r1, d1⟩ := q
    exact k x h1 u s1 v ρ1 H1 (by rw [ef]; rfl) I1 g r1 (er.gr g) rv d1 (by rw [ef]; exact ExcOk.gr g hx)
  | exc c fs h1 => rw [ef] at q; exact q.elim
  | bad => rw [ef] at q; exact q.elim
theorem STw.then {whole : Sem Value} {f : Ev → Hh → R Bool} (he : STw X G W e whole f) {β : Type} {F : Bool → Hh → R β} {rt : R β} {pins : List (Addr × Obj)} {s : Shared} {σ : St} {H : Hp} {ρ : List Addr} {env : Ev} {h : Hh} (I : Inv X pins σ H s) (r : HR X.K G ρ H h) (er : ER X.K G ρ H env σ)
    (hr : (f env h).bind F = rt) (hx : ExcOk X.K G W ρ H σ rt) {Q : Bool → Shared → Prop}
    (k : ∀ x h1 s1 ρ1 H1, F x h1 = rt → Inv X pins σ H1 s1 → Gr ρ H ρ1 H1 → HR X.K G ρ1 H1 h1 → ER X.K G ρ1 H1 env σ → ExcOk X.K G W ρ1 H1 σ rt → Q x s1) :
    wpAny (model X.prog X.w) X.A (isTrue e X.env whole) Q X.xe s := by
  subst hr
  refine thn (he pins s σ H ρ env h I r er hx.fst) fun u s1 ⟨H1, I1, q⟩ => ?_
  cases ef : f env h with
  | ok x h1 =>
    rw [ef] at q hx
    obtain ⟨e1, ρ1, g, r1⟩ := q
    subst e1
    exact k u h1 s1 ρ1 H1 (by rw [ef]; rfl) I1 g r1 (er.gr g) (by rw [ef]; exact ExcOk.gr g hx)
  | exc c fs h1 => rw [ef] at q; exact q.elim
  | bad => rw [ef] at q; exact q.elim
theorem SA.then {es : List Expr} {f : Ev → Hh → R (List D)} (he : SA X G W es f) {β : Type} {F : List D → Hh → R β} {rt : R β} {pos : Pos} {pins : List (Addr × Obj)} {s : Shared} {σ : St} {H : Hp} {ρ : List Addr} {env : Ev} {h : Hh} (I : Inv X pins σ H s) (r : HR X.K G ρ H h) (er : ER X.K G ρ H env σ)
    (hr : (f env h).bind F = rt) (hx : ExcOk X.K G W ρ H σ rt) {Q : List Value → Shared → Prop}
    (k : ∀ xs h1 us s1 vs ρ1 H1, F xs h1 = rt → Inv X pins σ H1 s1 → Gr ρ H ρ1 H1 → HR X.K G ρ1 H1 h1 → ER X.K G ρ1 H1 env σ → Vals vs us → RDs X.K G ρ1 H1 xs vs → ExcOk X.K G W ρ1 H1 σ rt → Q us s1) :
    wpAny (model X.prog X.w) X.A (spliced (backTo pos (starEach es X.env))) Q X.xe s := by
  subst hr
  refine thn (he pos pins s σ H ρ env h I r er hx.fst) fun u s1 ⟨v, H1, I1, rv, q⟩ => ?_
  cases ef : f env h with
  | ok x h1 =>
    rw [ef] at q hx
    obtain ⟨ρ1, g, r1, d1⟩ := q
    exact k x h1 u s1 v ρ1 H1 (by rw [ef]; rfl) I1 g r1 (er.gr g) rv d1 (by rw [ef]; exact ExcOk.gr g hx)
  | exc c fs h1 => rw [ef] at q; exact q.elim
  | bad => rw [ef] at q; exact q.elim
end
/-! ### statements -/
def R.bindS {α : Type} (env : Ev) : R α → (α → Hh → RS) → RS
  | .ok a h, f => f a h
  | .exc c fs h, _ => .exc c fs env h
  | .bad, _ => .bad
section
variable {X : Cx} {G : Gam} {W : WX}
theorem ExcOkS.gr {K : PySem.W.Frag} {ρ ρ1 : List Addr} {H H1 : Hp} {m : RS} (g : Gr ρ H ρ1 H1) (h : ExcOkS K G W ρ H m) : ExcOkS K G W ρ1 H1 m := by
  cases m with
  | exc c fs env' h' => exact fun dd ρ' H' σ' g' r er x => h dd ρ' H' σ' (g.trans g') r er x
  | bad => exact h
  | _ => trivial
theorem ExcOkS.fst {K : PySem.W.Frag} {ρ : List Addr} {H : Hp} {σ : St} {α : Type} {m : R α} {env : Ev} {F : α → Hh → RS} (er : ER K G ρ H env σ) (h : ExcOkS K G W ρ H (m.bindS env F)) : ExcOk K G W ρ H σ m := by
  cases m with
  | ok a h' => trivial
  | exc c fs h' => exact fun dd ρ' H' g r x => h dd ρ' H' σ g r (er.gr g) x
  | bad => exact h
theorem DE.gr {K : PySem.W.Frag} {ρ ρ1 : List Addr} {H H1 : Hp} {r : RS} (g : Gr ρ H ρ1 H1) : (∀ σ' H', (DE K G ρ1 H1 r).nx σ' H' → (DE K G ρ H r).nx σ' H') ∧ (∀ v H', (DE K G ρ1 H1 r).rt v H' → (DE K G ρ H r).rt v H') ∧
    (∀ σ' H', (DE K G ρ1 H1 r).bk σ' H' → (DE K G ρ H r).bk σ' H') ∧ (∀ σ' H', (DE K G ρ1 H1 r).ct σ' H' → (DE K G ρ H r).ct σ' H') := by
  cases r <;> refine ⟨fun _ _ q => ?_, fun _ _ q => ?_, fun _ _ q => ?_, fun _ _ q => ?_⟩ <;>
    first | exact q.elim | (obtain ⟨ρ', g', a, b⟩ := q; exact ⟨ρ', g.trans g', a, b⟩)
theorem sp_mono {pins : List (Addr × Obj)} {D D' : Ends} (h1 : ∀ σ H, D.nx σ H → D'.nx σ H) (h2 : ∀ v H, D.rt v H → D'.rt v H) (h3 : ∀ σ H, D.bk σ H → D'.bk σ H) (h4 : ∀ σ H, D.ct σ H → D'.ct σ H) {f : Flow} {s : Shared} (q : SP X pins D f s) : SP X pins D' f s := by
  cases f with
  | next => obtain ⟨σ, H, I, q⟩ := q; exact ⟨σ, H, I, h1 _ _ q⟩
  | brk => obtain ⟨σ, H, I, q⟩ := q; exact ⟨σ, H, I, h3 _ _ q⟩
  | cont => obtain ⟨σ, H, I, q⟩ := q; exact ⟨σ, H, I, h4 _ _ q⟩
  | ret v => obtain ⟨x, σ, H, I, r, q⟩ := q; exact ⟨x, σ, H, I, r, h2 _ _ q⟩
theorem sp_gr {pins : List (Addr × Obj)} {ρ ρ1 : List Addr} {H H1 : Hp} {r : RS} (g : Gr ρ H ρ1 H1) {f : Flow} {s : Shared} (q : SP X pins (DE X.K G ρ1 H1 r) f s) : SP X pins (DE X.K G ρ H r) f s :=
  sp_mono (DE.gr g).1 (DE.gr g).2.1 (DE.gr g).2.2.1 (DE.gr g).2.2.2 q
theorem SE.thenS {e : Expr} {f : Ev → Hh → R D} (he : SE X G W e f) {F : D → Hh → RS} {rt : RS} {pins : List (Addr × Obj)} {s : Shared} {σ : St} {H : Hp} {ρ : List Addr} {env : Ev} {h : Hh} (I : Inv X pins σ H s) (r : HR X.K G ρ H h) (er : ER X.K G ρ H env σ)
    (hr : (f env h).bindS env F = rt) (hx : ExcOkS X.K G W ρ H rt) {Q : Value → Shared → Prop}
    (k : ∀ x h1 u s1 v ρ1 H1, F x h1 = rt → Inv X pins σ H1 s1 → Gr ρ H ρ1 H1 → HR X.K G ρ1 H1 h1 → ER X.K G ρ1 H1 env σ → RelV v u → RD X.K G ρ1 H1 x v → ExcOkS X.K G W ρ1 H1 rt → Q u s1) :
    wpAny (model X.prog X.w) X.A (eval e X.env) Q X.xe s := by
  subst hr
  refine thn (he pins s σ H ρ env h I r er (hx.fst er)) fun u s1 ⟨v, H1, I1, rv, q⟩ => ?_
  cases ef : f env h with
  | ok x h1 =>
    rw [ef] at q hx
    obtain ⟨ρ1, g, r1, d1⟩ := q
    exact k x h1 u s1 v ρ1 H1 (by rw [ef]; rfl) I1 g r1 (er.gr g) rv d1 (by rw [ef]; exact ExcOkS.gr g hx)
  | exc c fs h1 => rw [ef] at q; exact q.elim
  | bad => rw [ef] at q; exact q.elim
theorem STw.thenS {e : Expr} {whole : Sem Value} {f : Ev → Hh → R Bool} (he : STw X G W e whole f) {F : Bool → Hh → RS} {rt : RS} {pins : List (Addr × Obj)} {s : Shared} {σ : St} {H : Hp} {ρ : List Addr} {env : Ev} {h : Hh} (I : Inv X pins σ H s) (r : HR X.K G ρ H h) (er : ER X.K G ρ H env σ)
    (hr : (f env h).bindS env F = rt) (hx : ExcOkS X.K G W ρ H rt) {Q : Bool → Shared → Prop}
    (k : ∀ x h1 s1 ρ1 H1, F x h1 = rt → Inv X pins σ H1 s1 → Gr ρ H ρ1 H1 → HR X.K G ρ1 H1 h1 → ER X.K G ρ1 H1 env σ → ExcOkS X.K G W ρ1 H1 rt → Q x s1) :
    wpAny (model X.prog X.w) X.A (isTrue e X.env whole) Q X.xe s := by
  subst hr
  refine thn (he pins s σ H ρ env h I r er (hx.fst er)) fun u s1 ⟨H1, I1, q⟩ => ?_
  cases ef : f env h with
  | ok x h1 =>
    rw [ef] at q hx
    obtain ⟨e1, ρ1, g, r1⟩ := q
    subst e1
    exact k u h1 s1 ρ1 H1 (by rw [ef]; rfl) I1 g r1 (er.gr g) (by rw [ef]; exact ExcOkS.gr g hx)
  | exc c fs h1 => rw [ef] at q; exact q.elim
  | bad => rw [ef] at q; exact q.elim
end
end PI

set_option maxRecDepth 100000
/-! PI, part 3: operators. -/
namespace PI
open PySem PySem.Spec PyProof.Rows L2

/-- the longest list, tuple, text (sizeLine) -/
def SZ : Nat := 16777216
theorem SZ_eq : sizeLine = SZ := sizeLine_eq

inductive Bop where | add | sub | mul | fdiv | mod | pow
  deriving DecidableEq
def Bop.op : Bop → Operator
  | .add => .Add | .sub => .Sub | .mul => .Mult | .fdiv => .FloorDiv | .mod => .Mod | .pow => .Pow
def binD : Bop → D → D → Hh → R D
  | .add, .int i, .int j, h => .ok (.int (i + j)) h
  | .add, .str a, .str b, h => if a.length + b.length ≤ SZ then .ok (.str (a ++ b)) h else .bad
  | .add, .tup a, .tup b, h => if a.length + b.length ≤ SZ then .ok (.tup (a ++ b)) h else .bad
  | .add, .ref i, .ref j, h => match h[i]?, h[j]? with
    | some (.lst a), some (.lst b) => if a.length + b.length ≤ SZ then .ok (.ref h.length) (h ++ [.lst (a ++ b)]) else .bad
    | _, _ => .bad
  | .sub, .int i, .int j, h => .ok (.int (i - j)) h
  | .mul, .int i, .int j, h => if (-(2 ^ 64) < i ∧ i < 2 ^ 64) ∨ (-(2 ^ 64) < j ∧ j < 2 ^ 64) then .ok (.int (i * j)) h else .bad
  | .fdiv, .int i, .int j, h => if 0 < j ∧ j < 1073741824 then .ok (.int (i / j)) h else .bad
  | .mod, .int i, .int j, h => if 0 < j then .ok (.int (i % j)) h else .bad
  | .pow, .int i, .int j, h => if 0 ≤ j ∧ j ≤ 1000000 ∧ i.natAbs < 2 ^ 64 then .ok (.int (i ^ j.toNat)) h else .bad
  | _, _, _, _ => .bad

theorem sOf_app (a b : List Nat) : sOf a ++ sOf b = sOf (a ++ b) := by
  show (⟨a.toArray ++ b.toArray⟩ : Str) = ⟨(a ++ b).toArray⟩
  simp
section
variable {X : Cx} {G : Gam} {W : WX} {pins : List (Addr × Obj)} {s : Shared} {σ : St} {H : Hp} {ρ : List Addr} {h h' : Hh} {d x y : D} {a b : V} {u w : Value}
theorem q_same {K : PySem.W.Frag} (r : HR K G ρ H h) (q : RD K G ρ H d a) : QR K G ρ H (.ok d h) a H := ⟨ρ, Gr.refl, r, q⟩
theorem ep_same (I : Inv X pins σ H s) (r : HR X.K G ρ H h) (ru : RelV a u) (q : RD X.K G ρ H d a) : EP X pins σ (QR X.K G ρ H (.ok d h)) u s := ⟨a, H, I, ru, q_same r q⟩
/-- a new list -/
theorem q_lst {K : PySem.W.Frag} (r : HR K G ρ H h) {xs : List D} {vs : List V} (q : RDs K G ρ H xs vs) (p : Addr) (hp : H p = none) : QR K G ρ H (.ok (.ref h.length) (h ++ [.lst xs])) (.ref p) (upd H p (.lst vs)) := by
  refine ⟨ρ ++ [p], Gr.newObj hp, r.newObj hp ⟨vs, upd_same, RDs.gr (Gr.newObj hp) _ _ q⟩, p, ?_, rfl⟩
  rw [← r.len, List.getElem?_append_right (Nat.le_refl _), Nat.sub_self] <;> rfl
/-- a new tuple -/
theorem q_tup {K : PySem.W.Frag} (r : HR K G ρ H h) {xs : List D} {vs : List V} (q : RDs K G ρ H xs vs) (p : Addr) (hp : H p = none) : QR K G ρ H (.ok (.tup xs) h) (.ref p) (upd H p (.tup vs)) :=
  ⟨ρ, Gr.newImm hp, r.newImm hp, p, vs, rfl, SqT.of upd_same, RDs.gr (Gr.newImm hp) _ _ q⟩

theorem bin_ok {op : Bop} (e : binD op x y h = .ok d h') (I : Inv X pins σ H s) (r : HR X.K G ρ H h) (rx : RD X.K G ρ H x a) (ry : RD X.K G ρ H y b) (ru : RelV a u) (rw' : RelV b w) :
    wpAny (model X.prog X.w) X.A (binaryOp op.op u w) (EP X pins σ (QR X.K G ρ H (.ok d h'))) X.xe s := by
  unfold binD at e
  split at e
  · cases e
    cases rx; cases ry
    exact op_add pins s σ H _ _ u w _ I ru rw' ⟨_, _, rfl, rfl, q_same r rfl⟩
  · split at e
    · rename_i hz
      cases e
      cases rx; cases ry
      refine op_add_str pins s σ H _ _ u w _ I ru rw' ⟨_, _, rfl, rfl, by rw [sOf_len, sOf_len, SZ_eq]; exact hz, q_same r ?_⟩
      exact congrArg V.str (sOf_app _ _)
    · cases e
  · split at e
    · rename_i hz
      cases e
      obtain ⟨p, vs, rfl, h1, q1⟩ := rx
      obtain ⟨p2, vs2, rfl, h2, q2⟩ := ry
      have l1 := q1.len
      have l2 := q2.len
      refine op_catA pins s σ H _ _ u w _ I ru rw' ⟨p, p2, vs, vs2, rfl, rfl, h1, h2, by rw [l1, l2, SZ_eq]; exact hz, fun z => ?_, fun _ z => ?_, fun _ _ t ht => q_tup r (q1.app q2) t ht⟩
      · subst z
        have z2 := List.length_eq_zero_iff.mp l1.symm
        rw [z2, List.nil_append]
        exact q_same r ⟨p2, vs2, rfl, h2, q2⟩
      · subst z
        have z2 := List.length_eq_zero_iff.mp l2.symm
        rw [z2, List.append_nil]
        exact q_same r ⟨p, vs, rfl, h1, q1⟩
    · cases e
  · split at e
    · rename_i i j _ _ xs ys ea eb
      split at e
      · rename_i hz
        cases e
        obtain ⟨p, e1, rfl⟩ := rx
        obtain ⟨p2, e2, rfl⟩ := ry
        obtain ⟨vs, h1, q1⟩ := r.at e1 ea
        obtain ⟨vs2, h2, q2⟩ := r.at e2 eb
        exact op_cat pins s σ H _ _ u w _ I ru rw' ⟨p, p2, vs, vs2, rfl, rfl, h1, h2, by rw [q1.len, q2.len, SZ_eq]; exact hz, fun t ht => q_lst r (q1.app q2) t ht⟩
      · cases e
    · cases e
  · cases e
    cases rx; cases ry
    exact op_sub pins s σ H _ _ u w _ I ru rw' ⟨_, _, rfl, rfl, q_same r rfl⟩
  · split at e
    · rename_i hz
      cases e
      cases rx; cases ry
      exact op_mul pins s σ H _ _ u w _ I ru rw' ⟨_, _, rfl, rfl, hz, q_same r rfl⟩
    · cases e
  · split at e
    · rename_i hz
      cases e
      cases rx; cases ry
      exact op_fdiv pins s σ H _ _ u w _ I ru rw' ⟨_, _, rfl, rfl, hz, q_same r rfl⟩
    · cases e
  · split at e
    · rename_i hz
      cases e
      cases rx; cases ry
      exact op_mod pins s σ H _ _ u w _ I ru rw' ⟨_, _, rfl, rfl, hz, q_same r rfl⟩
    · cases e
  · split at e
    · rename_i hz
      cases e
      cases rx; cases ry
      exact op_pow pins s σ H _ _ u w _ I ru rw' ⟨_, _, rfl, rfl, hz, q_same r rfl⟩
    · cases e
  · cases e
end

/-! ### comparisons -/
/-- a value as data (mutable lists read through the heap) -/
def toPy : Nat → Hh → D → Option PyData
  | 0, _, _ => none
  | n + 1, h, d => match d with
    | .non => some .none
    | .bl b => some (.bool b)
    | .int i => some (.int i)
    | .str x => some (.str (sOf x))
    | .tup xs => (xs.mapM (toPy n h)).map .tuple
    | .ref i => match h[i]? with
      | some (.lst xs) => (xs.mapM (toPy n h)).map .list
      | _ => none
    | _ => none
def eqD (h : Hh) (x y : D) : Option Bool :=
  match toPy 70 h x, toPy 70 h y with
  | some p, some q => if SeqAt.shaped p = true ∧ SeqAt.shaped q = true then some (PyData.eqv p q) else none
  | _, _ => none
def flatD : D → Bool
  | .non => true
  | .bl _ => true
  | .int _ => true
  | .str _ => true
  | _ => false
def eqF : D → D → Bool
  | .non, .non => true
  | .bl a, .bl b => a == b
  | .bl a, .int b => (if a then 1 else 0) == b
  | .int a, .bl b => a == (if b then 1 else 0)
  | .int a, .int b => a == b
  | .str a, .str b => a == b
  | _, _ => false
def inF (x : D) (ys : List D) : Bool := ys.any fun y => eqF y x
/-- x in y -/
def inD (h : Hh) (x y : D) : Option Bool :=
  match x, y with
  | .str [c], .str z => some (decide (c ∈ z))
  | x, .tup ys => if flatD x = true ∧ ys.all flatD = true then some (inF x ys) else none
  | x, .ref i => match h[i]? with
    | some (.lst ys) => if flatD x = true ∧ ys.all flatD = true then some (inF x ys) else
      match toPy 70 h x, toPy 70 h (.ref i) with
      | some p, some (.list qs) => if SeqAt.shaped p = true ∧ SeqAt.shaped (.list qs) = true then some (qs.any fun z => PyData.eqv z p) else none
      | _, _ => none
    | _ => none
  | _, _ => none
inductive Cop where | eq | ne | lt | le | gt | ge | is | isnot | in_ | notin
  deriving DecidableEq
def Cop.op : Cop → CmpOp
  | .eq => .Eq | .ne => .NotEq | .lt => .Lt | .le => .LtE | .gt => .Gt | .ge => .GtE | .is => .Is | .isnot => .IsNot | .in_ => .In | .notin => .NotIn
def isD (x y : D) : Option Bool :=
  match x, y with
  | .non, .non => some true
  | .bl a, .bl b => some (a == b)
  | _, .non => some false
  | _, _ => none
def ordD (c : Cop) (x y : D) : Option Bool :=
  match c, x, y with
  | .lt, .int i, .int j => some (decide (i < j))
  | .le, .int i, .int j => some (decide (i ≤ j))
  | .gt, .int i, .int j => some (decide (j < i))
  | .ge, .int i, .int j => some (decide (j ≤ i))
  | .lt, .str i, .str j => some (decide (i < j))
  | _, _, _ => none
def cmpB (c : Cop) (x y : D) (h : Hh) : Option Bool :=
  match c with
  | .eq => eqD h x y
  | .ne => (eqD h x y).map (!·)
  | .is => isD x y
  | .isnot => (isD x y).map (!·)
  | .in_ => inD h x y
  | .notin => (inD h x y).map (!·)
  | c => ordD c x y
def cmpD (c : Cop) (x y : D) (h : Hh) : R D := match cmpB c x y h with
  | some b => .ok (.bl b) h
  | none => .bad

section
variable {K : PySem.W.Frag} {G : Gam} {H : Hp} {ρ : List Addr} {h : Hh}
theorem dps_of {f : D → Option PyData} (hf : ∀ (d : D) (v : V) (p : PyData), RD K G ρ H d v → f d = some p → Dp K H v p) : ∀ (xs : List D) (vs : List V) (ps : List PyData), RDs K G ρ H xs vs → xs.mapM f = some ps → DpAll K H vs ps
  | [], vs, ps, q, e => by
    rw [show vs = [] from q]
    rw [List.mapM_nil] at e
    cases e
    exact .nil
  | d :: ds, vs, ps, q, e => by
    obtain ⟨v, r, rfl, h1, h2⟩ := q
    rw [List.mapM_cons] at e
    cases e1 : f d with
    | none => rw [e1] at e; cases e
    | some p =>
      rw [e1] at e
      cases e2 : ds.mapM f with
      | none => rw [e2] at e; cases e
      | some qs =>
        rw [e2] at e
        cases e
        exact .cons (hf d v p h1 e1) (dps_of hf ds r qs h2 e2)
theorem toPy_ok (r : HR K G ρ H h) : ∀ (n : Nat) (d : D) (v : V) (p : PyData), RD K G ρ H d v → toPy n h d = some p → Dp K H v p
  | 0, _, _, _, _, e => by cases e
  | n + 1, d, v, p, q, e => by
    unfold toPy at e
    split at e
    · cases e; cases q; exact .non
    · cases e; cases q; exact .bl _
    · cases e; cases q; exact .int _
    · cases e; cases q; exact .str _
    · rename_i xs
      obtain ⟨a, vs, rfl, h1, q1⟩ := q
      cases e1 : xs.mapM (toPy n h) with
      | none => rw [e1] at e; cases e
      | some ps =>
        rw [e1] at e
        cases e
        exact .tup h1 (dps_of (fun d v p => toPy_ok r n d v p) xs vs ps q1 e1)
    · rename_i i
      obtain ⟨a, ea, rfl⟩ := q
      split at e
      · rename_i xs eo
        obtain ⟨vs, h1, q1⟩ := r.at ea eo
        cases e1 : xs.mapM (toPy n h) with
        | none => rw [e1] at e; cases e
        | some ps =>
          rw [e1] at e
          cases e
          exact .lst (SqL.of h1) (dps_of (fun d v p => toPy_ok r n d v p) xs vs ps q1 e1)
      · cases e
    · cases e
theorem flat_of {d : D} {v : V} (q : RD K G ρ H d v) (f : flatD d = true) : flatV v = true := by
  cases d <;> first | (cases q; rfl) | cases f
theorem eqF_of {d e : D} {v w : V} (q : RD K G ρ H d v) (q' : RD K G ρ H e w) (f : flatD d = true) (f' : flatD e = true) : eqV v w = eqF d e := by
  cases d with
  | non => cases q; cases e <;> first | (cases q'; rfl) | cases f'
  | bl a => cases q; cases e <;> first | (cases q'; rfl) | cases f'
  | int a => cases q; cases e <;> first | (cases q'; rfl) | cases f'
  | str a =>
    cases q
    cases e with
    | str b =>
      cases q'
      show (sOf a == sOf b) = (a == b)
      by_cases hab : a = b
      · subst hab; simp
      · have : sOf a ≠ sOf b := fun z => hab (sOf_inj z)
        rw [beq_eq_false_iff_ne.mpr hab, beq_eq_false_iff_ne.mpr this]
    | non => cases q'; rfl
    | bl b => cases q'; rfl
    | int b => cases q'; rfl
    | _ => cases f'
  | _ => cases f
theorem flats_of : ∀ {ds : List D} {vs : List V}, RDs K G ρ H ds vs → ds.all flatD = true → vs.all flatV = true
  | [], _, q, _ => by rw [show _ = _ from q]; rfl
  | d :: ds, _, q, f => by
    obtain ⟨v, r, rfl, h1, h2⟩ := q
    rw [List.all_cons, Bool.and_eq_true] at f ⊢
    exact ⟨flat_of h1 f.1, flats_of h2 f.2⟩
theorem inF_of {x : D} {v : V} (q : RD K G ρ H x v) (f : flatD x = true) : ∀ {ds : List D} {vs : List V}, RDs K G ρ H ds vs → ds.all flatD = true → inV v vs = inF x ds
  | [], _, q', _ => by rw [show _ = _ from q']; rfl
  | d :: ds, _, q', f' => by
    obtain ⟨w, r, rfl, h1, h2⟩ := q'
    rw [List.all_cons, Bool.and_eq_true] at f'
    show (eqV w v || inV v r) = (eqF d x || inF x ds)
    rw [eqF_of h1 q f'.1 f, inF_of q f h2 f'.2]
end

section
variable {X : Cx} {G : Gam} {W : WX} {pins : List (Addr × Obj)} {s : Shared} {σ : St} {H : Hp} {ρ : List Addr} {h h' : Hh} {d x y : D} {a b : V} {u w : Value}
theorem qb {K : PySem.W.Frag} (r : HR K G ρ H h) {c c' : Bool} (e : c' = c) : QR K G ρ H (.ok (.bl c) h) (.bl c') H := by
  subst e
  exact q_same r rfl
/-- an answer of the comparison -/
abbrev CmpW (X : Cx) (G : Gam) (pins : List (Addr × Obj)) (σ : St) (ρ : List Addr) (H : Hp) (s : Shared) (c : Cop) (u w : Value) (bo : Bool) (h : Hh) : Prop :=
  wpAny (model X.prog X.w) X.A (compareOp c.op u w) (EP X pins σ (QR X.K G ρ H (.ok (.bl bo) h))) X.xe s
theorem eq_ok (hu : X.A.units + 65 < cLine) {bo : Bool} (e : eqD h x y = some bo) (I : Inv X pins σ H s) (r : HR X.K G ρ H h) (rx : RD X.K G ρ H x a) (ry : RD X.K G ρ H y b) (ru : RelV a u) (rw' : RelV b w) :
    CmpW X G pins σ ρ H s .eq u w bo h ∧ CmpW X G pins σ ρ H s .ne u w (!bo) h := by
  unfold eqD at e
  split at e
  · rename_i p q e1 e2
    split at e
    · rename_i hs
      cases e
      have d1 := toPy_ok r _ _ _ _ rx e1
      have d2 := toPy_ok r _ _ _ _ ry e2
      exact ⟨op_eqD (by omega) pins s σ H _ _ u w _ I ru rw' ⟨p, q, d1, d2, hs.1, hs.2, qb r rfl⟩, op_neD (by omega) pins s σ H _ _ u w _ I ru rw' ⟨p, q, d1, d2, hs.1, hs.2, qb r rfl⟩⟩
    · cases e
  · cases e
theorem is_ok {bo : Bool} (e : isD x y = some bo) (I : Inv X pins σ H s) (r : HR X.K G ρ H h) (rx : RD X.K G ρ H x a) (ry : RD X.K G ρ H y b) (ru : RelV a u) (rw' : RelV b w) :
    CmpW X G pins σ ρ H s .is u w bo h ∧ CmpW X G pins σ ρ H s .isnot u w (!bo) h := by
  have non : ∀ {k : Bool}, y = .non → decide (a = .non) = k → CmpW X G pins σ ρ H s .is u w k h ∧ CmpW X G pins σ ρ H s .isnot u w (!k) h := by
    intro k ey ek
    subst ey
    cases ry
    exact ⟨op_isN pins s σ H _ _ u w _ I ru rw' ⟨rfl, qb r ek⟩, op_notN pins s σ H _ _ u w _ I ru rw' ⟨rfl, qb r (by rw [ek])⟩⟩
  unfold isD at e
  split at e
  · cases e
    exact non rfl (by cases rx; rfl)
  · rename_i p q
    cases e
    cases rx; cases ry
    have ee : decide (p = q) = (p == q) := (Bool.beq_eq_decide_eq p q).symm
    exact ⟨op_isBl pins s σ H _ _ u w _ I ru rw' ⟨_, _, rfl, rfl, qb r ee⟩, op_notBl pins s σ H _ _ u w _ I ru rw' ⟨_, _, rfl, rfl, qb r (by rw [ee])⟩⟩
  · rename_i hne
    cases e
    refine non rfl (decide_eq_false fun z => ?_)
    subst z
    cases x with
    | non => exact hne rfl
    | tup xs => obtain ⟨_, _, z, _⟩ := rx; cases z
    | ref i => obtain ⟨_, _, z⟩ := rx; cases z
    | scr => obtain ⟨z, _⟩ := rx; cases z
    | _ => cases rx
  · cases e
theorem in_ok (hu : X.A.units + 65 < cLine) {bo : Bool} (e : inD h x y = some bo) (I : Inv X pins σ H s) (r : HR X.K G ρ H h) (rx : RD X.K G ρ H x a) (ry : RD X.K G ρ H y b) (ru : RelV a u) (rw' : RelV b w) :
    CmpW X G pins σ ρ H s .in_ u w bo h ∧ CmpW X G pins σ ρ H s .notin u w (!bo) h := by
  unfold inD at e
  split at e
  · rename_i c z
    cases e
    cases rx; cases ry
    have e1 : decide (c ∈ (sOf z).cps.toList) = decide (c ∈ z) := by rw [sOf_cps]
    exact ⟨op_in_sign pins s σ H _ _ u w _ I ru rw' ⟨c, sOf z, rfl, rfl, qb r e1⟩, op_notIn_sign pins s σ H _ _ u w _ I ru rw' ⟨c, sOf z, rfl, rfl, qb r (by rw [e1])⟩⟩
  · split at e
    · rename_i hf
      cases e
      obtain ⟨p, vs, rfl, h1, q1⟩ := ry
      have f1 := flat_of rx hf.1
      have f2 := flats_of q1 hf.2
      have e1 := inF_of rx hf.1 q1 hf.2
      exact ⟨op_in_seq pins s σ H _ _ u w _ I ru rw' ⟨p, vs, rfl, .inr h1, f1, f2, qb r e1⟩, op_notIn_seq pins s σ H _ _ u w _ I ru rw' ⟨p, vs, rfl, .inr h1, f1, f2, qb r (congrArg (!·) e1)⟩⟩
    · cases e
  · split at e
    · rename_i ys eo
      split at e
      · rename_i hf
        cases e
        obtain ⟨p, ea, rfl⟩ := ry
        obtain ⟨vs, h1, q1⟩ := r.at ea eo
        have f1 := flat_of rx hf.1
        have f2 := flats_of q1 hf.2
        have e1 := inF_of rx hf.1 q1 hf.2
        exact ⟨op_in_seq pins s σ H _ _ u w _ I ru rw' ⟨p, vs, rfl, .inl (SqL.of h1), f1, f2, qb r e1⟩, op_notIn_seq pins s σ H _ _ u w _ I ru rw' ⟨p, vs, rfl, .inl (SqL.of h1), f1, f2, qb r (congrArg (!·) e1)⟩⟩
      · split at e
        · rename_i p qs e1 e2
          split at e
          · rename_i hs
            cases e
            have d1 := toPy_ok r _ _ _ _ rx e1
            have d2 := toPy_ok r _ _ _ _ ry e2
            exact ⟨op_inD hu pins s σ H _ _ u w _ I ru rw' ⟨p, qs, d1, d2, hs.1, hs.2, qb r rfl⟩, op_notInD hu pins s σ H _ _ u w _ I ru rw' ⟨p, qs, d1, d2, hs.1, hs.2, qb r rfl⟩⟩
          · cases e
        · cases e
    · cases e
  · cases e
theorem cmp_ok (hu : X.A.units + 65 < cLine) {c : Cop} (e : cmpD c x y h = .ok d h') (I : Inv X pins σ H s) (r : HR X.K G ρ H h) (rx : RD X.K G ρ H x a) (ry : RD X.K G ρ H y b) (ru : RelV a u) (rw' : RelV b w) :
    wpAny (model X.prog X.w) X.A (compareOp c.op u w) (EP X pins σ (QR X.K G ρ H (.ok d h'))) X.xe s := by
  unfold cmpD at e
  split at e
  · rename_i bo eb
    cases e
    have neg : ∀ {o : Option Bool}, o.map (!·) = some bo → o = some (!bo) := by
      intro o q
      cases o with
      | none => cases q
      | some k => cases q; simp
    unfold cmpB at eb
    split at eb
    · exact (eq_ok hu eb I r rx ry ru rw').1
    · have q := (eq_ok hu (neg eb) I r rx ry ru rw').2
      rw [Bool.not_not] at q; exact q
    · exact (is_ok eb I r rx ry ru rw').1
    · have q := (is_ok (neg eb) I r rx ry ru rw').2
      rw [Bool.not_not] at q; exact q
    · exact (in_ok hu eb I r rx ry ru rw').1
    · have q := (in_ok hu (neg eb) I r rx ry ru rw').2
      rw [Bool.not_not] at q; exact q
    · unfold ordD at eb
      split at eb
      · cases eb; cases rx; cases ry
        exact op_lt pins s σ H _ _ u w _ I ru rw' ⟨_, _, rfl, rfl, qb r rfl⟩
      · cases eb; cases rx; cases ry
        exact op_le pins s σ H _ _ u w _ I ru rw' ⟨_, _, rfl, rfl, qb r rfl⟩
      · cases eb; cases rx; cases ry
        exact op_gt pins s σ H _ _ u w _ I ru rw' ⟨_, _, rfl, rfl, qb r rfl⟩
      · cases eb; cases rx; cases ry
        exact op_ge pins s σ H _ _ u w _ I ru rw' ⟨_, _, rfl, rfl, qb r rfl⟩
      · rename_i i j
        cases eb; cases rx; cases ry
        refine op_lt_str pins s σ H _ _ u w _ I ru rw' ⟨_, _, rfl, rfl, qb r ?_⟩
        rw [sOf_cps, sOf_cps]
      · cases eb
  · cases e
end
end PI

set_option maxRecDepth 100000
/-! PI, part 4: expressions without calls. -/
namespace PI
open PySem PySem.Spec PyProof.Rows L2

theorem bin_exc {op : Bop} {x y : D} {h h' : Hh} {c : Nat} {fs : List (Nat × D)} : binD op x y h ≠ .exc c fs h' := by
  intro e
  unfold binD at e
  split at e <;> (first | cases e | (split at e <;> (first | cases e | (split at e <;> cases e))))
theorem cmp_exc {op : Cop} {x y : D} {h h' : Hh} {c : Nat} {fs : List (Nat × D)} : cmpD op x y h ≠ .exc c fs h' := by
  intro e
  unfold cmpD at e
  split at e <;> cases e

/-! ### truth -/
def truD (d : D) (h : Hh) : R Bool := match d with
  | .non => .ok false h
  | .bl b => .ok b h
  | .int i => .ok (i != 0) h
  | .str s => if s.length ≤ SZ then .ok (!s.isEmpty) h else .bad
  | .tup xs => .ok (!xs.isEmpty) h
  | .ref i => match h[i]? with
    | some (.lst xs) => .ok (!xs.isEmpty) h
    | some (.dic kvs) => .ok (!kvs.isEmpty) h
    | _ => .bad
  | _ => .bad
section
variable {X : Cx} {G : Gam} {W : WX} {pins : List (Addr × Obj)} {s : Shared} {σ : St} {H : Hp} {ρ : List Addr} {h h' : Hh} {x : D} {a : V} {u : Value} {bo : Bool}
theorem RKs.len {K : PySem.W.Frag} : ∀ {ks : List (D × D)} {gs : List (Key × V)}, RKs K G ρ H ks gs → gs.length = ks.length
  | [], _, q => by rw [show _ = _ from q]; rfl
  | (k, d) :: r, _, q => by
    obtain ⟨kk, v, gs', e, _, _, h2⟩ := q
    rw [e, List.length_cons, List.length_cons, RKs.len h2]
theorem emp_len {α β : Type} {a : List α} {b : List β} (e : a.length = b.length) : (!a.isEmpty) = (!b.isEmpty) := by
  cases a <;> cases b <;> first | rfl | simp at e
theorem tru_run {rt : R Bool} (e : truD x h = rt) (hx : ExcOk X.K G W ρ H σ rt) (I : Inv X pins σ H s) (r : HR X.K G ρ H h) (rx : RD X.K G ρ H x a) (ru : RelV a u) :
    wpAny (model X.prog X.w) X.A (truthy u) (TP X pins σ (QT X.K G ρ H rt)) X.xe s := by
  unfold truD at e
  split at e
  · subst e; cases rx; exact tru_ok pins s σ H _ u _ I ru ⟨false, rfl, rfl, ρ, Gr.refl, r⟩
  · rename_i b
    subst e; cases rx; exact tru_ok pins s σ H _ u _ I ru ⟨b, rfl, rfl, ρ, Gr.refl, r⟩
  · rename_i i
    subst e; cases rx; exact tru_ok pins s σ H _ u _ I ru ⟨i != 0, rfl, rfl, ρ, Gr.refl, r⟩
  · rename_i z
    cases rx
    split at e
    · rename_i hz
      subst e
      refine tru_ok pins s σ H _ u _ I ru ⟨!z.isEmpty, ⟨by rw [sOf_len, SZ_eq]; exact hz, ?_⟩, rfl, ρ, Gr.refl, r⟩
      rw [sOf_len]
      cases z with
      | nil => rfl
      | cons c z =>
        show true = ((((c :: z).length : Nat) : Int) != 0)
        rw [List.length_cons]
        exact (bne_iff_ne.mpr (by omega)).symm
    · subst e; exact hx.elim
  · rename_i xs
    obtain ⟨p, vs, rfl, h1, q1⟩ := rx
    subst e
    exact tru_ok pins s σ H _ u _ I ru ⟨!xs.isEmpty, .inr (.inl ⟨vs, h1, emp_len q1.len.symm⟩), rfl, ρ, Gr.refl, r⟩
  · rename_i i
    obtain ⟨p, ea, rfl⟩ := rx
    split at e
    · rename_i xs eo
      obtain ⟨vs, h1, q1⟩ := r.at ea eo
      subst e
      exact tru_ok pins s σ H _ u _ I ru ⟨!xs.isEmpty, .inl ⟨vs, SqL.of h1, emp_len q1.len.symm⟩, rfl, ρ, Gr.refl, r⟩
    · rename_i kvs eo
      obtain ⟨gs, h1, q1⟩ := r.at ea eo
      subst e
      exact tru_ok pins s σ H _ u _ I ru ⟨!kvs.isEmpty, .inr (.inr ⟨gs, h1, emp_len q1.len.symm⟩), rfl, ρ, Gr.refl, r⟩
    · subst e; exact hx.elim
  · subst e; exact hx.elim
end

section
variable {X : Cx} {G : Gam} {W : WX} {a b c e : Expr} {fa fb fc : Ev → Hh → R D} {ta tb : Ev → Hh → R Bool} {pos : Pos}
/-- a value by itself, from the layer's rule -/
theorem se_of {t : TE} (p : PE X e t) {f : Ev → Hh → R D} (q : ∀ (σ : St) (H : Hp) (ρ : List Addr) (env : Ev) (h : Hh), HR X.K G ρ H h → ER X.K G ρ H env σ → ExcOk X.K G W ρ H σ (f env h) → t σ H (QR X.K G ρ H (f env h))) : SE X G W e f :=
  fun pins s σ H ρ env h I r er hx => p.run pins s σ H _ I (q σ H ρ env h r er hx)
/-! ### constants, names -/
def fCst (d : D) : Ev → Hh → R D := fun _ h => .ok d h
theorem se_int {i : Int} {j : Nat} : SE X G W (.Constant (.int i) j pos) (fCst (.int i)) := se_of pe_int fun σ H ρ env h r er hx => q_same r rfl
theorem se_bl {k : Bool} {j : Nat} : SE X G W (.Constant (.bool k) j pos) (fCst (.bl k)) := se_of pe_bl fun σ H ρ env h r er hx => q_same r rfl
theorem se_non {j : Nat} : SE X G W (.Constant .none j pos) (fCst .non) := se_of pe_non fun σ H ρ env h r er hx => q_same r rfl
theorem se_str {x : Str} {z : List Nat} {j : Nat} (e : x = sOf z) : SE X G W (.Constant (.str x) j pos) (fCst (.str z)) := se_of pe_str fun σ H ρ env h r er hx => q_same r (by rw [e]; rfl)
def fVar (i : Nat) : Ev → Hh → R D := fun env h => match env[i]? with
  | some (some d) => .ok d h
  | _ => .bad
theorem se_var {i : Nat} {x : Str} (hN : X.N[i]? = some x) (hv : Vis X.env.scope x) (hd : (x == ("__debug__" : Str)) = false) (hcd : (x == ("__classdict__" : Str)) = false) : SE X G W (.Name x pos) (fVar i) :=
  se_of (pe_var hN hv hd hcd) fun σ H ρ env h r er hx => by
    unfold fVar at hx ⊢
    split at hx
    · rename_i d ed
      obtain ⟨v, e1, q⟩ := er.get i d ed
      exact ⟨v, e1, q_same r q⟩
    · exact hx.elim
/-- a constant of the module -/
theorem se_glo {x : Str} {d : D} {v : V} {u : Value} (hg : Gl X x) (hm : X.mg x = some u) (ru : RelV v u) (hd : (x == ("__debug__" : Str)) = false) (q : ∀ ρ H h, HR X.K G ρ H h → RD X.K G ρ H d v) : SE X G W (.Name x pos) (fCst d) :=
  se_of (pe_glob hg hm ru hd) fun σ H ρ env h r er hx => q_same r (q ρ H h r)

/-! ### operators -/
def fBin (op : Bop) (fa fb : Ev → Hh → R D) : Ev → Hh → R D := fun env h => (fa env h).bind fun x h1 => (fb env h1).bind fun y h2 => binD op x y h2
theorem se_bin {op : Bop} (ha : SE X G W a fa) (hb : SE X G W b fb) : SE X G W (.BinOp a op.op b pos) (fBin op fa fb) := by
  intro pins s σ H ρ env h I r er hx
  generalize eq : fBin op fa fb env h = rt at hx ⊢
  refine wpAny_BinOp (ha.then I r er eq hx fun x h1 u s1 v ρ1 H1 e1 I1 g1 r1 er1 ru dx hx1 => hb.then I1 r1 er1 e1 hx1 fun y h2 w s2 v2 ρ2 H2 e2 I2 g2 r2 er2 rw2 dy hx2 => ?_)
  cases rt with
  | ok d h' => exact thn (bin_ok e2 I2 r2 (RD.gr g2 x v dx) dy ru rw2) fun _ _ q => ep_gr (g1.trans g2) q
  | exc c fs h' => exact (bin_exc e2).elim
  | bad => exact hx2.elim
def fCmp (op : Cop) (fa fb : Ev → Hh → R D) : Ev → Hh → R D := fun env h => (fa env h).bind fun x h1 => (fb env h1).bind fun y h2 => cmpD op x y h2
theorem se_cmp {op : Cop} {k : Nat} (ok : L2H.RoomH k X.A) (hm : behindInMarks op.op b = false) (ha : SE X G W a fa) (hb : SE X G W b fb) : SE X G W (.Compare a [op.op] [b] pos) (fCmp op fa fb) := by
  intro pins s σ H ρ env h I r er hx
  generalize eq : fCmp op fa fb env h = rt at hx ⊢
  refine wpAny_Compare1 (ha.then I r er eq hx fun x h1 u s1 v ρ1 H1 e1 I1 g1 r1 er1 ru dx hx1 => hb.then I1 r1 er1 e1 hx1 fun y h2 w s2 v2 ρ2 H2 e2 I2 g2 r2 er2 rw2 dy hx2 => ?_) hm
  cases rt with
  | ok d h' => exact thn (cmp_ok (by have := ok.un; omega) e2 I2 r2 (RD.gr g2 x v dx) dy ru rw2) fun _ _ q => ep_gr (g1.trans g2) q
  | exc c fs h' => exact (cmp_exc e2).elim
  | bad => exact hx2.elim
/-- a value's truth, as a test -/
def tTru (fa : Ev → Hh → R D) : Ev → Hh → R Bool := fun env h => (fa env h).bind truD
theorem bind_assoc {α β γ : Type} (m : R α) (f : α → Hh → R β) (g : β → Hh → R γ) : (m.bind f).bind g = m.bind fun x h => (f x h).bind g := by
  cases m <;> rfl
/-- one comparison, then what follows its answer -/
theorem cmp_then {α : Type} {op : Cop} {k : Nat} (ok : L2H.RoomH k X.A) {pins : List (Addr × Obj)} {s : Shared} {σ : St} {H : Hp} {ρ : List Addr} {h : Hh} {x y : D} {v w : V} {u z : Value} {F : D → Hh → R α} {rt : R α}
    (I : Inv X pins σ H s) (r : HR X.K G ρ H h) (dx : RD X.K G ρ H x v) (dy : RD X.K G ρ H y w) (ru : RelV v u) (rz : RelV w z) (e : (cmpD op x y h).bind F = rt) (hx : ExcOk X.K G W ρ H σ rt) {Q : Value → Shared → Prop}
    (k' : ∀ d h' c s' t ρ' H', F d h' = rt → Inv X pins σ H' s' → Gr ρ H ρ' H' → HR X.K G ρ' H' h' → RelV t c → RD X.K G ρ' H' d t → Q c s') : wpAny (model X.prog X.w) X.A (compareOp op.op u z) Q X.xe s := by
  cases e4 : cmpD op x y h with
  | ok d h' =>
    rw [e4] at e
    refine thn (cmp_ok (by have := ok.un; omega) e4 I r dx dy ru rz) fun cv s3 q => ?_
    obtain ⟨t, H3, I3, rt3, ρ3, g3, r3, d3⟩ := q
    exact k' d h' cv s3 t ρ3 H3 e I3 g3 r3 rt3 d3
  | exc c fs h' => exact (cmp_exc e4).elim
  | bad => rw [e4] at e; rw [← e] at hx; exact hx.elim
theorem truD_heap {d : D} {h h' : Hh} {t : Bool} (e : truD d h = .ok t h') : h' = h := by
  unfold truD at e
  split at e
  · cases e; rfl
  · cases e; rfl
  · cases e; rfl
  · split at e
    · cases e; rfl
    · cases e
  · cases e; rfl
  · split at e
    · cases e; rfl
    · cases e; rfl
    · cases e
  · cases e
theorem tru_then {α : Type} {pins : List (Addr × Obj)} {s : Shared} {σ : St} {H : Hp} {ρ : List Addr} {h : Hh} {x : D} {v : V} {u : Value} {F : Bool → Hh → R α} {rt : R α}
    (I : Inv X pins σ H s) (r : HR X.K G ρ H h) (dx : RD X.K G ρ H x v) (ru : RelV v u) (e : (truD x h).bind F = rt) (hx : ExcOk X.K G W ρ H σ rt) {Q : Bool → Shared → Prop}
    (k' : ∀ t h' s' ρ' H', truD x h = .ok t h' → F t h' = rt → Inv X pins σ H' s' → Gr ρ H ρ' H' → HR X.K G ρ' H' h' → Q t s') : wpAny (model X.prog X.w) X.A (truthy u) Q X.xe s := by
  have hx1 : ExcOk X.K G W ρ H σ (truD x h) := by rw [← e] at hx; exact hx.fst
  refine thn (tru_run rfl hx1 I r dx ru) fun t s' q => ?_
  obtain ⟨H', I', q⟩ := q
  cases e2 : truD x h with
  | ok b h' =>
    rw [e2] at q e
    obtain ⟨rfl, ρ', g, r'⟩ := q
    exact k' t h' s' ρ' H' e2 e I' g r'
  | exc c fs h' => rw [e2] at q; exact q.elim
  | bad => rw [e2] at q; exact q.elim
theorem st_cmp {op : Cop} {k : Nat} {wh : Sem Value} (ok : L2H.RoomH k X.A) (hm : behindInMarks op.op b = false) (ha : SE X G W a fa) (hb : SE X G W b fb) : STw X G W (.Compare a [op.op] [b] pos) wh (tTru (fCmp op fa fb)) := by
  intro pins s σ H ρ env h I r er hx
  generalize eq : tTru (fCmp op fa fb) env h = rt at hx ⊢
  unfold tTru fCmp at eq
  rw [bind_assoc] at eq
  refine wpAny_isTrue_Compare1 (ha.then I r er eq hx fun x h1 u s1 v ρ1 H1 e1 I1 g1 r1 er1 ru dx hx1 => ?_) hm
  rw [bind_assoc] at e1
  refine hb.then I1 r1 er1 e1 hx1 fun y h2 w s2 v2 ρ2 H2 e2 I2 g2 r2 er2 rw2 dy hx2 => ?_
  refine cmp_then ok I2 r2 (RD.gr g2 x v dx) dy ru rw2 e2 hx2 fun d h' c s' t ρ' H' e3 I3 g3 r3 rc dc => ?_
  exact thn (tru_run e3 (ExcOk.gr g3 hx2) I3 r3 dc rc) fun _ _ q => tp_gr ((g1.trans g2).trans g3) q
/-- x op y op' z -/
def fChn (o1 o2 : Cop) (fa fb fc : Ev → Hh → R D) : Ev → Hh → R D := fun env h => (fa env h).bind fun x h1 => (fb env h1).bind fun y h2 => (cmpD o1 x y h2).bind fun d h3 => (truD d h3).bind fun t h4 => if t = true then (fc env h4).bind fun z h5 => cmpD o2 y z h5 else .ok d h4
theorem se_chn {o1 o2 : Cop} {k : Nat} (ok : L2H.RoomH k X.A) (hm : lastMarks [o1.op, o2.op] [b, c] = false) (ha : SE X G W a fa) (hb : SE X G W b fb) (hc : SE X G W c fc) : SE X G W (.Compare a [o1.op, o2.op] [b, c] pos) (fChn o1 o2 fa fb fc) := by
  intro pins s σ H ρ env h I r er hx
  generalize eq : fChn o1 o2 fa fb fc env h = rt at hx ⊢
  refine Compare_chain (ha.then I r er eq hx fun x h1 u s1 v ρ1 H1 e1 I1 g1 r1 er1 ru dx hx1 => chain_link (hb.then I1 r1 er1 e1 hx1 fun y h2 w s2 v2 ρ2 H2 e2 I2 g2 r2 er2 rw2 dy hx2 => ?_)) hm
  refine cmp_then ok I2 r2 (RD.gr g2 x v dx) dy ru rw2 e2 hx2 fun d h' cv s' t ρ' H' e3 I3 g3 r3 rc dc => ?_
  refine tru_then I3 r3 dc rc e3 (ExcOk.gr g3 hx2) fun tb h4 s4 ρ4 H4 _ e4 I4 g4 r4 => ?_
  cases tb with
  | false => exact ite_ff (by rw [if_neg Bool.false_ne_true] at e4; subst e4; exact ⟨t, H4, I4, rc, ρ4, ((g1.trans g2).trans g3).trans g4, r4, RD.gr g4 d t dc⟩)
  | true =>
    rw [if_pos rfl] at e4
    refine ite_tt (chain_last (hc.then I4 r4 (er2.gr (g3.trans g4)) e4 (ExcOk.gr (g3.trans g4) hx2) fun z h5 w5 s5 v5 ρ5 H5 e5 I5 g5 r5 er5 rw5 dz hx5 => ?_))
    cases rt with
    | ok d h' => exact thn (cmp_ok (by have := ok.un; omega) e5 I5 r5 (RD.gr ((g3.trans g4).trans g5) y v2 dy) dz rw2 rw5) fun _ _ q => ep_gr ((((g1.trans g2).trans g3).trans g4).trans g5) q
    | exc c fs h' => exact (cmp_exc e5).elim
    | bad => exact hx5.elim
theorem st_chn {o1 o2 : Cop} {k : Nat} {wh : Sem Value} (ok : L2H.RoomH k X.A) (hm : lastMarks [o1.op, o2.op] [b, c] = false) (ha : SE X G W a fa) (hb : SE X G W b fb) (hc : SE X G W c fc) : STw X G W (.Compare a [o1.op, o2.op] [b, c] pos) wh (tTru (fChn o1 o2 fa fb fc)) := by
  intro pins s σ H ρ env h I r er hx
  generalize eq : tTru (fChn o1 o2 fa fb fc) env h = rt at hx ⊢
  unfold tTru fChn at eq
  rw [bind_assoc] at eq
  refine isTrue_chain (ha.then I r er eq hx fun x h1 u s1 v ρ1 H1 e1 I1 g1 r1 er1 ru dx hx1 => test_link ?_) hm
  rw [bind_assoc] at e1
  refine hb.then I1 r1 er1 e1 hx1 fun y h2 w s2 v2 ρ2 H2 e2 I2 g2 r2 er2 rw2 dy hx2 => ?_
  rw [bind_assoc] at e2
  refine cmp_then ok I2 r2 (RD.gr g2 x v dx) dy ru rw2 e2 hx2 fun d h' cv s' t ρ' H' e3 I3 g3 r3 rc dc => ?_
  rw [bind_assoc] at e3
  refine tru_then I3 r3 dc rc e3 (ExcOk.gr g3 hx2) fun tb h4 s4 ρ4 H4 et e4 I4 g4 r4 => ?_
  cases tb with
  | false =>
    rw [if_neg Bool.false_ne_true] at e4
    have eh := truD_heap et
    subst eh
    refine ite_ff ?_
    have e5 : rt = .ok false h4 := e4.symm.trans et
    subst e5
    exact ⟨H4, I4, rfl, ρ4, ((g1.trans g2).trans g3).trans g4, r4⟩
  | true =>
    rw [if_pos rfl, bind_assoc] at e4
    refine ite_tt (test_last (hc.then I4 r4 (er2.gr (g3.trans g4)) e4 (ExcOk.gr (g3.trans g4) hx2) fun z h5 w5 s5 v5 ρ5 H5 e5 I5 g5 r5 er5 rw5 dz hx5 => ?_))
    refine cmp_then ok I5 r5 (RD.gr ((g3.trans g4).trans g5) y v2 dy) dz rw2 rw5 e5 hx5 fun d6 h6 c6 s6 t6 ρ6 H6 e6 I6 g6 r6 rc6 dc6 => ?_
    exact thn (tru_run e6 (ExcOk.gr g6 hx5) I6 r6 dc6 rc6) fun _ _ q => tp_gr (((((g1.trans g2).trans g3).trans g4).trans g5).trans g6) q
/-! ### and, or, not, if .. else -/
def fAnd (fa fb : Ev → Hh → R D) : Ev → Hh → R D := fun env h => (fa env h).bind fun x h1 => (truD x h1).bind fun t h2 => if t = true then fb env h2 else .ok x h2
def fOr (fa fb : Ev → Hh → R D) : Ev → Hh → R D := fun env h => (fa env h).bind fun x h1 => (truD x h1).bind fun t h2 => if t = true then .ok x h2 else fb env h2
theorem se_bool1 {op : PySem.BoolOp} (ha : SE X G W a fa) : SE X G W (.BoolOp op [a] pos) fa := fun pins s σ H ρ env h I r er hx => BoolOp_one (ha pins s σ H ρ env h I r er hx)
theorem se_and {es : List Expr} (ha : SE X G W a fa) (hb : SE X G W (.BoolOp .And (b :: es) pos) fb) : SE X G W (.BoolOp .And (a :: b :: es) pos) (fAnd fa fb) := by
  intro pins s σ H ρ env h I r er hx
  generalize eq : fAnd fa fb env h = rt at hx ⊢
  refine BoolOp_and (ha.then I r er eq hx fun x h1 u s1 v ρ1 H1 e1 I1 g1 r1 er1 ru dx hx1 => tru_then I1 r1 dx ru e1 hx1 fun t h2 s2 ρ2 H2 _ e2 I2 g2 r2 => ?_)
  cases t with
  | false => exact ite_ff (by rw [if_neg Bool.false_ne_true] at e2; subst e2; exact ⟨v, H2, I2, ru, ρ2, g1.trans g2, r2, RD.gr g2 x v dx⟩)
  | true =>
    rw [if_pos rfl] at e2
    subst e2
    exact ite_tt (thn (hb pins s2 σ H2 ρ2 env h2 I2 r2 (er1.gr g2) (ExcOk.gr g2 hx1)) fun _ _ q => ep_gr (g1.trans g2) q)
theorem se_or {es : List Expr} (ha : SE X G W a fa) (hb : SE X G W (.BoolOp .Or (b :: es) pos) fb) : SE X G W (.BoolOp .Or (a :: b :: es) pos) (fOr fa fb) := by
  intro pins s σ H ρ env h I r er hx
  generalize eq : fOr fa fb env h = rt at hx ⊢
  refine BoolOp_or (ha.then I r er eq hx fun x h1 u s1 v ρ1 H1 e1 I1 g1 r1 er1 ru dx hx1 => tru_then I1 r1 dx ru e1 hx1 fun t h2 s2 ρ2 H2 _ e2 I2 g2 r2 => ?_)
  cases t with
  | true => exact ite_tt (by rw [if_pos rfl] at e2; subst e2; exact ⟨v, H2, I2, ru, ρ2, g1.trans g2, r2, RD.gr g2 x v dx⟩)
  | false =>
    rw [if_neg Bool.false_ne_true] at e2
    subst e2
    exact ite_ff (thn (hb pins s2 σ H2 ρ2 env h2 I2 r2 (er1.gr g2) (ExcOk.gr g2 hx1)) fun _ _ q => ep_gr (g1.trans g2) q)
def tAndB (ta tb : Ev → Hh → R Bool) : Ev → Hh → R Bool := fun env h => (ta env h).bind fun t h2 => if t = true then tb env h2 else .ok false h2
def tOrB (ta tb : Ev → Hh → R Bool) : Ev → Hh → R Bool := fun env h => (ta env h).bind fun t h2 => if t = true then .ok true h2 else tb env h2
theorem st_and0 {wh : Sem Value} : STw X G W (.BoolOp .And [] pos) wh (fun _ h => .ok true h) := fun pins s σ H ρ env h I r er hx => isTrue_and_nil ⟨H, I, rfl, ρ, Gr.refl, r⟩
theorem st_or0 {wh : Sem Value} : STw X G W (.BoolOp .Or [] pos) wh (fun _ h => .ok false h) := fun pins s σ H ρ env h I r er hx => isTrue_or_nil ⟨H, I, rfl, ρ, Gr.refl, r⟩
theorem st_and {es : List Expr} {wh : Sem Value} (ha : STe X G W a ta) (hb : STw X G W (.BoolOp .And es pos) wh tb) : STw X G W (.BoolOp .And (a :: es) pos) wh (tAndB ta tb) := by
  intro pins s σ H ρ env h I r er hx
  generalize eq : tAndB ta tb env h = rt at hx ⊢
  refine isTrue_and (STw.then ha I r er eq hx fun t h2 s2 ρ2 H2 e2 I2 g2 r2 er2 hx2 => ?_)
  cases t with
  | false => exact ite_ff (by rw [if_neg Bool.false_ne_true] at e2; subst e2; exact ⟨H2, I2, rfl, ρ2, g2, r2⟩)
  | true =>
    rw [if_pos rfl] at e2
    subst e2
    exact ite_tt (thn (hb pins s2 σ H2 ρ2 env h2 I2 r2 er2 hx2) fun _ _ q => tp_gr g2 q)
theorem st_or {es : List Expr} {wh : Sem Value} (ha : STe X G W a ta) (hb : STw X G W (.BoolOp .Or es pos) wh tb) : STw X G W (.BoolOp .Or (a :: es) pos) wh (tOrB ta tb) := by
  intro pins s σ H ρ env h I r er hx
  generalize eq : tOrB ta tb env h = rt at hx ⊢
  refine isTrue_or (STw.then ha I r er eq hx fun t h2 s2 ρ2 H2 e2 I2 g2 r2 er2 hx2 => ?_)
  cases t with
  | true => exact ite_tt (by rw [if_pos rfl] at e2; subst e2; exact ⟨H2, I2, rfl, ρ2, g2, r2⟩)
  | false =>
    rw [if_neg Bool.false_ne_true] at e2
    subst e2
    exact ite_ff (thn (hb pins s2 σ H2 ρ2 env h2 I2 r2 er2 hx2) fun _ _ q => tp_gr g2 q)
def tNotB (ta : Ev → Hh → R Bool) : Ev → Hh → R Bool := fun env h => (ta env h).bind fun t h2 => .ok (!t) h2
theorem st_not {wh : Sem Value} (ha : STe X G W a ta) : STw X G W (.UnaryOp .Not a pos) wh (tNotB ta) := by
  intro pins s σ H ρ env h I r er hx
  generalize eq : tNotB ta env h = rt at hx ⊢
  refine isTrue_not (STw.then ha I r er eq hx fun t h2 s2 ρ2 H2 e2 I2 g2 r2 er2 hx2 => ?_)
  subst e2
  exact ⟨H2, I2, rfl, ρ2, g2, r2⟩
def fNot (fa : Ev → Hh → R D) : Ev → Hh → R D := fun env h => (fa env h).bind fun x h1 => (truD x h1).bind fun t h2 => .ok (.bl (!t)) h2
theorem se_not (ha : SE X G W a fa) : SE X G W (.UnaryOp .Not a pos) (fNot fa) := by
  intro pins s σ H ρ env h I r er hx
  generalize eq : fNot fa env h = rt at hx ⊢
  refine UnaryOp_ (ha.then I r er eq hx fun x h1 u s1 v ρ1 H1 e1 I1 g1 r1 er1 ru dx hx1 => not_of (tru_then I1 r1 dx ru e1 hx1 fun t h2 s2 ρ2 H2 _ e2 I2 g2 r2 => ?_))
  subst e2
  exact ⟨.bl (!t), H2, I2, rfl, ρ2, g1.trans g2, r2, rfl⟩
def fIfe (tc : Ev → Hh → R Bool) (fa fb : Ev → Hh → R D) : Ev → Hh → R D := fun env h => (tc env h).bind fun t h2 => if t = true then fa env h2 else fb env h2
theorem se_ife {tc : Ev → Hh → R Bool} (hc : STe X G W c tc) (ha : SE X G W a fa) (hb : SE X G W b fb) : SE X G W (.IfExp c a b pos) (fIfe tc fa fb) := by
  intro pins s σ H ρ env h I r er hx
  generalize eq : fIfe tc fa fb env h = rt at hx ⊢
  refine wpAny_IfExp (STw.then hc I r er eq hx fun t h2 s2 ρ2 H2 e2 I2 g2 r2 er2 hx2 => ?_)
  subst e2
  cases t with
  | true => exact thn (ha pins s2 σ H2 ρ2 env h2 I2 r2 er2 hx2) fun _ _ q => ep_gr g2 q
  | false => exact thn (hb pins s2 σ H2 ρ2 env h2 I2 r2 er2 hx2) fun _ _ q => ep_gr g2 q
def tIfe (tc ta tb : Ev → Hh → R Bool) : Ev → Hh → R Bool := fun env h => (tc env h).bind fun t h2 => if t = true then ta env h2 else tb env h2
theorem st_ife {tc : Ev → Hh → R Bool} {wh : Sem Value} (hc : STe X G W c tc) (ha : STe X G W a ta) (hb : STe X G W b tb) : STw X G W (.IfExp c a b pos) wh (tIfe tc ta tb) := by
  intro pins s σ H ρ env h I r er hx
  generalize eq : tIfe tc ta tb env h = rt at hx ⊢
  refine isTrue_IfExp (STw.then hc I r er eq hx fun t h2 s2 ρ2 H2 e2 I2 g2 r2 er2 hx2 => ?_)
  subst e2
  cases t with
  | true => exact thn (ha pins s2 σ H2 ρ2 env h2 I2 r2 er2 hx2) fun _ _ q => tp_gr g2 q
  | false => exact thn (hb pins s2 σ H2 ρ2 env h2 I2 r2 er2 hx2) fun _ _ q => tp_gr g2 q
/-- any other expression as a test -/
theorem st_plain (ha : SE X G W a fa) (he : isTrue a X.env (eval a X.env) = (do let v ← eval a X.env; standAt a.pos; holding [v] (truthy v))) : STe X G W a (tTru fa) := by
  intro pins s σ H ρ env h I r er hx
  generalize eq : tTru fa env h = rt at hx ⊢
  refine isTrue_plain (ha.then I r er eq hx fun x h1 u s1 v ρ1 H1 e1 I1 g1 r1 er1 ru dx hx1 => ?_) he
  exact thn (tru_run e1 hx1 I1 r1 dx ru) fun _ _ q => tp_gr g1 q
def negD (x : D) (h : Hh) : R D := match x with
  | .int i => .ok (.int (-i)) h
  | _ => .bad
def fNeg (fa : Ev → Hh → R D) : Ev → Hh → R D := fun env h => (fa env h).bind negD
theorem se_neg (ha : SE X G W a fa) : SE X G W (.UnaryOp .USub a pos) (fNeg fa) := by
  intro pins s σ H ρ env h I r er hx
  generalize eq : fNeg fa env h = rt at hx ⊢
  refine UnaryOp_ (ha.then I r er eq hx fun x h1 u s1 v ρ1 H1 e1 I1 g1 r1 er1 ru dx hx1 => ?_)
  unfold negD at e1
  split at e1
  · subst e1
    cases dx
    exact un_neg pins s1 σ H1 _ u _ I1 ru ⟨_, rfl, ρ1, g1, r1, rfl⟩
  · subst e1; exact hx1.elim

/-! ### arguments, displays -/
def fA0 : Ev → Hh → R (List D) := fun _ h => .ok [] h
def fA1 (fa : Ev → Hh → R D) (fr : Ev → Hh → R (List D)) : Ev → Hh → R (List D) := fun env h => (fa env h).bind fun x h1 => (fr env h1).bind fun xs h2 => .ok (x :: xs) h2
/-- what a starred value brings -/
def starD (d : D) (h : Hh) : R (List D) := match d with
  | .tup xs => .ok xs h
  | .ref i => match h[i]? with
    | some (.lst xs) => .ok xs h
    | _ => .bad
  | _ => .bad
def fAS (fa : Ev → Hh → R D) (fr : Ev → Hh → R (List D)) : Ev → Hh → R (List D) := fun env h => (fa env h).bind fun x h1 => (starD x h1).bind fun ys h2 => (fr env h2).bind fun xs h3 => .ok (ys ++ xs) h3
variable {es : List Expr} {fr : Ev → Hh → R (List D)}
theorem sa_nil : SA X G W [] fA0 := fun pos pins s σ H ρ env h I r er hx => Calls.spliced_nil ⟨[], H, I, .nil, ρ, Gr.refl, r, rfl⟩
theorem sa_cons (ha : SE X G W a fa) (hr : SA X G W es fr) (hs : starEach (a :: es) X.env = (false, eval a X.env) :: starEach es X.env) : SA X G W (a :: es) (fA1 fa fr) := by
  intro pos pins s σ H ρ env h I r er hx
  generalize eq : fA1 fa fr env h = rt at hx ⊢
  rw [hs]
  show wpAny _ _ (spliced ((false, eval a X.env) :: backTo pos (starEach es X.env))) _ _ s
  refine Calls.spliced_cons (ha.then I r er eq hx fun x h1 u s1 v ρ1 H1 e1 I1 g1 r1 er1 ru dx hx1 => ?_)
  refine hr.then I1 r1 er1 e1 hx1 fun xs h2 us s2 vs ρ2 H2 e2 I2 g2 r2 er2 rv dxs hx2 => ?_
  subst e2
  exact ⟨v :: vs, H2, I2, .cons ru rv, ρ2, g1.trans g2, r2, v, vs, rfl, RD.gr g2 x v dx, dxs⟩
theorem sa_star {p : Pos} (ha : SE X G W a fa) (hr : SA X G W es fr) : SA X G W (.Starred a p :: es) (fAS fa fr) := by
  intro pos pins s σ H ρ env h I r er hx
  generalize eq : fAS fa fr env h = rt at hx ⊢
  refine PySem.W.items_star (ha.then I r er eq hx fun x h1 u s1 v ρ1 H1 e1 I1 g1 r1 er1 ru dx hx1 => ?_) rfl
  have go : ∀ {ys : List D} {p : Addr} {vs : List V}, v = .ref p → (SqT X.K H1 p vs ∨ SqL X.K H1 p vs) → RDs X.K G ρ1 H1 ys vs → ((fr env h1).bind fun xs h3 => .ok (ys ++ xs) h3) = rt →
      PySem.W.StarOf (model X.prog X.w) X.A X.xe u (fun here s₂ => wpAny (model X.prog X.w) X.A (spliced (backTo pos (starEach es X.env))) (fun vs s₃ => AP X pins σ (QA X.K G ρ H rt) (here ++ vs) s₃) X.xe s₂) s1 := by
    intro ys p vs ev hq q e2
    subst ev
    obtain rfl : u = Value.ref p := ru
    refine StX.star_any I1 hq fun us s2 I2 rv => ?_
    refine hr.then I2 r1 er1 e2 hx1 fun xs h3 ws s3 zs ρ3 H3 e3 I3 g3 r3 er3 rz dxs hx3 => ?_
    subst e3
    exact ⟨vs ++ zs, H3, I3, rv.append rz, ρ3, g1.trans g3, r3, (RDs.gr g3 ys vs q).app dxs⟩
  cases x with
  | tup xs =>
    obtain ⟨p, vs, ev, h2, q⟩ := dx
    exact go ev (.inl h2) q e1
  | ref i =>
    obtain ⟨p, ea, ev⟩ := dx
    have e1' : (R.bind (match h1[i]? with | some (.lst xs) => R.ok xs h1 | _ => R.bad) fun ys h2 => (fr env h2).bind fun xs h3 => .ok (ys ++ xs) h3) = rt := e1
    split at e1'
    · rename_i xs eo
      obtain ⟨vs, h2, q⟩ := r1.at ea eo
      exact go ev (.inr (SqL.of h2)) q e1'
    · rw [← e1'] at hx1; exact hx1.elim
  | _ => rw [← e1] at hx1; exact hx1.elim
def mkTup (xs : List D) (h : Hh) : R D := if xs.length ≤ SZ then .ok (.tup xs) h else .bad
def mkLst (xs : List D) (h : Hh) : R D := if xs.length ≤ SZ then .ok (.ref h.length) (h ++ [.lst xs]) else .bad
def fTup (fr : Ev → Hh → R (List D)) : Ev → Hh → R D := fun env h => (fr env h).bind mkTup
def fLst (fr : Ev → Hh → R (List D)) : Ev → Hh → R D := fun env h => (fr env h).bind mkLst
theorem se_tup {x1 : Nat} (hr : SA X G W es fr) : SE X G W (.Tuple es x1 pos) (fTup fr) := by
  intro pins s σ H ρ env h I r er hx
  generalize eq : fTup fr env h = rt at hx ⊢
  refine wpAny_Tuple_spliced (hr.then I r er eq hx fun xs h1 us s1 vs ρ1 H1 e1 I1 g1 r1 er1 rv dxs hx1 => ?_)
  unfold mkTup at e1
  split at e1
  · rename_i hz
    subst e1
    have hz' : vs.length ≤ sizeLine := by rw [dxs.len, SZ_eq]; exact hz
    refine ⟨by rw [← rv.length]; exact hz', ?_⟩
    have hf : H1 s1.heap.objs.size = none := I1.hok.fresh (Nat.le_refl _)
    refine ⟨.ref s1.heap.objs.size, upd H1 s1.heap.objs.size (.tup vs), I1.laid (t' := s1.toks) (fun b u e => Heap.get?_push_of_some _ e) (Nat.le_refl _) ?_, rfl, (q_tup r1 dxs _ hf).gr g1⟩
    exact ⟨hz', us, rv, ⟨_, Heap.get?_push_size _ rfl, rfl, _, rfl⟩⟩
  · subst e1; exact hx1.elim
theorem se_lst (hr : SA X G W es fr) : SE X G W (.List es pos) (fLst fr) := by
  intro pins s σ H ρ env h I r er hx
  generalize eq : fLst fr env h = rt at hx ⊢
  refine wpAny_List_spliced (hr.then I r er eq hx fun xs h1 us s1 vs ρ1 H1 e1 I1 g1 r1 er1 rv dxs hx1 => ?_)
  unfold mkLst at e1
  split at e1
  · rename_i hz
    subst e1
    have hz' : vs.length ≤ sizeLine := by rw [dxs.len, SZ_eq]; exact hz
    refine ⟨by rw [← rv.length]; exact hz', ?_⟩
    have hf : H1 s1.heap.objs.size = none := I1.hok.fresh (Nat.le_refl _)
    refine ⟨.ref s1.heap.objs.size, upd H1 s1.heap.objs.size (.lst vs), I1.laid (t' := s1.toks) (fun b u e => Heap.get?_push_of_some _ e) (Nat.le_refl _) ?_, rfl, (q_lst r1 dxs _ hf).gr g1⟩
    exact ⟨hz', us, 0, rv, Heap.get?_push_size _ rfl⟩
  · subst e1; exact hx1.elim

/-! ### subscripts, slices -/
def idxD (x i : D) (h : Hh) : R D := match x, i with
  | .str z, .int j => if z.length ≤ SZ then (match atI z j with | some c => .ok (.str [c]) h | none => .bad) else .bad
  | .tup xs, .int j => match atI xs j with | some d => .ok d h | none => .bad
  | .ref r, .int j => match h[r]? with
    | some (.lst xs) => (match atI xs j with | some d => .ok d h | none => .bad)
    | _ => .bad
  | _, _ => .bad
def fIdx (fa fb : Ev → Hh → R D) : Ev → Hh → R D := fun env h => (fa env h).bind fun x h1 => (fb env h1).bind fun y h2 => idxD x y h2
theorem RDs.atI {K : PySem.W.Frag} {ρ : List Addr} {H : Hp} {xs : List D} {vs : List V} {j : Int} {d : D} (q : RDs K G ρ H xs vs) (e : L2.atI xs j = some d) : ∃ v, L2.atI vs j = some v ∧ RD K G ρ H d v := by
  unfold L2.atI at e ⊢
  rw [q.len]
  cases ei : ixN xs.length j with
  | none => rw [ei] at e; cases e
  | some k =>
    rw [ei] at e
    exact q.get (show xs[k]? = some d from e)
theorem se_idx (ha : SE X G W a fa) (hb : SE X G W b fb) (hs : PlainIx b) : SE X G W (.Subscript a b pos) (fIdx fa fb) := by
  intro pins s σ H ρ env h I r er hx
  generalize eq : fIdx fa fb env h = rt at hx ⊢
  refine Subscript_ (ha.then I r er eq hx fun x h1 u s1 v ρ1 H1 e1 I1 g1 r1 er1 ru dx hx1 => hb.then I1 r1 er1 e1 hx1 fun y h2 w s2 v2 ρ2 H2 e2 I2 g2 r2 er2 rw2 dy hx2 => ?_)
  replace dx := RD.gr g2 x v dx
  have g := g1.trans g2
  unfold idxD at e2
  split at e2
  · rename_i z j
    split at e2
    · rename_i hz
      split at e2
      · rename_i c ec
        subst e2
        cases dx; cases dy
        refine ix_str a b pins s2 σ H2 _ _ u w _ I2 ru rw2 ⟨sOf z, j, c, rfl, rfl, by rw [sOf_len, SZ_eq]; exact hz, by rw [sOf_cps]; exact ec, ρ2, g, r2, ?_⟩ (hs _ _)
        exact rfl
      · subst e2; exact hx2.elim
    · subst e2; exact hx2.elim
  · rename_i xs j
    split at e2
    · rename_i d ed
      subst e2
      obtain ⟨p, vs, rfl, h3, q⟩ := dx
      cases dy
      obtain ⟨t, et, qt⟩ := q.atI ed
      exact ix_tup a b pins s2 σ H2 _ _ u w _ I2 ru rw2 ⟨p, vs, j, t, rfl, rfl, h3, et, ρ2, g, r2, qt⟩ (hs _ _)
    · subst e2; exact hx2.elim
  · rename_i i j
    split at e2
    · rename_i xs eo
      split at e2
      · rename_i d ed
        subst e2
        obtain ⟨p, ea, rfl⟩ := dx
        cases dy
        obtain ⟨vs, h3, q⟩ := r2.at ea eo
        obtain ⟨t, et, qt⟩ := q.atI ed
        exact ix_list a b pins s2 σ H2 _ _ u w _ I2 ru rw2 ⟨p, vs, j, t, rfl, rfl, SqL.of h3, et, ρ2, g, r2, qt⟩ (hs _ _)
      · subst e2; exact hx2.elim
    · subst e2; exact hx2.elim
  · subst e2; exact hx2.elim
/-- the items of x[lo:hi] -/
def cutL {α : Type} (xs : List α) (lo hi : Option Int) : List α := (xs.drop (HT.sIx xs.length 0 lo)).take (HT.sIx xs.length xs.length hi - HT.sIx xs.length 0 lo)
def slcD (x : D) (lo hi : Option Int) (h : Hh) : R D := match x with
  | .str z => if z.length ≤ SZ then .ok (.str (cutL z lo hi)) h else .bad
  | .tup xs => .ok (.tup (cutL xs lo hi)) h
  | .ref i => match h[i]? with
    | some (.lst xs) => .ok (.ref h.length) (h ++ [.lst (cutL xs lo hi)])
    | _ => .bad
  | _ => .bad
/-- a bound that is left out, or an int -/
def fPart (fa : Ev → Hh → R D) : Ev → Hh → R (Option Int) := fun env h => (fa env h).bind fun x h1 => match x with
  | .int i => .ok (some i) h1
  | _ => .bad
def fNoPart : Ev → Hh → R (Option Int) := fun _ h => .ok none h
def SO (X : Cx) (G : Gam) (W : WX) (e : Option Expr) (f : Ev → Hh → R (Option Int)) : Prop :=
  ∀ {β : Type} {F : Option Int → Hh → R β} {rt : R β} (pins : List (Addr × Obj)) (s : Shared) (σ : St) (H : Hp) (ρ : List Addr) (env : Ev) (h : Hh), Inv X pins σ H s → HR X.K G ρ H h → ER X.K G ρ H env σ → (f env h).bind F = rt → ExcOk X.K G W ρ H σ rt →
    ∀ {Q : Value → Shared → Prop}, (∀ o h1 u s1 ρ1 H1, F o h1 = rt → Inv X pins σ H1 s1 → Gr ρ H ρ1 H1 → HR X.K G ρ1 H1 h1 → ER X.K G ρ1 H1 env σ → IsPart u o → ExcOk X.K G W ρ1 H1 σ rt → Q u s1) →
    wpAny (model X.prog X.w) X.A (evalPart e X.env) Q X.xe s
theorem so_none : SO X G W none fNoPart := by
  intro β F rt pins s σ H ρ env h I r er e hx Q k
  rw [evalPart_none]
  exact wpAny_pure (k none h _ s ρ H e I Gr.refl r er .none hx)
theorem so_some (ha : SE X G W a fa) : SO X G W (some a) (fPart fa) := by
  intro β F rt pins s σ H ρ env h I r er e hx Q k
  rw [evalPart_some]
  unfold fPart at e
  rw [bind_assoc] at e
  refine ha.then I r er e hx fun x h1 u s1 v ρ1 H1 e1 I1 g1 r1 er1 ru dx hx1 => ?_
  split at e1
  · rename_i i
    cases dx
    obtain ⟨t, rfl⟩ := ru
    exact k (some i) h1 _ s1 ρ1 H1 e1 I1 g1 r1 er1 (.int i t) hx1
  · rw [← e1] at hx1; exact hx1.elim
def fSlc (fa : Ev → Hh → R D) (fl fh : Ev → Hh → R (Option Int)) : Ev → Hh → R D := fun env h => (fa env h).bind fun x h1 => (fl env h1).bind fun lo h2 => (fh env h2).bind fun hi h3 => slcD x lo hi h3
theorem RDs.cut {K : PySem.W.Frag} {ρ : List Addr} {H : Hp} {xs : List D} {vs : List V} (q : RDs K G ρ H xs vs) (lo hi : Option Int) : RDs K G ρ H (cutL xs lo hi) (cutV vs lo hi) := by
  unfold cutL cutV
  rw [q.len]
  exact (q.drop _).take _
theorem se_slc {lo hi : Option Expr} {fl fh : Ev → Hh → R (Option Int)} {p2 : Pos} (ha : SE X G W a fa) (hl : SO X G W lo fl) (hh : SO X G W hi fh) : SE X G W (.Subscript a (.Slice lo hi none p2) pos) (fSlc fa fl fh) := by
  intro pins s σ H ρ env h I r er hx
  generalize eq : fSlc fa fl fh env h = rt at hx ⊢
  refine Subscript_ (ha.then I r er eq hx fun x h1 u s1 v ρ1 H1 e1 I1 g1 r1 er1 ru dx hx1 => ?_)
  refine wpAny_Slice (hl pins s1 σ H1 ρ1 env h1 I1 r1 er1 e1 hx1 fun l h2 vl s2 ρ2 H2 e2 I2 g2 r2 er2 pl hx2 => hh pins s2 σ H2 ρ2 env h2 I2 r2 er2 e2 hx2 fun m h3 vu s3 ρ3 H3 e3 I3 g3 r3 er3 pu hx3 => ?_)
  rw [evalPart_none]
  refine wpAny_pure ?_
  have g := (g1.trans g2).trans g3
  replace dx := RD.gr (g2.trans g3) x v dx
  have I4 : Inv X pins σ H3 { s3 with heap := s3.heap.push { cls := .type "slice", data := .fields #[vl, vu, .none] } } := I3.kept (t' := s3.toks) fun b ob q => Heap.get?_push_of_some _ q
  have fin : ∀ {rr : V → Option Int → Option Int → Hp → VK → Prop}, SlR X rr → rr v l m H3 (QR X.K G ρ H rt) →
      wpAny (model X.prog X.w) X.A (subscriptTail a (.Slice lo hi none p2) u (.ref s3.heap.objs.size)) (EP X pins σ (QR X.K G ρ H rt)) X.xe { s3 with heap := s3.heap.push { cls := .type "slice", data := .fields #[vl, vu, .none] } } := by
    intro rr hr q
    obtain ⟨T, id, hT, ht, hg⟩ := hr pins { s3 with heap := s3.heap.push { cls := .type "slice", data := .fields #[vl, vu, .none] } } σ H3 v u vl vu l m s3.heap.objs.size _ I4 ru (Heap.IsSliceOf.new ..) pl pu q
    exact tail_any (ops := [.ref s3.heap.objs.size, u]) ht hT hg (by with_unfolding_all rfl)
  show wpAny (model X.prog X.w) X.A (subscriptTail a (.Slice lo hi none p2) u (.ref s3.heap.objs.size)) (EP X pins σ (QR X.K G ρ H rt)) X.xe { s3 with heap := s3.heap.push { cls := .type "slice", data := .fields #[vl, vu, .none] } }
  unfold slcD at e3
  split at e3
  · rename_i z
    split at e3
    · rename_i hz
      subst e3
      cases dx
      refine fin sl_str ⟨sOf z, rfl, by rw [sOf_len, SZ_eq]; exact hz, ρ3, g, r3, ?_⟩
      show V.str (cutS (sOf z) l m) = V.str (sOf (cutL z l m))
      unfold cutS cutL
      rw [sOf_cps, sOf_len]
      rfl
    · subst e3; exact hx3.elim
  · rename_i xs
    subst e3
    obtain ⟨p, vs, rfl, h4, q⟩ := dx
    refine fin sl_tupA ⟨p, vs, rfl, h4, fun z => ⟨ρ3, g, r3, p, vs, rfl, h4, ?_⟩, fun z t ht => (q_tup r3 (q.cut l m) t ht).gr g⟩
    have q2 := q.cut l m
    have e5 : cutV vs l m = vs := by
      unfold cutV
      rw [z.1, z.2]
      simp
    rw [e5] at q2
    exact q2
  · rename_i i
    split at e3
    · rename_i xs eo
      subst e3
      obtain ⟨p, ea, rfl⟩ := dx
      obtain ⟨vs, h4, q⟩ := r3.at ea eo
      exact fin sl_list ⟨p, vs, rfl, SqL.of h4, fun t ht => (q_lst r3 (q.cut l m) t ht).gr g⟩
    · subst e3; exact hx3.elim
  · subst e3; exact hx3.elim
end
end PI

set_option maxRecDepth 100000
set_option maxHeartbeats 1000000
/-! PI, part 5: iterators' ends and unpacking, calm or while an exception is handled. -/
namespace PI
open PySem PySem.Spec PyProof.Rows L2 HotX

/-- nothing is handled, or an exception whose context is None -/
def AMode (A : Around) (h : Heap) : Prop := A.handled = none ∨ ∃ x1, HotAt A x1 h
theorem AMode.in1 {A : Around} {h : Heap} (m : AMode A h) : AMode A.in1 h := m
theorem AMode.keeps {A : Around} {h h' : Heap} (m : AMode A h) (k : ∀ b o, h.get? b = some o → h'.get? b = some o) : AMode A h' := by
  rcases m with m | ⟨x, e, o, vs, q, r⟩
  · exact .inl m
  · exact .inr ⟨x, e, o, vs, k _ _ q, r⟩
/-- the cell it is not the exception's -/
theorem AMode.but {A : Around} {h h' : Heap} {it : Addr} (m : AMode A h) (hit : ∃ o, h.get? it = some o ∧ ∀ vs : Array Value, o.data = .fields vs → vs.size ≤ 2) (k : ∀ b o, b ≠ it → h.get? b = some o → h'.get? b = some o) : AMode A h' := by
  rcases m with m | ⟨x, e, o, vs, q, d, c⟩
  · exact .inl m
  · refine .inr ⟨x, e, o, vs, k _ _ (fun z => ?_) q, d, c⟩
    obtain ⟨o2, q2, f⟩ := hit
    rw [z, q2] at q; cases q
    have := f vs d
    have := (Array.getElem?_eq_some_iff.mp c).1
    omega
theorem XMode.at {m : Bool} {X : Cx} {pins : List (Addr × Obj)} {σ : St} {H : Hp} {s : Shared} (x : XMode m X) (I : Inv X pins σ H s) : AMode X.A s.heap := by
  cases m with
  | false => exact .inl x
  | true => exact .inr (L2H.HotC.at (show L2H.HotC X from x) I)

section
variable {prog : Program} {w : World} {A : Around} {E : Value → Shared → Prop} {s : Shared}
theorem raise_m {α : Type} {a : Addr} {oe : Obj} {vs : Array Value} {Q : α → Shared → Prop} {h0 : Heap} (m : AMode A h0) (k0 : ∀ b o, h0.get? b = some o → s.heap.get? b = some o ∧ b ≠ a) (ha : s.heap.get? a = some oe) (da : oe.data = .fields vs) (hi : 2 < vs.size)
    (hE : ∀ h' o', (∀ b o, b ≠ a → s.heap.get? b = some o → h'.get? b = some o) → h'.get? a = some o' → o'.cls = oe.cls → E (.ref a) { s with heap := h' }) : wpAny (model prog w) A (raiseNew (.ref a) : Sem α) Q E s := by
  rcases m with m | ⟨x1, e, o, vs1, q, d, c⟩
  · unfold raiseNew
    refine wpAny_bind (wpAny_handled ?_)
    rw [m]
    exact wpAny_bind (wpAny_pure (wpAny_throw (hE s.heap oe (fun _ _ _ q => q) ha rfl)))
  · refine raiseNew_hot ⟨e, o, vs1, (k0 _ _ q).1, d, c⟩ (k0 _ _ q).2 ha da hi (hE _ (Obj.mapFields (·.setIfInBounds 2 (.ref x1)) oe) (fun b o hb q => ?_) ?_ (Obj.cls_mapFields ..))
    · rw [Heap.get?_update_other _ _ (Ne.symm hb)]
      exact q
    · exact Heap.get?_update_self _ ha (Obj.isFreed_of_fields (Obj.data_mapFields da _))
theorem list_end_m {it l : Addr} {i : Nat} {items : Array Value} {Q : Option Value → Shared → Prop} (m : AMode A s.heap) (hit : s.heap.IsListIter it l i) (hl : s.heap.IsList l items) (hx : items[i]? = none)
    (hQ : ∀ h', Heap.ExtBut it s.heap h' → Q none { s with heap := h' }) : wpAny (model prog w) A (pyNext (.ref it)) Q E s := by
  obtain ⟨o, ho, hc, hd⟩ := id hit
  obtain ⟨ol, hol, _, nl, hdl⟩ := hl
  unfold pyNext
  refine wpAny_bind (wpAny_attempt (wpAny_callSpecial?_slot (name := Str.ofString "__next__") hit.typeIs slot_listiter_next
    (wpAny_call_entry slot_listiter_next hit.typeIs entry_listiter_next ?_ (args_listiter_next _))))
  show wpAny _ _ (field (.ref it) 0 >>= _) _ _ s
  refine wpAny_bind (wpAny_field ho hd (x := .ref l) rfl ?_)
  show wpAny _ _ (if (Value.ref l == Value.none) = true then _ else _) _ _ s
  rw [if_neg (show ¬ ((Value.ref l == Value.none) = true) from Bool.false_ne_true)]
  show wpAny _ _ (field (.ref it) 1 >>= _) _ _ s
  refine wpAny_bind (wpAny_field ho hd (x := .int i 0) rfl ?_)
  show wpAny _ _ (seqItems? (.ref l) >>= _) _ _ s
  refine wpAny_bind (wpAny_seqItems hol hdl ?_)
  simp only [Int.toNat_natCast, hx]
  refine wpAny_bind (wpAny_rule (wpAny_bind (wpAny_setField ho hd (by simp) ?_)))
  show wpAny _ _ (newExc (.type "StopIteration") [] >>= _) _ _ _
  refine wpAny_bind ?_
  simp only [newExc, newTuple]
  refine wpAny_bind (wpAny_newObj_type ?_ (by size_fits))
  refine wpAny_bind (m := firstArgMember _ _) (wpAny_of_eq (a := Value.none) (by first | rfl | (simp only [firstArgMember]; rfl)) ?_)
  refine wpAny_newObj_type ?_ (by size_fits)
  have m2 := (m.in1).but (h' := s.heap.update it (Obj.mapFields (·.setIfInBounds 0 Value.none))) ⟨o, ho, fun vs e => by rw [hd] at e; cases e; simp⟩ (fun b o hb q => (Heap.SameBut.update ..).extBut b o hb q)
  refine raise_m m2 (fun b o q => ⟨Heap.get?_push_of_some _ (Heap.get?_push_of_some _ q), Nat.ne_of_lt (Heap.lt_size (Heap.get?_push_of_some _ q))⟩) (Heap.get?_push_size _ rfl) rfl (by first | (simp; done) | (simp; omega) | (simp only [Array.size_append]; simp; omega)) fun h' o' k e c => ?_
  refine wpAny_bind (wpAny_isInstance (T := "StopIteration") (b := true) ⟨_, e, c⟩ isSubtype_stop ?_)
  exact wpAny_pure (hQ _ fun b o hb q => k b o (Nat.ne_of_lt (Heap.lt_size (Heap.get?_push_of_some _ ((Heap.SameBut.update ..).extBut b o hb q)))) (Heap.get?_push_of_some _ (Heap.get?_push_of_some _ ((Heap.SameBut.update ..).extBut b o hb q))))
theorem tuple_end_m {it l : Addr} {i : Nat} {items : Array Value} {Q : Option Value → Shared → Prop} (m : AMode A s.heap) (hit : s.heap.IsTupleIter it l i) (hl : s.heap.IsTuple l items) (hx : items[i]? = none)
    (hQ : ∀ h', Heap.ExtBut it s.heap h' → Q none { s with heap := h' }) : wpAny (model prog w) A (pyNext (.ref it)) Q E s := by
  obtain ⟨o, ho, hc, hd⟩ := id hit
  obtain ⟨ol, hol, _, nl, hdl⟩ := hl
  unfold pyNext
  refine wpAny_bind (wpAny_attempt (wpAny_callSpecial?_slot (name := Str.ofString "__next__") hit.typeIs F.slot_tuple_iterator_next
    (wpAny_call_entry F.slot_tuple_iterator_next hit.typeIs F.entry_tuple_iterator_next ?_ (F.args_tuple_iterator_next_1 _))))
  show wpAny _ _ (field (.ref it) 0 >>= _) _ _ s
  refine wpAny_bind (wpAny_field ho hd (x := .ref l) rfl ?_)
  show wpAny _ _ (if (Value.ref l == Value.none) = true then _ else _) _ _ s
  rw [if_neg (show ¬ ((Value.ref l == Value.none) = true) from Bool.false_ne_true)]
  show wpAny _ _ (field (.ref it) 1 >>= _) _ _ s
  refine wpAny_bind (wpAny_field ho hd (x := .int i 0) rfl ?_)
  show wpAny _ _ (seqItems? (.ref l) >>= _) _ _ s
  refine wpAny_bind (wpAny_seqItems hol hdl ?_)
  simp only [Int.toNat_natCast, hx]
  refine wpAny_bind (wpAny_rule (wpAny_bind (wpAny_setField ho hd (by simp) ?_)))
  show wpAny _ _ (newExc (.type "StopIteration") [] >>= _) _ _ _
  refine wpAny_bind ?_
  simp only [newExc, newTuple]
  refine wpAny_bind (wpAny_newObj_type ?_ (by size_fits))
  refine wpAny_bind (m := firstArgMember _ _) (wpAny_of_eq (a := Value.none) (by first | rfl | (simp only [firstArgMember]; rfl)) ?_)
  refine wpAny_newObj_type ?_ (by size_fits)
  have m2 := (m.in1).but (h' := s.heap.update it (Obj.mapFields (·.setIfInBounds 0 Value.none))) ⟨o, ho, fun vs e => by rw [hd] at e; cases e; simp⟩ (fun b o hb q => (Heap.SameBut.update ..).extBut b o hb q)
  refine raise_m m2 (fun b o q => ⟨Heap.get?_push_of_some _ (Heap.get?_push_of_some _ q), Nat.ne_of_lt (Heap.lt_size (Heap.get?_push_of_some _ q))⟩) (Heap.get?_push_size _ rfl) rfl (by first | (simp; done) | (simp; omega) | (simp only [Array.size_append]; simp; omega)) fun h' o' k e c => ?_
  refine wpAny_bind (wpAny_isInstance (T := "StopIteration") (b := true) ⟨_, e, c⟩ isSubtype_stop ?_)
  exact wpAny_pure (hQ _ fun b o hb q => k b o (Nat.ne_of_lt (Heap.lt_size (Heap.get?_push_of_some _ ((Heap.SameBut.update ..).extBut b o hb q)))) (Heap.get?_push_of_some _ (Heap.get?_push_of_some _ ((Heap.SameBut.update ..).extBut b o hb q))))
theorem ascii_end_m {it : Addr} {x : Str} {t : Tok} {i : Nat} {Q : Option Value → Shared → Prop} (m : AMode A s.heap) (hit : s.heap.IsStrIter it "str_ascii_iterator" x t i) (hx : x.cps[i]? = none)
    (hQ : ∀ h', Heap.ExtBut it s.heap h' → Q none { s with heap := h' }) : wpAny (model prog w) A (pyNext (.ref it)) Q E s := by
  obtain ⟨o, ho, hc, hd⟩ := id hit
  unfold pyNext
  refine wpAny_bind (wpAny_attempt (wpAny_callSpecial?_slot (name := Str.ofString "__next__") hit.typeIs F.slot_str_ascii_iterator_next
    (wpAny_call_entry F.slot_str_ascii_iterator_next hit.typeIs F.entry_str_ascii_iterator_next ?_ (F.args_str_ascii_iterator_next_1 _))))
  show wpAny _ _ (field (.ref it) 0 >>= _) _ _ s
  refine wpAny_bind (wpAny_field ho hd (x := .str x t) rfl ?_)
  show wpAny _ _ (field (.ref it) 1 >>= _) _ _ s
  refine wpAny_bind (wpAny_field ho hd (x := .int i 0) rfl ?_)
  simp only [Int.toNat_natCast, hx]
  refine wpAny_bind (wpAny_rule (wpAny_bind (wpAny_setField ho hd (by simp) (wpAny_bind (wpAny_letGo ?_)))))
  show wpAny _ _ (newExc (.type "StopIteration") [] >>= _) _ _ _
  refine wpAny_bind ?_
  simp only [newExc, newTuple]
  refine wpAny_bind (wpAny_newObj_type ?_ (by size_fits))
  refine wpAny_bind (m := firstArgMember _ _) (wpAny_of_eq (a := Value.none) (by first | rfl | (simp only [firstArgMember]; rfl)) ?_)
  refine wpAny_newObj_type ?_ (by size_fits)
  have m2 := (m.in1).but (h' := s.heap.update it (Obj.mapFields (·.setIfInBounds 0 Value.none))) ⟨o, ho, fun vs e => by rw [hd] at e; cases e; simp⟩ (fun b o hb q => (Heap.SameBut.update ..).extBut b o hb q)
  refine raise_m m2 (fun b o q => ⟨Heap.get?_push_of_some _ (Heap.get?_push_of_some _ q), Nat.ne_of_lt (Heap.lt_size (Heap.get?_push_of_some _ q))⟩) (Heap.get?_push_size _ rfl) rfl (by first | (simp; done) | (simp; omega) | (simp only [Array.size_append]; simp; omega)) fun h' o' k e c => ?_
  refine wpAny_bind (wpAny_isInstance (T := "StopIteration") (b := true) ⟨_, e, c⟩ isSubtype_stop ?_)
  exact wpAny_pure (hQ _ fun b o hb q => k b o (Nat.ne_of_lt (Heap.lt_size (Heap.get?_push_of_some _ ((Heap.SameBut.update ..).extBut b o hb q)))) (Heap.get?_push_of_some _ (Heap.get?_push_of_some _ ((Heap.SameBut.update ..).extBut b o hb q))))
theorem wide_end_m {it : Addr} {x : Str} {t : Tok} {i : Nat} {Q : Option Value → Shared → Prop} (m : AMode A s.heap) (hit : s.heap.IsStrIter it "str_iterator" x t i) (hx : x.cps[i]? = none)
    (hQ : ∀ h', Heap.ExtBut it s.heap h' → Q none { s with heap := h' }) : wpAny (model prog w) A (pyNext (.ref it)) Q E s := by
  obtain ⟨o, ho, hc, hd⟩ := id hit
  unfold pyNext
  refine wpAny_bind (wpAny_attempt (wpAny_callSpecial?_slot (name := Str.ofString "__next__") hit.typeIs F.slot_str_iterator_next
    (wpAny_call_entry F.slot_str_iterator_next hit.typeIs F.entry_str_iterator_next ?_ (F.args_str_iterator_next_1 _))))
  show wpAny _ _ (field (.ref it) 0 >>= _) _ _ s
  refine wpAny_bind (wpAny_field ho hd (x := .str x t) rfl ?_)
  show wpAny _ _ (field (.ref it) 1 >>= _) _ _ s
  refine wpAny_bind (wpAny_field ho hd (x := .int i 0) rfl ?_)
  simp only [Int.toNat_natCast, hx]
  refine wpAny_bind (wpAny_rule (wpAny_bind (wpAny_setField ho hd (by simp) (wpAny_bind (wpAny_letGo ?_)))))
  show wpAny _ _ (newExc (.type "StopIteration") [] >>= _) _ _ _
  refine wpAny_bind ?_
  simp only [newExc, newTuple]
  refine wpAny_bind (wpAny_newObj_type ?_ (by size_fits))
  refine wpAny_bind (m := firstArgMember _ _) (wpAny_of_eq (a := Value.none) (by first | rfl | (simp only [firstArgMember]; rfl)) ?_)
  refine wpAny_newObj_type ?_ (by size_fits)
  have m2 := (m.in1).but (h' := s.heap.update it (Obj.mapFields (·.setIfInBounds 0 Value.none))) ⟨o, ho, fun vs e => by rw [hd] at e; cases e; simp⟩ (fun b o hb q => (Heap.SameBut.update ..).extBut b o hb q)
  refine raise_m m2 (fun b o q => ⟨Heap.get?_push_of_some _ (Heap.get?_push_of_some _ q), Nat.ne_of_lt (Heap.lt_size (Heap.get?_push_of_some _ q))⟩) (Heap.get?_push_size _ rfl) rfl (by first | (simp; done) | (simp; omega) | (simp only [Array.size_append]; simp; omega)) fun h' o' k e c => ?_
  refine wpAny_bind (wpAny_isInstance (T := "StopIteration") (b := true) ⟨_, e, c⟩ isSubtype_stop ?_)
  exact wpAny_pure (hQ _ fun b o hb q => k b o (Nat.ne_of_lt (Heap.lt_size (Heap.get?_push_of_some _ ((Heap.SameBut.update ..).extBut b o hb q)))) (Heap.get?_push_of_some _ (Heap.get?_push_of_some _ ((Heap.SameBut.update ..).extBut b o hb q))))

theorem unpackItems_m {t : Addr} {items : Array Value} {Q : List Value → Shared → Prop} (m : AMode A s.heap) (ht : s.heap.IsTuple t items)
    (hQ : ∀ h', Heap.ExtBut s.heap.objs.size s.heap h' → Q items.toList { s with heap := h' }) : wpAny (model prog w) A (unpackItems (.ref t) items.size none) Q E s := by
  have hlt : t ≠ s.heap.objs.size := by obtain ⟨o, ho, _⟩ := ht; exact Nat.ne_of_lt (Heap.lt_size ho)
  unfold unpackItems
  refine wpAny_bind ?_
  · unfold notIterableAtAll
    refine wpAny_bind (wpAny_specialOf ht.typeIs F.slot_tuple_iter.lookup ?_)
    refine wpAny_pure ?_
    simp only [Bool.false_eq_true, if_false]
    refine wpAny_bind (wpAny_holding (wpAny_pyIter_tuple ht ?_))
    refine wpAny_bind (wpAny_holding (wpAny_draw_tuple hlt items.size 0 _ _ ⟨_, Heap.get?_push_size _ rfl, rfl, rfl⟩ (ht.push _) (by omega) fun h₁ hit₁ hs₁ => ?_))
    have hall : List.take items.size (List.drop 0 items.toList) = items.toList := by
      rw [List.drop_zero]; exact List.take_of_length_le (by simp)
    rw [hall]
    rw [if_neg (by simp)]
    have ht₁ : h₁.IsTuple t items := (ht.push _).extBut hs₁.extBut hlt
    have m1 : AMode A h₁ := m.keeps fun b o q => hs₁.extBut b o (Nat.ne_of_lt (Heap.lt_size q)) (Heap.get?_push_of_some _ q)
    refine wpAny_bind (wpAny_holding (tuple_end_m m1 hit₁ ht₁ (by simp) fun h₂ he₂ => ?_))
    simp only [Option.isSome_none, Bool.false_eq_true, if_false]
    refine wpAny_pure (hQ h₂ fun b o hb e => he₂ b o hb (hs₁.extBut b o hb (Heap.get?_push_of_some _ e)))
theorem assign_Tuple_m {env : Env} {elts : List Expr} {x1} {pos : Pos} {t : Addr} {items : Array Value} {Q : Unit → Shared → Prop} (m : AMode A s.heap) (ht : s.heap.IsTuple t items)
    (hn : (assignEach elts env).length = items.size) (hstar : (assignEach elts env).findIdx? (·.1) = none)
    (h : ∀ h', Heap.ExtBut s.heap.objs.size s.heap h' → wpAny (model prog w) A (assignInOrder ((assignEach elts env).map (·.2)) items.toList) Q E { s with heap := h' }) :
    wpAny (model prog w) A (assign (.Tuple elts x1 pos) env (.ref t)) Q E s := by
  rw [arm_assign_Tuple]
  refine wpAny_bind (wpAny_standAt ?_)
  unfold unpack
  rw [hn, hstar]
  exact wpAny_bind (wpAny_holding (unpackItems_m m ht h))
end
end PI

set_option maxRecDepth 100000
set_option maxHeartbeats 1000000
/-! PI, part 6: statements, loops. -/
namespace PI
open PySem PySem.Spec PyProof.Rows L2

/-! ### what a loop walks -/
structure TurnM (m : Bool) (P : Program) (w : World) (K : PySem.W.Frag) (tg : Expr) (J : It) (fp : List Addr) (it : Addr) (tn : Nat → Heap → Prop) : Prop where
  mem : it ∈ fp
  obj : ∀ i h, tn i h → ∀ b ∈ fp, ∃ o, h.get? b = some o ∧ ∀ v, o.data ≠ .cell v
  keep : ∀ i h h', tn i h → (∀ b ∈ fp, ∀ o, h.get? b = some o → h'.get? b = some o) → tn i h'
  item : ∀ (X : Cx), X.prog = P → X.w = w → X.K = K → XMode m X → ∀ (i : Nat) (pins : List (Addr × Obj)) (s : Shared) (σ : St) (H : Hp) (E : Value → Shared → Prop), Inv X pins σ H s → (∀ b ∈ fp, FpOk X pins H b) → tn i s.heap → J.go i H →
    wpAny (model P w) X.A (pyNext (.ref it)) (fun r s1 => ∃ u, r = some u ∧
      wpAny (model P w) X.A (letOwnedTupleGo tg (.ref it) u) (fun _ s2 => ∃ x H', Inv X pins σ H' s2 ∧ RelV x u ∧ J.yld i H x H' ∧ tn (i + 1) s2.heap ∧ ∀ b ∈ fp, H' b = none) E s1) E s
  done : ∀ (X : Cx), X.prog = P → X.w = w → X.K = K → XMode m X → ∀ (i : Nat) (pins : List (Addr × Obj)) (s : Shared) (σ : St) (H : Hp) (E : Value → Shared → Prop), Inv X pins σ H s → (∀ b ∈ fp, FpOk X pins H b) → tn i s.heap → J.stop i H →
    wpAny (model P w) X.A (pyNext (.ref it)) (fun r s1 => r = none ∧ Inv X pins σ H s1) E s
  self : ∀ (A : Around) (i : Nat) (s : Shared) (Q : Value → Shared → Prop) (E : Value → Shared → Prop), tn i s.heap → Q (.ref it) s → wpAny (model P w) A (pyIter (.ref it)) Q E s
abbrev Cx.cal (X : Cx) : Cx := { X with calm := true }
theorem ok_cal {X : Cx} (ok : X.Ok) (hd : X.A.handled = none) : (Cx.cal X).Ok :=
  ⟨ok.mod, ok.kind, ok.glob, ok.blt, ok.above, ok.inj, ok.has, ok.cab, fun _ => hd, ok.frames, ok.stk, ok.exf, ok.bs, ok.bsz, ok.noex, ok.exfs, ok.funs, ok.frf⟩
theorem inv_cal {X : Cx} {pins : List (Addr × Obj)} {σ : St} {H : Hp} {s : Shared} (I : Inv X pins σ H s) (hd : X.A.handled = none) : Inv (Cx.cal X) pins σ H s := ⟨ok_cal I.ok hd, I.os, I.bare, I.base, I.loc, I.cell, I.free, I.freeC, I.pin, I.hok, I.len⟩
theorem inv_uncal {X : Cx} {pins : List (Addr × Obj)} {σ : St} {H : Hp} {s : Shared} (ok : X.Ok) (I : Inv (Cx.cal X) pins σ H s) : Inv X pins σ H s := ⟨ok, I.os, I.bare, I.base, I.loc, I.cell, I.free, I.freeC, I.pin, I.hok, I.len⟩
theorem TurnM.calm {P : Program} {w : World} {K : PySem.W.Frag} {tg : Expr} {J : It} {fp : List Addr} {it : Addr} {tn : Nat → Heap → Prop} (T : Turn P w K tg J fp it tn) : TurnM false P w K tg J fp it tn :=
  ⟨T.mem, T.obj, T.keep, fun X h1 h2 h3 hm i pins s σ H E I hf st hg =>
      wpAny_mono (T.item (Cx.cal X) h1 h2 h3 rfl i pins s σ H E (inv_cal I hm) hf st hg) (fun r s1 ⟨u, e, h⟩ => ⟨u, e, wpAny_mono h (fun _ s2 ⟨x, H', I2, q⟩ => ⟨x, H', inv_uncal I.ok I2, q⟩) fun _ _ z => z⟩) fun _ _ z => z,
    fun X h1 h2 h3 hm i pins s σ H E I hf st hg => wpAny_mono (T.done (Cx.cal X) h1 h2 h3 rfl i pins s σ H E (inv_cal I hm) hf st hg) (fun r s1 ⟨e, I2⟩ => ⟨e, inv_uncal I.ok I2⟩) fun _ _ z => z, T.self⟩
theorem TurnM.hot {P : Program} {w : World} {K : PySem.W.Frag} {tg : Expr} {J : It} {fp : List Addr} {it : Addr} {tn : Nat → Heap → Prop} (T : L2H.TurnH P w K tg J fp it tn) : TurnM true P w K tg J fp it tn :=
  ⟨T.mem, T.obj, T.keep, fun X h1 h2 h3 hm => T.item X h1 h2 h3 hm, fun X h1 h2 h3 hm => T.done X h1 h2 h3 hm, T.self⟩
section
variable {m : Bool} {P : Program} {w : World} {K : PySem.W.Frag} {tg : Expr}
theorem turnM_list (a it : Addr) : TurnM m P w K tg (Itl K a) [it] it (fun i h => h.IsListIter it a i) where
  mem := (turn_list (P := P) (w := w) (K := K) (tg := tg) a it).mem
  obj := (turn_list (P := P) (w := w) (K := K) (tg := tg) a it).obj
  keep := (turn_list (P := P) (w := w) (K := K) (tg := tg) a it).keep
  self := (turn_list (P := P) (w := w) (K := K) (tg := tg) a it).self
  item := by
    intro X hP hw hK hc i pins s σ H E I hf st hg
    subst hP hw hK
    obtain ⟨xs, x, hq, hx⟩ := hg
    obtain ⟨its, rv, p, hz⟩ := I.list hq
    obtain ⟨u, hu, ru⟩ := rv.get hx
    obtain ⟨f0, f1, f2, f3, f4, f5⟩ := hf it (by simp)
    refine wpAny_pyNext_list_item st p.isList (x := u) (by simpa using hu) fun h' st' sb => ?_
    have I1 : Inv X pins σ H { s with heap := h' } := I.turned (t' := s.toks) (fun b o hb e => (sb.2 b hb).trans e) f0 f1 f3 f4 f5
    obtain ⟨o, e, c, d⟩ := id st'
    exact ⟨u, rfl, go_of (s := { s with heap := h' }) e c d (by decide) ⟨x, H, I1, ru, ⟨rfl, fun ys hy => by rw [I.list_inj hy hq]; exact hx⟩, st', fun b hb => (hf b hb).1⟩⟩
  done := by
    intro X hP hw hK hc i pins s σ H E I hf st hg
    subst hP hw hK
    obtain ⟨xs, hq, hx⟩ := hg
    obtain ⟨its, rv, p, hz⟩ := I.list hq
    obtain ⟨f0, f1, f2, f3, f4, f5⟩ := hf it (by simp)
    have hl := rv.length
    exact list_end_m (hc.at I) st p.isList (by simp; omega) fun h' eb => ⟨rfl, I.turned (t' := s.toks) (fun b o hb e => eb b o hb e) f0 f1 f3 f4 f5⟩
theorem turnM_tuple (a it : Addr) : TurnM m P w K tg (Itt K a) [it] it (fun i h => h.IsTupleIter it a i) where
  mem := (turn_tuple (P := P) (w := w) (K := K) (tg := tg) a it).mem
  obj := (turn_tuple (P := P) (w := w) (K := K) (tg := tg) a it).obj
  keep := (turn_tuple (P := P) (w := w) (K := K) (tg := tg) a it).keep
  self := (turn_tuple (P := P) (w := w) (K := K) (tg := tg) a it).self
  item := by
    intro X hP hw hK hc i pins s σ H E I hf st hg
    subst hP hw hK
    obtain ⟨xs, x, hq, hx⟩ := hg
    obtain ⟨its, rv, p, hz⟩ := I.tuple hq
    obtain ⟨u, hu, ru⟩ := rv.get hx
    obtain ⟨f0, f1, f2, f3, f4, f5⟩ := hf it (by simp)
    refine wpAny_pyNext_tuple_item st (show s.heap.IsTuple a its.toArray from p) (x := u) (by simpa using hu) fun h' st' sb => ?_
    have I1 : Inv X pins σ H { s with heap := h' } := I.turned (t' := s.toks) (fun b o hb e => (sb.2 b hb).trans e) f0 f1 f3 f4 f5
    obtain ⟨o, e, c, d⟩ := id st'
    exact ⟨u, rfl, go_of (s := { s with heap := h' }) e c d (by decide) ⟨x, H, I1, ru, ⟨rfl, fun ys hy => by rw [I.tuple_inj hy hq]; exact hx⟩, st', fun b hb => (hf b hb).1⟩⟩
  done := by
    intro X hP hw hK hc i pins s σ H E I hf st hg
    subst hP hw hK
    obtain ⟨xs, hq, hx⟩ := hg
    obtain ⟨its, rv, p, hz⟩ := I.tuple hq
    obtain ⟨f0, f1, f2, f3, f4, f5⟩ := hf it (by simp)
    have hl := rv.length
    exact tuple_end_m (hc.at I) st (show s.heap.IsTuple a its.toArray from p) (by simp; omega) fun h' eb => ⟨rfl, I.turned (t' := s.toks) (fun b o hb e => eb b o hb e) f0 f1 f3 f4 f5⟩
theorem turnM_str (it : Addr) (x : Str) (t : Tok) (ty : String) (hty : ty = "str_ascii_iterator" ∨ ty = "str_iterator") : TurnM m P w K tg (Its x) [it] it (fun i h => h.IsStrIter it ty x t i) where
  mem := (turn_str (P := P) (w := w) (K := K) (tg := tg) it x t ty hty).mem
  obj := (turn_str (P := P) (w := w) (K := K) (tg := tg) it x t ty hty).obj
  keep := (turn_str (P := P) (w := w) (K := K) (tg := tg) it x t ty hty).keep
  self := (turn_str (P := P) (w := w) (K := K) (tg := tg) it x t ty hty).self
  item := by
    intro X hP hw hK hc i pins s σ H E I hf st hg
    subst hP hw hK
    obtain ⟨f0, f1, f2, f3, f4, f5⟩ := hf it (by simp)
    have hlt : i < x.cps.size := hg
    have hx : x.cps[i]? = some x.cps[i] := by simp [hlt]
    have hno : ["enumerate", "zip", "dict_itemiterator", "dict_reverseitemiterator", "odict_iterator", "itertools.zip_longest", "itertools.pairwise"].contains ty = false := by
      rcases hty with e | e
      · rw [e]; decide
      · rw [e]; decide
    have fin : ∀ h', h'.IsStrIter it ty x t (i + 1) → Heap.SameBut it s.heap h' → ∃ u, some (Value.str ⟨#[x.cps[i]]⟩ s.toks) = some u ∧
        wpAny (model X.prog X.w) X.A (letOwnedTupleGo tg (.ref it) u) (fun _ s2 => ∃ z H', Inv X pins σ H' s2 ∧ RelV z u ∧ (Its x).yld i H z H' ∧ s2.heap.IsStrIter it ty x t (i + 1) ∧ ∀ b ∈ [it], H' b = none) E { s with heap := h', toks := s.toks + 1 } := by
      intro h' st' sb
      have I1 : Inv X pins σ H { s with heap := h', toks := s.toks + 1 } := I.turned (fun b o hb e => (sb.2 b hb).trans e) f0 f1 f3 f4 f5
      obtain ⟨oi, e, cc, dd⟩ := id st'
      exact ⟨_, rfl, go_of (s := { s with heap := h', toks := s.toks + 1 }) e cc dd hno ⟨.str ⟨#[x.cps[i]]⟩, H, I1, ⟨_, rfl⟩, ⟨rfl, _, hx, rfl⟩, st', fun b hb => (hf b hb).1⟩⟩
    rcases hty with e | e
    · subst e
      exact wpAny_pyNext_ascii_item st hx fin
    · subst e
      exact wpAny_pyNext_wide_item st hx fin
  done := by
    intro X hP hw hK hc i pins s σ H E I hf st hg
    subst hP hw hK
    obtain ⟨f0, f1, f2, f3, f4, f5⟩ := hf it (by simp)
    have hx : x.cps[i]? = none := Array.getElem?_eq_none hg
    rcases hty with e | e
    · subst e
      exact ascii_end_m (hc.at I) st hx fun h' eb => ⟨rfl, I.turned (t' := s.toks) (fun b o hb e => eb b o hb e) f0 f1 f3 f4 f5⟩
    · subst e
      exact wide_end_m (hc.at I) st hx fun h' eb => ⟨rfl, I.turned (t' := s.toks) (fun b o hb e => eb b o hb e) f0 f1 f3 f4 f5⟩
theorem turnM_range (it : Addr) (lo : Int) (n : Nat) : TurnM m P w K tg (Itr lo n) [it] it (fun i h => IsRangeIter h it (lo + (i : Nat) * 1) ((n : Int) - (i : Nat)) 1) := by
  cases m with
  | false => exact .calm (turn_range it lo n)
  | true => exact .hot (L2H.turn_rangeH it lo n)
end
/-- an iterator has come -/
def PIEM (m : Bool) (X : Cx) (pins : List (Addr × Obj)) (σ : St) (tg : Expr) (R : It → Hp → Prop) (itv : Value) (s2 : Shared) : Prop :=
  ∃ (it : Addr) (fp : List Addr) (tn : Nat → Heap → Prop) (J : It) (H' : Hp), itv = .ref it ∧ Inv X pins σ H' s2 ∧ TurnM m X.prog X.w X.K tg J fp it tn ∧ tn 0 s2.heap ∧ (∀ b ∈ fp, FpOk X pins H' b ∧ b < s2.heap.objs.size) ∧ R J H'

/-! ### what is walked, by the interpreter: the i-th item, or the end, in the heap as it stands -/
inductive IS where
  /-- the list that stands at i, as it is at each turn -/
  | lst (i : Nat)
  | tup (xs : List D) | str (s : List Nat) | rng (lo : Int) (n : Nat)
inductive Nxt where
  | item (d : D) | stop | bad
def IS.nxt (j : IS) (k : Nat) (h : Hh) : Nxt := match j with
  | .lst i => match h[i]? with
    | some (.lst xs) => (match xs[k]? with | some d => .item d | none => .stop)
    | _ => .bad
  | .tup xs => match xs[k]? with | some d => .item d | none => .stop
  | .str s => match s[k]? with | some c => .item (.str [c]) | none => .stop
  | .rng lo n => if k < n then .item (.int (lo + k)) else .stop
/-- the walk J of the layer is what j says -/
structure ISOk (K : PySem.W.Frag) (G : Gam) (j : IS) (J : It) (ρ0 : List Addr) (H0 : Hp) : Prop where
  item : ∀ k d ρ H h, Gr ρ0 H0 ρ H → HR K G ρ H h → j.nxt k h = .item d → J.go k H ∧ ∀ x H', J.yld k H x H' → ∃ ρ', Gr ρ H ρ' H' ∧ HR K G ρ' H' h ∧ RD K G ρ' H' d x
  stop : ∀ k ρ H h, Gr ρ0 H0 ρ H → HR K G ρ H h → j.nxt k h = .stop → J.stop k H
section
variable {K : PySem.W.Frag} {G : Gam} {ρ0 : List Addr} {H0 : Hp}
theorem isok_lst {i : Nat} {a : Addr} (ea : ρ0[i]? = some a) : ISOk K G (.lst i) (Itl K a) ρ0 H0 where
  item := fun k d ρ H h g r e => by
    simp only [IS.nxt] at e
    split at e
    · rename_i xs eo
      obtain ⟨vs, h1, q⟩ := r.at (g.at ea) eo
      split at e
      · rename_i d' ed
        cases e
        obtain ⟨v, ev, qv⟩ := q.get ed
        refine ⟨⟨vs, v, SqL.of h1, ev⟩, fun x H' y => ?_⟩
        obtain ⟨rfl, y⟩ := y
        have := y vs (SqL.of h1)
        rw [ev] at this; cases this
        exact ⟨ρ, Gr.refl, r, qv⟩
      · cases e
    · cases e
  stop := fun k ρ H h g r e => by
    simp only [IS.nxt] at e
    split at e
    · rename_i xs eo
      obtain ⟨vs, h1, q⟩ := r.at (g.at ea) eo
      split at e
      · cases e
      · rename_i ed
        exact ⟨vs, SqL.of h1, by rw [q.len]; exact List.getElem?_eq_none_iff.mp ed⟩
    · cases e
theorem isok_tup {xs : List D} {a : Addr} {vs : List V} (h1 : SqT K H0 a vs) (q : RDs K G ρ0 H0 xs vs) : ISOk K G (.tup xs) (Itt K a) ρ0 H0 where
  item := fun k d ρ H h g r e => by
    simp only [IS.nxt] at e
    split at e
    · rename_i d' ed
      cases e
      have q' := RDs.gr g xs vs q
      obtain ⟨v, ev, qv⟩ := q'.get ed
      have h2 := SqT.gr g h1
      refine ⟨⟨vs, v, h2, ev⟩, fun x H' y => ?_⟩
      obtain ⟨rfl, y⟩ := y
      have := y vs h2
      rw [ev] at this; cases this
      exact ⟨ρ, Gr.refl, r, qv⟩
    · cases e
  stop := fun k ρ H h g r e => by
    simp only [IS.nxt] at e
    split at e
    · cases e
    · rename_i ed
      exact ⟨vs, SqT.gr g h1, by rw [q.len]; exact List.getElem?_eq_none_iff.mp ed⟩
theorem isok_str {z : List Nat} : ISOk K G (.str z) (Its (sOf z)) ρ0 H0 where
  item := fun k d ρ H h g r e => by
    simp only [IS.nxt] at e
    split at e
    · rename_i c ec
      cases e
      have ec2 : (sOf z).cps[k]? = some c := by simp [sOf, ec]
      refine ⟨(Array.getElem?_eq_some_iff.mp ec2).1, fun x H' y => ?_⟩
      obtain ⟨rfl, c', e1, rfl⟩ := y
      rw [ec2] at e1; cases e1
      exact ⟨ρ, Gr.refl, r, rfl⟩
    · cases e
  stop := fun k ρ H h g r e => by
    simp only [IS.nxt] at e
    split at e
    · cases e
    · rename_i ed
      show (sOf z).cps.size ≤ k
      have := List.getElem?_eq_none_iff.mp ed
      simpa [sOf] using this
theorem isok_rng {lo : Int} {n : Nat} : ISOk K G (.rng lo n) (Itr lo n) ρ0 H0 where
  item := fun k d ρ H h g r e => by
    simp only [IS.nxt] at e
    split at e
    · rename_i hk
      cases e
      refine ⟨hk, fun x H' y => ?_⟩
      obtain ⟨rfl, rfl⟩ := y
      exact ⟨ρ, Gr.refl, r, rfl⟩
    · cases e
  stop := fun k ρ H h g r e => by
    simp only [IS.nxt] at e
    split at e
    · cases e
    · rename_i hk
      exact Nat.le_of_not_lt hk
end

/-! ### targets -/
mutual
inductive Tg where | nm (i : Nat) | tup (ts : Tgs)
inductive Tgs where | nil | cons (t : Tg) (r : Tgs)
end
mutual
def asgT : Tg → D → Ev → Option Ev
  | .nm i, d, env => some (env.set i (some d))
  | .tup ts, .tup xs, env => asgTs ts xs env
  | _, _, _ => none
def asgTs : Tgs → List D → Ev → Option Ev
  | .nil, [], env => some env
  | .cons t r, x :: xs, env => (asgT t x env).bind (asgTs r xs)
  | _, _, _ => none
end
def SG (X : Cx) (G : Gam) (tg : Expr) (t : Tg) : Prop :=
  ∀ (pins : List (Addr × Obj)) (s : Shared) (σ : St) (H : Hp) (ρ : List Addr) (env env' : Ev) (v : V) (u : Value) (d : D), Inv X pins σ H s → ER X.K G ρ H env σ → RelV v u → RD X.K G ρ H d v → asgT t d env = some env' →
    wpAny (model X.prog X.w) X.A (assign tg X.env u) (fun _ s' => ∃ σ', Inv X pins σ' H s' ∧ ER X.K G ρ H env' σ') X.xe s
def SGs (X : Cx) (G : Gam) (tgs : List Expr) (t : Tgs) : Prop :=
  ∀ (pins : List (Addr × Obj)) (s : Shared) (σ : St) (H : Hp) (ρ : List Addr) (env env' : Ev) (vs : List V) (us : List Value) (ds : List D), Inv X pins σ H s → ER X.K G ρ H env σ → Vals vs us → RDs X.K G ρ H ds vs → asgTs t ds env = some env' →
    wpAny (model X.prog X.w) X.A (assignInOrder ((assignEach tgs X.env).map (·.2)) us) (fun _ s' => ∃ σ', Inv X pins σ' H s' ∧ ER X.K G ρ H env' σ') X.xe s
section
variable {X : Cx} {G : Gam} {W : WX} {m : Bool} {pos : Pos}
theorem sg_name {i : Nat} {x : Str} (hN : X.N.Nodup) (hi : X.N[i]? = some x) (hx : Loc X.env.scope x) (hf : X.fn x = true ∨ X.env.scope.names.lookup x = some .local) : SG X G (.Name x pos) (.nm i) := by
  intro pins s σ H ρ env env' v u d I er ru q e
  have e' : env.set i (some d) = env' := Option.some.inj e
  subst e'
  exact wpAny_assign_Name (store_ok I hN hi hx ru (fun s' I' => ⟨_, I', er.set i q⟩) hf)
theorem sgs_nil : SGs X G [] .nil := by
  intro pins s σ H ρ env env' vs us ds I er rv q e
  cases ds with
  | nil =>
    cases (show vs = [] from q)
    cases rv
    have e' : env = env' := Option.some.inj e
    subst e'
    exact assignInOrder_nil ⟨σ, I, er⟩
  | cons _ _ => cases e
theorem sgs_cons {e : Expr} {es : List Expr} {t : Tg} {r : Tgs} (h1 : SG X G e t) (h2 : SGs X G es r) (hs : (assignEach (e :: es) X.env).map (·.2) = assign e X.env :: (assignEach es X.env).map (·.2)) : SGs X G (e :: es) (.cons t r) := by
  intro pins s σ H ρ env env' vs us ds I er rv q ee
  cases ds with
  | nil => cases ee
  | cons d ds =>
    obtain ⟨v, vr, rfl, q1, q2⟩ := q
    cases rv with
    | cons ru rr =>
      have ee' : (asgT t d env).bind (asgTs r ds) = some env' := ee
      cases e1 : asgT t d env with
      | none => rw [e1] at ee'; cases ee'
      | some env1 =>
        rw [e1] at ee'
        rw [hs]
        refine assignInOrder_cons (thn (h1 pins s σ H ρ env env1 v _ d I er ru q1 e1) fun _ s1 ⟨σ1, I1, er1⟩ => ?_)
        exact h2 pins s1 σ1 H ρ env1 env' vr _ ds I1 er1 rr q2 ee'
theorem sg_tup {es : List Expr} {k n : Nat} {r : Tgs} (hm : XMode m X) (h : SGs X G es r) (hn : (assignEach es X.env).length = n) (hst : (assignEach es X.env).findIdx? (·.1) = none) (hl : ∀ ds env env', asgTs r ds env = some env' → ds.length = n) : SG X G (.Tuple es k pos) (.tup r) := by
  intro pins s σ H ρ env env' v u d I er ru q e
  cases d with
  | tup xs =>
    obtain ⟨a, vs, rfl, h1, q1⟩ := q
    have e' : asgTs r xs env = some env' := e
    obtain rfl : u = Value.ref a := ru
    obtain ⟨its, rv, ht, hz⟩ := I.tuple h1
    refine assign_Tuple_m (hm.at I) (show s.heap.IsTuple a its.toArray from ht) (by rw [hn, List.size_toArray, ← rv.length, q1.len, hl xs env env' e']) hst fun h' hx => ?_
    have I1 : Inv X pins σ H { s with heap := h' } := I.kept (t' := s.toks) fun b o e => hx b o (Nat.ne_of_lt (Heap.lt_size e)) e
    exact h pins _ σ H ρ env env' vs _ xs I1 er (by simpa using rv) q1 e'
  | _ => cases e
end
def tgsLen : Tgs → Nat
  | .nil => 0
  | .cons _ r => tgsLen r + 1
theorem asgTs_len : ∀ (r : Tgs) (ds : List D) (env env' : Ev), asgTs r ds env = some env' → ds.length = tgsLen r
  | .nil, [], _, _, _ => rfl
  | .nil, _ :: _, _, _, e => by cases e
  | .cons t r, [], _, _, e => by cases e
  | .cons t r, d :: ds, env, env', e => by
    have e' : (asgT t d env).bind (asgTs r ds) = some env' := e
    cases e1 : asgT t d env with
    | none => rw [e1] at e'; cases e'
    | some env1 =>
      rw [e1] at e'
      show ds.length + 1 = tgsLen r + 1
      rw [asgTs_len r ds env1 env' e']

/-! ### the loop operator -/
abbrev LSt := Nat × Ev × Hh
def iterN (f : LSt → LSt ⊕ RS) : Nat → LSt → RS
  | 0, _ => .bad
  | n + 1, s => match f s with
    | .inl s' => iterN f n s'
    | .inr r => r
abbrev LpT := (LSt → LSt ⊕ RS) → LSt → RS
def LpOk (lp : LpT) : Prop := ∀ f s, lp f s ≠ .bad → ∃ n, iterN f n s = lp f s
/-- one turn of a for -/
def forStep (j : IS) (t : Tg) (fb : Ev → Hh → RS) : LSt → LSt ⊕ RS := fun (k, env, h) => match j.nxt k h with
  | .stop => .inr (.nx env h)
  | .bad => .inr .bad
  | .item d => match asgT t d env with
    | none => .inr .bad
    | some env1 => match fb env1 h with
      | .nx env2 h2 => .inl (k + 1, env2, h2)
      | .ct env2 h2 => .inl (k + 1, env2, h2)
      | .bk env2 h2 => .inr (.nx env2 h2)
      | r => .inr r
def fFor (lp : LpT) (fi : Ev → Hh → R IS) (t : Tg) (fb : Ev → Hh → RS) : Ev → Hh → RS := fun env h => (fi env h).bindS env fun j h1 => lp (forStep j t fb) (0, env, h1)
/-- what is walked, come -/
def SI (m : Bool) (X : Cx) (G : Gam) (W : WX) (tg iter : Expr) (fi : Ev → Hh → R IS) : Prop :=
  ∀ (pins : List (Addr × Obj)) (s : Shared) (σ : St) (H : Hp) (ρ : List Addr) (env : Ev) (h : Hh), Inv X pins σ H s → HR X.K G ρ H h → ER X.K G ρ H env σ → ExcOk X.K G W ρ H σ (fi env h) →
    wpAny (model X.prog X.w) X.A (eval iter X.env) (fun v s1 => wpAny (model X.prog X.w) X.A (pyIter v) (PIEM m X pins σ tg fun J H' => match fi env h with
      | .ok j h' => ∃ ρ', Gr ρ H ρ' H' ∧ HR X.K G ρ' H' h' ∧ ISOk X.K G j J ρ' H'
      | _ => False) X.xe s1) X.xe s
section
variable {X : Cx} {G : Gam} {W : WX} {m : Bool} {pos : Pos}
theorem ss_for {lp : LpT} (hlp : LpOk lp) {tg iter : Expr} {body : List Stmt} {fi : Ev → Hh → R IS} {t : Tg} {fb : Ev → Hh → RS} (hp : PassesOwn (model X.prog X.w) X.A X.env X.xe) (hm : XMode m X) (hi : SI m X G W tg iter fi) (hg : SG X G tg t) (hb : SSs X G W body fb)
    (hs : ∀ x, foldedSetIterable iter X.env x = pure x) : SS X G W (.For tg iter body [] pos) (fFor lp fi t fb) := by
  intro pins s σ H ρ env h I r er hx
  generalize eq : fFor lp fi t fb env h = rt at hx ⊢
  unfold fFor at eq
  have hx0 : ExcOk X.K G W ρ H σ (fi env h) := by rw [← eq] at hx; exact hx.fst er
  refine wpAny_For (thn (hi pins s σ H ρ env h I r er hx0) fun v s1 h1 => thn h1 fun itv s2 h2 => ?_) hs
  obtain ⟨it, fp, tn, J, H2, rfl, I2, T, st2, f2, q2⟩ := h2
  cases ei : fi env h with
  | bad => rw [ei] at q2; exact q2.elim
  | exc c fs h' => rw [ei] at q2; exact q2.elim
  | ok j h' =>
    rw [ei] at q2 eq
    obtain ⟨ρ2, g2, r2, jo⟩ := q2
    have eq' : lp (forStep j t fb) (0, env, h') = rt := eq
    have hne : lp (forStep j t fb) (0, env, h') ≠ .bad := by
      rw [eq']
      intro z
      rw [z] at hx
      exact hx
    obtain ⟨n0, en0⟩ := hlp _ _ hne
    rw [eq'] at en0
    have stat : ∀ {H' : Hp}, (∀ b ∈ fp, H' b = none) → ∀ b ∈ fp, FpOk X pins H' b := fun hn b hb => ⟨hn b hb, (f2 b hb).1.2⟩
    refine codeAny_forLoop_any (fun n s' => ∃ i σ' H' ρ' env' hh, Inv X pins σ' H' s' ∧ tn i s'.heap ∧ (∀ b ∈ fp, H' b = none) ∧ Gr ρ2 H2 ρ' H' ∧ HR X.K G ρ' H' hh ∧ ER X.K G ρ' H' env' σ' ∧ iterN (forStep j t fb) n (i, env', hh) = rt) ?_ n0
      ⟨0, σ, H2, ρ2, env, h', I2, st2, fun b hb => (f2 b hb).1.1, Gr.refl, r2, er.gr g2, en0⟩
    rintro n s3 ⟨i, σ3, H3, ρ3, env3, h3, I3, st3, fr3, g3, r3, er3, en⟩
    have g03 := g2.trans g3
    cases n with
    | zero =>
      rw [← (show RS.bad = rt from en)] at hx
      exact hx.elim
    | succ n =>
      have en' : (match forStep j t fb (i, env3, h3) with | .inl s' => iterN (forStep j t fb) n s' | .inr r => r) = rt := en
      cases ex : j.nxt i h3 with
      | bad =>
        have e0 : forStep j t fb (i, env3, h3) = .inr .bad := by simp only [forStep, ex]
        rw [e0] at en'
        rw [← en'] at hx
        exact hx.elim
      | stop =>
        have e0 : forStep j t fb (i, env3, h3) = .inr (.nx env3 h3) := by simp only [forStep, ex]
        rw [e0] at en'
        subst en'
        refine wpAny_passesOwn hp (thn (T.done X rfl rfl rfl hm i pins s3 σ3 H3 X.xe I3 (stat fr3) st3 (jo.stop i ρ3 H3 h3 g3 r3 ex)) fun r s4 ⟨hr, I4⟩ => ?_)
        subst hr
        exact wpAny_execs_nil ⟨σ3, H3, I4, ρ3, g03, r3, er3⟩
      | item d =>
        obtain ⟨go, hy⟩ := jo.item i d ρ3 H3 h3 g3 r3 ex
        refine wpAny_passesOwn hp (thn (T.item X rfl rfl rfl hm i pins s3 σ3 H3 X.xe I3 (stat fr3) st3 go) fun r s4 ⟨u, hr, h4⟩ => ?_)
        subst hr
        refine wpAny_passesOwn hp (thn h4 fun _ s5 ⟨x, H5, I5, r5, y5, st5, fr5⟩ => ?_)
        have I5' := I5.pinned (stat fr5) (T.obj _ _ st5)
        obtain ⟨ρ5, g5, rr5, d5⟩ := hy x H5 y5
        cases ea : asgT t d env3 with
        | none =>
          have e0 : forStep j t fb (i, env3, h3) = .inr .bad := by simp only [forStep, ex, ea]
          rw [e0] at en'
          rw [← en'] at hx
          exact hx.elim
        | some env6 =>
          refine wpAny_passesOwn hp (thn (hg _ s5 σ3 H5 ρ5 env3 env6 x u d I5' (er3.gr g5) r5 d5 ea) fun _ s6 ⟨σ6, I6, er6⟩ => ?_)
          have g05 := g03.trans g5
          have hxb : ExcOkS X.K G W ρ5 H5 (fb env6 h3) := by
            cases eb : fb env6 h3 with
            | bad =>
              have e0 : forStep j t fb (i, env3, h3) = .inr .bad := by simp only [forStep, ex, ea, eb]
              rw [e0] at en'
              rw [← en'] at hx
              exact hx.elim
            | exc c fs env7 h7 =>
              have e0 : forStep j t fb (i, env3, h3) = .inr (.exc c fs env7 h7) := by simp only [forStep, ex, ea, eb]
              rw [e0] at en'
              have en'' : RS.exc c fs env7 h7 = rt := en'
              rw [← en''] at hx
              exact ExcOkS.gr g05 hx
            | _ => trivial
          refine wpAny_passesOwn hp (thn (hb _ s6 σ6 H5 ρ5 env6 h3 I6 rr5 er6 hxb) fun f s7 q7 => ?_)
          have again : ∀ {σ7 : St} {H7 : Hp} {ρ7 : List Addr} {env7 : Ev} {h7 : Hh}, Inv X (pins ++ pinsAt fp s5.heap) σ7 H7 s7 → Gr ρ5 H5 ρ7 H7 → HR X.K G ρ7 H7 h7 → ER X.K G ρ7 H7 env7 σ7 → forStep j t fb (i, env3, h3) = .inl (i + 1, env7, h7) →
              ∃ m', m' < n + 1 ∧ ∃ i σ' H' ρ' env' hh, Inv X pins σ' H' s7 ∧ tn i s7.heap ∧ (∀ b ∈ fp, H' b = none) ∧ Gr ρ2 H2 ρ' H' ∧ HR X.K G ρ' H' hh ∧ ER X.K G ρ' H' env' σ' ∧ iterN (forStep j t fb) m' (i, env', hh) = rt := fun {σ7 H7 ρ7 env7 h7} I7 g7 r7 er7 e0 => by
            rw [e0] at en'
            refine ⟨n, Nat.lt_succ_self n, i + 1, σ7, H7, ρ7, env7, h7, I7.unpinned, T.keep _ _ _ st5 fun b hb o e => (I7.pin (b, o) (List.mem_append_right _ (List.mem_append_right _ (mem_pinsAt hb e)))).1, fun b hb => ?_, (g3.trans g5).trans g7, r7, er7, en'⟩
            obtain ⟨o, e, d⟩ := T.obj _ _ st5 b hb
            exact (I7.pin (b, o) (List.mem_append_right _ (List.mem_append_right _ (mem_pinsAt hb e)))).2.1
          cases eb : fb env6 h3 with
          | bad => rw [eb] at hxb; exact hxb.elim
          | nx env7 h7 =>
            rw [eb] at q7
            cases f with
            | next =>
              obtain ⟨σ7, H7, I7, ρ7, g7, r7, er7⟩ := q7
              exact again I7 g7 r7 er7 (by simp only [forStep, ex, ea, eb])
            | brk => obtain ⟨_, _, _, z⟩ := q7; exact z.elim
            | cont => obtain ⟨_, _, _, z⟩ := q7; exact z.elim
            | ret v => obtain ⟨_, _, _, _, _, z⟩ := q7; exact z.elim
          | ct env7 h7 =>
            rw [eb] at q7
            cases f with
            | cont =>
              obtain ⟨σ7, H7, I7, ρ7, g7, r7, er7⟩ := q7
              exact again I7 g7 r7 er7 (by simp only [forStep, ex, ea, eb])
            | brk => obtain ⟨_, _, _, z⟩ := q7; exact z.elim
            | next => obtain ⟨_, _, _, z⟩ := q7; exact z.elim
            | ret v => obtain ⟨_, _, _, _, _, z⟩ := q7; exact z.elim
          | bk env7 h7 =>
            have e0 : forStep j t fb (i, env3, h3) = .inr (.nx env7 h7) := by simp only [forStep, ex, ea, eb]
            rw [e0] at en'
            subst en'
            rw [eb] at q7
            cases f with
            | brk =>
              obtain ⟨σ7, H7, I7, ρ7, g7, r7, er7⟩ := q7
              exact ⟨σ7, H7, I7.unpinned, ρ7, g05.trans g7, r7, er7⟩
            | cont => obtain ⟨_, _, _, z⟩ := q7; exact z.elim
            | next => obtain ⟨_, _, _, z⟩ := q7; exact z.elim
            | ret v => obtain ⟨_, _, _, _, _, z⟩ := q7; exact z.elim
          | rt d7 h7 =>
            have e0 : forStep j t fb (i, env3, h3) = .inr (.rt d7 h7) := by simp only [forStep, ex, ea, eb]
            rw [e0] at en'
            subst en'
            rw [eb] at q7
            cases f with
            | ret v =>
              obtain ⟨x7, σ7, H7, I7, r7, ρ7, g7, rr7, dd7⟩ := q7
              exact ⟨x7, σ7, H7, I7.unpinned, r7, ρ7, g05.trans g7, rr7, dd7⟩
            | brk => obtain ⟨_, _, _, z⟩ := q7; exact z.elim
            | cont => obtain ⟨_, _, _, z⟩ := q7; exact z.elim
            | next => obtain ⟨_, _, _, z⟩ := q7; exact z.elim
          | exc c fs env7 h7 =>
            rw [eb] at q7
            cases f with
            | ret v => obtain ⟨_, _, _, _, _, z⟩ := q7; exact z.elim
            | brk => obtain ⟨_, _, _, z⟩ := q7; exact z.elim
            | cont => obtain ⟨_, _, _, z⟩ := q7; exact z.elim
            | next => obtain ⟨_, _, _, z⟩ := q7; exact z.elim
end
end PI

set_option maxRecDepth 100000
set_option maxHeartbeats 1000000
/-! PI, part 7: the other statements; fields. -/
namespace PI
open PySem PySem.Spec PyProof.Rows L2

/-! ### blocks -/
section
variable {X : Cx} {G : Gam} {W : WX} {pos : Pos} {e : Expr} {fe : Ev → Hh → R D} {st : Stmt} {sts : List Stmt} {f g : Ev → Hh → RS}
def fNx : Ev → Hh → RS := fun env h => .nx env h
def fBk : Ev → Hh → RS := fun env h => .bk env h
def fCt : Ev → Hh → RS := fun env h => .ct env h
def fSeq (f g : Ev → Hh → RS) : Ev → Hh → RS := fun env h => match f env h with
  | .nx env' h' => g env' h'
  | r => r
theorem sss_nil : SSs X G W [] fNx := fun pins s σ H ρ env h I r er hx => wpAny_execs_nil ⟨σ, H, I, ρ, Gr.refl, r, er⟩
theorem sss_cons (h1 : SS X G W st f) (h2 : SSs X G W sts g) : SSs X G W (st :: sts) (fSeq f g) := by
  intro pins s σ H ρ env h I r er hx
  have hx1 : ExcOkS X.K G W ρ H (f env h) := by
    unfold fSeq at hx
    cases ef : f env h <;> rw [ef] at hx <;> first | exact True.intro | exact hx
  refine wpAny_execs_cons (thn (h1 pins s σ H ρ env h I r er hx1) fun fl s1 q => ?_)
  unfold fSeq at hx ⊢
  cases ef : f env h with
  | nx env1 h1 =>
    rw [ef] at q hx
    cases fl with
    | next =>
      obtain ⟨σ1, H1, I1, ρ1, g1, r1, er1⟩ := q
      exact thn (h2 pins s1 σ1 H1 ρ1 env1 h1 I1 r1 er1 (ExcOkS.gr g1 hx)) fun _ _ z => sp_gr g1 z
    | brk => obtain ⟨_, _, _, z⟩ := q; exact z.elim
    | cont => obtain ⟨_, _, _, z⟩ := q; exact z.elim
    | ret v => obtain ⟨_, _, _, _, _, z⟩ := q; exact z.elim
  | rt d h1 =>
    rw [ef] at q
    cases fl with
    | ret v => exact q
    | brk => obtain ⟨_, _, _, z⟩ := q; exact z.elim
    | cont => obtain ⟨_, _, _, z⟩ := q; exact z.elim
    | next => obtain ⟨_, _, _, z⟩ := q; exact z.elim
  | bk env1 h1 =>
    rw [ef] at q
    cases fl with
    | brk => exact q
    | ret v => obtain ⟨_, _, _, _, _, z⟩ := q; exact z.elim
    | cont => obtain ⟨_, _, _, z⟩ := q; exact z.elim
    | next => obtain ⟨_, _, _, z⟩ := q; exact z.elim
  | ct env1 h1 =>
    rw [ef] at q
    cases fl with
    | cont => exact q
    | ret v => obtain ⟨_, _, _, _, _, z⟩ := q; exact z.elim
    | brk => obtain ⟨_, _, _, z⟩ := q; exact z.elim
    | next => obtain ⟨_, _, _, z⟩ := q; exact z.elim
  | exc c fs env1 h1 =>
    rw [ef] at q
    cases fl with
    | cont => obtain ⟨_, _, _, z⟩ := q; exact z.elim
    | ret v => obtain ⟨_, _, _, _, _, z⟩ := q; exact z.elim
    | brk => obtain ⟨_, _, _, z⟩ := q; exact z.elim
    | next => obtain ⟨_, _, _, z⟩ := q; exact z.elim
  | bad => rw [ef] at hx1; exact hx1.elim
theorem ss_pass : SS X G W (.Pass pos) fNx := fun pins s σ H ρ env h I r er hx => wpAny_Pass ⟨σ, H, I, ρ, Gr.refl, r, er⟩
theorem ss_brk : SS X G W (.Break pos) fBk := fun pins s σ H ρ env h I r er hx => wpAny_Break ⟨σ, H, I, ρ, Gr.refl, r, er⟩
theorem ss_cnt : SS X G W (.Continue pos) fCt := fun pins s σ H ρ env h I r er hx => wpAny_Continue ⟨σ, H, I, ρ, Gr.refl, r, er⟩
theorem ss_doc {x : Str} {j : Nat} {pos' : Pos} : SS X G W (.Expr (.Constant (.str x) j pos) pos') fNx := fun pins s σ H ρ env h I r er hx =>
  wpAny_Expr (Calls.Constant_str (show SP X pins (DE X.K G ρ H (.nx env h)) .next { s with toks := s.toks + 1 } from ⟨σ, H, I.tok _, ρ, Gr.refl, r, er⟩)) I.quiet
def fExp (fe : Ev → Hh → R D) : Ev → Hh → RS := fun env h => (fe env h).bindS env fun _ h1 => .nx env h1
theorem ss_exp (he : SE X G W e fe) (hs : swapsWith e none pos.line X.env = pure false) : SS X G W (.Expr e pos) (fExp fe) := by
  intro pins s σ H ρ env h I r er hx
  generalize eq : fExp fe env h = rt at hx ⊢
  refine wpAny_Expr_any (he.thenS I r er eq hx fun x h1 u s1 v ρ1 H1 e1 I1 g1 r1 er1 ru dx hx1 => ?_) I.quiet hs
  subst e1
  exact ⟨σ, H1, I1, ρ1, g1, r1, er1⟩
def fRet (fe : Ev → Hh → R D) : Ev → Hh → RS := fun env h => (fe env h).bindS env fun d h1 => .rt d h1
theorem ss_ret (he : SE X G W e fe) : SS X G W (.Return (some e) pos) (fRet fe) := by
  intro pins s σ H ρ env h I r er hx
  generalize eq : fRet fe env h = rt at hx ⊢
  refine wpAny_Return_some (he.thenS I r er eq hx fun x h1 u s1 v ρ1 H1 e1 I1 g1 r1 er1 ru dx hx1 => ?_)
  subst e1
  exact ⟨v, σ, H1, I1, ru, ρ1, g1, r1, dx⟩
def fRtN : Ev → Hh → RS := fun _ h => .rt .non h
theorem ss_rtN : SS X G W (.Return none pos) fRtN := fun pins s σ H ρ env h I r er hx => wpAny_Return_none ⟨.non, σ, H, I, rfl, ρ, Gr.refl, r, rfl⟩
def fIf (tc : Ev → Hh → R Bool) (f g : Ev → Hh → RS) : Ev → Hh → RS := fun env h => (tc env h).bindS env fun t h1 => if t = true then f env h1 else g env h1
theorem ss_if {c : Expr} {a b : List Stmt} {tc : Ev → Hh → R Bool} (hc : STe X G W c tc) (ha : SSs X G W a f) (hb : SSs X G W b g) : SS X G W (.If c a b pos) (fIf tc f g) := by
  intro pins s σ H ρ env h I r er hx
  generalize eq : fIf tc f g env h = rt at hx ⊢
  refine wpAny_If (STw.thenS hc I r er eq hx fun t h1 s1 ρ1 H1 e1 I1 g1 r1 er1 hx1 => ?_)
  subst e1
  cases t with
  | true => exact thn (ha pins s1 σ H1 ρ1 env h1 I1 r1 er1 hx1) fun _ _ z => sp_gr g1 z
  | false => exact thn (hb pins s1 σ H1 ρ1 env h1 I1 r1 er1 hx1) fun _ _ z => sp_gr g1 z
/-- name = e -/
def fSet (i : Nat) (fe : Ev → Hh → R D) : Ev → Hh → RS := fun env h => (fe env h).bindS env fun d h1 => .nx (env.set i (some d)) h1
theorem ss_set {i : Nat} {x : Str} {pos' : Pos} (hN : X.N.Nodup) (hi : X.N[i]? = some x) (hl : Loc X.env.scope x) (hf : X.fn x = true ∨ X.env.scope.names.lookup x = some .local) (he : SE X G W e fe) (hs : swapsWith e (some (.Name x pos')) pos.line X.env = pure false) :
    SS X G W (.Assign [.Name x pos'] e pos) (fSet i fe) := by
  intro pins s σ H ρ env h I r er hx
  generalize eq : fSet i fe env h = rt at hx ⊢
  refine wpAny_Assign_Name (he.thenS I r er eq hx fun x h1 u s1 v ρ1 H1 e1 I1 g1 r1 er1 ru dx hx1 => ?_) hs
  subst e1
  exact store_ok I1 hN hi hl ru (fun s2 I2 => ⟨_, H1, I2, ρ1, g1, r1, er1.set i dx⟩) hf
/-- target = e -/
def fAsg (t : Tg) (fe : Ev → Hh → R D) : Ev → Hh → RS := fun env h => (fe env h).bindS env fun d h1 => match asgT t d env with
  | some env1 => .nx env1 h1
  | none => .bad
theorem ss_asg {tg : Expr} {t : Tg} (hg : SG X G tg t) (he : SE X G W e fe) (hs : swapsWithSole [tg] e pos.line X.env = pure false) (hw : swappedStores [tg] e X.env = pure none) (ha1 : (assignEach [tg] X.env).map (·.2) = [assign tg X.env]) :
    SS X G W (.Assign [tg] e pos) (fAsg t fe) := by
  intro pins s σ H ρ env h I r er hx
  generalize eq : fAsg t fe env h = rt at hx ⊢
  refine wpAny_Assign_stores (he.thenS I r er eq hx fun x h1 u s1 v ρ1 H1 e1 I1 g1 r1 er1 ru dx hx1 => ?_) hs hw
  rw [ha1]
  split at e1
  · rename_i env1 ea
    subst e1
    exact thn (hg pins s1 σ H1 ρ1 env env1 v u x I1 er1 ru dx ea) fun _ s2 ⟨σ2, I2, er2⟩ => ⟨σ2, H1, I2, ρ1, g1, r1, er2⟩
  · subst e1; exact hx1.elim
/-- while -/
def whStep (tc : Ev → Hh → R Bool) (fb : Ev → Hh → RS) : LSt → LSt ⊕ RS := fun (k, env, h) => match tc env h with
  | .ok true h1 => match fb env h1 with
    | .nx env2 h2 => .inl (k + 1, env2, h2)
    | .ct env2 h2 => .inl (k + 1, env2, h2)
    | .bk env2 h2 => .inr (.nx env2 h2)
    | r => .inr r
  | .ok false h1 => .inr (.nx env h1)
  | .exc c fs h1 => .inr (.exc c fs env h1)
  | .bad => .inr .bad
def fWhl (lp : LpT) (tc : Ev → Hh → R Bool) (fb : Ev → Hh → RS) : Ev → Hh → RS := fun env h => lp (whStep tc fb) (0, env, h)
theorem ss_whl {lp : LpT} (hlp : LpOk lp) {c : Expr} {body : List Stmt} {tc : Ev → Hh → R Bool} {fb : Ev → Hh → RS} (hp : PassesOwn (model X.prog X.w) X.A X.env X.xe) (hc : STe X G W c tc) (hb : SSs X G W body fb) : SS X G W (.While c body [] pos) (fWhl lp tc fb) := by
  intro pins s σ H ρ env h I r er hx
  generalize eq : fWhl lp tc fb env h = rt at hx ⊢
  have eq' : lp (whStep tc fb) (0, env, h) = rt := eq
  have hne : lp (whStep tc fb) (0, env, h) ≠ .bad := by
    rw [eq']
    intro z
    rw [z] at hx
    exact hx
  obtain ⟨n0, en0⟩ := hlp _ _ hne
  rw [eq'] at en0
  refine wpAny_While (codeAny_whileLoop (fun n s' => ∃ i σ' H' ρ' env' hh, Inv X pins σ' H' s' ∧ Gr ρ H ρ' H' ∧ HR X.K G ρ' H' hh ∧ ER X.K G ρ' H' env' σ' ∧ iterN (whStep tc fb) n (i, env', hh) = rt) ?_ n0 ⟨0, σ, H, ρ, env, h, I, Gr.refl, r, er, en0⟩)
  rintro n s3 ⟨i, σ3, H3, ρ3, env3, h3, I3, g3, r3, er3, en⟩
  cases n with
  | zero =>
    rw [← (show RS.bad = rt from en)] at hx
    exact hx.elim
  | succ n =>
    have en' : (match whStep tc fb (i, env3, h3) with | .inl s' => iterN (whStep tc fb) n s' | .inr r => r) = rt := en
    cases ec : tc env3 h3 with
    | bad =>
      have e0 : whStep tc fb (i, env3, h3) = .inr .bad := by simp only [whStep, ec]
      rw [e0] at en'
      rw [← en'] at hx
      exact hx.elim
    | exc c0 fs h4 =>
      have e0 : whStep tc fb (i, env3, h3) = .inr (.exc c0 fs env3 h4) := by simp only [whStep, ec]
      rw [e0] at en'
      have en'' : RS.exc c0 fs env3 h4 = rt := en'
      have hx3 : ExcOk X.K G W ρ3 H3 σ3 (tc env3 h3) := by
        rw [ec]
        rw [← en''] at hx
        exact fun dd ρ' H' g rr x => hx dd ρ' H' σ3 (g3.trans g) rr (er3.gr g) x
      refine wpAny_passesOwn hp (thn (hc pins s3 σ3 H3 ρ3 env3 h3 I3 r3 er3 hx3) fun b s4 ⟨H4, I4, q4⟩ => ?_)
      rw [ec] at q4
      exact q4.elim
    | ok b h4 =>
      have hx3 : ExcOk X.K G W ρ3 H3 σ3 (tc env3 h3) := by rw [ec]; trivial
      refine wpAny_passesOwn hp (thn (hc pins s3 σ3 H3 ρ3 env3 h3 I3 r3 er3 hx3) fun b' s4 ⟨H4, I4, q4⟩ => ?_)
      rw [ec] at q4
      obtain ⟨eb, ρ4, g4, r4⟩ := q4
      subst eb
      have er4 := er3.gr g4
      have g04 := g3.trans g4
      cases b' with
      | false =>
        have e0 : whStep tc fb (i, env3, h3) = .inr (.nx env3 h4) := by simp only [whStep, ec]
        rw [e0] at en'
        subst en'
        rw [if_neg Bool.false_ne_true]
        exact wpAny_execs_nil ⟨σ3, H4, I4, ρ4, g04, r4, er4⟩
      | true =>
        rw [if_pos rfl]
        have hxb : ExcOkS X.K G W ρ4 H4 (fb env3 h4) := by
          cases eb : fb env3 h4 with
          | bad =>
            have e0 : whStep tc fb (i, env3, h3) = .inr .bad := by simp only [whStep, ec, eb]
            rw [e0] at en'
            rw [← en'] at hx
            exact hx.elim
          | exc c fs env7 h7 =>
            have e0 : whStep tc fb (i, env3, h3) = .inr (.exc c fs env7 h7) := by simp only [whStep, ec, eb]
            rw [e0] at en'
            have en'' : RS.exc c fs env7 h7 = rt := en'
            rw [← en''] at hx
            exact ExcOkS.gr g04 hx
          | _ => trivial
        refine wpAny_passesOwn hp (thn (hb _ s4 σ3 H4 ρ4 env3 h4 I4 r4 er4 hxb) fun f s7 q7 => ?_)
        have again : ∀ {σ7 : St} {H7 : Hp} {ρ7 : List Addr} {env7 : Ev} {h7 : Hh}, Inv X pins σ7 H7 s7 → Gr ρ4 H4 ρ7 H7 → HR X.K G ρ7 H7 h7 → ER X.K G ρ7 H7 env7 σ7 → whStep tc fb (i, env3, h3) = .inl (i + 1, env7, h7) →
            ∃ m', m' < n + 1 ∧ ∃ i σ' H' ρ' env' hh, Inv X pins σ' H' s7 ∧ Gr ρ H ρ' H' ∧ HR X.K G ρ' H' hh ∧ ER X.K G ρ' H' env' σ' ∧ iterN (whStep tc fb) m' (i, env', hh) = rt := fun {σ7 H7 ρ7 env7 h7} I7 g7 r7 er7 e0 => by
          rw [e0] at en'
          exact ⟨n, Nat.lt_succ_self n, i + 1, σ7, H7, ρ7, env7, h7, I7, g04.trans g7, r7, er7, en'⟩
        cases eb : fb env3 h4 with
        | bad => rw [eb] at hxb; exact hxb.elim
        | nx env7 h7 =>
          rw [eb] at q7
          cases f with
          | next =>
            obtain ⟨σ7, H7, I7, ρ7, g7, r7, er7⟩ := q7
            exact again I7 g7 r7 er7 (by simp only [whStep, ec, eb])
          | brk => obtain ⟨_, _, _, z⟩ := q7; exact z.elim
          | cont => obtain ⟨_, _, _, z⟩ := q7; exact z.elim
          | ret v => obtain ⟨_, _, _, _, _, z⟩ := q7; exact z.elim
        | ct env7 h7 =>
          rw [eb] at q7
          cases f with
          | cont =>
            obtain ⟨σ7, H7, I7, ρ7, g7, r7, er7⟩ := q7
            exact again I7 g7 r7 er7 (by simp only [whStep, ec, eb])
          | brk => obtain ⟨_, _, _, z⟩ := q7; exact z.elim
          | next => obtain ⟨_, _, _, z⟩ := q7; exact z.elim
          | ret v => obtain ⟨_, _, _, _, _, z⟩ := q7; exact z.elim
        | bk env7 h7 =>
          have e0 : whStep tc fb (i, env3, h3) = .inr (.nx env7 h7) := by simp only [whStep, ec, eb]
          rw [e0] at en'
          subst en'
          rw [eb] at q7
          cases f with
          | brk =>
            obtain ⟨σ7, H7, I7, ρ7, g7, r7, er7⟩ := q7
            exact ⟨σ7, H7, I7, ρ7, g04.trans g7, r7, er7⟩
          | cont => obtain ⟨_, _, _, z⟩ := q7; exact z.elim
          | next => obtain ⟨_, _, _, z⟩ := q7; exact z.elim
          | ret v => obtain ⟨_, _, _, _, _, z⟩ := q7; exact z.elim
        | rt d7 h7 =>
          have e0 : whStep tc fb (i, env3, h3) = .inr (.rt d7 h7) := by simp only [whStep, ec, eb]
          rw [e0] at en'
          subst en'
          rw [eb] at q7
          cases f with
          | ret v =>
            obtain ⟨x7, σ7, H7, I7, r7, ρ7, g7, rr7, dd7⟩ := q7
            exact ⟨x7, σ7, H7, I7, r7, ρ7, g04.trans g7, rr7, dd7⟩
          | brk => obtain ⟨_, _, _, z⟩ := q7; exact z.elim
          | cont => obtain ⟨_, _, _, z⟩ := q7; exact z.elim
          | next => obtain ⟨_, _, _, z⟩ := q7; exact z.elim
        | exc c fs env7 h7 =>
          rw [eb] at q7
          cases f with
          | ret v => obtain ⟨_, _, _, _, _, z⟩ := q7; exact z.elim
          | brk => obtain ⟨_, _, _, z⟩ := q7; exact z.elim
          | cont => obtain ⟨_, _, _, z⟩ := q7; exact z.elim
          | next => obtain ⟨_, _, _, z⟩ := q7; exact z.elim
end

/-! ### fields as a list of pairs -/
def putD (f : Nat) (d : D) : List (Nat × D) → List (Nat × D)
  | [] => [(f, d)]
  | (g, x) :: r => if g = f then (g, d) :: r else (g, x) :: putD f d r
section
variable {K : PySem.W.Frag} {G : Gam0} {ρ : List Addr} {H : Hp}
theorem RFs.len : ∀ {fs : List (Nat × D)} {gs : List (Str × V)}, RFs K G ρ H fs gs → gs.length = fs.length
  | [], _, h => by rw [show _ = _ from h]; rfl
  | (f, d) :: r, _, h => by
    obtain ⟨v, fs', e, _, h2⟩ := h
    rw [e, List.length_cons, List.length_cons, RFs.len h2]
theorem RFs.look (inj : ∀ i j, G.nm i = G.nm j → i = j) {f : Nat} {d : D} : ∀ {fs : List (Nat × D)} {gs : List (Str × V)}, RFs K G ρ H fs gs → fs.lookup f = some d → ∃ v, gs.lookup (G.nm f) = some v ∧ RD K G ρ H d v
  | [], _, _, e => by simp at e
  | (g, x) :: r, _, h, e => by
    obtain ⟨v, fs', rfl, h1, h2⟩ := h
    by_cases hk : f = g
    · subst hk
      rw [List.lookup_cons, beq_self_eq_true] at e
      cases e
      exact ⟨v, by rw [List.lookup_cons, beq_self_eq_true], h1⟩
    · have n1 : (f == g) = false := beq_eq_false_iff_ne.mpr hk
      have n2 : (G.nm f == G.nm g) = false := beq_eq_false_iff_ne.mpr fun z => hk (inj _ _ z)
      rw [List.lookup_cons, n1] at e
      obtain ⟨w, q1, q2⟩ := RFs.look inj h2 e
      exact ⟨w, by rw [List.lookup_cons, n2]; exact q1, q2⟩
theorem RFs.none (inj : ∀ i j, G.nm i = G.nm j → i = j) {f : Nat} : ∀ {fs : List (Nat × D)} {gs : List (Str × V)}, RFs K G ρ H fs gs → fs.lookup f = none → gs.lookup (G.nm f) = none
  | [], _, h, _ => by rw [show _ = _ from h]; rfl
  | (g, x) :: r, _, h, e => by
    obtain ⟨v, fs', rfl, h1, h2⟩ := h
    by_cases hk : f = g
    · subst hk
      rw [List.lookup_cons, beq_self_eq_true] at e
      cases e
    · have n1 : (f == g) = false := beq_eq_false_iff_ne.mpr hk
      have n2 : (G.nm f == G.nm g) = false := beq_eq_false_iff_ne.mpr fun z => hk (inj _ _ z)
      rw [List.lookup_cons, n1] at e
      rw [List.lookup_cons, n2]
      exact RFs.none inj h2 e
theorem RFs.put (inj : ∀ i j, G.nm i = G.nm j → i = j) {f : Nat} {d : D} {v : V} (q : RD K G ρ H d v) : ∀ {fs : List (Nat × D)} {gs : List (Str × V)}, RFs K G ρ H fs gs → RFs K G ρ H (putD f d fs) (putF (G.nm f) v gs)
  | [], _, h => by rw [show _ = _ from h]; exact ⟨v, [], rfl, q, rfl⟩
  | (g, x) :: r, _, h => by
    obtain ⟨w, fs', rfl, h1, h2⟩ := h
    unfold putD putF
    by_cases hk : g = f
    · subst hk
      rw [if_pos rfl, if_pos rfl]
      exact ⟨v, fs', rfl, q, h2⟩
    · rw [if_neg hk, if_neg fun z => hk (inj _ _ z)]
      exact ⟨w, _, rfl, h1, RFs.put inj q h2⟩
end
end PI

set_option maxRecDepth 100000
set_option maxHeartbeats 1000000
/-! PI, part 8: attributes, o[i] = e, o.f = e, op=, a, b = x, y. -/
namespace PI
open PySem PySem.Spec PyProof.Rows L2

/-- fields of classes: what must be known of a class so that f is a field -/
structure FldOk (K : PySem.W.Frag) (G : Gam0) (c f : Nat) : Prop where
  cls : Cls K (G.ca c)
  no : NoAttr K (G.ca c) (G.nm f)
/-- xs.f, of a value -/
def fldD (isF : Nat → Bool) (con : Nat → Option D) (f : Nat) (x : D) (h : Hh) : R D := match x with
  | .ref i => match h[i]? with
    | some (.ins c fs) => match fs.lookup f with
      | some d => if isF c = true then .ok d h else .bad
      | none => match con c with
        | some d => .ok d h
        | none => .bad
    | _ => .bad
  | _ => .bad
def fFld (isF : Nat → Bool) (con : Nat → Option D) (f : Nat) (fa : Ev → Hh → R D) : Ev → Hh → R D := fun env h => (fa env h).bind (fldD isF con f)
/-- a constant of the class -/
structure ConOk (K : PySem.W.Frag) (G : Gam0) (c f : Nat) (d : D) : Prop where
  cls : Cls K (G.ca c)
  con : ∃ v u, Con K (G.ca c) (G.nm f) v u ∧ ∀ ρ H, RD K G ρ H d v
section
variable {X : Cx} {G : Gam} {W : WX} {pos p2 : Pos} {a b e : Expr} {fa fb fe : Ev → Hh → R D}
theorem fld_run {isF : Nat → Bool} {con : Nat → Option D} {f : Nat} {b : Bool} (inj : ∀ i j, G.nm i = G.nm j → i = j) (hF : ∀ c, isF c = true → FldOk X.K G c f) (hC : ∀ c d, con c = some d → ConOk X.K G c f d) {pins : List (Addr × Obj)} {s : Shared} {σ : St} {H : Hp} {ρ : List Addr} {h : Hh} {x : D} {v : V} {u : Value} {rt : R D}
    (eq : fldD isF con f x h = rt) (hx : ExcOk X.K G W ρ H σ rt) (I : Inv X pins σ H s) (r : HR X.K G ρ H h) (dx : RD X.K G ρ H x v) (ru : RelV v u) : wpAny (model X.prog X.w) X.A (getAttr u (G.nm f) b) (EP X pins σ (QR X.K G ρ H rt)) X.xe s := by
  unfold fldD at eq
  split at eq
  · rename_i i
    obtain ⟨p, ep, rfl⟩ := dx
    obtain rfl : u = Value.ref p := ru
    split at eq
    · rename_i c fs eo
      obtain ⟨dd, gs, eH, q⟩ := r.at ep eo
      split at eq
      · rename_i d el
        split at eq
        · rename_i hc
          subst eq
          obtain ⟨w, l1, l2⟩ := q.look inj el
          exact getattr_ok I eH (hF c hc).cls (hF c hc).no l1 fun u' s2 I2 ru' => ⟨w, H, I2, ru', q_same r l2⟩
        · subst eq; exact hx.elim
      · rename_i el
        split at eq
        · rename_i d ec
          subst eq
          obtain ⟨cl, w, u', cn, rd⟩ := hC c d ec
          exact getcon_ok I eH cl cn (q.none inj el) fun s2 I2 => ⟨w, H, I2, cn.rel, q_same r (rd ρ H)⟩
        · subst eq; exact hx.elim
    · subst eq; exact hx.elim
  · subst eq; exact hx.elim
theorem se_fld {isF : Nat → Bool} {con : Nat → Option D} {f : Nat} (inj : ∀ i j, G.nm i = G.nm j → i = j) (hF : ∀ c, isF c = true → FldOk X.K G c f) (hC : ∀ c d, con c = some d → ConOk X.K G c f d) (ha : SE X G W a fa)
    (hb : attributeBase a (G.nm f) X.env (eval a X.env) = eval a X.env) : SE X G W (.Attribute a (G.nm f) pos) (fFld isF con f fa) := by
  intro pins s σ H ρ env h I r er hx
  generalize eq : fFld isF con f fa env h = rt at hx ⊢
  refine attr_of hb (ha.then I r er eq hx fun x h1 u s1 v ρ1 H1 e1 I1 g1 r1 er1 ru dx hx1 => ?_)
  exact thn (fld_run inj hF hC e1 hx1 I1 r1 dx ru) fun _ _ q => ep_gr g1 q
/-- o.f = y -/
def setFD (isF : Nat → Bool) (f : Nat) (y x : D) (h : Hh) : Option Hh := match x with
  | .ref i => match h[i]? with
    | some (.ins c fs) => if isF c = true ∧ fs.length < 1000 then some (h.set i (.ins c (putD f y fs))) else none
    | _ => none
  | _ => none
theorem setF_run {isF : Nat → Bool} {f : Nat} (inj : ∀ i j, G.nm i = G.nm j → i = j) (hF : ∀ c, isF c = true → FldOk X.K G c f) {pins : List (Addr × Obj)} {s : Shared} {σ : St} {H : Hp} {ρ : List Addr} {h h' : Hh} {x y : D} {v w : V} {u z : Value} {Q : Unit → Shared → Prop}
    (eq : setFD isF f y x h = some h') (I : Inv X pins σ H s) (r : HR X.K G ρ H h) (dx : RD X.K G ρ H x v) (ru : RelV v u) (dy : RD X.K G ρ H y w) (rz : RelV w z)
    (k : ∀ H' s', Inv X pins σ H' s' → Gr ρ H ρ H' → HR X.K G ρ H' h' → Q () s') : wpAny (model X.prog X.w) X.A (setAttr u (G.nm f) z) Q X.xe s := by
  unfold setFD at eq
  split at eq
  · rename_i i
    obtain ⟨p, ep, rfl⟩ := dx
    obtain rfl : u = Value.ref p := ru
    split at eq
    · rename_i c fs eo
      obtain ⟨dd, gs, eH, q⟩ := r.at ep eo
      split at eq
      · rename_i hc
        cases eq
        have g := Gr.write (ρ := ρ) (v := .ins (G.ca c) dd (putF (G.nm f) w gs)) eH True.intro
        exact setattr_ok I eH (hF c hc.1).cls (hF c hc.1).no (by rw [q.len]; exact hc.2) rz fun s' I' => k _ s' I' g (r.write ep eH True.intro ⟨dd, _, upd_same, RFs.gr g _ _ (q.put inj dy)⟩)
      · cases eq
    · cases eq
  · cases eq
def fSetF (isF : Nat → Bool) (f : Nat) (fa fe : Ev → Hh → R D) : Ev → Hh → RS := fun env h => (fe env h).bindS env fun y h1 => (fa env h1).bindS env fun x h2 => match setFD isF f y x h2 with
  | some h3 => .nx env h3
  | none => .bad
theorem ss_setF {isF : Nat → Bool} {f : Nat} (inj : ∀ i j, G.nm i = G.nm j → i = j) (hF : ∀ c, isF c = true → FldOk X.K G c f) (ha : SE X G W a fa) (he : SE X G W e fe) (hs : swapsWith e (some (.Attribute a (G.nm f) p2)) pos.line X.env = pure false) :
    SS X G W (.Assign [.Attribute a (G.nm f) p2] e pos) (fSetF isF f fa fe) := by
  intro pins s σ H ρ env h I r er hx
  generalize eq : fSetF isF f fa fe env h = rt at hx ⊢
  refine plainObj_wpAny_Assign_Attribute (he.thenS I r er eq hx fun y h1 z s1 w ρ1 H1 e1 I1 g1 r1 er1 rz dy hx1 => ha.thenS I1 r1 er1 e1 hx1 fun x h2 u s2 v ρ2 H2 e2 I2 g2 r2 er2 ru dx hx2 => ?_) hs
  split at e2
  · rename_i h3 e3
    subst e2
    exact setF_run inj hF e3 I2 r2 dx ru (RD.gr g2 y w dy) rz fun H3 s3 I3 g3 r3 => ⟨σ, H3, I3, ρ2, (g1.trans g2).trans g3, r3, er2.gr g3⟩
  · subst e2; exact hx2.elim

/-! ### in place -/
def iopD : Bop → D → D → Hh → R D
  | .add, .int i, .int j, h => .ok (.int (i + j)) h
  | .sub, .int i, .int j, h => .ok (.int (i - j)) h
  | .mul, .int i, .int j, h => if (-(2 ^ 64) < i ∧ i < 2 ^ 64) ∨ (-(2 ^ 64) < j ∧ j < 2 ^ 64) then .ok (.int (i * j)) h else .bad
  | .add, .str a, .str b, h => if a.length + b.length ≤ SZ then .ok (.str (a ++ b)) h else .bad
  | .add, .ref i, .ref j, h => match h[i]?, h[j]? with
    | some (.lst a), some (.lst b) => if a.length + b.length ≤ SZ then .ok (.ref i) (h.set i (.lst (a ++ b))) else .bad
    | _, _ => .bad
  | _, _, _, _ => .bad
theorem iop_ok {op : Bop} {pins : List (Addr × Obj)} {s : Shared} {σ : St} {H : Hp} {ρ : List Addr} {h : Hh} {x y : D} {v w : V} {u z : Value} {rt : R D} (eq : iopD op x y h = rt) (hx : ExcOk X.K G W ρ H σ rt) (I : Inv X pins σ H s) (r : HR X.K G ρ H h) (dx : RD X.K G ρ H x v) (dy : RD X.K G ρ H y w) (ru : RelV v u) (rz : RelV w z) :
    wpAny (model X.prog X.w) X.A (inplaceOp op.op u z) (EP X pins σ (QR X.K G ρ H rt)) X.xe s := by
  unfold iopD at eq
  split at eq
  · subst eq; cases dx; cases dy
    exact iop_add pins s σ H _ _ u z _ I ru rz ⟨_, _, rfl, rfl, q_same r rfl⟩
  · subst eq; cases dx; cases dy
    exact iop_sub pins s σ H _ _ u z _ I ru rz ⟨_, _, rfl, rfl, q_same r rfl⟩
  · split at eq
    · rename_i hz
      subst eq; cases dx; cases dy
      exact iop_mul pins s σ H _ _ u z _ I ru rz ⟨_, _, rfl, rfl, hz, q_same r rfl⟩
    · subst eq; exact hx.elim
  · split at eq
    · rename_i hz
      subst eq; cases dx; cases dy
      refine iop_add_str pins s σ H _ _ u z _ I ru rz ⟨_, _, rfl, rfl, by rw [sOf_len, sOf_len, SZ_eq]; exact hz, q_same r ?_⟩
      exact congrArg V.str (sOf_app _ _)
    · subst eq; exact hx.elim
  · split at eq
    · rename_i i j _ _ xs ys ea eb
      split at eq
      · rename_i hz
        subst eq
        obtain ⟨p, e1, rfl⟩ := dx
        obtain ⟨p2, e2, rfl⟩ := dy
        obtain ⟨vs, h1, q1⟩ := r.at e1 ea
        obtain ⟨vs2, h2, q2⟩ := r.at e2 eb
        have g := Gr.write (ρ := ρ) (v := .lst (vs ++ vs2)) h1 True.intro
        refine iop_ext pins s σ H _ _ u z _ I ru rz ⟨p, p2, vs, vs2, rfl, rfl, h1, h2, by rw [q1.len, q2.len, SZ_eq]; exact hz, ρ, g, ?_, p, e1, rfl⟩
        exact r.write e1 h1 True.intro ⟨_, upd_same, RDs.gr g _ _ (q1.app q2)⟩
      · subst eq; exact hx.elim
    · subst eq; exact hx.elim
  · subst eq; exact hx.elim
/-- name op= e -/
def fAug (i : Nat) (op : Bop) (fe : Ev → Hh → R D) : Ev → Hh → RS := fun env h => match env[i]? with
  | some (some x) => (fe env h).bindS env fun y h1 => (iopD op x y h1).bindS env fun z h2 => .nx (env.set i (some z)) h2
  | _ => .bad
theorem QR.thenS {K : PySem.W.Frag} {ρ : List Addr} {H : Hp} {σ : St} {m : R D} {F : D → Hh → RS} {env : Ev} {rt : RS} {v : V} {H' : Hp} (er : ER K G ρ H env σ) (eq : m.bindS env F = rt) (hx : ExcOkS K G W ρ H rt) (q : QR K G ρ H m v H') :
    ∃ x h1 ρ1, F x h1 = rt ∧ Gr ρ H ρ1 H' ∧ HR K G ρ1 H' h1 ∧ RD K G ρ1 H' x v ∧ ER K G ρ1 H' env σ ∧ ExcOkS K G W ρ1 H' rt := by
  cases m with
  | ok x h1 =>
    obtain ⟨ρ1, g, r, d⟩ := q
    exact ⟨x, h1, ρ1, eq, g, r, d, er.gr g, ExcOkS.gr g hx⟩
  | exc c fs h1 => exact q.elim
  | bad => exact q.elim
theorem ss_aug {i : Nat} {x : Str} {pos' : Pos} {op : Bop} (hN : X.N.Nodup) (hi : X.N[i]? = some x) (hl : Loc X.env.scope x) (hf : X.fn x = true ∨ X.env.scope.names.lookup x = some .local) (he : SE X G W e fe) : SS X G W (.AugAssign (.Name x pos') op.op e pos) (fAug i op fe) := by
  intro pins s σ H ρ env h I r er hx
  generalize eq : fAug i op fe env h = rt at hx ⊢
  unfold fAug at eq
  split at eq
  · rename_i d0 ed
    obtain ⟨v, e1, dv⟩ := er.get i d0 ed
    obtain ⟨m, hn, hl'⟩ := I.loc
    have vis : Vis X.env.scope x := by rcases hl with k | k; exact .inl k; exact .inr (.inl k)
    obtain ⟨u, ru, l⟩ := hl' i x v hi e1 vis
    refine wpAny_AugAssign_Name ?_
    have go : wpAny (model X.prog X.w) X.A (eval e X.env) (fun w s₂ => wpAny (model X.prog X.w) X.A (inplaceOp op.op u w) (fun r s₃ => wpAny (model X.prog X.w) X.A (storeName X.env x r) (fun _ => SP X pins (DE X.K G ρ H rt) .next) X.xe s₃) X.xe s₂) X.xe s := by
      refine he.thenS I r er eq hx fun y h1 z s1 w ρ1 H1 e1 I1 g1 r1 er1 rz dy hx1 => ?_
      have hx2 : ExcOk X.K G W ρ1 H1 σ (iopD op d0 y h1) := by rw [← e1] at hx1; exact hx1.fst er1
      refine thn (iop_ok rfl hx2 I1 r1 (RD.gr g1 d0 v dv) dy ru rz) fun t s2 ⟨tv, H2, I2, rt2, q2⟩ => ?_
      obtain ⟨z2, h2, ρ2, e3, g2, r2, d2, er2, hx3⟩ := q2.thenS er1 e1 hx1
      subst e3
      exact store_ok I2 hN hi hl rt2 (fun s3 I3 => ⟨_, H2, I3, ρ2, g1.trans g2, r2, er2.set i d2⟩) hf
    rcases l with ⟨hk, hm⟩ | ⟨hk, c, hc, hcell⟩
    · exact wpAny_loadName_local I.ok.kind hk hn hm go
    · rcases hk with hk | hk
      · exact wpAny_loadName_cell I.ok.kind hk hc hcell go
      · rcases hl with k | k
        · have : X.env.scope.names.lookup x = some .free := hk
          rw [k] at this; cases this
        · have : X.env.scope.names.lookup x = some .free := hk
          rw [k] at this; cases this
  · rw [← eq] at hx; exact hx.elim
/-- o.f op= e -/
def fAugF (isF : Nat → Bool) (f : Nat) (op : Bop) (fa fe : Ev → Hh → R D) : Ev → Hh → RS := fun env h => (fa env h).bindS env fun x h1 => (fldD isF (fun _ => none) f x h1).bindS env fun old h2 => (fe env h2).bindS env fun y h3 => (iopD op old y h3).bindS env fun z h4 => match setFD isF f z x h4 with
  | some h5 => .nx env h5
  | none => .bad
theorem ss_augF {isF : Nat → Bool} {f : Nat} {op : Bop} (inj : ∀ i j, G.nm i = G.nm j → i = j) (hF : ∀ c, isF c = true → FldOk X.K G c f) (ha : SE X G W a fa) (he : SE X G W e fe) : SS X G W (.AugAssign (.Attribute a (G.nm f) p2) op.op e pos) (fAugF isF f op fa fe) := by
  intro pins s σ H ρ env h I r er hx
  generalize eq : fAugF isF f op fa fe env h = rt at hx ⊢
  refine wpAny_AugAssign_AttributeAny (ha.thenS I r er eq hx fun x h1 u s1 v ρ1 H1 e1 I1 g1 r1 er1 ru dx hx1 => ?_)
  have hxa : ExcOk X.K G W ρ1 H1 σ (fldD isF (fun _ => none) f x h1) := by rw [← e1] at hx1; exact hx1.fst er1
  refine thn (fld_run inj hF (by intro _ _ z; cases z) rfl hxa I1 r1 dx ru) fun old s2 ⟨ov, H2, I2, ro, q2⟩ => ?_
  obtain ⟨o2, h2, ρ2, e2, g2, r2, d2, er2, hx2⟩ := q2.thenS er1 e1 hx1
  refine he.thenS I2 r2 er2 e2 hx2 fun y h3 z s3 w ρ3 H3 e3 I3 g3 r3 er3 rz dy hx3 => ?_
  have hxb : ExcOk X.K G W ρ3 H3 σ (iopD op o2 y h3) := by rw [← e3] at hx3; exact hx3.fst er3
  refine thn (iop_ok rfl hxb I3 r3 (RD.gr g3 o2 ov d2) dy ro rz) fun t s4 ⟨tv, H4, I4, rt4, q4⟩ => ?_
  obtain ⟨z4, h4, ρ4, e4, g4, r4, d4, er4, hx4⟩ := q4.thenS er3 e3 hx3
  split at e4
  · rename_i h5 e5
    subst e4
    exact setF_run inj hF e5 I4 r4 (RD.gr ((g2.trans g3).trans g4) x v dx) ru d4 rt4 fun H5 s5 I5 g5 r5 => ⟨σ, H5, I5, ρ4, (((g1.trans g2).trans g3).trans g4).trans g5, r5, er4.gr g5⟩
  · subst e4; exact hx4.elim

/-! ### o[i] = e -/
def setID (o i y : D) (h : Hh) : Option Hh := match o, i with
  | .ref r, .int k => match h[r]? with
    | some (.lst xs) => match ixN xs.length k with
      | some j => some (h.set r (.lst (xs.set j y)))
      | none => none
    | _ => none
  | _, _ => none
theorem setI_run {pins : List (Addr × Obj)} {s : Shared} {σ : St} {H : Hp} {ρ : List Addr} {h h' : Hh} {o i y : D} {v1 v2 w : V} {u1 u2 z : Value} {Q : Unit → Shared → Prop}
    (eq : setID o i y h = some h') (I : Inv X pins σ H s) (r : HR X.K G ρ H h) (d1 : RD X.K G ρ H o v1) (r1 : RelV v1 u1) (d2 : RD X.K G ρ H i v2) (r2 : RelV v2 u2) (dy : RD X.K G ρ H y w) (rz : RelV w z)
    (k : ∀ H' s', Inv X pins σ H' s' → Gr ρ H ρ H' → HR X.K G ρ H' h' → Q () s') : wpAny (model X.prog X.w) X.A (setItem u1 u2 z) Q X.xe s := by
  unfold setID at eq
  split at eq
  · rename_i rr kk
    obtain ⟨p, ep, rfl⟩ := d1
    cases d2
    split at eq
    · rename_i xs eo
      obtain ⟨vs, eH, q⟩ := r.at ep eo
      split at eq
      · rename_i j ej
        cases eq
        have g := Gr.write (ρ := ρ) (v := .lst (vs.set j w)) eH True.intro
        refine thn (set_list pins s σ H _ _ w u1 u2 z (fun H' => H' = upd H p (.lst (vs.set j w))) I r1 r2 rz ⟨p, vs, kk, j, rfl, rfl, eH, by rw [q.len]; exact ej, rfl⟩) fun _ s' ⟨H', I', e'⟩ => ?_
        subst e'
        exact k _ s' I' g (r.write ep eH True.intro ⟨_, upd_same, RDs.gr g _ _ (q.set j dy)⟩)
      · cases eq
    · cases eq
  · cases eq
def fSetI (fo fi fe : Ev → Hh → R D) : Ev → Hh → RS := fun env h => (fe env h).bindS env fun y h1 => (fo env h1).bindS env fun o h2 => (fi env h2).bindS env fun i h3 => match setID o i y h3 with
  | some h4 => .nx env h4
  | none => .bad
theorem ss_setI (ha : SE X G W a fa) (hb : SE X G W b fb) (he : SE X G W e fe) (hs : swapsWithSole [.Subscript a b p2] e pos.line X.env = pure false) (hw : swappedStores [.Subscript a b p2] e X.env = pure none)
    (h1 : (assignEach [.Subscript a b p2] X.env).map (·.2) = [assign (.Subscript a b p2) X.env])
    (hv : ∀ v, assign (.Subscript a b p2) X.env v = (do
      let ov ← holding [v] (eval a X.env)
      let iv ← holding [v, ov] (eval b X.env)
      standAt p2
      holding [v, ov, iv] (setItem ov iv v)
      release [v, ov, iv] [])) : SS X G W (.Assign [.Subscript a b p2] e pos) (fSetI fa fb fe) := by
  intro pins s σ H ρ env h I r er hx
  generalize eq : fSetI fa fb fe env h = rt at hx ⊢
  refine wpAny_Assign_stores (he.thenS I r er eq hx fun y h1 z s1 w ρ1 H1 e1 I1 g1 r1 er1 rz dy hx1 => ?_) hs hw
  rw [‹(assignEach [.Subscript a b p2] X.env).map (·.2) = [assign (.Subscript a b p2) X.env]›]
  show wpAny _ _ (assign (.Subscript a b p2) X.env z) _ _ _
  rw [hv]
  refine wpAny_bind (wpAny_holding (ha.thenS I1 r1 er1 e1 hx1 fun o h2 ov s2 v2 ρ2 H2 e2 I2 g2 r2 er2 ru2 do2 hx2 => ?_))
  refine wpAny_bind (wpAny_holding (hb.thenS I2 r2 er2 e2 hx2 fun i h3 iv s3 v3 ρ3 H3 e3 I3 g3 r3 er3 ru3 di3 hx3 => ?_))
  split at e3
  · rename_i h4 e4
    subst e3
    refine wpAny_bind (wpAny_standAt (wpAny_bind (wpAny_holding (setI_run e4 I3 r3 (RD.gr g3 o v2 do2) ru2 di3 ru3 (RD.gr (g2.trans g3) y w dy) rz fun H4 s4 I4 g4 r4 => ?_))))
    exact wpAny_release ⟨σ, H4, I4, ρ3, ((g1.trans g2).trans g3).trans g4, r4, er3.gr g4⟩
  · subst e3; exact hx3.elim
/-- o[i] op= e -/
def getID (o i : D) (h : Hh) : R D := match o, i with
  | .ref r, .int k => match h[r]? with
    | some (.lst xs) => (match L2.atI xs k with | some d => .ok d h | none => .bad)
    | _ => .bad
  | _, _ => .bad
end
end PI

set_option maxRecDepth 100000
set_option maxHeartbeats 1000000
/-! PI, part 9: what loops walk. -/
namespace PI
open PySem PySem.Spec PyProof.Rows L2
def itD (x : D) (h : Hh) : R IS := match x with
  | .ref i => match h[i]? with
    | some (.lst _) => .ok (.lst i) h
    | _ => .bad
  | .tup xs => .ok (.tup xs) h
  | .str z => .ok (.str z) h
  | _ => .bad
def fIt (fa : Ev → Hh → R D) : Ev → Hh → R IS := fun env h => (fa env h).bind itD
/-- the place of a new iterator -/
theorem piem_one {m : Bool} {X : Cx} {pins : List (Addr × Obj)} {σ : St} {tg : Expr} {H : Hp} {s : Shared} {R : It → Hp → Prop} {o : Obj} {tk : Nat} {J : It} {tn : Nat → Heap → Prop} (I : Inv X pins σ H s) (T : TurnM m X.prog X.w X.K tg J [s.heap.objs.size] s.heap.objs.size tn) (st : tn 0 (s.heap.push o)) (q : R J H) :
    PIEM m X pins σ tg R (.ref s.heap.objs.size) { s with heap := s.heap.push o, toks := tk } := by
  refine ⟨s.heap.objs.size, [s.heap.objs.size], tn, J, H, rfl, I.kept (t' := tk) fun b o e => Heap.get?_push_of_some _ e, T, st, fun b hb => ?_, q⟩
  have e : b = s.heap.objs.size := by simpa using hb
  subst e
  refine ⟨I.fpOk (Nat.le_refl _) (I.hok.fresh (Nat.le_refl _)), ?_⟩
  show s.heap.objs.size < (s.heap.push o).objs.size
  rw [Heap.size_push]
  exact Nat.lt_succ_self _
section
variable {m : Bool} {X : Cx} {G : Gam} {W : WX} {pos p : Pos} {a b tg : Expr} {fa fb : Ev → Hh → R D}
theorem si_val (ha : SE X G W a fa) : SI m X G W tg a (fIt fa) := by
  intro pins s σ H ρ env h I r er hx
  generalize eq : fIt fa env h = rt at hx ⊢
  refine ha.then I r er eq hx fun x h1 u s1 v ρ1 H1 e1 I1 g1 r1 er1 ru dx hx1 => ?_
  unfold itD at e1
  split at e1
  · rename_i i
    obtain ⟨q, eq', rfl⟩ := dx
    obtain rfl : u = Value.ref q := ru
    split at e1
    · rename_i xs eo
      subst e1
      obtain ⟨vs, hH, rds⟩ := r1.at eq' eo
      obtain ⟨its, rv, pl, hz⟩ := I1.list (SqL.of hH)
      refine wpAny_pyIter_list pl.isList ?_
      exact piem_one (tk := s1.toks) I1 (turnM_list q _) ⟨_, Heap.get?_push_size _ rfl, rfl, rfl⟩ ⟨ρ1, g1, r1, isok_lst eq'⟩
    · subst e1; exact hx1.elim
  · rename_i xs
    subst e1
    obtain ⟨q, vs, rfl, hq, rds⟩ := dx
    obtain rfl : u = Value.ref q := ru
    obtain ⟨its, rv, pl, hz⟩ := I1.tuple hq
    refine wpAny_pyIter_tuple (show s1.heap.IsTuple q its.toArray from pl) ?_
    exact piem_one (tk := s1.toks) I1 (turnM_tuple q _) ⟨_, Heap.get?_push_size _ rfl, rfl, rfl⟩ ⟨ρ1, g1, r1, isok_tup hq rds⟩
  · rename_i z
    subst e1
    cases dx
    obtain ⟨t, rfl⟩ := ru
    cases hall : (sOf z).cps.all (· < 128)
    · refine wpAny_pyIter_wide hall ?_
      exact piem_one (tk := s1.toks) I1 (turnM_str _ (sOf z) t "str_iterator" (.inr rfl)) ⟨_, Heap.get?_push_size _ rfl, rfl, rfl⟩ ⟨ρ1, g1, r1, isok_str⟩
    · refine wpAny_pyIter_ascii hall ?_
      exact piem_one (tk := s1.toks) I1 (turnM_str _ (sOf z) t "str_ascii_iterator" (.inl rfl)) ⟨_, Heap.get?_push_size _ rfl, rfl, rfl⟩ ⟨ρ1, g1, r1, isok_str⟩
  · subst e1; exact hx1.elim
/-- range(n); range(a, b) -/
def rngD1 (xs : List D) (h : Hh) : R IS := match xs with
  | [.int j] => if -(2 ^ 62) ≤ j ∧ j < 2 ^ 62 then .ok (.rng 0 j.toNat) h else .bad
  | _ => .bad
def rngD2 (xs : List D) (h : Hh) : R IS := match xs with
  | [.int i, .int j] => if (-(2 ^ 62) ≤ i ∧ i < 2 ^ 62) ∧ -(2 ^ 62) ≤ j ∧ j < 2 ^ 62 then .ok (.rng i (j - i).toNat) h else .bad
  | _ => .bad
theorem rng_run {pins : List (Addr × Obj)} {σ : St} {H : Hp} {s : Shared} {R : It → Hp → Prop} {E : Value → Shared → Prop} {lo hi : Int} {t u v : Tok} {tk : Nat} (I : Inv X pins σ H s) (h1 : -(2 ^ 62) ≤ lo) (h2 : lo < 2 ^ 62) (h3 : -(2 ^ 62) ≤ hi) (h4 : hi < 2 ^ 62)
    (q : R (Itr lo (hi - lo).toNat) H) : wpAny (model X.prog X.w) X.A (pyIter (.ref s.heap.objs.size)) (PIEM m X pins σ tg R) E { s with heap := s.heap.push { cls := .type "range", data := .fields #[.int lo t, .int hi u, .int 1 v] }, toks := tk } := by
  refine wpAny_pyIter_range (IsRange.new ..) (small_one h1 h2 h3 h4) ?_
  have I1 : Inv X pins σ H { s with heap := s.heap.push { cls := .type "range", data := .fields #[.int lo t, .int hi u, .int 1 v] }, toks := tk } := I.kept fun b o e => Heap.get?_push_of_some _ e
  refine piem_one (tk := tk) I1 (turnM_range _ lo (hi - lo).toNat) ?_ q
  have e1 : lo + ((0 : Nat) : Int) * 1 = lo := by simp
  have e2 : (((hi - lo).toNat : Nat) : Int) - ((0 : Nat) : Int) = Builtin.Range.rangeSize lo hi 1 := by rw [rangeSize_one]; split <;> omega
  show IsRangeIter _ _ (lo + ((0 : Nat) : Int) * 1) ((((hi - lo).toNat : Nat) : Int) - ((0 : Nat) : Int)) 1
  rw [e1, e2]
  exact Heap.get?_push_size _ rfl
def fRng1 (fr : Ev → Hh → R (List D)) : Ev → Hh → R IS := fun env h => (fr env h).bind rngD1
def fRng2 (fr : Ev → Hh → R (List D)) : Ev → Hh → R IS := fun env h => (fr env h).bind rngD2
theorem si_rng1 {fr : Ev → Hh → R (List D)} (hg : Gl X "range") (hm : X.mg "range" = none) (ha : SA X G W [a] fr) (hs : starEach [a] X.env = [(false, eval a X.env)]) : SI m X G W tg (.Call (.Name "range" p) [a] [] pos) (fRng1 fr) := by
  intro pins s σ H ρ env h I r er hx
  generalize eq : fRng1 fr env h = rt at hx ⊢
  refine Call_ (ld_blt I hg hm boot_range (PyProof.Rows.callWith_type1 (ha.then I r er eq hx fun xs h1 us s1 vs ρ1 H1 e1 I1 g1 r1 er1 rv dxs hx1 => ?_) hs rfl))
  unfold rngD1 at e1
  split at e1
  · rename_i j
    split at e1
    · rename_i hj
      subst e1
      obtain ⟨v, vr, rfl, d1, d2⟩ := dxs
      cases d1
      cases d2
      cases rv with
      | cons ru rr =>
        cases rr
        obtain ⟨t, rfl⟩ := ru
        exact call_range_1 (rng_run I1 (by omega) (by omega) hj.1 hj.2 (by simpa using (show ∃ ρ', Gr ρ H ρ' H1 ∧ HR X.K G ρ' H1 h1 ∧ ISOk X.K G (.rng 0 j.toNat) (Itr 0 j.toNat) ρ' H1 from ⟨ρ1, g1, r1, isok_rng⟩)))
    · subst e1; exact hx1.elim
  · subst e1; exact hx1.elim
theorem si_rng2 {fr : Ev → Hh → R (List D)} (hg : Gl X "range") (hm : X.mg "range" = none) (ha : SA X G W [a, b] fr) (hs : starEach [a, b] X.env = [(false, eval a X.env), (false, eval b X.env)]) (hs2 : starEach [b] X.env = [(false, eval b X.env)]) : SI m X G W tg (.Call (.Name "range" p) [a, b] [] pos) (fRng2 fr) := by
  intro pins s σ H ρ env h I r er hx
  generalize eq : fRng2 fr env h = rt at hx ⊢
  refine Call_ (ld_blt I hg hm boot_range (PyProof.Rows.callWith_type1 (ha.then I r er eq hx fun xs h1 us s1 vs ρ1 H1 e1 I1 g1 r1 er1 rv dxs hx1 => ?_) (by rw [hs, hs2]) (by rw [hs2]; rfl)))
  unfold rngD2 at e1
  split at e1
  · rename_i i j
    split at e1
    · rename_i hj
      subst e1
      obtain ⟨v, vr, rfl, d1, v2, vr2, rfl, d2, d3⟩ := dxs
      cases d1
      cases d2
      cases d3
      cases rv with
      | cons ru rr =>
        cases rr with
        | cons ru2 rr2 =>
          cases rr2
          obtain ⟨t, rfl⟩ := ru
          obtain ⟨t', rfl⟩ := ru2
          exact call_range_2 (rng_run I1 hj.1.1 hj.1.2 hj.2.1 hj.2.2 ⟨ρ1, g1, r1, isok_rng⟩)
    · subst e1; exact hx1.elim
  · subst e1; exact hx1.elim
end
end PI

set_option maxRecDepth 100000
set_option maxHeartbeats 1000000
/-! PI, part 10: defs: what they promise, how they are called. -/
namespace PI
open PySem PySem.Spec PyProof.Rows L2

/-- the mode at a call -/
def AM (m : Bool) (A : Around) (outer : List Env) (H : Hp) (s : Shared) : Prop := (m = true → ∃ p, L2H.Hot1 A p ∧ L2H.PinOk outer H s p) ∧ (m = false → A.handled = none)
def ExcOkE (m : Bool) (K : PySem.W.Frag) (G : Gam0) (E : XK) (ρ : List Addr) (H : Hp) : R D → Prop
  | .ok _ _ => True
  | .exc c fs h' => m = false ∧ ∀ dd ρ' H', Gr ρ H ρ' H' → HR K G ρ' H' h' → XD K G ρ' H' fs dd → E (.ref (G.ca c)) dd H'
  | .bad => False
/-- in an except suite nothing is raised -/
def hotR (m : Bool) (r : R D) : R D := match m, r with
  | true, .exc _ _ _ => .bad
  | _, r => r
theorem hotR_ok {m : Bool} {r : R D} {d : D} {h : Hh} (e : hotR m r = .ok d h) : r = .ok d h := by
  cases m <;> cases r <;> first | exact e | cases e
theorem hotR_false {r : R D} : hotR false r = r := by cases r <;> rfl
/-- the def at f: F tells what it hands back -/
def PF (m : Bool) (P : Program) (w : World) (K : PySem.W.Frag) (mg : Str → Option Value) (base : Heap) (G : Gam0) (k : Nat) (f : Addr) (F : List D → Hh → R D) : Prop :=
  ∀ (A : Around) (outer : List Env) (s : Shared) (H : Hp) (us : List Value) (vs : List V) (ds : List D) (ρ : List Addr) (h : Hh) (E : XK), L2H.RoomH k A → AM m A outer H s → Env0 P w K mg base A outer s H → Vals vs us → HR K G ρ H h → RDs K G ρ H ds vs → ExcOkE m K G E ρ H (F ds h) →
    codeAny (model P w) A (.call (.ref f) ⟨us, []⟩) (CR (L2N.CX P w) outer P w H s (QR K G ρ H (F ds h)) E) s
theorem PF.mono {m : Bool} {P : Program} {w : World} {K : PySem.W.Frag} {mg : Str → Option Value} {base : Heap} {G : Gam0} {j k : Nat} {f : Addr} {F : List D → Hh → R D} (p : PF m P w K mg base G j f F) (h : j ≤ k) : PF m P w K mg base G k f F :=
  fun A outer s H us vs ds ρ hh E hr => p A outer s H us vs ds ρ hh E (hr.mono h)
section
variable {m : Bool} {X : Cx} {G : Gam} {W : WX} {k : Nat} {pins : List (Addr × Obj)} {s : Shared} {σ : St} {H : Hp} {ρ : List Addr} {h : Hh}
theorem XOk.am (ok : XOk m k W X) (I : Inv X pins σ H s) : AM m X.A X.stack H s := by
  have hm := ok.mode
  refine ⟨fun e => ?_, fun e => ?_⟩
  · subst e
    obtain ⟨p, hot, hp⟩ := (show L2H.HotC X from hm)
    have P1 := I.pin p (List.mem_append_left _ hp)
    exact ⟨p, hot, P1.1, P1.2.1, fun hmm => (List.mem_cons.mp (I.stkSub p.1 hmm)).elim P1.2.2.1 P1.2.2.2.1, P1.2.2.2.2⟩
  · subst e
    exact hm
theorem AM.make {A : Around} {outer : List Env} (a : AM m A outer H s) (C : Addr) (us : List Value) (kw : List (Str × Value)) : AM m (A.under (.builtin "type.__call__" ⟨.ref C :: us, kw⟩)) outer H s :=
  ⟨fun e => let ⟨p, h1, h2⟩ := a.1 e; ⟨p, ⟨h1.1, h1.2⟩, h2⟩, fun e => a.2 e⟩
/-- the wish handed to the callee -/
def callE (m : Bool) (W : WX) (σ : St) : XK := fun c d H' => m = false ∧ W c d σ H'
theorem excE_of {r : R D} (hx : ExcOk X.K G W ρ H σ (hotR m r)) : ExcOkE m X.K G (callE m W σ) ρ H r := by
  cases r with
  | ok d h' => trivial
  | exc c fs h' =>
    cases m with
    | true => exact hx.elim
    | false => exact ⟨rfl, fun dd ρ' H' g r x => ⟨rfl, hx dd ρ' H' g r x⟩⟩
  | bad => cases m <;> exact hx.elim
theorem cx_xe (ok : XOk m k W X) (I : Inv X pins σ H s) {e : Value} {s' : Shared} (c : L2N.CX X.prog X.w X.stack H s (callE m W σ) e s') : X.xe e s' := by
  cases m with
  | false => exact ok.tk rfl e s' (L2N.XE.of_call I (fun cls d H' z => z.2) c)
  | true =>
    obtain ⟨a, B, H', cls, d, _, _, _, _, _, _, _, hE⟩ := c
    cases hE.1
theorem qr_hot {K : PySem.W.Frag} {G : Gam0} {r : R D} {v : V} {H' : Hp} (q : QR K G ρ H r v H') : QR K G ρ H (hotR m r) v H' := by
  cases r with
  | ok d h' => cases m <;> exact q
  | exc c fs h' => exact q.elim
  | bad => exact q.elim
/-- the callee runs -/
theorem run_pfC {f : Addr} {F : List D → Hh → R D} {us : List Value} {vs : List V} {ds : List D} (ok : XOk m k W X) (pf : PF m X.prog X.w X.K X.mg X.base G k f F) (I : Inv X pins σ H s) (r : HR X.K G ρ H h) (rv : Vals vs us) (q : RDs X.K G ρ H ds vs) (hx : ExcOk X.K G W ρ H σ (hotR m (F ds h))) :
    codeAny (model X.prog X.w) X.A (.call (.ref f) ⟨us, []⟩) (fun r s' => match r with | .ok (.ret v) => EP X pins σ (QR X.K G ρ H (hotR m (F ds h))) v s' | .ok _ => False | .error e => X.xe e s') s := by
  refine codeAny_mono (pf X.A X.stack s H us vs ds ρ h (callE m W σ) ok.room (ok.am I) I.env0 rv r q (excE_of hx)) fun rr s' hq => ?_
  cases rr with
  | error e => exact cx_xe ok I hq
  | ok fl =>
    cases fl with
    | ret u => exact ep_mono (fun _ _ z => qr_hot z) (I.after hq)
    | next => exact False.elim hq
    | brk => exact False.elim hq
    | cont => exact False.elim hq
theorem run_pf {f : Addr} {F : List D → Hh → R D} {us : List Value} {vs : List V} {ds : List D} (ok : XOk m k W X) (pf : PF m X.prog X.w X.K X.mg X.base G k f F) (I : Inv X pins σ H s) (r : HR X.K G ρ H h) (rv : Vals vs us) (q : RDs X.K G ρ H ds vs) (hx : ExcOk X.K G W ρ H σ (hotR m (F ds h))) :
    wpAny (model X.prog X.w) X.A (call (.ref f) us) (EP X pins σ (QR X.K G ρ H (hotR m (F ds h)))) X.xe s := wpAny_call (run_pfC ok pf I r rv q hx)
/-! ### argument lists -/
/-- the first one, where there is one, has no star -/
def ArgsOk (env : Env) (es : List Expr) : Prop := es = [] ∨ ∃ e r, es = e :: r ∧ starEach es env = (false, eval e env) :: starEach r env
theorem evalArgs_any {M : Model} {A : Around} {E : Value → Shared → Prop} {s : Shared} {env : Env} {pos : Pos} {f : Value} {es : List Expr} {Q : Args → Shared → Prop} (hs : ArgsOk env es)
    (h : wpAny M A (spliced (backTo pos (starEach es env))) (fun vs s' => Q ⟨vs, []⟩ s') E s) : wpAny M A (evalArgs f true (backTo pos (starEach es env)) []) Q E s := by
  rcases hs with rfl | ⟨e, r, rfl, he⟩
  · unfold evalArgs
    show wpAny M A (spliced [] >>= _) Q E s
    refine wpAny_bind (wpAny_mono h (fun vs s' h' => ?_) fun _ _ x => x)
    refine wpAny_holding ?_
    exact wpAny_bind (wpAny_pure (wpAny_bind (wpAny_pure (wpAny_pure h'))))
  · rw [he] at h ⊢
    exact Calls.evalArgs_plain h
theorem cw_any {M : Model} {A : Around} {E : Value → Shared → Prop} {s : Shared} {env : Env} {pos : Pos} {f : Value} {first : List Value} {es : List Expr} {Q : Value → Shared → Prop} {P : Heap → Prop} (hs : ArgsOk env es)
    (hk : ∀ h, P h → ∃ k, (k = Keeper.frame ∨ k = Keeper.machine ∨ k = Keeper.boundFrame) ∧ PySem.W.Looks M h (keeperOf f) k)
    (h : wpAny M A (spliced (backTo pos (starEach es env))) (fun vs s₁ => P s₁.heap ∧ wpAny M A (call f (first ++ vs)) Q E s₁) E s) : wpAny M A (callWith pos f first (backTo pos (starEach es env)) []) Q E s := by
  cases ha : (backTo pos (starEach es env)).any (·.1) with
  | true => exact PySem.W.ks_call ha hk (evalArgs_any hs h)
  | false => exact PySem.W.callWith_of (by rw [ha]; rfl) hk (evalArgs_any hs h)
end
section
variable {m : Bool} {X : Cx} {G : Gam} {W : WX} {k : Nat} {pos p apos : Pos} {es : List Expr} {fr : Ev → Hh → R (List D)} {x mn : Str} {o : Expr} {fo : Ev → Hh → R D}
/-- f(..), f a def of the module -/
def fCall (m : Bool) (F : List D → Hh → R D) (fr : Ev → Hh → R (List D)) : Ev → Hh → R D := fun env h => (fr env h).bind fun ds h1 => hotR m (F ds h1)
theorem se_call {f : Addr} {F : List D → Hh → R D} (ok : XOk m k W X) (pf : PF m X.prog X.w X.K X.mg X.base G k f F) (hg : Gl X x) (hm : X.mg x = some (.ref f)) (hk : PySem.W.keepIn X.K (.ref f) = true) (hs : ArgsOk X.env es) (ha : SA X G W es fr)
    (hd : (x == ("__debug__" : Str)) = false) : SE X G W (.Call (.Name x p) es [] pos) (fCall m F fr) := by
  intro pins s σ H ρ env h I r er hx
  generalize eq : fCall m F fr env h = rt at hx ⊢
  refine wpAny_Call_Name_kw (ld_glob I hg hm ?_ hd)
  refine cw_any (P := X.K.In) hs (PySem.W.keeps_K hk) (ha.then I r er eq hx fun ds h1 us s1 vs ρ1 H1 e1 I1 g1 r1 er1 rv q hx1 => ⟨I1.kIn, ?_⟩)
  subst e1
  exact thn (run_pf ok pf I1 r1 rv q hx1) fun _ _ z => ep_gr g1 z
/-- a new instance, then its __init__ -/
def newR (m : Bool) (c : Nat) (F : List D → Hh → R D) (ds : List D) (h : Hh) : R D := match hotR m (F (.ref h.length :: ds) (h ++ [.ins c []])) with
  | .ok .non h2 => .ok (.ref h.length) h2
  | .ok _ _ => .bad
  | .exc c fs h2 => .exc c fs h2
  | .bad => .bad
theorem Gr.mk2 {ρ : List Addr} {H : Hp} {p q : Addr} {u v : HO} (hp : H p = none) (hq : H q = none) : Gr ρ H (ρ ++ [q]) (upd (upd H p u) q v) :=
  ⟨⟨[q], rfl⟩, fun a o e _ => by rw [upd_ne (ne_of_none e hq), upd_ne (ne_of_none e hp)]; exact e⟩
theorem run_new {f : Addr} {c : Nat} {F : List D → Hh → R D} {pins : List (Addr × Obj)} {s : Shared} {σ : St} {H : Hp} {ρ : List Addr} {h : Hh} {us : List Value} {vs : List V} {ds : List D} (ok : XOk m (k + 1) W X) (M : Mk X.K (G.ca c) f) (pf : PF m X.prog X.w X.K X.mg X.base G k f F)
    (I : Inv X pins σ H s) (r : HR X.K G ρ H h) (rv : Vals vs us) (q : RDs X.K G ρ H ds vs) (hx : ExcOk X.K G W ρ H σ (newR m c F ds h)) :
    wpAny (model X.prog X.w) X.A (call (.ref (G.ca c)) us) (EP X pins σ (QR X.K G ρ H (newR m c F ds h))) X.xe s := by
  have n0 : H s.heap.objs.size = none := I.hok.fresh (Nat.le_refl _)
  have n1 : H (s.heap.objs.size + 1) = none := I.hok.fresh (Nat.le_succ _)
  have ne : s.heap.objs.size + 1 ≠ s.heap.objs.size := Nat.succ_ne_self _
  have I2 := Inv.made (C := G.ca c) I
  have g0 : Gr ρ H ρ (upd H s.heap.objs.size (.own (s.heap.objs.size + 1))) := Gr.newImm n0
  have r0 : HR X.K G ρ (upd H s.heap.objs.size (.own (s.heap.objs.size + 1))) h := r.newImm n0
  have n1' : (upd H s.heap.objs.size (.own (s.heap.objs.size + 1))) (s.heap.objs.size + 1) = none := by rw [upd_ne ne]; exact n1
  have g2 : Gr ρ H (ρ ++ [s.heap.objs.size + 1]) (upd (upd H s.heap.objs.size (.own (s.heap.objs.size + 1))) (s.heap.objs.size + 1) (.ins (G.ca c) s.heap.objs.size [])) := g0.trans (Gr.newObj n1')
  have r2 : HR X.K G (ρ ++ [s.heap.objs.size + 1]) (upd (upd H s.heap.objs.size (.own (s.heap.objs.size + 1))) (s.heap.objs.size + 1) (.ins (G.ca c) s.heap.objs.size [])) (h ++ [.ins c []]) := r0.newObj n1' ⟨s.heap.objs.size, [], upd_same, rfl⟩
  have at2 : (ρ ++ [s.heap.objs.size + 1])[h.length]? = some (s.heap.objs.size + 1) := by
    rw [← r.len, List.getElem?_append_right (Nat.le_refl _), Nat.sub_self] <;> rfl
  have q2 : RDs X.K G (ρ ++ [s.heap.objs.size + 1]) (upd (upd H s.heap.objs.size (.own (s.heap.objs.size + 1))) (s.heap.objs.size + 1) (.ins (G.ca c) s.heap.objs.size [])) (.ref h.length :: ds) (V.ref (s.heap.objs.size + 1) :: vs) :=
    ⟨_, _, rfl, ⟨_, at2, rfl⟩, RDs.gr g2 ds vs q⟩
  have hx2 : ExcOk X.K G W (ρ ++ [s.heap.objs.size + 1]) (upd (upd H s.heap.objs.size (.own (s.heap.objs.size + 1))) (s.heap.objs.size + 1) (.ins (G.ca c) s.heap.objs.size [])) σ (hotR m (F (.ref h.length :: ds) (h ++ [.ins c []]))) := by
    unfold newR at hx
    cases e : hotR m (F (.ref h.length :: ds) (h ++ [.ins c []])) with
    | ok d h' => trivial
    | exc c' fs h' => rw [e] at hx; exact ExcOk.gr g2 (α := D) (m := .exc c' fs h') hx
    | bad => rw [e] at hx; exact hx.elim
  refine wpAny_call (make_map (f := f) I.kIn M.makes M.init (beq_iff_eq.mp M.fn) (codeAny_mono (pf _ X.stack _ _ (Value.ref (s.heap.objs.size + 1) :: us) (V.ref (s.heap.objs.size + 1) :: vs) _ _ _ (callE m W σ) (L2H.RoomH.make ok.room (G.ca c) us [])
    ((ok.am I2).make (G.ca c) us []) (I2.env0.make (G.ca c) us []) (.cons rfl rv) r2 q2 (excE_of hx2)) fun rr s' hq' => ?_))
  cases rr with
  | error e => exact cx_xe ok I2 hq'
  | ok fl =>
    cases fl with
    | ret u =>
      obtain ⟨v, H', I3, rv3, z⟩ := I2.after hq'
      have z' : QR X.K G _ _ (hotR m (F (.ref h.length :: ds) (h ++ [.ins c []]))) v H' := qr_hot z
      have done : ∀ {d : D} {h2 : Hh}, hotR m (F (.ref h.length :: ds) (h ++ [.ins c []])) = .ok d h2 → ∃ (v' : u = Value.none), EP X pins σ (QR X.K G ρ H (newR m c F ds h)) (.ref (s.heap.objs.size + 1)) s' := by
        intro d h2 e
        rw [e] at z'
        have en : newR m c F ds h = (match (R.ok d h2 : R D) with | .ok .non h2 => .ok (.ref h.length) h2 | .ok _ _ => .bad | .exc c fs h2 => .exc c fs h2 | .bad => .bad) := by unfold newR; rw [e]
        obtain ⟨ρ3, g3, r3, d3⟩ := z'
        cases d with
        | non =>
          obtain rfl : v = .non := d3
          refine ⟨rv3, V.ref (s.heap.objs.size + 1), H', I3, rfl, ?_⟩
          rw [en]
          exact ⟨ρ3, g2.trans g3, r3, _, g3.at at2, rfl⟩
        | _ => rw [en] at hx; exact hx.elim
      cases e : hotR m (F (.ref h.length :: ds) (h ++ [.ins c []])) with
      | ok d h2 =>
        obtain ⟨e1, e2⟩ := done e
        exact ⟨e1, e2⟩
      | exc c' fs h' => rw [e] at z'; exact z'.elim
      | bad => rw [e] at z'; exact z'.elim
    | next => exact False.elim hq'
    | brk => exact False.elim hq'
    | cont => exact False.elim hq'
def fNew (m : Bool) (c : Nat) (F : List D → Hh → R D) (fr : Ev → Hh → R (List D)) : Ev → Hh → R D := fun env h => (fr env h).bind (newR m c F)
theorem se_new {f : Addr} {c : Nat} {F : List D → Hh → R D} (ok : XOk m (k + 1) W X) (pf : PF m X.prog X.w X.K X.mg X.base G k f F) (M : Mk X.K (G.ca c) f) (hg : Gl X x) (hm : X.mg x = some (.ref (G.ca c))) (hs : ArgsOk X.env es) (ha : SA X G W es fr)
    (hd : (x == ("__debug__" : Str)) = false) : SE X G W (.Call (.Name x p) es [] pos) (fNew m c F fr) := by
  intro pins s σ H ρ env h I r er hx
  generalize eq : fNew m c F fr env h = rt at hx ⊢
  refine wpAny_Call_Name_kw (ld_glob I hg hm ?_ hd)
  refine cw_any (P := X.K.In) hs (PySem.W.keeps_K M.kp) (ha.then I r er eq hx fun ds h1 us s1 vs ρ1 H1 e1 I1 g1 r1 er1 rv q hx1 => ⟨I1.kIn, ?_⟩)
  subst e1
  exact thn (run_new ok M pf I1 r1 rv q hx1) fun _ _ z => ep_gr g1 z
/-- x(..), x a variable that holds a class -/
def fNewV (m : Bool) (ini : Nat → Option Nat) (Φ : Nat → List D → Hh → R D) (i : Nat) (fr : Ev → Hh → R (List D)) : Ev → Hh → R D := fun env h => (fVar i env h).bind fun x h1 => match x with
  | .cls c => match ini c with
    | some g => (fr env h1).bind (newR m c (Φ g))
    | none => .bad
  | _ => .bad
theorem se_newV {i : Nat} {ini : Nat → Option Nat} {Φ : Nat → List D → Hh → R D} (ok : XOk m (k + 1) W X) (pf : ∀ g, PF m X.prog X.w X.K X.mg X.base G k (G.fa g) (Φ g)) (M : ∀ c g, ini c = some g → Mk X.K (G.ca c) (G.fa g)) (hN : X.N[i]? = some x) (hv : Vis X.env.scope x)
    (hd : (x == ("__debug__" : Str)) = false) (hcd : (x == ("__classdict__" : Str)) = false) (hs : ArgsOk X.env es) (ha : SA X G W es fr) : SE X G W (.Call (.Name x p) es [] pos) (fNewV m ini Φ i fr) := by
  intro pins s σ H ρ env h I r er hx
  generalize eq : fNewV m ini Φ i fr env h = rt at hx ⊢
  refine wpAny_Call_Name_kw ((se_var (W := W) hN hv hd hcd).then I r er eq hx fun y h1 u s1 v ρ1 H1 e1 I1 g1 r1 er1 ru dx hx1 => ?_)
  split at e1
  · rename_i c
    obtain rfl : v = V.ref (G.ca c) := dx
    obtain rfl : u = Value.ref (G.ca c) := ru
    split at e1
    · rename_i g eg
      have mk := M c g eg
      refine cw_any (P := X.K.In) hs (PySem.W.keeps_K mk.kp) (ha.then I1 r1 er1 e1 hx1 fun ds h2 us s2 vs ρ2 H2 e2 I2 g2 r2 er2 rv q hx2 => ⟨I2.kIn, ?_⟩)
      subst e2
      exact thn (run_new ok mk (pf g) I2 r2 rv q hx2) fun _ _ z => ep_gr (g1.trans g2) z
    · subst e1; exact hx1.elim
  · subst e1; exact hx1.elim
/-! ### methods -/
def nsup : Expr → Bool
  | .Call (.Name id _) [] [] _ => id != "super"
  | _ => true
theorem RDs.cons {K : PySem.W.Frag} {G : Gam0} {ρ : List Addr} {H : Hp} {d : D} {v : V} {ds : List D} {vs : List V} (a : RD K G ρ H d v) (b : RDs K G ρ H ds vs) : RDs K G ρ H (d :: ds) (v :: vs) := ⟨v, vs, rfl, a, b⟩
theorem RDs.nil {K : PySem.W.Frag} {G : Gam0} {ρ : List Addr} {H : Hp} : RDs K G ρ H [] [] := rfl
theorem attrBase {o : Expr} {mn : Str} {env : Env} {w : Sem Value} (h : nsup o = true) : attributeBase o mn env w = w := by
  unfold attributeBase
  split
  · rename_i id _ pos
    have hi : (id != "super") = true := h
    simp only [hi, Bool.true_or, if_true]
  · rfl
theorem eval_meth {o : Expr} {mn : Str} {apos pos : Pos} {es : List Expr} {env : Env} (h : nsup o = true) (hl : (apos.endLine == pos.line) = true)
    (hf : methodCallForm es.length (backTo pos (starEach es env)) [] = true) : eval (.Call (.Attribute o mn apos) es [] pos) env = (do
      let ov ← eval o env
      standAt apos.atName
      let (f, first) ← holding [ov] (getMethod ov mn (do return (← importBound o env).getD true))
      callWith pos f first (backTo pos (starEach es env)) (backToKw pos (keywordEach [] env))) := by
  show (do
    let ov ← attributeBase o mn env (eval o env)
    standAt apos.atName
    methodCall o mn apos pos env ov (es.length + 0) (backTo pos (starEach es env)) []) = _
  rw [attrBase h]
  unfold methodCall
  have hf' : methodCallForm (es.length + 0) (backTo pos (starEach es env)) [] = true := hf
  rw [hf']
  unfold calleeOf methodCallPos
  simp only [if_true, hl, Bool.not_true, Bool.false_or]
  rfl
end
end PI

set_option maxRecDepth 100000
set_option maxHeartbeats 1000000
/-! PI, part 11: methods, properties, own ==. -/
namespace PI
open PySem PySem.Spec PyProof.Rows L2
/-- a family of defs, each keeping what Φ tells -/
def PFs (m : Bool) (P : Program) (w : World) (K : PySem.W.Frag) (mg : Str → Option Value) (base : Heap) (G : Gam0) (k : Nat) (Φ : Nat → List D → Hh → R D) : Prop := ∀ g, PF m P w K mg base G k (G.fa g) (Φ g)
structure MethOk (K : PySem.W.Frag) (G : Gam0) (c mn g : Nat) : Prop where
  cls : Cls K (G.ca c)
  meth : Meth K (G.ca c) (G.nm mn) (G.fa g)
structure CMethOk (K : PySem.W.Frag) (G : Gam0) (c mn g : Nat) : Prop where
  met : ∃ mc p, ClX.CRead K (G.ca c) mc ∧ ClX.CMet K (G.ca c) mc (G.nm mn) p (G.fa g)
/-- which def is called: md of an instance's class, cm of a class -/
def selD (md cm : Nat → Option Nat) (mn : Nat) (x : D) (h : Hh) : Option Nat := match x with
  | .ref i => match h[i]? with
    | some (.ins c fs) => match fs.lookup mn with
      | none => md c
      | some _ => none
    | _ => none
  | .cls c => cm c
  | _ => none
section
variable {m : Bool} {X : Cx} {G : Gam} {W : WX} {k : Nat} {pos p apos : Pos} {es : List Expr} {fr : Ev → Hh → R (List D)} {x : Str} {o a b : Expr} {fo fa fb : Ev → Hh → R D}
def fMeth (m : Bool) (Φ : Nat → List D → Hh → R D) (md cm : Nat → Option Nat) (mn : Nat) (fo : Ev → Hh → R D) (fr : Ev → Hh → R (List D)) : Ev → Hh → R D := fun env h => (fo env h).bind fun x h1 => match selD md cm mn x h1 with
  | some g => (fr env h1).bind fun ds h2 => hotR m (Φ g (x :: ds) h2)
  | none => .bad
theorem se_meth {Φ : Nat → List D → Hh → R D} {md cm : Nat → Option Nat} {mn : Nat} (inj : ∀ i j, G.nm i = G.nm j → i = j) (ok : XOk m k W X) (pf : PFs m X.prog X.w X.K X.mg X.base G k Φ) (hmd : ∀ c g, md c = some g → MethOk X.K G c mn g) (hcm : ∀ c g, cm c = some g → CMethOk X.K G c mn g)
    (ho : SE X G W o fo) (hs : ArgsOk X.env es) (ha : SA X G W es fr) (h1 : nsup o = true) (h2 : (apos.endLine == pos.line) = true)
    (h3 : methodCallForm es.length (backTo pos (starEach es X.env)) [] = true) : SE X G W (.Call (.Attribute o (G.nm mn) apos) es [] pos) (fMeth m Φ md cm mn fo fr) := by
  intro pins s σ H ρ env h I r er hx
  generalize eq : fMeth m Φ md cm mn fo fr env h = rt at hx ⊢
  refine PySem.W.methodCall_KW (ho.then I r er eq hx fun x h1 u s1 v ρ1 H1 e1 I1 g1 r1 er1 ru dx hx1 => ?_) (eval_meth h1 h2 h3)
  split at e1
  · rename_i g eg
    unfold selD at eg
    split at eg
    · rename_i i
      obtain ⟨q, eq', rfl⟩ := dx
      obtain rfl : u = Value.ref q := ru
      split at eg
      · rename_i c fs eo
        obtain ⟨dd, gs, eH, qf⟩ := r1.at eq' eo
        split at eg
        · rename_i el
          have M := hmd c g eg
          refine getmeth_ok I1 eH M.cls M.meth (qf.none inj el) ?_
          refine cw_any (P := X.K.In) (first := [.ref q]) hs (PySem.W.keeps_K M.meth.kp) (ha.then I1 r1 er1 e1 hx1 fun ds h2 us s2 vs ρ2 H2 e2 I2 g2 r2 er2 rv qd hx2 => ⟨I2.kIn, ?_⟩)
          subst e2
          exact thn (run_pf (us := .ref q :: us) (vs := .ref q :: vs) ok (pf g) I2 r2 (.cons rfl rv) (RDs.cons (d := .ref i) ⟨q, g2.at eq', rfl⟩ qd) hx2) fun _ _ z => ep_gr (g1.trans g2) z
        · cases eg
      · cases eg
    · rename_i c
      obtain rfl : v = V.ref (G.ca c) := dx
      obtain rfl : u = Value.ref (G.ca c) := ru
      obtain ⟨mc, p, rd, cm'⟩ := (hcm c g eg).met
      refine ClX.getmethcm_ok I1 rd cm' fun s2 I2 => ?_
      refine cw_any (P := PySem.W.MethP X.K s1.heap.objs.size (G.fa g) (.ref (G.ca c))) (first := []) hs (PySem.W.keeps_M cm'.fi) (ha.then I2 r1 er1 e1 hx1 fun ds h2 us s3 vs ρ2 H2 e2 I3 g2 r2 er2 rv qd hx2 => ⟨⟨ClX.pin_at I3, I3.kIn⟩, ?_⟩)
      subst e2
      refine thn (wpAny_call (PySem.W.method_call (ClX.pin_at I3) (run_pfC (us := .ref (G.ca c) :: us) (vs := .ref (G.ca c) :: vs) ok (pf g) I3 r2 (.cons rfl rv) (RDs.cons (d := .cls c) rfl qd) hx2))) fun _ _ z => ?_
      exact ep_gr (g1.trans g2) (ClX.unpinE z)
    · cases eg
  · subst e1; exact hx1.elim

/-! ### fields, constants, properties -/
structure PropOk (K : PySem.W.Frag) (G : Gam0) (c f g : Nat) : Prop where
  cls : Cls K (G.ca c)
  prop : ∃ p, PropOf K (G.ca c) (G.nm f) p (G.fa g)
theorem RoomH.in1 {k : Nat} {A : Around} (r : L2H.RoomH (k + 1) A) : L2H.RoomH k A.in1 :=
  ⟨by have := r.dp; show A.depth + 3 * k + 5 < _; omega, by have := r.un; show A.units + 1 + 16 * k + 200 < _; omega⟩
theorem AM.in1 {A : Around} {outer : List Env} {H : Hp} {s : Shared} (a : AM m A outer H s) : AM m A.in1 outer H s := ⟨fun e => let ⟨p, h1, h2⟩ := a.1 e; ⟨p, ⟨h1.1, h1.2⟩, h2⟩, fun e => a.2 e⟩
/-- only an answer counts -/
def noX (r : R D) : R D := match r with
  | .ok d h => .ok d h
  | _ => .bad
theorem noX_ok {r : R D} {d : D} {h : Hh} (e : noX r = .ok d h) : r = .ok d h := by
  cases r <;> first | exact e | cases e
def attD (Φ : Nat → List D → Hh → R D) (isF : Nat → Bool) (con : Nat → Option D) (pr : Nat → Option Nat) (f : Nat) (x : D) (h : Hh) : R D := match x with
  | .ref i => match h[i]? with
    | some (.ins c fs) => match pr c with
      | some g => noX (Φ g [x] h)
      | none => fldD isF con f x h
    | _ => .bad
  | _ => .bad
def fAtt (Φ : Nat → List D → Hh → R D) (isF : Nat → Bool) (con : Nat → Option D) (pr : Nat → Option Nat) (f : Nat) (fa : Ev → Hh → R D) : Ev → Hh → R D := fun env h => (fa env h).bind (attD Φ isF con pr f)
/-- a call from within the library's code, at a place A of its own: an answer, or nothing is said -/
theorem run_in {g : Addr} {F : List D → Hh → R D} {A : Around} {pins : List (Addr × Obj)} {s : Shared} {σ : St} {H : Hp} {ρ : List Addr} {h h' : Hh} {ds : List D} {us : List Value} {vs : List V} {d : D} {R : Result → Shared → Prop} (hr : L2H.RoomH k A) (am : AM m A X.stack H s) (hfr : A.frames = X.A.frames) (pf : PF m X.prog X.w X.K X.mg X.base G k g F)
    (I : Inv X pins σ H s) (r : HR X.K G ρ H h) (rv : Vals vs us) (q : RDs X.K G ρ H ds vs) (e : F ds h = .ok d h') (hR : ∀ u s', EP X pins σ (QR X.K G ρ H (.ok d h')) u s' → R (.ok (.ret u)) s') :
    codeAny (model X.prog X.w) A (.call (.ref g) ⟨us, []⟩) R s := by
  have e0 : Env0 X.prog X.w X.K X.mg X.base A X.stack s H := by
    have e := I.env0
    exact ⟨by rw [hfr]; exact e.frames, e.mod, e.bs, e.bsz, e.funs, e.frf, e.hok, e.bare⟩
  refine codeAny_mono (pf A X.stack s H us vs ds ρ h (fun _ _ _ => False) hr am e0 rv r q (by rw [e]; trivial)) fun rr s' hq => ?_
  cases rr with
  | error er =>
    obtain ⟨a, B, H', cls, d, _, _, _, _, _, _, _, hE⟩ := hq
    exact hE.elim
  | ok fl =>
    cases fl with
    | ret u => exact hR u s' (by have z := I.after hq; rw [e] at z; exact z)
    | next => exact False.elim hq
    | brk => exact False.elim hq
    | cont => exact False.elim hq
theorem se_att {Φ : Nat → List D → Hh → R D} {isF : Nat → Bool} {con : Nat → Option D} {pr : Nat → Option Nat} {f : Nat} (inj : ∀ i j, G.nm i = G.nm j → i = j) (ok : XOk m (k + 1) W X) (pf : PFs m X.prog X.w X.K X.mg X.base G k Φ) (hF : ∀ c, isF c = true → FldOk X.K G c f) (hC : ∀ c d, con c = some d → ConOk X.K G c f d)
    (hP : ∀ c g, pr c = some g → PropOk X.K G c f g) (ha : SE X G W a fa) (hb : nsup a = true) : SE X G W (.Attribute a (G.nm f) pos) (fAtt Φ isF con pr f fa) := by
  intro pins s σ H ρ env h I r er hx
  generalize eq : fAtt Φ isF con pr f fa env h = rt at hx ⊢
  refine attr_of (attrBase hb) (ha.then I r er eq hx fun x h1 u s1 v ρ1 H1 e1 I1 g1 r1 er1 ru dx hx1 => ?_)
  unfold attD at e1
  split at e1
  · rename_i i
    split at e1
    · rename_i c fs eo
      split at e1
      · rename_i g ep
        obtain ⟨q, eq', rfl⟩ := dx
        obtain rfl : u = Value.ref q := ru
        obtain ⟨dd, gs, eH, qf⟩ := r1.at eq' eo
        have hP' := hP c g ep
        obtain ⟨p, hp⟩ := hP'.prop
        cases en : Φ g [.ref i] h1 with
        | ok d h2 =>
          rw [en] at e1
          subst e1
          obtain ⟨mA, O, _, _, _, _⟩ := ins_get I1.hok eH
          obtain ⟨od, J, _⟩ := O.look
          obtain ⟨rest, hrec⟩ := hp.rec_
          have I2 := I1.tok (s1.toks + 1)
          have hc : (PySem.W.clsIn X.K (G.ca c)).isSome = true := by
            obtain ⟨cd, hc, _⟩ := PySem.W.any_some hP'.cls.hd
            rw [hc]
            rfl
          refine PySem.W.get_bind I1.kIn J (PySem.W.plainGet_of (hP'.cls.get (G.nm f))).1 (PySem.W.findObj_data hc hp.at_ hp.get hp.tak) (PySem.W.plainGet_of (hP'.cls.get (G.nm f))).2 (wpAny_call (PySem.W.prop_get (s := { s1 with toks := s1.toks + 1 }) I1.kIn hrec ?_))
          refine run_in (us := [.ref q]) (vs := [.ref q]) (RoomH.in1 ok.room) (ok.am I2).in1 rfl (pf g) I2 r1 (.cons rfl .nil) (RDs.cons (d := .ref i) ⟨q, eq', rfl⟩ RDs.nil) en fun u s' z => ?_
          obtain ⟨v, H', I3, rv, q3⟩ := z
          show wpAny _ _ (handedOut u) _ _ _
          rw [PySem.W.handedOut_of (handed_of rv)]
          exact wpAny_pure ⟨v, H', I3, rv, q3.gr g1⟩
        | exc c' fs' h2 => rw [en] at e1; subst e1; exact hx1.elim
        | bad => rw [en] at e1; subst e1; exact hx1.elim
      · exact thn (fld_run inj hF hC e1 hx1 I1 r1 dx ru) fun _ _ q => ep_gr g1 q
    · subst e1; exact hx1.elim
  · subst e1; exact hx1.elim

/-! ### comparisons with own == -/
structure OwnOk (K : PySem.W.Frag) (G : Gam0) (c g : Nat) : Prop where
  at_ : PySem.W.findIn K (.ref (G.ca c)) "__eq__" = some (some (.ref (G.fa g)))
  fn : PySem.W.isFn K (.ref (G.fa g)) = true
  nf : ∀ c', PySem.W.notFirst K (G.ca c) (.ref (G.ca c')) = true
def insD (x : D) (h : Hh) : Option Nat := match x with
  | .ref i => match h[i]? with
    | some (.ins c _) => some c
    | _ => none
  | _ => none
end
end PI

set_option maxRecDepth 100000
set_option maxHeartbeats 1000000
/-! PI, part 12: x == y, x != y by a class's own __eq__. -/
namespace PI
open PySem PySem.Spec PyProof.Rows L2
section
open PySem.W Builtin
variable {prog : Program} {w : World} {A : Around} {E : Value → Shared → Prop} {s : Shared} {K : Frag} {x C f : Addr} {ox : Obj} {od : Option Obj}
theorem ne_bind (self : Value) : bindSpecial (.builtin "object.__ne__") self = pure (.builtin "object.__ne__", [self]) := by kernel_rfl
theorem ne_call {b : Value} {Q : Value → Shared → Prop} (hu : A.in1.units < cLine) (X : K.In s.heap) (I : InstAt s.heap x ox C od) (hm : mroIn K C (.type "object") = some true) (he : findIn K (.ref C) "__eq__" = some (some (.ref f))) (hf : isFn K (.ref f) = true)
    (h : wpAny (model prog w) A.in1 (call (.ref f) [.ref x, b]) (fun v s' => ∃ c, v = .bool c ∧ Q (.bool (!c)) s') E s) : wpAny (model prog w) A (call (.builtin "object.__ne__") [.ref x, b]) Q E s := by
  refine wpAny_call (codeAny_call_builtin PySem.F.cmp_object.ne.plain PySem.F.cmpEntry_ne (check_slot (i := "object.__ne__") (owner := "object") (n := "__ne__") PySem.F.cmpKind_ne PySem.F.cmpSplit_ne (I.type.andThen (looks_mroIn X hm)) (PySem.F.cmpArgs_ne _ _) ?_))
  unfold Builtin.«object.__ne__»
  refine wpAny_bind (m := slotArgs "__ne__" 1 _) (wpAny_pure ?_)
  refine wpAny_bind (m := cRoomFor _ _) (wpAny_cRoomFor hu ?_)
  refine wpAny_bind (m := callSpecialIfBound? (.ref x) (Str.ofString "__eq__") _) (ifBound_K X I he hf (wpAny_mono h (fun r s' hq => ?_) fun _ _ y => y))
  obtain ⟨c, rfl, hq⟩ := hq
  refine wpAny_bind (m := truthy (.bool c)) (wpAny_truthy_bool ?_)
  exact wpAny_pure hq
theorem cmp_Kne {tb : Value} {b : Value} {Q : Value → Shared → Prop} (hu : A.units + 1 < cLine) (X : K.In s.heap) (I : InstAt s.heap x ox C od) (hb : Looks (model prog w) s.heap (typeOf b) tb) (hn : notFirst K C tb = true) (hm : mroIn K C (.type "object") = some true)
    (hne : findIn K (.ref C) "__ne__" = some (some (.builtin "object.__ne__"))) (he : findIn K (.ref C) "__eq__" = some (some (.ref f))) (hf : isFn K (.ref f) = true)
    (h : wpAny (model prog w) A.in1 (call (.ref f) [.ref x, b]) (fun v s' => ∃ c, v = .bool c ∧ Q (.bool (!c)) s') E s) : wpAny (model prog w) A (richCompare .NotEq (.ref x) b) Q E s := by
  have hcall := ne_call (A := A) (Q := fun v s' => ∃ c, v = .bool c ∧ Q v s') (by show A.units + 1 < cLine; exact hu) X I hm he hf (wpAny_mono h (fun v s' hv => let ⟨c, e, q⟩ := hv; ⟨c, e, _, rfl, q⟩) fun _ _ e => e)
  have one : wpAny (model prog w) A (tryCompare (.ref x) (cmpInfo .NotEq).2.1 b) (fun r s' => ∃ v, r = some v ∧ Q v s') E s := by
    unfold tryCompare
    have inner : wpAny (model prog w) A (callSpecialIfBound? (.ref x) (cmpInfo .NotEq).2.1 [b]) (fun r s' => ∃ c, r = some (Value.bool c) ∧ Q (.bool c) s') E s := by
      simp only [callSpecialIfBound?, bindSpecialIfBound?]
      refine wpAny_holding (wpAny_bind (wpAny_bind (wpAny_bind (I.type.here ((looks_findIn X hne).here ?_)))))
      refine wpAny_bind (wpAny_askSetting (wpAny_ite ?_))
      have fin : wpAny (model prog w) A (call (.builtin "object.__ne__") ([.ref x] ++ [b]) >>= fun v => pure (some v)) (fun r s' => ∃ c, r = some (Value.bool c) ∧ Q (.bool c) s') E s := wpAny_bind (wpAny_mono hcall (fun v s' ⟨c, e, q⟩ => wpAny_pure ⟨c, by rw [e], by rw [← e]; exact q⟩) fun _ _ h' => h')
      have L : Looks (model prog w) s.heap (bindSpecial (.builtin "object.__ne__") (.ref x)) (.builtin "object.__ne__", [.ref x]) := Looks.of_pure (ne_bind _)
      split
      · exact wpAny_bind (L.here (wpAny_pure (by exact fin)))
      · exact wpAny_tryCatch (wpAny_bind (L.here (wpAny_pure (by exact fin))))
    refine wpAny_bind (wpAny_mono inner (fun r s' hr => ?_) fun _ _ e => e)
    obtain ⟨c, rfl, q⟩ := hr
    exact wpAny_pure ⟨_, rfl, q⟩
  unfold richCompare
  simp only [oneThing_ref]
  refine wpAny_holding (wpAny_bind (wpAny_cRoomFor (Nat.lt_of_succ_lt hu) ?_))
  refine wpAny_bind (I.type.here (wpAny_bind (hb.here ?_)))
  split
  · rename_i q
    have e : subIn K tb (.ref C) = some false := by
      rcases Bool.or_eq_true_iff.mp hn with e | e
      · rw [beq_iff_eq.mp e] at q; simp at q
      · exact beq_iff_eq.mp e
    refine wpAny_bind ((looks_subIn X e).here ?_)
    simp only [Bool.false_eq_true, if_false]
    refine wpAny_bind (wpAny_mono one (fun r s' z => ?_) fun _ _ e => e)
    obtain ⟨v, rfl, hq⟩ := z
    exact wpAny_pure hq
  · refine wpAny_bind (wpAny_pure ?_)
    simp only [Bool.false_eq_true, if_false]
    refine wpAny_bind (wpAny_mono one (fun r s' z => ?_) fun _ _ e => e)
    obtain ⟨v, rfl, hq⟩ := z
    exact wpAny_pure hq
end
/-- what == and != of the class c want: its own __eq__ (def g) -/
structure OwnNe (K : PySem.W.Frag) (G : Gam0) (c g : Nat) : Prop extends OwnOk K G c g where
  ob : PySem.W.mroIn K (G.ca c) (.type "object") = some true
  ne : PySem.W.findIn K (.ref (G.ca c)) "__ne__" = some (some (.builtin "object.__ne__"))
/-- the answer of an own == -/
def eqAns (neg : Bool) (r : R D) : R D := match r with
  | .ok (.bl b) h => .ok (.bl (if neg then !b else b)) h
  | _ => .bad
def cmpO (ow : Nat → Option Nat) (Φ : Nat → List D → Hh → R D) (op : Cop) (x y : D) (h : Hh) : R D := match op, (insD x h).bind ow, insD y h with
  | .eq, some g, some _ => eqAns false (Φ g [x, y] h)
  | .ne, some g, some _ => eqAns true (Φ g [x, y] h)
  | op, none, _ => cmpD op x y h
  | _, _, _ => cmpD op x y h
section
variable {m : Bool} {X : Cx} {G : Gam} {W : WX} {k : Nat}
theorem cmpO_exc {ow : Nat → Option Nat} {Φ : Nat → List D → Hh → R D} {op : Cop} {x y : D} {h h' : Hh} {c : Nat} {fs : List (Nat × D)} : cmpO ow Φ op x y h ≠ .exc c fs h' := by
  have e1 : ∀ neg r, eqAns neg r ≠ .exc c fs h' := by
    intro neg r
    unfold eqAns
    split <;> intro z <;> cases z
  unfold cmpO
  split
  · exact e1 _ _
  · exact e1 _ _
  · exact cmp_exc
  · exact cmp_exc
theorem insD_at {x : D} {h : Hh} {c : Nat} (e : insD x h = some c) : ∃ i fs, x = .ref i ∧ h[i]? = some (.ins c fs) := by
  unfold insD at e
  split at e
  · rename_i i
    split at e
    · rename_i c' fs eo
      cases e
      exact ⟨i, fs, rfl, eo⟩
    · cases e
  · cases e
theorem cmpO_ok {ow : Nat → Option Nat} {Φ : Nat → List D → Hh → R D} {op : Cop} {pins : List (Addr × Obj)} {s : Shared} {σ : St} {H : Hp} {ρ : List Addr} {h h' : Hh} {x y d : D} {a b : V} {u w : Value} (ok : XOk m (k + 1) W X) (pf : PFs m X.prog X.w X.K X.mg X.base G k Φ) (how : ∀ c g, ow c = some g → OwnNe X.K G c g)
    (e : cmpO ow Φ op x y h = .ok d h') (I : Inv X pins σ H s) (r : HR X.K G ρ H h) (rx : RD X.K G ρ H x a) (ry : RD X.K G ρ H y b) (ru : RelV a u) (rw' : RelV b w) :
    wpAny (model X.prog X.w) X.A (compareOp op.op u w) (EP X pins σ (QR X.K G ρ H (.ok d h'))) X.xe s := by
  have plain : cmpD op x y h = .ok d h' → wpAny (model X.prog X.w) X.A (compareOp op.op u w) (EP X pins σ (QR X.K G ρ H (.ok d h'))) X.xe s := fun e' => cmp_ok (by have := ok.room.un; omega) e' I r rx ry ru rw'
  have own : ∀ g c2, (insD x h).bind ow = some g → insD y h = some c2 → ∃ i j p q dd dd2 gs gs2 c1, x = .ref i ∧ y = .ref j ∧ a = .ref p ∧ b = .ref q ∧ H p = some (.ins (G.ca c1) dd gs) ∧ H q = some (.ins (G.ca c2) dd2 gs2) ∧ OwnNe X.K G c1 g := by
    intro g c2 e1 e2
    cases e3 : insD x h with
    | none => rw [e3] at e1; cases e1
    | some c1 =>
      rw [e3] at e1
      obtain ⟨i, fs, rfl, eo⟩ := insD_at e3
      obtain ⟨j, fs2, rfl, eo2⟩ := insD_at e2
      obtain ⟨p, ep, rfl⟩ := rx
      obtain ⟨q, eq', rfl⟩ := ry
      obtain ⟨dd, gs, eH, _⟩ := r.at ep eo
      obtain ⟨dd2, gs2, eH2, _⟩ := r.at eq' eo2
      exact ⟨i, j, p, q, dd, dd2, gs, gs2, c1, rfl, rfl, rfl, rfl, eH, eH2, how c1 g e1⟩
  unfold cmpO at e
  split at e
  · rename_i g c2 e1 e2
    obtain ⟨i, j, p, q, dd, dd2, gs, gs2, c1, rfl, rfl, rfl, rfl, eH, eH2, O⟩ := own g c2 e1 e2
    obtain rfl : u = Value.ref p := ru
    obtain rfl : w = Value.ref q := rw'
    cases en : Φ g [.ref i, .ref j] h with
    | ok d2 h2 =>
      rw [en] at e
      cases d2 with
      | bl t =>
        cases e
        obtain ⟨mA, J, _⟩ := ins_get I.hok eH
        obtain ⟨mB, J', _⟩ := ins_get I.hok eH2
        obtain ⟨od, J, _⟩ := J.look
        obtain ⟨od', J', _⟩ := J'.look
        obtain ⟨mm, hF⟩ := I.fr
        show wpAny _ _ (richCompare .Eq (.ref p) (.ref q)) _ _ _
        refine PySem.W.cmp_K (op := .Eq) (tb := .ref (G.ca c2)) (by have := ok.room.un; omega) hF I.ok.mod.kin J J'.type (O.nf c2) O.at_ O.fn ?_
        refine wpAny_call (run_in (us := [.ref p, .ref q]) (vs := [.ref p, .ref q]) (ok.room.mono (Nat.le_succ k)) (ok.am I) rfl (pf g) I r (.cons rfl (.cons rfl .nil)) (RDs.cons rx (RDs.cons ry RDs.nil)) en fun u' s' z => ?_)
        obtain ⟨v, H', I3, rv, q3⟩ := z
        have q3' := q3
        obtain ⟨ρ', g', r', d'⟩ := q3
        obtain rfl : v = .bl t := d'
        obtain rfl : u' = Value.bool t := rv
        exact ⟨.bl t, H', I3, rfl, q3'⟩
      | _ => cases e
    | exc c' fs' h2 => rw [en] at e; cases e
    | bad => rw [en] at e; cases e
  · rename_i g c2 e1 e2
    obtain ⟨i, j, p, q, dd, dd2, gs, gs2, c1, rfl, rfl, rfl, rfl, eH, eH2, O⟩ := own g c2 e1 e2
    obtain rfl : u = Value.ref p := ru
    obtain rfl : w = Value.ref q := rw'
    cases en : Φ g [.ref i, .ref j] h with
    | ok d2 h2 =>
      rw [en] at e
      cases d2 with
      | bl t =>
        cases e
        obtain ⟨mA, J, _⟩ := ins_get I.hok eH
        obtain ⟨mB, J', _⟩ := ins_get I.hok eH2
        obtain ⟨od, J, _⟩ := J.look
        obtain ⟨od', J', _⟩ := J'.look
        show wpAny _ _ (richCompare .NotEq (.ref p) (.ref q)) _ _ _
        refine cmp_Kne (tb := .ref (G.ca c2)) (by have := ok.room.un; omega) I.kIn J J'.type (O.nf c2) O.ob O.ne O.at_ O.fn ?_
        refine wpAny_call (run_in (us := [.ref p, .ref q]) (vs := [.ref p, .ref q]) (RoomH.in1 ok.room) (ok.am I).in1 rfl (pf g) I r (.cons rfl (.cons rfl .nil)) (RDs.cons rx (RDs.cons ry RDs.nil)) en fun u' s' z => ?_)
        obtain ⟨v, H', I3, rv, ρ', g', r', d'⟩ := z
        obtain rfl : v = .bl t := d'
        obtain rfl : u' = Value.bool t := rv
        exact ⟨t, rfl, .bl (!t), H', I3, rfl, ρ', g', r', rfl⟩
      | _ => cases e
    | exc c' fs' h2 => rw [en] at e; cases e
    | bad => rw [en] at e; cases e
  · exact plain e
  · exact plain e

variable {pos : Pos} {ea eb : Expr} {fa fb : Ev → Hh → R D}
def fCmpO (ow : Nat → Option Nat) (Φ : Nat → List D → Hh → R D) (op : Cop) (fa fb : Ev → Hh → R D) : Ev → Hh → R D := fun env h => (fa env h).bind fun x h1 => (fb env h1).bind fun y h2 => cmpO ow Φ op x y h2
theorem se_cmpO {ow : Nat → Option Nat} {Φ : Nat → List D → Hh → R D} {op : Cop} (ok : XOk m (k + 1) W X) (pf : PFs m X.prog X.w X.K X.mg X.base G k Φ) (how : ∀ c g, ow c = some g → OwnNe X.K G c g) (hm : behindInMarks op.op eb = false) (ha : SE X G W ea fa) (hb : SE X G W eb fb) :
    SE X G W (.Compare ea [op.op] [eb] pos) (fCmpO ow Φ op fa fb) := by
  intro pins s σ H ρ env h I r er hx
  generalize eq : fCmpO ow Φ op fa fb env h = rt at hx ⊢
  refine wpAny_Compare1 (ha.then I r er eq hx fun x h1 u s1 v ρ1 H1 e1 I1 g1 r1 er1 ru dx hx1 => hb.then I1 r1 er1 e1 hx1 fun y h2 w s2 v2 ρ2 H2 e2 I2 g2 r2 er2 rw2 dy hx2 => ?_) hm
  cases rt with
  | ok d h' => exact thn (cmpO_ok ok pf how e2 I2 r2 (RD.gr g2 x v dx) dy ru rw2) fun _ _ q => ep_gr (g1.trans g2) q
  | exc c fs h' => exact (cmpO_exc e2).elim
  | bad => exact hx2.elim
theorem st_cmpO {ow : Nat → Option Nat} {Φ : Nat → List D → Hh → R D} {op : Cop} {wh : Sem Value} (ok : XOk m (k + 1) W X) (pf : PFs m X.prog X.w X.K X.mg X.base G k Φ) (how : ∀ c g, ow c = some g → OwnNe X.K G c g) (hm : behindInMarks op.op eb = false) (ha : SE X G W ea fa) (hb : SE X G W eb fb) :
    STw X G W (.Compare ea [op.op] [eb] pos) wh (tTru (fCmpO ow Φ op fa fb)) := by
  intro pins s σ H ρ env h I r er hx
  generalize eq : tTru (fCmpO ow Φ op fa fb) env h = rt at hx ⊢
  unfold tTru fCmpO at eq
  rw [bind_assoc] at eq
  refine wpAny_isTrue_Compare1 (ha.then I r er eq hx fun x h1 u s1 v ρ1 H1 e1 I1 g1 r1 er1 ru dx hx1 => ?_) hm
  rw [bind_assoc] at e1
  refine hb.then I1 r1 er1 e1 hx1 fun y h2 w s2 v2 ρ2 H2 e2 I2 g2 r2 er2 rw2 dy hx2 => ?_
  cases e4 : cmpO ow Φ op x y h2 with
  | ok d h' =>
    rw [e4] at e2
    refine thn (cmpO_ok ok pf how e4 I2 r2 (RD.gr g2 x v dx) dy ru rw2) fun cv s3 q => ?_
    obtain ⟨t, H3, I3, rt3, ρ3, g3, r3, d3⟩ := q
    exact thn (tru_run e2 (ExcOk.gr g3 hx2) I3 r3 d3 rt3) fun _ _ q => tp_gr ((g1.trans g2).trans g3) q
  | exc c fs h' => exact (cmpO_exc e4).elim
  | bad => rw [e4] at e2; rw [← e2] at hx2; exact hx2.elim
end
end PI

set_option maxRecDepth 100000
set_option maxHeartbeats 1000000
/-! PI, part 13: own exceptions: their __init__, raise. -/
namespace PI
open PySem PySem.Spec PyProof.Rows L2
/-- the base class that keeps ValueError's __init__ (DeedError) -/
structure BaseOk (K : PySem.W.Frag) (mg : Str → Option Value) (bn : Str) (B : Addr) : Prop where
  gB : mg bn = some (.ref B)
  rd : ∃ mc, ClX.CRead K B mc ∧ PySem.W.findCls K (.ref B) mc "__init__" = some (.val (.builtin "ValueError.__init__"))
/-- self.f = a, .. : the stores of an exception's __init__; fs: field, its name's slot -/
def stores (N : List Str) (sc : Scope) : List (Str × Nat) → List Stmt → Bool
  | [], [] => true
  | (f, i) :: r, .Assign [.Attribute (.Name x _) g _] (.Name y _) _ :: sts => x == (N.getD 0 "") && g == f && (match N[i]? with | some z => y == z && sc.names.lookup y == some .local && y != "__debug__" && y != "__classdict__" | none => false) && stores N sc r sts
  | _, _ => false
/-- BASE.__init__(self, 'text'), then the stores -/
def xinit (bn : Str) (N : List Str) (sc : Scope) (fs : List (Str × Nat)) : List Stmt → Bool
  | .Expr (.Call (.Attribute (.Name b _) i p2) [.Name x _, .Constant (.str _) _ _] [] pos) _ :: sts => b == bn && i == "__init__" && x == (N.getD 0 "") && (p2.endLine == pos.line) && sc.names.lookup b == some .globalImplicit && b != "__debug__" && b != "super" && stores N sc fs sts
  | _ => false
def tSts (K : PySem.W.Frag) : List (Str × Nat) → TS
  | [] => tNext
  | (f, i) :: r => tSeq (tOst K f (tVar 0) (tVar i)) (tSts K r)
section
variable {X : Cx}
theorem stores_ok {N : List Str} {sc : Scope} (hN : X.N = N) (hsc : X.env.scope = sc) (h0 : ∃ z, N[0]? = some z ∧ sc.names.lookup z = some .local ∧ (z == ("__debug__" : Str)) = false ∧ (z == ("__classdict__" : Str)) = false) : ∀ (fs : List (Str × Nat)) (sts : List Stmt), stores N sc fs sts = true → PSs X sts (tSts X.K fs)
  | [], [], _ => pss_nil
  | [], _ :: _, e => by cases e
  | (f, i) :: r, [], e => by cases e
  | (f, i) :: r, st :: sts, e => by
    unfold stores at e
    split at e
    · rename_i h1 _; cases h1
    · rename_i x _ g _ y _ _ sts' h1 h2
      cases h2
      cases h1
      rw [Bool.and_eq_true, Bool.and_eq_true, Bool.and_eq_true] at e
      obtain ⟨⟨⟨e1, e2⟩, e3⟩, e4⟩ := e
      obtain ⟨z, z1, z2, z3, z4⟩ := h0
      have hx : x = z := by
        have := beq_iff_eq.mp e1
        rw [this, List.getD_eq_getElem?_getD, z1]
        rfl
      subst hx
      have hg : g = f := beq_iff_eq.mp e2
      subst hg
      split at e3
      · rename_i w ew
        rw [Bool.and_eq_true, Bool.and_eq_true, Bool.and_eq_true] at e3
        obtain ⟨⟨⟨a1, a2⟩, a3⟩, a4⟩ := e3
        have hy : y = w := beq_iff_eq.mp a1
        subst hy
        have ly : sc.names.lookup y = some .local := beq_iff_eq.mp a2
        refine pss_cons (ps_ost (pe_var (i := 0) (by rw [hN]; exact z1) (.inl (by rw [hsc]; exact z2)) z3 z4) (pe_var (i := i) (by rw [hN]; exact ew) (.inl (by rw [hsc]; exact ly)) (by simpa using a3) (by simpa using a4)) rfl) ?_
        exact stores_ok hN hsc ⟨_, z1, z2, z3, z4⟩ r sts e4
      · cases e3
    · cases e
/-- BASE.__init__(self, ..) -/
theorem pe_binit {bn : Str} {B : Addr} {e : Expr} {es : List Expr} {ta : TA} {p1 p2 pos : Pos} (T : BaseOk X.K X.mg bn B) (hg : Gl X bn) (hd : (bn == ("__debug__" : Str)) = false) (ha : PA X (e :: es) ta) (hl : (p2.endLine == pos.line) = true)
    (hf : methodCallForm (e :: es).length (backTo pos (starEach (e :: es) X.env)) [] = true) (he : starEach (e :: es) X.env = (false, eval e X.env) :: starEach es X.env) (hpl : (backTo pos (starEach es X.env)).any (·.1) = false) :
    PE X (.Call (.Attribute (.Name bn p1) "__init__" p2) (e :: es) [] pos) (tVeI X.K ta) := by
  refine ⟨fun pins s σ H Q I h => ?_⟩
  obtain ⟨mc, rd, fc⟩ := T.rd
  refine PySem.W.methodCall_KW (ld_glob I hg T.gB ?_ hd) (eval_meth rfl hl hf)
  refine PySem.W.method_cls I.kIn rd.ga (PySem.W.cls_value I.kIn rd.rd fc (by rfl) ?_)
  show wpAny _ _ (callWith pos (Value.builtin "ValueError.__init__") [] (backTo pos (starEach (e :: es) X.env)) []) _ _ _
  refine PyProof.Rows.callWith_method1 (thn (ha.run pos pins _ σ H _ (I.tok _) h) fun us s1 ⟨vs, H1, I1, r1, a, C, ws, ev, hl, T, ea, q⟩ => ?_) he hpl
  subst ev
  cases r1 with
  | @cons _ u0 _ ur ra rw' =>
    obtain rfl : u0 = Value.ref a := ra
    have hlen : ur.length ≤ sizeLine := by
      rw [← Paired.length rw', sizeLine_eq]
      omega
    exact oinit_ok T I1 ea hlen fun s' J => ⟨.non, H1, J, rfl, q⟩
end
/-- the fields that the stores leave, the last one first -/
def flds (vs : List V) (fs : List (Str × Nat)) : Option (List (Str × V)) := fs.foldlM (fun acc p => (vs[p.2]?).map fun v => (p.1, v) :: acc) []
/-- an exception class with its own __init__ -/
structure XcOk (K : PySem.W.Frag) (C fI : Addr) : Prop where
  oex : OexC K C
  iC : PySem.W.findIn K (.ref C) "__init__" = some (some (.ref fI))
  tI : PySem.W.typeIn K (.ref fI) = some (.type "function")
/-- the __init__'s stores, read -/
theorem tSts_run {K : PySem.W.Frag} {C a : Addr} {vs : List V} {σ : St} (T : OexC K C) (hs : ∀ (i : Nat) (v : V), vs[i]? = some v → σ[i]? = some (some v)) (h0 : vs[0]? = some (.ref a)) : ∀ (fs : List (Str × Nat)) (H : Hp) (acc r : List (Str × V)) (D : Ends) (d : Addr) (H0 : Hp),
    d ≠ a → (∀ p ∈ fs, PySem.W.findIn K (.ref C) p.1 = some none) → acc.length + fs.length ≤ 900 → H a = some (exo a C (some d)) → H d = some (exd d acc) → (∀ b, b ≠ a → b ≠ d → H b = H0 b) → fs.foldlM (fun acc p => (vs[p.2]?).map fun v => (p.1, v) :: acc) acc = some r →
    (∀ H', H' a = some (exo a C (some d)) → H' d = some (exd d r) → (∀ b, b ≠ a → b ≠ d → H' b = H0 b) → D.nx σ H') → tSts K fs D σ H
  | [], H, acc, r, D, d, H0, _, _, _, ea, ed, hb, e, k => by
    have e' : acc = r := Option.some.inj e
    subst e'
    exact k H ea ed hb
  | (f, i) :: fs, H, acc, r, D, d, H0, hda, hno, hl, ea, ed, hb, e, k => by
    rw [List.foldlM_cons] at e
    cases ev : vs[i]? with
    | none => rw [ev] at e; cases e
    | some v =>
      rw [ev] at e
      refine ⟨v, hs i v ev, .ref a, hs 0 _ h0, a, C, rfl, T, hno (f, i) List.mem_cons_self, .inr ⟨d, acc, ea, ed, by simp at hl; omega, ?_⟩⟩
      refine tSts_run T hs h0 fs _ ((f, v) :: acc) r D d H0 hda (fun p hp => hno p (List.mem_cons_of_mem _ hp)) (by simp at hl ⊢; omega) ?_ upd_same (fun b h1 h2 => ?_) e k
      · rw [upd_ne (Ne.symm hda)]
        exact ea
      · rw [upd_ne h2]
        exact hb b h1 h2

/-- what is known of an exception's class: its __init__'s text, its fields -/
structure XcTxt (K : PySem.W.Frag) (mg : Str → Option Value) (C fI : Addr) (bn : Str) (B : Addr) (nps : Nat) (fs : List (Str × Nat)) : Prop where
  xc : XcOk K C fI
  base : BaseOk K mg bn B
  no : ∀ p ∈ fs, PySem.W.findIn K (.ref C) p.1 = some none
  fn : ∃ (oc : Value) (od : Option Addr) (osl : Array (Option Value)) (name qual : Str) (params : Arguments) (body : List Stmt) (scope : Scope) (dV kV doc pm cdv ct : Value) (an : Option Addr) (N : List Str),
    K.lookup fI = some ⟨oc, od, .func (PySem.W.fnOf name qual params body scope dV kV doc pm an cdv ct), osl⟩ ∧ PySem.W.codeIn K cdv qual = true ∧ FnScope N N scope ∧ N.length = nps + 1 ∧ xinit bn N scope fs body = true ∧ Binds K (PySem.W.fnOf name qual params body scope dV kV doc pm an cdv ct) N [] ∧
    (∃ z, N[0]? = some z ∧ scope.names.lookup z = some .local ∧ (z == ("__debug__" : Str)) = false ∧ (z == ("__classdict__" : Str)) = false)
/-- its __init__'s promise -/
def spX (K : PySem.W.Frag) (C : Addr) (n : Nat) (fs : List (Str × Nat)) : Sp := fun vs H Q _ => ∃ (a : Addr) (ws : List V) (r : List (Str × V)), vs = .ref a :: ws ∧ ws.length = n ∧ H a = some (exo a C none) ∧ flds vs fs = some r ∧
  (fs = [] → Q .non H) ∧ (fs ≠ [] → ∀ H' d, H d = none → H' a = some (exo a C (some d)) → H' d = some (exd d r) → (∀ b, b ≠ a → b ≠ d → H' b = H b) → Q .non H')
section
variable {P : Program} {w : World} {K : PySem.W.Frag} {mg : Str → Option Value} {base : Heap} {C fI B : Addr} {bn : Str} {n : Nat} {fs : List (Str × Nat)}
theorem start_at {N : List Str} {vs : List V} {i : Nat} {v : V} (e : vs[i]? = some v) : (L2.start N vs)[i]? = some (some v) := by
  have hl := (List.getElem?_eq_some_iff.mp e).1
  unfold L2.start
  rw [List.getElem?_append_left (by simpa using hl), List.getElem?_map, e]
  rfl
theorem xinit_ok {CX : CXT} {k : Nat} (T : XcTxt K mg C fI bn B n fs) (hlen : fs.length ≤ 800) : ∃ fd ps, FnOk P w K mg base CX (k + 1) fI fd ps (spX K C n fs) ∧ Binds K fd ps [] := by
  obtain ⟨oc, od, osl, name, qual, params, body, scope, dV, kV, doc, pm, cdv, ct, an, N, lk, hcd, S, hn, hx, hb, z, z1, z2, z3, z4⟩ := T.fn
  refine ⟨_, N, fn_of (sp := spX K C n fs) lk hcd S (fun vs H Q E h => ?_) (fun A outer s H vs Q E hr h => ?_), hb⟩
  · obtain ⟨a, ws, r, rfl, hl, _⟩ := h
    rw [List.length_cons, hl, hn]
  · unfold xinit at hx
    split at hx
    · rename_i b p1 i p2 x p3 t j p4 pos pp sts
      rw [Bool.and_eq_true, Bool.and_eq_true, Bool.and_eq_true, Bool.and_eq_true, Bool.and_eq_true, Bool.and_eq_true, Bool.and_eq_true] at hx
      obtain ⟨⟨⟨⟨⟨⟨⟨e1, e2⟩, e3⟩, e4⟩, e5⟩, e6⟩, e7⟩, e8⟩ := hx
      have hbn : b = bn := beq_iff_eq.mp e1
      have hi : i = "__init__" := beq_iff_eq.mp e2
      have hxz : x = z := by
        have := beq_iff_eq.mp e3
        rw [this, List.getD_eq_getElem?_getD, z1]
        rfl
      subst hbn hi hxz
      have hgl : Gl (cxOf CX P w K mg base N qual scope fI cdv A outer s H E) b := beq_iff_eq.mp e5
      refine ⟨_, pss_cons (ps_expr (pe_binit T.base hgl (by simpa using e6) (pa_cons (pe_var (i := 0) z1 (.inl z2) z3 z4) (pa_cons pe_str pa_nil rfl) rfl) e4 rfl rfl rfl) rfl) (stores_ok rfl rfl ⟨_, z1, z2, z3, z4⟩ fs sts e8), ?_⟩
      obtain ⟨a, ws, r, rfl, hl, ea, hf, k0, k1⟩ := h
      have h0 : (V.ref a :: ws)[0]? = some (.ref a) := rfl
      refine ⟨.ref a, start_at h0, a, C, _, rfl, by simp, T.xc.oex, ea, ?_⟩
      have hs : ∀ (i : Nat) (v : V), (V.ref a :: ws)[i]? = some v → (L2.start N (V.ref a :: ws))[i]? = some (some v) := fun i v e => start_at e
      show tSts K fs _ _ _
      cases fs with
      | nil => exact k0 rfl
      | cons p fs' =>
        obtain ⟨f, i⟩ := p
        have hf' : (((V.ref a :: ws)[i]?).map fun v => [(f, v)]).bind (fun acc => fs'.foldlM (fun acc p => ((V.ref a :: ws)[p.2]?).map fun v => (p.1, v) :: acc) acc) = some r := hf
        cases ev : (V.ref a :: ws)[i]? with
        | none => rw [ev] at hf'; cases hf'
        | some v =>
          rw [ev] at hf'
          refine ⟨v, hs i v ev, .ref a, hs 0 _ h0, a, C, rfl, T.xc.oex, T.no (f, i) List.mem_cons_self, .inl ⟨ea, fun dx hdn hda => ?_⟩⟩
          refine tSts_run T.xc.oex hs h0 fs' _ [(f, v)] r _ dx H hda (fun p hp => T.no p (List.mem_cons_of_mem _ hp)) (by simp at hlen ⊢; omega) upd_same ?_ (fun b h1 h2 => by rw [upd_ne h1, upd_ne h2]) hf' fun H' ha hd hb => k1 (by simp) H' dx hdn ha hd hb
          rw [upd_ne hda]
          exact upd_same
    · cases hx
end

/-! ### raise -/
section
variable {X : Cx} {C : Addr}
/-- the end of C(), no field stored -/
theorem mk_endN {pins : List (Addr × Obj)} {σ : St} {H1 H2 : Hp} {hp hp2 h2 : Heap} {g1 g2 : Array GenState} {d1 d2 : Drawn} {t1 t2 : Nat} {os1 os2 : OsState} {a : Addr} (I1 : Inv X pins σ H1 ⟨hp, g1, d1, t1, os1⟩)
    (ha : hp.objs.size ≤ a) (k : ∀ b o, hp.get? b = some o → hp2.get? b = some o) (un : Un (frs X.stack) [] (upd H1 a (exo a C none)) H2 hp2 h2) (hok : HOk X.prog X.w H2 h2) (ho : os2 = os1) (hb : AllBare g2) (ea : H2 a = some (exo a C none)) :
    ∃ (t0 : Addr) (G : Heap), Inv X pins σ (del H2 a) ⟨G, g2, d2, t2, os2⟩ ∧ (∀ b o, G.get? b = some o → h2.get? b = some o) ∧ G.get? a = none ∧
      h2.get? a = some ({ cls := .ref C, dict := none, data := .fields #[.ref t0, .none, .none, .none, .bool false, .none] } : Obj) ∧ (del H2 a) a = none := by
  obtain ⟨t0, hoe⟩ := exo_at hok ea
  have hn : H1 a = none := I1.hok.fresh ha
  obtain ⟨G, g1', g2'⟩ := restrict h2 fun b => decide (b ≠ a)
  have gk : ∀ b, b ≠ a → G.get? b = h2.get? b := fun b hb => g1' b (decide_eq_true hb)
  have ge : G.get? a = none := g2' a (by simp)
  have nha : ∀ {b : Addr} {o : Obj}, hp.get? b = some o → b ≠ a := fun {b o} z => Nat.ne_of_lt (Nat.lt_of_lt_of_le (Heap.lt_size z) ha)
  have up : ∀ {b : Addr}, b ≠ a → H1 b = none → upd H1 a (exo a C none) b = none := fun {b} hb n => by rw [upd_ne hb]; exact n
  have U : Un (frs X.stack) [] H1 (del H2 a) hp G := {
    keep := fun b o z n hf hx => by
      rw [gk b (nha z)]
      exact un.keep b o (k b o z) (up (nha z) n) hf hx
    slot := fun b o z n hf hx => by
      rw [gk b (nha z)]
      exact un.slot b o (k b o z) (up (nha z) n) hf hx
    free := fun b o z n hx => by
      rw [del_ne (nha z)]
      exact un.free b o (k b o z) (up (nha z) n) hx
    there := fun b o z hx => by
      rw [gk b (nha z)]
      exact un.there b o (k b o z) hx
    tups := fun b xs z => by
      rw [del_ne (ne_of_none z hn)]
      exact un.tups b xs (by rw [upd_ne (ne_of_none z hn)]; exact z)
    frzs := fun b o v z => by
      rw [del_ne (ne_of_none z hn)]
      exact un.frzs b o v (by rw [upd_ne (ne_of_none z hn)]; exact z)
    tbls := fun b ps z => by
      rw [del_ne (ne_of_none z hn)]
      exact un.tbls b ps (by rw [upd_ne (ne_of_none z hn)]; exact z) }
  have hok3 : HOk X.prog X.w (del H2 a) G := fun b o z => by
    have hba : b ≠ a := fun e => by
      rw [e, del_same] at z
      cases z
    rw [del_ne hba] at z
    have noa : ∀ {c : Addr}, H2 c = some (.own b) → c ≠ a := fun {c} hc => at_ne ea hc exo_own
    exact (hok b o z).stay (fun c v hc y => by
        have hca : c ≠ a := by
          rcases hc with hc | hc
          · rw [hc]
            exact hba
          · exact noa hc
        rw [gk c hca]
        exact y)
      (fun c hc => by rw [del_ne (noa hc)]; exact hc) (fun c xs hc => by rw [del_ne (at_ne ea hc exo_tup)]; exact hc)
  have J : Inv X pins σ (del H2 a) ⟨G, g2, d2, t2, os2⟩ := I1.call' (ch := []) ho U hok3 hb (fun b z => absurd z (by simp))
  refine ⟨t0, G, J, fun b o z => ?_, ge, hoe, del_same⟩
  by_cases hba : b = a
  · rw [hba, ge] at z
    cases z
  · exact (gk b hba).symm.trans z
end
def xfl (ds : List D) (fs : List (Nat × Nat)) : Option (List (Nat × D)) := fs.foldlM (fun acc p => (ds[p.2]?).map fun d => (p.1, d) :: acc) []
theorem xfl_ok {K : PySem.W.Frag} {G : Gam0} {ρ : List Addr} {H : Hp} {ds : List D} {vs : List V} {v0 : V} (q : RDs K G ρ H ds vs) : ∀ (fs : List (Nat × Nat)) (acc l : List (Nat × D)) (acc' : List (Str × V)), RFs K G ρ H acc acc' → fs.foldlM (fun acc p => (ds[p.2]?).map fun d => (p.1, d) :: acc) acc = some l →
    ∃ r, (fs.map fun p => (G.nm p.1, p.2 + 1)).foldlM (fun acc p => ((v0 :: vs)[p.2]?).map fun v => (p.1, v) :: acc) acc' = some r ∧ RFs K G ρ H l r
  | [], acc, l, acc', h, e => by
    have e' : acc = l := Option.some.inj e
    subst e'
    exact ⟨acc', rfl, h⟩
  | (f, i) :: fs, acc, l, acc', h, e => by
    rw [List.foldlM_cons] at e
    cases ed : ds[i]? with
    | none => rw [ed] at e; cases e
    | some d =>
      rw [ed] at e
      obtain ⟨v, ev, dv⟩ := q.get ed
      obtain ⟨r, er, q2⟩ := xfl_ok q fs ((f, d) :: acc) l ((G.nm f, v) :: acc') ⟨v, acc', rfl, dv, h⟩ e
      refine ⟨r, ?_, q2⟩
      rw [List.map_cons, List.foldlM_cons]
      have ev' : (v0 :: vs)[i + 1]? = some v := by simpa using ev
      rw [ev']
      exact er
theorem xfl_nil {ds : List D} {l : List (Nat × D)} (e : xfl ds [] = some l) : l = [] := (Option.some.inj e).symm
section
variable {X : Cx} {G : Gam} {W : WX} {k : Nat} {pos p pos2 : Pos} {es : List Expr} {fr : Ev → Hh → R (List D)} {x bn : Str} {B fI : Addr} {c n : Nat} {fs : List (Nat × Nat)}
def fRaise (c n : Nat) (fs : List (Nat × Nat)) (fr : Ev → Hh → R (List D)) : Ev → Hh → RS := fun env h => (fr env h).bindS env fun ds h1 => if ds.length = n then (match xfl ds fs with | some l => .exc c l env h1 | none => .bad) else .bad
theorem ss_raise (ok : XOk false (k + 2) W X) (hc : X.calm = true) (T : XcTxt X.K X.mg (G.ca c) fI bn B n (fs.map fun p => (G.nm p.1, p.2 + 1))) (hn : n ≤ 900) (hf : fs.length ≤ 800) (hg : Gl X x) (hm : X.mg x = some (.ref (G.ca c))) (hs : ArgsOk X.env es) (ha : SA X G W es fr)
    (hd : (x == ("__debug__" : Str)) = false) : SS X G W (.Raise (some (.Call (.Name x p) es [] pos)) none pos2) (fRaise c n fs fr) := by
  intro pins s σ H ρ env h I r er hx
  have pmk : L2N.PMk X (.Call (.Name x p) es [] pos) (fun σ' H' Q => σ' = σ ∧ H' = H ∧ HR X.K G ρ H' h ∧ ER X.K G ρ H' env σ ∧ Q = fun cls d H2 => W cls d σ H2) := by
    intro pins2 s2 σ2 H2 Q I2 hq
    obtain ⟨rfl, rfl, r2, er2, rfl⟩ := hq
    obtain ⟨fd, ps, F1, hb⟩ := xinit_ok (P := X.prog) (w := X.w) (base := X.base) (CX := L2N.CX X.prog X.w) (k := k) T (by simpa using hf)
    obtain ⟨nm, q, N, bs, bm, sn, sub, ab, col, dd, k0, k1, k2, k3, k5, hC, hbm⟩ := T.xc.oex.cls
    generalize eq : fRaise c n fs fr env h = rt at hx
    unfold fRaise at eq
    refine wpAny_Call_Name_kw (ld_glob I2 hg hm ?_ hd)
    have hxa : ExcOk X.K G W ρ H2 σ2 (fr env h) := by rw [← eq] at hx; exact hx.fst er2
    refine cw_any (P := X.K.In) hs (PySem.W.keeps_K T.xc.oex.kC) (thn (ha pos pins2 s2 σ2 H2 ρ env h I2 r2 er2 hxa) fun us s1 hq => ?_)
    obtain ⟨vs, H1, I1, rv, qq⟩ := hq
    refine ⟨I1.kIn, ?_⟩
    cases ef : fr env h with
    | exc c' fs' h' => rw [ef] at qq; exact qq.elim
    | bad => rw [ef] at qq; exact qq.elim
    | ok ds h1 =>
      rw [ef] at qq eq
      obtain ⟨ρ1, g1, r1, qd⟩ := qq
      have eq' : (if ds.length = n then (match xfl ds fs with | some l => RS.exc c l env h1 | none => .bad) else .bad) = rt := eq
      split at eq'
      · rename_i hlen
        cases el : xfl ds fs with
        | none => rw [el] at eq'; rw [← eq'] at hx; exact hx.elim
        | some l =>
          rw [el] at eq'
          have eq'' : RS.exc c l env h1 = rt := eq'
          subst eq''
          show wpAny _ _ (call (.ref (G.ca c)) us) _ _ _
          obtain ⟨hp, g, dr, tk, os⟩ := s1
          have hsz : hp.objs.size ≤ hp.objs.size + 1 := Nat.le_succ _
          have hn1 : H1 (hp.objs.size + 1) = none := I1.hok.fresh hsz
          have kk : ∀ b o, hp.get? b = some o → ((hp.push (PySem.W.kdv_tup us)).push (PySem.HandSPX.excO (G.ca c) hp.objs.size)).get? b = some o := fun b o e => Heap.get?_push_of_some _ (Heap.get?_push_of_some _ e)
          have hget : ((hp.push (PySem.W.kdv_tup us)).push (PySem.HandSPX.excO (G.ca c) hp.objs.size)).get? (hp.objs.size + 1) = some (PySem.HandSPX.excO (G.ca c) hp.objs.size) := by heap_get
          have I3 : Inv X pins2 σ2 (upd H1 (hp.objs.size + 1) (exo (hp.objs.size + 1) (G.ca c) none)) ⟨(hp.push (PySem.W.kdv_tup us)).push (PySem.HandSPX.excO (G.ca c) hp.objs.size), g, dr, tk, os⟩ :=
            I1.laid (t' := tk) (a := hp.objs.size + 1) (o := exo (hp.objs.size + 1) (G.ca c) none) (h' := (hp.push (PySem.W.kdv_tup us)).push (PySem.HandSPX.excO (G.ca c) hp.objs.size)) kk hsz (exo_ok hget)
          have lv : vs.length = n := by rw [qd.len]; exact hlen
          obtain ⟨rr, err, qr⟩ := xfl_ok (v0 := V.ref (hp.objs.size + 1)) qd fs [] l [] rfl el
          have hus : us.length ≤ sizeLine := by
            rw [← Paired.length rv, sizeLine_eq]
            omega
          have hsp : spX X.K (G.ca c) n (fs.map fun p => (G.nm p.1, p.2 + 1)) (V.ref (hp.objs.size + 1) :: vs) (upd H1 (hp.objs.size + 1) (exo (hp.objs.size + 1) (G.ca c) none))
              (fun v H4 => v = .non ∧ ((fs = [] ∧ H4 = upd H1 (hp.objs.size + 1) (exo (hp.objs.size + 1) (G.ca c) none)) ∨ ∃ d, H1 d = none ∧ H4 (hp.objs.size + 1) = some (exo (hp.objs.size + 1) (G.ca c) (some d)) ∧ H4 d = some (exd d rr) ∧ d ≠ hp.objs.size + 1 ∧ ∀ b, b ≠ hp.objs.size + 1 → b ≠ d → H4 b = H1 b)) (fun _ _ _ => False) := by
            refine ⟨hp.objs.size + 1, vs, rr, rfl, lv, upd_same, err, fun e0 => ⟨rfl, .inl ⟨?_, rfl⟩⟩, fun _ H4 d hd1 e1 e2 e3 => ⟨rfl, .inr ⟨d, ?_, e1, e2, ?_, fun b h1 h2 => ?_⟩⟩⟩
            · simpa using e0
            · have hda : d ≠ hp.objs.size + 1 := fun z => by rw [z, upd_same] at hd1; cases hd1
              rw [upd_ne hda] at hd1
              exact hd1
            · exact fun z => by rw [z, upd_same] at hd1; cases hd1
            · rw [e3 b h1 h2, upd_ne h1]
          have r3 : Vals (V.ref (hp.objs.size + 1) :: vs) (Value.ref (hp.objs.size + 1) :: us) := .cons rfl rv
          have hl : (Value.ref (hp.objs.size + 1) :: us ++ []).length = ps.length := by
            have e := r3.length
            rw [F1.len _ _ _ _ hsp] at e
            rw [List.append_nil]
            exact e.symm
          have b2 := hb _ (Value.ref (hp.objs.size + 1) :: us) I3.kIn hl
          rw [List.append_nil] at b2
          have hroom : Room (k + 1) (X.A.under (.builtin "type.__call__" ⟨.ref (G.ca c) :: us, []⟩)) := (show Room (k + 2) X.A from ⟨ok.mode, ok.room.dp, ok.room.un⟩).make (G.ca c) us []
          refine wpAny_call (PySem.HandSPX.call_own F.excBase_ValueError (fun Y => PySem.HandSPX.refsVE_contains Y bm hbm) (I1.kIn _ _ hC) (PySem.W.looks_findIn I1.kIn T.xc.iC) (fun self => PySem.W.bind_fn I1.kIn self T.xc.tI) hus
            (codeAny_mono (F1.run _ X.stack _ _ ⟨Value.ref (hp.objs.size + 1) :: us, []⟩ (Value.ref (hp.objs.size + 1) :: us) _ _ (fun _ _ _ => False) hroom (I3.env0.make (G.ca c) us []) b2 r3 hsp) fun rr s' hq' => ?_))
          cases rr with
          | error er =>
            obtain ⟨_, _, _, _, _, _, _, _, _, _, _, _, hE⟩ := hq'
            exact hE.elim
          | ok fl =>
            cases fl with
            | ret u =>
              obtain ⟨v, H4, os2, bare2, un2, hok2, rv2, ev, cs⟩ := hq'
              subst ev
              obtain ⟨h2, gs2, d2, t2, os'⟩ := s'
              refine ⟨rv2, ?_⟩
              rcases cs with ⟨e0, rfl⟩ | ⟨d, hd1, ea, ed, hda, hrest⟩
              · subst e0
                have e1 := xfl_nil el
                subst e1
                obtain ⟨t0, Gh, J, kG, ge, hoe, na⟩ := mk_endN (d2 := d2) (t2 := t2) I1 hsz kk un2 hok2 os2 bare2 upd_same
                have eH : del (upd H1 (hp.objs.size + 1) (exo (hp.objs.size + 1) (G.ca c) none)) (hp.objs.size + 1) = H1 := by
                  funext b
                  by_cases hb : b = hp.objs.size + 1
                  · rw [hb, del_same, hn1]
                  · rw [del_ne hb, upd_ne hb]
                rw [eH] at J na
                exact ⟨hp.objs.size + 1, _, _, ⟨Gh, gs2, d2, t2, os'⟩, _, .ref (G.ca c), none, rfl, J, kG, ge, hoe, ⟨rfl, rfl, fun vs e => by cases e; rfl⟩, rfl, rfl, na, rfl, bare2, raises_own T.xc.oex.exC T.xc.oex.tyC, hx none ρ1 H1 σ2 g1 r1 (er2.gr g1) rfl⟩
              · obtain ⟨t0, Gh, J, kG, ge, hoe, na⟩ := mk_end0 (d2 := d2) (t2 := t2) I1 hsz kk un2 hok2 os2 bare2 ea ed hd1
                have eH : upd (del H4 (hp.objs.size + 1)) d (.xd rr) = upd H1 d (.xd rr) := by
                  funext b
                  by_cases hb : b = d
                  · rw [hb, upd_same, upd_same]
                  · rw [upd_ne hb, upd_ne hb]
                    by_cases hb2 : b = hp.objs.size + 1
                    · rw [hb2, del_same, hn1]
                    · rw [del_ne hb2, hrest b hb2 hb]
                rw [eH] at J na
                have g2 : Gr ρ1 H1 ρ1 (upd H1 d (.xd rr)) := Gr.newImm hd1
                exact ⟨hp.objs.size + 1, _, _, ⟨Gh, gs2, d2, t2, os'⟩, _, .ref (G.ca c), some d, rfl, J, kG, ge, hoe, ⟨rfl, rfl, fun vs e => by cases e; rfl⟩, rfl, rfl, na, rfl, bare2, raises_own T.xc.oex.exC T.xc.oex.tyC,
                  hx (some d) ρ1 _ σ2 (g1.trans g2) (r1.newImm hd1) (er2.gr (g1.trans g2)) ⟨rr, upd_same, RFs.gr g2 _ _ qr⟩⟩
            | next => exact False.elim hq'
            | brk => exact False.elim hq'
            | cont => exact False.elim hq'
      · rw [← eq'] at hx; exact hx.elim
  have ps := L2N.ps_raise (pos := pos2) hc (ok.tk rfl) pmk
  exact thn (ps.run pins s σ H (DE X.K G ρ H (fRaise c n fs fr env h)) I ⟨rfl, rfl, r, er, rfl⟩) fun _ _ q => q
end
end PI

set_option maxRecDepth 100000
set_option maxHeartbeats 1000000
/-! PI, part 14: try .. except X as n. -/
namespace PI
open PySem PySem.Spec PyProof.Rows L2
structure LeE (D D' : Ends) : Prop where
  nx : ∀ σ H, D.nx σ H → D'.nx σ H
  rt : ∀ v H, D.rt v H → D'.rt v H
  bk : ∀ σ H, D.bk σ H → D'.bk σ H
  ct : ∀ σ H, D.ct σ H → D'.ct σ H
/-- a block told by the interpreter, as a reading -/
def tSS (K : PySem.W.Frag) (G : Gam) (W : WX) (f : Ev → Hh → RS) : TS := fun D σ H => ∃ ρ env h, HR K G ρ H h ∧ ER K G ρ H env σ ∧ ExcOkS K G W ρ H (f env h) ∧ LeE (DE K G ρ H (f env h)) D
theorem pss_of {X : Cx} {G : Gam} {W : WX} {sts : List Stmt} {f : Ev → Hh → RS} (hb : SSs X G W sts f) : PSs X sts (tSS X.K G W f) :=
  ⟨fun pins s σ H D I ⟨ρ, env, h, r, er, hx, le⟩ => thn (hb pins s σ H ρ env h I r er hx) fun _ _ q => sp_mono le.nx le.rt le.bk le.ct q⟩
def W0 : WX := fun _ _ _ _ => False
/-- within the suite: the slot i holds the exception at a -/
abbrev Gam.at (G : Gam) (ρ : List Addr) (H : Hp) (i : Nat) (a : Addr) : Gam := { G with jr := ρ, jh := H, jx := some (i, a) }
/-- back from a suite -/
def sufS (i : Nat) : RS → RS
  | .nx env h => .nx (env.set i none) h
  | .bk env h => .bk (env.set i none) h
  | .ct env h => .ct (env.set i none) h
  | .rt d h => .rt d h
  | _ => .bad
def fTry (m : Bool) (sub : Nat → Option Bool) (i : Nat) (fsu : Nat → List (Nat × D) → Ev → Hh → RS) (fb : Ev → Hh → RS) : Ev → Hh → RS := fun env h => match fb env h with
  | .exc c l env1 h1 => if m = true then .bad else match sub c with
    | some true => sufS i (fsu c l (env1.set i none) h1)
    | some false => .exc c l env1 h1
    | none => .bad
  | r => r
section
variable {X : Cx} {G : Gam} {W : WX} {k i : Nat} {x n : Str} {np pos pos' : Pos} {body suite : List Stmt} {b₀ : Stmt} {fb : Ev → Hh → RS} {fsu : Nat → List (Nat × D) → Ev → Hh → RS} {cX : Addr} {sub : Nat → Option Bool}
theorem xok_suite {m : Bool} {a : Addr} {oe : Obj} {cls : Value} {d : Option Addr} {pn : List (Addr × Obj)} (ok : XOk m k W X) (hz : L2N.Zn cls d oe) (hf : ∃ vs, oe.data = .fields vs) : XOk true k W0 (X.suite a ((a, oe) :: pn)) := by
  obtain ⟨vs, hv⟩ := hf
  exact ⟨⟨ok.room.dp, ok.room.un⟩, ⟨(a, oe), ⟨rfl, vs, hv, hz.2.2 vs hv⟩, List.mem_cons_self⟩, fun z => by cases z⟩
theorem ss_try (ok : XOk false k W X) (hjx : G.jx = none) (hs : X.stack = X.env :: X.outer) (hf : X.env.frame = some X.env.locals) (hN : X.N.Nodup) (hi : X.N[i]? = some n) (hln : X.env.kindOf n = some .local) (hc : Names X x (.ref cX)) (hsub : ∀ c b, sub c = some b → PySem.W.exmOne X.K (.ref (G.ca c)) (.ref cX) = some b)
    (hb : ∀ (W' : WX) (pn : List (Addr × Obj)) (xe : Value → Shared → Prop), XOk false k W' (X.tr pn xe) → PassesOwn (model X.prog X.w) X.A X.env xe → SSs (X.tr pn xe) G W' body fb)
    (hsu : ∀ (a : Addr) (oe : Obj) (d : Option Addr) (pn : List (Addr × Obj)) (c : Nat) (l : List (Nat × D)) (ρ : List Addr) (H : Hp), L2N.Zn (.ref (G.ca c)) d oe → (∃ vs, oe.data = .fields vs) → XOk true k W0 (X.suite a ((a, oe) :: pn)) → XD X.K G ρ H l d → SSs (X.suite a ((a, oe) :: pn)) (G.at ρ H i a) W0 (b₀ :: suite) (fsu c l)) :
    SS X G W (.Try body [.ExceptHandler (some (.Name x np)) (some n) (b₀ :: suite) pos'] [] [] pos) (fTry false sub i fsu fb) := by
  intro pins s σ H ρ env h I r er hx
  have ps := L2N.ps_try_as (tb := fun W' => tSS X.K G W' fb) (ts := fun a cls d D σ' H' => ∃ c l ρ' env' h', cls = .ref (G.ca c) ∧ XD X.K G ρ' H' l d ∧ HR X.K G ρ' H' h' ∧ ER X.K (G.at ρ' H' i a) ρ' H' env' σ' ∧ ExcOkS X.K (G.at ρ' H' i a) W0 ρ' H' (fsu c l env' h') ∧ LeE (DE X.K (G.at ρ' H' i a) ρ' H' (fsu c l env' h')) D)
    (np := np) (pos := pos) (pos' := pos') (Wout := W) hs hf hN hi hln hc (ok.tk rfl)
    (fun W' pn xe tk own => pss_of (hb W' pn xe ⟨ok.room, ok.mode, fun _ => tk⟩ own))
    (fun a oe cls d pn hz hfd => ⟨fun pins' s' σ' H' D I' ⟨c, l, ρ', env', h', ec, xd, r', er', hx', le⟩ => by
      subst ec
      exact thn (hsu a oe d pn c l ρ' H' hz hfd (xok_suite ok hz hfd) xd pins' s' σ' H' ρ' env' h' I' r' er' hx') fun _ _ q => sp_mono le.nx le.rt le.bk le.ct q⟩)
  refine thn (ps.run pins s σ H (DE X.K G ρ H (fTry false sub i fsu fb env h)) I ⟨ρ, env, h, r, er, ?_, ?_⟩) fun _ _ q => q
  · unfold fTry at hx ⊢
    cases ef : fb env h with
    | exc c l env1 h1 =>
      rw [ef] at hx
      intro dd ρ' H' σ' g r' er' xd
      have hx' : ExcOkS X.K G W ρ H (match sub c with | some true => sufS i (fsu c l (env1.set i none) h1) | some false => .exc c l env1 h1 | none => .bad) := hx
      show ∃ b, PySem.W.exmOne X.K (.ref (G.ca c)) (.ref cX) = some b ∧ _ ∧ _
      cases es : sub c with
      | none => rw [es] at hx'; exact hx'.elim
      | some b =>
        rw [es] at hx'
        refine ⟨b, hsub c b es, fun eb a ha => ?_, fun eb => ?_⟩
        · subst eb
          refine ⟨c, l, ρ', env1.set i none, h1, rfl, xd, r', er'.unset i rfl Gr.refl (fun j b e => by cases e; exact ⟨rfl, rfl⟩), ?_, ?_⟩
          · have hx2 : ExcOkS X.K G W ρ H (sufS i (fsu c l (env1.set i none) h1)) := hx'
            cases e3 : fsu c l (env1.set i none) h1 with
            | exc c3 l3 env3 h3 => rw [e3] at hx2; exact hx2.elim
            | bad => rw [e3] at hx2; exact hx2.elim
            | _ => trivial
          · have gg : Gr ρ H ρ' H' := g
            show LeE (DE X.K (G.at ρ' H' i a) ρ' H' (fsu c l (env1.set i none) h1)) _
            have en : (match fb env h with
              | .exc c l env1 h1 => if false = true then RS.bad else match sub c with
                | some true => sufS i (fsu c l (env1.set i none) h1)
                | some false => .exc c l env1 h1
                | none => .bad
              | r => r) = sufS i (fsu c l (env1.set i none) h1) := by rw [ef]; show (match sub c with | some true => sufS i (fsu c l (env1.set i none) h1) | some false => RS.exc c l env1 h1 | none => .bad) = _; rw [es]
            rw [ef] at en
            rw [en]
            have back : ∀ {env3 : Ev} {σ3 : St} {ρ3 : List Addr} {H3 : Hp}, Gr ρ' H' ρ3 H3 → ER X.K (G.at ρ' H' i a) ρ3 H3 env3 σ3 → ER X.K G ρ3 H3 (env3.set i none) (σ3.set i none) := fun g3 er3 =>
              ER.unset (G := G.at ρ' H' i a) er3 i (o := none) rfl (er'.jn.trans g3) (fun j b e => by rw [hjx] at e; cases e)
            cases e3 : fsu c l (env1.set i none) h1 with
            | nx env3 h3 => exact ⟨fun σ3 H3 ⟨ρ3, g3, r3, er3⟩ => ⟨ρ3, gg.trans g3, r3, back g3 er3⟩, fun _ _ z => z.elim, fun _ _ z => z.elim, fun _ _ z => z.elim⟩
            | bk env3 h3 => exact ⟨fun _ _ z => z.elim, fun _ _ z => z.elim, fun σ3 H3 ⟨ρ3, g3, r3, er3⟩ => ⟨ρ3, gg.trans g3, r3, back g3 er3⟩, fun _ _ z => z.elim⟩
            | ct env3 h3 => exact ⟨fun _ _ z => z.elim, fun _ _ z => z.elim, fun _ _ z => z.elim, fun σ3 H3 ⟨ρ3, g3, r3, er3⟩ => ⟨ρ3, gg.trans g3, r3, back g3 er3⟩⟩
            | rt d3 h3 => exact ⟨fun _ _ z => z.elim, fun v3 H3 ⟨ρ3, g3, r3, d3⟩ => ⟨ρ3, gg.trans g3, r3, d3⟩, fun _ _ z => z.elim, fun _ _ z => z.elim⟩
            | exc c3 l3 env3 h3 => exact ⟨fun _ _ z => z.elim, fun _ _ z => z.elim, fun _ _ z => z.elim, fun _ _ z => z.elim⟩
            | bad => exact ⟨fun _ _ z => z.elim, fun _ _ z => z.elim, fun _ _ z => z.elim, fun _ _ z => z.elim⟩
        · subst eb
          exact hx' dd ρ' H' σ' g r' er' xd
    | bad => rw [ef] at hx; exact hx
    | _ => trivial
  · unfold fTry
    cases ef : fb env h with
    | exc c l env1 h1 => exact ⟨fun _ _ z => z.elim, fun _ _ z => z.elim, fun _ _ z => z.elim, fun _ _ z => z.elim⟩
    | _ => exact ⟨fun _ _ z => z, fun _ _ z => z, fun _ _ z => z, fun _ _ z => z⟩

/-- within an except suite: nothing is raised, the suite does not run -/
theorem ss_tryH {hd : ExceptHandler} {hds : List ExceptHandler} (ok : XOk true k W X) (hb : ∀ (W' : WX) (pn : List (Addr × Obj)) (xe : Value → Shared → Prop), XOk true k W' (X.tr pn xe) → PassesOwn (model X.prog X.w) X.A X.env xe → (∀ q ∈ X.pn, q ∈ pn) → SSs (X.tr pn xe) G W' body fb) :
    SS X G W (.Try body (hd :: hds) [] [] pos) (fTry true sub i fsu fb) := by
  intro pins s σ H ρ env h I r er hx
  have okI := I.ok
  have nx : ∀ c l env1 h1, fb env h ≠ .exc c l env1 h1 := by
    intro c l env1 h1 z
    unfold fTry at hx
    rw [z] at hx
    exact hx.elim
  have en : fTry true sub i fsu fb env h = fb env h := by
    unfold fTry
    cases ef : fb env h with
    | exc c l env1 h1 => exact (nx _ _ _ _ ef).elim
    | _ => rfl
  rw [en] at hx ⊢
  have ok' : XOk true k W0 (X.tr (X.pn ++ pins) (fun _ _ => False)) := by
    obtain ⟨p, hot, hp⟩ := (show L2H.HotC X from ok.mode)
    exact ⟨ok.room, ⟨p, hot, List.mem_append_left _ hp⟩, fun z => by cases z⟩
  have hx0 : ExcOkS X.K G W0 ρ H (fb env h) := by
    cases ef : fb env h with
    | exc c l env1 h1 => exact (nx _ _ _ _ ef).elim
    | bad => rw [ef] at hx; exact hx
    | _ => trivial
  refine wpAny_Try_except ?_
  refine wpAny_mono (hb W0 (X.pn ++ pins) (fun _ _ => False) ok' PassesOwn.never (fun q hq => List.mem_append_left _ hq) [] s σ H ρ env h (I.toTry _) r er hx0) (fun f s1 hsp => ?_) (fun e s1 he => he.elim)
  cases f with
  | next =>
    obtain ⟨σ', H', J', q⟩ := hsp
    exact wpAny_execs_nil ⟨σ', H', J'.ofTry okI, q⟩
  | brk =>
    obtain ⟨σ', H', J', q⟩ := hsp
    exact ⟨σ', H', J'.ofTry okI, q⟩
  | cont =>
    obtain ⟨σ', H', J', q⟩ := hsp
    exact ⟨σ', H', J'.ofTry okI, q⟩
  | ret u =>
    obtain ⟨v, σ', H', J', r, q⟩ := hsp
    exact ⟨v, σ', H', J'.ofTry okI, r, q⟩


/-! ### the exception that a suite holds -/
/-- e.f -/
def fExF (l : List (Nat × D)) (f : Nat) : Ev → Hh → R D := fun _ h => match l.lookup f with
  | some d => .ok d h
  | none => .bad
/-- what an exception's class has: read as BaseException reads; no class attribute of the name -/
structure XFldOk (K : PySem.W.Frag) (G : Gam0) (c f : Nat) : Prop where
  ga : PySem.W.findIn K (.ref (G.ca c)) "__getattribute__" = some (some (.builtin "BaseException.__getattribute__"))
  gg : PySem.W.findIn K (.ref (G.ca c)) "__getattr__" = some none
  exC : PySem.W.subIn K (.ref (G.ca c)) (.type "BaseException") = some true
  hdC : PySem.W.hasDictIn K (G.ca c) = true
  no : PySem.W.findIn K (.ref (G.ca c)) (G.nm f) = some none
/-- the fields of the suite's exception, as they were told at its start, stand -/
theorem XD.to {K : PySem.W.Frag} {G : Gam0} {ρ ρ' : List Addr} {H H' : Hp} {l : List (Nat × D)} {d : Option Addr} (g : Gr ρ H ρ' H') (x : XD K G ρ H l d) : XD K G ρ' H' l d := by
  cases d with
  | none => exact x
  | some dd =>
    obtain ⟨gs, e, q⟩ := x
    exact ⟨gs, g.imm _ _ e True.intro, RFs.gr g _ _ q⟩
end
section
variable {X : Cx} {G : Gam} {W : WX} {i : Nat} {n : Str} {a : Addr} {oe : Obj} {d : Option Addr} {c : Nat} {l : List (Nat × D)} {np pos : Pos}
/-- a name whose slot holds v -/
theorem ev_slot {pins : List (Addr × Obj)} {s : Shared} {σ : St} {H : Hp} {v : V} {Q : Value → Shared → Prop} (I : Inv X pins σ H s) (hN : X.N[i]? = some n) (hv : Vis X.env.scope n) (hd : (n == ("__debug__" : Str)) = false) (hcd : (n == ("__classdict__" : Str)) = false) (e : σ[i]? = some (some v))
    (k : ∀ u s', Inv X pins σ H s' → RelV v u → Q u s') : wpAny (model X.prog X.w) X.A (eval (.Name n np) X.env) Q X.xe s :=
  thn ((pe_var (X := X) (pos := np) hN hv hd hcd).run pins s σ H (fun w H' => w = v ∧ H' = H) I ⟨v, e, rfl, rfl⟩) fun u s' ⟨w, H', I', r, ew, eH⟩ => by
    subst ew eH
    exact k u s' I' r
/-- e.f in the suite; env[i] is none: the name was not stored anew -/
def fExN (i : Nat) (f : Ev → Hh → R D) : Ev → Hh → R D := fun env h => match env[i]? with
  | some none => f env h
  | _ => .bad
theorem se_exF {f : Nat} (inj : ∀ i j, G.nm i = G.nm j → i = j) (hjx : G.jx = some (i, a)) (hp : (a, oe) ∈ X.pn) (hz : L2N.Zn (.ref (G.ca c)) d oe) (hdat : ∃ vs, oe.data = .fields vs) (T : XFldOk X.K G c f) (hx : XD X.K G G.jr G.jh l d)
    (hN : X.N[i]? = some n) (hv : Vis X.env.scope n) (hd : (n == ("__debug__" : Str)) = false) (hcd : (n == ("__classdict__" : Str)) = false) : SE X G W (.Attribute (.Name n np) (G.nm f) pos) (fExN i (fExF l f)) := by
  intro pins s σ H ρ env h I r er hxx
  unfold fExN at hxx ⊢
  cases ee : env[i]? with
  | none => rw [ee] at hxx; exact hxx.elim
  | some o =>
    cases o with
    | some _ => rw [ee] at hxx; exact hxx.elim
    | none =>
      rw [ee] at hxx
      have hxx' : ExcOk X.K G W ρ H σ (fExF l f env h) := hxx
      show wpAny _ _ _ (EP X pins σ (QR X.K G ρ H (fExF l f env h))) _ _
      refine attr_of rfl (ev_slot I hN hv hd hcd (er.sl i a hjx ee) fun u s1 I1 ru => ?_)
      obtain rfl : u = Value.ref a := ru
      unfold fExF at hxx' ⊢
      cases el : l.lookup f with
      | none => rw [el] at hxx'; exact hxx'.elim
      | some v0 =>
        have hx1 := hx.to er.jn
        cases d with
        | none =>
          have e0 : l = [] := hx1
          rw [e0] at el
          cases el
        | some dd =>
          obtain ⟨gs, eH, q⟩ := hx1
          obtain ⟨w, l1, dw⟩ := q.look inj el
          obtain ⟨ha, _⟩ := I1.pin (a, oe) (List.mem_append_left _ hp)
          obtain ⟨vs, hdv⟩ := hdat
          obtain ⟨mA, hns, hr⟩ := (show ObjOk X.prog X.w H s1.heap dd (.xd gs) from I1.hok dd _ eH)
          obtain ⟨od, ho, hl⟩ := lookIn_ns hns
          obtain ⟨u, hu, ru⟩ := RelO.some_of (v := w) (o := mA (G.nm f)) (by rw [← l1]; exact hr (G.nm f))
          have J : PySem.W.InstAt s1.heap a oe (G.ca c) (some od) := ⟨ha, hz.1, by unfold PySem.W.notCls; rw [hdv] <;> rfl, by rw [hz.2.1]; exact ho⟩
          exact HandSPX.exc_get I1.kIn J T.ga T.gg T.exC (PySem.W.findObj_own T.hdC T.no rfl (by rw [hl, hu])) (handed_of ru) ⟨w, H, I1.tok _, ru, ρ, Gr.refl, r, dw⟩
end
end PI

set_option maxRecDepth 100000
set_option maxHeartbeats 1000000
/-! PI, part 15: built-in functions and types called. -/
namespace PI
open PySem PySem.Spec PyProof.Rows L2
/-- what a built-in f answers, by data -/
def BR (X : Cx) (G : Gam) (W : WX) (f : Value) (F : List D → Hh → R D) : Prop :=
  ∀ (pins : List (Addr × Obj)) (s : Shared) (σ : St) (H : Hp) (ρ : List Addr) (h : Hh) (us : List Value) (vs : List V) (ds : List D) (rt : R D), Inv X pins σ H s → HR X.K G ρ H h → Vals vs us → RDs X.K G ρ H ds vs → F ds h = rt → ExcOk X.K G W ρ H σ rt →
    wpAny (model X.prog X.w) X.A (call f us) (EP X pins σ (QR X.K G ρ H rt)) X.xe s
def fBi (F : List D → Hh → R D) (fr : Ev → Hh → R (List D)) : Ev → Hh → R D := fun env h => (fr env h).bind F
section
variable {X : Cx} {G : Gam} {W : WX} {es : List Expr} {fr : Ev → Hh → R (List D)} {x : Str} {p pos : Pos} {F : List D → Hh → R D}
theorem se_bi {id : String} (hc : BR X G W (.builtin id) F) (hg : Gl X x) (hm : X.mg x = none) (hv : bootBuiltins x = some (.builtin id)) (hs : ArgsOk X.env es) (hp : (backTo pos (starEach es X.env)).any (·.1) = false) (ha : SA X G W es fr) (hn : x ≠ "__name__") (hd : (x == ("__debug__" : Str)) = false) :
    SE X G W (.Call (.Name x p) es [] pos) (fBi F fr) := by
  intro pins s σ H ρ env h I r er hx
  generalize eq : fBi F fr env h = rt at hx ⊢
  refine wpAny_Call_Name_kw (ld_blt I hg hm hv ?_ hn hd)
  refine Calls.callWith_builtin hp (evalArgs_any hs (ha.then I r er eq hx fun ds h1 us s1 vs ρ1 H1 e1 I1 g1 r1 er1 rv q hx1 => ?_))
  exact thn (hc pins s1 σ H1 ρ1 h1 us vs ds rt I1 r1 rv q e1 hx1) fun _ _ z => ep_gr g1 z
theorem se_bty {T : String} (hc : BR X G W (.type T) F) (hg : Gl X x) (hm : X.mg x = none) (hv : bootBuiltins x = some (.type T)) (hs : ArgsOk X.env es) (hp : (backTo pos (starEach es X.env)).any (·.1) = false) (ha : SA X G W es fr) (hn : x ≠ "__name__") (hd : (x == ("__debug__" : Str)) = false) :
    SE X G W (.Call (.Name x p) es [] pos) (fBi F fr) := by
  intro pins s σ H ρ env h I r er hx
  generalize eq : fBi F fr env h = rt at hx ⊢
  refine wpAny_Call_Name_kw (ld_blt I hg hm hv ?_ hn hd)
  refine PyProof.Rows.callWith_type hp (evalArgs_any hs (ha.then I r er eq hx fun ds h1 us s1 vs ρ1 H1 e1 I1 g1 r1 er1 rv q hx1 => ?_))
  exact thn (hc pins s1 σ H1 ρ1 h1 us vs ds rt I1 r1 rv q e1 hx1) fun _ _ z => ep_gr g1 z
/-- a type's name -/
theorem se_tyn {T : String} (hg : Gl X x) (hm : X.mg x = none) (hv : bootBuiltins x = some (.type T)) (hn : x ≠ "__name__") (hd : (x == ("__debug__" : Str)) = false) : SE X G W (.Name x p) (fCst (.ty T)) :=
  se_of (pe_bltn (v := .ty T) hg hm hv rfl hn hd) fun σ H ρ env h r er hx => q_same r rfl
/-- a class's name -/
theorem se_cln {c : Nat} (hg : Gl X x) (hm : X.mg x = some (.ref (G.ca c))) (hd : (x == ("__debug__" : Str)) = false) : SE X G W (.Name x p) (fCst (.cls c)) :=
  se_glo hg hm (v := .ref (G.ca c)) rfl hd fun ρ H h r => rfl

/-! ### len -/
def lenD (ds : List D) (h : Hh) : R D := match ds with
  | [.str z] => if z.length ≤ SZ then .ok (.int z.length) h else .bad
  | [.tup xs] => .ok (.int xs.length) h
  | [.scr] => .bad
  | [.ref i] => match h[i]? with
    | some (.lst xs) => .ok (.int xs.length) h
    | _ => .bad
  | _ => .bad
theorem br_len : BR X G W (.builtin "len") lenD := by
  intro pins s σ H ρ h us vs ds rt I r rv q e hx
  unfold lenD at e
  split at e
  · rename_i z
    obtain ⟨v, vr, rfl, d1, d2⟩ := q
    cases d1; cases d2
    split at e
    · rename_i hz
      subst e
      exact call_len pins s σ H _ us _ I rv ⟨_, z.length, rfl, ⟨by rw [sOf_len, SZ_eq]; exact hz, (sOf_len z).symm⟩, q_same r rfl⟩
    · subst e; exact hx.elim
  · rename_i xs
    subst e
    obtain ⟨v, vr, rfl, ⟨p, ws, rfl, hq, qs⟩, d2⟩ := q
    cases d2
    exact call_len pins s σ H _ us _ I rv ⟨_, xs.length, rfl, .inr ⟨ws, hq, qs.len.symm⟩, q_same r rfl⟩
  · subst e; exact hx.elim
  · rename_i i
    obtain ⟨v, vr, rfl, ⟨p, ep, rfl⟩, d2⟩ := q
    cases d2
    split at e
    · rename_i xs eo
      subst e
      obtain ⟨ws, eH, qs⟩ := r.at ep eo
      exact call_len pins s σ H _ us _ I rv ⟨_, xs.length, rfl, .inl ⟨ws, SqL.of eH, qs.len.symm⟩, q_same r rfl⟩
    · subst e; exact hx.elim
  · subst e; exact hx.elim
/-! ### list, tuple -/
def listD (scr : List Int) (ds : List D) (h : Hh) : R D := match ds with
  | [.tup xs] => .ok (.ref h.length) (h ++ [.lst xs])
  | [.scr] => .ok (.ref h.length) (h ++ [.lst (scr.map D.int)])
  | [.ref i] => match h[i]? with
    | some (.lst xs) => .ok (.ref h.length) (h ++ [.lst xs])
    | _ => .bad
  | _ => .bad
theorem br_list : BR X G W (.type "list") (listD G.scr) := by
  intro pins s σ H ρ h us vs ds rt I r rv q e hx
  unfold listD at e
  split at e
  · rename_i xs
    subst e
    obtain ⟨v, vr, rfl, ⟨p, ws, rfl, hq, qs⟩, d2⟩ := q
    cases d2
    exact call_list_of pins s σ H _ us _ I rv ⟨p, ws, rfl, .inr hq, fun l hl => q_lst r qs l hl⟩
  · subst e
    obtain ⟨v, vr, rfl, ⟨rfl, hq⟩, d2⟩ := q
    cases d2
    exact call_list_of pins s σ H _ us _ I rv ⟨G.scrA, _, rfl, .inl hq.to, fun l hl => q_lst r (RDs.ints G.scr) l hl⟩
  · rename_i i
    obtain ⟨v, vr, rfl, ⟨p, ep, rfl⟩, d2⟩ := q
    cases d2
    split at e
    · rename_i xs eo
      subst e
      obtain ⟨ws, eH, qs⟩ := r.at ep eo
      exact call_list_of pins s σ H _ us _ I rv ⟨p, ws, rfl, .inl (SqL.of eH), fun l hl => q_lst r qs l hl⟩
    · subst e; exact hx.elim
  · subst e; exact hx.elim
def tupleD (ds : List D) (h : Hh) : R D := match ds with
  | [.tup xs] => .ok (.tup xs) h
  | [.ref i] => match h[i]? with
    | some (.lst xs) => .ok (.tup xs) h
    | _ => .bad
  | _ => .bad
theorem br_tuple : BR X G W (.type "tuple") tupleD := by
  intro pins s σ H ρ h us vs ds rt I r rv q e hx
  unfold tupleD at e
  split at e
  · rename_i xs
    subst e
    obtain ⟨v, vr, rfl, ⟨p, ws, rfl, hq, qs⟩, d2⟩ := q
    cases d2
    exact call_tuple_of pins s σ H _ us _ I rv ⟨p, ws, rfl, .inr ⟨hq, q_same r ⟨p, ws, rfl, hq, qs⟩⟩⟩
  · rename_i i
    obtain ⟨v, vr, rfl, ⟨p, ep, rfl⟩, d2⟩ := q
    cases d2
    split at e
    · rename_i xs eo
      subst e
      obtain ⟨ws, eH, qs⟩ := r.at ep eo
      exact call_tuple_of pins s σ H _ us _ I rv ⟨p, ws, rfl, .inl ⟨SqL.of eH, fun l hl => q_tup r qs l hl⟩⟩
    · subst e; exact hx.elim
  · subst e; exact hx.elim
/-! ### int, str, bool, abs -/
def intD (ds : List D) (h : Hh) : R D := match ds with
  | [.int i] => .ok (.int i) h
  | [.bl k] => .ok (.int (if k then 1 else 0)) h
  | _ => .bad
theorem br_int : BR X G W (.type "int") intD := by
  intro pins s σ H ρ h us vs ds rt I r rv q e hx
  unfold intD at e
  split at e
  · rename_i i
    subst e
    obtain ⟨v, vr, rfl, d1, d2⟩ := q
    cases d1; cases d2
    exact call_int1 pins s σ H _ us _ I rv (.inl ⟨_, rfl, q_same r rfl⟩)
  · rename_i k
    subst e
    obtain ⟨v, vr, rfl, d1, d2⟩ := q
    cases d1; cases d2
    exact call_int1 pins s σ H _ us _ I rv (.inr ⟨_, rfl, q_same r rfl⟩)
  · subst e; exact hx.elim
/-- the digits of an int -/
def digs (i : Int) : List Nat := (toString i : Str).cps.toList
def strD (ds : List D) (h : Hh) : R D := match ds with
  | [.int i] => if i.natAbs.log2 < 1920 then .ok (.str (digs i)) h else .bad
  | [.str z] => .ok (.str z) h
  | _ => .bad
theorem br_str : BR X G W (.type "str") strD := by
  intro pins s σ H ρ h us vs ds rt I r rv q e hx
  unfold strD at e
  split at e
  · rename_i i
    obtain ⟨v, vr, rfl, d1, d2⟩ := q
    cases d1; cases d2
    split at e
    · rename_i hz
      subst e
      exact call_str_int pins s σ H _ us _ I rv ⟨i, rfl, hz, q_same r (by show V.str _ = V.str _; rw [digs, sOf_list])⟩
    · subst e; exact hx.elim
  · rename_i z
    subst e
    obtain ⟨v, vr, rfl, d1, d2⟩ := q
    cases d1; cases d2
    exact SkE.call_str_str pins s σ H _ us _ I rv ⟨_, rfl, q_same r rfl⟩
  · subst e; exact hx.elim
def absD (ds : List D) (h : Hh) : R D := match ds with
  | [.int i] => .ok (.int (if i < 0 then -i else i)) h
  | _ => .bad
theorem br_abs : BR X G W (.builtin "abs") absD := by
  intro pins s σ H ρ h us vs ds rt I r rv q e hx
  unfold absD at e
  split at e
  · subst e
    obtain ⟨v, vr, rfl, d1, d2⟩ := q
    cases d1; cases d2
    exact call_abs pins s σ H _ us _ I rv ⟨_, rfl, q_same r rfl⟩
  · subst e; exact hx.elim
end
/-! ### sorted, of texts -/
def insL (x : List Nat) : List (List Nat) → List (List Nat)
  | [] => [x]
  | y :: r => if y < x then y :: insL x r else x :: y :: r
def srtL : List (List Nat) → List (List Nat)
  | [] => []
  | x :: r => insL x (srtL r)
theorem insL_perm (x : List Nat) : ∀ r, (insL x r).Perm (x :: r)
  | [] => .refl _
  | y :: r => by
    unfold insL
    split
    · exact ((insL_perm x r).cons y).trans (.swap x y r)
    · exact .refl _
theorem srtL_perm : ∀ r, (srtL r).Perm r
  | [] => .refl _
  | x :: r => (insL_perm x (srtL r)).trans ((srtL_perm r).cons x)
theorem insL_rises (x : List Nat) : ∀ r : List (List Nat), r.Pairwise (· ≤ ·) → (insL x r).Pairwise (· ≤ ·)
  | [], _ => List.pairwise_cons.mpr ⟨(fun _ z => by cases z), .nil⟩
  | y :: r, h => by
    obtain ⟨h1, h2⟩ := List.pairwise_cons.mp h
    unfold insL
    split
    · rename_i c
      refine List.pairwise_cons.mpr ⟨fun z hz => ?_, insL_rises x r h2⟩
      rcases List.mem_cons.mp ((insL_perm x r).mem_iff.mp hz) with rfl | hz
      · exact List.le_of_lt c
      · exact h1 z hz
    · rename_i c
      refine List.pairwise_cons.mpr ⟨fun z hz => ?_, h⟩
      rcases List.mem_cons.mp hz with rfl | hz
      · exact List.not_lt.mp c
      · exact List.le_trans (List.not_lt.mp c) (h1 z hz)
theorem srtL_rises : ∀ r, (srtL r).Pairwise (· ≤ ·)
  | [] => .nil
  | x :: r => insL_rises x _ (srtL_rises r)
theorem srt_unique {a b : List (List Nat)} (hp : a.Perm b) (ha : a.Pairwise (· ≤ ·)) (hb : b.Pairwise (· ≤ ·)) : a = b :=
  hp.eq_of_pairwise (fun x y _ _ h1 h2 => List.le_antisymm h1 h2) ha hb
theorem rising_pair : ∀ (r : List Str) (p : Str), risingS p r = true → (p :: r).Pairwise fun a b => a.cps.toList ≤ b.cps.toList
  | [], p, _ => List.pairwise_cons.mpr ⟨(fun _ z => by cases z), .nil⟩
  | x :: r, p, h => by
    unfold risingS at h
    rw [Bool.and_eq_true, PyProof.Rows.ltCps_eq] at h
    have h1 : p.cps.toList ≤ x.cps.toList := List.not_lt.mp (by simpa using h.1)
    have h2 := rising_pair r x h.2
    refine List.pairwise_cons.mpr ⟨fun z hz => ?_, h2⟩
    rcases List.mem_cons.mp hz with rfl | hz
    · exact h1
    · exact List.le_trans h1 ((List.pairwise_cons.mp h2).1 z hz)
theorem sortedS_pair {ys : List Str} (h : sortedS ys = true) : (ys.map fun s => s.cps.toList).Pairwise (· ≤ ·) := by
  rw [List.pairwise_map]
  cases ys with
  | nil => exact .nil
  | cons x r => exact rising_pair r x h
/-- all texts -/
def strsD : List D → Option (List (List Nat))
  | [] => some []
  | .str z :: r => (strsD r).map (z :: ·)
  | _ => none
theorem strsD_ok {K : PySem.W.Frag} {G : Gam0} {ρ : List Addr} {H : Hp} : ∀ {ds : List D} {vs : List V} {zs : List (List Nat)}, strsD ds = some zs → RDs K G ρ H ds vs → vs = (zs.map sOf).map V.str ∧ ds = zs.map D.str
  | [], _, zs, e, q => by
    cases e
    exact ⟨q, rfl⟩
  | .str z :: r, _, zs, e, q => by
    obtain ⟨v, vr, rfl, d1, d2⟩ := q
    have e' : (strsD r).map (z :: ·) = some zs := e
    cases er : strsD r with
    | none => rw [er] at e'; cases e'
    | some zs' =>
      rw [er] at e'
      cases e'
      obtain ⟨h1, h2⟩ := strsD_ok er d2
      cases d1
      exact ⟨by rw [h1]; rfl, by rw [h2]; rfl⟩
  | .non :: _, _, _, e, _ => by cases e
  | .bl _ :: _, _, _, e, _ => by cases e
  | .int _ :: _, _, _, e, _ => by cases e
  | .tup _ :: _, _, _, e, _ => by cases e
  | .ref _ :: _, _, _, e, _ => by cases e
  | .cls _ :: _, _, _, e, _ => by cases e
  | .scr :: _, _, _, e, _ => by cases e
  | .ty _ :: _, _, _, e, _ => by cases e
def sortedD (ds : List D) (h : Hh) : R D := match ds with
  | [.ref i] => match h[i]? with
    | some (.lst xs) => match strsD xs with
      | some zs => if zs.length < 64 then .ok (.ref h.length) (h ++ [.lst ((srtL zs).map D.str)]) else .bad
      | none => .bad
    | _ => .bad
  | _ => .bad
section
variable {X : Cx} {G : Gam} {W : WX}
theorem br_sorted : BR X G W (.builtin "sorted") sortedD := by
  intro pins s σ H ρ h us vs ds rt I r rv q e hx
  unfold sortedD at e
  split at e
  · rename_i i
    obtain ⟨v, vr, rfl, ⟨p, ep, rfl⟩, d2⟩ := q
    cases d2
    split at e
    · rename_i xs eo
      obtain ⟨ws, eH, qs⟩ := r.at ep eo
      split at e
      · rename_i zs ez
        split at e
        · rename_i hz
          subst e
          obtain ⟨h1, h2⟩ := strsD_ok ez qs
          subst h1
          refine cr_sortedS pins s σ H _ us _ I rv ⟨p, zs.map sOf, rfl, SqL.of eH, by simpa using hz, fun ys t hp hs ht => ?_⟩
          have e1 : ys.map (fun s => s.cps.toList) = srtL zs := by
            refine srt_unique ?_ (sortedS_pair hs) (srtL_rises zs)
            refine ((hp.map fun s => s.cps.toList).trans ?_).trans (srtL_perm zs).symm
            rw [List.map_map]
            have : ((fun s : Str => s.cps.toList) ∘ sOf) = id := by funext z; exact sOf_cps z
            rw [this, List.map_id]
          have e2 : ys = (srtL zs).map sOf := by
            rw [← e1, List.map_map]
            have : (sOf ∘ fun s : Str => s.cps.toList) = id := by funext z; exact sOf_list z
            rw [this, List.map_id]
          subst e2
          exact q_lst r (RDs.strs (srtL zs)) t ht
        · subst e; exact hx.elim
      · subst e; exact hx.elim
    · subst e; exact hx.elim
  · subst e; exact hx.elim
end
end PI

set_option maxRecDepth 100000
set_option maxHeartbeats 1000000
/-! PI, part 16: methods of lists and texts; f-strings. -/
namespace PI
open PySem PySem.Spec PyProof.Rows L2
def MR (X : Cx) (G : Gam) (W : WX) (id : String) (F : D → List D → Hh → R D) : Prop :=
  ∀ (pins : List (Addr × Obj)) (s : Shared) (σ : St) (H : Hp) (ρ : List Addr) (h : Hh) (x : D) (a : V) (u : Value) (us : List Value) (vs : List V) (ds : List D) (rt : R D), Inv X pins σ H s → HR X.K G ρ H h → RD X.K G ρ H x a → RelV a u → Vals vs us → RDs X.K G ρ H ds vs → F x ds h = rt → ExcOk X.K G W ρ H σ rt →
    wpAny (model X.prog X.w) X.A (call (.builtin id) (u :: us)) (EP X pins σ (QR X.K G ρ H rt)) X.xe s
/-- the receiver's type -/
def tyD (T : String) (x : D) (h : Hh) : Bool := match x with
  | .str _ => T == "str"
  | .ref i => match h[i]? with
    | some (.lst _) => T == "list"
    | _ => false
  | _ => false
theorem tyD_ok {K : PySem.W.Frag} {G : Gam0} {ρ : List Addr} {H : Hp} {h : Hh} {T : String} {x : D} {a : V} (r : HR K G ρ H h) (d : RD K G ρ H x a) (e : tyD T x h = true) : tyV K T a H := by
  unfold tyD at e
  split at e
  · cases d
    exact beq_iff_eq.mp e
  · obtain ⟨p, ep, rfl⟩ := d
    split at e
    · rename_i xs eo
      obtain ⟨vs, eH, _⟩ := r.at ep eo
      exact .inl ⟨beq_iff_eq.mp e, vs, SqL.of eH⟩
    · cases e
  · cases e
def fBm (T : String) (F : D → List D → Hh → R D) (fo : Ev → Hh → R D) (fr : Ev → Hh → R (List D)) : Ev → Hh → R D := fun env h => (fo env h).bind fun x h1 => if tyD T x h1 = true then (fr env h1).bind (F x) else .bad
section
variable {X : Cx} {G : Gam} {W : WX} {o e : Expr} {es : List Expr} {fo fe : Ev → Hh → R D} {fr : Ev → Hh → R (List D)} {pos apos : Pos}
theorem se_bm {T id : String} {name : Str} {F : D → List D → Hh → R D} (pa : PlainAttrs T) (slot : Slot T name id) (hty : typeOf (.builtin id) = pure (.type "method_descriptor")) (hm : MR X G W id F) (ho : SE X G W o fo) (ha : SA X G W es fr) (hs : ArgsOk X.env es)
    (h1 : nsup o = true) (h2 : (apos.endLine == pos.line) = true) (h3 : methodCallForm es.length (backTo pos (starEach es X.env)) [] = true) : SE X G W (.Call (.Attribute o name apos) es [] pos) (fBm T F fo fr) := by
  intro pins s σ H ρ env h I r er hx
  generalize eq : fBm T F fo fr env h = rt at hx ⊢
  have hp : (backTo pos (starEach es X.env)).any (·.1) = false := by
    have e1 : ((backTo pos (starEach es X.env)).all (fun x => !x.1)) = true := by
      unfold methodCallForm at h3
      rw [Bool.and_eq_true, Bool.and_eq_true] at h3
      exact h3.1.1
    cases hany : (backTo pos (starEach es X.env)).any (·.1) with
    | false => rfl
    | true =>
      obtain ⟨y, hy, e2⟩ := List.any_eq_true.mp hany
      have := List.all_eq_true.mp e1 y hy
      rw [e2] at this
      cases this
  refine wpAny_Call_method_late (attrBase h1) h3 h2 rfl (ho.then I r er eq hx fun x h1 u s1 v ρ1 H1 e1 I1 g1 r1 er1 ru dx hx1 => ?_)
  split at e1
  · rename_i ht
    obtain ⟨t1, t2⟩ := tyV_is I1 ru (tyD_ok r1 dx ht)
    refine ⟨T, id, pa, slot, hty, t1, t2, ?_⟩
    refine Calls.callWith_builtin hp (evalArgs_any hs (ha.then I1 r1 er1 e1 hx1 fun ds h2 us s2 vs ρ2 H2 e2 I2 g2 r2 er2 rv q hx2 => ?_))
    exact thn (hm pins s2 σ H2 ρ2 h2 x v u us vs ds rt I2 r2 (RD.gr g2 x v dx) ru rv q e2 hx2) fun _ _ z => ep_gr (g1.trans g2) z
  · subst e1; exact hx1.elim
/-! ### lists -/
def appD (x : D) (ds : List D) (h : Hh) : R D := match x, ds with
  | .ref i, [y] => match h[i]? with
    | some (.lst xs) => if xs.length < SZ then .ok .non (h.set i (.lst (xs ++ [y]))) else .bad
    | _ => .bad
  | _, _ => .bad
theorem mr_append : MR X G W "list.append" appD := by
  intro pins s σ H ρ h x a u us vs ds rt I r dx ru rv q e hx
  unfold appD at e
  split at e
  · rename_i i y
    obtain ⟨p, ep, rfl⟩ := dx
    obtain ⟨v, vr, rfl, d1, d2⟩ := q
    cases d2
    split at e
    · rename_i xs eo
      obtain ⟨ws, eH, qs⟩ := r.at ep eo
      split at e
      · rename_i hz
        subst e
        have g := Gr.write (ρ := ρ) (v := .lst (ws ++ [v])) eH True.intro
        exact mt_append pins s σ H _ _ u us _ I ru rv ⟨p, ws, v, rfl, rfl, eH, by rw [qs.len, SZ_eq]; exact hz, ρ, g, r.write ep eH True.intro ⟨_, upd_same, RDs.gr g _ _ (qs.app (RDs.one d1))⟩, rfl⟩
      · subst e; exact hx.elim
    · subst e; exact hx.elim
  · subst e; exact hx.elim
def insD' (x : D) (ds : List D) (h : Hh) : R D := match x, ds with
  | .ref i, [.int k, y] => match h[i]? with
    | some (.lst xs) => if xs.length < SZ ∧ 0 ≤ k ∧ k < 2 ^ 63 then .ok .non (h.set i (.lst (xs.take k.toNat ++ [y] ++ xs.drop k.toNat))) else .bad
    | _ => .bad
  | _, _ => .bad
theorem mr_insert : MR X G W "list.insert" insD' := by
  intro pins s σ H ρ h x a u us vs ds rt I r dx ru rv q e hx
  unfold insD' at e
  split at e
  · rename_i i k y
    obtain ⟨p, ep, rfl⟩ := dx
    obtain ⟨v, vr, rfl, d1, v2, vr2, rfl, d2, d3⟩ := q
    cases d3
    cases d1
    split at e
    · rename_i xs eo
      obtain ⟨ws, eH, qs⟩ := r.at ep eo
      split at e
      · rename_i hz
        subst e
        have g := Gr.write (ρ := ρ) (v := .lst (ws.take k.toNat ++ [v2] ++ ws.drop k.toNat)) eH True.intro
        exact mt_insert pins s σ H _ _ u us _ I ru rv ⟨p, ws, k, v2, rfl, rfl, eH, by rw [qs.len, SZ_eq]; exact hz.1, hz.2.1, hz.2.2, ρ, g, r.write ep eH True.intro ⟨_, upd_same, RDs.gr g _ _ (((qs.take _).app (RDs.one d2)).app (qs.drop _))⟩, rfl⟩
      · subst e; exact hx.elim
    · subst e; exact hx.elim
  · subst e; exact hx.elim
/-! ### texts -/
def cps (s : Str) : List Nat := s.cps.toList
theorem sOf_cps' (s : Str) : sOf (cps s) = s := sOf_list s
def splitL (a b : List Nat) : List (List Nat) := (Txt.split (sOf a) (sOf b)).map cps
def splitD (x : D) (ds : List D) (h : Hh) : R D := match x, ds with
  | .str a, [.str b] => if b.length ≠ 0 ∧ a.length + 2 ≤ SZ then .ok (.ref h.length) (h ++ [.lst ((splitL a b).map D.str)]) else .bad
  | _, _ => .bad
theorem mr_split : MR X G W "str.split" splitD := by
  intro pins s σ H ρ h x a u us vs ds rt I r dx ru rv q e hx
  unfold splitD at e
  split at e
  · rename_i a b
    obtain ⟨v, vr, rfl, d1, d2⟩ := q
    cases d2; cases d1; cases dx
    split at e
    · rename_i hz
      subst e
      refine mt_split pins s σ H _ _ u us _ I ru rv ⟨_, _, rfl, rfl, ?_, by rw [sOf_len, SZ_eq]; exact hz.2, fun p hp => ?_⟩
      · rw [sOf_len]
        exact beq_eq_false_iff_ne.mpr hz.1
      · have e1 : (Txt.split (sOf a) (sOf b)) = (splitL a b).map sOf := by
          unfold splitL
          rw [List.map_map]
          have : (sOf ∘ cps) = id := by funext z; exact sOf_list z
          rw [this, List.map_id]
        rw [e1]
        exact q_lst r (RDs.strs (splitL a b)) p hp
    · subst e; exact hx.elim
  · subst e; exact hx.elim
def partL (a b : List Nat) : List Nat × List Nat × List Nat := (cps (Txt.partition (sOf a) (sOf b)).1, cps (Txt.partition (sOf a) (sOf b)).2.1, cps (Txt.partition (sOf a) (sOf b)).2.2)
def partD (x : D) (ds : List D) (h : Hh) : R D := match x, ds with
  | .str a, [.str b] => if b.length ≠ 0 ∧ a.length ≤ SZ then .ok (.tup [.str (partL a b).1, .str (partL a b).2.1, .str (partL a b).2.2]) h else .bad
  | _, _ => .bad
theorem mr_partition : MR X G W "str.partition" partD := by
  intro pins s σ H ρ h x a u us vs ds rt I r dx ru rv q e hx
  unfold partD at e
  split at e
  · rename_i a b
    obtain ⟨v, vr, rfl, d1, d2⟩ := q
    cases d2; cases d1; cases dx
    split at e
    · rename_i hz
      subst e
      refine mt_partition pins s σ H _ _ u us _ I ru rv ⟨_, _, rfl, rfl, ?_, by rw [sOf_len, SZ_eq]; exact hz.2, fun p hp => ?_⟩
      · rw [sOf_len]
        exact beq_eq_false_iff_ne.mpr hz.1
      · refine q_tup r ?_ p hp
        exact ⟨_, _, rfl, by show V.str _ = V.str _; unfold partL; rw [sOf_cps'], _, _, rfl, by show V.str _ = V.str _; unfold partL; rw [sOf_cps'], _, _, rfl, by show V.str _ = V.str _; unfold partL; rw [sOf_cps'], rfl⟩
    · subst e; exact hx.elim
  · subst e; exact hx.elim
/-- the texts, the first one between -/
def joinL (a : List Nat) : List (List Nat) → List Nat
  | [] => []
  | [y] => y
  | y :: z :: r => y ++ a ++ joinL a (z :: r)
def joinSum (a : List Nat) (zs : List (List Nat)) : Nat := (zs.map List.length).sum + zs.length * a.length
def seqD (x : D) (h : Hh) : Option (List D) := match x with
  | .tup xs => some xs
  | .ref i => match h[i]? with
    | some (.lst xs) => some xs
    | _ => none
  | _ => none
def joinD (x : D) (ds : List D) (h : Hh) : R D := match x, ds with
  | .str a, [y] => match (seqD y h).bind strsD with
    | some zs => if joinSum a zs ≤ SZ then .ok (.str (cps (Txt.join (sOf a) (zs.map sOf)))) h else .bad
    | none => .bad
  | _, _ => .bad
theorem seqD_ok {K : PySem.W.Frag} {G : Gam0} {ρ : List Addr} {H : Hp} {h : Hh} {x : D} {a : V} {xs : List D} (r : HR K G ρ H h) (d : RD K G ρ H x a) (e : seqD x h = some xs) : ∃ p vs, a = .ref p ∧ (SqL K H p vs ∨ SqT K H p vs) ∧ RDs K G ρ H xs vs := by
  unfold seqD at e
  split at e
  · cases e
    obtain ⟨p, vs, rfl, h1, q⟩ := d
    exact ⟨p, vs, rfl, .inr h1, q⟩
  · obtain ⟨p, ep, rfl⟩ := d
    split at e
    · rename_i ys eo
      cases e
      obtain ⟨vs, eH, q⟩ := r.at ep eo
      exact ⟨p, vs, rfl, .inl (SqL.of eH), q⟩
    · cases e
  · cases e
theorem mr_join : MR X G W "str.join" joinD := by
  intro pins s σ H ρ h x a u us vs ds rt I r dx ru rv q e hx
  unfold joinD at e
  split at e
  · rename_i a y
    obtain ⟨v, vr, rfl, d1, d2⟩ := q
    cases d2; cases dx
    split at e
    · rename_i zs ez
      split at e
      · rename_i hz
        subst e
        cases e1 : seqD y h with
        | none => rw [e1] at ez; cases ez
        | some ys =>
          rw [e1] at ez
          obtain ⟨p, ws, rfl, hq, qs⟩ := seqD_ok r d1 e1
          obtain ⟨h1, h2⟩ := strsD_ok ez qs
          subst h1
          refine mt_join pins s σ H _ _ u us _ I ru rv ⟨_, p, zs.map sOf, rfl, rfl, hq, ?_, q_same r ?_⟩
          · rw [List.map_map, List.length_map, sOf_len]
            have : ((fun s : Str => s.length) ∘ sOf) = List.length := by funext z; exact sOf_len z
            rw [this]
            exact hz
          · show V.str _ = V.str _
            rw [sOf_cps']
      · subst e; exact hx.elim
    · subst e; exact hx.elim
  · subst e; exact hx.elim
/-! ### f-strings -/
def fmtD (x : D) (h : Hh) : R D := match x with
  | .str z => if z.length ≤ SZ then .ok (.str z) h else .bad
  | .int i => if i.natAbs.log2 < 1920 then .ok (.str (digs i)) h else .bad
  | _ => .bad
def fFmt (fe : Ev → Hh → R D) : Ev → Hh → R D := fun env h => (fe env h).bind fmtD
theorem se_fmt (he : SE X G W e fe) : SE X G W (.FormattedValue e (-1) none pos) (fFmt fe) := by
  intro pins s σ H ρ env h I r er hx
  generalize eq : fFmt fe env h = rt at hx ⊢
  refine wpAny_FormattedValue_plain (he.then I r er eq hx fun x h1 u s1 v ρ1 H1 e1 I1 g1 r1 er1 ru dx hx1 => ?_)
  unfold fmtD at e1
  split at e1
  · rename_i z
    split at e1
    · rename_i hz
      subst e1
      cases dx
      obtain ⟨t, rfl⟩ := ru
      exact wpAny_formatField_str ⟨.str (sOf z), H1, I1, ⟨t, rfl⟩, ρ1, g1, r1, rfl⟩ ⟨.str (sOf z), H1, I1.tok _, ⟨_, rfl⟩, ρ1, g1, r1, rfl⟩ (by rw [sOf_len, SZ_eq]; exact hz)
    · subst e1; exact hx1.elim
  · rename_i i
    split at e1
    · rename_i hz
      subst e1
      cases dx
      obtain ⟨t, rfl⟩ := ru
      exact wpAny_formatField_int hz ⟨.str (toString i), H1, I1.tok _, ⟨_, rfl⟩, ρ1, g1, r1, by show V.str _ = V.str _; rw [digs, sOf_list]⟩
    · subst e1; exact hx1.elim
  · subst e1; exact hx1.elim
/-- the parts of an f-string -/
inductive SJ (X : Cx) (G : Gam) (W : WX) : List Expr → List (Ev → Hh → R D) → Prop where
  | nil : SJ X G W [] []
  | cons {e : Expr} {f : Ev → Hh → R D} {es : List Expr} {fs : List (Ev → Hh → R D)} (h : SE X G W e f) (r : SJ X G W es fs) : SJ X G W (e :: es) (f :: fs)
def fJs : List (Ev → Hh → R D) → List Nat → Ev → Hh → R D
  | [], acc => fun _ h => .ok (.str acc) h
  | f :: fs, acc => fun env h => (f env h).bind fun x h1 => match x with
    | .str y => if (acc ++ y).length ≤ SZ then fJs fs (acc ++ y) env h1 else .bad
    | _ => .bad
theorem sj_run {pins : List (Addr × Obj)} {σ : St} {env : Ev} {rt : R D} {ρ0 : List Addr} {H0 : Hp} {es : List Expr} {fs : List (Ev → Hh → R D)} (hj : SJ X G W es fs) : ∀ (acc : List Nat) (s : Shared) (H : Hp) (ρ : List Addr) (h : Hh), acc.length ≤ SZ → Inv X pins σ H s → HR X.K G ρ H h → ER X.K G ρ H env σ → Gr ρ0 H0 ρ H → fJs fs acc env h = rt → ExcOk X.K G W ρ H σ rt →
    Joins (model X.prog X.w) X.A X.xe (evalEach es X.env) (sOf acc) (fun out s1 => out.length ≤ sizeLine ∧ EP X pins σ (QR X.K G ρ0 H0 rt) (.str out s1.toks) { s1 with toks := s1.toks + 1 }) s := by
  induction hj with
  | nil =>
    intro acc s H ρ h hz I r er g e hx
    have e0 : evalEach [] X.env = [] := by first | rfl | simp [evalEach]
    rw [e0]
    have e' : R.ok (D.str acc) h = rt := e
    subst e'
    exact ⟨by rw [sOf_len, SZ_eq]; exact hz, .str (sOf acc), H, I.tok _, ⟨_, rfl⟩, ρ, g, r, rfl⟩
  | @cons e f es fs he hr ih =>
    intro acc s H ρ h hz I r er g eq hx
    have e0 : evalEach (e :: es) X.env = eval e X.env :: evalEach es X.env := by first | rfl | simp [evalEach]
    rw [e0]
    refine he.then I r er eq hx fun x h1 u s1 v ρ1 H1 e1 I1 g1 r1 er1 ru dx hx1 => ?_
    split at e1
    · rename_i y
      split at e1
      · rename_i hy
        cases dx
        obtain ⟨tk, rfl⟩ := ru
        refine ⟨sOf y, tk, rfl, ?_, ?_⟩
        · rw [sOf_app, sOf_len, SZ_eq]
          exact hy
        · rw [sOf_app]
          exact ih (acc ++ y) s1 H1 ρ1 h1 hy I1 r1 er1 (g.trans g1) e1 hx1
      · subst e1; exact hx1.elim
    · subst e1; exact hx1.elim
theorem se_joined {v1 v2 : Expr} {rest : List Expr} {fs : List (Ev → Hh → R D)} (hj : SJ X G W (v1 :: v2 :: rest) fs) : SE X G W (.JoinedStr (v1 :: v2 :: rest) pos) (fJs fs []) := by
  intro pins s σ H ρ env h I r er hx
  have z := sj_run (ρ0 := ρ) (H0 := H) hj [] s H ρ h (Nat.zero_le _) I r er Gr.refl rfl hx
  exact wpAny_JoinedStr z
end
end PI

set_option maxRecDepth 100000
set_option maxHeartbeats 1000000
/-! PI, part 17: a def's body told, its promise. -/
namespace PI
open PySem PySem.Spec PyProof.Rows L2
/-- what a body hands back -/
def rtR : RS → R D
  | .nx _ h => .ok .non h
  | .rt d h => .ok d h
  | .exc c fs _ h => .exc c fs h
  | _ => .bad
def stE (n : Nat) (ds : List D) : Ev := ds.map some ++ List.replicate (n - ds.length) none
theorem er_start {K : PySem.W.Frag} {G : Gam} {ρ : List Addr} {H : Hp} {N : List Str} {ds : List D} {vs : List V} (q : RDs K G ρ H ds vs) (hj : G.jr = []) (hh : G.jh = fun _ => none) (hx : G.jx = none) : ER K G ρ H (stE N.length ds) (L2.start N vs) := by
  refine ⟨?_, ?_, (fun j a e => by rw [hx] at e; cases e), fun i d e => ?_⟩
  · unfold stE L2.start
    rw [List.length_append, List.length_append, List.length_map, List.length_map, List.length_replicate, List.length_replicate, q.len]
  · rw [hj, hh]
    exact ⟨⟨ρ, rfl⟩, fun a o e _ => by cases e⟩
  · unfold stE at e
    by_cases hi : i < ds.length
    · rw [List.getElem?_append_left (by simpa using hi), List.getElem?_map] at e
      cases e2 : ds[i]? with
      | none => rw [e2] at e; cases e
      | some d' =>
        rw [e2] at e
        cases e
        obtain ⟨v, ev, dv⟩ := q.get e2
        exact ⟨v, start_at ev, dv⟩
    · rw [List.getElem?_append_right (by simpa using hi), List.getElem?_replicate] at e
      split at e <;> cases e
/-- how arguments are bound -/
def BdOk (P : Program) (w : World) (K : PySem.W.Frag) (mg : Str → Option Value) (base : Heap) (G : Gam0) (fd : FuncData) (ps : List Str) (bd : List D → Option (List D)) : Prop :=
  ∀ (A : Around) (outer : List Env) (s : Shared) (H : Hp) (us : List Value) (vs : List V) (ds ds' : List D) (ρ : List Addr) (h : Hh) (A' : Around) (Ex : Value → Shared → Prop) (Q : List (Str × Value) → Shared → Prop), Env0 P w K mg base A outer s H → Vals vs us → HR K G ρ H h → RDs K G ρ H ds vs → bd ds = some ds' →
    (∀ (s2 : Shared) (H2 : Hp) (vs2 : List V) (us2 : List Value), Env0 P w K mg base A outer s2 H2 → Un (frs outer) [] H H2 s.heap s2.heap → (∀ b o, s.heap.get? b = some o → s2.heap.get? b = some o ∧ (H b = none → H2 b = none)) → s2.os = s.os → Gr ρ H ρ H2 → HR K G ρ H2 h → RDs K G ρ H2 ds' vs2 → Vals vs2 us2 → vs2.length = ps.length →
      Q (ps.zip us2) s2) → wpAny (model P w) A' (bindArgs fd ⟨us, []⟩) Q Ex s
theorem un_refl {fs : List Addr} {H : Hp} {h : Heap} : Un fs [] H H h h := ⟨fun _ _ q _ _ _ => q, fun _ o q _ _ _ => ⟨o.slots, q⟩, fun _ _ _ n _ => n, fun _ o q _ => ⟨o, q⟩, fun _ _ q => q, fun _ _ _ q => q, fun _ _ q => ⟨#[], by rw [q]; simp⟩⟩
/-- every parameter is given -/
def bdAll (n : Nat) (ds : List D) : Option (List D) := if ds.length = n then some ds else none
theorem bd_all {P : Program} {w : World} {K : PySem.W.Frag} {mg : Str → Option Value} {base : Heap} {G : Gam0} {fd : FuncData} {ps : List Str} (hb : Binds K fd ps []) : BdOk P w K mg base G fd ps (bdAll ps.length) := by
  intro A outer s H us vs ds ds' ρ h A' Ex Q e0 rv r q e k
  unfold bdAll at e
  split at e
  · rename_i hl
    cases e
    have hv : us.length = ps.length := by rw [← rv.length, q.len, hl]
    have KX : K.In s.heap := e0.mod.kin.keeps fun b o e => (e0.bs b o e).1
    have b := hb s us KX (by rw [List.append_nil]; exact hv)
    rw [List.append_nil] at b
    exact b _ A' _ _ (k s H vs us e0 un_refl (fun b o e => ⟨e, id⟩) rfl Gr.refl r q rv (by rw [rv.length, hv]))
  · cases e
/-- def f(a, .., *v) -/
def bdStar (n : Nat) (ds : List D) : Option (List D) := if n ≤ ds.length ∧ ds.length ≤ SZ then some (ds.take n ++ [.tup (ds.drop n)]) else none
theorem bd_star {P : Program} {w : World} {K : PySem.W.Frag} {mg : Str → Option Value} {base : Heap} {G : Gam0} {fd : FuncData} {ps : List Str} {pv : Str}
    (hb : ∀ us rest : List Value, us.length = ps.length → bindArgs fd ⟨us ++ rest, []⟩ = (newTuple rest >>= fun t => pure (ps.zip us ++ [(pv, t)]))) : BdOk P w K mg base G fd (ps ++ [pv]) (bdStar ps.length) := by
  intro A outer s H us vs ds ds' ρ h A' Ex Q e0 rv r q e k
  unfold bdStar at e
  split at e
  · rename_i hl
    cases e
    have eu : us.take ps.length ++ us.drop ps.length = us := List.take_append_drop _ _
    have hv : us.length = ds.length := by rw [← rv.length, q.len]
    have hl1 : (us.take ps.length).length = ps.length := by rw [List.length_take, hv]; omega
    have hl2 : (us.drop ps.length).length ≤ sizeLine := by rw [List.length_drop, hv, SZ_eq]; omega
    have hl3 : (vs.drop ps.length).length ≤ sizeLine := by rw [List.length_drop, q.len, SZ_eq]; omega
    rw [← eu, hb _ _ hl1]
    have hn : H s.heap.objs.size = none := e0.hok.fresh (Nat.le_refl _)
    refine wpAny_bind (wpAny_newTuple (wpAny_pure ?_) hl2)
    have r2 : Vals (vs.drop ps.length) (us.drop ps.length) := rv.drop _
    have r1 : Vals (vs.take ps.length) (us.take ps.length) := rv.take _
    have new : ObjOk P w (upd H s.heap.objs.size (.tup (vs.drop ps.length))) (s.heap.push ({ cls := .type "tuple", data := .seq (us.drop ps.length).toArray } : Obj)) s.heap.objs.size (.tup (vs.drop ps.length)) := ⟨hl3, us.drop ps.length, r2, ⟨_, Heap.get?_push_size _ rfl, rfl, _, rfl⟩⟩
    have un := StX.un_laid (fs := frs outer) (s := s) (o := ({ cls := .type "tuple", data := .seq (us.drop ps.length).toArray } : Obj)) (u := .tup (vs.drop ps.length)) hn
    have g : Gr ρ H ρ (upd H s.heap.objs.size (.tup (vs.drop ps.length))) := Gr.newImm hn
    have z := k { s with heap := s.heap.push ({ cls := .type "tuple", data := .seq (us.drop ps.length).toArray } : Obj) } (upd H s.heap.objs.size (.tup (vs.drop ps.length))) (vs.take ps.length ++ [V.ref s.heap.objs.size]) (us.take ps.length ++ [Value.ref s.heap.objs.size]) (StX.env0_laid e0 new) un
      (fun b o e => ⟨Heap.get?_push_of_some _ e, fun n => by rw [upd_ne (Nat.ne_of_lt (Heap.lt_size e))]; exact n⟩) rfl g (r.newImm hn)
      ((RDs.gr g _ _ (q.take _)).app (RDs.one ⟨s.heap.objs.size, _, rfl, SqT.of upd_same, RDs.gr g _ _ (q.drop _)⟩)) (r1.append (.cons rfl .nil))
      (by rw [List.length_append, List.length_append, List.length_take, q.len]; simp; omega)
    rw [List.zip_append hl1.symm] at z
    exact z
  · cases e
/-- the last ones by default: ws fills up -/
def bdDef (n : Nat) (ws : List D) (ds : List D) : Option (List D) := if ds.length + ws.length = n then some (ds ++ ws) else none
theorem bd_def {P : Program} {w : World} {K : PySem.W.Frag} {mg : Str → Option Value} {base : Heap} {G : Gam0} {fd : FuncData} {ps : List Str} {ws : List D} {xs : List V} {xu : List Value} (hb : Binds K fd ps xu) (rx : Vals xs xu) (qx : ∀ ρ H, RDs K G ρ H ws xs) : BdOk P w K mg base G fd ps (bdDef ps.length ws) := by
  intro A outer s H us vs ds ds' ρ h A' Ex Q e0 rv r q e k
  unfold bdDef at e
  split at e
  · rename_i hl
    cases e
    have hv : (us ++ xu).length = ps.length := by rw [List.length_append, ← rv.length, q.len, ← rx.length, (qx ρ H).len]; exact hl
    have KX : K.In s.heap := e0.mod.kin.keeps fun b o e => (e0.bs b o e).1
    exact hb s us KX hv _ A' _ _ (k s H (vs ++ xs) (us ++ xu) e0 un_refl (fun b o e => ⟨e, id⟩) rfl Gr.refl r (q.app (qx ρ H)) (rv.append rx) (by rw [← hv, (rv.append rx).length]))
  · cases e
/-- one or the other -/
theorem bd_or {P : Program} {w : World} {K : PySem.W.Frag} {mg : Str → Option Value} {base : Heap} {G : Gam0} {fd : FuncData} {ps : List Str} {b1 b2 : List D → Option (List D)} (h1 : BdOk P w K mg base G fd ps b1) (h2 : BdOk P w K mg base G fd ps b2) : BdOk P w K mg base G fd ps (fun ds => match b1 ds with | some x => some x | none => b2 ds) := by
  intro A outer s H us vs ds ds' ρ h A' Ex Q e0 rv r q e k
  have e' : (match b1 ds with | some x => some x | none => b2 ds) = some ds' := e
  cases e1 : b1 ds with
  | some x => rw [e1] at e'; exact h1 A outer s H us vs ds ds' ρ h A' Ex Q e0 rv r q (by rw [e1]; exact e') k
  | none => rw [e1] at e'; exact h2 A outer s H us vs ds ds' ρ h A' Ex Q e0 rv r q e' k
/-- the context of a def's body -/
structure XIn (m : Bool) (k : Nat) (W : WX) (X : Cx) (P : Program) (w : World) (K : PySem.W.Frag) (mg : Str → Option Value) (base : Heap) (N : List Str) (sc : Scope) : Prop where
  prog : X.prog = P
  w : X.w = w
  K : X.K = K
  mg : X.mg = mg
  base : X.base = base
  N : X.N = N
  sc : X.env.scope = sc
  ok : XOk m k W X
/-- .. of its statements -/
structure XSt (m : Bool) (X : Cx) : Prop where
  own : PassesOwn (model X.prog X.w) X.A X.env X.xe
  stack : X.stack = X.env :: X.outer
  frame : X.env.frame = some X.env.locals
  fn : ∀ x, X.fn x = true
  calm : m = false → X.calm = true
abbrev Gam0.st (G : Gam0) : Gam := { toGam0 := G, jr := [], jh := fun _ => none, jx := none }
theorem cxUpN {P : Program} {w : World} : StX.CXUp (L2N.CX P w) := by
  rintro outer s H s2 H2 E e s' un kp ho ⟨a, B, H', cls, d, ea, fl, hok, ub, na, os, ag, he⟩
  refine ⟨a, B, H', cls, d, ea, fl, hok, ⟨fun b o q n hb => ub.keep b o (kp b o q) (un.free b o q n (by simp)) hb, fun b o q hb => ub.slot b o (kp b o q) hb, fun b o q n => ub.free b o (kp b o q) (un.free b o q n (by simp)),
    fun b o q hb => ub.there b o (kp b o q) hb, fun b xs q => ub.tups b xs (un.tups b xs q), fun b o xs q => ub.frzs b o xs (un.frzs b o xs q), fun b ps q => ?_⟩, na, os.trans ho, ag, he⟩
  obtain ⟨m1, e1⟩ := un.tbls b ps q
  obtain ⟨m2, e2⟩ := ub.tbls b _ e1
  exact ⟨m1 ++ m2, by rw [e2, Array.append_assoc]⟩
section
variable {m : Bool} {P : Program} {w : World} {K : PySem.W.Frag} {mg : Str → Option Value} {base : Heap} {G : Gam0} {k : Nat} {f : Addr} {name qual : Str} {params : Arguments} {body : List Stmt} {scope : Scope} {dV kV doc pm cdv ct oc : Value} {an od : Option Addr} {osl : Array (Option Value)} {N ps : List Str}
def fFn (n : Nat) (bd : List D → Option (List D)) (fb : Ev → Hh → RS) (ds : List D) (h : Hh) : R D := match bd ds with
  | some ds' => rtR (fb (stE n ds') h)
  | none => .bad
theorem pf_of {bd : List D → Option (List D)} {fb : Ev → Hh → RS} (lk : K.lookup f = some ⟨oc, od, .func (PySem.W.fnOf name qual params body scope dV kV doc pm an cdv ct), osl⟩) (hcd : PySem.W.codeIn K cdv qual = true) (S : FnScope N ps scope)
    (hb : BdOk P w K mg base G (PySem.W.fnOf name qual params body scope dV kV doc pm an cdv ct) ps bd) (hbody : ∀ (X : Cx) (W : WX), XIn m k W X P w K mg base N scope → XSt m X → SSs X G.st W body fb) : PF m P w K mg base G (k + 1) f (fFn N.length bd fb) := by
  intro A outer s H us vs ds ρ h E hr am e0 rv r q hx
  unfold fFn at hx ⊢
  cases eb : bd ds with
  | none => rw [eb] at hx; exact hx.elim
  | some ds' =>
    rw [eb] at hx
    have hx' : ExcOkE m K G E ρ H (rtR (fb (stE N.length ds') h)) := hx
    show codeAny _ _ _ (CR (L2N.CX P w) outer P w H s (QR K G ρ H (rtR (fb (stE N.length ds') h))) E) _
    have KX : K.In s.heap := e0.mod.kin.keeps fun b o e => (e0.bs b o e).1
    refine codeAny_call_function hr.depth (KX _ _ lk) rfl S.co S.gen rfl (PySem.W.codeRec_of KX hcd) ?_
    refine hb A outer s H us vs ds ds' ρ h _ _ _ e0 rv r q eb fun s2 H2 vs2 us2 e2 un kp ho g2 r2 q2 rv2 hl2 => ?_
    have lim : s2.heap.NoLimit := e0.mod.nolimit.keeps fun b o e => (e2.bs b o e).1
    have hkind : ∀ y ∈ ps.zip us2, scope.names.lookup y.1 = some .local ∨ (scope.names.lookup y.1 = some .cell ∧ ((cellsFrom (s2.heap.objs.size + 1) scope.names []).lookup y.1).isSome = true) := fun y hy => by
      rcases S.par y.1 (List.of_mem_zip hy).1 with q | q
      · exact .inl q
      · exact .inr ⟨q, PySem.W.cellsFrom_some _ _ _ (.inl q)⟩
    refine wpAny_newFunctionEnv_cells (s := s2) S.kind hkind fun env he s1 x => ?_
    subst he
    refine ⟨lim.keeps x.toInCall.keep, codeAny_func ?_⟩
    have er0 : ER K G.st ρ H2 (stE N.length ds') (L2.start N vs2) := er_start (G := G.st) q2 rfl rfl rfl
    have CXl : ∀ e s', L2N.CX P w outer H2 s2 E e s' → L2N.CX P w outer H s E e s' := fun e s' => cxUpN outer s H s2 H2 E e s' un (fun b o q => (kp b o q).1) ho
    -- the end of the body, in either context
    have fin : ∀ (X : Cx), X.prog = P → X.w = w → X.K = K → X.fs = frs outer → X.ex = [] → X.H_0 = H2 → X.s_0 = s2 → ∀ (W : WX) (fl : Flow) (s' : Shared), SP X [] (DE K G.st ρ H2 (fb (stE N.length ds') h)) fl s' → (match (match fl with | .ret v => (.ok (.ret v) : Result) | _ => .ok (.ret .none)) with | .ok (.ret u) => CE outer P w H s (QR K G ρ H (rtR (fb (stE N.length ds') h))) u s' | .ok _ => False | .error e => L2N.CX P w outer H s E e s') := by
      intro X hP hw hK hfs hex hH hs W fl s' hsp
      subst hP hw hK
      have done : ∀ {σ' : L2.St} {H' : Hp} {v' : V} {u' : Value}, Inv X [] σ' H' s' → RelV v' u' → QR X.K G ρ H2 (rtR (fb (stE N.length ds') h)) v' H' → CE outer X.prog X.w H s (QR X.K G ρ H (rtR (fb (stE N.length ds') h))) u' s' := by
        intro σ' H' v' u' J rv' q'
        have B := J.base
        rw [hfs, hex, hH, hs] at B
        exact ⟨v', H', (by have := J.os; rw [hs] at this; exact this.trans ho), J.bare, un.trans B, J.hok, rv', q'.gr g2⟩
      cases efb : fb (stE N.length ds') h with
      | nx env1 h1 =>
        rw [efb] at hsp done
        cases fl with
        | next =>
          obtain ⟨σ', H', J, ρ', g', r', er'⟩ := hsp
          exact done (v' := V.non) (u' := Value.none) J rfl ⟨ρ', g', r', rfl⟩
        | ret u => obtain ⟨_, _, _, _, _, z⟩ := hsp; exact z.elim
        | brk => obtain ⟨_, _, _, z⟩ := hsp; exact z.elim
        | cont => obtain ⟨_, _, _, z⟩ := hsp; exact z.elim
      | rt d1 h1 =>
        rw [efb] at hsp done
        cases fl with
        | ret u =>
          obtain ⟨v', σ', H', J, rv', ρ', g', r', d'⟩ := hsp
          exact done J rv' ⟨ρ', g', r', d'⟩
        | next => obtain ⟨_, _, _, z⟩ := hsp; exact z.elim
        | brk => obtain ⟨_, _, _, z⟩ := hsp; exact z.elim
        | cont => obtain ⟨_, _, _, z⟩ := hsp; exact z.elim
      | bk env1 h1 => rw [efb] at hx'; exact hx'.elim
      | ct env1 h1 => rw [efb] at hx'; exact hx'.elim
      | bad => rw [efb] at hx'; exact hx'.elim
      | exc c fs env1 h1 =>
        rw [efb] at hsp
        cases fl with
        | ret u => obtain ⟨_, _, _, _, _, z⟩ := hsp; exact z.elim
        | next => obtain ⟨_, _, _, z⟩ := hsp; exact z.elim
        | brk => obtain ⟨_, _, _, z⟩ := hsp; exact z.elim
        | cont => obtain ⟨_, _, _, z⟩ := hsp; exact z.elim
    have hxs : ExcOkS K G.st (callE m (fun cls d _ H' => E cls d H') [] |> fun e => fun cls d _ H' => e cls d H') ρ H2 (fb (stE N.length ds') h) := by
      cases efb : fb (stE N.length ds') h with
      | exc c fs env1 h1 =>
        rw [efb] at hx'
        exact fun dd ρ' H' σ' g' r' er' xd => ⟨hx'.1, hx'.2 dd ρ' H' (g2.trans g') r' xd⟩
      | bk env1 h1 => trivial
      | ct env1 h1 => trivial
      | bad => rw [efb] at hx'; exact hx'.elim
      | _ => trivial
    cases m with
    | false =>
      have hd : A.handled = none := am.2 rfl
      have I : Inv (cxOf (L2N.CX P w) P w K mg base N qual scope f cdv A outer s2 H2 E) [] (L2.start N vs2) H2 s1 := inv_start S hd e2 hl2 rv2 x
      have ok : XOk false k (fun cls d _ H' => callE false (fun cls d _ H' => E cls d H') [] cls d H') (cxOf (L2N.CX P w) P w K mg base N qual scope f cdv A outer s2 H2 E) :=
        ⟨hr.deeper _, hd, fun _ => (L2N.takes_of (E := E) rfl rfl rfl rfl).imp fun c d σ H z => z.2⟩
      have B := hbody _ _ ⟨rfl, rfl, rfl, rfl, rfl, rfl, rfl, ok⟩ ⟨L2.passes_of rfl, rfl, rfl, fun _ => rfl, fun _ => rfl⟩
      refine wpAny_mono (B [] s1 _ H2 ρ _ h I r2 er0 hxs) (fun fl s' hs => ?_) fun e s' hs => ?_
      · have z := fin _ rfl rfl rfl rfl rfl rfl rfl (fun _ _ _ _ => True) fl s' hs
        cases fl <;> exact z
      · exact wpAny_mono hs (fun _ s'' z => CXl e s'' z) fun e' s'' z => CXl e' s'' z
    | true =>
      obtain ⟨p, hot, hpin⟩ := am.1 rfl
      have hpin2 : L2H.PinOk outer H2 s2 p := ⟨(kp _ _ hpin.get).1, (kp _ _ hpin.get).2 hpin.free, hpin.nofs, hpin.nocell⟩
      have I : Inv (L2H.cxH (L2N.CX P w) P w K mg base N qual scope f cdv A outer s2 H2 E p) [] (L2.start N vs2) H2 s1 := L2H.inv_startH S hpin2 e2 hl2 rv2 x
      have ok : XOk true k (fun cls d _ H' => callE true (fun cls d _ H' => E cls d H') [] cls d H') (L2H.cxH (L2N.CX P w) P w K mg base N qual scope f cdv A outer s2 H2 E p) :=
        ⟨hr.deeper _, ⟨p, ⟨hot.1, hot.2⟩, List.mem_cons_self⟩, fun z => by cases z⟩
      have B := hbody _ _ ⟨rfl, rfl, rfl, rfl, rfl, rfl, rfl, ok⟩ ⟨L2.passes_of rfl, rfl, rfl, fun _ => rfl, fun z => by cases z⟩
      refine wpAny_mono (B [] s1 _ H2 ρ _ h I r2 er0 hxs) (fun fl s' hs => ?_) fun e s' hs => ?_
      · have z := fin _ rfl rfl rfl rfl rfl rfl rfl (fun _ _ _ _ => True) fl s' hs
        cases fl <;> exact z
      · exact wpAny_mono hs (fun _ s'' z => CXl e s'' z) fun e' s'' z => CXl e' s'' z
end
end PI

set_option maxRecDepth 100000
set_option maxHeartbeats 1000000
/-! PI, part 18: isinstance. -/
namespace PI
open PySem PySem.Spec PyProof.Rows L2
inductive Kd where | non | bl | int | str | tup | lst | dic | ins (c : Nat)
  deriving DecidableEq
def Kd.val (G : Gam0) : Kd → Value
  | .non => .type "NoneType" | .bl => .type "bool" | .int => .type "int" | .str => .type "str" | .tup => .type "tuple" | .lst => .type "list" | .dic => .type "dict" | .ins c => .ref (G.ca c)
def kdD (x : D) (h : Hh) : Option Kd := match x with
  | .non => some .non | .bl _ => some .bl | .int _ => some .int | .str _ => some .str | .tup _ => some .tup
  | .ref i => match h[i]? with
    | some (.lst _) => some .lst
    | some (.ins c _) => some (.ins c)
    | some (.dic _) => some .dic
    | none => none
  | _ => none
/-- a class, as data: a built-in type's name, or a class of the program -/
inductive Cl where | bt (n : String) | own (c : Nat)
  deriving DecidableEq
def Cl.val (G : Gam0) : Cl → Value
  | .bt n => .type n | .own c => .ref (G.ca c)
def clD (x : D) : Option Cl := match x with
  | .ty n => some (.bt n) | .cls c => some (.own c) | _ => none
abbrev IsT := List ((Kd × Cl) × Bool)
structure InsOk (K : PySem.W.Frag) (G : Gam0) (c : Nat) : Prop where
  cl : Cls K (G.ca c)
  ha : PySem.W.findIn K (.ref (G.ca c)) "__class__" = some (some (.builtin "object.__class__"))
  hn : PySem.W.specialIn K (.builtin "object.__class__") "__get__" = some (some (.builtin "getset_descriptor.__get__"))
  ht : PySem.W.takesIn K (.builtin "object.__class__") = some true
  hm : PySem.W.mroIn K (G.ca c) (.type "object") = some true
structure IsOk (K : PySem.W.Frag) (G : Gam0) (tab : IsT) (ins : Nat → Bool) : Prop where
  one : ∀ k c b, tab.lookup (k, c) = some b → PySem.W.kitOne K (k.val G) (c.val G) = some b
  ins : ∀ c, ins c = true → InsOk K G c
def insK (ins : Nat → Bool) : Kd → Bool
  | .ins c => ins c
  | _ => true
def isiD (tab : IsT) (ins : Nat → Bool) (ds : List D) (h : Hh) : R D := match ds with
  | [x, t] => match kdD x h, clD t with
    | some k, some c => if insK ins k = true then (match tab.lookup (k, c) with | some b => .ok (.bl b) h | none => .bad) else .bad
    | _, _ => .bad
  | _ => .bad
section
variable {X : Cx} {G : Gam} {W : WX}
theorem kd_ok {tab : IsT} {ins : Nat → Bool} {K : PySem.W.Frag} {G : Gam0} {ρ : List Addr} {H : Hp} {h : Hh} {x : D} {a : V} {k : Kd} (T : IsOk K G tab ins) (r : HR K G ρ H h) (d : RD K G ρ H x a) (e : kdD x h = some k) (hi : insK ins k = true) : TyX K H a (k.val G) := by
  unfold kdD at e
  split at e
  · cases e; cases d; exact .base .non
  · cases e; cases d; exact .base (.bl _)
  · cases e; cases d; exact .base (.int _)
  · cases e; cases d; exact .base (.str _)
  · cases e
    obtain ⟨p, vs, rfl, h1, _⟩ := d
    rcases h1 with (h1 | ⟨o, h1⟩) | ⟨o, its, n, h1, h2, _⟩
    · exact .base (.tup h1)
    · exact .fTuple h1
    · exact .kTuple h1 h2
  · obtain ⟨p, ep, rfl⟩ := d
    split at e
    · rename_i xs eo
      cases e
      obtain ⟨vs, eH, _⟩ := r.at ep eo
      exact .base (.lst eH)
    · rename_i c fs eo
      cases e
      obtain ⟨dd, gs, eH, _⟩ := r.at ep eo
      have I := T.ins c hi
      exact .base (.ins eH I.cl I.ha I.hn I.ht I.hm)
    · rename_i kvs eo
      cases e
      obtain ⟨gs, eH, _⟩ := r.at ep eo
      exact .base (.dK eH)
    · cases e
  · cases e
theorem br_isi {tab : IsT} {ins : Nat → Bool} (T : IsOk X.K G tab ins) : BR X G W (.builtin "isinstance") (isiD tab ins) := by
  intro pins s σ H ρ h us vs ds rt I r rv q e hx
  unfold isiD at e
  split at e
  · rename_i x t
    obtain ⟨v, vr, rfl, d1, v2, vr2, rfl, d2, d3⟩ := q
    cases d3
    split at e
    · rename_i k c ek ec
      split at e
      · rename_i hi
        split at e
        · rename_i b eb
          subst e
          have ty := kd_ok T r d1 ek hi
          have hc : ClsV v2 (c.val G) := by
            unfold clD at ec
            split at ec
            · cases ec
              obtain rfl : v2 = _ := d2
              exact .ty _
            · cases ec
              obtain rfl : v2 = _ := d2
              exact .own _
            · cases ec
          exact call_isi pins s σ H _ us _ I rv ⟨v, v2, _, _, b, rfl, hc, ty, T.one k c b eb, q_same r rfl⟩
        · subst e; exact hx.elim
      · subst e; exact hx.elim
    · subst e; exact hx.elim
  · subst e; exact hx.elim
end
/-! ### of the exception that a suite holds -/
section
open PySem.W Builtin
variable {prog : Program} {w : World} {A : Around} {E : Value → Shared → Prop} {s : Shared} {K : Frag} {x D : Addr} {ox : Obj} {od : Option Obj}
theorem xcls_get {Q : Option Value → Shared → Prop} (hga : findIn K (.ref D) "__getattribute__" = some (some (.builtin "BaseException.__getattribute__"))) (hgt : findIn K (.ref D) "__getattr__" = some none) (hsub : subIn K (.ref D) (.type "BaseException") = some true)
    (hf : findObj K D od "__class__" = some (.bind (.builtin "getset_descriptor.__get__") (.builtin "object.__class__"))) (hm : mroIn K D (.type "object") = some true)
    (X : K.In s.heap) (I : InstAt s.heap x ox D od) (h : Q (some (.ref D)) { s with toks := s.toks + 1 }) : wpAny (model prog w) A (getAttr? (.ref x) "__class__") Q E s := by
  obtain ⟨hp, g, d, t, os⟩ := s
  have L0 := I.type (M := model prog w)
  have L1 := looks_findIn (M := model prog w) X hga
  have L2 := looks_findIn (M := model prog w) X hgt
  have L3 := looks_find (M := model prog w) X I hf
  have sub : Looks (model prog w) hp (isInstance (.ref x) (.type "BaseException")) true := L0.andThen (looks_subIn X hsub)
  have hx0 : (false && onTheHeap (Value.builtin "BaseException.__getattribute__")) = false := rfl
  have hx2 : (Value.builtin "BaseException.__getattribute__" == Value.builtin "object.__getattribute__") = false := by decide +kernel
  have hx1 : (onTheHeap (Value.ref D) && Value.builtin "BaseException.__getattribute__" == Value.builtin "object.__getattribute__") = false := by rw [hx2]; rfl
  unfold getAttr? getAttrBy? getAttrBy
  refine wpAny_bind (wpAny_mkText (wpAny_bind (wpAny_attempt (wpAny_holding (wpAny_bind (L0.at (wpAny_bind (L1.at ?_))))))))
  show wpAny _ _ (if (onTheHeap (Value.ref D) && Value.builtin "BaseException.__getattribute__" == Value.builtin "object.__getattribute__") = true then _ else _) _ _ _
  rw [hx1, if_neg Bool.false_ne_true]
  unfold getAttrByItsOwn hookBefore
  refine wpAny_bind ?_
  rw [if_pos (show onTheHeap (Value.ref D) = true from rfl)]
  refine L2.at ?_
  refine wpAny_bind (wpAny_attempt (wpAny_holding ?_))
  unfold callGetattribute
  rw [hx0, if_neg Bool.false_ne_true]
  unfold boundAndCalled
  rw [PySem.F.excAttr_ValueError.ga.bind (.ref x)]
  refine wpAny_bind (wpAny_pure ?_)
  show wpAny _ _ (call (.builtin "BaseException.__getattribute__") [.ref x, .str "__class__" t]) _ _ _
  refine wpAny_call (codeAny_call_builtin PySem.F.excAttr_ValueError.ga.plain PySem.F.entry_bexc_ga ?_)
  refine @check_slot (model prog w) _ _ ⟨hp, g, d, t + 1, os⟩ "BaseException.__getattribute__" "BaseException" "__getattribute__" (.ref x) [.str "__class__" t] [] _ (by decide +kernel) (by decide +kernel) sub (PySem.F.args_bexc_ga (.ref x) (.str "__class__" t)) ?_
  unfold Builtin.«object.__getattribute__»
  refine wpAny_bind (wpAny_of_eq (a := ((Value.ref x : Value), [Value.str "__class__" t])) (by first | rfl | (simp only [slotArgs]; rfl)) ?_)
  refine wpAny_bind (wpAny_pure (wpAny_bind (L0.at (wpAny_bind (L3.at ?_)))))
  show wpAny _ _ (holding [Value.builtin "object.__class__"] (call (.builtin "getset_descriptor.__get__") [.builtin "object.__class__", .ref x, .ref D]) >>= ret) _ _ _
  refine wpAny_bind (wpAny_holding (wpAny_call (class_get (s := ⟨hp, g, d, t + 1, os⟩) (ox := ox) (od := od) X I hm ?_)))
  refine wpAny_pure ?_
  show wpAny _ _ (handedOut (.ref D)) _ _ _
  rw [handedOut_of (v := .ref D) rfl]
  first
    | exact wpAny_pure (wpAny_pure h)
    | exact wpAny_pure h
    | exact wpAny_pure (wpAny_bind (wpAny_pure (wpAny_pure h)))
theorem kitx_exc (hga : findIn K (.ref D) "__getattribute__" = some (some (.builtin "BaseException.__getattribute__"))) (hgt : findIn K (.ref D) "__getattr__" = some none) (hsub : subIn K (.ref D) (.type "BaseException") = some true) (hdct : hasDictIn K D = true)
    (hf : findObj K D od "__class__" = some (.bind (.builtin "getset_descriptor.__get__") (.builtin "object.__class__"))) (hm : mroIn K D (.type "object") = some true) :
    KitX K (.ref x) (.ref D) (fun h => InstAt h x ox D od) where
  ty := fun _ _ _ I => I.type
  it := fun _ _ X _ => by
    obtain ⟨cdD, hcD, _⟩ := any_some hdct
    unfold clsIn at hcD
    split at hcD
    · rename_i c' d' cd' sl' ho
      intro A' Q' E' s' k q
      unfold isType loadHead
      exact wpAny_bind (wpAny_loadPart (k _ _ (X _ _ ho)) (wpAny_pure q))
    · cases hcD
  ne := fun h tp dd its n sl X htp => by
    obtain ⟨cdD, hcD, _⟩ := any_some hdct
    refine Bool.eq_false_iff.mpr fun q => ?_
    have e : D = tp := Value.ref.inj (beq_iff_eq.mp q)
    subst e
    unfold clsIn at hcD
    split at hcD
    · rename_i c' d' cd' sl' ho
      have z := (X _ _ ho).symm.trans htp
      cases z
    · cases hcD
  ca := fun X I k => xcls_get hga hgt hsub hf hm X I k
end
/-- an exception class whose instances are asked by isinstance -/
structure XIsOk (K : PySem.W.Frag) (G : Gam0) (c : Nat) : Prop where
  ga : PySem.W.findIn K (.ref (G.ca c)) "__getattribute__" = some (some (.builtin "BaseException.__getattribute__"))
  gg : PySem.W.findIn K (.ref (G.ca c)) "__getattr__" = some none
  exC : PySem.W.subIn K (.ref (G.ca c)) (.type "BaseException") = some true
  hdC : PySem.W.hasDictIn K (G.ca c) = true
  ha : PySem.W.findIn K (.ref (G.ca c)) "__class__" = some (some (.builtin "object.__class__"))
  hn : PySem.W.specialIn K (.builtin "object.__class__") "__get__" = some (some (.builtin "getset_descriptor.__get__"))
  ht : PySem.W.takesIn K (.builtin "object.__class__") = some true
  hm : PySem.W.mroIn K (G.ca c) (.type "object") = some true
section
variable {X : Cx} {G : Gam} {W : WX} {i : Nat} {n y x : Str} {a : Addr} {oe : Obj} {d : Option Addr} {c c2 : Nat} {b : Bool} {np yp xp pos : Pos}
/-- isinstance(e, Y) -/
theorem se_exI (hjx : G.jx = some (i, a)) (hp : (a, oe) ∈ X.pn) (hz : L2N.Zn (.ref (G.ca c)) d oe) (hdat : ∃ vs, oe.data = .fields vs) (l : List (Nat × D)) (hxd : XD X.K G G.jr G.jh l d) (T : XIsOk X.K G c) (hN : X.N[i]? = some n) (hv : Vis X.env.scope n) (hd : (n == ("__debug__" : Str)) = false) (hcd : (n == ("__classdict__" : Str)) = false)
    (hgI : Gl X "isinstance") (hmI : X.mg "isinstance" = none) (hgy : Gl X y) (hmy : X.mg y = some (.ref (G.ca c2))) (hyd : (y == ("__debug__" : Str)) = false) (hk : PySem.W.kitOne X.K (.ref (G.ca c)) (.ref (G.ca c2)) = some b) :
    SE X G W (.Call (.Name "isinstance" xp) [.Name n np, .Name y yp] [] pos) (fExN i (fCst (.bl b))) := by
  intro pins s σ H ρ env h I r er hxx
  unfold fExN at hxx ⊢
  cases ee : env[i]? with
  | none => rw [ee] at hxx; exact hxx.elim
  | some o =>
    cases o with
    | some _ => rw [ee] at hxx; exact hxx.elim
    | none =>
      show wpAny _ _ _ (EP X pins σ (QR X.K G ρ H (.ok (.bl b) h))) _ _
      refine wpAny_Call_Name_kw (ld_blt I hgI hmI PyProof.Rows.Boot.isinstance ?_ (by decide) (by decide))
      refine PyProof.Rows.callWith_builtin1 ?_ rfl rfl
      refine Calls.spliced_cons (ev_slot I hN hv hd hcd (er.sl i a hjx ee) fun u s1 I1 ru => ?_)
      refine Calls.spliced_cons (ld_glob I1 hgy hmy ?_ hyd)
      refine Calls.spliced_nil ?_
      obtain rfl : u = Value.ref a := ru
      obtain ⟨hget, _⟩ := I1.pin (a, oe) (List.mem_append_left _ hp)
      obtain ⟨vs, hdv⟩ := hdat
      have hc : (PySem.W.clsIn X.K (G.ca c)).isSome = true := by
        obtain ⟨cd, hc, _⟩ := PySem.W.any_some T.hdC
        rw [hc]
        rfl
      have fin : ∀ {od : Option Obj}, PySem.W.InstAt s1.heap a oe (G.ca c) od → PySem.W.findObj X.K (G.ca c) od "__class__" = some (.bind (.builtin "getset_descriptor.__get__") (.builtin "object.__class__")) →
          wpAny (model X.prog X.w) X.A (call (.builtin "isinstance") [Value.ref a, Value.ref (G.ca c2)]) (EP X pins σ (QR X.K G ρ H (.ok (.bl b) h))) X.xe s1 := fun {od} J hf =>
        PySem.W.kia_one (kitx_exc T.ga T.gg T.exC T.hdC hf T.hm) I1.kIn J hk (fun z => nomatch z) fun tk => ⟨.bl b, H, I1.kept (t' := tk) fun _ _ z => z, rfl, q_same r rfl⟩
      have hx1 := hxd.to er.jn
      cases d with
      | none =>
        refine fin (od := none) ?_ (PySem.W.findObj_dataN hc T.ha T.hn T.ht)
        exact ⟨hget, hz.1, by unfold PySem.W.notCls; rw [hdv] <;> rfl, by rw [hz.2.1]; trivial⟩
      | some dd =>
        obtain ⟨gs, eH, q⟩ := hx1
        obtain ⟨mA, hns, hr⟩ := (show ObjOk X.prog X.w H s1.heap dd (.xd gs) from I1.hok dd _ eH)
        obtain ⟨od, ho, hl⟩ := lookIn_ns hns
        refine fin (od := some od) ?_ (PySem.W.findObj_data hc T.ha T.hn T.ht)
        exact ⟨hget, hz.1, by unfold PySem.W.notCls; rw [hdv] <;> rfl, by rw [hz.2.1]; exact ho⟩
end
end PI

set_option maxRecDepth 100000
set_option maxHeartbeats 2000000
/-! PI, part 19: list comprehensions, where nothing is handled. -/
namespace PI
open PySem PySem.Spec PyProof.Rows L2
def wipeD (env : Ev) : List Nat → Ev
  | [] => env
  | v :: vs => (wipeD env vs).set v none
theorem ER.wipe {K : PySem.W.Frag} {G : Gam} {ρ : List Addr} {H : Hp} {env : Ev} {σ : St} (hj : G.jx = none) (er : ER K G ρ H env σ) : ∀ vs : List Nat, ER K G ρ H (wipeD env vs) (wipe σ vs)
  | [] => er
  | v :: vs => ER.unset (er.wipe hj vs) v rfl er.jn (fun j a e => by rw [hj] at e; cases e)
mutual
def tgIx : Tg → List Nat
  | .nm i => [i]
  | .tup ts => tgsIx ts
def tgsIx : Tgs → List Nat
  | .nil => []
  | .cons t r => tgIx t ++ tgsIx r
end
mutual
theorem asgT_keep : ∀ (t : Tg) (d : D) (env env' : Ev) (j : Nat), asgT t d env = some env' → j ∉ tgIx t → env'[j]? = env[j]?
  | .nm i, d, env, env', j, e, h => by
    have e' : env.set i (some d) = env' := Option.some.inj e
    subst e'
    exact List.getElem?_set_ne (fun z => h (by rw [z]; exact List.mem_cons_self))
  | .tup ts, .tup xs, env, env', j, e, h => asgTs_keep ts xs env env' j e h
  | .tup ts, .non, env, env', j, e, h => by cases e
  | .tup ts, .bl _, env, env', j, e, h => by cases e
  | .tup ts, .int _, env, env', j, e, h => by cases e
  | .tup ts, .str _, env, env', j, e, h => by cases e
  | .tup ts, .ref _, env, env', j, e, h => by cases e
  | .tup ts, .cls _, env, env', j, e, h => by cases e
  | .tup ts, .scr, env, env', j, e, h => by cases e
  | .tup ts, .ty _, env, env', j, e, h => by cases e
theorem asgTs_keep : ∀ (ts : Tgs) (ds : List D) (env env' : Ev) (j : Nat), asgTs ts ds env = some env' → j ∉ tgsIx ts → env'[j]? = env[j]?
  | .nil, [], env, env', j, e, _ => by
    have e' : env = env' := Option.some.inj e
    rw [e']
  | .nil, _ :: _, env, env', j, e, _ => by cases e
  | .cons t r, [], env, env', j, e, _ => by cases e
  | .cons t r, d :: ds, env, env', j, e, h => by
    have e' : (asgT t d env).bind (asgTs r ds) = some env' := e
    cases e1 : asgT t d env with
    | none => rw [e1] at e'; cases e'
    | some env1 =>
      rw [e1] at e'
      have h1 : j ∉ tgIx t := fun z => h (List.mem_append_left _ z)
      have h2 : j ∉ tgsIx r := fun z => h (List.mem_append_right _ z)
      rw [asgTs_keep r ds env1 env' j e' h2, asgT_keep t d env env1 j e1 h1]
end
mutual
theorem asgT_length : ∀ (t : Tg) (d : D) (env env' : Ev), asgT t d env = some env' → env'.length = env.length
  | .nm i, d, env, env', e => by
    have e' : env.set i (some d) = env' := Option.some.inj e
    subst e'
    exact List.length_set
  | .tup ts, .tup xs, env, env', e => asgTs_length ts xs env env' e
  | .tup ts, .non, env, env', e => by cases e
  | .tup ts, .bl _, env, env', e => by cases e
  | .tup ts, .int _, env, env', e => by cases e
  | .tup ts, .str _, env, env', e => by cases e
  | .tup ts, .ref _, env, env', e => by cases e
  | .tup ts, .cls _, env, env', e => by cases e
  | .tup ts, .scr, env, env', e => by cases e
  | .tup ts, .ty _, env, env', e => by cases e
theorem asgTs_length : ∀ (ts : Tgs) (ds : List D) (env env' : Ev), asgTs ts ds env = some env' → env'.length = env.length
  | .nil, [], env, env', e => by
    have e' : env = env' := Option.some.inj e
    rw [e']
  | .nil, _ :: _, env, env', e => by cases e
  | .cons t r, [], env, env', e => by cases e
  | .cons t r, d :: ds, env, env', e => by
    have e' : (asgT t d env).bind (asgTs r ds) = some env' := e
    cases e1 : asgT t d env with
    | none => rw [e1] at e'; cases e'
    | some env1 =>
      rw [e1] at e'
      rw [asgTs_length r ds env1 env' e', asgT_length t d env env1 e1]
end
theorem wipeD_none {env : Ev} {i : Nat} : ∀ {vs : List Nat}, i ∈ vs → ∀ d, (wipeD env vs)[i]? ≠ some (some d)
  | [], h, _, _ => by cases h
  | v :: vs, h, d, e => by
    unfold wipeD at e
    by_cases hi : v = i
    · subst hi
      by_cases hv : v < (wipeD env vs).length
      · rw [List.getElem?_set_self hv] at e; cases e
      · rw [List.getElem?_eq_none (by simpa using hv)] at e; cases e
    · rw [List.getElem?_set_ne hi] at e
      rcases List.mem_cons.mp h with z | z
      · exact hi z.symm
      · exact wipeD_none z d e
/-- a turn's targets forgotten again -/
theorem ER.untgt {K : PySem.W.Frag} {G : Gam} {ρ : List Addr} {H : Hp} {env env8 : Ev} {σ : St} {t : Tg} {d : D} {own : List Nat} (hj : G.jx = none) (h : ∀ i ∈ tgIx t, i ∈ own) (e : asgT t d (wipeD env own) = some env8) (er : ER K G ρ H env8 σ) : ER K G ρ H (wipeD env own) σ := by
  refine ⟨by rw [← er.len, asgT_length t d _ _ e], er.jn, (fun j a z => by rw [hj] at z; cases z), fun j x q => ?_⟩
  have hn : j ∉ tgIx t := fun z => wipeD_none (h j z) x q
  exact er.get j x (by rw [asgT_keep t d _ _ j e hn]; exact q)
def STs (X : Cx) (G : Gam) (W : WX) (ifs : List Expr) (f : Ev → Hh → R Bool) : Prop :=
  ∀ (pins : List (Addr × Obj)) (s : Shared) (σ : St) (H : Hp) (ρ : List Addr) (env : Ev) (h : Hh), Inv X pins σ H s → HR X.K G ρ H h → ER X.K G ρ H env σ → ExcOk X.K G W ρ H σ (f env h) →
    wpAny (model X.prog X.w) X.A (forIn ifs true fun c r => if r = true then do let ok ← isTrue c X.env (eval c X.env); pure (ForInStep.yield ok) else pure (ForInStep.yield r)) (TP X pins σ (QT X.K G ρ H (f env h))) X.xe s
def tYesB : Ev → Hh → R Bool := fun _ h => .ok true h
theorem sts_nil {X : Cx} {G : Gam} {W : WX} : STs X G W [] tYesB := fun pins s σ H ρ env h I r er hx => wpAny_tests_nil ⟨H, I, rfl, ρ, Gr.refl, r⟩
theorem sts_one {X : Cx} {G : Gam} {W : WX} {c : Expr} {f : Ev → Hh → R Bool} (hc : STe X G W c f) : STs X G W [c] f := fun pins s σ H ρ env h I r er hx => wpAny_tests_one (hc pins s σ H ρ env h I r er hx)
/-- one turn of a comprehension; the new list stands at d -/
def lcStep (j : IS) (t : Tg) (tt : Ev → Hh → R Bool) (fe : Ev → Hh → R D) (d : Nat) : LSt → LSt ⊕ RS := fun (k, env, h) => match j.nxt k h with
  | .stop => .inr (.rt (.ref d) h)
  | .bad => .inr .bad
  | .item x => match asgT t x env with
    | none => .inr .bad
    | some env1 => match tt env1 h with
      | .ok false h1 => .inl (k + 1, env, h1)
      | .ok true h1 => match fe env1 h1 with
        | .ok y h2 => match h2[d]? with
          | some (.lst acc) => if acc.length < SZ then .inl (k + 1, env, h2.set d (.lst (acc ++ [y]))) else .inr .bad
          | _ => .inr .bad
        | _ => .inr .bad
      | _ => .inr .bad
def rtO : RS → R D
  | .rt d h => .ok d h
  | _ => .bad
def fLc (lp : LpT) (own : List Nat) (fi : Ev → Hh → R IS) (t : Tg) (tt : Ev → Hh → R Bool) (fe : Ev → Hh → R D) : Ev → Hh → R D := fun env h => (fi env h).bind fun j h1 => rtO (lp (lcStep j t tt fe h1.length) (0, wipeD env own, h1 ++ [.lst []]))
section
variable {X : Cx} {G : Gam} {W : WX} {k : Nat}
theorem lc_run {lp : LpT} (hlp : LpOk lp) {pins : List (Addr × Obj)} {s : Shared} {σ : St} {H : Hp} {ρ : List Addr} {env : Ev} {h : Hh} {elt tg iter : Expr} {ifs : List Expr} {scope : Scope} {own : List (Str × Nat)} {pos pos' : Pos} {fi : Ev → Hh → R IS} {t : Tg} {tt : Ev → Hh → R Bool} {fe : Ev → Hh → R D} {use : Option (Value → Sem Unit)} {Qf : Value → Shared → Prop} {rt : R D}
    (hm : X.A.handled = none) (hj : G.jx = none) (hN : X.N.Nodup) (I : Inv X pins σ H s) (r : HR X.K G ρ H h) (er : ER X.K G ρ H env σ) (hi : SI false X G W tg iter fi) (ok : BlkOk X.N X.env.scope scope own)
    (hg : ∀ (s : Shared) (H : Hp) (C : Addr) (cl : List (Str × Addr)) (fp : List Addr), SG (X.blk s H scope (compEnvC scope cl C X.env) fp) G tg t) (ht : ∀ (s : Shared) (H : Hp) (C : Addr) (cl : List (Str × Addr)) (fp : List Addr), STs (X.blk s H scope (compEnvC scope cl C X.env) fp) G W0 ifs tt)
    (he : ∀ (s : Shared) (H : Hp) (C : Addr) (cl : List (Str × Addr)) (fp : List Addr), SE (X.blk s H scope (compEnvC scope cl C X.env) fp) G W0 elt fe) (hs : ∀ x, foldedSetIterable iter X.env x = pure x) (hown : ∀ i ∈ tgIx t, i ∈ own.map (·.2))
    (eq : fLc lp (own.map (·.2)) fi t tt fe env h = rt) (hx : ExcOk X.K G W ρ H σ rt)
    (hRR : ∀ D C s' m H' d h', rt = .ok d h' → Inv X pins σ H' s' → QR X.K G ρ H rt (.ref D) H' → s'.heap.Ns C m → FpOk X pins H' C → compPost (model X.prog X.w) X.A X.xe use Qf (.ref D) C (.ok .next) s') :
    wpAny (model X.prog X.w) X.A (comprehension (.ListComp elt [⟨tg, iter, ifs, 0⟩] scope pos) scope X.env pos' (newList []) false (eval iter X.env) use) Qf X.xe s := by
  have hfree : ∀ y ∈ scope.names, y.2 = .free → ∃ c, X.env.cells.lookup y.1 = some c := fun y hy e => by
    rcases ok.free y hy e with k | k
    · exact I.ok.has _ (.inl k)
    · exact I.ok.has _ (.inr k)
  unfold fLc at eq
  have hx0 : ExcOk X.K G W ρ H σ (fi env h) := by rw [← eq] at hx; exact hx.fst
  refine wpAny_comprehension_free (use := use) rfl hs (closure_ok hfree) ok.kind (fun y hy e => by rw [ok.uniq y hy, e])
    (thn (hi pins s σ H ρ env h I r er hx0) fun xv s1 hx' => thn hx' fun itv s2 h2 => ?_)
  obtain ⟨it, fp, tn, J, H2, e, I2, T, st2, f2, q⟩ := h2
  subst e
  refine wpAny_newObj_type (newEnv_comp ?_) (by show 0 ≤ sizeLine; decide)
  cases ei : fi env h with
  | bad => rw [ei] at q; exact q.elim
  | exc c fs h' => rw [ei] at q; exact q.elim
  | ok j h1 =>
  rw [ei] at q eq
  obtain ⟨ρ2, g2, r2, jo⟩ := q
  have eq' : rtO (lp (lcStep j t tt fe h1.length) (0, wipeD env (own.map (·.2)), h1 ++ [.lst []])) = rt := eq
  generalize hD : s2.heap.objs.size = D
  have hDn : H2 D = none := I2.hok.fresh (Nat.le_of_eq hD)
  -- the new list
  generalize hs3 : ({ s2 with heap := s2.heap.push { cls := .type "list", data := .seq ([] : List Value).toArray } } : Shared) = s3
  have I3 : Inv X pins σ (upd H2 D (.lst [])) s3 := by
    rw [← hs3]
    refine I2.laid (t' := s2.toks) (fun b o e => Heap.get?_push_of_some _ e) (Nat.le_of_eq hD) ⟨Nat.zero_le _, [], 0, .nil, ?_⟩
    rw [← hD]
    exact Heap.get?_push_size _ rfl
  have g3 : Gr ρ2 H2 (ρ2 ++ [D]) (upd H2 D (.lst [])) := Gr.newObj hDn
  have r3 : HR X.K G (ρ2 ++ [D]) (upd H2 D (.lst [])) (h1 ++ [.lst []]) := r2.newObj hDn ⟨[], upd_same, rfl⟩
  have at3 : (ρ2 ++ [D])[h1.length]? = some D := by
    rw [← r2.len, List.getElem?_append_right (Nat.le_refl _), Nat.sub_self] <;> rfl
  have h3 : s3.heap = s2.heap.push { cls := .type "list", data := .seq ([] : List Value).toArray } := by rw [← hs3]
  have sz : ∀ b ∈ fp, b < s2.heap.objs.size := fun b hb => (f2 b hb).2
  have f3 : ∀ b ∈ fp, FpOk X pins (upd H2 D (.lst [])) b ∧ b < s3.heap.objs.size := fun b hb => by
    have hlt := sz b hb
    refine ⟨⟨?_, (f2 b hb).1.2⟩, by rw [h3, Heap.size_push]; exact Nat.lt_succ_of_lt hlt⟩
    rw [upd_ne (by rw [← hD]; exact Nat.ne_of_lt hlt)]
    exact (f2 b hb).1.1
  have st3 : tn 0 s3.heap := T.keep _ _ _ st2 fun b _ o e => by rw [h3]; exact Heap.get?_push_of_some _ e
  have I4 := block_start I3 ok hN f3
  have pg := hg s3 (upd H2 D (.lst [])) s3.heap.objs.size (cellsFrom (s3.heap.objs.size + 1) scope.names (cloFrom X.env.cells scope.names [])) fp
  have pt := ht s3 (upd H2 D (.lst [])) s3.heap.objs.size (cellsFrom (s3.heap.objs.size + 1) scope.names (cloFrom X.env.cells scope.names [])) fp
  have pe := he s3 (upd H2 D (.lst [])) s3.heap.objs.size (cellsFrom (s3.heap.objs.size + 1) scope.names (cloFrom X.env.cells scope.names [])) fp
  show codeAny _ _ (.compStart (.ListComp elt [⟨tg, iter, ifs, 0⟩] scope pos) 0 (.ref it) (.ref D) (compEnvC scope (cellsFrom (s3.heap.objs.size + 1) scope.names (cloFrom X.env.cells scope.names [])) s3.heap.objs.size X.env)) (compPost (model X.prog X.w) X.A X.xe use Qf (.ref D) s3.heap.objs.size) { s3 with heap := pushCells (s3.heap.push { cls := .type "dict", data := .dict #[] }) scope.names }
  have nfp : ∀ b ∈ fp, (upd H2 D (.lst [])) b = none := fun b hb => (f3 b hb).1.1
  generalize hce : compEnvC scope (cellsFrom (s3.heap.objs.size + 1) scope.names (cloFrom X.env.cells scope.names [])) s3.heap.objs.size X.env = ce at I4 pg pt pe ⊢
  have cL : ce.locals = s3.heap.objs.size := by subst hce; rfl
  have er4 : ER X.K G (ρ2 ++ [D]) (upd H2 D (.lst [])) (wipeD env (own.map (·.2))) (wipe σ (own.map (·.2))) := ((er.gr g2).gr g3).wipe hj _
  generalize hH3 : upd H2 D (.lst []) = H3 at I3 I4 pg pt pe nfp f3 g3 r3 er4
  generalize hρ3 : ρ2 ++ [D] = ρ3 at g3 r3 at3 er4
  generalize hs4 : ({ s3 with heap := pushCells (s3.heap.push { cls := .type "dict", data := .dict #[] }) scope.names } : Shared) = s4 at I4 ⊢
  have st4 : tn 0 s4.heap := T.keep _ _ _ st3 fun b _ o e => by rw [← hs4]; exact pushCells_keeps _ _ _ _ (Heap.get?_push_of_some _ e)
  have stat : ∀ {σ' : St} {H' : Hp} {s' : Shared}, Inv (X.blk s3 H3 scope ce fp) [] σ' H' s' → (∀ b ∈ fp, H' b = none) → ∀ b ∈ fp, FpOk (X.blk s3 H3 scope ce fp) [] H' b := fun {σ' H' s'} I' hn b hb =>
    ⟨hn b hb, (I'.ok.exf b hb).1, I'.ok.exfs b hb, .inl hb, fun x c e => (I'.ok.exf b hb).2 x c e, fun p hp => absurd (show p ∈ ([] : List (Addr × Obj)) ++ [] from hp) (by simp)⟩
  have hne : lp (lcStep j t tt fe h1.length) (0, wipeD env (own.map (·.2)), h1 ++ [.lst []]) ≠ .bad := by
    intro z
    rw [z] at eq'
    rw [← eq'] at hx
    exact hx
  obtain ⟨n0, en0⟩ := hlp _ _ hne
  generalize ers : lp (lcStep j t tt fe h1.length) (0, wipeD env (own.map (·.2)), h1 ++ [.lst []]) = rs at eq' en0
  have loop : codeAny (model X.prog X.w) X.A (.compLoop (.ListComp elt [⟨tg, iter, ifs, 0⟩] scope pos) 0 (.ref it) (.ref D) ce) (compPost (model X.prog X.w) X.A X.xe use Qf (.ref D) s3.heap.objs.size) s4 := by
    refine compLoop_any (fun n s' => ∃ i σ' H' ρ' hh, Inv (X.blk s3 H3 scope ce fp) [] σ' H' s' ∧ ER X.K G ρ' H' (wipeD env (own.map (·.2))) σ' ∧ tn i s'.heap ∧ (∀ b ∈ fp, H' b = none) ∧ Gr ρ3 H3 ρ' H' ∧ HR X.K G ρ' H' hh ∧ iterN (lcStep j t tt fe h1.length) n (i, wipeD env (own.map (·.2)), hh) = rs) ?_ n0
      ⟨0, _, H3, ρ3, _, I4, er4, st4, nfp, Gr.refl, r3, en0⟩
    rintro n s5 ⟨i, σ5, H5, ρ5, h5, I5, er5, st5, n5, g5, r5, en⟩
    have hbad : ∀ {P : Prop}, rs = .bad → P := fun {P} z => by
      rw [z] at eq'
      rw [← eq'] at hx
      exact hx.elim
    cases n with
    | zero => exact hbad en.symm
    | succ n =>
    have en' : (match lcStep j t tt fe h1.length (i, wipeD env (own.map (·.2)), h5) with | .inl s' => iterN (lcStep j t tt fe h1.length) n s' | .inr r => r) = rs := en
    cases ex : j.nxt i h5 with
    | bad =>
      have e0 : lcStep j t tt fe h1.length (i, wipeD env (own.map (·.2)), h5) = .inr .bad := by simp only [lcStep, ex]
      rw [e0] at en'
      exact hbad en'.symm
    | stop =>
      have e0 : lcStep j t tt fe h1.length (i, wipeD env (own.map (·.2)), h5) = .inr (.rt (.ref h1.length) h5) := by simp only [lcStep, ex]
      rw [e0] at en'
      have en2 : RS.rt (.ref h1.length) h5 = rs := en'
      have td := T.done (X.blk s3 H3 scope ce fp) rfl rfl rfl hm i [] s5 _ H5 (fun _ _ => False) I5 (stat I5 n5) st5 (jo.stop i ρ5 H5 h5 (g3.trans g5) r5 ex)
      refine thnF td fun r s6 ⟨hr, I6⟩ => ?_
      subst hr
      -- back in the def's context
      have I7 : Inv X pins σ H5 s6 := I3.call' (ch := fp) I6.os I6.base I6.hok I6.bare fun b hb => ⟨(f3 b hb).1.2.2.2.1, (f3 b hb).1.2.1, (f3 b hb).1.2.2.2.2.1, (f3 b hb).1.2.2.2.2.2⟩
      have nC : H5 s3.heap.objs.size = none := by
        have z : H5 ce.locals = none := I6.free
        rw [cL] at z
        exact z
      obtain ⟨m, hn, _⟩ := I6.loc
      have hn : s6.heap.Ns ce.locals m := hn
      rw [cL] at hn
      rw [← en2] at eq'
      have eq2 : R.ok (.ref h1.length) h5 = rt := eq'
      refine hRR D s3.heap.objs.size s6 m H5 _ _ eq2.symm I7 ?_ hn (I3.fpOk (Nat.le_refl _) nC)
      rw [← eq2]
      exact ⟨ρ5, (g2.trans g3).trans g5, r5, D, g5.at at3, rfl⟩
    | item d =>
      obtain ⟨go, hy⟩ := jo.item i d ρ5 H5 h5 (g3.trans g5) r5 ex
      have ti := T.item (X.blk s3 H3 scope ce fp) rfl rfl rfl hm i [] s5 _ H5 (fun _ _ => False) I5 (stat I5 n5) st5 go
      refine thnF ti fun r s6 ⟨u, hr, h6⟩ => ?_
      subst hr
      refine thnF h6 fun _ s7 ⟨x, H7, I7, r7, y7, st7, n7⟩ => ?_
      have I7' := I7.pinned (stat I7 n7) (T.obj _ _ st7)
      obtain ⟨ρ7, g7, rr7, d7⟩ := hy x H7 y7
      have er7 := er5.gr g7
      cases ea : asgT t d (wipeD env (own.map (·.2))) with
      | none =>
        have e0 : lcStep j t tt fe h1.length (i, wipeD env (own.map (·.2)), h5) = .inr .bad := by simp only [lcStep, ex, ea]
        rw [e0] at en'
        exact hbad en'.symm
      | some env8 =>
      refine thnF (pg _ s7 _ H7 ρ7 _ env8 x u d I7' er7 r7 d7 ea) fun _ s8 ⟨σ8, I8, er8⟩ => ?_
      have hxt : ExcOk X.K G W0 ρ7 H7 σ8 (tt env8 h5) := by
        cases et : tt env8 h5 with
        | ok b h' => trivial
        | exc c fs h' =>
          have e0 : lcStep j t tt fe h1.length (i, wipeD env (own.map (·.2)), h5) = .inr .bad := by simp only [lcStep, ex, ea, et]
          rw [e0] at en'
          exact hbad en'.symm
        | bad =>
          have e0 : lcStep j t tt fe h1.length (i, wipeD env (own.map (·.2)), h5) = .inr .bad := by simp only [lcStep, ex, ea, et]
          rw [e0] at en'
          exact hbad en'.symm
      refine thnF (pt _ s8 σ8 H7 ρ7 env8 h5 I8 rr7 er8 hxt) fun b s9 ⟨H9, I9, q9⟩ => ?_
      cases et : tt env8 h5 with
      | exc c fs h' => rw [et] at q9; exact q9.elim
      | bad => rw [et] at q9; exact q9.elim
      | ok b' h9 =>
      rw [et] at q9
      obtain ⟨eb, ρ9, g9, r9⟩ := q9
      subst eb
      have g79 := (g5.trans g7).trans g9
      -- the turn's end
      have fin : ∀ {s' : Shared} {H' : Hp} {ρ' : List Addr} {h' : Hh}, Inv (X.blk s3 H3 scope ce fp) ([] ++ pinsAt fp s7.heap) σ8 H' s' → Gr ρ3 H3 ρ' H' → Gr ρ7 H7 ρ' H' → HR X.K G ρ' H' h' → lcStep j t tt fe h1.length (i, wipeD env (own.map (·.2)), h5) = .inl (i + 1, wipeD env (own.map (·.2)), h') →
          ∃ m, m < n + 1 ∧ ∃ i σ' H' ρ' hh, Inv (X.blk s3 H3 scope ce fp) [] σ' H' s' ∧ ER X.K G ρ' H' (wipeD env (own.map (·.2))) σ' ∧ tn i s'.heap ∧ (∀ b ∈ fp, H' b = none) ∧ Gr ρ3 H3 ρ' H' ∧ HR X.K G ρ' H' hh ∧ iterN (lcStep j t tt fe h1.length) m (i, wipeD env (own.map (·.2)), hh) = rs := fun {s' H' ρ' h'} I' g' g8 r' e0 => by
        have pin' : ∀ b ∈ fp, ∀ o, s7.heap.get? b = some o → s'.heap.get? b = some o ∧ H' b = none := fun b hb o e =>
          let z := I'.pin (b, o) (List.mem_append_right _ (List.mem_append_right _ (mem_pinsAt hb e)))
          ⟨z.1, z.2.1⟩
        rw [e0] at en'
        refine ⟨n, Nat.lt_succ_self n, i + 1, σ8, H', ρ', h', I'.unpinned (pins := []), (er8.untgt hj hown ea).gr g8, T.keep _ _ _ st7 fun b hb o e => (pin' b hb o e).1, fun b hb => ?_, g', r', en'⟩
        obtain ⟨o, e, _⟩ := T.obj _ _ st7 b hb
        exact (pin' b hb o e).2
      cases b with
      | false =>
        have e0 : lcStep j t tt fe h1.length (i, wipeD env (own.map (·.2)), h5) = .inl (i + 1, wipeD env (own.map (·.2)), h9) := by simp only [lcStep, ex, ea, et]
        simp only [Bool.false_eq_true, if_false]
        exact fin I9 g79 g9 r9 e0
      | true =>
        simp only [if_true]
        have hxe : ExcOk X.K G W0 ρ9 H9 σ8 (fe env8 h9) := by
          cases ef : fe env8 h9 with
          | ok y h' => trivial
          | exc c fs h' =>
            have e0 : lcStep j t tt fe h1.length (i, wipeD env (own.map (·.2)), h5) = .inr .bad := by simp only [lcStep, ex, ea, et, ef]
            rw [e0] at en'
            exact hbad en'.symm
          | bad =>
            have e0 : lcStep j t tt fe h1.length (i, wipeD env (own.map (·.2)), h5) = .inr .bad := by simp only [lcStep, ex, ea, et, ef]
            rw [e0] at en'
            exact hbad en'.symm
        refine thnF (pe _ s9 σ8 H9 ρ9 env8 h9 I9 r9 (er8.gr g9) hxe) fun z s10 ⟨yv, H10, I10, rv10, q10⟩ => ?_
        cases ef : fe env8 h9 with
        | exc c fs h' => rw [ef] at q10; exact q10.elim
        | bad => rw [ef] at q10; exact q10.elim
        | ok y h10 =>
        rw [ef] at q10
        obtain ⟨ρ10, g10, r10, d10⟩ := q10
        have g310 := g79.trans g10
        have atD : ρ10[h1.length]? = some D := g310.at at3
        cases eo : h10[h1.length]? with
        | none =>
          have e0 : lcStep j t tt fe h1.length (i, wipeD env (own.map (·.2)), h5) = .inr .bad := by simp only [lcStep, ex, ea, et, ef, eo]
          rw [e0] at en'
          exact hbad en'.symm
        | some o =>
        cases o with
        | lst acc =>
          by_cases hz : acc.length < SZ
          · obtain ⟨ws, eH, qs⟩ := r10.at atD eo
            have e0 : lcStep j t tt fe h1.length (i, wipeD env (own.map (·.2)), h5) = .inl (i + 1, wipeD env (own.map (·.2)), h10.set h1.length (.lst (acc ++ [y]))) := by simp only [lcStep, ex, ea, et, ef, eo, if_pos hz]
            have gw := Gr.write (ρ := ρ10) (v := .lst (ws ++ [yv])) eH True.intro
            refine app_ok (X := X.blk s3 H3 scope ce fp) I10 eH (by rw [qs.len, SZ_eq]; exact hz) rv10 fun s11 I11 => fin I11 (g310.trans gw) ((g9.trans g10).trans gw) (HR.write (o' := .lst (acc ++ [y])) r10 atD eH True.intro ⟨_, upd_same, RDs.gr gw _ _ (qs.app (RDs.one d10))⟩) e0
          · have e0 : lcStep j t tt fe h1.length (i, wipeD env (own.map (·.2)), h5) = .inr .bad := by simp only [lcStep, ex, ea, et, ef, eo, if_neg hz]
            rw [e0] at en'
            exact hbad en'.symm
        | ins c fs =>
          have e0 : lcStep j t tt fe h1.length (i, wipeD env (own.map (·.2)), h5) = .inr .bad := by simp only [lcStep, ex, ea, et, ef, eo]
          rw [e0] at en'
          exact hbad en'.symm
        | dic kvs =>
          have e0 : lcStep j t tt fe h1.length (i, wipeD env (own.map (·.2)), h5) = .inr .bad := by simp only [lcStep, ex, ea, et, ef, eo]
          rw [e0] at en'
          exact hbad en'.symm
  exact codeAny_compStart_list loop (T.self X.A 0 _ _ _ st4 loop)

theorem se_lc {lp : LpT} (hlp : LpOk lp) {elt tg iter : Expr} {ifs : List Expr} {scope : Scope} {own : List (Str × Nat)} {pos : Pos} {fi : Ev → Hh → R IS} {t : Tg} {tt : Ev → Hh → R Bool} {fe : Ev → Hh → R D}
    (hm : X.A.handled = none) (hj : G.jx = none) (hN : X.N.Nodup) (hi : SI false X G W tg iter fi) (ok : BlkOk X.N X.env.scope scope own)
    (hg : ∀ (s : Shared) (H : Hp) (C : Addr) (cl : List (Str × Addr)) (fp : List Addr), SG (X.blk s H scope (compEnvC scope cl C X.env) fp) G tg t) (ht : ∀ (s : Shared) (H : Hp) (C : Addr) (cl : List (Str × Addr)) (fp : List Addr), STs (X.blk s H scope (compEnvC scope cl C X.env) fp) G W0 ifs tt)
    (he : ∀ (s : Shared) (H : Hp) (C : Addr) (cl : List (Str × Addr)) (fp : List Addr), SE (X.blk s H scope (compEnvC scope cl C X.env) fp) G W0 elt fe) (hs : ∀ x, foldedSetIterable iter X.env x = pure x) (hown : ∀ i ∈ tgIx t, i ∈ own.map (·.2)) :
    SE X G W (.ListComp elt [⟨tg, iter, ifs, 0⟩] scope pos) (fLc lp (own.map (·.2)) fi t tt fe) := by
  intro pins s σ H ρ env h I r er hx
  rw [eval_ListComp]
  refine lc_run hlp hm hj hN I r er hi ok hg ht he hs hown rfl hx fun D C s' m H' d h' e I' q hn f => ⟨m, hn, fun h'' sb => ?_⟩
  obtain ⟨f0, f1, f2, f3, f4, f5⟩ := f
  exact ⟨.ref D, H', I'.turned (t' := s'.toks) (fun b o hb e => (sb.2 b hb).trans e) f0 f1 f3 f4 f5, rfl, q⟩
theorem ss_setLc {lp : LpT} (hlp : LpOk lp) {i : Nat} {y : Str} {py : Pos} {elt tg iter : Expr} {ifs : List Expr} {scope : Scope} {own : List (Str × Nat)} {pos spos : Pos} {fi : Ev → Hh → R IS} {t : Tg} {tt : Ev → Hh → R Bool} {fe : Ev → Hh → R D}
    (hm : X.A.handled = none) (hj : G.jx = none) (hN : X.N.Nodup) (hy : X.N[i]? = some y) (hyl : X.env.scope.names.lookup y = some .local) (hsw : swapsWith (.ListComp elt [⟨tg, iter, ifs, 0⟩] scope pos) (some (.Name y py)) spos.line X.env = pure true)
    (hi : SI false X G W tg iter fi) (ok : BlkOk X.N X.env.scope scope own)
    (hg : ∀ (s : Shared) (H : Hp) (C : Addr) (cl : List (Str × Addr)) (fp : List Addr), SG (X.blk s H scope (compEnvC scope cl C X.env) fp) G tg t) (ht : ∀ (s : Shared) (H : Hp) (C : Addr) (cl : List (Str × Addr)) (fp : List Addr), STs (X.blk s H scope (compEnvC scope cl C X.env) fp) G W0 ifs tt)
    (he : ∀ (s : Shared) (H : Hp) (C : Addr) (cl : List (Str × Addr)) (fp : List Addr), SE (X.blk s H scope (compEnvC scope cl C X.env) fp) G W0 elt fe) (hs : ∀ x, foldedSetIterable iter X.env x = pure x) (hown : ∀ i ∈ tgIx t, i ∈ own.map (·.2)) :
    SS X G W (.Assign [.Name y py] (.ListComp elt [⟨tg, iter, ifs, 0⟩] scope pos) spos) (fSet i (fLc lp (own.map (·.2)) fi t tt fe)) := by
  intro pins s σ H ρ env h I r er hx
  generalize eq : fSet i (fLc lp (own.map (·.2)) fi t tt fe) env h = rt at hx ⊢
  have hxe : ExcOk X.K G W ρ H σ (fLc lp (own.map (·.2)) fi t tt fe env h) := by rw [← eq] at hx; exact hx.fst er
  rw [exec_Assign_Name_used _ _ _ _ hsw]
  refine wpAny_bind (wpAny_standAt (wpAny_bind ?_))
  show wpAny _ X.A (do let _ ← comprehension (.ListComp elt [⟨tg, iter, ifs, 0⟩] scope pos) scope X.env (firstIterPos [⟨tg, iter, ifs, 0⟩] pos) (newList []) false (eval iter X.env) (some (assign (.Name y py) X.env))) _ _ s
  refine wpAny_bind (thn (lc_run (Qf := fun _ s' => SP X pins (DE X.K G ρ H rt) .next s') hlp hm hj hN I r er hi ok hg ht he hs hown rfl hxe fun L C s' m H' d h' ed I' q hn f => ?_) fun _ s' hq => wpAny_pure (wpAny_pure hq))
  show wpAny _ _ (assign (.Name y py) X.env (.ref L)) _ _ _
  refine wpAny_assign_Name (store_ok2 (v := V.ref L) I' hN hy (.inl hyl) rfl (fun s2 I2 ⟨a, sb, ha⟩ => ?_) (.inr hyl))
  obtain ⟨f0, f1, f2, f3, f4, f5⟩ := f
  have haC : C ≠ a := by
    rcases ha with z | z
    · rw [z]; exact f1
    · exact fun e => f4 y a z e.symm
  refine ⟨m, hn.sameBut sb haC, fun h3 sb3 => ?_⟩
  obtain ⟨x, h1, ρ1, e1, g1, r1, d1, er1, hx1⟩ := q.thenS er eq hx
  subst e1
  exact ⟨_, H', I2.turned (t' := s2.toks) (fun b o hb e => (sb3.2 b hb).trans e) f0 f1 f3 f4 f5, ρ1, g1, r1, er1.set i d1⟩
end
end PI

set_option maxRecDepth 100000
set_option maxHeartbeats 1000000
/-! PI, part 20: the interpreter's own trees, their evaluation. -/
namespace PI
open PySem PySem.Spec PyProof.Rows L2
inductive Bt where | bool | int | str | tuple | list | dict
  deriving DecidableEq
def Bt.nm : Bt → String
  | .bool => "bool" | .int => "int" | .str => "str" | .tuple => "tuple" | .list => "list" | .dict => "dict"
inductive Bi where | len | isi | sorted | abs | int | str | tuple | list
  deriving DecidableEq
def Bi.nm : Bi → String
  | .len => "len" | .isi => "isinstance" | .sorted => "sorted" | .abs => "abs" | .int => "int" | .str => "str" | .tuple => "tuple" | .list => "list"
inductive Bm where | append | insert | split | partition | join
  deriving DecidableEq
def Bm.nm : Bm → String
  | .append => "append" | .insert => "insert" | .split => "split" | .partition => "partition" | .join => "join"
mutual
inductive CE where
  | var (i : Nat) | int (n : Int) | bl (b : Bool) | str (z : List Nat) | non | glo (g : Nat) | tyn (t : Bt) | cln (c : Nat)
  | bin (op : Bop) (a b : CE) | cmp (op : Cop) (a b : CE) | chn (o1 o2 : Cop) (a b c : CE) | and_ (es : CEs) | or_ (es : CEs) | not_ (a : CE) | ife (c a b : CE) | neg (a : CE)
  | tup (es : CEs) | lst (es : CEs) | idx (a b : CE) | slc (a : CE) (lo hi : CO)
  | call (f : Nat) (es : CEs) | new (c : Nat) (es : CEs) | newV (i : Nat) (es : CEs) | meth (o : CE) (mn : Nat) (es : CEs) | att (o : CE) (f : Nat) | bi (b : Bi) (es : CEs) | bm (k : Bm) (o : CE) (es : CEs)
  | exF (f : Nat) | exI (c : Nat) | jst (es : CEs) | fmt (a : CE) | lc (own : List (Str × Nat)) (t : Tg) (it : CI) (tt : CO) (e : CE)
inductive CEs where | nil | cons (a : CE) (r : CEs) | star (a : CE) (r : CEs)
inductive CO where | none | some (a : CE)
inductive CI where | val (a : CE) | rng1 (a : CE) | rng2 (a b : CE)
end
mutual
inductive CS where
  | pass | brk | cnt | doc | exp (e : CE) | set (i : Nat) (e : CE) | setL (i : Nat) (own : List (Str × Nat)) (t : Tg) (it : CI) (tt : CO) (e : CE) | asg (t : Tg) (e : CE) | setF (o : CE) (f : Nat) (e : CE) | setI (o i e : CE) | aug (i : Nat) (op : Bop) (e : CE) | augF (o : CE) (f : Nat) (op : Bop) (e : CE)
  | ret (e : CE) | rtN | ife (c : CE) (a b : CSs) | whl (c : CE) (b : CSs) | for_ (t : Tg) (it : CI) (b : CSs) | rai (c : Nat) (es : CEs) | tri (b : CSs) (c i : Nat) (su : CSs) | rpl (i : Nat) (n : Int) (j : Nat) (y : List Nat) (zs : List (List Nat)) (e : CE)
inductive CSs where | nil | cons (s : CS) (r : CSs)
end
/-- what stands beside the trees: names, defs, classes -/
structure Tb where
  nms : List Str
  gfn : List (Str × Nat)
  gcl : List (Str × Nat)
  gco : List (Str × D)
  bts : List Str
  cini : List (Nat × Nat)
  flds : List (Nat × Nat)
  meths : List ((Nat × Nat) × Nat)
  cmets : List ((Nat × Nat) × Nat)
  props : List ((Nat × Nat) × Nat)
  ccons : List ((Nat × Nat) × D)
  owneq : List (Nat × Nat)
  xcls : List (Nat × (Nat × List (Nat × Nat)))
  xsub : List ((Nat × Nat) × Bool)
  xfld : List (Nat × Nat)
  xisi : List ((Nat × Nat) × Bool)
  ist : IsT
  iins : List Nat
def nmOf (t : List Str) (i : Nat) : Str := match t[i]? with
  | some s => s
  | none => sOf (List.replicate (i + 1000) 0)
/-- evaluation's surroundings -/
structure En where
  T : Tb
  Φ : Bool → Nat → List D → Hh → R D
  lp : LpT
  scr : List Int
abbrev FE := Ev → Hh → R D
abbrev FT := Ev → Hh → R Bool
abbrev FP := FE × FT
def mk (f : FE) : FP := (f, tTru f)
def fBad : FE := fun _ _ => .bad
def andE : List FP → FE
  | [] => fBad
  | [p] => p.1
  | p :: q :: r => fAnd p.1 (andE (q :: r))
def orE : List FP → FE
  | [] => fBad
  | [p] => p.1
  | p :: q :: r => fOr p.1 (orE (q :: r))
def andT : List FP → FT
  | [] => fun _ h => .ok true h
  | p :: r => tAndB p.2 (andT r)
def orT : List FP → FT
  | [] => fun _ h => .ok false h
  | p :: r => tOrB p.2 (orT r)
def biF (E : En) : Bi → List D → Hh → R D
  | .len => lenD | .isi => isiD E.T.ist (fun c => E.T.iins.contains c) | .sorted => sortedD | .abs => absD | .int => intD | .str => strD | .tuple => tupleD | .list => listD E.scr
def bmF : Bm → D → List D → Hh → R D
  | .append => appD | .insert => insD' | .split => splitD | .partition => partD | .join => joinD
def bmT : Bm → String
  | .append => "list" | .insert => "list" | .split => "str" | .partition => "str" | .join => "str"
/-- the exception of the suite: its class, its fields, the slot of its name -/
abbrev Cur := Option (Nat × List (Nat × D) × Nat)
def Tb.isF (T : Tb) (f : Nat) : Nat → Bool := fun c => T.flds.contains (c, f)
mutual
def evP (E : En) (m : Bool) (cu : Cur) : CE → FP
  | .var i => mk (fVar i)
  | .int n => mk (fCst (.int n))
  | .bl b => mk (fCst (.bl b))
  | .str z => mk (fCst (.str z))
  | .non => mk (fCst .non)
  | .glo g => mk (match E.T.gco[g]? with | some p => fCst p.2 | none => fBad)
  | .tyn t => mk (fCst (.ty t.nm))
  | .cln c => mk (fCst (.cls c))
  | .bin op a b => mk (fBin op (evP E m cu a).1 (evP E m cu b).1)
  | .cmp op a b => mk (fCmpO (fun c => E.T.owneq.lookup c) (E.Φ m) op (evP E m cu a).1 (evP E m cu b).1)
  | .chn o1 o2 a b c => mk (fChn o1 o2 (evP E m cu a).1 (evP E m cu b).1 (evP E m cu c).1)
  | .and_ es => (andE (evPs E m cu es), andT (evPs E m cu es))
  | .or_ es => (orE (evPs E m cu es), orT (evPs E m cu es))
  | .not_ a => (fNot (evP E m cu a).1, tNotB (evP E m cu a).2)
  | .ife c a b => (fIfe (evP E m cu c).2 (evP E m cu a).1 (evP E m cu b).1, tIfe (evP E m cu c).2 (evP E m cu a).2 (evP E m cu b).2)
  | .neg a => mk (fNeg (evP E m cu a).1)
  | .tup es => mk (fTup (evA E m cu es))
  | .lst es => mk (fLst (evA E m cu es))
  | .idx a b => mk (fIdx (evP E m cu a).1 (evP E m cu b).1)
  | .slc a lo hi => mk (fSlc (evP E m cu a).1 (evO E m cu lo) (evO E m cu hi))
  | .call f es => mk (fCall m (E.Φ m f) (evA E m cu es))
  | .new c es => mk (match E.T.cini.lookup c with | some g => fNew m c (E.Φ m g) (evA E m cu es) | none => fBad)
  | .newV i es => mk (fNewV m (fun c => E.T.cini.lookup c) (E.Φ m) i (evA E m cu es))
  | .meth o mn es => mk (fMeth m (E.Φ m) (fun c => E.T.meths.lookup (c, mn)) (fun c => E.T.cmets.lookup (c, mn)) mn (evP E m cu o).1 (evA E m cu es))
  | .att o f => mk (fAtt (E.Φ m) (E.T.isF f) (fun c => E.T.ccons.lookup (c, f)) (fun c => E.T.props.lookup (c, f)) f (evP E m cu o).1)
  | .bi b es => mk (fBi (biF E b) (evA E m cu es))
  | .bm k o es => mk (fBm (bmT k) (bmF k) (evP E m cu o).1 (evA E m cu es))
  | .exF f => mk (match cu with
    | some (c, l, i) => if E.T.xfld.contains (c, f) then fExN i (fExF l f) else fBad
    | none => fBad)
  | .exI c2 => mk (match cu with
    | some (c, _, i) => (match E.T.xisi.lookup (c, c2) with | some b => fExN i (fCst (.bl b)) | none => fBad)
    | none => fBad)
  | .jst es => mk (fJs ((evPs E m cu es).map (·.1)) [])
  | .fmt a => mk (fFmt (evP E m cu a).1)
  | .lc own t it tt e => mk (if m = true then fBad else match cu with | some _ => fBad | none => fLc E.lp (own.map (·.2)) (evI E m cu it) t (evOT E m cu tt) (evP E m cu e).1)
def evPs (E : En) (m : Bool) (cu : Cur) : CEs → List FP
  | .nil => []
  | .cons a r => evP E m cu a :: evPs E m cu r
  | .star _ _ => []
def evA (E : En) (m : Bool) (cu : Cur) : CEs → Ev → Hh → R (List D)
  | .nil => fA0
  | .cons a r => fA1 (evP E m cu a).1 (evA E m cu r)
  | .star a r => fAS (evP E m cu a).1 (evA E m cu r)
def evO (E : En) (m : Bool) (cu : Cur) : CO → Ev → Hh → R (Option Int)
  | .none => fNoPart
  | .some a => fPart (evP E m cu a).1
def evOT (E : En) (m : Bool) (cu : Cur) : CO → FT
  | .none => tYesB
  | .some a => (evP E m cu a).2
def evI (E : En) (m : Bool) (cu : Cur) : CI → Ev → Hh → R IS
  | .val a => fIt (evP E m cu a).1
  | .rng1 a => fRng1 (fA1 (evP E m cu a).1 fA0)
  | .rng2 a b => fRng2 (fA1 (evP E m cu a).1 (fA1 (evP E m cu b).1 fA0))
end
/-- text.replace(y, [zs][e]) -/
def rplD (a y : List Nat) (zs : List (List Nat)) (i : D) (h : Hh) : R D := match i with
  | .int k => match zs[k.toNat]? with
    | some z => if 0 ≤ k ∧ k < 2 ^ 62 ∧ a.length + (a.length + 1) * z.length ≤ 16777216 ∧ y ≠ z then .ok (.str (cps (Txt.replace (sOf a) (sOf y) (sOf z)))) h else .bad
    | none => .bad
  | _ => .bad
/-- if x == n: return text.replace(y, [zs][e]) -/
def fRpl (i : Nat) (n : Int) (j : Nat) (y : List Nat) (zs : List (List Nat)) (fe : FE) : Ev → Hh → RS := fun env h => (fVar i env h).bindS env fun x h1 => match x with
  | .int k => if k = n then (fVar j env h1).bindS env fun t h2 => (match t with
      | .str a => if zs.length ≤ SZ then (fe env h2).bindS env fun d h3 => (rplD a y zs d h3).bindS env fun r h4 => .rt r h4 else .bad
      | _ => .bad) else .nx env h1
  | _ => .bad
mutual
def evS (E : En) (m : Bool) (cu : Cur) : CS → Ev → Hh → RS
  | .pass => fNx
  | .brk => fBk
  | .cnt => fCt
  | .doc => fNx
  | .exp e => fExp (evP E m cu e).1
  | .set i e => fSet i (evP E m cu e).1
  | .setL i own t it tt e => fSet i (if m = true then fBad else match cu with | some _ => fBad | none => fLc E.lp (own.map (·.2)) (evI E m cu it) t (evOT E m cu tt) (evP E m cu e).1)
  | .asg t e => fAsg t (evP E m cu e).1
  | .setF o f e => fSetF (E.T.isF f) f (evP E m cu o).1 (evP E m cu e).1
  | .setI o i e => fSetI (evP E m cu o).1 (evP E m cu i).1 (evP E m cu e).1
  | .aug i op e => fAug i op (evP E m cu e).1
  | .augF o f op e => fAugF (E.T.isF f) f op (evP E m cu o).1 (evP E m cu e).1
  | .ret e => fRet (evP E m cu e).1
  | .rtN => fRtN
  | .ife c a b => fIf (evP E m cu c).2 (evSs E m cu a) (evSs E m cu b)
  | .whl c b => fWhl E.lp (evP E m cu c).2 (evSs E m cu b)
  | .for_ t it b => fFor E.lp (evI E m cu it) t (evSs E m cu b)
  | .rai c es => if m = true then fun _ _ => .bad else match E.T.xcls.lookup c with | some (n, fs) => fRaise c n fs (evA E m cu es) | none => fun _ _ => .bad
  | .tri b c i su => match cu with
    | some _ => if m = true then fTry true (fun c' => E.T.xsub.lookup (c', c)) i (fun _ _ _ _ => .bad) (evSs E m cu b) else fun _ _ => .bad
    | none => fTry m (fun c' => E.T.xsub.lookup (c', c)) i (fun c' l => evSs E true (some (c', l, i)) su) (evSs E m cu b)
  | .rpl i n j y zs e => fRpl i n j y zs (evP E m cu e).1
def evSs (E : En) (m : Bool) (cu : Cur) : CSs → Ev → Hh → RS
  | .nil => fNx
  | .cons s r => fSeq (evS E m cu s) (evSs E m cu r)
end
/-- a def of the interpreter: the number of slots, how arguments are bound, the body -/
inductive Bd where | all (n : Nat) | star (n : Nat)
def Bd.f : Bd → List D → Option (List D)
  | .all n => bdAll n
  | .star n => bdStar n
structure Fd where
  n : Nat
  bd : Bd
  body : CSs
/-- the defs, k calls deep -/
def phi (T : Tb) (lp : LpT) (scr : List Int) (code : Nat → Option Fd) : Nat → Bool → Nat → List D → Hh → R D
  | 0 => fun _ _ _ _ => .bad
  | k + 1 => fun m f => match code f with
    | some d => fFn d.n d.bd.f (evSs ⟨T, phi T lp scr code k, lp, scr⟩ m none d.body)
    | none => fun _ _ => .bad
/-- loops, by a number of turns -/
def lpN (n : Nat) : LpT := fun f s => iterN f n s
theorem lpN_ok (n : Nat) : LpOk (lpN n) := fun f s _ => ⟨n, rfl⟩
end PI

set_option maxRecDepth 100000
set_option maxHeartbeats 1000000
/-! PI, part 21: which tree of the program a tree of the interpreter stands for. -/
namespace PI
open PySem PySem.Spec PyProof.Rows L2
def ndb (x : Str) : Bool := x != "__debug__" && x != "__classdict__" && x != "__name__"
def visN (sc : Scope) (x : Str) : Bool := match sc.names.lookup x with
  | some .local => true | some .cell => true | some .free => true | _ => false
def locN (sc : Scope) (x : Str) : Bool := match sc.names.lookup x with
  | some .local => true | some .cell => true | _ => false
def glbN (sc : Scope) (x : Str) : Bool := sc.names.lookup x == some .globalImplicit
def isStar : Expr → Bool
  | .Starred _ _ => true
  | _ => false
def isSet : Expr → Bool
  | .Set _ _ _ => true
  | _ => false
def isSlice : Expr → Bool
  | .Slice _ _ _ _ => true
  | _ => false
def isComp : Expr → Bool
  | .ListComp _ _ _ _ => true | .SetComp _ _ _ _ => true | .DictComp _ _ _ _ _ => true
  | _ => false
def isTup : Expr → Bool
  | .Tuple _ _ _ => true
  | _ => false
def noStars (es : List Expr) : Bool := es.all fun e => !isStar e
def argsB : List Expr → Bool
  | [] => true
  | e :: _ => !isStar e
/-- a test that asks its value's truth -/
def plainT : Expr → Bool
  | .UnaryOp .Not _ _ => false | .BoolOp _ _ _ => false | .IfExp _ _ _ _ => false | .Compare _ _ _ _ => false
  | _ => true
mutual
def mtT (N : List Str) (sc : Scope) (blk : Bool) : Tg → Expr → Bool
  | .nm i, .Name x _ => decide (N[i]? = some x) && (sc.names.lookup x == some .local || (!blk && sc.names.lookup x == some .cell))
  | .tup ts, .Tuple es _ _ => mtTs N sc blk ts es
  | _, _ => false
def mtTs (N : List Str) (sc : Scope) (blk : Bool) : Tgs → List Expr → Bool
  | .nil, [] => true
  | .cons t r, e :: es => !isStar e && mtT N sc blk t e && mtTs N sc blk r es
  | _, _ => false
end
mutual
/-- xs: the slot of a suite's exception -/
def mtE (T : Tb) (N : List Str) (sc : Scope) (xs : Option Nat) : CE → Expr → Bool
  | .var i, .Name x _ => decide (N[i]? = some x) && visN sc x && ndb x
  | .int n, .Constant (.int k) _ _ => decide (n = k)
  | .bl b, .Constant (.bool k) _ _ => decide (b = k)
  | .str z, .Constant (.str x) _ _ => decide (x = sOf z)
  | .non, .Constant .none _ _ => true
  | .glo g, .Name x _ => (match T.gco[g]? with | some p => decide (p.1 = x) | none => false) && glbN sc x && ndb x
  | .tyn t, .Name x _ => decide (x = (t.nm : Str)) && T.bts.contains x && glbN sc x
  | .cln c, .Name x _ => T.gcl.contains (x, c) && glbN sc x && ndb x
  | .bin op a b, .BinOp l o r _ => decide (o = op.op) && mtE T N sc xs a l && mtE T N sc xs b r
  | .cmp op a b, .Compare l [o] [r] _ => decide (o = op.op) && !isSet r && mtE T N sc xs a l && mtE T N sc xs b r
  | .chn o1 o2 a b c, .Compare l [p1, p2] [r1, r2] _ => decide (p1 = o1.op) && decide (p2 = o2.op) && !isSet r2 && mtE T N sc xs a l && mtE T N sc xs b r1 && mtE T N sc xs c r2
  | .and_ es, .BoolOp .And vs _ => !vs.isEmpty && noStars vs && mtA T N sc xs es vs
  | .or_ es, .BoolOp .Or vs _ => !vs.isEmpty && noStars vs && mtA T N sc xs es vs
  | .not_ a, .UnaryOp .Not x _ => mtE T N sc xs a x
  | .ife c a b, .IfExp t x y _ => mtE T N sc xs c t && mtE T N sc xs a x && mtE T N sc xs b y
  | .neg a, .UnaryOp .USub x _ => mtE T N sc xs a x
  | .tup es, .Tuple vs _ _ => mtA T N sc xs es vs
  | .lst es, .List vs _ => mtA T N sc xs es vs
  | .idx a b, .Subscript x y _ => !isSlice y && mtE T N sc xs a x && mtE T N sc xs b y
  | .slc a lo hi, .Subscript x (.Slice l u .none _) _ => mtE T N sc xs a x && mtO T N sc xs lo l && mtO T N sc xs hi u
  | .call f es, .Call (.Name x _) as [] _ => T.gfn.contains (x, f) && glbN sc x && ndb x && argsB as && mtA T N sc xs es as
  | .new c es, .Call (.Name x _) as [] _ => T.gcl.contains (x, c) && glbN sc x && ndb x && argsB as && mtA T N sc xs es as
  | .newV i es, .Call (.Name x _) as [] _ => decide (N[i]? = some x) && visN sc x && ndb x && argsB as && mtA T N sc xs es as
  | .meth o mn es, .Call (.Attribute e a ap) as [] p => decide (a = nmOf T.nms mn) && nsup e && (ap.endLine == p.line) && noStars as && decide (as.length < 30) && mtE T N sc xs o e && mtA T N sc xs es as
  | .att o f, .Attribute e a _ => decide (a = nmOf T.nms f) && nsup e && mtE T N sc xs o e
  | .bi b es, .Call (.Name x _) as [] _ => decide (x = (b.nm : Str)) && T.bts.contains x && glbN sc x && noStars as && mtA T N sc xs es as
  | .bm k o es, .Call (.Attribute e a ap) as [] p => decide (a = (k.nm : Str)) && nsup e && (ap.endLine == p.line) && noStars as && decide (as.length < 30) && mtE T N sc xs o e && mtA T N sc xs es as
  | .exF f, .Attribute (.Name x _) a _ => decide (a = nmOf T.nms f) && (match xs with | some i => decide (N[i]? = some x) | none => false) && visN sc x && ndb x
  | .exI c, .Call (.Name x _) [.Name y _, .Name z _] [] _ => decide (x = ("isinstance" : Str)) && T.bts.contains x && glbN sc x && (match xs with | some i => decide (N[i]? = some y) | none => false) && visN sc y && ndb y && T.gcl.contains (z, c) && glbN sc z && ndb z
  | .jst es, .JoinedStr vs _ => decide (2 ≤ vs.length) && noStars vs && mtA T N sc xs es vs
  | .fmt a, .FormattedValue x k .none _ => decide (k = -1) && mtE T N sc xs a x
  | .lc own t it tt e, .ListComp elt [g] scope _ => decide (g.is_async = 0) && !isSet g.iter && blkC N sc scope own && (tgIx t).all (fun i => (own.map (·.2)).contains i) && mtT N (relS scope sc) true t g.target && mtI T N sc xs it g.iter && mtOT T N (relS scope sc) none tt g.ifs && mtE T N (relS scope sc) none e elt
  | _, _ => false
def mtA (T : Tb) (N : List Str) (sc : Scope) (xs : Option Nat) : CEs → List Expr → Bool
  | .nil, [] => true
  | .cons a r, e :: es => !isStar e && mtE T N sc xs a e && mtA T N sc xs r es
  | .star a r, .Starred e _ :: es => mtE T N sc xs a e && mtA T N sc xs r es
  | _, _ => false
def mtO (T : Tb) (N : List Str) (sc : Scope) (xs : Option Nat) : CO → Option Expr → Bool
  | .none, .none => true
  | .some a, .some e => mtE T N sc xs a e
  | _, _ => false
def mtOT (T : Tb) (N : List Str) (sc : Scope) (xs : Option Nat) : CO → List Expr → Bool
  | .none, [] => true
  | .some a, [e] => mtE T N sc xs a e
  | _, _ => false
def mtI (T : Tb) (N : List Str) (sc : Scope) (xs : Option Nat) : CI → Expr → Bool
  | .val a, e => mtE T N sc xs a e
  | .rng1 a, .Call (.Name x _) [e] [] _ => decide (x = ("range" : Str)) && T.bts.contains x && glbN sc x && !isStar e && mtE T N sc xs a e
  | .rng2 a b, .Call (.Name x _) [e, f] [] _ => decide (x = ("range" : Str)) && T.bts.contains x && glbN sc x && !isStar e && !isStar f && mtE T N sc xs a e && mtE T N sc xs b f
  | _, _ => false
end
def swapOk (tg e : Expr) : Bool := match tg, e with
  | .Tuple _ _ _, .Tuple _ _ _ => false
  | .List _ _, .Tuple _ _ _ => false
  | _, _ => true
def consts : List (List Nat) → List Expr → Bool
  | [], [] => true
  | z :: r, .Constant (.str x) _ _ :: es => decide (x = sOf z) && consts r es
  | _, _ => false
def lclN (N : List Str) (sc : Scope) (i : Nat) (x : Str) : Bool := decide (N[i]? = some x) && locN sc x
/-- except y as n: s0, .. -/
def hd1 : List ExceptHandler → Option (Str × Str × Stmt × List Stmt)
  | [.ExceptHandler (some (.Name y _)) (some n) (s0 :: ss) _] => some (y, n, s0, ss)
  | _ => none
theorem hd1_inv {hds : List ExceptHandler} {y n : Str} {s0 : Stmt} {ss : List Stmt} (h : hd1 hds = some (y, n, s0, ss)) : ∃ yp hp, hds = [.ExceptHandler (some (.Name y yp)) (some n) (s0 :: ss) hp] := by
  unfold hd1 at h
  split at h
  · cases h
    exact ⟨_, _, rfl⟩
  · cases h
/-- if x == k: return t.replace(y, [vs][ix]): x, k, t, y, vs, ix -/
def rp1 : Stmt → Option (Str × Int × Str × Str × List Expr × Expr)
  | .If (.Compare (.Name x _) [.Eq] [.Constant (.int k) _ _] _) [.Return (some (.Call (.Attribute (.Name t _) a ap) [.Constant (.str y) _ _, .Subscript (.List vs _) ix _] [] p)) _] [] _ =>
    if a = "replace" ∧ (ap.endLine == p.line) = true then some (x, k, t, y, vs, ix) else none
  | _ => none
theorem rp1_inv {a : Stmt} {x t y : Str} {n : Int} {vs : List Expr} {ix : Expr} (h : rp1 a = some (x, n, t, y, vs, ix)) : ∃ p1 jn pn pc pt ap jy py pl ps p pr pi, (ap.endLine == p.line) = true ∧
    a = .If (.Compare (.Name x p1) [.Eq] [.Constant (.int n) jn pn] pc) [.Return (some (.Call (.Attribute (.Name t pt) "replace" ap) [.Constant (.str y) jy py, .Subscript (.List vs pl) ix ps] [] p)) pr] [] pi := by
  unfold rp1 at h
  split at h
  · split at h
    · rename_i hc
      obtain ⟨h1, h2⟩ := hc
      cases h
      subst h1
      exact ⟨_, _, _, _, _, _, _, _, _, _, _, _, _, h2, rfl⟩
    · cases h
  · cases h
mutual
def mtS (T : Tb) (N : List Str) (sc : Scope) (xs : Option Nat) : CS → Stmt → Bool
  | .pass, .Pass _ => true
  | .brk, .Break _ => true
  | .cnt, .Continue _ => true
  | .doc, .Expr (.Constant (.str _) _ _) _ => true
  | .exp e, .Expr v _ => !isComp v && mtE T N sc xs e v
  | .set i e, .Assign [.Name x _] v _ => lclN N sc i x && !isComp v && mtE T N sc xs e v
  | .setL i own t it tt e, .Assign [.Name y py] (.ListComp elt [g] scope p) _ => decide (N[i]? = some y) && (sc.names.lookup y == some .local) && (py.line == p.line) && !(scope.names.any fun nk => nk.1 == y && (nk.2 == .local || nk.2 == .cell)) &&
      decide (g.is_async = 0) && !isSet g.iter && blkC N sc scope own && (tgIx t).all (fun i => (own.map (·.2)).contains i) && mtT N (relS scope sc) true t g.target && mtI T N sc xs it g.iter && mtOT T N (relS scope sc) none tt g.ifs && mtE T N (relS scope sc) none e elt
  | .asg t e, .Assign [tg] v _ => !isComp v && swapOk tg v && !isStar tg && isTup tg && mtT N sc false t tg && mtE T N sc xs e v
  | .setF o f e, .Assign [.Attribute x a _] v _ => decide (a = nmOf T.nms f) && !isComp v && mtE T N sc xs o x && mtE T N sc xs e v
  | .setI o i e, .Assign [.Subscript x y _] v _ => !isSlice y && !isComp v && mtE T N sc xs o x && mtE T N sc xs i y && mtE T N sc xs e v
  | .aug i op e, .AugAssign (.Name x _) o v _ => decide (o = op.op) && lclN N sc i x && mtE T N sc xs e v
  | .augF x f op e, .AugAssign (.Attribute y a _) o v _ => decide (o = op.op) && decide (a = nmOf T.nms f) && mtE T N sc xs x y && mtE T N sc xs e v
  | .ret e, .Return (some v) _ => mtE T N sc xs e v
  | .rtN, .Return none _ => true
  | .ife c a b, .If t x y _ => mtE T N sc xs c t && mtSs T N sc xs a x && mtSs T N sc xs b y
  | .whl c b, .While t x [] _ => mtE T N sc xs c t && mtSs T N sc xs b x
  | .for_ t it b, .For tg iter x [] _ => !isSet iter && mtT N sc false t tg && mtI T N sc xs it iter && mtSs T N sc xs b x
  | .rai c es, .Raise (some (.Call (.Name x _) as [] _)) none _ => T.gcl.contains (x, c) && glbN sc x && ndb x && argsB as && mtA T N sc xs es as
  | .tri b c i (.cons s su), .Try x hds oe fb _ => oe.isEmpty && fb.isEmpty && (match hd1 hds with
    | some (y, n, s0, ss) => T.gcl.contains (y, c) && glbN sc y && ndb y && decide (N[i]? = some n) && (sc.names.lookup n == some .local) && mtSs T N sc xs b x && mtS T N sc (some i) s s0 && mtSs T N sc (some i) su ss
    | none => false)
  | .rpl i n j y zs e, a => (match rp1 a with
    | some (x, k, t, y', vs, ix) => decide (n = k) && decide (N[i]? = some x) && visN sc x && ndb x && decide (N[j]? = some t) && visN sc t && ndb t && decide (y' = sOf y) && consts zs vs && !isSlice ix && mtE T N sc xs e ix
    | none => false)
  | _, _ => false
def mtSs (T : Tb) (N : List Str) (sc : Scope) (xs : Option Nat) : CSs → List Stmt → Bool
  | .nil, [] => true
  | .cons s r, t :: ts => mtS T N sc xs s t && mtSs T N sc xs r ts
  | _, _ => false
end
end PI

set_option maxRecDepth 100000
set_option maxHeartbeats 4000000
/-! PI, part 22: the trees of the interpreter tell what the program's trees do: expressions. -/
namespace PI
open PySem PySem.Spec PyProof.Rows L2
structure TbOk (T : Tb) (K : PySem.W.Frag) (mg : Str → Option Value) (G : Gam0) : Prop where
  nm : G.nm = nmOf T.nms
  inj : ∀ i j, G.nm i = G.nm j → i = j
  gfn : ∀ x f, (x, f) ∈ T.gfn → mg x = some (.ref (G.fa f)) ∧ PySem.W.keepIn K (.ref (G.fa f)) = true
  gcl : ∀ x c, (x, c) ∈ T.gcl → mg x = some (.ref (G.ca c))
  gco : ∀ p, p ∈ T.gco → ∃ v u, mg p.1 = some u ∧ RelV v u ∧ ∀ ρ H, RD K G ρ H p.2 v
  bts : ∀ x, x ∈ T.bts → mg x = none
  cini : ∀ c g, T.cini.lookup c = some g → Mk K (G.ca c) (G.fa g)
  flds : ∀ c f, (c, f) ∈ T.flds → FldOk K G c f
  meths : ∀ c mn g, T.meths.lookup (c, mn) = some g → MethOk K G c mn g
  cmets : ∀ c mn g, T.cmets.lookup (c, mn) = some g → CMethOk K G c mn g
  props : ∀ c f g, T.props.lookup (c, f) = some g → PropOk K G c f g
  ccons : ∀ c f d, T.ccons.lookup (c, f) = some d → ConOk K G c f d
  owneq : ∀ c g, T.owneq.lookup c = some g → OwnNe K G c g
  xcls : ∀ c n fs, T.xcls.lookup c = some (n, fs) → n ≤ 900 ∧ fs.length ≤ 800 ∧ ∃ fI bn B, XcTxt K mg (G.ca c) fI bn B n (fs.map fun p => (G.nm p.1, p.2 + 1))
  xsub : ∀ c c2 b, T.xsub.lookup (c, c2) = some b → PySem.W.exmOne K (.ref (G.ca c)) (.ref (G.ca c2)) = some b
  xfld : ∀ c f, (c, f) ∈ T.xfld → XFldOk K G c f
  xisi : ∀ c c2 b, T.xisi.lookup (c, c2) = some b → XIsOk K G c ∧ PySem.W.kitOne K (.ref (G.ca c)) (.ref (G.ca c2)) = some b
  ist : IsOk K G T.ist (fun c => T.iins.contains c)
structure CurOk (K : PySem.W.Frag) (X : Cx) (G : Gam) (m : Bool) (c : Nat) (l : List (Nat × D)) (i : Nat) : Prop where
  hot : m = true
  ex : ∃ a oe d, G.jx = some (i, a) ∧ (a, oe) ∈ X.pn ∧ L2N.Zn (.ref (G.ca c)) d oe ∧ (∃ vs, oe.data = .fields vs) ∧ XD K G G.jr G.jh l d
/-- the surroundings of an expression -/
structure C0 (E : En) (m : Bool) (cu : Cur) (k : Nat) (W : WX) (X : Cx) (G : Gam) (P : Program) (w : World) (K : PySem.W.Frag) (mg : Str → Option Value) (base : Heap) (N : List Str) (sc : Scope) : Prop where
  xin : XIn m (k + 2) W X P w K mg base N sc
  tb : TbOk E.T K mg G.toGam0
  nd : N.Nodup
  scr : E.scr = G.scr
  pfs : ∀ m', PFs m' P w K mg base G.toGam0 k (E.Φ m')
  lp : LpOk E.lp
  cur : ∀ c l i, cu = some (c, l, i) → CurOk K X G m c l i
  non : cu = none → G.jx = none
theorem XOk.mono {m : Bool} {j k : Nat} {W : WX} {X : Cx} (ok : XOk m k W X) (h : j ≤ k) : XOk m j W X := ⟨ok.room.mono h, ok.mode, ok.tk⟩
theorem nof {P : Prop} (h : false = true) : P := by cases h
theorem ndb_of {x : Str} (h : ndb x = true) : (x == ("__debug__" : Str)) = false ∧ (x == ("__classdict__" : Str)) = false ∧ x ≠ "__name__" := by
  unfold ndb at h
  rw [Bool.and_eq_true, Bool.and_eq_true] at h
  exact ⟨by simpa using h.1.1, by simpa using h.1.2, by simpa using h.2⟩
theorem vis_of {sc : Scope} {x : Str} (h : visN sc x = true) : Vis sc x := by
  unfold visN at h
  split at h
  · exact .inl (by assumption)
  · exact .inr (.inl (by assumption))
  · exact .inr (.inr (by assumption))
  · cases h
theorem loc_of {sc : Scope} {x : Str} (h : locN sc x = true) : Loc sc x := by
  unfold locN at h
  split at h
  · exact .inl (by assumption)
  · exact .inr (by assumption)
  · cases h
theorem isTrue_plainT {a : Expr} {env : Env} {wh : Sem Value} (h : plainT a = true) : isTrue a env wh = (do let v ← wh; standAt a.pos; holding [v] (truthy v)) := by
  cases a with
  | UnaryOp op x p => cases op with
    | Not => exact nof h
    | _ => rfl
  | BoolOp _ _ _ => exact nof h
  | IfExp _ _ _ _ => exact nof h
  | Compare _ _ _ _ => exact nof h
  | _ => rfl
theorem star_plain {a : Expr} {es : List Expr} {env : Env} (h : isStar a = false) : starEach (a :: es) env = (false, eval a env) :: starEach es env := by
  cases a with
  | Starred _ _ => exact nof h.symm
  | _ => rfl
theorem args_of {es : List Expr} {env : Env} (h : argsB es = true) : ArgsOk env es := by
  cases es with
  | nil => exact .inl rfl
  | cons e r => exact .inr ⟨e, r, rfl, star_plain (by simpa [argsB] using h)⟩
theorem noStars_any {es : List Expr} {env : Env} {pos : Pos} (h : noStars es = true) : (backTo pos (starEach es env)).any (·.1) = false := by
  induction es with
  | nil => rfl
  | cons e r ih =>
    unfold noStars at h ih
    rw [List.all_cons, Bool.and_eq_true] at h
    rw [star_plain (by simpa using h.1)]
    show (false || (backTo pos (starEach r env)).any (·.1)) = false
    rw [ih h.2]
    rfl
theorem noStars_all {es : List Expr} {env : Env} {pos : Pos} (h : noStars es = true) : (backTo pos (starEach es env)).all (fun x => !x.1) = true := by
  induction es with
  | nil => rfl
  | cons e r ih =>
    unfold noStars at h ih
    rw [List.all_cons, Bool.and_eq_true] at h
    rw [star_plain (by simpa using h.1)]
    show (!false && (backTo pos (starEach r env)).all (fun x => !x.1)) = true
    rw [ih h.2]
    rfl
theorem noStars_args {es : List Expr} (h : noStars es = true) : argsB es = true := by
  cases es with
  | nil => rfl
  | cons e r =>
    unfold noStars at h
    rw [List.all_cons, Bool.and_eq_true] at h
    exact h.1
theorem few_of {es : List Expr} {env : Env} {pos : Pos} (h : noStars es = true) (hl : es.length < 30) : methodCallForm es.length (backTo pos (starEach es env)) [] = true := by
  unfold methodCallForm
  rw [noStars_all h]
  simp [hl]
theorem set_marks {op : CmpOp} {b : Expr} (h : isSet b = false) : behindInMarks op b = false := by
  cases b with
  | Set _ _ _ => exact nof h.symm
  | _ => rfl
theorem plain_ix {b : Expr} (h : isSlice b = false) : PlainIx b := by
  intro o i
  cases b with
  | Slice _ _ _ _ => exact nof h.symm
  | _ => rfl
theorem fold_set {iter : Expr} {env : Env} (h : isSet iter = false) : ∀ x, foldedSetIterable iter env x = pure x := by
  intro x
  cases iter with
  | Set _ _ _ => exact nof h.symm
  | _ => rfl
theorem boot_bt (t : Bt) : bootBuiltins (t.nm : Str) = some (.type t.nm) := by cases t <;> decide +kernel
theorem bt_db (t : Bt) : ((t.nm : Str) == ("__debug__" : Str)) = false ∧ (t.nm : Str) ≠ "__name__" := by cases t <;> exact ⟨by decide, by decide⟩
theorem bi_db (t : Bi) : ((t.nm : Str) == ("__debug__" : Str)) = false ∧ (t.nm : Str) ≠ "__name__" := by cases t <;> exact ⟨by decide, by decide⟩
/-- expressions and tests, side by side -/
inductive SPs (X : Cx) (G : Gam) (W : WX) : List Expr → List FP → Prop where
  | nil : SPs X G W [] []
  | cons {a : Expr} {p : FP} {es : List Expr} {ps : List FP} (h : SE X G W a p.1 ∧ STe X G W a p.2) (r : SPs X G W es ps) : SPs X G W (a :: es) (p :: ps)
section
variable {X : Cx} {G : Gam} {W : WX} {pos : Pos} {a : Expr} {f : FE} {es : List Expr} {ps : List FP}
theorem mk_ok (h : SE X G W a f) (he : plainT a = true) : SE X G W a (mk f).1 ∧ STe X G W a (mk f).2 := ⟨h, st_plain h (isTrue_plainT he)⟩
theorem bad_ok : SE X G W a fBad := fun pins s σ H ρ env h I r er hx => hx.elim
theorem and_ok (hp : SPs X G W es ps) : (es ≠ [] → SE X G W (.BoolOp .And es pos) (andE ps)) ∧ ∀ wh, STw X G W (.BoolOp .And es pos) wh (andT ps) := by
  induction hp with
  | nil => exact ⟨fun h => (h rfl).elim, fun wh => st_and0⟩
  | @cons a p es ps h r ih =>
    refine ⟨fun _ => ?_, fun wh => st_and h.2 (ih.2 wh)⟩
    cases r with
    | nil => exact se_bool1 h.1
    | @cons b q es ps h2 r2 => exact se_and h.1 (ih.1 (by simp))
theorem or_ok (hp : SPs X G W es ps) : (es ≠ [] → SE X G W (.BoolOp .Or es pos) (orE ps)) ∧ ∀ wh, STw X G W (.BoolOp .Or es pos) wh (orT ps) := by
  induction hp with
  | nil => exact ⟨fun h => (h rfl).elim, fun wh => st_or0⟩
  | @cons a p es ps h r ih =>
    refine ⟨fun _ => ?_, fun wh => st_or h.2 (ih.2 wh)⟩
    cases r with
    | nil => exact se_bool1 h.1
    | @cons b q es ps h2 r2 => exact se_or h.1 (ih.1 (by simp))
theorem sj_of (hp : SPs X G W es ps) : SJ X G W es (ps.map (·.1)) := by
  induction hp with
  | nil => exact .nil
  | cons h r ih => exact .cons h.1 ih
end
section
variable {P : Program} {w : World} {K : PySem.W.Frag} {mg : Str → Option Value} {base : Heap} {N : List Str}
theorem C0.gl {E : En} {m : Bool} {cu : Cur} {k : Nat} {W : WX} {X : Cx} {G : Gam} {sc : Scope} (c : C0 E m cu k W X G P w K mg base N sc) {x : Str} (h : glbN sc x = true) : Gl X x := by
  show X.env.kindOf x = some .globalImplicit
  show X.env.scope.names.lookup x = some .globalImplicit
  rw [c.xin.sc]
  exact beq_iff_eq.mp h
theorem C0.bt {E : En} {m : Bool} {cu : Cur} {k : Nat} {W : WX} {X : Cx} {G : Gam} {sc : Scope} (c : C0 E m cu k W X G P w K mg base N sc) {x : Str} (h : E.T.bts.contains x = true) : X.mg x = none := by
  rw [c.xin.mg]
  exact c.tb.bts x (List.contains_iff_mem.mp h)
/-- targets -/
theorem sT {X : Cx} {G : Gam} {N : List Str} {sc : Scope} {blk : Bool} {m : Bool} (hN : X.N = N) (hsc : X.env.scope = sc) (nd : N.Nodup) (hm : XMode m X) (hb : blk = false → ∀ x, X.fn x = true) : (∀ (t : Tg) (e : Expr), mtT N sc blk t e = true → SG X G e t) ∧ (∀ (t : Tgs) (es : List Expr), mtTs N sc blk t es = true → SGs X G es t ∧ (assignEach es X.env).length = tgsLen t ∧ (assignEach es X.env).findIdx? (·.1) = none) := by
  subst hN hsc
  have one : ∀ (i : Nat) (e : Expr), mtT X.N X.env.scope blk (.nm i) e = true → SG X G e (.nm i) := by
    intro i e h
    cases e with
    | Name x p =>
      have h' : (decide (X.N[i]? = some x) && (X.env.scope.names.lookup x == some .local || (!blk && X.env.scope.names.lookup x == some .cell))) = true := by simpa only [mtT] using h
      rw [Bool.and_eq_true, Bool.or_eq_true] at h'
      obtain ⟨h1, h2⟩ := h'
      rcases h2 with h2 | h2
      · exact sg_name nd (of_decide_eq_true h1) (.inl (beq_iff_eq.mp h2)) (.inr (beq_iff_eq.mp h2))
      · rw [Bool.and_eq_true] at h2
        exact sg_name nd (of_decide_eq_true h1) (.inr (beq_iff_eq.mp h2.2)) (.inl (hb (by simpa using h2.1) x))
    | _ => simp only [mtT] at h; exact nof h
  have both : ∀ n : Nat, (∀ (t : Tg) (e : Expr), sizeOf t ≤ n → mtT X.N X.env.scope blk t e = true → SG X G e t) ∧ (∀ (t : Tgs) (es : List Expr), sizeOf t ≤ n → mtTs X.N X.env.scope blk t es = true → SGs X G es t ∧ (assignEach es X.env).length = tgsLen t ∧ (assignEach es X.env).findIdx? (·.1) = none) := by
    intro n
    induction n with
    | zero =>
      refine ⟨fun t e hz => ?_, fun t es hz => ?_⟩
      · cases t <;> simp at hz
      · cases t <;> simp at hz
    | succ n ih =>
      refine ⟨fun t e hz h => ?_, fun t es hz h => ?_⟩
      · cases t with
        | nm i => exact one i e h
        | tup ts =>
          cases e with
          | Tuple es kk p =>
            simp only [mtT] at h
            obtain ⟨h1, h2, h3⟩ := ih.2 ts es (by simp at hz; omega) h
            exact sg_tup hm h1 h2 h3 fun ds env env' e => asgTs_len ts ds env env' e
          | _ => simp only [mtT] at h; exact nof h
      · cases t with
        | nil =>
          cases es with
          | nil => exact ⟨sgs_nil, rfl, rfl⟩
          | cons _ _ => simp only [mtTs] at h; exact nof h
        | cons t r =>
          cases es with
          | nil => simp only [mtTs] at h; exact nof h
          | cons e es =>
            simp only [mtTs, Bool.and_eq_true] at h
            obtain ⟨⟨h1, h2⟩, h3⟩ := h
            have a1 := ih.1 t e (by simp at hz; omega) h2
            obtain ⟨b1, b2, b3⟩ := ih.2 r es (by simp at hz; omega) h3
            have ae : assignEach (e :: es) X.env = (false, assign e X.env) :: assignEach es X.env := by
              cases e with
              | Starred _ _ => exact nof (by simpa [isStar] using h1)
              | _ => rfl
            refine ⟨sgs_cons a1 b1 (by rw [ae]; rfl), ?_, ?_⟩
            · rw [ae, List.length_cons, b2]
              rfl
            · rw [ae, List.findIdx?_cons, b3]
              rfl
  exact ⟨fun t e h => (both (sizeOf t)).1 t e (Nat.le_refl _) h, fun t es h => (both (sizeOf t)).2 t es (Nat.le_refl _) h⟩
end
end PI

set_option maxRecDepth 100000
set_option maxHeartbeats 8000000
/-! PI, part 23: the same, the induction. -/
namespace PI
open PySem PySem.Spec PyProof.Rows L2
section
variable {P : Program} {w : World} {K : PySem.W.Frag} {mg : Str → Option Value} {base : Heap} {N : List Str}
theorem C0.blk {E : En} {k : Nat} {W : WX} {X : Cx} {G : Gam} {sc : Scope} (c : C0 E false none k W X G P w K mg base N sc) (scope : Scope) (s : Shared) (H : Hp) (C : Addr) (cl : List (Str × Addr)) (fp : List Addr) : C0 E false none k W0 (X.blk s H scope (compEnvC scope cl C X.env) fp) G P w K mg base N (relS scope sc) := by
  have x := c.xin
  refine ⟨⟨x.prog, x.w, x.K, x.mg, x.base, x.N, ?_, ⟨x.ok.room, x.ok.mode, fun _ => ?_⟩⟩, c.tb, c.nd, c.scr, c.pfs, c.lp, (fun _ _ _ z => by cases z), c.non⟩
  · show relabel scope X.env = relS scope sc
    rw [← x.sc]
    rfl
  · rintro u s' ⟨a, B, sI, pins, σ, H', cls, d, _, _, _, _, _, _, _, _, z⟩
    exact z.elim
theorem boot_bi : bootBuiltins "len" = some (.builtin "len") ∧ bootBuiltins "isinstance" = some (.builtin "isinstance") ∧ bootBuiltins "sorted" = some (.builtin "sorted") ∧ bootBuiltins "abs" = some (.builtin "abs") := by
  refine ⟨?_, ?_, ?_, ?_⟩ <;> decide +kernel
theorem bi_ok {E : En} {m : Bool} {cu : Cur} {k : Nat} {W : WX} {X : Cx} {G : Gam} {sc : Scope} (c : C0 E m cu k W X G P w K mg base N sc) (b : Bi) {as : List Expr} {fr : Ev → Hh → R (List D)} {p pos : Pos} (h1 : X.mg (b.nm : Str) = none) (h2 : Gl X (b.nm : Str)) (h3 : noStars as = true) (ha : SA X G W as fr) :
    SE X G W (.Call (.Name (b.nm : Str) p) as [] pos) (fBi (biF E b) fr) := by
  have hs := args_of (env := X.env) (noStars_args h3)
  have hp := noStars_any (env := X.env) (pos := pos) h3
  have hist : IsOk X.K G.toGam0 E.T.ist (fun c => E.T.iins.contains c) := by rw [c.xin.K]; exact c.tb.ist
  have hscr := c.scr
  cases b with
  | len => exact se_bi br_len h2 h1 boot_bi.1 hs hp ha (bi_db .len).2 (bi_db .len).1
  | isi => exact se_bi (br_isi hist) h2 h1 boot_bi.2.1 hs hp ha (bi_db .isi).2 (bi_db .isi).1
  | sorted => exact se_bi br_sorted h2 h1 boot_bi.2.2.1 hs hp ha (bi_db .sorted).2 (bi_db .sorted).1
  | abs => exact se_bi br_abs h2 h1 boot_bi.2.2.2 hs hp ha (bi_db .abs).2 (bi_db .abs).1
  | int => exact se_bty br_int h2 h1 (boot_bt .int) hs hp ha (bi_db .int).2 (bi_db .int).1
  | str => exact se_bty br_str h2 h1 (boot_bt .str) hs hp ha (bi_db .str).2 (bi_db .str).1
  | tuple => exact se_bty br_tuple h2 h1 (boot_bt .tuple) hs hp ha (bi_db .tuple).2 (bi_db .tuple).1
  | list => exact se_bty (by show BR X G W _ (listD E.scr); rw [hscr]; exact br_list) h2 h1 (boot_bt .list) hs hp ha (bi_db .list).2 (bi_db .list).1
theorem bm_ok {X : Cx} {G : Gam} {W : WX} (k : Bm) {o : Expr} {as : List Expr} {fo : FE} {fr : Ev → Hh → R (List D)} {ap pos : Pos} (ho : SE X G W o fo) (ha : SA X G W as fr) (h1 : nsup o = true) (h2 : (ap.endLine == pos.line) = true) (h3 : noStars as = true) (h4 : as.length < 30) :
    SE X G W (.Call (.Attribute o (k.nm : Str) ap) as [] pos) (fBm (bmT k) (bmF k) fo fr) := by
  have hs := args_of (env := X.env) (noStars_args h3)
  have hf := few_of (env := X.env) (pos := pos) h3 h4
  cases k with
  | append => exact se_bm PySem.F.plainAttrs_list PySem.F.slot_list_append PySem.F.type_list_append mr_append ho ha hs h1 h2 hf
  | insert => exact se_bm PySem.F.plainAttrs_list PySem.F.slot_list_insert PySem.F.type_list_insert mr_insert ho ha hs h1 h2 hf
  | split => exact se_bm PySem.F.plainAttrs_str PySem.F.slot_str_split PySem.F.type_str_split mr_split ho ha hs h1 h2 hf
  | partition => exact se_bm PySem.F.plainAttrs_str PySem.F.slot_str_partition PySem.F.type_str_partition mr_partition ho ha hs h1 h2 hf
  | join => exact se_bm PySem.F.plainAttrs_str PySem.F.slot_str_join PySem.F.type_str_join mr_join ho ha hs h1 h2 hf
end
section
variable {E : En} {P : Program} {w : World} {K : PySem.W.Frag} {mg : Str → Option Value} {base : Heap} {N : List Str} {k : Nat}
abbrev GE (E : En) (P : Program) (w : World) (K : PySem.W.Frag) (mg : Str → Option Value) (base : Heap) (N : List Str) (k : Nat) (e : CE) : Prop := ∀ (m : Bool) (cu : Cur) (a : Expr) (W : WX) (X : Cx) (G : Gam) (sc : Scope), mtE E.T N sc (cu.map (·.2.2)) e a = true → C0 E m cu k W X G P w K mg base N sc → SE X G W a (evP E m cu e).1 ∧ STe X G W a (evP E m cu e).2
mutual
theorem sE : ∀ e : CE, GE E P w K mg base N k e
  | .var i, m, cu, a, W, X, G, sc, h, c => by
    cases a with
    | Name x p =>
      simp only [mtE, Bool.and_eq_true, decide_eq_true_eq] at h
      obtain ⟨⟨h1, h2⟩, h3⟩ := h
      obtain ⟨d1, d2, _⟩ := ndb_of h3
      exact mk_ok (se_var (by rw [c.xin.N]; exact h1) (by rw [c.xin.sc]; exact vis_of h2) d1 d2) rfl
    | _ => simp only [mtE] at h; exact nof h
  | .int n, m, cu, a, W, X, G, sc, h, c => by
    cases a with
    | Constant v j p =>
      cases v with
      | int i =>
        simp only [mtE, decide_eq_true_eq] at h
        subst h
        exact mk_ok se_int rfl
      | _ => simp only [mtE] at h; exact nof h
    | _ => simp only [mtE] at h; exact nof h
  | .bl b, m, cu, a, W, X, G, sc, h, c => by
    cases a with
    | Constant v j p =>
      cases v with
      | bool i =>
        simp only [mtE, decide_eq_true_eq] at h
        subst h
        exact mk_ok se_bl rfl
      | _ => simp only [mtE] at h; exact nof h
    | _ => simp only [mtE] at h; exact nof h
  | .str z, m, cu, a, W, X, G, sc, h, c => by
    cases a with
    | Constant v j p =>
      cases v with
      | str i =>
        simp only [mtE, decide_eq_true_eq] at h
        exact mk_ok (se_str h) rfl
      | _ => simp only [mtE] at h; exact nof h
    | _ => simp only [mtE] at h; exact nof h
  | .non, m, cu, a, W, X, G, sc, h, c => by
    cases a with
    | Constant v j p =>
      cases v with
      | none => exact mk_ok se_non rfl
      | _ => simp only [mtE] at h; exact nof h
    | _ => simp only [mtE] at h; exact nof h
  | .glo g, m, cu, a, W, X, G, sc, h, c => by
    cases a with
    | Name x p =>
      simp only [mtE, Bool.and_eq_true] at h
      obtain ⟨⟨h1, h2⟩, h3⟩ := h
      obtain ⟨d1, d2, d3⟩ := ndb_of h3
      cases eg : E.T.gco[g]? with
      | none => rw [eg] at h1; exact nof h1
      | some q =>
        rw [eg] at h1
        have hx : q.1 = x := of_decide_eq_true h1
        obtain ⟨v, u, e1, ru, rd⟩ := c.tb.gco q (List.mem_of_getElem? eg)
        have e2 : evP E m cu (.glo g) = mk (fCst q.2) := by simp only [evP, eg]
        rw [e2]
        refine mk_ok (se_glo (c.gl h2) (by rw [c.xin.mg, ← hx]; exact e1) ru d1 fun ρ H h r => by rw [c.xin.K]; exact rd ρ H) rfl
    | _ => simp only [mtE] at h; exact nof h
  | .tyn t, m, cu, a, W, X, G, sc, h, c => by
    cases a with
    | Name x p =>
      simp only [mtE, Bool.and_eq_true, decide_eq_true_eq] at h
      obtain ⟨⟨h1, h2⟩, h3⟩ := h
      subst h1
      exact mk_ok (se_tyn (c.gl h3) (c.bt h2) (boot_bt t) (bt_db t).2 (bt_db t).1) rfl
    | _ => simp only [mtE] at h; exact nof h
  | .cln c0, m, cu, a, W, X, G, sc, h, c => by
    cases a with
    | Name x p =>
      simp only [mtE, Bool.and_eq_true] at h
      obtain ⟨⟨h1, h2⟩, h3⟩ := h
      obtain ⟨d1, d2, d3⟩ := ndb_of h3
      exact mk_ok (se_cln (c.gl h2) (by rw [c.xin.mg]; exact c.tb.gcl x c0 (List.contains_iff_mem.mp h1)) d1) rfl
    | _ => simp only [mtE] at h; exact nof h
  | .bin op e1 e2, m, cu, a, W, X, G, sc, h, c => by
    cases a with
    | BinOp l o r p =>
      simp only [mtE, Bool.and_eq_true, decide_eq_true_eq] at h
      obtain ⟨⟨h1, h2⟩, h3⟩ := h
      subst h1
      exact mk_ok (se_bin (sE e1 m cu l W X G sc h2 c).1 (sE e2 m cu r W X G sc h3 c).1) rfl
    | _ => simp only [mtE] at h; exact nof h
  | .cmp op e1 e2, m, cu, a, W, X, G, sc, h, c => by
    cases a with
    | Compare l os rs p =>
      cases os with
      | nil => simp only [mtE] at h; exact nof h
      | cons o os =>
        cases os with
        | cons _ _ => cases rs with
          | nil => simp only [mtE] at h; exact nof h
          | cons r rs => cases rs <;> (simp only [mtE] at h; exact nof h)
        | nil =>
          cases rs with
          | nil => simp only [mtE] at h; exact nof h
          | cons r rs =>
            cases rs with
            | cons _ _ => simp only [mtE] at h; exact nof h
            | nil =>
              simp only [mtE, Bool.and_eq_true, decide_eq_true_eq] at h
              obtain ⟨⟨⟨h1, h2⟩, h3⟩, h4⟩ := h
              subst h1
              have ok := (c.xin.ok).mono (j := k + 1) (Nat.le_succ _)
              have pf : PFs m X.prog X.w X.K X.mg X.base G.toGam0 k (E.Φ m) := by rw [c.xin.prog, c.xin.w, c.xin.K, c.xin.mg, c.xin.base]; exact c.pfs m
              have how : ∀ c0 g, E.T.owneq.lookup c0 = some g → OwnNe X.K G.toGam0 c0 g := by rw [c.xin.K]; exact c.tb.owneq
              have hm := set_marks (op := op.op) (b := r) (by simpa using h2)
              exact ⟨se_cmpO ok pf how hm (sE e1 m cu l W X G sc h3 c).1 (sE e2 m cu r W X G sc h4 c).1, st_cmpO ok pf how hm (sE e1 m cu l W X G sc h3 c).1 (sE e2 m cu r W X G sc h4 c).1⟩
    | _ => simp only [mtE] at h; exact nof h
  | .chn o1 o2 e1 e2 e3, m, cu, a, W, X, G, sc, h, c => by
    cases a with
    | Compare l os rs p =>
      match os, rs, h with
      | [p1, p2], [r1, r2], h =>
        simp only [mtE, Bool.and_eq_true, decide_eq_true_eq] at h
        obtain ⟨⟨⟨⟨⟨h1, h2⟩, h3⟩, h4⟩, h5⟩, h6⟩ := h
        subst h1 h2
        have hm : lastMarks [o1.op, o2.op] [r1, r2] = false := set_marks (op := o2.op) (b := r2) (by simpa using h3)
        exact ⟨se_chn c.xin.ok.room hm (sE e1 m cu l W X G sc h4 c).1 (sE e2 m cu r1 W X G sc h5 c).1 (sE e3 m cu r2 W X G sc h6 c).1, st_chn c.xin.ok.room hm (sE e1 m cu l W X G sc h4 c).1 (sE e2 m cu r1 W X G sc h5 c).1 (sE e3 m cu r2 W X G sc h6 c).1⟩
      | [], _, h => simp only [mtE] at h; exact nof h
      | [_], _, h => simp only [mtE] at h; exact nof h
      | _ :: _ :: _ :: _, _, h => simp only [mtE] at h; exact nof h
      | [_, _], [], h => simp only [mtE] at h; exact nof h
      | [_, _], [_], h => simp only [mtE] at h; exact nof h
      | [_, _], _ :: _ :: _ :: _, h => simp only [mtE] at h; exact nof h
    | _ => simp only [mtE] at h; exact nof h
  | .and_ es, m, cu, a, W, X, G, sc, h, c => by
    cases a with
    | BoolOp op vs p =>
      cases op with
      | Or => simp only [mtE] at h; exact nof h
      | And =>
        simp only [mtE, Bool.and_eq_true] at h
        obtain ⟨⟨h1, h2⟩, h3⟩ := h
        have z := and_ok (pos := p) ((sA es m cu vs W X G sc h3 c).2 h2)
        exact ⟨z.1 (by rintro rfl; exact nof h1), z.2 _⟩
    | _ => simp only [mtE] at h; exact nof h
  | .or_ es, m, cu, a, W, X, G, sc, h, c => by
    cases a with
    | BoolOp op vs p =>
      cases op with
      | And => simp only [mtE] at h; exact nof h
      | Or =>
        simp only [mtE, Bool.and_eq_true] at h
        obtain ⟨⟨h1, h2⟩, h3⟩ := h
        have z := or_ok (pos := p) ((sA es m cu vs W X G sc h3 c).2 h2)
        exact ⟨z.1 (by rintro rfl; exact nof h1), z.2 _⟩
    | _ => simp only [mtE] at h; exact nof h
  | .not_ e, m, cu, a, W, X, G, sc, h, c => by
    cases a with
    | UnaryOp op x p =>
      cases op with
      | Not =>
        simp only [mtE] at h
        have z := sE e m cu x W X G sc h c
        exact ⟨se_not z.1, st_not z.2⟩
      | _ => simp only [mtE] at h; exact nof h
    | _ => simp only [mtE] at h; exact nof h
  | .ife e1 e2 e3, m, cu, a, W, X, G, sc, h, c => by
    cases a with
    | IfExp t x y p =>
      simp only [mtE, Bool.and_eq_true] at h
      obtain ⟨⟨h1, h2⟩, h3⟩ := h
      have z1 := sE e1 m cu t W X G sc h1 c
      have z2 := sE e2 m cu x W X G sc h2 c
      have z3 := sE e3 m cu y W X G sc h3 c
      exact ⟨se_ife z1.2 z2.1 z3.1, st_ife z1.2 z2.2 z3.2⟩
    | _ => simp only [mtE] at h; exact nof h
  | .neg e, m, cu, a, W, X, G, sc, h, c => by
    cases a with
    | UnaryOp op x p =>
      cases op with
      | USub =>
        simp only [mtE] at h
        exact mk_ok (se_neg (sE e m cu x W X G sc h c).1) rfl
      | _ => simp only [mtE] at h; exact nof h
    | _ => simp only [mtE] at h; exact nof h
  | .tup es, m, cu, a, W, X, G, sc, h, c => by
    cases a with
    | Tuple vs kk p =>
      simp only [mtE] at h
      exact mk_ok (se_tup (sA es m cu vs W X G sc h c).1) rfl
    | _ => simp only [mtE] at h; exact nof h
  | .lst es, m, cu, a, W, X, G, sc, h, c => by
    cases a with
    | List vs p =>
      simp only [mtE] at h
      exact mk_ok (se_lst (sA es m cu vs W X G sc h c).1) rfl
    | _ => simp only [mtE] at h; exact nof h
  | .idx e1 e2, m, cu, a, W, X, G, sc, h, c => by
    cases a with
    | Subscript x y p =>
      simp only [mtE, Bool.and_eq_true] at h
      obtain ⟨⟨h1, h2⟩, h3⟩ := h
      exact mk_ok (se_idx (sE e1 m cu x W X G sc h2 c).1 (sE e2 m cu y W X G sc h3 c).1 (plain_ix (by simpa using h1))) rfl
    | _ => simp only [mtE] at h; exact nof h
  | .slc e lo hi, m, cu, a, W, X, G, sc, h, c => by
    cases a with
    | Subscript x y p =>
      cases y with
      | Slice l u st p2 =>
        cases st with
        | some _ => simp only [mtE] at h; exact nof h
        | none =>
          simp only [mtE, Bool.and_eq_true] at h
          obtain ⟨⟨h1, h2⟩, h3⟩ := h
          exact mk_ok (se_slc (sE e m cu x W X G sc h1 c).1 (sO lo m cu l W X G sc h2 c) (sO hi m cu u W X G sc h3 c)) rfl
      | _ => simp only [mtE] at h; exact nof h
    | _ => simp only [mtE] at h; exact nof h
  | .call f es, m, cu, a, W, X, G, sc, h, c => by
    cases a with
    | Call fn as kw p =>
      cases fn with
      | Name x q =>
        cases kw with
        | cons _ _ => simp only [mtE] at h; exact nof h
        | nil =>
          simp only [mtE, Bool.and_eq_true] at h
          obtain ⟨⟨⟨⟨h1, h2⟩, h3⟩, h4⟩, h5⟩ := h
          obtain ⟨d1, d2, d3⟩ := ndb_of h3
          obtain ⟨g1, g2⟩ := c.tb.gfn x f (List.contains_iff_mem.mp h1)
          have pf : PF m X.prog X.w X.K X.mg X.base G.toGam0 k (G.fa f) (E.Φ m f) := by rw [c.xin.prog, c.xin.w, c.xin.K, c.xin.mg, c.xin.base]; exact c.pfs m f
          exact mk_ok (se_call ((c.xin.ok).mono (j := k) (Nat.le_add_right _ _)) pf (c.gl h2) (by rw [c.xin.mg]; exact g1) (by rw [c.xin.K]; exact g2) (args_of h4) (sA es m cu as W X G sc h5 c).1 d1) rfl
      | _ => simp only [mtE] at h; exact nof h
    | _ => simp only [mtE] at h; exact nof h
  | .new c0 es, m, cu, a, W, X, G, sc, h, c => by
    cases a with
    | Call fn as kw p =>
      cases fn with
      | Name x q =>
        cases kw with
        | cons _ _ => simp only [mtE] at h; exact nof h
        | nil =>
          simp only [mtE, Bool.and_eq_true] at h
          obtain ⟨⟨⟨⟨h1, h2⟩, h3⟩, h4⟩, h5⟩ := h
          obtain ⟨d1, d2, d3⟩ := ndb_of h3
          cases eg : E.T.cini.lookup c0 with
          | none =>
            have e2 : evP E m cu (.new c0 es) = mk fBad := by simp only [evP, eg]
            rw [e2]
            exact mk_ok bad_ok rfl
          | some g =>
            have e2 : evP E m cu (.new c0 es) = mk (fNew m c0 (E.Φ m g) (evA E m cu es)) := by simp only [evP, eg]
            rw [e2]
            have pf : PF m X.prog X.w X.K X.mg X.base G.toGam0 k (G.fa g) (E.Φ m g) := by rw [c.xin.prog, c.xin.w, c.xin.K, c.xin.mg, c.xin.base]; exact c.pfs m g
            exact mk_ok (se_new ((c.xin.ok).mono (j := k + 1) (Nat.le_succ _)) pf (by rw [c.xin.K]; exact c.tb.cini c0 g eg) (c.gl h2) (by rw [c.xin.mg]; exact c.tb.gcl x c0 (List.contains_iff_mem.mp h1)) (args_of h4) (sA es m cu as W X G sc h5 c).1 d1) rfl
      | _ => simp only [mtE] at h; exact nof h
    | _ => simp only [mtE] at h; exact nof h
  | .newV i es, m, cu, a, W, X, G, sc, h, c => by
    cases a with
    | Call fn as kw p =>
      cases fn with
      | Name x q =>
        cases kw with
        | cons _ _ => simp only [mtE] at h; exact nof h
        | nil =>
          simp only [mtE, Bool.and_eq_true, decide_eq_true_eq] at h
          obtain ⟨⟨⟨⟨h1, h2⟩, h3⟩, h4⟩, h5⟩ := h
          obtain ⟨d1, d2, d3⟩ := ndb_of h3
          have pf : ∀ g, PF m X.prog X.w X.K X.mg X.base G.toGam0 k (G.fa g) (E.Φ m g) := by rw [c.xin.prog, c.xin.w, c.xin.K, c.xin.mg, c.xin.base]; exact c.pfs m
          exact mk_ok (se_newV ((c.xin.ok).mono (j := k + 1) (Nat.le_succ _)) pf (by rw [c.xin.K]; exact c.tb.cini) (by rw [c.xin.N]; exact h1) (by rw [c.xin.sc]; exact vis_of h2) d1 d2 (args_of h4) (sA es m cu as W X G sc h5 c).1) rfl
      | _ => simp only [mtE] at h; exact nof h
    | _ => simp only [mtE] at h; exact nof h
  | .meth o mn es, m, cu, a, W, X, G, sc, h, c => by
    cases a with
    | Call fn as kw p =>
      cases fn with
      | Attribute e at_ ap =>
        cases kw with
        | cons _ _ => simp only [mtE] at h; exact nof h
        | nil =>
          simp only [mtE, Bool.and_eq_true, decide_eq_true_eq] at h
          obtain ⟨⟨⟨⟨⟨⟨h1, h2⟩, h3⟩, h4⟩, h5⟩, h6⟩, h7⟩ := h
          have hn : at_ = G.nm mn := by rw [h1, c.tb.nm]
          subst hn
          have pf : PFs m X.prog X.w X.K X.mg X.base G.toGam0 k (E.Φ m) := by rw [c.xin.prog, c.xin.w, c.xin.K, c.xin.mg, c.xin.base]; exact c.pfs m
          exact mk_ok (se_meth c.tb.inj ((c.xin.ok).mono (j := k) (Nat.le_add_right _ _)) pf (by rw [c.xin.K]; exact fun c0 g z => c.tb.meths c0 mn g z) (by rw [c.xin.K]; exact fun c0 g z => c.tb.cmets c0 mn g z) (sE o m cu e W X G sc h6 c).1 (args_of (noStars_args h4)) (sA es m cu as W X G sc h7 c).1 h2 h3 (few_of h4 h5)) rfl
      | _ => simp only [mtE] at h; exact nof h
    | _ => simp only [mtE] at h; exact nof h
  | .att o f, m, cu, a, W, X, G, sc, h, c => by
    cases a with
    | Attribute e at_ p =>
      simp only [mtE, Bool.and_eq_true, decide_eq_true_eq] at h
      obtain ⟨⟨h1, h2⟩, h3⟩ := h
      have hn : at_ = G.nm f := by rw [h1, c.tb.nm]
      subst hn
      have pf : PFs m X.prog X.w X.K X.mg X.base G.toGam0 k (E.Φ m) := by rw [c.xin.prog, c.xin.w, c.xin.K, c.xin.mg, c.xin.base]; exact c.pfs m
      exact mk_ok (se_att c.tb.inj ((c.xin.ok).mono (j := k + 1) (Nat.le_succ _)) pf (by rw [c.xin.K]; exact fun c0 z => c.tb.flds c0 f (List.contains_iff_mem.mp z)) (by rw [c.xin.K]; exact fun c0 d z => c.tb.ccons c0 f d z) (by rw [c.xin.K]; exact fun c0 g z => c.tb.props c0 f g z) (sE o m cu e W X G sc h3 c).1 h2) rfl
    | _ => simp only [mtE] at h; exact nof h
  | .bi b es, m, cu, a, W, X, G, sc, h, c => by
    cases a with
    | Call fn as kw p =>
      cases fn with
      | Name x q =>
        cases kw with
        | cons _ _ => simp only [mtE] at h; exact nof h
        | nil =>
          simp only [mtE, Bool.and_eq_true, decide_eq_true_eq] at h
          obtain ⟨⟨⟨⟨h1, h2⟩, h3⟩, h4⟩, h5⟩ := h
          subst h1
          exact mk_ok (bi_ok c b (c.bt h2) (c.gl h3) h4 (sA es m cu as W X G sc h5 c).1) rfl
      | _ => simp only [mtE] at h; exact nof h
    | _ => simp only [mtE] at h; exact nof h
  | .bm kk o es, m, cu, a, W, X, G, sc, h, c => by
    cases a with
    | Call fn as kw p =>
      cases fn with
      | Attribute e at_ ap =>
        cases kw with
        | cons _ _ => simp only [mtE] at h; exact nof h
        | nil =>
          simp only [mtE, Bool.and_eq_true, decide_eq_true_eq] at h
          obtain ⟨⟨⟨⟨⟨⟨h1, h2⟩, h3⟩, h4⟩, h5⟩, h6⟩, h7⟩ := h
          subst h1
          exact mk_ok (bm_ok kk (sE o m cu e W X G sc h6 c).1 (sA es m cu as W X G sc h7 c).1 h2 h3 h4 h5) rfl
      | _ => simp only [mtE] at h; exact nof h
    | _ => simp only [mtE] at h; exact nof h
  | .exF f, m, cu, a, W, X, G, sc, h, c => by
    cases a with
    | Attribute e at_ p =>
      cases e with
      | Name x q =>
        simp only [mtE, Bool.and_eq_true, decide_eq_true_eq] at h
        obtain ⟨⟨⟨h1, h2⟩, h3⟩, h4⟩ := h
        have hn : at_ = G.nm f := by rw [h1, c.tb.nm]
        subst hn
        cases cu with
        | none => exact nof h2
        | some q2 =>
          obtain ⟨c0, l, i⟩ := q2
          have hi : N[i]? = some x := of_decide_eq_true h2
          obtain ⟨d1, d2, d3⟩ := ndb_of h4
          cases ex : E.T.xfld.contains (c0, f) with
          | false =>
            have e2 : evP E m (some (c0, l, i)) (.exF f) = mk fBad := by simp only [evP, ex]; rfl
            rw [e2]
            exact mk_ok bad_ok rfl
          | true =>
            have e2 : evP E m (some (c0, l, i)) (.exF f) = mk (fExN i (fExF l f)) := by simp only [evP, ex]; rfl
            rw [e2]
            obtain ⟨a0, oe, d, j1, j2, j3, j4, j5⟩ := (c.cur c0 l i rfl).ex
            exact mk_ok (se_exF c.tb.inj j1 j2 j3 j4 (by rw [c.xin.K]; exact c.tb.xfld c0 f (List.contains_iff_mem.mp ex)) (by rw [c.xin.K]; exact j5) (by rw [c.xin.N]; exact hi) (by rw [c.xin.sc]; exact vis_of h3) d1 d2) rfl
      | _ => simp only [mtE] at h; exact nof h
    | _ => simp only [mtE] at h; exact nof h
  | .exI c2, m, cu, a, W, X, G, sc, h, c => by
    cases a with
    | Call fn as kw p =>
      cases fn with
      | Name x q =>
        cases kw with
        | cons _ _ => cases as with
          | nil => simp only [mtE] at h; exact nof h
          | cons e1 as => cases e1 <;> (cases as with
            | nil => simp only [mtE] at h; exact nof h
            | cons e2 as => cases e2 <;> cases as <;> (simp only [mtE] at h; exact nof h))
        | nil =>
          cases as with
          | nil => simp only [mtE] at h; exact nof h
          | cons e1 as =>
            cases as with
            | nil => cases e1 <;> (simp only [mtE] at h; exact nof h)
            | cons e2 as =>
              cases as with
              | cons _ _ => cases e1 <;> (simp only [mtE] at h; exact nof h)
              | nil =>
                cases e1 with
                | Name y yp =>
                  cases e2 with
                  | Name z zp =>
                    simp only [mtE, Bool.and_eq_true, decide_eq_true_eq] at h
                    obtain ⟨⟨⟨⟨⟨⟨⟨⟨h1, h2⟩, h3⟩, h4⟩, h5⟩, h6⟩, h7⟩, h8⟩, h9⟩ := h
                    subst h1
                    cases cu with
                    | none => exact nof h4
                    | some q2 =>
                      obtain ⟨c0, l, i⟩ := q2
                      have hi : N[i]? = some y := of_decide_eq_true h4
                      obtain ⟨d1, d2, d3⟩ := ndb_of h6
                      obtain ⟨f1, f2, f3⟩ := ndb_of h9
                      cases ex : E.T.xisi.lookup (c0, c2) with
                      | none =>
                        have e2 : evP E m (some (c0, l, i)) (.exI c2) = mk fBad := by simp only [evP, ex]
                        rw [e2]
                        exact mk_ok bad_ok rfl
                      | some b =>
                        have e2 : evP E m (some (c0, l, i)) (.exI c2) = mk (fExN i (fCst (.bl b))) := by simp only [evP, ex]
                        rw [e2]
                        obtain ⟨a0, oe, d, j1, j2, j3, j4, j5⟩ := (c.cur c0 l i rfl).ex
                        obtain ⟨x1, x2⟩ := c.tb.xisi c0 c2 b ex
                        exact mk_ok (se_exI j1 j2 j3 j4 l (by rw [c.xin.K]; exact j5) (by rw [c.xin.K]; exact x1) (by rw [c.xin.N]; exact hi) (by rw [c.xin.sc]; exact vis_of h5) d1 d2 (c.gl h3) (c.bt h2) (c.gl h8) (by rw [c.xin.mg]; exact c.tb.gcl z c2 (List.contains_iff_mem.mp h7)) f1 (by rw [c.xin.K]; exact x2)) rfl
                  | _ => simp only [mtE] at h; exact nof h
                | _ => simp only [mtE] at h; exact nof h
      | _ => simp only [mtE] at h; exact nof h
    | _ => simp only [mtE] at h; exact nof h
  | .jst es, m, cu, a, W, X, G, sc, h, c => by
    cases a with
    | JoinedStr vs p =>
      simp only [mtE, Bool.and_eq_true, decide_eq_true_eq] at h
      obtain ⟨⟨h1, h2⟩, h3⟩ := h
      have z := sj_of ((sA es m cu vs W X G sc h3 c).2 h2)
      match vs, h1, z with
      | v1 :: v2 :: rest, h1, z => exact mk_ok (se_joined z) rfl
      | [_], h1, _ => simp at h1
      | [], h1, _ => simp at h1
    | _ => simp only [mtE] at h; exact nof h
  | .fmt e, m, cu, a, W, X, G, sc, h, c => by
    cases a with
    | FormattedValue x kk sp p =>
      cases sp with
      | some _ => simp only [mtE] at h; exact nof h
      | none =>
        simp only [mtE, Bool.and_eq_true, decide_eq_true_eq] at h
        obtain ⟨h1, h2⟩ := h
        subst h1
        exact mk_ok (se_fmt (sE e m cu x W X G sc h2 c).1) rfl
    | _ => simp only [mtE] at h; exact nof h
  | .lc own t it tt e, m, cu, a, W, X, G, sc, h, c => by
    cases a with
    | ListComp elt gs scope p =>
      match gs, h with
      | [g], h =>
        simp only [mtE, Bool.and_eq_true, decide_eq_true_eq] at h
        obtain ⟨⟨⟨⟨⟨⟨⟨h1, h2⟩, h3⟩, h4⟩, h5⟩, h6⟩, h7⟩, h8⟩ := h
        cases m with
        | true =>
          have e2 : evP E true cu (.lc own t it tt e) = mk fBad := by simp only [evP]; rfl
          rw [e2]
          exact mk_ok bad_ok rfl
        | false =>
          cases cu with
          | some q =>
            have e2 : evP E false (some q) (.lc own t it tt e) = mk fBad := by simp only [evP]; rfl
            rw [e2]
            exact mk_ok bad_ok rfl
          | none =>
            have e2 : evP E false none (.lc own t it tt e) = mk (fLc E.lp (own.map (·.2)) (evI E false none it) t (evOT E false none tt) (evP E false none e).1) := by simp only [evP]; rfl
            rw [e2]
            obtain ⟨tg, iter, ifs, ia⟩ := g
            have h1' : ia = 0 := h1
            subst h1'
            have hN : X.N.Nodup := by rw [c.xin.N]; exact c.nd
            refine mk_ok (se_lc c.lp c.xin.ok.mode (c.non rfl) hN (sI it none iter W X G sc tg h6 c) (by rw [c.xin.N, c.xin.sc]; exact blkOk_by h3) (fun s H C cl fp => ?_) (fun s H C cl fp => ?_) (fun s H C cl fp => ?_) (fold_set (by simpa using h2)) (fun i hi => List.contains_iff_mem.mp (List.all_eq_true.mp h4 i hi))) rfl
            · have cb := c.blk scope s H C cl fp
              exact (sT (blk := true) cb.xin.N cb.xin.sc c.nd cb.xin.ok.mode (fun z => by cases z)).1 t tg h5
            · exact sOT tt false none ifs W0 _ G _ h7 (c.blk scope s H C cl fp)
            · exact (sE e false none elt W0 _ G _ h8 (c.blk scope s H C cl fp)).1
      | [], h => simp only [mtE] at h; exact nof h
      | _ :: _ :: _, h => simp only [mtE] at h; exact nof h
    | _ => simp only [mtE] at h; exact nof h
theorem sA : ∀ (es : CEs) (m : Bool) (cu : Cur) (vs : List Expr) (W : WX) (X : Cx) (G : Gam) (sc : Scope), mtA E.T N sc (cu.map (·.2.2)) es vs = true → C0 E m cu k W X G P w K mg base N sc → SA X G W vs (evA E m cu es) ∧ (noStars vs = true → SPs X G W vs (evPs E m cu es))
  | .nil, m, cu, vs, W, X, G, sc, h, c => by
    cases vs with
    | nil => exact ⟨sa_nil, fun _ => .nil⟩
    | cons _ _ => simp only [mtA] at h; exact nof h
  | .cons a r, m, cu, vs, W, X, G, sc, h, c => by
    cases vs with
    | nil => simp only [mtA] at h; exact nof h
    | cons v vs =>
      simp only [mtA, Bool.and_eq_true] at h
      obtain ⟨⟨h1, h2⟩, h3⟩ := h
      have z1 := sE a m cu v W X G sc h2 c
      have z2 := sA r m cu vs W X G sc h3 c
      refine ⟨sa_cons z1.1 z2.1 (star_plain (by simpa using h1)), fun hs => .cons z1 (z2.2 ?_)⟩
      unfold noStars at hs ⊢
      rw [List.all_cons, Bool.and_eq_true] at hs
      exact hs.2
  | .star a r, m, cu, vs, W, X, G, sc, h, c => by
    cases vs with
    | nil => simp only [mtA] at h; exact nof h
    | cons v vs =>
      cases v with
      | Starred v p =>
        simp only [mtA, Bool.and_eq_true] at h
        obtain ⟨h1, h2⟩ := h
        refine ⟨sa_star (sE a m cu v W X G sc h1 c).1 (sA r m cu vs W X G sc h2 c).1, fun hs => ?_⟩
        unfold noStars at hs
        rw [List.all_cons, Bool.and_eq_true] at hs
        exact nof hs.1
      | _ => simp only [mtA] at h; exact nof h
theorem sO : ∀ (o : CO) (m : Bool) (cu : Cur) (v : Option Expr) (W : WX) (X : Cx) (G : Gam) (sc : Scope), mtO E.T N sc (cu.map (·.2.2)) o v = true → C0 E m cu k W X G P w K mg base N sc → SO X G W v (evO E m cu o)
  | .none, m, cu, v, W, X, G, sc, h, c => by
    cases v with
    | none => exact so_none
    | some _ => simp only [mtO] at h; exact nof h
  | .some a, m, cu, v, W, X, G, sc, h, c => by
    cases v with
    | none => simp only [mtO] at h; exact nof h
    | some e =>
      simp only [mtO] at h
      exact so_some (sE a m cu e W X G sc h c).1
theorem sOT : ∀ (o : CO) (m : Bool) (cu : Cur) (v : List Expr) (W : WX) (X : Cx) (G : Gam) (sc : Scope), mtOT E.T N sc (cu.map (·.2.2)) o v = true → C0 E m cu k W X G P w K mg base N sc → STs X G W v (evOT E m cu o)
  | .none, m, cu, v, W, X, G, sc, h, c => by
    cases v with
    | nil => exact sts_nil
    | cons _ _ => simp only [mtOT] at h; exact nof h
  | .some a, m, cu, v, W, X, G, sc, h, c => by
    match v, h with
    | [e], h =>
      simp only [mtOT] at h
      exact sts_one (sE a m cu e W X G sc h c).2
    | [], h => simp only [mtOT] at h; exact nof h
    | _ :: _ :: _, h => simp only [mtOT] at h; exact nof h
theorem sI : ∀ {m : Bool} (o : CI) (cu : Cur) (v : Expr) (W : WX) (X : Cx) (G : Gam) (sc : Scope) (tg : Expr), mtI E.T N sc (cu.map (·.2.2)) o v = true → C0 E m cu k W X G P w K mg base N sc → SI m X G W tg v (evI E m cu o)
  | m, .val a, cu, v, W, X, G, sc, tg, h, c => by
    simp only [mtI] at h
    exact si_val (sE a m cu v W X G sc h c).1
  | m, .rng1 a, cu, v, W, X, G, sc, tg, h, c => by
    cases v with
    | Call fn as kw p =>
      cases fn with
      | Name x q =>
        match kw, as, h with
        | [], [e], h =>
          simp only [mtI, Bool.and_eq_true, decide_eq_true_eq] at h
          obtain ⟨⟨⟨⟨h1, h2⟩, h3⟩, h4⟩, h5⟩ := h
          subst h1
          have e1 : starEach [e] X.env = [(false, eval e X.env)] := star_plain (by simpa using h4)
          exact si_rng1 (c.gl h3) (c.bt h2) (sa_cons (sE a m cu e W X G sc h5 c).1 sa_nil e1) e1
        | [], [], h => simp only [mtI] at h; exact nof h
        | [], _ :: _ :: _, h => simp only [mtI] at h; exact nof h
        | _ :: _, [], h => simp only [mtI] at h; exact nof h
        | _ :: _, [_], h => simp only [mtI] at h; exact nof h
        | _ :: _, _ :: _ :: _, h => simp only [mtI] at h; exact nof h
      | _ => simp only [mtI] at h; exact nof h
    | _ => simp only [mtI] at h; exact nof h
  | m, .rng2 a b, cu, v, W, X, G, sc, tg, h, c => by
    cases v with
    | Call fn as kw p =>
      cases fn with
      | Name x q =>
        match kw, as, h with
        | [], [e, f], h =>
          simp only [mtI, Bool.and_eq_true, decide_eq_true_eq] at h
          obtain ⟨⟨⟨⟨⟨⟨h1, h2⟩, h3⟩, h4⟩, h5⟩, h6⟩, h7⟩ := h
          subst h1
          have e2 : starEach [f] X.env = [(false, eval f X.env)] := star_plain (by simpa using h5)
          have e1 : starEach [e, f] X.env = (false, eval e X.env) :: starEach [f] X.env := star_plain (by simpa using h4)
          exact si_rng2 (c.gl h3) (c.bt h2) (sa_cons (sE a m cu e W X G sc h6 c).1 (sa_cons (sE b m cu f W X G sc h7 c).1 sa_nil e2) e1) (by rw [e1, e2]) e2
        | [], [], h => simp only [mtI] at h; exact nof h
        | [], [_], h => simp only [mtI] at h; exact nof h
        | [], _ :: _ :: _ :: _, h => simp only [mtI] at h; exact nof h
        | _ :: _, [], h => simp only [mtI] at h; exact nof h
        | _ :: _, [_], h => simp only [mtI] at h; exact nof h
        | _ :: _, [_, _], h => simp only [mtI] at h; exact nof h
        | _ :: _, _ :: _ :: _ :: _, h => simp only [mtI] at h; exact nof h
      | _ => simp only [mtI] at h; exact nof h
    | _ => simp only [mtI] at h; exact nof h
end
end
end PI

set_option maxRecDepth 100000
set_option maxHeartbeats 4000000
/-! PI, part 24: if x == n: return text.replace(y, [z, ..][e]). -/
namespace PI
open PySem PySem.Spec PyProof.Rows L2
/-- written texts, each with a token of its own above n -/
inductive Tks (n : Nat) : List (List Nat) → List Value → Prop where
  | nil : Tks n [] []
  | cons {z : List Nat} {r : List (List Nat)} {us : List Value} (t : Nat) (h : n ≤ t) (q : Tks n r us) : Tks n (z :: r) (.str (sOf z) t :: us)
theorem Tks.get {n : Nat} : ∀ {zs : List (List Nat)} {us : List Value} {i : Nat} {z : List Nat}, Tks n zs us → zs[i]? = some z → ∃ t, n ≤ t ∧ us[i]? = some (.str (sOf z) t)
  | _, _, i, z, .nil, e => by simp at e
  | _, _, 0, z, .cons t h q, e => by
    have e' := Option.some.inj e
    subst e'
    exact ⟨t, h, rfl⟩
  | _, _, i + 1, z, .cons t h q, e => Tks.get (i := i) q (by simpa using e)
theorem Tks.len {n : Nat} : ∀ {zs : List (List Nat)} {us : List Value}, Tks n zs us → us.length = zs.length
  | _, _, .nil => rfl
  | _, _, .cons t h q => by rw [List.length_cons, List.length_cons, Tks.len q]
theorem consts_run {prog : Program} {w : World} {A : Around} {E : Value → Shared → Prop} {env : Env} {pos : Pos} {n : Nat} : ∀ (zs : List (List Nat)) (vs : List Expr) (s : Shared) (Q : List Value → Shared → Prop), consts zs vs = true → n ≤ s.toks → (∀ us tk, Tks n zs us → Q us { s with toks := tk }) → wpAny (model prog w) A (spliced (backTo pos (starEach vs env))) Q E s
  | [], [], s, Q, _, _, k => Calls.spliced_nil (k [] s.toks .nil)
  | [], _ :: _, s, Q, h, _, k => nof h
  | z :: r, [], s, Q, h, _, k => nof h
  | z :: r, v :: vs, s, Q, h, hn, k => by
    cases v with
    | Constant c j p =>
      cases c with
      | str x =>
        simp only [consts, Bool.and_eq_true, decide_eq_true_eq] at h
        obtain ⟨h1, h2⟩ := h
        subst h1
        show wpAny _ _ (spliced ((false, eval (.Constant (.str (sOf z)) j p) env) :: backTo pos (starEach vs env))) _ _ s
        refine Calls.spliced_cons (Calls.Constant_str ?_)
        exact consts_run r vs _ _ h2 (Nat.le_succ_of_le hn) fun us tk q => k _ tk (.cons s.toks hn q)
      | _ => simp only [consts] at h; exact nof h
    | _ => simp only [consts] at h; exact nof h
section
variable {X : Cx} {G : Gam} {W : WX} {k i j : Nat} {n : Int} {x t : Str} {y : List Nat} {zs : List (List Nat)} {vs : List Expr} {ix : Expr} {fe : FE} {jn jy : Nat} {p1 pn pc pt ap py pl ps p pr pi : Pos}
theorem ss_rpl (ok : L2H.RoomH k X.A) (hN : X.N[i]? = some x) (hv : Vis X.env.scope x) (hd : (x == ("__debug__" : Str)) = false) (hcd : (x == ("__classdict__" : Str)) = false) (tN : X.N[j]? = some t) (tv : Vis X.env.scope t) (td : (t == ("__debug__" : Str)) = false) (tcd : (t == ("__classdict__" : Str)) = false)
    (hl : (ap.endLine == p.line) = true) (hz : consts zs vs = true) (hix : isSlice ix = false) (he : SE X G W ix fe) :
    SS X G W (.If (.Compare (.Name x p1) [.Eq] [.Constant (.int n) jn pn] pc) [.Return (some (.Call (.Attribute (.Name t pt) "replace" ap) [.Constant (.str (sOf y)) jy py, .Subscript (.List vs pl) ix ps] [] p)) pr] [] pi) (fRpl i n j y zs fe) := by
  intro pins s σ H ρ env h I r er hx
  generalize eq : fRpl i n j y zs fe env h = rt at hx ⊢
  unfold fRpl at eq
  have sx : SE X G W (.Name x p1) (fVar i) := se_var hN hv hd hcd
  have st : SE X G W (.Name t pt) (fVar j) := se_var tN tv td tcd
  refine wpAny_If (wpAny_isTrue_Compare1 (sx.thenS I r er eq hx fun d h1 u s1 v ρ1 H1 e1 I1 g1 r1 er1 ru dx hx1 => ?_) (set_marks rfl))
  split at e1
  case h_2 => rw [← e1] at hx1; exact hx1.elim
  rename_i kk
  cases dx
  obtain ⟨tk, rfl⟩ := ru
  refine wpAny_Constant_int ?_
  have I2 := I1.tok (s1.toks + 1)
  have hc : cmpD .eq (.int kk) (.int n) h1 = .ok (.bl (kk == n)) h1 := by
    have : eqD h1 (.int kk) (.int n) = some (kk == n) := by
      unfold eqD toPy
      simp only [SeqAt.shaped]
      rfl
    unfold cmpD cmpB
    rw [this]
  have hcm := cmp_ok (x := .int kk) (y := .int n) (u := .int kk tk) (w := .int n s1.toks) (a := .int kk) (b := .int n) (by have := ok.un; omega) hc I2 r1 rfl rfl ⟨tk, rfl⟩ ⟨s1.toks, rfl⟩
  refine wpAny_mono (wpAny_toks hcm) (fun c s2 ⟨hk, q2⟩ => ?_) fun _ _ z => z.2
  have hk' : s1.toks + 1 ≤ s2.toks := hk
  obtain ⟨cv, H2, I3, rc, ρ2, g2, r2, d2⟩ := q2
  obtain rfl : cv = .bl (kk == n) := d2
  obtain rfl : c = Value.bool (kk == n) := rc
  refine wpAny_truthy_bool ?_
  by_cases hkn : kk = n
  · rw [if_pos hkn] at e1
    have hb : (kk == n) = true := by simp [hkn]
    rw [hb]
    refine wpAny_execs_cons (wpAny_Return_some ?_)
    have g12 := g1.trans g2
    have er2 := er1.gr g2
    have hx2 := ExcOkS.gr g2 hx1
    have hfew : methodCallForm 2 (backTo p (starEach [.Constant (.str (sOf y)) jy py, .Subscript (.List vs pl) ix ps] X.env)) [] = true := rfl
    refine wpAny_Call_method_late (attrBase rfl) hfew hl rfl (wpAny_mono (wpAny_toks (st.thenS (Q := fun u4 s4 => ∃ x4 h4 v4 ρ4 H4, (match x4 with | .str a => if zs.length ≤ SZ then (fe env h4).bindS env fun d h3 => (rplD a y zs d h3).bindS env fun r h5 => .rt r h5 else .bad | _ => .bad) = rt ∧ Inv X pins σ H4 s4 ∧ Gr ρ2 H2 ρ4 H4 ∧ HR X.K G ρ4 H4 h4 ∧ ER X.K G ρ4 H4 env σ ∧ RelV v4 u4 ∧ RD X.K G ρ4 H4 x4 v4 ∧ ExcOkS X.K G W ρ4 H4 rt) I3 r2 er2 e1 hx2 fun x4 h4 u4 s4 v4 ρ4 H4 e4 I4 g4 r4 er4 ru4 dx4 hx4 => ⟨x4, h4, v4, ρ4, H4, e4, I4, g4, r4, er4, ru4, dx4, hx4⟩)) (fun u4 s4 ⟨hk4, q4⟩ => ?_) fun _ _ z => z.2)
    obtain ⟨x4, h4, v4, ρ4, H4, e4, I4, g4, r4, er4, ru4, dx4, hx4⟩ := q4
    have tpos : 1 ≤ s4.toks := by omega
    split at e4
    case h_2 => rw [← e4] at hx4; exact hx4.elim
    rename_i a
    split at e4
    case isFalse => rw [← e4] at hx4; exact hx4.elim
    rename_i hzl
    obtain rfl : v4 = .str (sOf a) := dx4
    obtain ⟨ta, rfl⟩ := ru4
    refine ⟨"str", _, PySem.F.plainAttrs_str, PySem.F.slot_str_replace, PySem.F.type_str_replace, typeIs_str _ _ _, (fun _ e => nomatch e), ?_⟩
    refine Calls.callWith_builtin rfl (Calls.evalArgs_plain (Calls.spliced_cons (Calls.Constant_str (k := jy) (pos := py) ?_)))
    show wpAny _ _ (spliced ((false, eval (.Subscript (.List vs pl) ix ps) X.env) :: backTo p (starEach [] X.env))) _ _ _
    refine Calls.spliced_cons (Subscript_ (wpAny_List_spliced ?_))
    have I5 : Inv X pins σ H4 { s4 with toks := s4.toks + 1 } := I4.tok _
    refine consts_run (n := s4.toks + 1) zs vs _ _ hz (Nat.le_refl _) fun us tk6 q6 => ?_
    have lus : us.length = zs.length := q6.len
    refine ⟨by rw [lus, SZ_eq]; exact hzl, ?_⟩
    have I6 : Inv X ((s4.heap.objs.size, { cls := .type "list", data := .seq us.toArray }) :: pins) σ H4 { s4 with heap := s4.heap.push { cls := .type "list", data := .seq us.toArray }, toks := tk6 } :=
      ClX.pin_new (t' := tk6) I4 (fun b o e => Heap.get?_push_of_some _ e) (Nat.le_refl _) (Heap.get?_push_size _ rfl) (fun v z => nomatch z)
    refine he.thenS I6 r4 er4 e4 hx4 fun d7 h7 u7 s7 v7 ρ7 H7 e7 I7 g7 r7 er7 ru7 d7' hx7 => ?_
    have hx8 : ExcOk X.K G W ρ7 H7 σ (rplD a y zs d7 h7) := by rw [← e7] at hx7; exact hx7.fst er7
    unfold rplD at e7 hx8
    split at e7
    case h_2 => rw [← e7] at hx7; exact hx7.elim
    rename_i ki
    split at e7
    case h_2 => rw [← e7] at hx7; exact hx7.elim
    rename_i z ez
    split at e7
    case isFalse => rw [← e7] at hx7; exact hx7.elim
    rename_i hcond
    obtain ⟨c1, c2, c3, c4⟩ := hcond
    have e7' : RS.rt (.str (cps (Txt.replace (sOf a) (sOf y) (sOf z)))) h7 = rt := e7
    subst e7'
    obtain rfl : v7 = .int ki := d7'
    obtain ⟨ti, rfl⟩ := ru7
    obtain ⟨tz, tz1, tz2⟩ := q6.get ez
    have hpin := ClX.pin_at I7
    refine PyProof.Rows.item_listR (items := us.toArray) ⟨_, hpin, rfl, _, rfl⟩ c1 (by omega) (by simpa using tz2) ?_ (plain_ix hix _ _)
    refine Calls.spliced_nil ?_
    refine PySem.SC.replace (show s4.toks ≠ 0 by omega) (show tz ≠ 0 by omega) (show s4.toks ≠ tz by omega) ?_ (by rw [sOf_len, sOf_len]; exact c3) fun t' k' => ?_
    · exact beq_eq_false_iff_ne.mpr fun e => c4 (sOf_inj e)
    · exact ⟨.str (Txt.replace (sOf a) (sOf y) (sOf z)), σ, H7, (ClX.unpin I7).tok _, ⟨t', rfl⟩, ρ7, (g12.trans g4).trans g7, r7, by show V.str _ = V.str _; rw [sOf_cps']⟩
  · rw [if_neg hkn] at e1
    have hb : (kk == n) = false := by simp [hkn]
    rw [hb]
    subst e1
    exact wpAny_execs_nil ⟨σ, H2, I3, ρ2, g1.trans g2, r2, er1.gr g2⟩
end
end PI

set_option maxRecDepth 100000
set_option maxHeartbeats 8000000
/-! PI, part 25: statements. -/
namespace PI
open PySem PySem.Spec PyProof.Rows L2
theorem swaps_no {e : Expr} {t : Option Expr} {l : Nat} {env : Env} (h : isComp e = false) : swapsWith e t l env = pure false := by
  cases e with
  | ListComp _ _ _ _ => exact nof h.symm
  | SetComp _ _ _ _ => exact nof h.symm
  | DictComp _ _ _ _ _ => exact nof h.symm
  | _ => rfl
theorem sole_no {t e : Expr} {l : Nat} {env : Env} (h : isComp e = false) : swapsWithSole [t] e l env = pure false := swaps_no (t := some t) h
theorem stores_no {tg e : Expr} {env : Env} (h : swapOk tg e = true) : swappedStores [tg] e env = pure none := by
  cases tg with
  | Tuple _ _ _ =>
    cases e with
    | Tuple _ _ _ => exact nof h
    | _ => rfl
  | List _ _ =>
    cases e with
    | Tuple _ _ _ => exact nof h
    | _ => rfl
  | _ => rfl
theorem each_one {tg : Expr} {env : Env} (h : isStar tg = false) : (assignEach [tg] env).map (·.2) = [assign tg env] := by
  cases tg with
  | Starred _ _ => exact nof h.symm
  | _ => rfl
theorem assign_sub {a b : Expr} {p2 : Pos} {env : Env} (h : isSlice b = false) (v : Value) : assign (.Subscript a b p2) env v = (do
      let ov ← holding [v] (eval a env)
      let iv ← holding [v, ov] (eval b env)
      standAt p2
      holding [v, ov, iv] (setItem ov iv v)
      release [v, ov, iv] []) := by
  cases b with
  | Slice _ _ _ _ => exact nof h.symm
  | _ => rfl
section
variable {E : En} {P : Program} {w : World} {K : PySem.W.Frag} {mg : Str → Option Value} {base : Heap} {N : List Str} {k : Nat}
structure C1 (E : En) (m : Bool) (cu : Cur) (k : Nat) (W : WX) (X : Cx) (G : Gam) (P : Program) (w : World) (K : PySem.W.Frag) (mg : Str → Option Value) (base : Heap) (N : List Str) (sc : Scope) : Prop extends C0 E m cu k W X G P w K mg base N sc where
  st : XSt m X
theorem lcl_of {m : Bool} {cu : Cur} {W : WX} {X : Cx} {G : Gam} {sc : Scope} {i : Nat} {x : Str} (c : C1 E m cu k W X G P w K mg base N sc) (h : lclN N sc i x = true) : X.N.Nodup ∧ X.N[i]? = some x ∧ Loc X.env.scope x ∧ (X.fn x = true ∨ X.env.scope.names.lookup x = some .local) := by
  unfold lclN at h
  rw [Bool.and_eq_true] at h
  exact ⟨by rw [c.xin.N]; exact c.nd, by rw [c.xin.N]; exact of_decide_eq_true h.1, by rw [c.xin.sc]; exact loc_of h.2, .inl (c.st.fn x)⟩
theorem bad_okS {X : Cx} {G : Gam} {W : WX} {st : Stmt} : SS X G W st (fun _ _ => .bad) := fun pins s σ H ρ env h I r er hx => hx.elim
mutual
theorem sS : ∀ (s : CS) (m : Bool) (cu : Cur) (a : Stmt) (W : WX) (X : Cx) (G : Gam) (sc : Scope), mtS E.T N sc (cu.map (·.2.2)) s a = true → C1 E m cu k W X G P w K mg base N sc → SS X G W a (evS E m cu s)
  | .pass, m, cu, a, W, X, G, sc, h, c => by
    cases a with
    | Pass p => exact ss_pass
    | _ => simp only [mtS] at h; exact nof h
  | .brk, m, cu, a, W, X, G, sc, h, c => by
    cases a with
    | Break p => exact ss_brk
    | _ => simp only [mtS] at h; exact nof h
  | .cnt, m, cu, a, W, X, G, sc, h, c => by
    cases a with
    | Continue p => exact ss_cnt
    | _ => simp only [mtS] at h; exact nof h
  | .doc, m, cu, a, W, X, G, sc, h, c => by
    cases a with
    | Expr v p =>
      cases v with
      | Constant cc j q =>
        cases cc with
        | str x => exact ss_doc
        | _ => simp only [mtS] at h; exact nof h
      | _ => simp only [mtS] at h; exact nof h
    | _ => simp only [mtS] at h; exact nof h
  | .exp e, m, cu, a, W, X, G, sc, h, c => by
    cases a with
    | Expr v p =>
      simp only [mtS, Bool.and_eq_true] at h
      exact ss_exp (sE e m cu v W X G sc h.2 c.toC0).1 (swaps_no (by simpa using h.1))
    | _ => simp only [mtS] at h; exact nof h
  | .set i e, m, cu, a, W, X, G, sc, h, c => by
    cases a with
    | Assign ts v p =>
      cases ts with
      | nil => simp only [mtS] at h; exact nof h
      | cons t ts =>
        cases ts with
        | cons _ _ => cases t <;> (simp only [mtS] at h; exact nof h)
        | nil =>
          cases t with
          | Name x q =>
            simp only [mtS, Bool.and_eq_true] at h
            obtain ⟨⟨h1, h2⟩, h3⟩ := h
            obtain ⟨l1, l2, l3, l4⟩ := lcl_of c h1
            exact ss_set l1 l2 l3 l4 (sE e m cu v W X G sc h3 c.toC0).1 (swaps_no (by simpa using h2))
          | _ => simp only [mtS] at h; exact nof h
    | _ => simp only [mtS] at h; exact nof h
  | .setL i own t it tt e, m, cu, a, W, X, G, sc, h, c => by
    cases a with
    | Assign ts v p =>
      cases ts with
      | nil => simp only [mtS] at h; exact nof h
      | cons t0 ts =>
        cases ts with
        | cons _ _ => cases t0 <;> (simp only [mtS] at h; exact nof h)
        | nil =>
          cases t0 with
          | Name y q =>
            cases v with
            | ListComp elt gs scope p2 =>
              cases gs with
              | nil => simp only [mtS] at h; exact nof h
              | cons g gs =>
                cases gs with
                | cons _ _ => simp only [mtS] at h; exact nof h
                | nil =>
                  simp only [mtS, Bool.and_eq_true, decide_eq_true_eq] at h
                  obtain ⟨⟨⟨⟨⟨⟨⟨⟨⟨⟨⟨g1, g2⟩, g3⟩, g4⟩, h1⟩, h2⟩, h3⟩, h4⟩, h5⟩, h6⟩, h7⟩, h8⟩ := h
                  cases m with
                  | true =>
                    have e2 : evS E true cu (.setL i own t it tt e) = fSet i fBad := by simp only [evS]; rfl
                    rw [e2]
                    exact fun pins s σ H ρ env h I r er hx => hx.elim
                  | false =>
                    cases cu with
                    | some q2 =>
                      have e2 : evS E false (some q2) (.setL i own t it tt e) = fSet i fBad := by simp only [evS]; rfl
                      rw [e2]
                      exact fun pins s σ H ρ env h I r er hx => hx.elim
                    | none =>
                      have e2 : evS E false none (.setL i own t it tt e) = fSet i (fLc E.lp (own.map (·.2)) (evI E false none it) t (evOT E false none tt) (evP E false none e).1) := by simp only [evS]; rfl
                      rw [e2]
                      obtain ⟨tg, iter, ifs, ia⟩ := g
                      have h1' : ia = 0 := h1
                      subst h1'
                      have hN : X.N.Nodup := by rw [c.xin.N]; exact c.nd
                      have hyl : X.env.scope.names.lookup y = some .local := by rw [c.xin.sc]; exact beq_iff_eq.mp g2
                      intro pins s σ H ρ env hh I r er hx
                      refine ss_setLc c.lp c.xin.ok.mode (c.non rfl) hN (by rw [c.xin.N]; exact g1) hyl (sw_true I.ok.kind hyl g3 (by simpa using g4)) (sI it none iter W X G sc tg h6 c.toC0) (by rw [c.xin.N, c.xin.sc]; exact blkOk_by h3) (fun s H C cl fp => ?_) (fun s H C cl fp => ?_) (fun s H C cl fp => ?_) (fold_set (by simpa using h2)) (fun i hi => List.contains_iff_mem.mp (List.all_eq_true.mp h4 i hi)) pins s σ H ρ env hh I r er hx
                      · have cb := c.toC0.blk scope s H C cl fp
                        exact (sT (blk := true) cb.xin.N cb.xin.sc c.nd cb.xin.ok.mode (fun z => by cases z)).1 t tg h5
                      · exact sOT tt false none ifs W0 _ G _ h7 (c.toC0.blk scope s H C cl fp)
                      · exact (sE e false none elt W0 _ G _ h8 (c.toC0.blk scope s H C cl fp)).1
            | _ => simp only [mtS] at h; exact nof h
          | _ => simp only [mtS] at h; exact nof h
    | _ => simp only [mtS] at h; exact nof h
  | .asg t e, m, cu, a, W, X, G, sc, h, c => by
    cases a with
    | Assign ts v p =>
      cases ts with
      | nil => simp only [mtS] at h; exact nof h
      | cons tg ts =>
        cases ts with
        | cons _ _ => simp only [mtS] at h; exact nof h
        | nil =>
          simp only [mtS, Bool.and_eq_true] at h
          obtain ⟨⟨⟨⟨⟨h1, h2⟩, h3⟩, h4⟩, h5⟩, h6⟩ := h
          exact ss_asg ((sT (blk := false) c.xin.N c.xin.sc c.nd c.xin.ok.mode (fun _ x => c.st.fn x)).1 t tg h5) (sE e m cu v W X G sc h6 c.toC0).1 (swaps_no (by simpa using h1)) (stores_no h2) (each_one (by simpa using h3))
    | _ => simp only [mtS] at h; exact nof h
  | .setF o f e, m, cu, a, W, X, G, sc, h, c => by
    cases a with
    | Assign ts v p =>
      cases ts with
      | nil => simp only [mtS] at h; exact nof h
      | cons t0 ts =>
        cases ts with
        | cons _ _ => cases t0 <;> (simp only [mtS] at h; exact nof h)
        | nil =>
          cases t0 with
          | Attribute x at_ q =>
            simp only [mtS, Bool.and_eq_true, decide_eq_true_eq] at h
            obtain ⟨⟨⟨h1, h2⟩, h3⟩, h4⟩ := h
            have hn : at_ = G.nm f := by rw [h1, c.tb.nm]
            subst hn
            exact ss_setF c.tb.inj (by rw [c.xin.K]; exact fun c0 z => c.tb.flds c0 f (List.contains_iff_mem.mp z)) (sE o m cu x W X G sc h3 c.toC0).1 (sE e m cu v W X G sc h4 c.toC0).1 (swaps_no (by simpa using h2))
          | _ => simp only [mtS] at h; exact nof h
    | _ => simp only [mtS] at h; exact nof h
  | .setI o i e, m, cu, a, W, X, G, sc, h, c => by
    cases a with
    | Assign ts v p =>
      cases ts with
      | nil => simp only [mtS] at h; exact nof h
      | cons t0 ts =>
        cases ts with
        | cons _ _ => cases t0 <;> (simp only [mtS] at h; exact nof h)
        | nil =>
          cases t0 with
          | Subscript x y q =>
            simp only [mtS, Bool.and_eq_true] at h
            obtain ⟨⟨⟨⟨h1, h2⟩, h3⟩, h4⟩, h5⟩ := h
            exact ss_setI (sE o m cu x W X G sc h3 c.toC0).1 (sE i m cu y W X G sc h4 c.toC0).1 (sE e m cu v W X G sc h5 c.toC0).1 (sole_no (by simpa using h2)) (stores_no rfl) (each_one rfl) (assign_sub (by simpa using h1))
          | _ => simp only [mtS] at h; exact nof h
    | _ => simp only [mtS] at h; exact nof h
  | .aug i op e, m, cu, a, W, X, G, sc, h, c => by
    cases a with
    | AugAssign t o v p =>
      cases t with
      | Name x q =>
        simp only [mtS, Bool.and_eq_true, decide_eq_true_eq] at h
        obtain ⟨⟨h1, h2⟩, h3⟩ := h
        subst h1
        obtain ⟨l1, l2, l3, l4⟩ := lcl_of c h2
        exact ss_aug l1 l2 l3 l4 (sE e m cu v W X G sc h3 c.toC0).1
      | _ => simp only [mtS] at h; exact nof h
    | _ => simp only [mtS] at h; exact nof h
  | .augF o f op e, m, cu, a, W, X, G, sc, h, c => by
    cases a with
    | AugAssign t o2 v p =>
      cases t with
      | Attribute x at_ q =>
        simp only [mtS, Bool.and_eq_true, decide_eq_true_eq] at h
        obtain ⟨⟨⟨h1, h2⟩, h3⟩, h4⟩ := h
        subst h1
        have hn : at_ = G.nm f := by rw [h2, c.tb.nm]
        subst hn
        exact ss_augF c.tb.inj (by rw [c.xin.K]; exact fun c0 z => c.tb.flds c0 f (List.contains_iff_mem.mp z)) (sE o m cu x W X G sc h3 c.toC0).1 (sE e m cu v W X G sc h4 c.toC0).1
      | _ => simp only [mtS] at h; exact nof h
    | _ => simp only [mtS] at h; exact nof h
  | .ret e, m, cu, a, W, X, G, sc, h, c => by
    cases a with
    | Return v p =>
      cases v with
      | none => simp only [mtS] at h; exact nof h
      | some v =>
        simp only [mtS] at h
        exact ss_ret (sE e m cu v W X G sc h c.toC0).1
    | _ => simp only [mtS] at h; exact nof h
  | .rtN, m, cu, a, W, X, G, sc, h, c => by
    cases a with
    | Return v p =>
      cases v with
      | none => exact ss_rtN
      | some v => simp only [mtS] at h; exact nof h
    | _ => simp only [mtS] at h; exact nof h
  | .ife c0 x y, m, cu, a, W, X, G, sc, h, c => by
    cases a with
    | If t b1 b2 p =>
      simp only [mtS, Bool.and_eq_true] at h
      obtain ⟨⟨h1, h2⟩, h3⟩ := h
      exact ss_if (sE c0 m cu t W X G sc h1 c.toC0).2 (sSs x m cu b1 W X G sc h2 c) (sSs y m cu b2 W X G sc h3 c)
    | _ => simp only [mtS] at h; exact nof h
  | .whl c0 b, m, cu, a, W, X, G, sc, h, c => by
    cases a with
    | While t b1 oe p =>
      cases oe with
      | cons _ _ => simp only [mtS] at h; exact nof h
      | nil =>
        simp only [mtS, Bool.and_eq_true] at h
        exact ss_whl c.lp c.st.own (sE c0 m cu t W X G sc h.1 c.toC0).2 (sSs b m cu b1 W X G sc h.2 c)
    | _ => simp only [mtS] at h; exact nof h
  | .for_ t it b, m, cu, a, W, X, G, sc, h, c => by
    cases a with
    | For tg iter b1 oe p =>
      cases oe with
      | cons _ _ => simp only [mtS] at h; exact nof h
      | nil =>
        simp only [mtS, Bool.and_eq_true] at h
        obtain ⟨⟨⟨h1, h2⟩, h3⟩, h4⟩ := h
        exact ss_for c.lp c.st.own c.xin.ok.mode (sI it cu iter W X G sc tg h3 c.toC0) ((sT (blk := false) c.xin.N c.xin.sc c.nd c.xin.ok.mode (fun _ x => c.st.fn x)).1 t tg h2) (sSs b m cu b1 W X G sc h4 c) (fold_set (by simpa using h1))
    | _ => simp only [mtS] at h; exact nof h
  | .rai c0 es, m, cu, a, W, X, G, sc, h, c => by
    cases a with
    | Raise v ca p =>
      cases v with
      | none => simp only [mtS] at h; exact nof h
      | some v =>
        cases ca with
        | some _ => cases v with
          | Call fn as kw q => cases fn <;> cases kw <;> (simp only [mtS] at h; exact nof h)
          | _ => simp only [mtS] at h; exact nof h
        | none =>
          cases v with
          | Call fn as kw q =>
            cases fn with
            | Name x r =>
              cases kw with
              | cons _ _ => simp only [mtS] at h; exact nof h
              | nil =>
                simp only [mtS, Bool.and_eq_true] at h
                obtain ⟨⟨⟨⟨h1, h2⟩, h3⟩, h4⟩, h5⟩ := h
                obtain ⟨d1, d2, d3⟩ := ndb_of h3
                cases m with
                | true =>
                  have e2 : evS E true cu (.rai c0 es) = fun _ _ => .bad := by simp only [evS]; rfl
                  rw [e2]
                  exact bad_okS
                | false =>
                  cases ex : E.T.xcls.lookup c0 with
                  | none =>
                    have e2 : evS E false cu (.rai c0 es) = fun _ _ => .bad := by simp only [evS, ex]; rfl
                    rw [e2]
                    exact bad_okS
                  | some nf =>
                    obtain ⟨n, fs⟩ := nf
                    have e2 : evS E false cu (.rai c0 es) = fRaise c0 n fs (evA E false cu es) := by simp only [evS, ex]; rfl
                    rw [e2]
                    obtain ⟨x1, x2, fI, bn, B, T⟩ := c.tb.xcls c0 n fs ex
                    exact ss_raise c.xin.ok (c.st.calm rfl) (by rw [c.xin.K, c.xin.mg]; exact T) x1 x2 (c.toC0.gl h2) (by rw [c.xin.mg]; exact c.tb.gcl x c0 (List.contains_iff_mem.mp h1)) (args_of h4) (sA es false cu as W X G sc h5 c.toC0).1 d1
            | _ => simp only [mtS] at h; exact nof h
          | _ => simp only [mtS] at h; exact nof h
    | _ => simp only [mtS] at h; exact nof h
  | .tri b c0 i .nil, m, cu, a, W, X, G, sc, h, c => by
    simp only [mtS] at h
    exact nof h
  | .tri b c0 i (.cons s su), m, cu, a, W, X, G, sc, h, c => by
    cases a with
    | Try x hds oe fb p =>
      simp only [mtS, Bool.and_eq_true] at h
      obtain ⟨⟨o1, o2⟩, h⟩ := h
      have o1' : oe = [] := List.isEmpty_iff.mp o1
      have o2' : fb = [] := List.isEmpty_iff.mp o2
      subst o1' o2'
      cases eh : hd1 hds with
      | none => rw [eh] at h; exact nof h
      | some q0 =>
      obtain ⟨y, n, s0, ss⟩ := q0
      rw [eh] at h
      obtain ⟨yp, hp, rfl⟩ := hd1_inv eh
      simp only [Bool.and_eq_true, decide_eq_true_eq] at h
      obtain ⟨⟨⟨⟨⟨⟨⟨h1, h2⟩, h3⟩, h4⟩, h5⟩, h6⟩, h7⟩, h8⟩ := h
      obtain ⟨d1, d2, d3⟩ := ndb_of h3
      have body : ∀ (W' : WX) (pn : List (Addr × Obj)) (xe : Value → Shared → Prop), XOk m (k + 2) W' (X.tr pn xe) → PassesOwn (model X.prog X.w) X.A X.env xe → (cu ≠ none → ∀ q ∈ X.pn, q ∈ pn) → SSs (X.tr pn xe) G W' x (evSs E m cu b) := by
        intro W' pn xe ok own sub
        have x0 := c.xin
        refine sSs b m cu x W' (X.tr pn xe) G sc h6 ⟨⟨⟨x0.prog, x0.w, x0.K, x0.mg, x0.base, x0.N, x0.sc, ok⟩, c.tb, c.nd, c.scr, c.pfs, c.lp, fun c1 l i1 e => ?_, c.non⟩, ⟨own, c.st.stack, c.st.frame, c.st.fn, c.st.calm⟩⟩
        have cu1 := c.cur c1 l i1 e
        obtain ⟨a0, oe0, d0, j1, j2, j3⟩ := cu1.ex
        exact ⟨cu1.hot, a0, oe0, d0, j1, sub (by rw [e]; simp) _ j2, j3⟩
      cases m with
      | true =>
        have key : ∀ fsu, SS X G W (.Try x [.ExceptHandler (some (.Name y yp)) (some n) (s0 :: ss) hp] [] [] p) (fTry true (fun c' => E.T.xsub.lookup (c', c0)) i fsu (evSs E true cu b)) := fun fsu => ss_tryH c.xin.ok fun W' pn xe ok own sub => body W' pn xe ok own fun _ => sub
        cases cu with
        | none =>
          have e2 : evS E true none (.tri b c0 i (.cons s su)) = fTry true (fun c' => E.T.xsub.lookup (c', c0)) i (fun c' l => evSs E true (some (c', l, i)) (.cons s su)) (evSs E true none b) := by simp only [evS]
          rw [e2]
          exact key _
        | some q =>
          have e2 : evS E true (some q) (.tri b c0 i (.cons s su)) = fTry true (fun c' => E.T.xsub.lookup (c', c0)) i (fun _ _ _ _ => .bad) (evSs E true (some q) b) := by simp only [evS]; rfl
          rw [e2]
          exact key _
      | false =>
        cases cu with
        | some q =>
          have e2 : evS E false (some q) (.tri b c0 i (.cons s su)) = fun _ _ => .bad := by simp only [evS]; rfl
          rw [e2]
          exact bad_okS
        | none =>
          have e2 : evS E false none (.tri b c0 i (.cons s su)) = fTry false (fun c' => E.T.xsub.lookup (c', c0)) i (fun c' l => evSs E true (some (c', l, i)) (.cons s su)) (evSs E false none b) := by simp only [evS]
          rw [e2]
          have hN : X.N.Nodup := by rw [c.xin.N]; exact c.nd
          refine ss_try (x := y) (n := n) c.xin.ok (c.non rfl) c.st.stack c.st.frame hN (by rw [c.xin.N]; exact h4) (by show X.env.scope.names.lookup n = _; rw [c.xin.sc]; exact beq_iff_eq.mp h5) ⟨c.toC0.gl h2, d1, .inl (by rw [c.xin.mg]; exact c.tb.gcl y c0 (List.contains_iff_mem.mp h1))⟩ (by rw [c.xin.K]; exact fun c' b' z => c.tb.xsub c' c0 b' z) (fun W' pn xe ok own => body W' pn xe ok own fun z => (z rfl).elim) (fun a0 oe0 d0 pn c1 l ρ H hz hfd ok xd => ?_)
          have x0 := c.xin
          have cs : C1 E true (some (c1, l, i)) k W0 (X.suite a0 ((a0, oe0) :: pn)) (G.at ρ H i a0) P w K mg base N sc := by
            refine ⟨⟨⟨x0.prog, x0.w, x0.K, x0.mg, x0.base, x0.N, x0.sc, ok⟩, c.tb, c.nd, c.scr, c.pfs, c.lp, fun c2 l2 i2 e => ?_, fun z => by cases z⟩, ⟨PassesOwn.never, c.st.stack, c.st.frame, c.st.fn, fun z => by cases z⟩⟩
            cases e
            exact ⟨rfl, a0, oe0, d0, rfl, List.mem_cons_self, hz, hfd, by rw [← c.xin.K]; exact xd⟩
          exact sss_cons (sS s true (some (c1, l, i)) s0 W0 _ _ sc h7 cs) (sSs su true (some (c1, l, i)) ss W0 _ _ sc h8 cs)
    | _ => simp only [mtS] at h; exact nof h
  | .rpl i n j y zs e, m, cu, a, W, X, G, sc, h, c => by
    have h0 : (match rp1 a with
      | some (x, k, t, y', vs, ix) => decide (n = k) && decide (N[i]? = some x) && visN sc x && ndb x && decide (N[j]? = some t) && visN sc t && ndb t && decide (y' = sOf y) && consts zs vs && !isSlice ix && mtE E.T N sc (cu.map (·.2.2)) e ix
      | none => false) = true := by
      have e0 := h
      unfold mtS at e0
      exact e0
    cases eh : rp1 a with
    | none => rw [eh] at h0; exact nof h0
    | some q0 =>
    obtain ⟨x, kk, t, y', vs, ix⟩ := q0
    rw [eh] at h0
    obtain ⟨p1, jn, pn, pc, pt, ap, jy, py, pl, ps, p, pr, pi, h7, rfl⟩ := rp1_inv eh
    simp only [Bool.and_eq_true, decide_eq_true_eq] at h0
    obtain ⟨⟨⟨⟨⟨⟨⟨⟨⟨⟨hn, h1⟩, h2⟩, h3⟩, h4⟩, h5⟩, h6⟩, hy⟩, h8⟩, h9⟩, h10⟩ := h0
    subst hn hy
    obtain ⟨d1, d2, _⟩ := ndb_of h3
    obtain ⟨d3, d4, _⟩ := ndb_of h6
    exact ss_rpl c.xin.ok.room (by rw [c.xin.N]; exact h1) (by rw [c.xin.sc]; exact vis_of h2) d1 d2 (by rw [c.xin.N]; exact h4) (by rw [c.xin.sc]; exact vis_of h5) d3 d4 h7 h8 (by simpa using h9) (sE e m cu ix W X G sc h10 c.toC0).1
theorem sSs : ∀ (s : CSs) (m : Bool) (cu : Cur) (as : List Stmt) (W : WX) (X : Cx) (G : Gam) (sc : Scope), mtSs E.T N sc (cu.map (·.2.2)) s as = true → C1 E m cu k W X G P w K mg base N sc → SSs X G W as (evSs E m cu s)
  | .nil, m, cu, as, W, X, G, sc, h, c => by
    cases as with
    | nil => exact sss_nil
    | cons _ _ => simp only [mtSs] at h; exact nof h
  | .cons s r, m, cu, as, W, X, G, sc, h, c => by
    cases as with
    | nil => simp only [mtSs] at h; exact nof h
    | cons a as =>
      simp only [mtSs, Bool.and_eq_true] at h
      exact sss_cons (sS s m cu a W X G sc h.1 c) (sSs r m cu as W X G sc h.2 c)
end
end
end PI

set_option maxRecDepth 100000
set_option maxHeartbeats 4000000
/-! PI, part 26: all defs keep what the interpreter tells; a law's end. -/
namespace PI
open PySem PySem.Spec PyProof.Rows L2
/-- scope, parameters: FnScope by a check -/
def scopeC (N ps : List Str) (sc : Scope) : Bool := (sc.kind == .function) && !sc.isCoroutine && !sc.isGenerator && decide N.Nodup && decide (N.take ps.length = ps) && ps.all (fun x => locN sc x) && sc.names.all (fun y => y.2 != .free)
theorem scope_of {N ps : List Str} {sc : Scope} (h : scopeC N ps sc = true) : FnScope N ps sc := by
  unfold scopeC at h
  simp only [Bool.and_eq_true, decide_eq_true_eq, List.all_eq_true] at h
  obtain ⟨⟨⟨⟨⟨⟨h1, h2⟩, h3⟩, h4⟩, h5⟩, h6⟩, h7⟩ := h
  refine ⟨beq_iff_eq.mp h1, by simpa using h2, by simpa using h3, h4, h5, fun x hx => loc_of (h6 x hx), fun y hy z => ?_⟩
  have := h7 y hy
  rw [z] at this
  cases this
/-- the text of a def -/
structure FnTxt (K : PySem.W.Frag) (T : Tb) (f : Addr) (d : Fd) : Prop where
  ex : ∃ (N ps : List Str) (oc : Value) (od : Option Addr) (osl : Array (Option Value)) (name qual : Str) (params : Arguments) (body : List Stmt) (scope : Scope) (dV kV doc pm cdv ct : Value) (an : Option Addr),
    K.lookup f = some ⟨oc, od, .func (PySem.W.fnOf name qual params body scope dV kV doc pm an cdv ct), osl⟩ ∧ PySem.W.codeIn K cdv qual = true ∧ FnScope N ps scope ∧ N.length = d.n ∧ mtSs T N scope none d.body body = true ∧
    ∀ (P : Program) (w : World) (mg : Str → Option Value) (base : Heap) (G : Gam0), BdOk P w K mg base G (PySem.W.fnOf name qual params body scope dV kV doc pm an cdv ct) ps d.bd.f
theorem phi_ok {T : Tb} {lp : LpT} {code : Nat → Option Fd} {P : Program} {w : World} {K : PySem.W.Frag} {mg : Str → Option Value} {base : Heap} {G : Gam0} (hlp : LpOk lp) (tb : TbOk T K mg G) (txt : ∀ f d, code f = some d → FnTxt K T (G.fa f) d) :
    ∀ (k : Nat) (m : Bool), PFs m P w K mg base G (3 * k) (phi T lp G.scr code k m)
  | 0, m, f => fun A outer s H us vs ds ρ h E hr am e0 rv r q hx => hx.elim
  | k + 1, m, f => by
    have ih := phi_ok (P := P) (w := w) (base := base) hlp tb txt k
    cases ec : code f with
    | none =>
      intro A outer s H us vs ds ρ h E hr am e0 rv r q hx
      have e1 : phi T lp G.scr code (k + 1) m f ds h = .bad := by simp only [phi, ec]
      rw [e1] at hx
      exact hx.elim
    | some d =>
      have e1 : phi T lp G.scr code (k + 1) m f = fFn d.n d.bd.f (evSs ⟨T, phi T lp G.scr code k, lp, G.scr⟩ m none d.body) := by funext ds h; simp only [phi, ec]
      rw [e1]
      obtain ⟨N, ps, oc, od, osl, name, qual, params, body, scope, dV, kV, doc, pm, cdv, ct, an, lk, hcd, S, hn, hm, hb⟩ := (txt f d ec).ex
      rw [← hn]
      refine pf_of (k := 3 * k + 2) lk hcd S (hb P w mg base G) fun X W x st => ?_
      exact sSs (E := ⟨T, phi T lp G.scr code k, lp, G.scr⟩) d.body m none body W X G.st scope hm ⟨⟨x, tb, S.nd, rfl, fun m' => ih m', hlp, (fun c l i z => by cases z), fun _ => rfl⟩, st⟩
/-- loops without a bound: the end, where there is one -/
theorem iterN_more {f : LSt → LSt ⊕ RS} : ∀ (n : Nat) (s : LSt), iterN f n s ≠ .bad → ∀ m, n ≤ m → iterN f m s = iterN f n s
  | 0, s, h, m, _ => (h rfl).elim
  | n + 1, s, h, m, hm => by
    cases m with
    | zero => omega
    | succ m =>
      show (match f s with | .inl s' => iterN f m s' | .inr r => r) = (match f s with | .inl s' => iterN f n s' | .inr r => r)
      have h' : (match f s with | .inl s' => iterN f n s' | .inr r => r) ≠ .bad := h
      cases e : f s with
      | inl s' =>
        rw [e] at h'
        exact iterN_more n s' h' m (by omega)
      | inr r => rfl
open Classical in
noncomputable def lpW : LpT := fun f s => if h : ∃ n, iterN f n s ≠ .bad then iterN f (Classical.choose h) s else .bad
theorem lpW_ok : LpOk lpW := by
  intro f s h
  unfold lpW at h ⊢
  by_cases c : ∃ n, iterN f n s ≠ .bad
  · rw [dif_pos c]
    exact ⟨_, rfl⟩
  · rw [dif_neg c] at h
    exact (h rfl).elim
theorem lpW_of {f : LSt → LSt ⊕ RS} {s : LSt} {n : Nat} (h : iterN f n s ≠ .bad) : lpW f s = iterN f n s := by
  have c : ∃ n, iterN f n s ≠ .bad := ⟨n, h⟩
  unfold lpW
  rw [dif_pos c]
  have h2 := Classical.choose_spec c
  rcases Nat.le_total n (Classical.choose c) with z | z
  · exact iterN_more n s h _ z
  · exact (iterN_more _ s h2 _ z).symm
/-- one turn -/
theorem lpW_eq (f : LSt → LSt ⊕ RS) (s : LSt) : lpW f s = match f s with
    | .inl s' => lpW f s'
    | .inr r => r := by
  by_cases c : ∃ n, iterN f n s ≠ .bad
  · obtain ⟨n, h⟩ := c
    rw [lpW_of h]
    cases n with
    | zero => exact (h rfl).elim
    | succ n =>
      have h' : (match f s with | .inl s' => iterN f n s' | .inr r => r) ≠ .bad := h
      show (match f s with | .inl s' => iterN f n s' | .inr r => r) = _
      cases e : f s with
      | inl s' =>
        rw [e] at h'
        exact (lpW_of h').symm
      | inr r => rfl
  · have e0 : lpW f s = .bad := by unfold lpW; rw [dif_neg c]
    rw [e0]
    cases e : f s with
    | inl s' =>
      have c' : ¬ ∃ n, iterN f n s' ≠ .bad := fun ⟨n, h⟩ => c ⟨n + 1, by show (match f s with | .inl s' => iterN f n s' | .inr r => r) ≠ _; rw [e]; exact h⟩
      show RS.bad = lpW f s'
      unfold lpW
      rw [dif_neg c']
    | inr r =>
      show RS.bad = r
      cases r with
      | bad => rfl
      | nx _ _ => exact (c ⟨1, by show (match f s with | .inl s' => iterN f 0 s' | .inr r => r) ≠ _; rw [e]; intro z; cases z⟩).elim
      | rt _ _ => exact (c ⟨1, by show (match f s with | .inl s' => iterN f 0 s' | .inr r => r) ≠ _; rw [e]; intro z; cases z⟩).elim
      | bk _ _ => exact (c ⟨1, by show (match f s with | .inl s' => iterN f 0 s' | .inr r => r) ≠ _; rw [e]; intro z; cases z⟩).elim
      | ct _ _ => exact (c ⟨1, by show (match f s with | .inl s' => iterN f 0 s' | .inr r => r) ≠ _; rw [e]; intro z; cases z⟩).elim
      | exc _ _ _ _ => exact (c ⟨1, by show (match f s with | .inl s' => iterN f 0 s' | .inr r => r) ≠ _; rw [e]; intro z; cases z⟩).elim

/-- the law's def, called with the script -/
theorem law_callP {P : Program} {w : World} {K : PySem.W.Frag} {mg mb : Str → Option Value} {k : Nat} {fa a : Addr} {s₁ : Shared} {vs : List Value} {ns : List Int} {G : Gam0} {Fn : List D → Hh → R D} {h' : Hh}
    (KX : K.In s₁.heap) (hns : s₁.heap.Ns mainGlobals mg) (hb : s₁.heap.Ns builtinsNs mb) (hbb : ∀ x : Str, x ≠ "__name__" → mb x = bootBuiltins x) (hlim : s₁.heap.NoLimit) (hg : s₁.gens = #[])
    (ha : s₁.heap.get? a = some { cls := .type "list", data := .seq vs.toArray }) (hi : IntsAre vs ns) (hl : ns.length ≤ sizeLine) (hr : L2H.RoomH k callerA) (hd : callerA.handled = none)
    (F : ∀ base : Heap, K.In base → base.Ns mainGlobals mg → PF false P w K mg base G k fa Fn) (gs : G.scr = ns) (ga : G.scrA = a) (hf : Fn [.scr] [] = .ok (.bl true) h') :
    codeAny (model P w) callerA (.call (.ref fa) ⟨[.ref a], []⟩) (fun r s' => r = .ok (.ret (.bool true)) ∧ OldK s₁.heap s'.heap ∧ s'.os = s₁.os ∧ AllBare s'.gens) s₁ := by
  have rv := vals_ints hi
  have lenV := hi.length
  have core : ∀ H : Hp, Only H → SqF K H a (ns.map V.int) → HOk P w H s₁.heap → (∀ b, H b ≠ none → b = a) → (H a ≠ none → K.lookup a = none) →
      codeAny (model P w) callerA (.call (.ref fa) ⟨[.ref a], []⟩) (fun r s' => r = .ok (.ret (.bool true)) ∧ OldK s₁.heap s'.heap ∧ s'.os = s₁.os ∧ AllBare s'.gens) s₁ := by
    intro H hO hS hok hA hK
    have base_of : ∀ {b : Addr} {o : Obj}, s₁.heap.get? b = some o → H b = none → (hidT s₁.heap H).get? b = some o := fun e n => hidT_get e n
    have noA : ∀ {b : Addr} {o : Obj} {es : Array DictEntry} {ep : Nat}, s₁.heap.get? b = some o → o.data = .dict es ep → H b = none := fun {b o es ep} e d => by
      cases q : H b with
      | none => rfl
      | some u =>
        have e' : b = a := hA b (by rw [q]; simp)
        subst e'
        rw [ha] at e; cases e
        have d' : Data.seq vs.toArray _ = Data.dict es ep := d
        cases d'
    have nsK : ∀ {b : Addr} {m : Str → Option Value}, s₁.heap.Ns b m → (hidT s₁.heap H).Ns b m := fun {b m} ⟨o, es, ep, e, d, r⟩ => ⟨o, es, ep, base_of e (noA e d), d, r⟩
    have hKb : K.In (hidT s₁.heap H) := fun b o e => base_of (KX b o e) (by
      cases q : H b with
      | none => rfl
      | some u =>
        have e' : b = a := hA b (by rw [q]; simp)
        subst e'
        rw [hK (by rw [q]; simp)] at e; cases e)
    have hM : Mod K mg (hidT s₁.heap H) := ⟨hKb, nsK hns, ⟨mb, nsK hb, hbb⟩, let ⟨mc, h1, h2⟩ := hlim; ⟨mc, nsK h1, h2⟩⟩
    have e0 : Env0 P w K mg (hidT s₁.heap H) callerA [] s₁ H := ⟨rfl, hM, fun b o e => of_hidT e, Nat.le_of_eq (hidT_size _ _), trivial, fun b hb => absurd (show b ∈ ([] : List Addr) from hb) (by simp), hok, .of_eq hg⟩
    have hr0 : HR K G [] H [] := ⟨rfl, .nil, fun i o q => by simp at q⟩
    have hq : RDs K G [] H [.scr] [V.ref a] := RDs.one (d := .scr) ⟨by rw [ga], by rw [ga, gs]; exact hS⟩
    refine codeAny_mono (F _ hKb (nsK hns) callerA [] s₁ H [.ref a] [V.ref a] [.scr] [] [] (fun _ _ _ => False) hr ⟨(fun z => by cases z), fun _ => hd⟩ e0 (.cons rfl .nil) hr0 hq (by rw [hf]; trivial)) fun r s' h => ?_
    cases r with
    | error e =>
      obtain ⟨_, _, _, _, _, _, _, _, _, _, _, _, hE⟩ := h
      exact hE.elim
    | ok fl =>
      cases fl with
      | next => exact False.elim h
      | brk => exact False.elim h
      | cont => exact False.elim h
      | ret u =>
        obtain ⟨v, H', os, bare, un, hok', r', q⟩ := h
        rw [hf] at q
        obtain ⟨ρ', g', r2, d2⟩ := q
        obtain rfl : v = .bl true := d2
        obtain rfl : u = Value.bool true := r'
        refine ⟨rfl, OldK.of_keep fun b o e => ?_, os, bare⟩
        cases q : H b with
        | none => exact un.keep b o e q (by intro z; exact absurd (show b ∈ ([] : List Addr) from z) (by simp)) (by simp)
        | some u =>
          rcases hO b with z | ⟨ob, xs, z⟩
          · rw [q] at z; cases z
          · have z2 := un.frzs b ob _ z
            obtain ⟨e1, _⟩ := hok b _ z
            obtain ⟨e2, _⟩ := hok' b _ z2
            rw [e] at e1; cases e1
            exact e2
  cases hk : K.lookup a with
  | some o =>
    have e := KX a o hk
    rw [ha] at e
    cases e
    refine core (fun _ => none) (fun _ => .inl rfl) (.inr ⟨_, vs.toArray, _, hk, rfl, rfl, rfl, by rw [List.size_toArray, lenV]; exact hl, by simpa using rv⟩) (fun b u z => by have z' : (none : Option HO) = some u := z; cases z') (fun b z => absurd rfl z) fun z => absurd rfl z
  | none =>
    refine core (fun b => if b = a then some (.frz { cls := .type "list", data := .seq vs.toArray } (.lst (ns.map V.int))) else none) (fun b => ?_) (.inl ⟨{ cls := .type "list", data := .seq vs.toArray }, if_pos rfl⟩) (fun b u z => ?_) (fun b z => ?_) fun _ => hk
    · by_cases hb : b = a
      · exact .inr ⟨_, _, if_pos hb⟩
      · exact .inl (if_neg hb)
    · by_cases hb : b = a
      · have z' := (if_pos hb).symm.trans z
        cases z'
        subst hb
        exact ⟨ha, by rw [List.length_map]; exact hl, vs, _, rv, ha⟩
      · have z' := (if_neg hb).symm.trans z
        cases z'
    · by_cases hb : b = a
      · exact hb
      · exact absurd (if_neg hb) z
/-- what of a program is known: its tables, its classes' and defs' places -/
structure Prg (K : PySem.W.Frag) (mg : Str → Option Value) (T : Tb) (code : Nat → Option Fd) (ca fa : Nat → Addr) : Prop where
  tb : ∀ (scr : List Int) (scrA : Addr), TbOk T K mg ⟨ca, fa, nmOf T.nms, scr, scrA⟩
  txt : ∀ f d, code f = some d → FnTxt K T (fa f) d
/-- the law's goal behind k_fill; lf: the law's number -/
theorem walk_P {l : PySem.W.OpenLaw} {n kk lf : Nat} {q : Program} {loose : List Str} {XP : (Str → Option Value) → Heap → Prop} {YP : World → Heap → Prop} {d : DefRec} {K : Params → PySem.W.Frag} {T : Tb} {code : Nat → Option Fd}
    (hn : l.most = some n) (hn2 : n ≤ sizeLine) (hdf : d.params.defaults = []) (hr : L2H.RoomH (3 * kk) callerA) (hd : callerA.handled = none)
    (hY : ∀ (w : World) (h : Heap), YP w h → (K w.params).In h)
    (F : ∀ (w : World) (mg : Str → Option Value) (fa0 : Addr) (h : Heap), (K w.params).In h → h.Ns mainGlobals mg → mg d.name = some (.ref fa0) → ∃ ca fa, fa lf = fa0 ∧ Prg (K w.params) mg T code ca fa)
    (hlaw : ∀ ns : List Int, ns.length ≤ n → ∃ h', phi T lpW ns code kk false lf [.scr] [] = .ok (.bl true) h') :
    PySem.W.WalkO q loose XP YP l.row.toRowW d [] (fun f vs => PySem.call f vs) := by
  refine Att.attach_call hn hdf fun w s₀ s₁ mg mb fa o pm cd doc a vs ns G Y ho hd' hcd hmg hobj hints hlen hg => ?_
  have KX := hY w _ Y
  obtain ⟨ca, fam, e0, pr⟩ := F w mg fa _ KX G.T.g hmg
  subst e0
  obtain ⟨h', hf⟩ := hlaw ns hlen
  exact law_callP (G := ⟨ca, fam, nmOf T.nms, ns, a⟩) KX G.T.g G.T.b G.T.builtins G.T.nolimit hg hobj hints (Nat.le_trans hlen hn2) hr hd (fun base _ _ => phi_ok (G := ⟨ca, fam, nmOf T.nms, ns, a⟩) lpW_ok (pr.tb ns a) pr.txt kk false lf) rfl rfl hf
end PI

set_option maxRecDepth 100000
set_option maxHeartbeats 4000000
/-! PI, part 27: a program's facts, collected. -/
namespace PI
open PySem PySem.Spec PyProof.Rows L2
theorem al_nil {α : Type} {P : α → Prop} : ∀ p ∈ ([] : List α), P p := fun p h => by cases h
theorem al_cons {α : Type} {P : α → Prop} {a : α} {l : List α} (h : P a) (t : ∀ p ∈ l, P p) : ∀ p ∈ a :: l, P p := fun p m => by
  rcases List.mem_cons.mp m with e | e
  · subst e
    exact h
  · exact t p e
theorem lk_mem {α β : Type} [BEq α] [LawfulBEq α] {l : List (α × β)} {a : α} {b : β} (h : l.lookup a = some b) : (a, b) ∈ l := by
  induction l with
  | nil => cases h
  | cons p r ih =>
    rw [List.lookup_cons] at h
    by_cases c : (a == p.1) = true
    · rw [c] at h
      have e1 : a = p.1 := beq_iff_eq.mp c
      have e2 : p.2 = b := Option.some.inj h
      have e3 : p = (a, b) := Prod.ext e1.symm e2
      rw [e3]
      exact List.mem_cons_self
    · have c' : (a == p.1) = false := by simpa using c
      rw [c'] at h
      exact List.mem_cons_of_mem _ (ih h)
def namesC (l : List Str) : Bool := decide l.Nodup && l.all fun s => decide (s.cps.size < 1000)
theorem nmOf_inj {l : List Str} (h : namesC l = true) : ∀ i j, nmOf l i = nmOf l j → i = j := by
  unfold namesC at h
  rw [Bool.and_eq_true, decide_eq_true_eq, List.all_eq_true] at h
  obtain ⟨h1, h2⟩ := h
  have big : ∀ i, (sOf (List.replicate (i + 1000) 0)).cps.size = i + 1000 := fun i => by
    show (List.replicate (i + 1000) 0).toArray.size = i + 1000
    simp
  intro i j e
  unfold nmOf at e
  cases ei : l[i]? with
  | none =>
    cases ej : l[j]? with
    | none =>
      rw [ei, ej] at e
      have := congrArg (fun s : Str => s.cps.size) e
      simp only [big] at this
      omega
    | some t =>
      rw [ei, ej] at e
      have m := h2 t (List.mem_of_getElem? ej)
      rw [decide_eq_true_eq] at m
      have e' : sOf (List.replicate (i + 1000) 0) = t := e
      rw [← e', big] at m
      omega
  | some s =>
    cases ej : l[j]? with
    | none =>
      rw [ei, ej] at e
      have m := h2 s (List.mem_of_getElem? ei)
      rw [decide_eq_true_eq] at m
      have e' : s = sOf (List.replicate (j + 1000) 0) := e
      rw [e', big] at m
      omega
    | some t =>
      rw [ei, ej] at e
      have e' : s = t := e
      subst e'
      obtain ⟨li, hi⟩ := List.getElem?_eq_some_iff.mp ei
      obtain ⟨lj, hj⟩ := List.getElem?_eq_some_iff.mp ej
      exact (List.getElem_inj h1).mp (hi.trans hj.symm)
theorem tb_mk {T : Tb} {K : PySem.W.Frag} {mg : Str → Option Value} {G : Gam0} (nm : G.nm = nmOf T.nms) (inj : namesC T.nms = true)
    (gfn : ∀ p ∈ T.gfn, mg p.1 = some (.ref (G.fa p.2)) ∧ PySem.W.keepIn K (.ref (G.fa p.2)) = true)
    (gcl : ∀ p ∈ T.gcl, mg p.1 = some (.ref (G.ca p.2)))
    (gco : ∀ p ∈ T.gco, ∃ v u, mg p.1 = some u ∧ RelV v u ∧ ∀ ρ H, RD K G ρ H p.2 v)
    (bts : ∀ x ∈ T.bts, mg x = none)
    (cini : ∀ p ∈ T.cini, Mk K (G.ca p.1) (G.fa p.2))
    (flds : ∀ p ∈ T.flds, FldOk K G p.1 p.2)
    (meths : ∀ p ∈ T.meths, MethOk K G p.1.1 p.1.2 p.2)
    (cmets : ∀ p ∈ T.cmets, CMethOk K G p.1.1 p.1.2 p.2)
    (props : ∀ p ∈ T.props, PropOk K G p.1.1 p.1.2 p.2)
    (ccons : ∀ p ∈ T.ccons, ConOk K G p.1.1 p.1.2 p.2)
    (owneq : ∀ p ∈ T.owneq, OwnNe K G p.1 p.2)
    (xcls : ∀ p ∈ T.xcls, p.2.1 ≤ 900 ∧ p.2.2.length ≤ 800 ∧ ∃ fI bn B, XcTxt K mg (G.ca p.1) fI bn B p.2.1 (p.2.2.map fun q => (G.nm q.1, q.2 + 1)))
    (xsub : ∀ p ∈ T.xsub, PySem.W.exmOne K (.ref (G.ca p.1.1)) (.ref (G.ca p.1.2)) = some p.2)
    (xfld : ∀ p ∈ T.xfld, XFldOk K G p.1 p.2)
    (xisi : ∀ p ∈ T.xisi, XIsOk K G p.1.1 ∧ PySem.W.kitOne K (.ref (G.ca p.1.1)) (.ref (G.ca p.1.2)) = some p.2)
    (ist : ∀ p ∈ T.ist, PySem.W.kitOne K (p.1.1.val G) (p.1.2.val G) = some p.2)
    (iins : ∀ c ∈ T.iins, InsOk K G c) : TbOk T K mg G where
  nm := nm
  inj := by rw [nm]; exact nmOf_inj inj
  gfn := fun x f m => gfn (x, f) m
  gcl := fun x c m => gcl (x, c) m
  gco := gco
  bts := bts
  cini := fun c g e => cini (c, g) (lk_mem e)
  flds := fun c f m => flds (c, f) m
  meths := fun c mn g e => meths ((c, mn), g) (lk_mem e)
  cmets := fun c mn g e => cmets ((c, mn), g) (lk_mem e)
  props := fun c mn g e => props ((c, mn), g) (lk_mem e)
  ccons := fun c mn g e => ccons ((c, mn), g) (lk_mem e)
  owneq := fun c g e => owneq (c, g) (lk_mem e)
  xcls := fun c n fs e => xcls (c, (n, fs)) (lk_mem e)
  xsub := fun c c2 b e => xsub ((c, c2), b) (lk_mem e)
  xfld := fun c f m => xfld (c, f) m
  xisi := fun c c2 b e => xisi ((c, c2), b) (lk_mem e)
  ist := ⟨fun k c b e => ist ((k, c), b) (lk_mem e), fun c h => iins c (List.contains_iff_mem.mp h)⟩
theorem nf_all {K : PySem.W.Frag} {C D0 : Addr} {l : List Addr} (h : ∀ a ∈ l, PySem.W.notFirst K C (.ref a) = true) (h0 : PySem.W.notFirst K C (.ref D0) = true) (i : Nat) : PySem.W.notFirst K C (.ref (l.getD i D0)) = true := by
  rw [List.getD_eq_getElem?_getD]
  cases e : l[i]? with
  | none => exact h0
  | some a => exact h a (List.mem_of_getElem? e)
/-- isinstance against an own class, a built-in class -/
theorem kit_ref {K : PySem.W.Frag} {C : Addr} {t : Value} {b : Bool} (h1 : PySem.W.isClsIn K C = true) (h2 : PySem.W.typeIn K (.ref C) = some (.type "type")) (h3 : PySem.W.subIn K t (.ref C) = some b) (h4 : (t == Value.ref C) = true → b = true) : PySem.W.kitOne K t (.ref C) = some b := by
  unfold PySem.W.kitOne
  by_cases e : (t == Value.ref C) = true
  · rw [if_pos e, h4 e]
  · rw [if_neg e]
    have e2 : ((PySem.W.clsIn K C).isSome && PySem.W.typeIn K (.ref C) == some (.type "type")) = true := by
      have h2' : (PySem.W.clsIn K C).isSome = true := h1
      rw [h2', h2]
      rfl
    show (if ((PySem.W.clsIn K C).isSome && PySem.W.typeIn K (.ref C) == some (.type "type")) = true then PySem.W.subIn K t (.ref C) else none) = some b
    rw [if_pos e2]
    exact h3
theorem kit_own {K : PySem.W.Frag} {C : Addr} {T : String} {b : Bool} (h1 : PySem.W.kitMeta T = true) (h2 : PySem.W.subIn K (.ref C) (.type T) = some b) : PySem.W.kitOne K (.ref C) (.type T) = some b := by
  unfold PySem.W.kitOne
  have e : (Value.ref C == Value.type T) = false := by rfl
  rw [if_neg (by rw [e]; decide)]
  show (if PySem.W.kitMeta T = true then PySem.W.subIn K (.ref C) (.type T) else none) = some b
  rw [if_pos h1]
  exact h2
theorem bind_s1 {fd : FuncData} {p1 pv : Str} (h1 : ∀ a : Value, bindArgs fd ⟨[a], []⟩ = (newTuple [] >>= fun t => pure [(p1, a), (pv, t)])) (h2 : ∀ (a r : Value) (rs : List Value), bindArgs fd ⟨a :: r :: rs, []⟩ = (newTuple (r :: rs) >>= fun t => pure [(p1, a), (pv, t)])) :
    ∀ us rest : List Value, us.length = [p1].length → bindArgs fd ⟨us ++ rest, []⟩ = (newTuple rest >>= fun t => pure ([p1].zip us ++ [(pv, t)])) := StX.bind_star1 (B := fun us => bindArgs fd ⟨us, []⟩) h1 h2
theorem bind_s2 {fd : FuncData} {p1 p2 pv : Str} (h1 : ∀ a b : Value, bindArgs fd ⟨[a, b], []⟩ = (newTuple [] >>= fun t => pure [(p1, a), (p2, b), (pv, t)])) (h2 : ∀ (a b r : Value) (rs : List Value), bindArgs fd ⟨a :: b :: r :: rs, []⟩ = (newTuple (r :: rs) >>= fun t => pure [(p1, a), (p2, b), (pv, t)])) :
    ∀ us rest : List Value, us.length = [p1, p2].length → bindArgs fd ⟨us ++ rest, []⟩ = (newTuple rest >>= fun t => pure ([p1, p2].zip us ++ [(pv, t)])) := StX.bind_star2 (B := fun us => bindArgs fd ⟨us, []⟩) h1 h2
/-- the defs' texts, in their order -/
inductive TxtL (K : PySem.W.Frag) (T : Tb) : List Addr → List Fd → Prop where
  | nil : TxtL K T [] []
  | cons {f : Addr} {d : Fd} {fs : List Addr} {ds : List Fd} (h : FnTxt K T f d) (r : TxtL K T fs ds) : TxtL K T (f :: fs) (d :: ds)
theorem TxtL.get {K : PySem.W.Frag} {T : Tb} {fs : List Addr} {ds : List Fd} (h : TxtL K T fs ds) : ∀ i d, ds[i]? = some d → FnTxt K T (fs.getD i 0) d := by
  induction h with
  | nil => intro i d e; simp at e
  | @cons f d fs ds h r ih =>
    intro i d' e
    cases i with
    | zero =>
      have e' : d = d' := Option.some.inj e
      subst e'
      exact h
    | succ i => exact ih i d' e
theorem fn_txt {K : PySem.W.Frag} {T : Tb} {f : Addr} {oc : Value} {od an : Option Addr} {osl : Array (Option Value)} {name qual : Str} {st : Stmt} {dV kV doc pm cdv ct : Value} {n : Nat} {bd : Bd} {body : CSs} (N ps : List Str)
    (l : K.lookup f = some ⟨oc, od, .func (PySem.W.fnOf name qual (defArgs st) (defBody st) (defScope st) dV kV doc pm an cdv ct), osl⟩) (c : PySem.W.codeIn K cdv qual = true)
    (hc : (scopeC N ps (defScope st) && mtSs T N (defScope st) none body (defBody st)) = true) (hn : N.length = n)
    (hb : ∀ (P : Program) (w : World) (mg : Str → Option Value) (base : Heap) (G : Gam0), BdOk P w K mg base G (PySem.W.fnOf name qual (defArgs st) (defBody st) (defScope st) dV kV doc pm an cdv ct) ps bd.f) : FnTxt K T f ⟨n, bd, body⟩ := by
  rw [Bool.and_eq_true] at hc
  exact ⟨N, ps, oc, od, osl, name, qual, _, _, _, dV, kV, doc, pm, cdv, ct, an, l, c, scope_of hc.1, hn, hc.2, hb⟩
end PI

set_option maxRecDepth 100000
set_option maxHeartbeats 4000000
/-! PI, part 28: how the trees run: the rules of simp. -/
namespace PI
open PySem PySem.Spec PyProof.Rows
section
variable {E : En} {m : Bool} {cu : Cur} {env : Ev} {h : Hh}
theorem bind_c {α β : Type} {r r' : R α} {f : α → Hh → R β} (e : r = r') : r.bind f = r'.bind f := by rw [e]
theorem bindS_c {α : Type} {env : Ev} {r r' : R α} {f : α → Hh → RS} (e : r = r') : r.bindS env f = r'.bindS env f := by rw [e]
@[simp] theorem bind_ok {α β : Type} {a : α} {h : Hh} {f : α → Hh → R β} : (R.ok a h).bind f = f a h := rfl
@[simp] theorem bind_exc {α β : Type} {c : Nat} {l : List (Nat × D)} {h : Hh} {f : α → Hh → R β} : (R.exc c l h : R α).bind f = .exc c l h := rfl
@[simp] theorem bindS_ok {α : Type} {a : α} {h : Hh} {f : α → Hh → RS} : (R.ok a h).bindS env f = f a h := rfl
@[simp] theorem bindS_exc {α : Type} {c : Nat} {l : List (Nat × D)} {h : Hh} {f : α → Hh → RS} : (R.exc c l h : R α).bindS env f = .exc c l env h := rfl
def sqR (r : RS) (g : Ev → Hh → RS) : RS := match r with
  | .nx env' h' => g env' h'
  | r => r
@[simp] theorem sqR_nx {g : Ev → Hh → RS} : sqR (.nx env h) g = g env h := rfl
@[simp] theorem sqR_rt {d : D} {g : Ev → Hh → RS} : sqR (.rt d h) g = .rt d h := rfl
@[simp] theorem sqR_bk {g : Ev → Hh → RS} : sqR (.bk env h) g = .bk env h := rfl
@[simp] theorem sqR_ct {g : Ev → Hh → RS} : sqR (.ct env h) g = .ct env h := rfl
@[simp] theorem sqR_exc {c : Nat} {l : List (Nat × D)} {g : Ev → Hh → RS} : sqR (.exc c l env h) g = .exc c l env h := rfl
def ifR {α : Type} (t : Bool) (a b : Unit → α) : α := if t = true then a () else b ()
@[simp] theorem ifR_t {α : Type} {a b : Unit → α} : ifR true a b = a () := rfl
@[simp] theorem ifR_f {α : Type} {a b : Unit → α} : ifR false a b = b () := rfl
theorem ifR_c {α : Type} {t t' : Bool} {a b : Unit → α} (e : t = t') : ifR t a b = ifR t' a b := by rw [e]
@[simp] theorem vvar {i : Nat} : (evP E m cu (.var i)).1 env h = fVar i env h := rfl
@[simp] theorem vint {n : Int} : (evP E m cu (.int n)).1 env h = .ok (.int n) h := rfl
@[simp] theorem vbl {b : Bool} : (evP E m cu (.bl b)).1 env h = .ok (.bl b) h := rfl
@[simp] theorem vstr {z : List Nat} : (evP E m cu (.str z)).1 env h = .ok (.str z) h := rfl
@[simp] theorem vnon : (evP E m cu .non).1 env h = .ok .non h := rfl
@[simp] theorem vglo {g : Nat} : (evP E m cu (.glo g)).1 env h = match E.T.gco[g]? with | some p => .ok p.2 h | none => .bad := by
  show (PI.mk _).1 env h = _
  cases E.T.gco[g]? <;> rfl
@[simp] theorem vtyn {t : Bt} : (evP E m cu (.tyn t)).1 env h = .ok (.ty t.nm) h := rfl
@[simp] theorem vcln {c : Nat} : (evP E m cu (.cln c)).1 env h = .ok (.cls c) h := rfl
@[simp] theorem vbin {op : Bop} {a b : CE} : (evP E m cu (.bin op a b)).1 env h = ((evP E m cu a).1 env h).bind fun x h1 => ((evP E m cu b).1 env h1).bind fun y h2 => binD op x y h2 := rfl
@[simp] theorem vcmp {op : Cop} {a b : CE} : (evP E m cu (.cmp op a b)).1 env h = ((evP E m cu a).1 env h).bind fun x h1 => ((evP E m cu b).1 env h1).bind fun y h2 => cmpO (fun c => E.T.owneq.lookup c) (E.Φ m) op x y h2 := rfl
@[simp] theorem vnot {a : CE} : (evP E m cu (.not_ a)).1 env h = ((evP E m cu a).1 env h).bind fun x h1 => (truD x h1).bind fun t h2 => .ok (.bl (!t)) h2 := rfl
@[simp] theorem vife {c a b : CE} : (evP E m cu (.ife c a b)).1 env h = ((evP E m cu c).2 env h).bind fun t h2 => ifR t (fun _ => (evP E m cu a).1 env h2) (fun _ => (evP E m cu b).1 env h2) := rfl
@[simp] theorem vneg {a : CE} : (evP E m cu (.neg a)).1 env h = ((evP E m cu a).1 env h).bind negD := rfl
@[simp] theorem vtup {es : CEs} : (evP E m cu (.tup es)).1 env h = (evA E m cu es env h).bind mkTup := rfl
@[simp] theorem vlst {es : CEs} : (evP E m cu (.lst es)).1 env h = (evA E m cu es env h).bind mkLst := rfl
@[simp] theorem vidx {a b : CE} : (evP E m cu (.idx a b)).1 env h = ((evP E m cu a).1 env h).bind fun x h1 => ((evP E m cu b).1 env h1).bind fun y h2 => idxD x y h2 := rfl
@[simp] theorem vslc {a : CE} {lo hi : CO} : (evP E m cu (.slc a lo hi)).1 env h = ((evP E m cu a).1 env h).bind fun x h1 => (evO E m cu lo env h1).bind fun lo h2 => (evO E m cu hi env h2).bind fun hi h3 => slcD x lo hi h3 := rfl
@[simp] theorem vcall {f : Nat} {es : CEs} : (evP E m cu (.call f es)).1 env h = (evA E m cu es env h).bind fun ds h1 => hotR m (E.Φ m f ds h1) := rfl
@[simp] theorem vnew {c : Nat} {es : CEs} : (evP E m cu (.new c es)).1 env h = match E.T.cini.lookup c with | some g => (evA E m cu es env h).bind (newR m c (E.Φ m g)) | none => .bad := by
  show (PI.mk _).1 env h = _
  cases E.T.cini.lookup c <;> rfl
@[simp] theorem vnewV {i : Nat} {es : CEs} : (evP E m cu (.newV i es)).1 env h = fNewV m (fun c => E.T.cini.lookup c) (E.Φ m) i (evA E m cu es) env h := rfl
@[simp] theorem vmeth {o : CE} {mn : Nat} {es : CEs} : (evP E m cu (.meth o mn es)).1 env h = ((evP E m cu o).1 env h).bind fun x h1 => match selD (fun c => E.T.meths.lookup (c, mn)) (fun c => E.T.cmets.lookup (c, mn)) mn x h1 with
  | some g => (evA E m cu es env h1).bind fun ds h2 => hotR m (E.Φ m g (x :: ds) h2)
  | none => .bad := rfl
@[simp] theorem vatt {o : CE} {f : Nat} : (evP E m cu (.att o f)).1 env h = ((evP E m cu o).1 env h).bind (attD (E.Φ m) (E.T.isF f) (fun c => E.T.ccons.lookup (c, f)) (fun c => E.T.props.lookup (c, f)) f) := rfl
@[simp] theorem vbi {b : Bi} {es : CEs} : (evP E m cu (.bi b es)).1 env h = (evA E m cu es env h).bind (biF E b) := rfl
@[simp] theorem vbm {k : Bm} {o : CE} {es : CEs} : (evP E m cu (.bm k o es)).1 env h = ((evP E m cu o).1 env h).bind fun x h1 => ifR (tyD (bmT k) x h1) (fun _ => (evA E m cu es env h1).bind (bmF k x)) (fun _ => .bad) := rfl
@[simp] theorem vexF {f c i : Nat} {l : List (Nat × D)} : (evP E m (some (c, l, i)) (.exF f)).1 env h = if E.T.xfld.contains (c, f) then fExN i (fExF l f) env h else .bad := by
  show (PI.mk (if _ then _ else _)).1 env h = _
  split <;> rfl
@[simp] theorem vexI {c2 c i : Nat} {l : List (Nat × D)} : (evP E m (some (c, l, i)) (.exI c2)).1 env h = match E.T.xisi.lookup (c, c2) with | some b => fExN i (fCst (.bl b)) env h | none => .bad := by
  show (PI.mk (match E.T.xisi.lookup (c, c2) with | some b => _ | none => _)).1 env h = _
  cases E.T.xisi.lookup (c, c2) <;> rfl
@[simp] theorem vjst {es : CEs} : (evP E m cu (.jst es)).1 env h = fJs ((evPs E m cu es).map (·.1)) [] env h := rfl
@[simp] theorem js0 {acc : List Nat} : fJs ((evPs E m cu .nil).map (·.1)) acc env h = .ok (.str acc) h := rfl
@[simp] theorem js1 {acc : List Nat} {a : CE} {r : CEs} : fJs ((evPs E m cu (.cons a r)).map (·.1)) acc env h = ((evP E m cu a).1 env h).bind fun x h1 => match x with
  | .str y => if (acc ++ y).length ≤ SZ then fJs ((evPs E m cu r).map (·.1)) (acc ++ y) env h1 else .bad
  | _ => .bad := rfl
@[simp] theorem vfmt {a : CE} : (evP E m cu (.fmt a)).1 env h = ((evP E m cu a).1 env h).bind fmtD := rfl
@[simp] theorem vlc {own : List (Str × Nat)} {t : Tg} {it : CI} {tt : CO} {e : CE} : (evP E false none (.lc own t it tt e)).1 env h = (evI E false none it env h).bind fun j h1 => rtO (E.lp (lcStep j t (evOT E false none tt) (evP E false none e).1 h1.length) (0, wipeD env (own.map (·.2)), h1 ++ [.lst []])) := rfl
/-- and, or: values -/
@[simp] theorem vand1 {a : CE} : (evP E m cu (.and_ (.cons a .nil))).1 env h = (evP E m cu a).1 env h := rfl
@[simp] theorem vand {a b : CE} {r : CEs} : (evP E m cu (.and_ (.cons a (.cons b r)))).1 env h = ((evP E m cu a).1 env h).bind fun x h1 => (truD x h1).bind fun t h2 => ifR t (fun _ => (evP E m cu (.and_ (.cons b r))).1 env h2) (fun _ => .ok x h2) := rfl
@[simp] theorem vor1 {a : CE} : (evP E m cu (.or_ (.cons a .nil))).1 env h = (evP E m cu a).1 env h := rfl
@[simp] theorem vor {a b : CE} {r : CEs} : (evP E m cu (.or_ (.cons a (.cons b r)))).1 env h = ((evP E m cu a).1 env h).bind fun x h1 => (truD x h1).bind fun t h2 => ifR t (fun _ => .ok x h2) (fun _ => (evP E m cu (.or_ (.cons b r))).1 env h2) := rfl
/-- tests -/
@[simp] theorem tand0 : (evP E m cu (.and_ .nil)).2 env h = .ok true h := rfl
@[simp] theorem tand {a : CE} {r : CEs} : (evP E m cu (.and_ (.cons a r))).2 env h = ((evP E m cu a).2 env h).bind fun t h2 => ifR t (fun _ => (evP E m cu (.and_ r)).2 env h2) (fun _ => .ok false h2) := rfl
@[simp] theorem tor0 : (evP E m cu (.or_ .nil)).2 env h = .ok false h := rfl
@[simp] theorem tor {a : CE} {r : CEs} : (evP E m cu (.or_ (.cons a r))).2 env h = ((evP E m cu a).2 env h).bind fun t h2 => ifR t (fun _ => .ok true h2) (fun _ => (evP E m cu (.or_ r)).2 env h2) := rfl
@[simp] theorem tnot {a : CE} : (evP E m cu (.not_ a)).2 env h = ((evP E m cu a).2 env h).bind fun t h2 => .ok (!t) h2 := rfl
@[simp] theorem tife {c a b : CE} : (evP E m cu (.ife c a b)).2 env h = ((evP E m cu c).2 env h).bind fun t h2 => ifR t (fun _ => (evP E m cu a).2 env h2) (fun _ => (evP E m cu b).2 env h2) := rfl
@[simp] theorem tvar {i : Nat} : (evP E m cu (.var i)).2 env h = (fVar i env h).bind truD := rfl
@[simp] theorem tcmp {op : Cop} {a b : CE} : (evP E m cu (.cmp op a b)).2 env h = ((evP E m cu (.cmp op a b)).1 env h).bind truD := rfl
@[simp] theorem tcall {f : Nat} {es : CEs} : (evP E m cu (.call f es)).2 env h = ((evP E m cu (.call f es)).1 env h).bind truD := rfl
@[simp] theorem tbi {b : Bi} {es : CEs} : (evP E m cu (.bi b es)).2 env h = ((evP E m cu (.bi b es)).1 env h).bind truD := rfl
@[simp] theorem tidx {a b : CE} : (evP E m cu (.idx a b)).2 env h = ((evP E m cu (.idx a b)).1 env h).bind truD := rfl
@[simp] theorem tmeth {o : CE} {mn : Nat} {es : CEs} : (evP E m cu (.meth o mn es)).2 env h = ((evP E m cu (.meth o mn es)).1 env h).bind truD := rfl
@[simp] theorem tatt {o : CE} {f : Nat} : (evP E m cu (.att o f)).2 env h = ((evP E m cu (.att o f)).1 env h).bind truD := rfl
@[simp] theorem tbl {b : Bool} : (evP E m cu (.bl b)).2 env h = .ok b h := rfl
@[simp] theorem texI {c2 : Nat} : (evP E m cu (.exI c2)).2 env h = ((evP E m cu (.exI c2)).1 env h).bind truD := rfl
/-- arguments -/
@[simp] theorem a0 : evA E m cu .nil env h = .ok [] h := rfl
@[simp] theorem a1 {a : CE} {r : CEs} : evA E m cu (.cons a r) env h = ((evP E m cu a).1 env h).bind fun x h1 => (evA E m cu r env h1).bind fun xs h2 => .ok (x :: xs) h2 := rfl
@[simp] theorem aS {a : CE} {r : CEs} : evA E m cu (.star a r) env h = ((evP E m cu a).1 env h).bind fun x h1 => (starD x h1).bind fun ys h2 => (evA E m cu r env h2).bind fun xs h3 => .ok (ys ++ xs) h3 := rfl
@[simp] theorem o0 : evO E m cu .none env h = .ok none h := rfl
@[simp] theorem o1 {a : CE} : evO E m cu (.some a) env h = fPart (evP E m cu a).1 env h := rfl
@[simp] theorem iv {a : CE} : evI E m cu (.val a) env h = ((evP E m cu a).1 env h).bind itD := rfl
@[simp] theorem ir1 {a : CE} : evI E m cu (.rng1 a) env h = ((evP E m cu a).1 env h).bind fun x h1 => rngD1 [x] h1 := by
  show (R.bind (R.bind _ _) _) = _
  cases (evP E m cu a).1 env h <;> rfl
@[simp] theorem ot0 : evOT E m cu .none env h = .ok true h := rfl
@[simp] theorem ot1 {a : CE} : evOT E m cu (.some a) env h = (evP E m cu a).2 env h := rfl
/-- statements -/
@[simp] theorem s0 : evSs E m cu .nil env h = .nx env h := rfl
@[simp] theorem s1 {s : CS} {r : CSs} : evSs E m cu (.cons s r) env h = sqR (evS E m cu s env h) (evSs E m cu r) := rfl
@[simp] theorem sdoc : evS E m cu .doc env h = .nx env h := rfl
@[simp] theorem spass : evS E m cu .pass env h = .nx env h := rfl
@[simp] theorem scnt : evS E m cu .cnt env h = .ct env h := rfl
@[simp] theorem sbrk : evS E m cu .brk env h = .bk env h := rfl
@[simp] theorem sexp {e : CE} : evS E m cu (.exp e) env h = ((evP E m cu e).1 env h).bindS env fun _ h1 => .nx env h1 := rfl
@[simp] theorem sset {i : Nat} {e : CE} : evS E m cu (.set i e) env h = ((evP E m cu e).1 env h).bindS env fun d h1 => .nx (env.set i (some d)) h1 := rfl
@[simp] theorem ssetL {i : Nat} {own : List (Str × Nat)} {t : Tg} {it : CI} {tt : CO} {e : CE} : evS E false none (.setL i own t it tt e) env h = ((evP E false none (.lc own t it tt e)).1 env h).bindS env fun d h1 => .nx (env.set i (some d)) h1 := rfl
theorem sasg {t : Tg} {e : CE} : evS E m cu (.asg t e) env h = ((evP E m cu e).1 env h).bindS env fun d h1 => match asgT t d env with
  | some env1 => .nx env1 h1
  | none => .bad := rfl
def asg3 (i j l : Nat) (d : D) (env : Ev) (h : Hh) : RS := match d with
  | .tup [x, y, z] => .nx (((env.set i (some x)).set j (some y)).set l (some z)) h
  | _ => .bad
@[simp] theorem asg3_ok {i j l : Nat} {x y z : D} : asg3 i j l (.tup [x, y, z]) env h = .nx (((env.set i (some x)).set j (some y)).set l (some z)) h := rfl
theorem asg3_eq {i j l : Nat} {d : D} : (match asgT (.tup (.cons (.nm i) (.cons (.nm j) (.cons (.nm l) .nil)))) d env with
  | some env1 => RS.nx env1 h
  | none => .bad) = asg3 i j l d env h := by
  cases d with
  | tup xs =>
    match xs with
    | [] => rfl
    | [_] => rfl
    | [_, _] => rfl
    | [_, _, _] => rfl
    | _ :: _ :: _ :: _ :: _ => rfl
  | _ => rfl
theorem sasg3 {i j l : Nat} {e : CE} : evS E m cu (.asg (.tup (.cons (.nm i) (.cons (.nm j) (.cons (.nm l) .nil)))) e) env h = ((evP E m cu e).1 env h).bindS env fun d h1 => asg3 i j l d env h1 := by
  rw [sasg]
  cases (evP E m cu e).1 env h with
  | ok d h1 => exact asg3_eq
  | exc c l h1 => rfl
  | bad => rfl
@[simp] theorem ssetF {o : CE} {f : Nat} {e : CE} : evS E m cu (.setF o f e) env h = ((evP E m cu e).1 env h).bindS env fun y h1 => ((evP E m cu o).1 env h1).bindS env fun x h2 => match setFD (E.T.isF f) f y x h2 with
  | some h3 => .nx env h3
  | none => .bad := rfl
@[simp] theorem ssetI {o i e : CE} : evS E m cu (.setI o i e) env h = ((evP E m cu e).1 env h).bindS env fun y h1 => ((evP E m cu o).1 env h1).bindS env fun o h2 => ((evP E m cu i).1 env h2).bindS env fun i h3 => match setID o i y h3 with
  | some h4 => .nx env h4
  | none => .bad := rfl
@[simp] theorem sret {e : CE} : evS E m cu (.ret e) env h = ((evP E m cu e).1 env h).bindS env fun d h1 => .rt d h1 := rfl
@[simp] theorem srtN : evS E m cu .rtN env h = .rt .non h := rfl
@[simp] theorem sife {c : CE} {a b : CSs} : evS E m cu (.ife c a b) env h = ((evP E m cu c).2 env h).bindS env fun t h1 => ifR t (fun _ => evSs E m cu a env h1) (fun _ => evSs E m cu b env h1) := rfl
@[simp] theorem swhl {c : CE} {b : CSs} : evS E m cu (.whl c b) env h = E.lp (whStep (evP E m cu c).2 (evSs E m cu b)) (0, env, h) := rfl
@[simp] theorem sfor {t : Tg} {it : CI} {b : CSs} : evS E m cu (.for_ t it b) env h = (evI E m cu it env h).bindS env fun j h1 => E.lp (forStep j t (evSs E m cu b)) (0, env, h1) := rfl
@[simp] theorem srai {c : Nat} {es : CEs} : evS E false cu (.rai c es) env h = match E.T.xcls.lookup c with
  | some (n, fs) => (evA E false cu es env h).bindS env fun ds h1 => if ds.length = n then (match xfl ds fs with | some l => .exc c l env h1 | none => .bad) else .bad
  | none => .bad := by
  show (if false = true then (fun _ _ => RS.bad) else match E.T.xcls.lookup c with | some (n, fs) => fRaise c n fs (evA E false cu es) | none => fun _ _ => .bad) env h = _
  rw [if_neg (by decide)]
  cases E.T.xcls.lookup c <;> rfl
def tryR (sub : Nat → Option Bool) (i : Nat) (fsu : Nat → List (Nat × D) → Ev → Hh → RS) (r : RS) : RS := match r with
  | .exc c l env1 h1 => (match sub c with
    | some true => sufS i (fsu c l (env1.set i none) h1)
    | some false => .exc c l env1 h1
    | none => .bad)
  | r => r
section
variable {sub : Nat → Option Bool} {i : Nat} {fsu : Nat → List (Nat × D) → Ev → Hh → RS}
@[simp] theorem try_nx : tryR sub i fsu (.nx env h) = .nx env h := rfl
@[simp] theorem try_rt {d : D} : tryR sub i fsu (.rt d h) = .rt d h := rfl
@[simp] theorem try_exc {c : Nat} {l : List (Nat × D)} : tryR sub i fsu (.exc c l env h) = match sub c with
    | some true => sufS i (fsu c l (env.set i none) h)
    | some false => .exc c l env h
    | none => .bad := rfl
@[simp] theorem suf_rt {d : D} : sufS i (.rt d h) = .rt d h := rfl
@[simp] theorem suf_nx : sufS i (.nx env h) = .nx (env.set i none) h := rfl
end
@[simp] theorem stri {b su : CSs} {c i : Nat} : evS E false none (.tri b c i su) env h = tryR (fun c' => E.T.xsub.lookup (c', c)) i (fun c' l => evSs E true (some (c', l, i)) su) (evSs E false none b env h) := by
  show fTry false _ i _ _ env h = _
  unfold fTry
  cases evSs E false none b env h <;> rfl
@[simp] theorem srpl {i j : Nat} {n : Int} {y : List Nat} {zs : List (List Nat)} {e : CE} : evS E m cu (.rpl i n j y zs e) env h = fRpl i n j y zs (evP E m cu e).1 env h := rfl
@[simp] theorem hot_ok {d : D} : hotR m (.ok d h) = .ok d h := by cases m <;> rfl
@[simp] theorem hot_f {r : R D} : hotR false r = r := hotR_false
@[simp] theorem rtR_nx : rtR (.nx env h) = .ok .non h := rfl
@[simp] theorem rtR_rt {d : D} : rtR (.rt d h) = .ok d h := rfl
@[simp] theorem rtR_exc {c : Nat} {l : List (Nat × D)} : rtR (.exc c l env h) = .exc c l h := rfl
end
/-- one turn more: the def's body -/
theorem phi_s {T : Tb} {lp : LpT} {scr : List Int} {code : Nat → Option Fd} {k f : Nat} {m : Bool} {d : Fd} {ds ds' : List D} {h : Hh} (e : code f = some d) (b : d.bd.f ds = some ds') : phi T lp scr code (k + 1) m f ds h = rtR (evSs ⟨T, phi T lp scr code k, lp, scr⟩ m none d.body (stE d.n ds') h) := by
  show (match code f with | some d => fFn d.n d.bd.f (evSs ⟨T, phi T lp scr code k, lp, scr⟩ m none d.body) | none => fun _ _ => .bad) ds h = _
  rw [e]
  show (match d.bd.f ds with | some ds' => rtR (evSs ⟨T, phi T lp scr code k, lp, scr⟩ m none d.body (stE d.n ds') h) | none => .bad) = _
  rw [b]
/-! loops by what holds between turns -/
def isOf (j : IS) (xs : List D) (n : Nat) (h : Hh) : Prop := j.nxt n h = match xs[n]? with | some d => .item d | none => .stop
theorem is_tup {xs : List D} {n : Nat} {h : Hh} : isOf (.tup xs) xs n h := rfl
theorem is_str {z : List Nat} {n : Nat} {h : Hh} : isOf (.str z) (z.map fun c => .str [c]) n h := by
  show (match z[n]? with | some c => Nxt.item (.str [c]) | none => .stop) = _
  rw [List.getElem?_map]
  cases z[n]? <;> rfl
theorem is_lst {i : Nat} {xs : List D} {n : Nat} {h : Hh} (e : h[i]? = some (.lst xs)) : isOf (.lst i) xs n h := by
  show (match h[i]? with | some (.lst xs) => _ | _ => _) = _
  rw [e]
  try rfl
theorem is_rng {lo : Int} {k n : Nat} {h : Hh} : isOf (.rng lo k) ((List.range k).map fun (i : Nat) => D.int (lo + (i : Int))) n h := by
  show (if n < k then Nxt.item (.int (lo + n)) else .stop) = _
  rw [List.getElem?_map]
  by_cases c : n < k
  · rw [if_pos c, List.getElem?_range c]
    rfl
  · rw [if_neg c, List.getElem?_eq_none (by simpa using c)]
    rfl
theorem for_rule {j : IS} {xs : List D} {t : Tg} {fb : Ev → Hh → RS} (Inv : Nat → Ev → Hh → Prop) (P : RS → Prop) {env : Ev} {h : Hh} (i0 : Inv 0 env h) (it : ∀ n env h, Inv n env h → isOf j xs n h)
    (step : ∀ n d env h, xs[n]? = some d → Inv n env h → ∃ env1, asgT t d env = some env1 ∧ match fb env1 h with
      | .nx e h' => Inv (n + 1) e h'
      | .ct e h' => Inv (n + 1) e h'
      | .bk e h' => P (.nx e h')
      | r => P r)
    (fin : ∀ env h, Inv xs.length env h → P (.nx env h)) : P (lpW (forStep j t fb) (0, env, h)) := by
  have main : ∀ k n env h, n + k = xs.length → Inv n env h → P (lpW (forStep j t fb) (n, env, h)) := by
    intro k
    induction k with
    | zero =>
      intro n env h hn hi
      have e : n = xs.length := by omega
      subst e
      have q := it _ _ _ hi
      unfold isOf at q
      rw [List.getElem?_eq_none (Nat.le_refl _)] at q
      rw [lpW_eq]
      unfold forStep
      simp only [q]
      exact fin _ _ hi
    | succ k ih =>
      intro n env h hn hi
      have q := it _ _ _ hi
      unfold isOf at q
      have lt : n < xs.length := by omega
      rw [List.getElem?_eq_getElem lt] at q
      obtain ⟨env1, e1, st⟩ := step n _ env h (List.getElem?_eq_getElem lt) hi
      rw [lpW_eq]
      cases eb : fb env1 h with
      | nx e h' =>
        rw [eb] at st
        have e2 : forStep j t fb (n, env, h) = .inl (n + 1, e, h') := by unfold forStep; simp only [q, e1, eb]
        rw [e2]; exact ih (n + 1) e h' (by omega) st
      | ct e h' =>
        rw [eb] at st
        have e2 : forStep j t fb (n, env, h) = .inl (n + 1, e, h') := by unfold forStep; simp only [q, e1, eb]
        rw [e2]; exact ih (n + 1) e h' (by omega) st
      | bk e h' =>
        rw [eb] at st
        have e2 : forStep j t fb (n, env, h) = .inr (.nx e h') := by unfold forStep; simp only [q, e1, eb]
        rw [e2]; exact st
      | rt d h' =>
        rw [eb] at st
        have e2 : forStep j t fb (n, env, h) = .inr (.rt d h') := by unfold forStep; simp only [q, e1, eb]
        rw [e2]; exact st
      | exc c l e h' =>
        rw [eb] at st
        have e2 : forStep j t fb (n, env, h) = .inr (.exc c l e h') := by unfold forStep; simp only [q, e1, eb]
        rw [e2]; exact st
      | bad =>
        rw [eb] at st
        have e2 : forStep j t fb (n, env, h) = .inr .bad := by unfold forStep; simp only [q, e1, eb]
        rw [e2]; exact st
  exact main xs.length 0 env h (by omega) i0
/-- an answer and what is then known of the heap -/
def Rs (r : R D) (v : D) (Q : Hh → Prop) : Prop := ∃ h', r = .ok v h' ∧ Q h'
@[simp] theorem rs_ok {v w : D} {h : Hh} {Q : Hh → Prop} : Rs (.ok w h) v Q ↔ w = v ∧ Q h := by
  constructor
  · rintro ⟨h', e, q⟩
    cases e
    exact ⟨rfl, q⟩
  · rintro ⟨e, q⟩
    exact ⟨h, by rw [e], q⟩
theorem for_rs {j : IS} {xs : List D} {t : Tg} {fb g : Ev → Hh → RS} {v : D} {Q : Hh → Prop} (Inv : Nat → Ev → Hh → Prop) {env : Ev} {h : Hh} (i0 : Inv 0 env h) (it : ∀ n env h, Inv n env h → isOf j xs n h)
    (step : ∀ n d env h, xs[n]? = some d → Inv n env h → ∃ env1, asgT t d env = some env1 ∧ match fb env1 h with
      | .nx e h' => Inv (n + 1) e h'
      | .ct e h' => Inv (n + 1) e h'
      | .bk e h' => Rs (rtR (sqR (.nx e h') g)) v Q
      | r => Rs (rtR (sqR r g)) v Q)
    (fin : ∀ env h, Inv xs.length env h → Rs (rtR (sqR (.nx env h) g)) v Q) : Rs (rtR (sqR (lpW (forStep j t fb) (0, env, h)) g)) v Q :=
  for_rule Inv (fun r => Rs (rtR (sqR r g)) v Q) i0 it step fin
/-- an exception -/
def Xs (r : R D) (c : Nat) (l : List (Nat × D)) (Q : Hh → Prop) : Prop := ∃ h', r = .exc c l h' ∧ Q h'
@[simp] theorem xs_exc {c d : Nat} {l l' : List (Nat × D)} {h : Hh} {Q : Hh → Prop} : Xs (.exc d l' h) c l Q ↔ (d = c ∧ l' = l) ∧ Q h := by
  constructor
  · rintro ⟨h', e, q⟩
    cases e
    exact ⟨⟨rfl, rfl⟩, q⟩
  · rintro ⟨⟨e1, e2⟩, q⟩
    exact ⟨h, by rw [e1, e2], q⟩
theorem for_xs {j : IS} {xs : List D} {t : Tg} {fb g : Ev → Hh → RS} {c : Nat} {l : List (Nat × D)} {Q : Hh → Prop} (Inv : Nat → Ev → Hh → Prop) {env : Ev} {h : Hh} (i0 : Inv 0 env h) (it : ∀ n env h, Inv n env h → isOf j xs n h)
    (step : ∀ n d env h, xs[n]? = some d → Inv n env h → ∃ env1, asgT t d env = some env1 ∧ match fb env1 h with
      | .nx e h' => Inv (n + 1) e h'
      | .ct e h' => Inv (n + 1) e h'
      | .bk e h' => Xs (rtR (sqR (.nx e h') g)) c l Q
      | r => Xs (rtR (sqR r g)) c l Q)
    (fin : ∀ env h, Inv xs.length env h → Xs (rtR (sqR (.nx env h) g)) c l Q) : Xs (rtR (sqR (lpW (forStep j t fb) (0, env, h)) g)) c l Q :=
  for_rule Inv (fun r => Xs (rtR (sqR r g)) c l Q) i0 it step fin
/-- what is said of an answer -/
def Rz (Z : R D → Prop) (r : R D) : Prop := Z r
theorem for_rz {j : IS} {xs : List D} {t : Tg} {fb g : Ev → Hh → RS} {Z : R D → Prop} (Inv : Nat → Ev → Hh → Prop) {env : Ev} {h : Hh} (i0 : Inv 0 env h) (it : ∀ n env h, Inv n env h → isOf j xs n h)
    (step : ∀ n d env h, xs[n]? = some d → Inv n env h → ∃ env1, asgT t d env = some env1 ∧ match fb env1 h with
      | .nx e h' => Inv (n + 1) e h'
      | .ct e h' => Inv (n + 1) e h'
      | .bk e h' => Rz Z (rtR (sqR (.nx e h') g))
      | r => Rz Z (rtR (sqR r g)))
    (fin : ∀ env h, Inv xs.length env h → Rz Z (rtR (sqR (.nx env h) g))) : Rz Z (rtR (sqR (lpW (forStep j t fb) (0, env, h)) g)) :=
  for_rule Inv (fun r => Rz Z (rtR (sqR r g))) i0 it step fin
/-- a comprehension -/
theorem lc_rule {j : IS} {xs : List D} {t : Tg} {tt : Ev → Hh → R Bool} {fe : Ev → Hh → R D} {d : Nat} {env : Ev} (Inv : Nat → Hh → Prop) (P : RS → Prop) {h : Hh} (i0 : Inv 0 h) (it : ∀ n h, Inv n h → isOf j xs n h)
    (step : ∀ n x h, xs[n]? = some x → Inv n h → ∃ env1, asgT t x env = some env1 ∧ ((∃ h1, tt env1 h = .ok false h1 ∧ Inv (n + 1) h1) ∨ (∃ h1 y h2 acc, tt env1 h = .ok true h1 ∧ fe env1 h1 = .ok y h2 ∧ h2[d]? = some (.lst acc) ∧ acc.length < SZ ∧ Inv (n + 1) (h2.set d (.lst (acc ++ [y]))))))
    (fin : ∀ h, Inv xs.length h → P (.rt (.ref d) h)) : P (lpW (lcStep j t tt fe d) (0, env, h)) := by
  have main : ∀ k n h, n + k = xs.length → Inv n h → P (lpW (lcStep j t tt fe d) (n, env, h)) := by
    intro k
    induction k with
    | zero =>
      intro n h hn hi
      have e : n = xs.length := by omega
      subst e
      have q := it _ _ hi
      unfold isOf at q
      rw [List.getElem?_eq_none (Nat.le_refl _)] at q
      rw [lpW_eq]
      have e2 : lcStep j t tt fe d (xs.length, env, h) = .inr (.rt (.ref d) h) := by unfold lcStep; simp only [q]
      rw [e2]
      exact fin _ hi
    | succ k ih =>
      intro n h hn hi
      have q := it _ _ hi
      unfold isOf at q
      have lt : n < xs.length := by omega
      rw [List.getElem?_eq_getElem lt] at q
      obtain ⟨env1, e1, st⟩ := step n _ h (List.getElem?_eq_getElem lt) hi
      rw [lpW_eq]
      rcases st with ⟨h1, e, i⟩ | ⟨h1, y, h2, acc, e, ey, ea, la, i⟩
      · have e2 : lcStep j t tt fe d (n, env, h) = .inl (n + 1, env, h1) := by unfold lcStep; simp only [q, e1, e]
        rw [e2]
        exact ih _ _ (by omega) i
      · have e2 : lcStep j t tt fe d (n, env, h) = .inl (n + 1, env, h2.set d (.lst (acc ++ [y]))) := by
          unfold lcStep
          simp only [q, e1, e, ey, ea]
          rw [if_pos la]
        rw [e2]
        exact ih _ _ (by omega) i
  exact main xs.length 0 h (by omega) i0
/-- while, by a number that falls -/
theorem whl_rule {tc : Ev → Hh → R Bool} {fb : Ev → Hh → RS} (Inv : Nat → Ev → Hh → Prop) (P : RS → Prop)
    (step : ∀ n env h, Inv n env h → (∃ h1, tc env h = .ok false h1 ∧ P (.nx env h1)) ∨ (∃ h1, tc env h = .ok true h1 ∧ match fb env h1 with
      | .nx e h' => ∃ n', n' < n ∧ Inv n' e h'
      | .ct e h' => ∃ n', n' < n ∧ Inv n' e h'
      | .bk e h' => P (.nx e h')
      | r => P r)) : ∀ n k env h, Inv n env h → P (lpW (whStep tc fb) (k, env, h)) := by
  intro n
  induction n using Nat.strongRecOn with
  | ind n ih =>
    intro k env h hi
    rw [lpW_eq]
    rcases step n env h hi with ⟨h1, e, q⟩ | ⟨h1, e, q⟩
    · have e2 : whStep tc fb (k, env, h) = .inr (.nx env h1) := by
        unfold whStep
        simp only [e]
      rw [e2]
      exact q
    · cases eb : fb env h1 with
      | nx e' h' =>
        rw [eb] at q
        obtain ⟨n', l, i⟩ := q
        have e2 : whStep tc fb (k, env, h) = .inl (k, e', h') ∨ ∃ k', whStep tc fb (k, env, h) = .inl (k', e', h') := .inr ⟨_, by unfold whStep; simp only [e, eb]; rfl⟩
        rcases e2 with e2 | ⟨k', e2⟩
        · rw [e2]; exact ih n' l _ _ _ i
        · rw [e2]; exact ih n' l _ _ _ i
      | ct e' h' =>
        rw [eb] at q
        obtain ⟨n', l, i⟩ := q
        have e2 : ∃ k', whStep tc fb (k, env, h) = .inl (k', e', h') := ⟨_, by unfold whStep; simp only [e, eb]; rfl⟩
        obtain ⟨k', e2⟩ := e2
        rw [e2]; exact ih n' l _ _ _ i
      | bk e' h' =>
        rw [eb] at q
        have e2 : whStep tc fb (k, env, h) = .inr (.nx e' h') := by unfold whStep; simp only [e, eb]
        rw [e2]; exact q
      | rt d h' =>
        rw [eb] at q
        have e2 : whStep tc fb (k, env, h) = .inr (.rt d h') := by unfold whStep; simp only [e, eb]
        rw [e2]; exact q
      | exc c l e' h' =>
        rw [eb] at q
        have e2 : whStep tc fb (k, env, h) = .inr (.exc c l e' h') := by unfold whStep; simp only [e, eb]
        rw [e2]; exact q
      | bad =>
        rw [eb] at q
        have e2 : whStep tc fb (k, env, h) = .inr .bad := by unfold whStep; simp only [e, eb]
        rw [e2]; exact q
end PI

set_option maxRecDepth 100000
set_option maxHeartbeats 4000000
/-! PI, part 29: texts by their signs. -/
namespace PI
open PySem PySem.Spec PyProof.Rows
theorem cps_sOf (a : List Nat) : cps (sOf a) = a := by simp [cps, sOf]
theorem cps_append (a b : Str) : cps (a ++ b) = cps a ++ cps b := by
  show (a ++ b).cps.toList = a.cps.toList ++ b.cps.toList
  exact Array.toList_append
theorem cps_join (sep : Str) : ∀ zs : List Str, cps (sep.join zs) = joinL (cps sep) (zs.map cps)
  | [] => rfl
  | [x] => rfl
  | x :: y :: r => by
    have ih := cps_join sep (y :: r)
    show cps (x ++ sep ++ sep.join (y :: r)) = cps x ++ cps sep ++ joinL (cps sep) (cps y :: r.map cps)
    rw [cps_append, cps_append, ih]
    rfl
theorem cps_tjoin (a : List Nat) (zs : List (List Nat)) : cps (Txt.join (sOf a) (zs.map sOf)) = joinL a zs := by
  have e : Txt.join (sOf a) (zs.map sOf) = (sOf a).join (zs.map sOf) := StrLaws.glued_eq_join _ _
  rw [e, cps_join, cps_sOf, List.map_map]
  congr 1
  rw [show (cps ∘ sOf) = id from funext cps_sOf, List.map_id]
theorem split_join (t a : List Nat) : joinL a (splitL t a) = t := by
  have e := congrArg cps (StrLaws.join_split (sOf t) (sOf a))
  rw [cps_join, cps_sOf, cps_sOf] at e
  exact e
theorem split_free {t p : List Nat} {c : Nat} (h : p ∈ splitL t [c]) : c ∉ p := by
  obtain ⟨q, hq, rfl⟩ := List.mem_map.mp h
  exact StrLaws.split_free (sOf t) c q hq
theorem split_ne {t a : List Nat} (ha : a ≠ []) : splitL t a ≠ [] := by
  intro e
  have j := split_join t a
  rw [e] at j
  have e0 : t = [] := j.symm
  subst e0
  unfold splitL at e
  rw [List.map_eq_nil_iff] at e
  unfold Txt.split at e
  have l : (decide ((sOf []).length < (sOf a).length) || decide (Builtin.Str.strKind (sOf []) < Builtin.Str.strKind (sOf a))) = true := by
    rw [Bool.or_eq_true]
    left
    cases a with
    | nil => exact absurd rfl ha
    | cons x r => exact decide_eq_true (Nat.succ_pos _)
  rw [if_pos l] at e
  cases e
theorem mem_join {a : List Nat} : ∀ {ps : List (List Nat)} {p : List Nat} {x : Nat}, p ∈ ps → x ∈ p → x ∈ joinL a ps
  | [y], p, x, hp, hx => by
    rw [List.mem_singleton] at hp
    subst hp
    exact hx
  | y :: z :: r, p, x, hp, hx => by
    show x ∈ y ++ a ++ joinL a (z :: r)
    rcases List.mem_cons.mp hp with e | e
    · subst e
      exact List.mem_append_left _ (List.mem_append_left _ hx)
    · exact List.mem_append_right _ (mem_join e hx)
theorem join_mem {a : List Nat} : ∀ {ps : List (List Nat)} {x : Nat}, x ∈ joinL a ps → x ∈ a ∨ ∃ p ∈ ps, x ∈ p
  | [], x, h => by cases h
  | [y], x, h => .inr ⟨y, List.mem_singleton.mpr rfl, h⟩
  | y :: z :: r, x, h => by
    have h' : x ∈ y ++ a ++ joinL a (z :: r) := h
    rcases List.mem_append.mp h' with q | q
    · rcases List.mem_append.mp q with q | q
      · exact .inr ⟨y, List.mem_cons_self, q⟩
      · exact .inl q
    · rcases join_mem q with q | ⟨p, hp, hx⟩
      · exact .inl q
      · exact .inr ⟨p, List.mem_cons_of_mem _ hp, hx⟩
theorem join_len {a : List Nat} : ∀ {ps : List (List Nat)}, ps ≠ [] → (joinL a ps).length + a.length = (ps.map List.length).sum + ps.length * a.length
  | [], h => absurd rfl h
  | [y], _ => by show y.length + a.length = _; simp
  | y :: z :: r, _ => by
    have ih := join_len (a := a) (ps := z :: r) (by simp)
    show (y ++ a ++ joinL a (z :: r)).length + a.length = _
    simp only [List.length_append, List.map_cons, List.sum_cons, List.length_cons] at ih ⊢
    have m1 : (r.length + 1 + 1) * a.length = (r.length + 1) * a.length + a.length := by rw [Nat.add_mul (r.length + 1) 1, Nat.one_mul]
    rw [m1]
    omega
theorem join_uniq {c : Nat} : ∀ {ps qs : List (List Nat)}, ps ≠ [] → qs ≠ [] → (∀ p ∈ ps, c ∉ p) → (∀ q ∈ qs, c ∉ q) → joinL [c] ps = joinL [c] qs → ps = qs
  | [], _, h, _, _, _, _ => absurd rfl h
  | _, [], _, h, _, _, _ => absurd rfl h
  | [p], [q], _, _, _, _, e => by rw [show p = q from e]
  | [p], q :: q2 :: r, _, _, fp, _, e => by
    have e' : p = q ++ [c] ++ joinL [c] (q2 :: r) := e
    exact absurd (by rw [e']; simp) (fp p List.mem_cons_self)
  | p :: p2 :: r, [q], _, _, _, fq, e => by
    have e' : p ++ [c] ++ joinL [c] (p2 :: r) = q := e
    exact absurd (by rw [← e']; simp) (fq q List.mem_cons_self)
  | p :: p2 :: r, q :: q2 :: t, _, _, fp, fq, e => by
    have e' : p ++ [c] ++ joinL [c] (p2 :: r) = q ++ [c] ++ joinL [c] (q2 :: t) := e
    have key : ∀ (p q : List Nat) (x y : List Nat), c ∉ p → c ∉ q → p ++ [c] ++ x = q ++ [c] ++ y → p = q ∧ x = y := by
      intro p
      induction p with
      | nil =>
        intro q x y _ hq e
        cases q with
        | nil => simpa using e
        | cons b q =>
          simp at e
          exact absurd (by rw [e.1]; exact List.mem_cons_self) hq
      | cons b p ih =>
        intro q x y hp hq e
        cases q with
        | nil =>
          simp at e
          exact absurd (by rw [e.1]; exact List.mem_cons_self) hp
        | cons b2 q =>
          simp only [List.cons_append, List.cons.injEq] at e
          obtain ⟨h1, h2⟩ := ih q x y (fun z => hp (List.mem_cons_of_mem _ z)) (fun z => hq (List.mem_cons_of_mem _ z)) e.2
          exact ⟨by rw [e.1, h1], h2⟩
    obtain ⟨h1, h2⟩ := key p q _ _ (fp p List.mem_cons_self) (fq q List.mem_cons_self) e'
    rw [h1, join_uniq (by simp) (by simp) (fun p hp => fp p (List.mem_cons_of_mem _ hp)) (fun q hq => fq q (List.mem_cons_of_mem _ hq)) h2]
theorem split_of_join {c : Nat} {ws : List (List Nat)} (ne : ws ≠ []) (fr : ∀ w ∈ ws, c ∉ w) : splitL (joinL [c] ws) [c] = ws :=
  join_uniq (split_ne (by simp)) ne (fun p hp => split_free hp) fr (split_join _ _)
theorem part_sum (t a : List Nat) : (partL t a).1 ++ (partL t a).2.1 ++ (partL t a).2.2 = t := by
  have e := congrArg cps (StrLaws.partition_sum (sOf t) (sOf a))
  rw [cps_append, cps_append, cps_sOf] at e
  exact e
theorem part_word (t a : List Nat) : (partL t a).2.1 = a ∨ ((partL t a).2.1 = [] ∧ (partL t a).2.2 = []) := by
  unfold partL Txt.partition
  cases Builtin.Str.occurrences (sOf t) (sOf a) 0 (sOf t).length 1 with
  | nil => exact .inr ⟨rfl, rfl⟩
  | cons i r => exact .inl (cps_sOf a)
theorem part_of {n a r : List Nat} {c : Nat} (ha : a.head? = some c) (hn : c ∉ n) : partL (n ++ a ++ r) a = (n, a, r) := by
  have hlen : ∀ l : List Nat, (sOf l).length = l.length := fun l => by show l.toArray.size = l.length; simp
  have hat : StrLaws.At (sOf (n ++ a ++ r)) (sOf a) (sOf (n ++ a ++ r)).length n.length := by
    refine ⟨?_, ?_⟩
    · rw [hlen, hlen]; simp
    · rw [StrLaws.subAt_eq]
      have e1 : (sOf (n ++ a ++ r)).cps.toList = n ++ (a ++ r) := by simp [sOf]
      have e2 : (sOf a).cps.toList = a := by simp [sOf]
      rw [e1, e2, hlen, List.drop_left, List.take_left]
      exact beq_self_eq_true _
  rcases StrLaws.occ_head_from (sOf (n ++ a ++ r)) (sOf a) 0 1 (Nat.le_refl _) with ⟨_, h⟩ | ⟨i, rest, e, _, hi, hk⟩
  · exact absurd hat (h _ (Nat.zero_le _))
  · have hle : ¬ n.length < i := fun z => hk _ (Nat.zero_le _) z hat
    have hge : ¬ i < n.length := by
      intro z
      have q := hi.2
      rw [StrLaws.subAt_eq] at q
      have q' := beq_iff_eq.mp q
      have h0 := congrArg List.head? q'
      have e1 : (sOf a).cps.toList.head? = some c := by simpa [sOf] using ha
      rw [e1] at h0
      have la : 0 < (sOf a).length := by
        rw [hlen]
        cases a with
        | nil => cases ha
        | cons _ _ => exact Nat.succ_pos _
      have e2 : ((sOf (n ++ a ++ r)).cps.toList.drop i).head? = some c := by
        cases ed : (sOf (n ++ a ++ r)).cps.toList.drop i with
        | nil => rw [ed] at h0; simp at h0
        | cons b t =>
          rw [ed] at h0
          obtain ⟨m, hm⟩ : ∃ m, (sOf a).length = m + 1 := ⟨(sOf a).length - 1, by omega⟩
          rw [hm] at h0
          exact h0
      rw [List.head?_drop] at e2
      have e3 : (sOf (n ++ a ++ r)).cps.toList[i]? = n[i]? := by
        simp [sOf, List.getElem?_append, z]
      rw [e3] at e2
      exact hn (List.mem_of_getElem? e2)
    have ei : i = n.length := by omega
    subst ei
    unfold partL Txt.partition
    rw [e]
    show (cps (Builtin.Str.strSub _ 0 n.length), cps (sOf a), cps (Builtin.Str.strSub _ (n.length + (sOf a).length) _)) = _
    have s1 : cps (Builtin.Str.strSub (sOf (n ++ a ++ r)) 0 n.length) = n := by
      show (Builtin.Str.strSub (sOf (n ++ a ++ r)) 0 n.length).cps.toList = n
      rw [StrLaws.strSub_toList]
      simp [sOf]
    have s2 : cps (Builtin.Str.strSub (sOf (n ++ a ++ r)) (n.length + (sOf a).length) (sOf (n ++ a ++ r)).length) = r := by
      show (Builtin.Str.strSub (sOf (n ++ a ++ r)) (n.length + (sOf a).length) (sOf (n ++ a ++ r)).length).cps.toList = r
      rw [StrLaws.strSub_toList, hlen, hlen]
      have e : n.length + a.length = (n ++ a).length := by simp
      rw [e]
      show List.take _ (List.drop (n ++ a).length (sOf (n ++ a ++ r)).cps.toList) = r
      have e2 : (sOf (n ++ a ++ r)).cps.toList = n ++ a ++ r := by simp [sOf]
      rw [e2, List.drop_left]
      exact List.take_of_length_le (by simp; omega)
    rw [s1, s2, cps_sOf]
/-- replace: the parts between, with another text between them -/
theorem repl_parts (t a z : List Nat) : cps (Txt.replace (sOf t) (sOf a) (sOf z)) = t ∨ ∃ ps : List (List Nat), ps ≠ [] ∧ t = joinL a ps ∧ cps (Txt.replace (sOf t) (sOf a) (sOf z)) = joinL z ps := by
  unfold Txt.replace
  split
  · exact .inl (cps_sOf t)
  · right
    have g := StrLaws.glued_between_self (sOf t) (sOf a) ((sOf t).length + 1)
    rw [StrLaws.glued_eq_join] at g ⊢
    have g2 := congrArg cps g
    rw [cps_join, cps_sOf, cps_sOf] at g2
    refine ⟨_, ?_, g2.symm, ?_⟩
    · unfold Builtin.Str.partsBetween
      intro e
      have := congrArg List.length e
      simp at this
    · rw [cps_join, cps_sOf]
end PI

set_option maxRecDepth 100000
set_option maxHeartbeats 4000000
/-! tables and trees of struckbodies_k00_strike_items, printed by gen.py -/
namespace K00
open PySem PySem.Spec PyProof.Rows L2 PI
/-- is_name: text, char -/
def b0 : CSs := (.cons (.ife (.or_ (.cons (.cmp .eq (.var 0) (.str [])) (.cons (.cmp .gt (.bi .len (.cons (.var 0) .nil)) (.glo 2)) (.cons (.cmp .notin (.idx (.var 0) (.int 0)) (.glo 0)) .nil)))) (.cons (.ret (.bl false)) .nil) .nil) (.cons (.for_ (.nm 1) (.val (.var 0)) (.cons (.ife (.and_ (.cons (.cmp .notin (.var 1) (.glo 0)) (.cons (.cmp .notin (.var 1) (.glo 1)) .nil))) (.cons (.ret (.bl false)) .nil) .nil) .nil)) (.cons (.ret (.bl true)) .nil)))
/-- check_name: name -/
def b1 : CSs := (.cons (.ife (.not_ (.call 0 (.cons (.var 0) .nil))) (.cons (.rai 1 (.cons (.var 0) .nil)) .nil) .nil) (.cons (.ret (.var 0)) .nil))
/-- Strike.__init__: self, name, shield, found, one -/
def b2 : CSs := (.cons (.setF (.var 0) 0 (.call 1 (.cons (.var 1) .nil))) (.cons (.set 3 (.lst .nil)) (.cons (.for_ (.nm 4) (.val (.var 2)) (.cons (.exp (.call 1 (.cons (.var 4) .nil))) (.cons (.ife (.cmp .notin (.var 4) (.var 3)) (.cons (.exp (.bm .append (.var 3) (.cons (.var 4) .nil))) .nil) .nil) .nil))) (.cons (.setF (.var 0) 1 (.bi .tuple (.cons (.bi .sorted (.cons (.var 3) .nil)) .nil))) .nil))))
/-- Strike.__eq__: self, other -/
def b3 : CSs := (.cons (.ret (.and_ (.cons (.bi .isi (.cons (.var 1) (.cons (.cln 3) .nil))) (.cons (.cmp .eq (.att (.var 0) 0) (.att (.var 1) 0)) (.cons (.cmp .eq (.att (.var 0) 1) (.att (.var 1) 1)) .nil))))) .nil)
/-- Strike.blow: self -/
def b4 : CSs := (.cons (.ret (.tup (.cons (.str [114, 97, 105, 115, 101]) (.cons (.att (.var 0) 0) .nil)))) .nil)
/-- Strike.hits: self, question -/
def b5 : CSs := (.cons (.ret (.cmp .notin (.idx (.var 1) (.int 1)) (.att (.var 0) 1))) .nil)
/-- Strike.shielded: self, names -/
def b6 : CSs := (.cons (.ret (.new 3 (.cons (.att (.var 0) 0) (.star (.att (.var 0) 1) (.star (.var 1) .nil))))) .nil)
/-- Strike.text: self, names -/
def b7 : CSs := (.cons (.ife (.cmp .eq (.bi .len (.cons (.att (.var 0) 1) .nil)) (.int 0)) (.cons (.ret (.att (.var 0) 0)) .nil) .nil) (.cons (.set 1 (.bm .join (.str [32]) (.cons (.att (.var 0) 1) .nil))) (.cons (.ret (.jst (.cons (.fmt (.att (.var 0) 0)) (.cons (.str [32, 112, 97, 115, 116, 32]) (.cons (.fmt (.var 1)) .nil))))) .nil)))
/-- Strike.read: cls, text, name, word, rest, names, one, found -/
def b8 : CSs := (.cons (.asg (.tup (.cons (.nm 2) (.cons (.nm 3) (.cons (.nm 4) .nil)))) (.bm .partition (.var 1) (.cons (.str [32, 112, 97, 115, 116, 32]) .nil))) (.cons (.set 5 (.ife (.cmp .ne (.var 3) (.str [])) (.bm .split (.var 4) (.cons (.str [32]) .nil)) (.lst .nil))) (.cons (.for_ (.nm 6) (.val (.lst (.cons (.var 2) (.star (.var 5) .nil)))) (.cons (.ife (.not_ (.call 0 (.cons (.var 6) .nil))) (.cons (.rai 2 (.cons (.int 1) .nil)) .nil) .nil) .nil)) (.cons (.set 7 (.newV 0 (.cons (.var 2) (.star (.var 5) .nil)))) (.cons (.ife (.cmp .ne (.bi .list (.cons (.att (.var 7) 1) .nil)) (.var 5)) (.cons (.rai 2 (.cons (.int 1) .nil)) .nil) .nil) (.cons (.ret (.var 7)) .nil))))))
/-- _law_pool: script -/
def b9 : CSs := (.cons (.ret (.lst (.cons (.bi .list (.cons (.var 0) .nil)) (.cons (.int 0) (.cons (.int 0) (.cons (.int 0) (.cons (.int 0) .nil))))))) .nil)
/-- _law_mixed: cell, turn, limit, first, second, third -/
def b10 : CSs := (.cons (.set 3 (.bin .mod (.bi .int (.cons (.bin .add (.bin .add (.bin .mul (.var 0) (.int 48271)) (.bin .mul (.var 1) (.int 69621))) (.int 11)) .nil)) (.int 2147483647))) (.cons (.set 4 (.bin .mod (.bi .int (.cons (.bin .add (.bin .add (.bin .mul (.var 3) (.int 40692)) (.bin .mul (.var 0) (.int 16807))) (.bin .mul (.var 1) (.int 30269))) .nil)) (.int 2147483399))) (.cons (.set 5 (.bin .mod (.bi .int (.cons (.bin .add (.bin .mul (.var 4) (.int 39373)) (.bin .fdiv (.var 3) (.int 7))) .nil)) (.int 1000000007))) (.cons (.ret (.bin .mod (.bi .int (.cons (.var 5) .nil)) (.var 2))) .nil))))
/-- _law_draw: pool, limit, digit, cell -/
def b11 : CSs := (.cons (.ife (.cmp .gt (.idx (.var 0) (.int 2)) (.int 0)) (.cons (.set 2 (.bin .mod (.bi .int (.cons (.idx (.var 0) (.int 2)) .nil)) (.var 1))) (.cons (.setI (.var 0) (.int 2) (.bin .fdiv (.idx (.var 0) (.int 2)) (.var 1))) (.cons (.ret (.var 2)) .nil))) .nil) (.cons (.ife (.cmp .gt (.idx (.var 0) (.int 4)) (.int 0)) (.cons (.setI (.var 0) (.int 4) (.bin .sub (.idx (.var 0) (.int 4)) (.int 1))) (.cons (.ret (.call 10 (.cons (.idx (.var 0) (.int 3)) (.cons (.idx (.var 0) (.int 4)) (.cons (.var 1) .nil))))) .nil)) .nil) (.cons (.ife (.cmp .ge (.idx (.var 0) (.int 1)) (.bi .len (.cons (.idx (.var 0) (.int 0)) .nil))) (.cons (.ret (.int 0)) .nil) .nil) (.cons (.set 3 (.idx (.idx (.var 0) (.int 0)) (.idx (.var 0) (.int 1)))) (.cons (.setI (.var 0) (.int 1) (.bin .add (.idx (.var 0) (.int 1)) (.int 1))) (.cons (.ife (.cmp .lt (.var 3) (.int 0)) (.cons (.set 3 (.bin .sub (.neg (.int 1)) (.var 3))) .nil) .nil) (.cons (.ife (.cmp .ge (.var 3) (.bin .pow (.int 10) (.int 18))) (.cons (.setI (.var 0) (.int 2) (.bin .fdiv (.var 3) (.var 1))) (.cons (.ret (.bin .mod (.bi .int (.cons (.var 3) .nil)) (.var 1))) .nil)) .nil) (.cons (.setI (.var 0) (.int 3) (.var 3)) (.cons (.setI (.var 0) (.int 4) (.int 7)) (.cons (.ret (.call 10 (.cons (.var 3) (.cons (.int 7) (.cons (.var 1) .nil))))) .nil))))))))))
/-- _law_name: pool, signs, name, k -/
def b12 : CSs := (.cons (.set 1 (.str [97, 98, 99, 100, 101, 102, 103, 104, 105, 106, 107, 108, 109, 110, 111, 112, 113, 114, 115, 116, 117, 118, 119, 120, 121, 122, 48, 49, 50, 51, 52, 53, 54, 55, 56, 57])) (.cons (.set 2 (.idx (.var 1) (.call 11 (.cons (.var 0) (.cons (.int 26) .nil))))) (.cons (.for_ (.nm 3) (.rng1 (.call 11 (.cons (.var 0) (.cons (.idx (.lst (.cons (.int 1) (.cons (.int 3) (.cons (.int 12) .nil)))) (.call 11 (.cons (.var 0) (.cons (.int 3) .nil)))) .nil)))) (.cons (.set 2 (.bin .add (.var 2) (.idx (.var 1) (.call 11 (.cons (.var 0) (.cons (.int 36) .nil)))))) .nil)) (.cons (.ret (.var 2)) .nil))))
/-- _law_once: names, found, name -/
def b13 : CSs := (.cons (.set 1 (.lst .nil)) (.cons (.for_ (.nm 2) (.val (.var 0)) (.cons (.ife (.cmp .notin (.var 2) (.var 1)) (.cons (.exp (.bm .append (.var 1) (.cons (.var 2) .nil))) .nil) .nil) .nil)) (.cons (.ret (.call 14 (.cons (.var 1) .nil))) .nil)))
/-- _law_sorted: rows, done, row, at -/
def b14 : CSs := (.cons (.set 1 (.lst .nil)) (.cons (.for_ (.nm 2) (.val (.var 0)) (.cons (.set 3 (.int 0)) (.cons (.whl (.and_ (.cons (.cmp .lt (.var 3) (.bi .len (.cons (.var 1) .nil))) (.cons (.cmp .lt (.idx (.var 1) (.var 3)) (.var 2)) .nil))) (.cons (.set 3 (.bin .add (.var 3) (.int 1))) .nil)) (.cons (.exp (.bm .insert (.var 1) (.cons (.var 3) (.cons (.var 2) .nil)))) .nil)))) (.cons (.ret (.var 1)) .nil)))
/-- _law_same: actual, expected, k -/
def b15 : CSs := (.cons (.ife (.cmp .is (.var 1) .non) (.cons (.ret (.cmp .is (.var 0) .non)) .nil) .nil) (.cons (.ife (.bi .isi (.cons (.var 1) (.cons (.tyn .bool) .nil))) (.cons (.ret (.and_ (.cons (.bi .isi (.cons (.var 0) (.cons (.tyn .bool) .nil))) (.cons (.cmp .eq (.var 0) (.var 1)) .nil)))) .nil) .nil) (.cons (.ife (.bi .isi (.cons (.var 1) (.cons (.tyn .int) .nil))) (.cons (.ret (.and_ (.cons (.bi .isi (.cons (.var 0) (.cons (.tyn .int) .nil))) (.cons (.not_ (.bi .isi (.cons (.var 0) (.cons (.tyn .bool) .nil)))) (.cons (.cmp .eq (.var 0) (.var 1)) .nil))))) .nil) .nil) (.cons (.ife (.bi .isi (.cons (.var 1) (.cons (.tyn .str) .nil))) (.cons (.ret (.and_ (.cons (.bi .isi (.cons (.var 0) (.cons (.tyn .str) .nil))) (.cons (.cmp .eq (.var 0) (.var 1)) .nil)))) .nil) .nil) (.cons (.ife (.and_ (.cons (.bi .isi (.cons (.var 1) (.cons (.tyn .tuple) .nil))) (.cons (.not_ (.bi .isi (.cons (.var 0) (.cons (.tyn .tuple) .nil)))) .nil))) (.cons (.ret (.bl false)) .nil) .nil) (.cons (.ife (.and_ (.cons (.bi .isi (.cons (.var 1) (.cons (.tyn .list) .nil))) (.cons (.not_ (.bi .isi (.cons (.var 0) (.cons (.tyn .list) .nil)))) .nil))) (.cons (.ret (.bl false)) .nil) .nil) (.cons (.ife (.cmp .ne (.bi .len (.cons (.var 0) .nil)) (.bi .len (.cons (.var 1) .nil))) (.cons (.ret (.bl false)) .nil) .nil) (.cons (.for_ (.nm 2) (.rng1 (.bi .len (.cons (.var 1) .nil))) (.cons (.ife (.not_ (.call 15 (.cons (.idx (.var 0) (.var 2)) (.cons (.idx (.var 1) (.var 2)) .nil)))) (.cons (.ret (.bl false)) .nil) .nil) .nil)) (.cons (.ret (.bl true)) .nil)))))))))
/-- _law_is_name: text, signs, sign -/
def b16 : CSs := (.cons (.set 1 (.str [97, 98, 99, 100, 101, 102, 103, 104, 105, 106, 107, 108, 109, 110, 111, 112, 113, 114, 115, 116, 117, 118, 119, 120, 121, 122])) (.cons (.ife (.or_ (.cons (.cmp .lt (.bi .len (.cons (.var 0) .nil)) (.int 1)) (.cons (.cmp .gt (.bi .len (.cons (.var 0) .nil)) (.int 12)) (.cons (.cmp .notin (.idx (.var 0) (.int 0)) (.var 1)) .nil)))) (.cons (.ret (.bl false)) .nil) .nil) (.cons (.ret (.cmp .eq (.bi .len (.cons (.lc [("sign", 2)] (.nm 2) (.val (.var 0)) (.some (.cmp .notin (.var 2) (.bin .add (.var 1) (.str [48, 49, 50, 51, 52, 53, 54, 55, 56, 57])))) (.var 2)) .nil)) (.int 0))) .nil)))
/-- _law_word: pool, name, choice, one -/
def b17 : CSs := (.cons (.set 2 (.call 11 (.cons (.var 0) (.cons (.int 12) .nil)))) (.cons (.set 3 (.call 12 (.cons (.var 0) .nil))) (.cons (.ife (.cmp .eq (.var 2) (.int 7)) (.cons (.ret (.bin .add (.bin .add (.slc (.var 3) .none (.some (.int 5))) (.idx (.lst (.cons (.str [65]) (.cons (.str [95]) (.cons (.str [32]) (.cons (.str [45]) (.cons (.str [46]) .nil)))))) (.call 11 (.cons (.var 0) (.cons (.int 5) .nil))))) (.slc (.var 3) (.some (.int 5)) (.some (.int 11))))) .nil) .nil) (.cons (.ife (.cmp .eq (.var 2) (.int 8)) (.cons (.ret (.bin .add (.bi .str (.cons (.call 11 (.cons (.var 0) (.cons (.int 10) .nil))) .nil)) (.slc (.var 3) .none (.some (.int 11))))) .nil) .nil) (.cons (.ife (.cmp .eq (.var 2) (.int 9)) (.cons (.ret (.idx (.lst (.cons (.str []) (.cons (.bin .add (.var 3) (.str [97, 98, 99, 100, 101, 102, 103, 104, 105, 106, 107, 108])) (.cons (.bin .add (.str [32]) (.var 3)) .nil)))) (.call 11 (.cons (.var 0) (.cons (.int 3) .nil))))) .nil) .nil) (.cons (.ife (.cmp .eq (.var 2) (.int 10)) (.cons (.ret (.str [112, 97, 115, 116])) .nil) .nil) (.cons (.ife (.cmp .eq (.var 2) (.int 11)) (.cons (.ret (.var 1)) .nil) .nil) (.cons (.ret (.var 3)) .nil))))))))
/-- _law_due: name, words, one -/
def b18 : CSs := (.cons (.for_ (.nm 2) (.val (.bin .add (.lst (.cons (.var 0) .nil)) (.var 1))) (.cons (.ife (.not_ (.call 16 (.cons (.var 2) .nil))) (.cons (.ret (.var 2)) .nil) .nil) .nil)) (.cons (.ret .non) .nil))
/-- _law_is: strike, name, words, shield, one, ask, text -/
def b19 : CSs := (.cons (.set 3 (.call 13 (.cons (.var 2) .nil))) (.cons (.ife (.or_ (.cons (.not_ (.bi .isi (.cons (.var 0) (.cons (.cln 3) .nil)))) (.cons (.not_ (.call 15 (.cons (.lst (.cons (.att (.var 0) 0) (.cons (.att (.var 0) 1) (.cons (.att (.var 0) 2) .nil)))) (.cons (.lst (.cons (.var 1) (.cons (.bi .tuple (.cons (.var 3) .nil)) (.cons (.tup (.cons (.str [114, 97, 105, 115, 101]) (.cons (.var 1) .nil))) .nil)))) .nil)))) .nil))) (.cons (.ret (.bl false)) .nil) .nil) (.cons (.for_ (.nm 4) (.val (.bin .add (.var 2) (.lst (.cons (.var 1) (.cons (.str [122, 122]) (.cons (.str [122, 48]) .nil)))))) (.cons (.for_ (.nm 5) (.val (.lst (.cons (.tup (.cons (.str [100, 111]) (.cons (.var 4) (.cons .non .nil)))) (.cons (.tup (.cons (.str [100, 111]) (.cons (.var 4) (.cons (.int 7) .nil)))) (.cons (.tup (.cons (.str [116, 101, 115, 116]) (.cons (.var 4) .nil))) (.cons (.tup (.cons (.str [119, 97, 121]) (.cons (.var 4) (.cons (.int 0) .nil)))) .nil)))))) (.cons (.ife (.not_ (.call 15 (.cons (.meth (.var 0) 3 (.cons (.var 5) .nil)) (.cons (.cmp .notin (.var 4) (.var 3)) .nil)))) (.cons (.ret (.bl false)) .nil) .nil) .nil)) .nil)) (.cons (.set 6 (.var 1)) (.cons (.ife (.cmp .gt (.bi .len (.cons (.var 3) .nil)) (.int 0)) (.cons (.set 6 (.bin .add (.bin .add (.var 1) (.str [32, 112, 97, 115, 116, 32])) (.bm .join (.str [32]) (.cons (.var 3) .nil)))) .nil) .nil) (.cons (.ret (.and_ (.cons (.call 15 (.cons (.att (.var 0) 5) (.cons (.var 6) .nil))) (.cons (.cmp .is (.cmp .eq (.meth (.cln 3) 4 (.cons (.var 6) .nil)) (.var 0)) (.bl true)) (.cons (.cmp .is (.cmp .ne (.meth (.cln 3) 4 (.cons (.var 6) .nil)) (.var 0)) (.bl false)) .nil))))) .nil))))))
/-- _law_parsed: text, name, word, rest, names -/
def b20 : CSs := (.cons (.asg (.tup (.cons (.nm 1) (.cons (.nm 2) (.cons (.nm 3) .nil)))) (.bm .partition (.var 0) (.cons (.str [32, 112, 97, 115, 116, 32]) .nil))) (.cons (.set 4 (.lst .nil)) (.cons (.ife (.cmp .ne (.var 2) (.str [])) (.cons (.set 4 (.bm .split (.var 3) (.cons (.str [32]) .nil))) .nil) .nil) (.cons (.ife (.or_ (.cons (.cmp .isnot (.call 18 (.cons (.var 1) (.cons (.var 4) .nil))) .non) (.cons (.cmp .ne (.call 13 (.cons (.var 4) .nil)) (.var 4)) .nil))) (.cons (.ret .non) .nil) .nil) (.cons (.ret (.lst (.cons (.var 1) (.cons (.var 4) .nil)))) .nil)))))
/-- _law_reads: text, due, strike, e -/
def b21 : CSs := (.cons (.set 1 (.call 20 (.cons (.var 0) .nil))) (.cons (.tri (.cons (.set 2 (.meth (.cln 3) 4 (.cons (.var 0) .nil))) .nil) 0 3 (.cons (.ret (.and_ (.cons (.cmp .is (.var 1) .non) (.cons (.exI 2) (.cons (.not_ (.exI 1)) (.cons (.call 15 (.cons (.exF 6) (.cons (.int 1) .nil))) .nil)))))) .nil)) (.cons (.ret (.and_ (.cons (.cmp .isnot (.var 1) .non) (.cons (.call 19 (.cons (.var 2) (.cons (.idx (.var 1) (.int 0)) (.cons (.idx (.var 1) (.int 1)) .nil)))) .nil)))) .nil)))
/-- _law_bent: pool, name, words, choice, text -/
def b22 : CSs := (.cons (.set 3 (.call 11 (.cons (.var 0) (.cons (.int 8) .nil)))) (.cons (.set 4 (.bin .add (.bin .add (.var 1) (.str [32, 112, 97, 115, 116, 32])) (.bm .join (.str [32]) (.cons (.call 13 (.cons (.var 2) .nil)) .nil)))) (.cons (.ife (.cmp .eq (.var 3) (.int 0)) (.cons (.ret (.bin .add (.bin .add (.var 1) (.str [32, 112, 97, 115, 116, 32])) (.bm .join (.str [32]) (.cons (.var 2) .nil)))) .nil) .nil) (.cons (.ife (.cmp .eq (.var 3) (.int 1)) (.cons (.ret (.bin .add (.var 4) (.str [32]))) .nil) .nil) (.cons (.ife (.cmp .eq (.var 3) (.int 2)) (.cons (.ret (.bin .add (.var 1) (.str [32, 112, 97, 115, 116, 32]))) .nil) .nil) (.cons (.rpl 3 3 4 [32, 112, 97, 115, 116, 32] [[32, 112, 97, 115, 116, 32, 32], [32, 32, 112, 97, 115, 116, 32], [32, 80, 97, 115, 116, 32], [32]] (.call 11 (.cons (.var 0) (.cons (.int 4) .nil)))) (.cons (.ife (.cmp .eq (.var 3) (.int 4)) (.cons (.ret (.bin .add (.bin .add (.bin .add (.bin .add (.var 1) (.str [32, 112, 97, 115, 116, 32])) (.idx (.var 2) (.int 0))) (.str [32])) (.idx (.var 2) (.int 0)))) .nil) .nil) (.cons (.ife (.cmp .eq (.var 3) (.int 5)) (.cons (.ret (.bin .add (.str [32]) (.var 4))) .nil) .nil) (.cons (.ife (.cmp .eq (.var 3) (.int 6)) (.cons (.ret (.bin .add (.var 4) (.str [10]))) .nil) .nil) (.cons (.ret (.var 4)) .nil))))))))))
/-- _law_makes: name, words, due, strike, e -/
def b23 : CSs := (.cons (.set 2 (.call 18 (.cons (.var 0) (.cons (.var 1) .nil)))) (.cons (.tri (.cons (.set 3 (.new 3 (.cons (.var 0) (.cons (.idx (.var 1) (.int 0)) (.cons (.idx (.var 1) (.int 1)) (.cons (.idx (.var 1) (.int 2)) .nil)))))) .nil) 0 4 (.cons (.ret (.and_ (.cons (.cmp .isnot (.var 2) .non) (.cons (.exI 1) (.cons (.call 15 (.cons (.exF 0) (.cons (.var 2) .nil))) .nil))))) .nil)) (.cons (.ret (.and_ (.cons (.cmp .is (.var 2) .non) (.cons (.call 19 (.cons (.var 3) (.cons (.var 0) (.cons (.var 1) .nil)))) .nil)))) .nil)))
/-- _law_widens: name, words, more, due, strike, wide, e, other -/
def b24 : CSs := (.cons (.set 3 (.call 18 (.cons (.var 0) (.cons (.var 2) .nil)))) (.cons (.set 4 (.new 3 (.cons (.var 0) (.cons (.idx (.var 1) (.int 0)) .nil)))) (.cons (.tri (.cons (.set 5 (.meth (.var 4) 7 (.cons (.idx (.var 2) (.int 0)) (.cons (.idx (.var 2) (.int 1)) .nil)))) .nil) 0 6 (.cons (.ret (.and_ (.cons (.cmp .isnot (.var 3) .non) (.cons (.exI 1) (.cons (.call 15 (.cons (.exF 0) (.cons (.var 3) .nil))) (.cons (.call 19 (.cons (.var 4) (.cons (.var 0) (.cons (.slc (.var 1) .none (.some (.int 1))) .nil)))) .nil)))))) .nil)) (.cons (.set 7 (.call 15 (.cons (.cmp .eq (.var 4) (.var 5)) (.cons (.cmp .eq (.call 13 (.cons (.slc (.var 1) .none (.some (.int 1))) .nil)) (.call 13 (.cons (.bin .add (.slc (.var 1) .none (.some (.int 1))) (.var 2)) .nil))) .nil)))) (.cons (.ret (.and_ (.cons (.cmp .is (.var 3) .non) (.cons (.var 7) (.cons (.call 19 (.cons (.var 5) (.cons (.var 0) (.cons (.bin .add (.slc (.var 1) .none (.some (.int 1))) (.var 2)) .nil)))) (.cons (.call 19 (.cons (.var 4) (.cons (.var 0) (.cons (.slc (.var 1) .none (.some (.int 1))) .nil)))) .nil)))))) .nil)))))
/-- law: script, pool, name, words, k, good, other, wide, one -/
def b25 : CSs := (.cons (.set 1 (.call 9 (.cons (.var 0) .nil))) (.cons (.set 2 (.call 12 (.cons (.var 1) .nil))) (.cons (.setL 3 [("k", 4)] (.nm 4) (.rng1 (.int 3)) .none (.call 17 (.cons (.var 1) (.cons (.var 2) .nil)))) (.cons (.setL 5 [("k", 4)] (.nm 4) (.rng1 (.int 3)) .none (.call 12 (.cons (.var 1) .nil))) (.cons (.set 6 (.call 12 (.cons (.var 1) .nil))) (.cons (.ife (.or_ (.cons (.not_ (.call 23 (.cons (.var 2) (.cons (.var 3) .nil)))) (.cons (.not_ (.call 23 (.cons (.var 2) (.cons (.var 5) .nil)))) (.cons (.not_ (.call 23 (.cons (.idx (.var 3) (.int 0)) (.cons (.var 5) .nil)))) .nil)))) (.cons (.ret (.bl false)) .nil) .nil) (.cons (.ife (.or_ (.cons (.not_ (.call 24 (.cons (.var 2) (.cons (.var 5) (.cons (.slc (.var 3) .none (.some (.int 2))) .nil))))) (.cons (.not_ (.call 24 (.cons (.var 2) (.cons (.var 5) (.cons (.lst (.cons (.idx (.var 5) (.int 1)) (.cons (.idx (.var 5) (.int 0)) .nil))) .nil))))) .nil))) (.cons (.ret (.bl false)) .nil) .nil) (.cons (.ife (.or_ (.cons (.not_ (.call 15 (.cons (.cmp .eq (.new 3 (.cons (.var 2) (.cons (.idx (.var 5) (.int 0)) .nil))) (.new 3 (.cons (.var 6) (.cons (.idx (.var 5) (.int 0)) .nil)))) (.cons (.cmp .eq (.var 2) (.var 6)) .nil)))) (.cons (.not_ (.call 19 (.cons (.new 3 (.cons (.var 2) .nil)) (.cons (.var 2) (.cons (.lst .nil) .nil))))) .nil))) (.cons (.ret (.bl false)) .nil) .nil) (.cons (.set 7 (.new 3 (.cons (.var 2) .nil))) (.cons (.for_ (.nm 8) (.val (.var 5)) (.cons (.set 7 (.meth (.meth (.var 7) 7 (.cons (.var 8) .nil)) 7 .nil)) .nil)) (.cons (.ife (.not_ (.call 19 (.cons (.var 7) (.cons (.var 2) (.cons (.var 5) .nil))))) (.cons (.ret (.bl false)) .nil) .nil) (.cons (.ret (.and_ (.cons (.call 21 (.cons (.call 22 (.cons (.var 1) (.cons (.var 2) (.cons (.var 3) .nil)))) .nil)) (.cons (.call 21 (.cons (.call 22 (.cons (.var 1) (.cons (.var 2) (.cons (.var 5) .nil)))) .nil)) (.cons (.call 21 (.cons (.idx (.var 3) (.int 0)) .nil)) .nil))))) .nil))))))))))))
def code : List Fd := [⟨2, .all 1, b0⟩, ⟨1, .all 1, b1⟩, ⟨5, .star 2, b2⟩, ⟨2, .all 2, b3⟩, ⟨1, .all 1, b4⟩, ⟨2, .all 2, b5⟩, ⟨2, .star 1, b6⟩, ⟨2, .all 1, b7⟩, ⟨8, .all 2, b8⟩, ⟨1, .all 1, b9⟩, ⟨6, .all 3, b10⟩, ⟨4, .all 2, b11⟩, ⟨4, .all 1, b12⟩, ⟨3, .all 1, b13⟩, ⟨4, .all 1, b14⟩, ⟨3, .all 2, b15⟩, ⟨3, .all 1, b16⟩, ⟨4, .all 2, b17⟩, ⟨3, .all 2, b18⟩, ⟨7, .all 3, b19⟩, ⟨5, .all 1, b20⟩, ⟨4, .all 1, b21⟩, ⟨5, .all 3, b22⟩, ⟨5, .all 2, b23⟩, ⟨8, .all 3, b24⟩, ⟨9, .all 1, b25⟩]
def T : Tb where
  nms := ["name", "shield", "blow", "hits", "read", "text", "line", "shielded"]
  gfn := [("is_name", 0), ("check_name", 1), ("_law_pool", 9), ("_law_mixed", 10), ("_law_draw", 11), ("_law_name", 12), ("_law_once", 13), ("_law_sorted", 14), ("_law_same", 15), ("_law_is_name", 16), ("_law_word", 17), ("_law_due", 18), ("_law_is", 19), ("_law_parsed", 20), ("_law_reads", 21), ("_law_bent", 22), ("_law_makes", 23), ("_law_widens", 24), ("law", 25)]
  gcl := [("DeedError", 0), ("BadName", 1), ("BadLine", 2), ("Strike", 3)]
  gco := [("LETTERS", (.str [97, 98, 99, 100, 101, 102, 103, 104, 105, 106, 107, 108, 109, 110, 111, 112, 113, 114, 115, 116, 117, 118, 119, 120, 121, 122])), ("DIGITS", (.str [48, 49, 50, 51, 52, 53, 54, 55, 56, 57])), ("LONGEST", (.int 12))]
  bts := ["bool", "int", "isinstance", "len", "list", "range", "sorted", "str", "tuple"]
  cini := [(3, 2)]
  flds := [(3, 0), (3, 1)]
  meths := [((3, 3), 5), ((3, 7), 6)]
  cmets := [((3, 4), 8)]
  props := [((3, 2), 4), ((3, 5), 7)]
  ccons := []
  owneq := [(3, 3)]
  xcls := [(1, (1, [(0, 0)])), (2, (1, [(6, 0)]))]
  xsub := [((1, 0), true), ((2, 0), true)]
  xfld := [(1, 0), (2, 6)]
  xisi := [((1, 2), false), ((1, 1), true), ((2, 2), true), ((2, 1), false)]
  ist := [((.non, .own 3), false), ((.bl, .own 3), false), ((.int, .own 3), false), ((.str, .own 3), false), ((.tup, .own 3), false), ((.lst, .own 3), false), ((.dic, .own 3), false), ((.ins 3, .own 3), true), ((.non, .bt "bool"), false), ((.bl, .bt "bool"), true), ((.int, .bt "bool"), false), ((.str, .bt "bool"), false), ((.tup, .bt "bool"), false), ((.lst, .bt "bool"), false), ((.dic, .bt "bool"), false), ((.ins 3, .bt "bool"), false), ((.non, .bt "int"), false), ((.bl, .bt "int"), true), ((.int, .bt "int"), true), ((.str, .bt "int"), false), ((.tup, .bt "int"), false), ((.lst, .bt "int"), false), ((.dic, .bt "int"), false), ((.ins 3, .bt "int"), false), ((.non, .bt "list"), false), ((.bl, .bt "list"), false), ((.int, .bt "list"), false), ((.str, .bt "list"), false), ((.tup, .bt "list"), false), ((.lst, .bt "list"), true), ((.dic, .bt "list"), false), ((.ins 3, .bt "list"), false), ((.non, .bt "str"), false), ((.bl, .bt "str"), false), ((.int, .bt "str"), false), ((.str, .bt "str"), true), ((.tup, .bt "str"), false), ((.lst, .bt "str"), false), ((.dic, .bt "str"), false), ((.ins 3, .bt "str"), false), ((.non, .bt "tuple"), false), ((.bl, .bt "tuple"), false), ((.int, .bt "tuple"), false), ((.str, .bt "tuple"), false), ((.tup, .bt "tuple"), true), ((.lst, .bt "tuple"), false), ((.dic, .bt "tuple"), false), ((.ins 3, .bt "tuple"), false)]
  iins := [3]
abbrev run (lp : LpT) (scr : List Int) (k : Nat) := phi T lp scr (fun i => code[i]?) k false 25 [.scr] []
end K00
namespace K00
open PySem PySem.Spec PyProof.Rows L2 PI
def top (i : Nat) : Stmt := PySem.Challenge.pw_struckbodies_k00_strike_items.main.body.getD i (.Pass ⟨0, 0, 0, 0⟩)
abbrev s0 : Stmt := top 8
abbrev s1 : Stmt := top 9
abbrev s2 : Stmt := inClass (top 11) 1
abbrev s3 : Stmt := inClass (top 11) 2
abbrev s4 : Stmt := inClass (top 11) 3
abbrev s5 : Stmt := inClass (top 11) 4
abbrev s6 : Stmt := inClass (top 11) 5
abbrev s7 : Stmt := inClass (top 11) 6
abbrev s8 : Stmt := inClass (top 11) 7
abbrev s9 : Stmt := top 13
abbrev s10 : Stmt := top 14
abbrev s11 : Stmt := top 15
abbrev s12 : Stmt := top 16
abbrev s13 : Stmt := top 17
abbrev s14 : Stmt := top 18
abbrev s15 : Stmt := top 19
abbrev s16 : Stmt := top 20
abbrev s17 : Stmt := top 21
abbrev s18 : Stmt := top 22
abbrev s19 : Stmt := top 23
abbrev s20 : Stmt := top 24
abbrev s21 : Stmt := top 25
abbrev s22 : Stmt := top 26
abbrev s23 : Stmt := top 27
abbrev s24 : Stmt := top 28
abbrev s25 : Stmt := top 29
abbrev sx1 : Stmt := inClass (top 2) 0
abbrev sx2 : Stmt := inClass (top 3) 0
theorem c0 : (scopeC ["text", "char"] ["text"] (defScope s0) && mtSs T ["text", "char"] (defScope s0) none b0 (defBody s0)) = true := by decide +kernel
theorem c1 : (scopeC ["name"] ["name"] (defScope s1) && mtSs T ["name"] (defScope s1) none b1 (defBody s1)) = true := by decide +kernel
theorem c2 : (scopeC ["self", "name", "shield", "found", "one"] ["self", "name", "shield"] (defScope s2) && mtSs T ["self", "name", "shield", "found", "one"] (defScope s2) none b2 (defBody s2)) = true := by decide +kernel
theorem c3 : (scopeC ["self", "other"] ["self", "other"] (defScope s3) && mtSs T ["self", "other"] (defScope s3) none b3 (defBody s3)) = true := by decide +kernel
theorem c4 : (scopeC ["self"] ["self"] (defScope s4) && mtSs T ["self"] (defScope s4) none b4 (defBody s4)) = true := by decide +kernel
theorem c5 : (scopeC ["self", "question"] ["self", "question"] (defScope s5) && mtSs T ["self", "question"] (defScope s5) none b5 (defBody s5)) = true := by decide +kernel
theorem c6 : (scopeC ["self", "names"] ["self", "names"] (defScope s6) && mtSs T ["self", "names"] (defScope s6) none b6 (defBody s6)) = true := by decide +kernel
theorem c7 : (scopeC ["self", "names"] ["self"] (defScope s7) && mtSs T ["self", "names"] (defScope s7) none b7 (defBody s7)) = true := by decide +kernel
theorem c8 : (scopeC ["cls", "text", "name", "word", "rest", "names", "one", "found"] ["cls", "text"] (defScope s8) && mtSs T ["cls", "text", "name", "word", "rest", "names", "one", "found"] (defScope s8) none b8 (defBody s8)) = true := by decide +kernel
theorem c9 : (scopeC ["script"] ["script"] (defScope s9) && mtSs T ["script"] (defScope s9) none b9 (defBody s9)) = true := by decide +kernel
theorem c10 : (scopeC ["cell", "turn", "limit", "first", "second", "third"] ["cell", "turn", "limit"] (defScope s10) && mtSs T ["cell", "turn", "limit", "first", "second", "third"] (defScope s10) none b10 (defBody s10)) = true := by decide +kernel
theorem c11 : (scopeC ["pool", "limit", "digit", "cell"] ["pool", "limit"] (defScope s11) && mtSs T ["pool", "limit", "digit", "cell"] (defScope s11) none b11 (defBody s11)) = true := by decide +kernel
theorem c12 : (scopeC ["pool", "signs", "name", "k"] ["pool"] (defScope s12) && mtSs T ["pool", "signs", "name", "k"] (defScope s12) none b12 (defBody s12)) = true := by decide +kernel
theorem c13 : (scopeC ["names", "found", "name"] ["names"] (defScope s13) && mtSs T ["names", "found", "name"] (defScope s13) none b13 (defBody s13)) = true := by decide +kernel
theorem c14 : (scopeC ["rows", "done", "row", "at"] ["rows"] (defScope s14) && mtSs T ["rows", "done", "row", "at"] (defScope s14) none b14 (defBody s14)) = true := by decide +kernel
theorem c15 : (scopeC ["actual", "expected", "k"] ["actual", "expected"] (defScope s15) && mtSs T ["actual", "expected", "k"] (defScope s15) none b15 (defBody s15)) = true := by decide +kernel
theorem c16 : (scopeC ["text", "signs", "sign"] ["text"] (defScope s16) && mtSs T ["text", "signs", "sign"] (defScope s16) none b16 (defBody s16)) = true := by decide +kernel
theorem c17 : (scopeC ["pool", "name", "choice", "one"] ["pool", "name"] (defScope s17) && mtSs T ["pool", "name", "choice", "one"] (defScope s17) none b17 (defBody s17)) = true := by decide +kernel
theorem c18 : (scopeC ["name", "words", "one"] ["name", "words"] (defScope s18) && mtSs T ["name", "words", "one"] (defScope s18) none b18 (defBody s18)) = true := by decide +kernel
theorem c19 : (scopeC ["strike", "name", "words", "shield", "one", "ask", "text"] ["strike", "name", "words"] (defScope s19) && mtSs T ["strike", "name", "words", "shield", "one", "ask", "text"] (defScope s19) none b19 (defBody s19)) = true := by decide +kernel
theorem c20 : (scopeC ["text", "name", "word", "rest", "names"] ["text"] (defScope s20) && mtSs T ["text", "name", "word", "rest", "names"] (defScope s20) none b20 (defBody s20)) = true := by decide +kernel
theorem c21 : (scopeC ["text", "due", "strike", "e"] ["text"] (defScope s21) && mtSs T ["text", "due", "strike", "e"] (defScope s21) none b21 (defBody s21)) = true := by decide +kernel
theorem c22 : (scopeC ["pool", "name", "words", "choice", "text"] ["pool", "name", "words"] (defScope s22) && mtSs T ["pool", "name", "words", "choice", "text"] (defScope s22) none b22 (defBody s22)) = true := by decide +kernel
theorem c23 : (scopeC ["name", "words", "due", "strike", "e"] ["name", "words"] (defScope s23) && mtSs T ["name", "words", "due", "strike", "e"] (defScope s23) none b23 (defBody s23)) = true := by decide +kernel
theorem c24 : (scopeC ["name", "words", "more", "due", "strike", "wide", "e", "other"] ["name", "words", "more"] (defScope s24) && mtSs T ["name", "words", "more", "due", "strike", "wide", "e", "other"] (defScope s24) none b24 (defBody s24)) = true := by decide +kernel
theorem c25 : (scopeC ["script", "pool", "name", "words", "k", "good", "other", "wide", "one"] ["script"] (defScope s25) && mtSs T ["script", "pool", "name", "words", "k", "good", "other", "wide", "one"] (defScope s25) none b25 (defBody s25)) = true := by decide +kernel
theorem cx1 : (scopeC ["self", "name"] ["self", "name"] (defScope sx1) && xinit "DeedError" ["self", "name"] (defScope sx1) [("name", 1)] (defBody sx1)) = true := by decide +kernel
theorem cx2 : (scopeC ["self", "line"] ["self", "line"] (defScope sx2) && xinit "DeedError" ["self", "line"] (defScope sx2) [("line", 1)] (defBody sx2)) = true := by decide +kernel
theorem cn : namesC T.nms = true := by decide +kernel
set_option maxHeartbeats 0 in
theorem prg_mk {K : PySem.W.Frag} {h : Heap} {mg : Str → Option Value} {fa0 : Addr} {C0 C1 C2 C3 f0 f1 f2 f3 f4 f5 f6 f7 f8 f9 f10 f11 f12 f13 f14 f15 f16 f17 f18 f19 f20 f21 f22 f23 f24 f25 fx1 fx2 : Addr} {oc0 kV0 dc0 pm0 cd0 ct0 : Value} {od0 an0 : Option Addr} {sl0 : Array (Option Value)} {oc1 kV1 dc1 pm1 cd1 ct1 : Value} {od1 an1 : Option Addr} {sl1 : Array (Option Value)} {oc2 kV2 dc2 pm2 cd2 ct2 : Value} {od2 an2 : Option Addr} {sl2 : Array (Option Value)} {oc3 kV3 dc3 pm3 cd3 ct3 : Value} {od3 an3 : Option Addr} {sl3 : Array (Option Value)} {p4 : Addr} {r4 : List Value} {oc4 kV4 dc4 pm4 cd4 ct4 : Value} {od4 an4 : Option Addr} {sl4 : Array (Option Value)} {oc5 kV5 dc5 pm5 cd5 ct5 : Value} {od5 an5 : Option Addr} {sl5 : Array (Option Value)} {oc6 kV6 dc6 pm6 cd6 ct6 : Value} {od6 an6 : Option Addr} {sl6 : Array (Option Value)} {p7 : Addr} {r7 : List Value} {oc7 kV7 dc7 pm7 cd7 ct7 : Value} {od7 an7 : Option Addr} {sl7 : Array (Option Value)} {p8 : Addr} {r8 : List Value} {oc8 kV8 dc8 pm8 cd8 ct8 : Value} {od8 an8 : Option Addr} {sl8 : Array (Option Value)} {oc9 kV9 dc9 pm9 cd9 ct9 : Value} {od9 an9 : Option Addr} {sl9 : Array (Option Value)} {oc10 kV10 dc10 pm10 cd10 ct10 : Value} {od10 an10 : Option Addr} {sl10 : Array (Option Value)} {oc11 kV11 dc11 pm11 cd11 ct11 : Value} {od11 an11 : Option Addr} {sl11 : Array (Option Value)} {oc12 kV12 dc12 pm12 cd12 ct12 : Value} {od12 an12 : Option Addr} {sl12 : Array (Option Value)} {oc13 kV13 dc13 pm13 cd13 ct13 : Value} {od13 an13 : Option Addr} {sl13 : Array (Option Value)} {oc14 kV14 dc14 pm14 cd14 ct14 : Value} {od14 an14 : Option Addr} {sl14 : Array (Option Value)} {oc15 kV15 dc15 pm15 cd15 ct15 : Value} {od15 an15 : Option Addr} {sl15 : Array (Option Value)} {oc16 kV16 dc16 pm16 cd16 ct16 : Value} {od16 an16 : Option Addr} {sl16 : Array (Option Value)} {oc17 kV17 dc17 pm17 cd17 ct17 : Value} {od17 an17 : Option Addr} {sl17 : Array (Option Value)} {oc18 kV18 dc18 pm18 cd18 ct18 : Value} {od18 an18 : Option Addr} {sl18 : Array (Option Value)} {oc19 kV19 dc19 pm19 cd19 ct19 : Value} {od19 an19 : Option Addr} {sl19 : Array (Option Value)} {oc20 kV20 dc20 pm20 cd20 ct20 : Value} {od20 an20 : Option Addr} {sl20 : Array (Option Value)} {oc21 kV21 dc21 pm21 cd21 ct21 : Value} {od21 an21 : Option Addr} {sl21 : Array (Option Value)} {oc22 kV22 dc22 pm22 cd22 ct22 : Value} {od22 an22 : Option Addr} {sl22 : Array (Option Value)} {oc23 kV23 dc23 pm23 cd23 ct23 : Value} {od23 an23 : Option Addr} {sl23 : Array (Option Value)} {oc24 kV24 dc24 pm24 cd24 ct24 : Value} {od24 an24 : Option Addr} {sl24 : Array (Option Value)} {oc25 kV25 dc25 pm25 cd25 ct25 : Value} {od25 an25 : Option Addr} {sl25 : Array (Option Value)} {xn1 xq1 : Str} {xN1 : Addr} {xb1 xv1 : List Value} {xs1 : List Str} {xa1 : Bool} {xc1 : Option Bool} {xd1 : Option Addr} {x0_1 x1_1 x2_1 x3_1 x5_1 : Option Value} {ocx1 kVx1 dcx1 pmx1 cdx1 ctx1 : Value} {odx1 anx1 : Option Addr} {slx1 : Array (Option Value)} {xn2 xq2 : Str} {xN2 : Addr} {xb2 xv2 : List Value} {xs2 : List Str} {xa2 : Bool} {xc2 : Option Bool} {xd2 : Option Addr} {x0_2 x1_2 x2_2 x3_2 x5_2 : Option Value} {ocx2 kVx2 dcx2 pmx2 cdx2 ctx2 : Value} {odx2 anx2 : Option Addr} {slx2 : Array (Option Value)} {tg0 : Tok} {tg1 : Tok} {tg2 : Tok}
    (X : K.In h) (G : h.Ns mainGlobals mg) (hfa : mg "law" = some (.ref fa0))
    (aC0 : PySem.W.nsIn K mainGlobals "DeedError" = some (some (.ref C0)))
    (aC1 : PySem.W.nsIn K mainGlobals "BadName" = some (some (.ref C1)))
    (aC2 : PySem.W.nsIn K mainGlobals "BadLine" = some (some (.ref C2)))
    (aC3 : PySem.W.nsIn K mainGlobals "Strike" = some (some (.ref C3)))
    (a0 : PySem.W.nsIn K mainGlobals "is_name" = some (some (.ref f0)))
    (l0 : K.lookup f0 = some ⟨oc0, od0, .func (PySem.W.fnOf "is_name" "is_name" (defArgs s0) (defBody s0) (defScope s0) .none kV0 dc0 pm0 an0 cd0 ct0), sl0⟩)
    (co0 : PySem.W.codeIn K cd0 "is_name" = true)
    (k0 : PySem.W.keepIn K (.ref f0) = true)
    (a1 : PySem.W.nsIn K mainGlobals "check_name" = some (some (.ref f1)))
    (l1 : K.lookup f1 = some ⟨oc1, od1, .func (PySem.W.fnOf "check_name" "check_name" (defArgs s1) (defBody s1) (defScope s1) .none kV1 dc1 pm1 an1 cd1 ct1), sl1⟩)
    (co1 : PySem.W.codeIn K cd1 "check_name" = true)
    (k1 : PySem.W.keepIn K (.ref f1) = true)
    (a2 : PySem.W.findIn K (.ref C3) "__init__" = some (some (.ref f2)))
    (l2 : K.lookup f2 = some ⟨oc2, od2, .func (PySem.W.fnOf "__init__" "Strike.__init__" (defArgs s2) (defBody s2) (defScope s2) .none kV2 dc2 pm2 an2 cd2 ct2), sl2⟩)
    (co2 : PySem.W.codeIn K cd2 "Strike.__init__" = true)
    (i2 : PySem.W.isFn K (.ref f2) = true)
    (a3 : PySem.W.findIn K (.ref C3) "__eq__" = some (some (.ref f3)))
    (l3 : K.lookup f3 = some ⟨oc3, od3, .func (PySem.W.fnOf "__eq__" "Strike.__eq__" (defArgs s3) (defBody s3) (defScope s3) .none kV3 dc3 pm3 an3 cd3 ct3), sl3⟩)
    (co3 : PySem.W.codeIn K cd3 "Strike.__eq__" = true)
    (k3 : PySem.W.keepIn K (.ref f3) = true)
    (i3 : PySem.W.isFn K (.ref f3) = true)
    (a4 : PySem.W.findIn K (.ref C3) "blow" = some (some (.ref p4)))
    (q4 : PySem.W.recIn K p4 "property" = some (.ref f4 :: r4))
    (qg4 : PySem.W.specialIn K (.ref p4) "__get__" = some (some (.builtin "property.__get__")))
    (qt4 : PySem.W.takesIn K (.ref p4) = some true)
    (l4 : K.lookup f4 = some ⟨oc4, od4, .func (PySem.W.fnOf "blow" "Strike.blow" (defArgs s4) (defBody s4) (defScope s4) .none kV4 dc4 pm4 an4 cd4 ct4), sl4⟩)
    (co4 : PySem.W.codeIn K cd4 "Strike.blow" = true)
    (a5 : PySem.W.findIn K (.ref C3) "hits" = some (some (.ref f5)))
    (l5 : K.lookup f5 = some ⟨oc5, od5, .func (PySem.W.fnOf "hits" "Strike.hits" (defArgs s5) (defBody s5) (defScope s5) .none kV5 dc5 pm5 an5 cd5 ct5), sl5⟩)
    (co5 : PySem.W.codeIn K cd5 "Strike.hits" = true)
    (k5 : PySem.W.keepIn K (.ref f5) = true)
    (i5 : PySem.W.isFn K (.ref f5) = true)
    (a6 : PySem.W.findIn K (.ref C3) "shielded" = some (some (.ref f6)))
    (l6 : K.lookup f6 = some ⟨oc6, od6, .func (PySem.W.fnOf "shielded" "Strike.shielded" (defArgs s6) (defBody s6) (defScope s6) .none kV6 dc6 pm6 an6 cd6 ct6), sl6⟩)
    (co6 : PySem.W.codeIn K cd6 "Strike.shielded" = true)
    (k6 : PySem.W.keepIn K (.ref f6) = true)
    (i6 : PySem.W.isFn K (.ref f6) = true)
    (a7 : PySem.W.findIn K (.ref C3) "text" = some (some (.ref p7)))
    (q7 : PySem.W.recIn K p7 "property" = some (.ref f7 :: r7))
    (qg7 : PySem.W.specialIn K (.ref p7) "__get__" = some (some (.builtin "property.__get__")))
    (qt7 : PySem.W.takesIn K (.ref p7) = some true)
    (l7 : K.lookup f7 = some ⟨oc7, od7, .func (PySem.W.fnOf "text" "Strike.text" (defArgs s7) (defBody s7) (defScope s7) .none kV7 dc7 pm7 an7 cd7 ct7), sl7⟩)
    (co7 : PySem.W.codeIn K cd7 "Strike.text" = true)
    (a8 : PySem.W.findCls K (.ref C3) (.type "type") "read" = some (.get (.builtin "classmethod.__get__") (.ref p8) .none (.ref C3)))
    (q8 : PySem.W.recIn K p8 "classmethod" = some (.ref f8 :: r8))
    (qf8 : PySem.W.fnIn K f8 = true)
    (l8 : K.lookup f8 = some ⟨oc8, od8, .func (PySem.W.fnOf "read" "Strike.read" (defArgs s8) (defBody s8) (defScope s8) .none kV8 dc8 pm8 an8 cd8 ct8), sl8⟩)
    (co8 : PySem.W.codeIn K cd8 "Strike.read" = true)
    (a9 : PySem.W.nsIn K mainGlobals "_law_pool" = some (some (.ref f9)))
    (l9 : K.lookup f9 = some ⟨oc9, od9, .func (PySem.W.fnOf "_law_pool" "_law_pool" (defArgs s9) (defBody s9) (defScope s9) .none kV9 dc9 pm9 an9 cd9 ct9), sl9⟩)
    (co9 : PySem.W.codeIn K cd9 "_law_pool" = true)
    (k9 : PySem.W.keepIn K (.ref f9) = true)
    (a10 : PySem.W.nsIn K mainGlobals "_law_mixed" = some (some (.ref f10)))
    (l10 : K.lookup f10 = some ⟨oc10, od10, .func (PySem.W.fnOf "_law_mixed" "_law_mixed" (defArgs s10) (defBody s10) (defScope s10) .none kV10 dc10 pm10 an10 cd10 ct10), sl10⟩)
    (co10 : PySem.W.codeIn K cd10 "_law_mixed" = true)
    (k10 : PySem.W.keepIn K (.ref f10) = true)
    (a11 : PySem.W.nsIn K mainGlobals "_law_draw" = some (some (.ref f11)))
    (l11 : K.lookup f11 = some ⟨oc11, od11, .func (PySem.W.fnOf "_law_draw" "_law_draw" (defArgs s11) (defBody s11) (defScope s11) .none kV11 dc11 pm11 an11 cd11 ct11), sl11⟩)
    (co11 : PySem.W.codeIn K cd11 "_law_draw" = true)
    (k11 : PySem.W.keepIn K (.ref f11) = true)
    (a12 : PySem.W.nsIn K mainGlobals "_law_name" = some (some (.ref f12)))
    (l12 : K.lookup f12 = some ⟨oc12, od12, .func (PySem.W.fnOf "_law_name" "_law_name" (defArgs s12) (defBody s12) (defScope s12) .none kV12 dc12 pm12 an12 cd12 ct12), sl12⟩)
    (co12 : PySem.W.codeIn K cd12 "_law_name" = true)
    (k12 : PySem.W.keepIn K (.ref f12) = true)
    (a13 : PySem.W.nsIn K mainGlobals "_law_once" = some (some (.ref f13)))
    (l13 : K.lookup f13 = some ⟨oc13, od13, .func (PySem.W.fnOf "_law_once" "_law_once" (defArgs s13) (defBody s13) (defScope s13) .none kV13 dc13 pm13 an13 cd13 ct13), sl13⟩)
    (co13 : PySem.W.codeIn K cd13 "_law_once" = true)
    (k13 : PySem.W.keepIn K (.ref f13) = true)
    (a14 : PySem.W.nsIn K mainGlobals "_law_sorted" = some (some (.ref f14)))
    (l14 : K.lookup f14 = some ⟨oc14, od14, .func (PySem.W.fnOf "_law_sorted" "_law_sorted" (defArgs s14) (defBody s14) (defScope s14) .none kV14 dc14 pm14 an14 cd14 ct14), sl14⟩)
    (co14 : PySem.W.codeIn K cd14 "_law_sorted" = true)
    (k14 : PySem.W.keepIn K (.ref f14) = true)
    (a15 : PySem.W.nsIn K mainGlobals "_law_same" = some (some (.ref f15)))
    (l15 : K.lookup f15 = some ⟨oc15, od15, .func (PySem.W.fnOf "_law_same" "_law_same" (defArgs s15) (defBody s15) (defScope s15) .none kV15 dc15 pm15 an15 cd15 ct15), sl15⟩)
    (co15 : PySem.W.codeIn K cd15 "_law_same" = true)
    (k15 : PySem.W.keepIn K (.ref f15) = true)
    (a16 : PySem.W.nsIn K mainGlobals "_law_is_name" = some (some (.ref f16)))
    (l16 : K.lookup f16 = some ⟨oc16, od16, .func (PySem.W.fnOf "_law_is_name" "_law_is_name" (defArgs s16) (defBody s16) (defScope s16) .none kV16 dc16 pm16 an16 cd16 ct16), sl16⟩)
    (co16 : PySem.W.codeIn K cd16 "_law_is_name" = true)
    (k16 : PySem.W.keepIn K (.ref f16) = true)
    (a17 : PySem.W.nsIn K mainGlobals "_law_word" = some (some (.ref f17)))
    (l17 : K.lookup f17 = some ⟨oc17, od17, .func (PySem.W.fnOf "_law_word" "_law_word" (defArgs s17) (defBody s17) (defScope s17) .none kV17 dc17 pm17 an17 cd17 ct17), sl17⟩)
    (co17 : PySem.W.codeIn K cd17 "_law_word" = true)
    (k17 : PySem.W.keepIn K (.ref f17) = true)
    (a18 : PySem.W.nsIn K mainGlobals "_law_due" = some (some (.ref f18)))
    (l18 : K.lookup f18 = some ⟨oc18, od18, .func (PySem.W.fnOf "_law_due" "_law_due" (defArgs s18) (defBody s18) (defScope s18) .none kV18 dc18 pm18 an18 cd18 ct18), sl18⟩)
    (co18 : PySem.W.codeIn K cd18 "_law_due" = true)
    (k18 : PySem.W.keepIn K (.ref f18) = true)
    (a19 : PySem.W.nsIn K mainGlobals "_law_is" = some (some (.ref f19)))
    (l19 : K.lookup f19 = some ⟨oc19, od19, .func (PySem.W.fnOf "_law_is" "_law_is" (defArgs s19) (defBody s19) (defScope s19) .none kV19 dc19 pm19 an19 cd19 ct19), sl19⟩)
    (co19 : PySem.W.codeIn K cd19 "_law_is" = true)
    (k19 : PySem.W.keepIn K (.ref f19) = true)
    (a20 : PySem.W.nsIn K mainGlobals "_law_parsed" = some (some (.ref f20)))
    (l20 : K.lookup f20 = some ⟨oc20, od20, .func (PySem.W.fnOf "_law_parsed" "_law_parsed" (defArgs s20) (defBody s20) (defScope s20) .none kV20 dc20 pm20 an20 cd20 ct20), sl20⟩)
    (co20 : PySem.W.codeIn K cd20 "_law_parsed" = true)
    (k20 : PySem.W.keepIn K (.ref f20) = true)
    (a21 : PySem.W.nsIn K mainGlobals "_law_reads" = some (some (.ref f21)))
    (l21 : K.lookup f21 = some ⟨oc21, od21, .func (PySem.W.fnOf "_law_reads" "_law_reads" (defArgs s21) (defBody s21) (defScope s21) .none kV21 dc21 pm21 an21 cd21 ct21), sl21⟩)
    (co21 : PySem.W.codeIn K cd21 "_law_reads" = true)
    (k21 : PySem.W.keepIn K (.ref f21) = true)
    (a22 : PySem.W.nsIn K mainGlobals "_law_bent" = some (some (.ref f22)))
    (l22 : K.lookup f22 = some ⟨oc22, od22, .func (PySem.W.fnOf "_law_bent" "_law_bent" (defArgs s22) (defBody s22) (defScope s22) .none kV22 dc22 pm22 an22 cd22 ct22), sl22⟩)
    (co22 : PySem.W.codeIn K cd22 "_law_bent" = true)
    (k22 : PySem.W.keepIn K (.ref f22) = true)
    (a23 : PySem.W.nsIn K mainGlobals "_law_makes" = some (some (.ref f23)))
    (l23 : K.lookup f23 = some ⟨oc23, od23, .func (PySem.W.fnOf "_law_makes" "_law_makes" (defArgs s23) (defBody s23) (defScope s23) .none kV23 dc23 pm23 an23 cd23 ct23), sl23⟩)
    (co23 : PySem.W.codeIn K cd23 "_law_makes" = true)
    (k23 : PySem.W.keepIn K (.ref f23) = true)
    (a24 : PySem.W.nsIn K mainGlobals "_law_widens" = some (some (.ref f24)))
    (l24 : K.lookup f24 = some ⟨oc24, od24, .func (PySem.W.fnOf "_law_widens" "_law_widens" (defArgs s24) (defBody s24) (defScope s24) .none kV24 dc24 pm24 an24 cd24 ct24), sl24⟩)
    (co24 : PySem.W.codeIn K cd24 "_law_widens" = true)
    (k24 : PySem.W.keepIn K (.ref f24) = true)
    (a25 : PySem.W.nsIn K mainGlobals "law" = some (some (.ref f25)))
    (l25 : K.lookup f25 = some ⟨oc25, od25, .func (PySem.W.fnOf "law" "law" (defArgs s25) (defBody s25) (defScope s25) .none kV25 dc25 pm25 an25 cd25 ct25), sl25⟩)
    (co25 : PySem.W.codeIn K cd25 "law" = true)
    (k25 : PySem.W.keepIn K (.ref f25) = true)
    (pg3 : PySem.W.plainGet K C3 Str.empty = true)
    (hd3 : PySem.W.hasDictIn K C3 = true)
    (po3 : PySem.W.plainOver K C3 = true)
    (sa3 : PySem.W.findIn K (.ref C3) "__setattr__" = some (some (.builtin "object.__setattr__")))
    (mk3 : PySem.W.makesIn K C3 = true)
    (kc3 : PySem.W.keepIn K (.ref C3) = true)
    (n3_name : PySem.W.findIn K (.ref C3) "name" = some (none))
    (n3_shield : PySem.W.findIn K (.ref C3) "shield" = some (none))
    (ha3 : PySem.W.findIn K (.ref C3) "__class__" = some (some (.builtin "object.__class__")))
    (hm3 : PySem.W.mroIn K C3 (.type "object") = some true)
    (rd3 : PySem.W.readsIn K C3 (.type "type") = true)
    (sg3 : PySem.W.specialIn K (.ref C3) "__getattribute__" = some (some (.builtin "type.__getattribute__")))
    (ne3 : PySem.W.findIn K (.ref C3) "__ne__" = some (some (.builtin "object.__ne__")))
    (nf3_0 : PySem.W.notFirst K C3 (.ref C0) = true)
    (nf3_1 : PySem.W.notFirst K C3 (.ref C1) = true)
    (nf3_2 : PySem.W.notFirst K C3 (.ref C2) = true)
    (nf3_3 : PySem.W.notFirst K C3 (.ref C3) = true)
    (hn : PySem.W.specialIn K (.builtin "object.__class__") "__get__" = some (some (.builtin "getset_descriptor.__get__")))
    (ht : PySem.W.takesIn K (.builtin "object.__class__") = some true)
    (rd0 : PySem.W.readsIn K C0 (.type "type") = true)
    (sg0 : PySem.W.specialIn K (.ref C0) "__getattribute__" = some (some (.builtin "type.__getattribute__")))
    (bi0 : PySem.W.findCls K (.ref C0) (.type "type") "__init__" = some (.val (.builtin "ValueError.__init__")))
    (hb0 : PySem.W.subIn K (.ref C0) (.type "BaseException") = some true)
    (hh0 : PySem.W.hasDictIn K C0 = true)
    (hy0 : PySem.W.typeIn K (.ref C0) = some (.type "type"))
    (x1 : K.lookup C1 = some (excClassObj xn1 xq1 C1 xN1 xb1 [.ref C0, .type "ValueError", .type "Exception", .type "BaseException", .type "object"] true xs1 xv1 xa1 xc1 xd1 x0_1 x1_1 x2_1 x3_1 x5_1 "ValueError.__new__"))
    (xsa1 : PySem.W.findIn K (.ref C1) "__setattr__" = some (some (.builtin "object.__setattr__")))
    (xe1 : PySem.W.subIn K (.ref C1) (.type "BaseException") = some true)
    (xt1 : PySem.W.typeIn K (.ref C1) = some (.type "type"))
    (xk1 : PySem.W.keepIn K (.ref C1) = true)
    (xi1 : PySem.W.findIn K (.ref C1) "__init__" = some (some (.ref fx1)))
    (xy1 : PySem.W.typeIn K (.ref fx1) = some (.type "function"))
    (xn1_name : PySem.W.findIn K (.ref C1) "name" = some (none))
    (lx1 : K.lookup fx1 = some ⟨ocx1, odx1, .func (PySem.W.fnOf "__init__" "BadName.__init__" (defArgs sx1) (defBody sx1) (defScope sx1) .none kVx1 dcx1 pmx1 anx1 cdx1 ctx1), slx1⟩)
    (cox1 : PySem.W.codeIn K cdx1 "BadName.__init__" = true)
    (xga1 : PySem.W.findIn K (.ref C1) "__getattribute__" = some (some (.builtin "BaseException.__getattribute__")))
    (xgg1 : PySem.W.findIn K (.ref C1) "__getattr__" = some (none))
    (xhd1 : PySem.W.hasDictIn K C1 = true)
    (xha1 : PySem.W.findIn K (.ref C1) "__class__" = some (some (.builtin "object.__class__")))
    (xhm1 : PySem.W.mroIn K C1 (.type "object") = some true)
    (xs1_0 : PySem.W.subIn K (.ref C1) (.ref C0) = some true)
    (kic2 : PySem.W.isClsIn K C2 = true)
    (kty2 : PySem.W.typeIn K (.ref C2) = some (.type "type"))
    (ksu1_2 : PySem.W.subIn K (.ref C1) (.ref C2) = some false)
    (kne1_2 : (Value.ref C1 == Value.ref C2) = false)
    (kic1 : PySem.W.isClsIn K C1 = true)
    (kty1 : PySem.W.typeIn K (.ref C1) = some (.type "type"))
    (ksu1_1 : PySem.W.subIn K (.ref C1) (.ref C1) = some true)
    (x2 : K.lookup C2 = some (excClassObj xn2 xq2 C2 xN2 xb2 [.ref C0, .type "ValueError", .type "Exception", .type "BaseException", .type "object"] true xs2 xv2 xa2 xc2 xd2 x0_2 x1_2 x2_2 x3_2 x5_2 "ValueError.__new__"))
    (xsa2 : PySem.W.findIn K (.ref C2) "__setattr__" = some (some (.builtin "object.__setattr__")))
    (xe2 : PySem.W.subIn K (.ref C2) (.type "BaseException") = some true)
    (xt2 : PySem.W.typeIn K (.ref C2) = some (.type "type"))
    (xk2 : PySem.W.keepIn K (.ref C2) = true)
    (xi2 : PySem.W.findIn K (.ref C2) "__init__" = some (some (.ref fx2)))
    (xy2 : PySem.W.typeIn K (.ref fx2) = some (.type "function"))
    (xn2_line : PySem.W.findIn K (.ref C2) "line" = some (none))
    (lx2 : K.lookup fx2 = some ⟨ocx2, odx2, .func (PySem.W.fnOf "__init__" "BadLine.__init__" (defArgs sx2) (defBody sx2) (defScope sx2) .none kVx2 dcx2 pmx2 anx2 cdx2 ctx2), slx2⟩)
    (cox2 : PySem.W.codeIn K cdx2 "BadLine.__init__" = true)
    (xga2 : PySem.W.findIn K (.ref C2) "__getattribute__" = some (some (.builtin "BaseException.__getattribute__")))
    (xgg2 : PySem.W.findIn K (.ref C2) "__getattr__" = some (none))
    (xhd2 : PySem.W.hasDictIn K C2 = true)
    (xha2 : PySem.W.findIn K (.ref C2) "__class__" = some (some (.builtin "object.__class__")))
    (xhm2 : PySem.W.mroIn K C2 (.type "object") = some true)
    (xs2_0 : PySem.W.subIn K (.ref C2) (.ref C0) = some true)
    (ksu2_2 : PySem.W.subIn K (.ref C2) (.ref C2) = some true)
    (ksu2_1 : PySem.W.subIn K (.ref C2) (.ref C1) = some false)
    (kne2_1 : (Value.ref C2 == Value.ref C1) = false)
    (g0 : PySem.W.nsIn K mainGlobals "LETTERS" = some (some (.str "abcdefghijklmnopqrstuvwxyz" tg0)))
    (g1 : PySem.W.nsIn K mainGlobals "DIGITS" = some (some (.str "0123456789" tg1)))
    (g2 : PySem.W.nsIn K mainGlobals "LONGEST" = some (some (.int 12 tg2)))
    (z_bool : PySem.W.nsIn K mainGlobals "bool" = some none)
    (z_int : PySem.W.nsIn K mainGlobals "int" = some none)
    (z_isinstance : PySem.W.nsIn K mainGlobals "isinstance" = some none)
    (z_len : PySem.W.nsIn K mainGlobals "len" = some none)
    (z_list : PySem.W.nsIn K mainGlobals "list" = some none)
    (z_range : PySem.W.nsIn K mainGlobals "range" = some none)
    (z_sorted : PySem.W.nsIn K mainGlobals "sorted" = some none)
    (z_str : PySem.W.nsIn K mainGlobals "str" = some none)
    (z_tuple : PySem.W.nsIn K mainGlobals "tuple" = some none)
    (kic3 : PySem.W.isClsIn K C3 = true)
    (kty3 : PySem.W.typeIn K (.ref C3) = some (.type "type"))
    (w0 : PySem.W.subIn K (.type "NoneType") (.ref C3) = some false)
    (w1 : PySem.W.subIn K (.type "bool") (.ref C3) = some false)
    (w2 : PySem.W.subIn K (.type "int") (.ref C3) = some false)
    (w3 : PySem.W.subIn K (.type "str") (.ref C3) = some false)
    (w4 : PySem.W.subIn K (.type "tuple") (.ref C3) = some false)
    (w5 : PySem.W.subIn K (.type "list") (.ref C3) = some false)
    (w6 : PySem.W.subIn K (.type "dict") (.ref C3) = some false)
    (ksu3_3 : PySem.W.subIn K (.ref C3) (.ref C3) = some true)
    (w15 : PySem.W.subIn K (.ref C3) (.type "bool") = some false)
    (w23 : PySem.W.subIn K (.ref C3) (.type "int") = some false)
    (w31 : PySem.W.subIn K (.ref C3) (.type "list") = some false)
    (w39 : PySem.W.subIn K (.ref C3) (.type "str") = some false)
    (w47 : PySem.W.subIn K (.ref C3) (.type "tuple") = some false)
    : ∃ ca fa, fa 25 = fa0 ∧ Prg K mg T (fun i => code[i]?) ca fa := by
  have e : f25 = fa0 := by
    have e := hfa.symm.trans (PySem.W.mg_of X G a25)
    cases e
    rfl
  have cl3 : Cls K C3 := ⟨pg3, hd3, po3, sa3⟩
  have t0 : FnTxt K T f0 ⟨2, .all 1, b0⟩ := fn_txt ["text", "char"] ["text"] l0 co0 c0 rfl (fun _ _ _ _ _ => bd_all (ps := ["text"]) (Binds.all fun us hl => match us, hl with | [_], _ => rfl))
  have t1 : FnTxt K T f1 ⟨1, .all 1, b1⟩ := fn_txt ["name"] ["name"] l1 co1 c1 rfl (fun _ _ _ _ _ => bd_all (ps := ["name"]) (Binds.all fun us hl => match us, hl with | [_], _ => rfl))
  have t2 : FnTxt K T f2 ⟨5, .star 2, b2⟩ := fn_txt ["self", "name", "shield", "found", "one"] ["self", "name", "shield"] l2 co2 c2 rfl (fun _ _ _ _ _ => bd_star (ps := ["self", "name"]) (pv := "shield") (bind_s2 (fun _ _ => rfl) (fun _ _ _ _ => rfl)))
  have t3 : FnTxt K T f3 ⟨2, .all 2, b3⟩ := fn_txt ["self", "other"] ["self", "other"] l3 co3 c3 rfl (fun _ _ _ _ _ => bd_all (ps := ["self", "other"]) (Binds.all fun us hl => match us, hl with | [_, _], _ => rfl))
  have t4 : FnTxt K T f4 ⟨1, .all 1, b4⟩ := fn_txt ["self"] ["self"] l4 co4 c4 rfl (fun _ _ _ _ _ => bd_all (ps := ["self"]) (Binds.all fun us hl => match us, hl with | [_], _ => rfl))
  have t5 : FnTxt K T f5 ⟨2, .all 2, b5⟩ := fn_txt ["self", "question"] ["self", "question"] l5 co5 c5 rfl (fun _ _ _ _ _ => bd_all (ps := ["self", "question"]) (Binds.all fun us hl => match us, hl with | [_, _], _ => rfl))
  have t6 : FnTxt K T f6 ⟨2, .star 1, b6⟩ := fn_txt ["self", "names"] ["self", "names"] l6 co6 c6 rfl (fun _ _ _ _ _ => bd_star (ps := ["self"]) (pv := "names") (bind_s1 (fun _ => rfl) (fun _ _ _ => rfl)))
  have t7 : FnTxt K T f7 ⟨2, .all 1, b7⟩ := fn_txt ["self", "names"] ["self"] l7 co7 c7 rfl (fun _ _ _ _ _ => bd_all (ps := ["self"]) (Binds.all fun us hl => match us, hl with | [_], _ => rfl))
  have t8 : FnTxt K T f8 ⟨8, .all 2, b8⟩ := fn_txt ["cls", "text", "name", "word", "rest", "names", "one", "found"] ["cls", "text"] l8 co8 c8 rfl (fun _ _ _ _ _ => bd_all (ps := ["cls", "text"]) (Binds.all fun us hl => match us, hl with | [_, _], _ => rfl))
  have t9 : FnTxt K T f9 ⟨1, .all 1, b9⟩ := fn_txt ["script"] ["script"] l9 co9 c9 rfl (fun _ _ _ _ _ => bd_all (ps := ["script"]) (Binds.all fun us hl => match us, hl with | [_], _ => rfl))
  have t10 : FnTxt K T f10 ⟨6, .all 3, b10⟩ := fn_txt ["cell", "turn", "limit", "first", "second", "third"] ["cell", "turn", "limit"] l10 co10 c10 rfl (fun _ _ _ _ _ => bd_all (ps := ["cell", "turn", "limit"]) (Binds.all fun us hl => match us, hl with | [_, _, _], _ => rfl))
  have t11 : FnTxt K T f11 ⟨4, .all 2, b11⟩ := fn_txt ["pool", "limit", "digit", "cell"] ["pool", "limit"] l11 co11 c11 rfl (fun _ _ _ _ _ => bd_all (ps := ["pool", "limit"]) (Binds.all fun us hl => match us, hl with | [_, _], _ => rfl))
  have t12 : FnTxt K T f12 ⟨4, .all 1, b12⟩ := fn_txt ["pool", "signs", "name", "k"] ["pool"] l12 co12 c12 rfl (fun _ _ _ _ _ => bd_all (ps := ["pool"]) (Binds.all fun us hl => match us, hl with | [_], _ => rfl))
  have t13 : FnTxt K T f13 ⟨3, .all 1, b13⟩ := fn_txt ["names", "found", "name"] ["names"] l13 co13 c13 rfl (fun _ _ _ _ _ => bd_all (ps := ["names"]) (Binds.all fun us hl => match us, hl with | [_], _ => rfl))
  have t14 : FnTxt K T f14 ⟨4, .all 1, b14⟩ := fn_txt ["rows", "done", "row", "at"] ["rows"] l14 co14 c14 rfl (fun _ _ _ _ _ => bd_all (ps := ["rows"]) (Binds.all fun us hl => match us, hl with | [_], _ => rfl))
  have t15 : FnTxt K T f15 ⟨3, .all 2, b15⟩ := fn_txt ["actual", "expected", "k"] ["actual", "expected"] l15 co15 c15 rfl (fun _ _ _ _ _ => bd_all (ps := ["actual", "expected"]) (Binds.all fun us hl => match us, hl with | [_, _], _ => rfl))
  have t16 : FnTxt K T f16 ⟨3, .all 1, b16⟩ := fn_txt ["text", "signs", "sign"] ["text"] l16 co16 c16 rfl (fun _ _ _ _ _ => bd_all (ps := ["text"]) (Binds.all fun us hl => match us, hl with | [_], _ => rfl))
  have t17 : FnTxt K T f17 ⟨4, .all 2, b17⟩ := fn_txt ["pool", "name", "choice", "one"] ["pool", "name"] l17 co17 c17 rfl (fun _ _ _ _ _ => bd_all (ps := ["pool", "name"]) (Binds.all fun us hl => match us, hl with | [_, _], _ => rfl))
  have t18 : FnTxt K T f18 ⟨3, .all 2, b18⟩ := fn_txt ["name", "words", "one"] ["name", "words"] l18 co18 c18 rfl (fun _ _ _ _ _ => bd_all (ps := ["name", "words"]) (Binds.all fun us hl => match us, hl with | [_, _], _ => rfl))
  have t19 : FnTxt K T f19 ⟨7, .all 3, b19⟩ := fn_txt ["strike", "name", "words", "shield", "one", "ask", "text"] ["strike", "name", "words"] l19 co19 c19 rfl (fun _ _ _ _ _ => bd_all (ps := ["strike", "name", "words"]) (Binds.all fun us hl => match us, hl with | [_, _, _], _ => rfl))
  have t20 : FnTxt K T f20 ⟨5, .all 1, b20⟩ := fn_txt ["text", "name", "word", "rest", "names"] ["text"] l20 co20 c20 rfl (fun _ _ _ _ _ => bd_all (ps := ["text"]) (Binds.all fun us hl => match us, hl with | [_], _ => rfl))
  have t21 : FnTxt K T f21 ⟨4, .all 1, b21⟩ := fn_txt ["text", "due", "strike", "e"] ["text"] l21 co21 c21 rfl (fun _ _ _ _ _ => bd_all (ps := ["text"]) (Binds.all fun us hl => match us, hl with | [_], _ => rfl))
  have t22 : FnTxt K T f22 ⟨5, .all 3, b22⟩ := fn_txt ["pool", "name", "words", "choice", "text"] ["pool", "name", "words"] l22 co22 c22 rfl (fun _ _ _ _ _ => bd_all (ps := ["pool", "name", "words"]) (Binds.all fun us hl => match us, hl with | [_, _, _], _ => rfl))
  have t23 : FnTxt K T f23 ⟨5, .all 2, b23⟩ := fn_txt ["name", "words", "due", "strike", "e"] ["name", "words"] l23 co23 c23 rfl (fun _ _ _ _ _ => bd_all (ps := ["name", "words"]) (Binds.all fun us hl => match us, hl with | [_, _], _ => rfl))
  have t24 : FnTxt K T f24 ⟨8, .all 3, b24⟩ := fn_txt ["name", "words", "more", "due", "strike", "wide", "e", "other"] ["name", "words", "more"] l24 co24 c24 rfl (fun _ _ _ _ _ => bd_all (ps := ["name", "words", "more"]) (Binds.all fun us hl => match us, hl with | [_, _, _], _ => rfl))
  have t25 : FnTxt K T f25 ⟨9, .all 1, b25⟩ := fn_txt ["script", "pool", "name", "words", "k", "good", "other", "wide", "one"] ["script"] l25 co25 c25 rfl (fun _ _ _ _ _ => bd_all (ps := ["script"]) (Binds.all fun us hl => match us, hl with | [_], _ => rfl))
  have ox1 : OexC K C1 := ⟨⟨_, _, _, _, _, _, _, _, _, _, _, _, _, _, _, x1, by rfl⟩, xsa1, xe1, xt1, xk1⟩
  have cc1 := cx1
  rw [Bool.and_eq_true] at cc1
  have xx1 : XcTxt K mg C1 fx1 "DeedError" C0 1 [(("name" : Str), 1)] := ⟨⟨ox1, xi1, xy1⟩, ⟨PySem.W.mg_of X G aC0, .type "type", ⟨rd0, sg0⟩, bi0⟩, (al_cons (xn1_name) al_nil), ⟨_, _, _, _, _, _, _, _, _, _, _, _, _, _, _, ["self", "name"], lx1, cox1, scope_of cc1.1, rfl, cc1.2, Binds.all fun us hl => (match us, hl with | [_, _], _ => rfl), _, rfl, by rfl, by rfl, by rfl⟩⟩
  have ox2 : OexC K C2 := ⟨⟨_, _, _, _, _, _, _, _, _, _, _, _, _, _, _, x2, by rfl⟩, xsa2, xe2, xt2, xk2⟩
  have cc2 := cx2
  rw [Bool.and_eq_true] at cc2
  have xx2 : XcTxt K mg C2 fx2 "DeedError" C0 1 [(("line" : Str), 1)] := ⟨⟨ox2, xi2, xy2⟩, ⟨PySem.W.mg_of X G aC0, .type "type", ⟨rd0, sg0⟩, bi0⟩, (al_cons (xn2_line) al_nil), ⟨_, _, _, _, _, _, _, _, _, _, _, _, _, _, _, ["self", "line"], lx2, cox2, scope_of cc2.1, rfl, cc2.2, Binds.all fun us hl => (match us, hl with | [_, _], _ => rfl), _, rfl, by rfl, by rfl, by rfl⟩⟩
  have TL : TxtL K T [f0, f1, f2, f3, f4, f5, f6, f7, f8, f9, f10, f11, f12, f13, f14, f15, f16, f17, f18, f19, f20, f21, f22, f23, f24, f25] code := (.cons t0 (.cons t1 (.cons t2 (.cons t3 (.cons t4 (.cons t5 (.cons t6 (.cons t7 (.cons t8 (.cons t9 (.cons t10 (.cons t11 (.cons t12 (.cons t13 (.cons t14 (.cons t15 (.cons t16 (.cons t17 (.cons t18 (.cons t19 (.cons t20 (.cons t21 (.cons t22 (.cons t23 (.cons t24 (.cons t25 .nil))))))))))))))))))))))))))
  refine ⟨fun i => [C0, C1, C2, C3].getD i C0, fun i => [f0, f1, f2, f3, f4, f5, f6, f7, f8, f9, f10, f11, f12, f13, f14, f15, f16, f17, f18, f19, f20, f21, f22, f23, f24, f25].getD i 0, e, fun scr scrA => ?_, TL.get⟩
  refine tb_mk rfl cn ?gfn ?gcl ?gco ?bts ?cini ?flds ?meths ?cmets ?props ?ccons ?owneq ?xcls ?xsub ?xfld ?xisi ?ist ?iins
  case gfn => exact (al_cons (⟨PySem.W.mg_of X G a0, k0⟩) (al_cons (⟨PySem.W.mg_of X G a1, k1⟩) (al_cons (⟨PySem.W.mg_of X G a9, k9⟩) (al_cons (⟨PySem.W.mg_of X G a10, k10⟩) (al_cons (⟨PySem.W.mg_of X G a11, k11⟩) (al_cons (⟨PySem.W.mg_of X G a12, k12⟩) (al_cons (⟨PySem.W.mg_of X G a13, k13⟩) (al_cons (⟨PySem.W.mg_of X G a14, k14⟩) (al_cons (⟨PySem.W.mg_of X G a15, k15⟩) (al_cons (⟨PySem.W.mg_of X G a16, k16⟩) (al_cons (⟨PySem.W.mg_of X G a17, k17⟩) (al_cons (⟨PySem.W.mg_of X G a18, k18⟩) (al_cons (⟨PySem.W.mg_of X G a19, k19⟩) (al_cons (⟨PySem.W.mg_of X G a20, k20⟩) (al_cons (⟨PySem.W.mg_of X G a21, k21⟩) (al_cons (⟨PySem.W.mg_of X G a22, k22⟩) (al_cons (⟨PySem.W.mg_of X G a23, k23⟩) (al_cons (⟨PySem.W.mg_of X G a24, k24⟩) (al_cons (⟨PySem.W.mg_of X G a25, k25⟩) al_nil)))))))))))))))))))
  case gcl => exact (al_cons (PySem.W.mg_of X G aC0) (al_cons (PySem.W.mg_of X G aC1) (al_cons (PySem.W.mg_of X G aC2) (al_cons (PySem.W.mg_of X G aC3) al_nil))))
  case gco => exact (al_cons (⟨.str "abcdefghijklmnopqrstuvwxyz", _, PySem.W.mg_of X G g0, ⟨_, rfl⟩, fun _ _ => rfl⟩) (al_cons (⟨.str "0123456789", _, PySem.W.mg_of X G g1, ⟨_, rfl⟩, fun _ _ => rfl⟩) (al_cons (⟨.int 12, _, PySem.W.mg_of X G g2, ⟨_, rfl⟩, fun _ _ => rfl⟩) al_nil)))
  case bts => exact (al_cons (PySem.W.mg_none_of X G z_bool) (al_cons (PySem.W.mg_none_of X G z_int) (al_cons (PySem.W.mg_none_of X G z_isinstance) (al_cons (PySem.W.mg_none_of X G z_len) (al_cons (PySem.W.mg_none_of X G z_list) (al_cons (PySem.W.mg_none_of X G z_range) (al_cons (PySem.W.mg_none_of X G z_sorted) (al_cons (PySem.W.mg_none_of X G z_str) (al_cons (PySem.W.mg_none_of X G z_tuple) al_nil)))))))))
  case cini => exact (al_cons (⟨mk3, a2, i2, kc3⟩) al_nil)
  case flds => exact (al_cons (⟨cl3, n3_name⟩) (al_cons (⟨cl3, n3_shield⟩) al_nil))
  case meths => exact (al_cons (⟨cl3, ⟨a5, i5, k5⟩⟩) (al_cons (⟨cl3, ⟨a6, i6, k6⟩⟩) al_nil))
  case cmets => exact (al_cons (⟨⟨.type "type", p8, ⟨rd3, sg3⟩, ⟨a8, ⟨_, q8⟩, qf8⟩⟩⟩) al_nil)
  case props => exact (al_cons (⟨cl3, ⟨p4, ⟨a4, qg4, qt4, ⟨_, q4⟩⟩⟩⟩) (al_cons (⟨cl3, ⟨p7, ⟨a7, qg7, qt7, ⟨_, q7⟩⟩⟩⟩) al_nil))
  case ccons => exact al_nil
  case owneq => exact (al_cons (⟨⟨a3, i3, fun c => nf_all (C := C3) (l := [C0, C1, C2, C3]) (al_cons (nf3_0) (al_cons (nf3_1) (al_cons (nf3_2) (al_cons (nf3_3) al_nil)))) nf3_0 c⟩, hm3, ne3⟩) al_nil)
  case xcls => exact (al_cons (⟨by decide, by decide, _, _, _, xx1⟩) (al_cons (⟨by decide, by decide, _, _, _, xx2⟩) al_nil))
  case xsub => exact (al_cons (PySem.W.exm_ref hb0 hh0 hy0 xs1_0) (al_cons (PySem.W.exm_ref hb0 hh0 hy0 xs2_0) al_nil))
  case xfld => exact (al_cons (⟨xga1, xgg1, xe1, xhd1, xn1_name⟩) (al_cons (⟨xga2, xgg2, xe2, xhd2, xn2_line⟩) al_nil))
  case xisi => exact (al_cons (⟨⟨xga1, xgg1, xe1, xhd1, xha1, hn, ht, xhm1⟩, kit_ref kic2 kty2 ksu1_2 (fun e => absurd (kne1_2.symm.trans e) (by decide))⟩) (al_cons (⟨⟨xga1, xgg1, xe1, xhd1, xha1, hn, ht, xhm1⟩, kit_ref kic1 kty1 ksu1_1 (fun _ => rfl)⟩) (al_cons (⟨⟨xga2, xgg2, xe2, xhd2, xha2, hn, ht, xhm2⟩, kit_ref kic2 kty2 ksu2_2 (fun _ => rfl)⟩) (al_cons (⟨⟨xga2, xgg2, xe2, xhd2, xha2, hn, ht, xhm2⟩, kit_ref kic1 kty1 ksu2_1 (fun e => absurd (kne2_1.symm.trans e) (by decide))⟩) al_nil))))
  case ist => exact (al_cons (kit_ref kic3 kty3 w0 (fun e => nomatch e)) (al_cons (kit_ref kic3 kty3 w1 (fun e => nomatch e)) (al_cons (kit_ref kic3 kty3 w2 (fun e => nomatch e)) (al_cons (kit_ref kic3 kty3 w3 (fun e => nomatch e)) (al_cons (kit_ref kic3 kty3 w4 (fun e => nomatch e)) (al_cons (kit_ref kic3 kty3 w5 (fun e => nomatch e)) (al_cons (kit_ref kic3 kty3 w6 (fun e => nomatch e)) (al_cons (kit_ref kic3 kty3 ksu3_3 (fun _ => rfl)) (al_cons (kit_ty (by decide +kernel)) (al_cons (kit_ty (by decide +kernel)) (al_cons (kit_ty (by decide +kernel)) (al_cons (kit_ty (by decide +kernel)) (al_cons (kit_ty (by decide +kernel)) (al_cons (kit_ty (by decide +kernel)) (al_cons (kit_ty (by decide +kernel)) (al_cons (kit_own (by decide +kernel) w15) (al_cons (kit_ty (by decide +kernel)) (al_cons (kit_ty (by decide +kernel)) (al_cons (kit_ty (by decide +kernel)) (al_cons (kit_ty (by decide +kernel)) (al_cons (kit_ty (by decide +kernel)) (al_cons (kit_ty (by decide +kernel)) (al_cons (kit_ty (by decide +kernel)) (al_cons (kit_own (by decide +kernel) w23) (al_cons (kit_ty (by decide +kernel)) (al_cons (kit_ty (by decide +kernel)) (al_cons (kit_ty (by decide +kernel)) (al_cons (kit_ty (by decide +kernel)) (al_cons (kit_ty (by decide +kernel)) (al_cons (kit_ty (by decide +kernel)) (al_cons (kit_ty (by decide +kernel)) (al_cons (kit_own (by decide +kernel) w31) (al_cons (kit_ty (by decide +kernel)) (al_cons (kit_ty (by decide +kernel)) (al_cons (kit_ty (by decide +kernel)) (al_cons (kit_ty (by decide +kernel)) (al_cons (kit_ty (by decide +kernel)) (al_cons (kit_ty (by decide +kernel)) (al_cons (kit_ty (by decide +kernel)) (al_cons (kit_own (by decide +kernel) w39) (al_cons (kit_ty (by decide +kernel)) (al_cons (kit_ty (by decide +kernel)) (al_cons (kit_ty (by decide +kernel)) (al_cons (kit_ty (by decide +kernel)) (al_cons (kit_ty (by decide +kernel)) (al_cons (kit_ty (by decide +kernel)) (al_cons (kit_ty (by decide +kernel)) (al_cons (kit_own (by decide +kernel) w47) al_nil))))))))))))))))))))))))))))))))))))))))))))))))
  case iins => exact (al_cons (⟨cl3, ha3, hn, ht, hm3⟩) al_nil)
end K00

set_option maxRecDepth 100000
set_option maxHeartbeats 4000000
namespace K00
open PySem PySem.Spec PyProof.Rows PI
variable {scr : List Int} {k : Nat} {m : Bool} {h : Hh}
noncomputable abbrev F (scr : List Int) (k : Nat) (m : Bool) (f : Nat) (ds : List D) (h : Hh) : R D := phi T lpW scr (fun i => code[i]?) k m f ds h
noncomputable abbrev EN (scr : List Int) (k : Nat) : En := ⟨T, phi T lpW scr (fun i => code[i]?) k, lpW, scr⟩
/-! tables -/
def letters : List Nat := [97, 98, 99, 100, 101, 102, 103, 104, 105, 106, 107, 108, 109, 110, 111, 112, 113, 114, 115, 116, 117, 118, 119, 120, 121, 122]
def digits : List Nat := [48, 49, 50, 51, 52, 53, 54, 55, 56, 57]
@[simp] theorem g0 : T.gco[0]? = some (("LETTERS" : Str), D.str letters) := rfl
@[simp] theorem g1 : T.gco[1]? = some (("DIGITS" : Str), D.str digits) := rfl
@[simp] theorem g2 : T.gco[2]? = some (("LONGEST" : Str), D.int 12) := rfl
/-! comparisons of values -/
theorem eqv_str (a b : Str) : PyData.eqv (.str a) (.str b) = (a == b) := by rfl
theorem sOf_inj {a b : List Nat} : sOf a = sOf b ↔ a = b := by
  constructor
  · intro e
    have e2 : (sOf a).cps.toList = (sOf b).cps.toList := by rw [e]
    simpa [sOf] using e2
  · intro e
    rw [e]
theorem sOf_beq {a b : List Nat} : (sOf a == sOf b) = decide (a = b) := by
  by_cases c : a = b
  · subst c
    simp
  · have : ¬ sOf a = sOf b := fun z => c (sOf_inj.mp z)
    simp [c, this]
/-- texts of plain signs -/
structure Gd (s : List Nat) : Prop where
  c : ∀ x ∈ s, x < 128
  l : s.length ≤ 10000
theorem Gd.sz {s : List Nat} (g : Gd s) : s.length ≤ SZ := Nat.le_trans g.l (by decide)
theorem strOk {s : List Nat} (g : Gd s) : PyData.strOk (sOf s) = true := by
  unfold PyData.strOk sOf
  simp only [Array.all_eq_true', List.mem_toArray, decide_eq_true_eq]
  intro x hx
  exact Nat.lt_of_lt_of_le (g.c x hx) (by decide)
theorem shaped_str {s : List Nat} (g : Gd s) : SeqAt.shaped (.str (sOf s)) = true := by
  simp [SeqAt.shaped, PyData.canLay0, PyData.depth, strOk g]
theorem eqD_str {a b : List Nat} (ga : Gd a) (gb : Gd b) : eqD h (.str a) (.str b) = some (decide (a = b)) := by
  show (if SeqAt.shaped (.str (sOf a)) = true ∧ SeqAt.shaped (.str (sOf b)) = true then some (PyData.eqv (.str (sOf a)) (.str (sOf b))) else none) = _
  rw [if_pos ⟨shaped_str ga, shaped_str gb⟩, eqv_str, sOf_beq]
@[simp] theorem eqD_int {a b : Int} : eqD h (.int a) (.int b) = some (decide (a = b)) := by
  show (if SeqAt.shaped (.int a) = true ∧ SeqAt.shaped (.int b) = true then some (PyData.eqv (.int a) (.int b)) else none) = _
  rw [if_pos ⟨by simp [SeqAt.shaped, PyData.canLay0, PyData.depth], by simp [SeqAt.shaped, PyData.canLay0, PyData.depth]⟩]
  congr 1
@[simp] theorem eqD_bl {a b : Bool} : eqD h (.bl a) (.bl b) = some (a == b) := by
  show (if SeqAt.shaped (.bool a) = true ∧ SeqAt.shaped (.bool b) = true then some (PyData.eqv (.bool a) (.bool b)) else none) = _
  rw [if_pos ⟨by simp [SeqAt.shaped, PyData.canLay0, PyData.depth], by simp [SeqAt.shaped, PyData.canLay0, PyData.depth]⟩]
  congr 1
section
variable {ow : Nat → Option Nat} {Φ : Nat → List D → Hh → R D} {op : Cop} {y : D}
@[simp] theorem co_str {a : List Nat} : cmpO ow Φ op (.str a) y h = cmpD op (.str a) y h := by cases op <;> rfl
@[simp] theorem co_int {a : Int} : cmpO ow Φ op (.int a) y h = cmpD op (.int a) y h := by cases op <;> rfl
@[simp] theorem co_bl {a : Bool} : cmpO ow Φ op (.bl a) y h = cmpD op (.bl a) y h := by cases op <;> rfl
@[simp] theorem co_non : cmpO ow Φ op .non y h = cmpD op .non y h := by cases op <;> rfl
@[simp] theorem co_tup {xs : List D} : cmpO ow Φ op (.tup xs) y h = cmpD op (.tup xs) y h := by cases op <;> rfl
theorem co_lst {i : Nat} {xs : List D} (e : h[i]? = some (.lst xs)) : cmpO ow Φ op (.ref i) y h = cmpD op (.ref i) y h := by
  have q : insD (.ref i) h = none := by show (match h[i]? with | some (.ins c _) => some c | _ => none) = none; rw [e]
  unfold cmpO
  rw [q]
  cases op <;> rfl
end
theorem ceq_str {a b : List Nat} (ga : Gd a) (gb : Gd b) : cmpD .eq (.str a) (.str b) h = .ok (.bl (decide (a = b))) h := by
  show (match eqD h (.str a) (.str b) with | some b => R.ok (D.bl b) h | none => R.bad) = _
  rw [eqD_str ga gb]
theorem cne_str {a b : List Nat} (ga : Gd a) (gb : Gd b) : cmpD .ne (.str a) (.str b) h = .ok (.bl (!decide (a = b))) h := by
  show (match (eqD h (.str a) (.str b)).map (!·) with | some b => R.ok (D.bl b) h | none => R.bad) = _
  rw [eqD_str ga gb]
  rfl
@[simp] theorem ceq_int {a b : Int} : cmpD .eq (.int a) (.int b) h = .ok (.bl (decide (a = b))) h := by
  show (match eqD h (.int a) (.int b) with | some b => R.ok (D.bl b) h | none => R.bad) = _
  rw [eqD_int]
@[simp] theorem ceq_bl {a b : Bool} : cmpD .eq (.bl a) (.bl b) h = .ok (.bl (a == b)) h := by
  show (match eqD h (.bl a) (.bl b) with | some b => R.ok (D.bl b) h | none => R.bad) = _
  rw [eqD_bl]
@[simp] theorem clt_int {a b : Int} : cmpD .lt (.int a) (.int b) h = .ok (.bl (decide (a < b))) h := rfl
@[simp] theorem cle_int {a b : Int} : cmpD .le (.int a) (.int b) h = .ok (.bl (decide (a ≤ b))) h := rfl
@[simp] theorem cgt_int {a b : Int} : cmpD .gt (.int a) (.int b) h = .ok (.bl (decide (b < a))) h := rfl
@[simp] theorem cge_int {a b : Int} : cmpD .ge (.int a) (.int b) h = .ok (.bl (decide (b ≤ a))) h := rfl
@[simp] theorem cin_sign {c : Nat} {z : List Nat} : cmpD .in_ (.str [c]) (.str z) h = .ok (.bl (decide (c ∈ z))) h := rfl
@[simp] theorem cni_sign {c : Nat} {z : List Nat} : cmpD .notin (.str [c]) (.str z) h = .ok (.bl (!decide (c ∈ z))) h := rfl
@[simp] theorem tru_bl {b : Bool} : truD (.bl b) h = .ok b h := rfl
@[simp] theorem tru_non : truD .non h = .ok false h := rfl
@[simp] theorem tru_int {i : Int} : truD (.int i) h = .ok (i != 0) h := rfl
/-! is_name -/
def okSign (x : Nat) : Bool := decide (x ∈ letters) || decide (x ∈ digits)
def isName (s : List Nat) : Bool := match s with
  | [] => false
  | c :: r => decide (r.length < 12) && decide (c ∈ letters) && (c :: r).all okSign
theorem gd_nil : Gd [] := ⟨fun x hx => (by cases hx), by decide⟩
theorem idx0 {c : Nat} {r : List Nat} (g : Gd (c :: r)) : idxD (.str (c :: r)) (.int 0) h = .ok (.str [c]) h := by
  have e : L2.atI (c :: r) 0 = some c := by simp [L2.atI, L2.ixN]
  unfold idxD
  simp only [e]
  rw [if_pos g.sz]
theorem len_gd {s : List Nat} (g : Gd s) : lenD [.str s] h = .ok (.int s.length) h := by
  show (if s.length ≤ SZ then R.ok (D.int s.length) h else R.bad) = _
  rw [if_pos g.sz]
theorem is_name {s : List Nat} (g : Gd s) : F scr (k + 1) m 0 [.str s] h = .ok (.bl (isName s)) h := by
  refine (phi_s (d := ⟨2, .all 1, b0⟩) (ds' := [.str s]) rfl rfl).trans ?_
  show rtR (evSs (EN scr k) m none b0 [some (.str s), none] h) = _
  cases s with
  | nil =>
    simp [b0, fVar, ceq_str gd_nil gd_nil]
    rfl
  | cons c r =>
    have L := len_gd (h := h) g
    simp only [List.length_cons] at L
    by_cases c1 : r.length < 12
    · have c1' : ¬ ((12 : Int) < r.length + 1) := by omega
      by_cases c2 : c ∈ letters
      · simp [b0, fVar, ceq_str g gd_nil, biF, L, c1', idx0 g, c2, itD]
        refine for_rule (xs := (c :: r).map fun c => D.str [c]) (fun n env h' => h' = h ∧ ((c :: r).take n).all okSign = true ∧ ∃ v, env = [some (.str (c :: r)), v]) (fun r => rtR (sqR r _) = _) ⟨rfl, rfl, none, rfl⟩ (fun n env h' _ => is_str) ?_ ?_
        · rintro n d env h' e ⟨rfl, ha, v, rfl⟩
          rw [List.getElem?_map] at e
          cases en : (c :: r)[n]? with
          | none => rw [en] at e; cases e
          | some x =>
            rw [en] at e
            cases e
            refine ⟨_, rfl, ?_⟩
            have ht : (c :: r).take (n + 1) = (c :: r).take n ++ [x] := by rw [List.take_succ, en]; rfl
            by_cases d1 : okSign x = true
            · have hn : ((c :: r).take (n + 1)).all okSign = true := by rw [ht, List.all_append, ha]; simp [d1]
              have d1' := d1
              unfold okSign at d1'
              rw [Bool.or_eq_true, decide_eq_true_eq, decide_eq_true_eq] at d1'
              by_cases d2 : x ∈ letters
              · simpa [fVar, d2] using hn
              · simpa [fVar, d2, d1'.resolve_left d2] using hn
            · have d1' := d1
              unfold okSign at d1'
              rw [Bool.or_eq_true, decide_eq_true_eq, decide_eq_true_eq, not_or] at d1'
              have hm : x ∈ c :: r := List.mem_of_getElem? en
              have hf : (c :: r).all okSign = false := by
                rw [List.all_eq_false]
                exact ⟨x, hm, d1⟩
              have hi : isName (c :: r) = false := by show (_ && _ && (c :: r).all okSign) = false; rw [hf, Bool.and_false]
              simp [fVar, d1'.1, d1'.2, hi]
        · rintro env h' ⟨rfl, ha, v, rfl⟩
          have ha' : (c :: r).all okSign = true := by rw [List.length_map, List.take_length] at ha; exact ha
          simp [isName, c1, c2]
          simpa using ha'
      · simp [b0, fVar, ceq_str g gd_nil, biF, L, c1', idx0 g, isName, c2]
    · have c1' : ((12 : Int) < r.length + 1) := by omega
      simp [b0, fVar, ceq_str g gd_nil, biF, L, c1', isName, c1]
/-- check_name -/
theorem check_name {s : List Nat} (g : Gd s) (e : isName s = true) : F scr (k + 2) m 1 [.str s] h = .ok (.str s) h := by
  refine (phi_s (d := ⟨1, .all 1, b1⟩) (ds' := [.str s]) rfl rfl).trans ?_
  show rtR (evSs (EN scr (k + 1)) m none b1 [some (.str s)] h) = _
  have i := is_name (scr := scr) (k := k) (m := m) (h := h) g
  simp [b1, fVar, i, e]
theorem check_bad {s : List Nat} (g : Gd s) (e : isName s = false) : F scr (k + 2) false 1 [.str s] h = .exc 1 [(0, .str s)] h := by
  refine (phi_s (d := ⟨1, .all 1, b1⟩) (ds' := [.str s]) rfl rfl).trans ?_
  show rtR (evSs (EN scr (k + 1)) false none b1 [some (.str s)] h) = _
  have i := is_name (scr := scr) (k := k) (m := false) (h := h) g
  have x : T.xcls.lookup 1 = some (1, [(0, 0)]) := rfl
  simp [b1, fVar, i, e, x, xfl]
/-! what stays of the heap: all but the object p -/
def Fp (p : Option Nat) (h h' : Hh) : Prop := h.length ≤ h'.length ∧ ∀ i, i < h.length → some i ≠ p → h'[i]? = h[i]?
theorem lt_of {i : Nat} {o : O} (e : h[i]? = some o) : i < h.length := (List.getElem?_eq_some_iff.mp e).1
theorem Fp.refl {p : Option Nat} : Fp p h h := ⟨Nat.le_refl _, fun _ _ _ => rfl⟩
theorem Fp.trans {p : Option Nat} {h1 h2 h3 : Hh} (a : Fp p h1 h2) (b : Fp p h2 h3) : Fp p h1 h3 := ⟨Nat.le_trans a.1 b.1, fun i hi q => (b.2 i (Nat.lt_of_lt_of_le hi a.1) q).trans (a.2 i hi q)⟩
theorem Fp.get {p : Option Nat} {h1 h2 : Hh} {i : Nat} {o : O} (a : Fp p h1 h2) (e : h1[i]? = some o) (q : some i ≠ p) : h2[i]? = some o := (a.2 i (lt_of e) q).trans e
theorem Fp.push {p : Option Nat} {o : O} : Fp p h (h ++ [o]) := ⟨by simp, fun i hi _ => List.getElem?_append_left hi⟩
theorem Fp.set {p : Nat} {o : O} : Fp (some p) h (h.set p o) := ⟨by simp, fun i hi q => List.getElem?_set_ne fun z => q (by rw [z])⟩
theorem Fp.mono {p : Option Nat} {h1 h2 : Hh} (a : Fp none h1 h2) : Fp p h1 h2 := ⟨a.1, fun i hi _ => a.2 i hi (by simp)⟩
/-- a new object changes: of the old ones all stay -/
theorem Fp.newp {p : Nat} {h0 h1 h2 : Hh} {q : Option Nat} (a : Fp q h0 h1) (b : Fp (some p) h1 h2) (n : h0.length ≤ p) : Fp q h0 h2 := ⟨Nat.le_trans a.1 b.1, fun i hi z => (b.2 i (Nat.lt_of_lt_of_le hi a.1) (by simp; omega)).trans (a.2 i hi z)⟩
theorem get_push {o : O} : (h ++ [o])[h.length]? = some o := by simp
theorem get_set {i : Nat} {o o' : O} (e : h[i]? = some o') : (h.set i o)[i]? = some o := by simp [lt_of e]
/-! lists of texts -/
def GdL (l : List (List Nat)) : Prop := ∀ s ∈ l, Gd s
def addD (l : List (List Nat)) (x : List Nat) : List (List Nat) := if x ∈ l then l else l ++ [x]
def ddL (l : List (List Nat)) : List (List Nat) := l.foldl addD []
theorem addD_len {l : List (List Nat)} {x : List Nat} : (addD l x).length ≤ l.length + 1 := by unfold addD; split <;> simp
theorem foldl_len (xs l : List (List Nat)) : (xs.foldl addD l).length ≤ l.length + xs.length := by
  induction xs generalizing l with
  | nil => simp
  | cons x r ih => have := ih (addD l x); have := addD_len (l := l) (x := x); simp; omega
theorem foldl_mem {xs l : List (List Nat)} {y : List Nat} : y ∈ xs.foldl addD l ↔ y ∈ l ∨ y ∈ xs := by
  induction xs generalizing l with
  | nil => simp
  | cons x r ih =>
    rw [List.foldl_cons, ih]
    unfold addD
    split
    · rename_i q
      constructor
      · rintro (z | z)
        · exact .inl z
        · exact .inr (List.mem_cons_of_mem _ z)
      · rintro (z | z)
        · exact .inl z
        · rcases List.mem_cons.mp z with e | z
          · subst e; exact .inl q
          · exact .inr z
    · simp only [List.mem_append, List.mem_cons, List.not_mem_nil, or_false]
      constructor
      · rintro ((z | z) | z)
        · exact .inl z
        · exact .inr (.inl z)
        · exact .inr (.inr z)
      · rintro (z | z | z)
        · exact .inl (.inl z)
        · exact .inl (.inr z)
        · exact .inr z
theorem foldl_nodup {xs l : List (List Nat)} (n : l.Nodup) : (xs.foldl addD l).Nodup := by
  induction xs generalizing l with
  | nil => exact n
  | cons x r ih =>
    refine ih ?_
    unfold addD
    split
    · exact n
    · rename_i q
      exact List.nodup_append.mpr ⟨n, by simp, fun a ha b hb e => q (by rw [List.mem_singleton] at hb; rw [← hb, ← e]; exact ha)⟩
theorem inF_strs {s : List Nat} {l : List (List Nat)} : inF (.str s) (l.map D.str) = decide (s ∈ l) := by
  unfold inF
  induction l with
  | nil => simp
  | cons x r ih =>
    rw [List.map_cons, List.any_cons, ih]
    show ((x == s) || _) = _
    by_cases e : s = x
    · subst e; simp
    · have e' : ¬ x = s := fun z => e z.symm
      simp [e, e']
theorem flat_strs {l : List (List Nat)} : (l.map D.str).all flatD = true := by
  rw [List.all_eq_true]
  intro x hx
  obtain ⟨s, _, rfl⟩ := List.mem_map.mp hx
  rfl
theorem inD_lst {s : List Nat} {l : List (List Nat)} {p : Nat} (e : h[p]? = some (.lst (l.map D.str))) : inD h (.str s) (.ref p) = some (decide (s ∈ l)) := by
  have q : inD h (.str s) (.ref p) = (match h[p]? with
    | some (.lst ys) => if flatD (.str s) = true ∧ ys.all flatD = true then some (inF (.str s) ys) else
      match toPy 70 h (.str s), toPy 70 h (.ref p) with
      | some p, some (.list qs) => if SeqAt.shaped p = true ∧ SeqAt.shaped (.list qs) = true then some (qs.any fun z => PyData.eqv z p) else none
      | _, _ => none
    | _ => none) := by
    unfold inD
    split
    · rename_i h1 h2; cases h2
    · rename_i h1; cases h1
    · rename_i h1; cases h1; rfl
    · exfalso; simp_all
  rw [q, e]
  show (if flatD (.str s) = true ∧ (l.map D.str).all flatD = true then _ else _) = _
  rw [if_pos ⟨rfl, flat_strs⟩, inF_strs]
theorem cni_lst {s : List Nat} {l : List (List Nat)} {p : Nat} (e : h[p]? = some (.lst (l.map D.str))) : cmpD .notin (.str s) (.ref p) h = .ok (.bl (!decide (s ∈ l))) h := by
  show (match (inD h (.str s) (.ref p)).map (!·) with | some b => R.ok (D.bl b) h | none => R.bad) = _
  rw [inD_lst e]
  rfl
theorem inD_tup {s : List Nat} {l : List (List Nat)} : inD h (.str s) (.tup (l.map D.str)) = some (decide (s ∈ l)) := by
  have q : inD h (.str s) (.tup (l.map D.str)) = if flatD (.str s) = true ∧ (l.map D.str).all flatD = true then some (inF (.str s) (l.map D.str)) else none := by
    unfold inD
    split
    · rename_i h1 h2; cases h2
    · rename_i h1; cases h1; rfl
    · rename_i h1; cases h1
    · exfalso; simp_all
  rw [q, if_pos ⟨rfl, flat_strs⟩, inF_strs]
theorem cni_tup {s : List Nat} {l : List (List Nat)} : cmpD .notin (.str s) (.tup (l.map D.str)) h = .ok (.bl (!decide (s ∈ l))) h := by
  show (match (inD h (.str s) (.tup (l.map D.str))).map (!·) with | some b => R.ok (D.bl b) h | none => R.bad) = _
  rw [inD_tup]
  rfl
theorem strs_strs {l : List (List Nat)} : strsD (l.map D.str) = some l := by
  induction l with
  | nil => rfl
  | cons x r ih => show (strsD (r.map D.str)).map (x :: ·) = _; rw [ih]; rfl
theorem sorted_lst {l : List (List Nat)} {p : Nat} (e : h[p]? = some (.lst (l.map D.str))) (hl : l.length < 64) : sortedD [.ref p] h = .ok (.ref h.length) (h ++ [.lst ((srtL l).map D.str)]) := by
  unfold sortedD
  simp only [e, strs_strs]
  rw [if_pos hl]
theorem tuple_lst {xs : List D} {p : Nat} (e : h[p]? = some (.lst xs)) : tupleD [.ref p] h = .ok (.tup xs) h := by
  unfold tupleD
  simp only [e]
theorem app_lst {xs : List D} {y : D} {p : Nat} (e : h[p]? = some (.lst xs)) (hl : xs.length < SZ) : appD (.ref p) [y] h = .ok .non (h.set p (.lst (xs ++ [y]))) := by
  unfold appD
  simp only [e]
  rw [if_pos hl]
theorem mkLst_ok {xs : List D} (hl : xs.length ≤ SZ) : mkLst xs h = .ok (.ref h.length) (h ++ [.lst xs]) := if_pos hl
theorem mkTup_ok {xs : List D} (hl : xs.length ≤ SZ) : mkTup xs h = .ok (.tup xs) h := if_pos hl
theorem setF_ok {i c f : Nat} {fs : List (Nat × D)} {y : D} {isF : Nat → Bool} (e : h[i]? = some (.ins c fs)) (c1 : isF c = true) (c2 : fs.length < 1000) : setFD isF f y (.ref i) h = some (h.set i (.ins c (putD f y fs))) := by
  unfold setFD
  simp only [e]
  rw [if_pos ⟨c1, c2⟩]
theorem ty_lst {xs : List D} {p : Nat} (e : h[p]? = some (.lst xs)) : tyD "list" (.ref p) h = true := by
  unfold tyD
  simp only [e]
  rfl
/-! Strike.__init__ -/
def Stk (h : Hh) (i : Nat) (n : List Nat) (sh : List (List Nat)) : Prop := h[i]? = some (.ins 3 [(0, .str n), (1, .tup (sh.map D.str))])
def shl (sh : List (List Nat)) : List (List Nat) := srtL (ddL sh)
theorem isF0 : T.isF 0 3 = true := rfl
theorem isF1 : T.isF 1 3 = true := rfl
theorem bd_s2 {a b : D} {r : List D} (hl : r.length ≤ 1000) : (Bd.star 2).f (a :: b :: r) = some [a, b, .tup r] := by
  show (if 2 ≤ (a :: b :: r).length ∧ (a :: b :: r).length ≤ SZ then some ((a :: b :: r).take 2 ++ [.tup ((a :: b :: r).drop 2)]) else none) = _
  rw [if_pos ⟨by simp, by simp only [List.length_cons]; unfold SZ; omega⟩]
  rfl
theorem init_ok {i : Nat} {n : List Nat} {sh : List (List Nat)} (hi : h[i]? = some (.ins 3 [])) (gn : Gd n) (nn : isName n = true) (gs : GdL sh) (ns : ∀ s ∈ sh, isName s = true) (hl : sh.length < 60) :
    Rs (F scr (k + 3) m 2 (.ref i :: .str n :: sh.map D.str) h) .non fun h' => Stk h' i n (shl sh) ∧ Fp (some i) h h' := by
  have c1 := check_name (scr := scr) (k := k) (m := m) (h := h) gn nn
  have li := lt_of hi
  have e := phi_s (T := T) (lp := lpW) (scr := scr) (code := fun i => code[i]?) (k := k + 2) (f := 2) (m := m) (d := ⟨5, .star 2, b2⟩) (ds := .ref i :: .str n :: sh.map D.str) (h := h) rfl (bd_s2 (by simp; omega))
  show Rs (phi T lpW scr (fun i => code[i]?) (k + 2 + 1) m 2 _ h) _ _
  rw [e]
  show Rs (rtR (evSs (EN scr (k + 2)) m none b2 [some (.ref i), some (.str n), some (.tup (sh.map D.str)), none, none] h)) _ _
  simp [b2, fVar, c1, setF_ok hi isF0, putD, mkLst, itD]
  refine for_rs (xs := sh.map D.str) (fun j env hh => hh[i]? = some (.ins 3 [(0, .str n)]) ∧ hh[h.length]? = some (.lst (((sh.take j).foldl addD []).map D.str)) ∧ Fp (some i) h hh ∧ ∃ v, env = [some (.ref i), some (.str n), some (.tup (sh.map D.str)), some (.ref h.length), v]) ⟨?_, ?_, ?_, none, rfl⟩ (fun _ _ _ _ => is_tup) ?_ ?_
  · rw [List.getElem?_append_left (by simpa using li)]
    exact get_set hi
  · have : (h.set i (.ins 3 [(0, .str n)])).length = h.length := by simp
    rw [← this]
    exact get_push
  · exact Fp.set.trans Fp.push
  · rintro j d env hh ej ⟨e1, e2, fp, v, rfl⟩
    rw [List.getElem?_map] at ej
    cases en : sh[j]? with
    | none => rw [en] at ej; cases ej
    | some x =>
      rw [en] at ej
      cases ej
      refine ⟨_, rfl, ?_⟩
      have hm : x ∈ sh := List.mem_of_getElem? en
      have cx := check_name (scr := scr) (k := k) (m := m) (h := hh) (gs x hm) (ns x hm)
      have ht : (sh.take (j + 1)).foldl addD [] = addD ((sh.take j).foldl addD []) x := by rw [List.take_succ, en, List.foldl_append]; rfl
      have nl : i ≠ h.length := by omega
      by_cases q : x ∈ (sh.take j).foldl addD []
      · have q2 : addD ((sh.take j).foldl addD []) x = (sh.take j).foldl addD [] := if_pos q
        simp [fVar, cx, cni_lst e2, q]
        exact ⟨e1, by rw [ht, q2]; exact e2, fp⟩
      · have q2 : addD ((sh.take j).foldl addD []) x = (sh.take j).foldl addD [] ++ [x] := if_neg q
        have len := foldl_len (sh.take j) []
        have hla : (((sh.take j).foldl addD []).map D.str).length < SZ := by
          rw [List.length_map]
          have : (sh.take j).length ≤ sh.length := by rw [List.length_take]; omega
          unfold SZ
          simp only [List.length_nil] at len
          omega
        simp [fVar, cx, cni_lst e2, q, bmT, bmF, ty_lst e2, app_lst e2 hla]
        refine ⟨?_, ?_, ?_⟩
        · rw [List.getElem?_set_ne (Ne.symm nl)]; exact e1
        · rw [get_set e2, ht, q2]; simp
        · exact fp.newp Fp.set (Nat.le_refl _)
  · rintro env hh ⟨e1, e2, fp, v, rfl⟩
    rw [List.length_map, List.take_length] at e2
    have len := foldl_len sh []
    have nl : i ≠ h.length := by omega
    have so := sorted_lst (l := ddL sh) e2 (by unfold ddL; simp at len; omega)
    have li2 := lt_of e1
    have e3 : (hh ++ [O.lst ((srtL (ddL sh)).map D.str)])[i]? = some (.ins 3 [(0, .str n)]) := by rw [List.getElem?_append_left li2]; exact e1
    simp [fVar, biF, so, tuple_lst get_push, setF_ok e3 isF1, putD]
    refine ⟨?_, ?_⟩
    · exact get_set e3
    · exact (fp.trans Fp.push).trans Fp.set
/-- the first that is no name -/
def firstBad : List (List Nat) → Option (List Nat)
  | [] => none
  | s :: r => if isName s = true then firstBad r else some s
theorem fb_none {l : List (List Nat)} : firstBad l = none ↔ ∀ s ∈ l, isName s = true := by
  induction l with
  | nil => simp [firstBad]
  | cons s r ih =>
    unfold firstBad
    by_cases c : isName s = true
    · simp [c, ih]
    · simp [c]
theorem fb_some {l : List (List Nat)} {b : List Nat} (e : firstBad l = some b) : ∃ j : Nat, l[j]? = some b ∧ isName b = false ∧ ∀ (i : Nat) (s : List Nat), i < j → l[i]? = some s → isName s = true := by
  induction l with
  | nil => cases e
  | cons s r ih =>
    unfold firstBad at e
    by_cases c : isName s = true
    · rw [if_pos c] at e
      obtain ⟨j, h1, h2, h3⟩ := ih e
      refine ⟨j + 1, h1, h2, fun i t hi ht => ?_⟩
      cases i with
      | zero => cases ht; exact c
      | succ i => exact h3 i t (by omega) ht
    · rw [if_neg c] at e
      cases e
      exact ⟨0, rfl, by simpa using c, fun i s hi => by omega⟩
theorem init_bad0 {i : Nat} {n : List Nat} {sh : List (List Nat)} (gn : Gd n) (nn : isName n = false) (hl : sh.length < 60) : F scr (k + 3) false 2 (.ref i :: .str n :: sh.map D.str) h = .exc 1 [(0, .str n)] h := by
  have c1 := check_bad (scr := scr) (k := k) (h := h) gn nn
  have e := phi_s (T := T) (lp := lpW) (scr := scr) (code := fun i => code[i]?) (k := k + 2) (f := 2) (m := false) (d := ⟨5, .star 2, b2⟩) (ds := .ref i :: .str n :: sh.map D.str) (h := h) rfl (bd_s2 (by simp; omega))
  show phi T lpW scr (fun i => code[i]?) (k + 2 + 1) false 2 _ h = _
  rw [e]
  show rtR (evSs (EN scr (k + 2)) false none b2 [some (.ref i), some (.str n), some (.tup (sh.map D.str)), none, none] h) = _
  simp [b2, fVar, c1]
theorem init_bad {i : Nat} {n : List Nat} {sh : List (List Nat)} {b : List Nat} (hi : h[i]? = some (.ins 3 [])) (gn : Gd n) (nn : isName n = true) (gs : GdL sh) (eb : firstBad sh = some b) (hl : sh.length < 60) :
    Xs (F scr (k + 3) false 2 (.ref i :: .str n :: sh.map D.str) h) 1 [(0, .str b)] fun h' => Fp (some i) h h' := by
  obtain ⟨jb, ejb, hb, hbs⟩ := fb_some eb
  have c1 := check_name (scr := scr) (k := k) (m := false) (h := h) gn nn
  have li := lt_of hi
  have e := phi_s (T := T) (lp := lpW) (scr := scr) (code := fun i => code[i]?) (k := k + 2) (f := 2) (m := false) (d := ⟨5, .star 2, b2⟩) (ds := .ref i :: .str n :: sh.map D.str) (h := h) rfl (bd_s2 (by simp; omega))
  show Xs (phi T lpW scr (fun i => code[i]?) (k + 2 + 1) false 2 _ h) _ _ _
  rw [e]
  show Xs (rtR (evSs (EN scr (k + 2)) false none b2 [some (.ref i), some (.str n), some (.tup (sh.map D.str)), none, none] h)) _ _ _
  simp [b2, fVar, c1, setF_ok hi isF0, putD, mkLst, itD]
  refine for_xs (xs := sh.map D.str) (fun j env hh => j ≤ jb ∧ hh[i]? = some (.ins 3 [(0, .str n)]) ∧ hh[h.length]? = some (.lst (((sh.take j).foldl addD []).map D.str)) ∧ Fp (some i) h hh ∧ ∃ v, env = [some (.ref i), some (.str n), some (.tup (sh.map D.str)), some (.ref h.length), v]) ⟨Nat.zero_le _, ?_, ?_, ?_, none, rfl⟩ (fun _ _ _ _ => is_tup) ?_ ?_
  · rw [List.getElem?_append_left (by simpa using li)]
    exact get_set hi
  · have : (h.set i (.ins 3 [(0, .str n)])).length = h.length := by simp
    rw [← this]
    exact get_push
  · exact Fp.set.trans Fp.push
  · rintro j d env hh ej ⟨hj, e1, e2, fp, v, rfl⟩
    rw [List.getElem?_map] at ej
    cases en : sh[j]? with
    | none => rw [en] at ej; cases ej
    | some x =>
      rw [en] at ej
      cases ej
      refine ⟨_, rfl, ?_⟩
      have hm : x ∈ sh := List.mem_of_getElem? en
      by_cases jj : j = jb
      · subst jj
        rw [ejb] at en
        cases en
        have cx := check_bad (scr := scr) (k := k) (h := hh) (gs b hm) hb
        simp [fVar, cx]
        exact fp
      · have cx := check_name (scr := scr) (k := k) (m := false) (h := hh) (gs x hm) (hbs j x (by omega) en)
        have ht : (sh.take (j + 1)).foldl addD [] = addD ((sh.take j).foldl addD []) x := by rw [List.take_succ, en, List.foldl_append]; rfl
        have nl : i ≠ h.length := by omega
        by_cases q : x ∈ (sh.take j).foldl addD []
        · have q2 : addD ((sh.take j).foldl addD []) x = (sh.take j).foldl addD [] := if_pos q
          simp [fVar, cx, cni_lst e2, q]
          exact ⟨by omega, e1, by rw [ht, q2]; exact e2, fp⟩
        · have q2 : addD ((sh.take j).foldl addD []) x = (sh.take j).foldl addD [] ++ [x] := if_neg q
          have len := foldl_len (sh.take j) []
          have hla : (((sh.take j).foldl addD []).map D.str).length < SZ := by
            rw [List.length_map]
            have : (sh.take j).length ≤ sh.length := by rw [List.length_take]; omega
            unfold SZ
            simp only [List.length_nil] at len
            omega
          simp [fVar, cx, cni_lst e2, q, bmT, bmF, ty_lst e2, app_lst e2 hla]
          refine ⟨by omega, ?_, ?_, ?_⟩
          · rw [List.getElem?_set_ne (Ne.symm nl)]; exact e1
          · rw [get_set e2, ht, q2]; simp
          · exact fp.newp Fp.set (Nat.le_refl _)
  · rintro env hh ⟨hj, _⟩
    have := (List.getElem?_eq_some_iff.mp ejb).1
    rw [List.length_map] at hj
    omega
/-! lists of texts, equal -/
theorem mapM_strs {l : List (List Nat)} {n : Nat} : (l.map D.str).mapM (toPy (n + 1) h) = some (l.map fun s => PyData.str (sOf s)) := by
  induction l with
  | nil => rfl
  | cons x r ih =>
    rw [List.map_cons, List.mapM_cons, ih]
    rfl
theorem lay_strs {l : List (List Nat)} (g : GdL l) : PyData.canLayAll0 (l.map fun s => PyData.str (sOf s)) = true ∧ PyData.depthAll (l.map fun s => PyData.str (sOf s)) = 0 := by
  induction l with
  | nil => exact ⟨by simp [PyData.canLayAll0], by simp [PyData.depthAll]⟩
  | cons x r ih =>
    obtain ⟨h1, h2⟩ := ih fun s hs => g s (List.mem_cons_of_mem _ hs)
    have gx := strOk (g x List.mem_cons_self)
    exact ⟨by simp [PyData.canLayAll0, PyData.canLay0, gx, h1], by simp [PyData.depthAll, PyData.depth, h2]⟩
theorem eqvAll_strs {a : List (List Nat)} : ∀ b : List (List Nat), PyData.eqvAll (a.map fun s => PyData.str (sOf s)) (b.map fun s => PyData.str (sOf s)) = decide (a = b) := by
  induction a with
  | nil => intro b; cases b <;> simp [PyData.eqvAll]
  | cons x r ih =>
    intro b
    cases b with
    | nil => simp [PyData.eqvAll]
    | cons y t =>
      have e := ih t
      simp [PyData.eqvAll, eqv_str, sOf_beq, e]
theorem eqD_tup {a b : List (List Nat)} (ga : GdL a) (gb : GdL b) : eqD h (.tup (a.map D.str)) (.tup (b.map D.str)) = some (decide (a = b)) := by
  have e1 : toPy 70 h (.tup (a.map D.str)) = some (.tuple (a.map fun s => PyData.str (sOf s))) := by
    show ((a.map D.str).mapM (toPy 69 h)).map PyData.tuple = _
    rw [mapM_strs]; rfl
  have e2 : toPy 70 h (.tup (b.map D.str)) = some (.tuple (b.map fun s => PyData.str (sOf s))) := by
    show ((b.map D.str).mapM (toPy 69 h)).map PyData.tuple = _
    rw [mapM_strs]; rfl
  unfold eqD
  simp only [e1, e2]
  rw [if_pos ⟨by simp [SeqAt.shaped, PyData.canLay0, PyData.depth, lay_strs ga], by simp [SeqAt.shaped, PyData.canLay0, PyData.depth, lay_strs gb]⟩]
  have := eqvAll_strs (a := a) b
  simp [PyData.eqv, this]
theorem eqD_lst {a b : List (List Nat)} {i j : Nat} (ga : GdL a) (gb : GdL b) (ei : h[i]? = some (.lst (a.map D.str))) (ej : h[j]? = some (.lst (b.map D.str))) : eqD h (.ref i) (.ref j) = some (decide (a = b)) := by
  have e1 : toPy 70 h (.ref i) = some (.list (a.map fun s => PyData.str (sOf s))) := by
    show (match h[i]? with | some (.lst xs) => (xs.mapM (toPy 69 h)).map PyData.list | _ => none) = _
    rw [ei]
    show ((a.map D.str).mapM (toPy 69 h)).map PyData.list = _
    rw [mapM_strs]; rfl
  have e2 : toPy 70 h (.ref j) = some (.list (b.map fun s => PyData.str (sOf s))) := by
    show (match h[j]? with | some (.lst xs) => (xs.mapM (toPy 69 h)).map PyData.list | _ => none) = _
    rw [ej]
    show ((b.map D.str).mapM (toPy 69 h)).map PyData.list = _
    rw [mapM_strs]; rfl
  unfold eqD
  simp only [e1, e2]
  rw [if_pos ⟨by simp [SeqAt.shaped, PyData.canLay0, PyData.depth, lay_strs ga], by simp [SeqAt.shaped, PyData.canLay0, PyData.depth, lay_strs gb]⟩]
  have := eqvAll_strs (a := a) b
  simp [PyData.eqv, this]
theorem ceq_tup {a b : List (List Nat)} (ga : GdL a) (gb : GdL b) : cmpD .eq (.tup (a.map D.str)) (.tup (b.map D.str)) h = .ok (.bl (decide (a = b))) h := by
  show (match eqD h (.tup (a.map D.str)) (.tup (b.map D.str)) with | some b => R.ok (D.bl b) h | none => R.bad) = _
  rw [eqD_tup ga gb]
theorem ceq_lst {a b : List (List Nat)} {i j : Nat} (ga : GdL a) (gb : GdL b) (ei : h[i]? = some (.lst (a.map D.str))) (ej : h[j]? = some (.lst (b.map D.str))) : cmpD .eq (.ref i) (.ref j) h = .ok (.bl (decide (a = b))) h := by
  show (match eqD h (.ref i) (.ref j) with | some b => R.ok (D.bl b) h | none => R.bad) = _
  rw [eqD_lst ga gb ei ej]
theorem cne_lst {a b : List (List Nat)} {i j : Nat} (ga : GdL a) (gb : GdL b) (ei : h[i]? = some (.lst (a.map D.str))) (ej : h[j]? = some (.lst (b.map D.str))) : cmpD .ne (.ref i) (.ref j) h = .ok (.bl (!decide (a = b))) h := by
  show (match (eqD h (.ref i) (.ref j)).map (!·) with | some b => R.ok (D.bl b) h | none => R.bad) = _
  rw [eqD_lst ga gb ei ej]
  rfl
/-! Strike: what it tells -/
section
variable {i j : Nat} {n n2 : List Nat} {sh sh2 : List (List Nat)} {Φ : Nat → List D → Hh → R D}
theorem att_n (e : Stk h i n sh) : attD Φ (T.isF 0) (fun c => T.ccons.lookup (c, 0)) (fun c => T.props.lookup (c, 0)) 0 (.ref i) h = .ok (.str n) h := by
  unfold Stk at e
  unfold attD
  simp only [e]
  show fldD _ _ 0 (.ref i) h = _
  unfold fldD
  simp only [e]
  rfl
theorem att_s (e : Stk h i n sh) : attD Φ (T.isF 1) (fun c => T.ccons.lookup (c, 1)) (fun c => T.props.lookup (c, 1)) 1 (.ref i) h = .ok (.tup (sh.map D.str)) h := by
  unfold Stk at e
  unfold attD
  simp only [e]
  show fldD _ _ 1 (.ref i) h = _
  unfold fldD
  simp only [e]
  rfl
theorem att_p {f g : Nat} (e : Stk h i n sh) (p : T.props.lookup (3, f) = some g) : attD Φ (T.isF f) (fun c => T.ccons.lookup (c, f)) (fun c => T.props.lookup (c, f)) f (.ref i) h = noX (Φ g [.ref i] h) := by
  unfold Stk at e
  unfold attD
  simp only [e, p]
theorem isi_stk {ins : Nat → Bool} (hin : ins 3 = true) (e : Stk h i n sh) : isiD T.ist ins [.ref i, .cls 3] h = .ok (.bl true) h := by
  unfold Stk at e
  have k1 : kdD (.ref i) h = some (.ins 3) := by
    unfold kdD
    simp only [e]
  unfold isiD
  simp only [k1, clD]
  rw [if_pos (by exact hin)]
  rfl
theorem isi_s (e : Stk h i n sh) : isiD T.ist (fun c => decide (c ∈ T.iins)) [.ref i, .cls 3] h = .ok (.bl true) h := isi_stk (by decide) e
theorem insD_stk (e : Stk h i n sh) : insD (.ref i) h = some 3 := by
  unfold Stk at e
  unfold insD
  simp only [e]
theorem eq_run (e1 : Stk h i n sh) (e2 : Stk h j n2 sh2) (g1 : Gd n) (g2 : Gd n2) (gs1 : GdL sh) (gs2 : GdL sh2) : F scr (k + 1) m 3 [.ref i, .ref j] h = .ok (.bl (decide (n = n2) && decide (sh = sh2))) h := by
  refine (phi_s (d := ⟨2, .all 2, b3⟩) (ds' := [.ref i, .ref j]) rfl rfl).trans ?_
  show rtR (evSs (EN scr k) m none b3 [some (.ref i), some (.ref j)] h) = _
  by_cases c : n = n2
  · subst c
    simp [b3, fVar, biF, isi_s e2, att_n e1, att_n e2, att_s e1, att_s e2, ceq_str g1 g1, ceq_tup gs1 gs2]
  · simp [b3, fVar, biF, isi_s e2, att_n e1, att_n e2, att_s e1, att_s e2, ceq_str g1 g2, ceq_tup gs1 gs2, c]
theorem co_eq (e1 : Stk h i n sh) (e2 : Stk h j n2 sh2) (g1 : Gd n) (g2 : Gd n2) (gs1 : GdL sh) (gs2 : GdL sh2) : cmpO (fun c => T.owneq.lookup c) (phi T lpW scr (fun i => code[i]?) (k + 1) m) .eq (.ref i) (.ref j) h = .ok (.bl (decide (n = n2) && decide (sh = sh2))) h := by
  have e := eq_run (scr := scr) (k := k) (m := m) e1 e2 g1 g2 gs1 gs2
  unfold cmpO
  rw [insD_stk e1, insD_stk e2]
  show eqAns false (F scr (k + 1) m 3 [.ref i, .ref j] h) = _
  rw [e]
  rfl
theorem co_ne (e1 : Stk h i n sh) (e2 : Stk h j n2 sh2) (g1 : Gd n) (g2 : Gd n2) (gs1 : GdL sh) (gs2 : GdL sh2) : cmpO (fun c => T.owneq.lookup c) (phi T lpW scr (fun i => code[i]?) (k + 1) m) .ne (.ref i) (.ref j) h = .ok (.bl (!(decide (n = n2) && decide (sh = sh2)))) h := by
  have e := eq_run (scr := scr) (k := k) (m := m) e1 e2 g1 g2 gs1 gs2
  unfold cmpO
  rw [insD_stk e1, insD_stk e2]
  show eqAns true (F scr (k + 1) m 3 [.ref i, .ref j] h) = _
  rw [e]
  rfl
def raiseT : List Nat := [114, 97, 105, 115, 101]
theorem blow_run (e : Stk h i n sh) : F scr (k + 1) m 4 [.ref i] h = .ok (.tup [.str raiseT, .str n]) h := by
  refine (phi_s (d := ⟨1, .all 1, b4⟩) (ds' := [.ref i]) rfl rfl).trans ?_
  show rtR (evSs (EN scr k) m none b4 [some (.ref i)] h) = _
  have q := mkTup_ok (h := h) (xs := [.str raiseT, .str n]) (by show 2 ≤ SZ; decide)
  unfold raiseT at q ⊢
  simp [b4, fVar, att_n e, q]
theorem hits_run {q : List D} {s : List Nat} (e : Stk h i n sh) (hq : q[1]? = some (.str s)) (hl : q.length < 10) : F scr (k + 1) m 5 [.ref i, .tup q] h = .ok (.bl (!decide (s ∈ sh))) h := by
  refine (phi_s (d := ⟨2, .all 2, b5⟩) (ds' := [.ref i, .tup q]) rfl rfl).trans ?_
  show rtR (evSs (EN scr k) m none b5 [some (.ref i), some (.tup q)] h) = _
  have hx : idxD (.tup q) (.int 1) h = .ok (.str s) h := by
    have l1 : 1 < q.length := (List.getElem?_eq_some_iff.mp hq).1
    have e1 : L2.atI q 1 = some (.str s) := by
      unfold L2.atI L2.ixN
      rw [if_pos (by decide), if_pos (by omega)]
      exact hq
    unfold idxD
    simp only [e1]
  simp [b5, fVar, hx, att_s e, cni_tup]
end
/-! a new strike -/
@[simp] theorem ci3 : T.cini.lookup 3 = some 2 := rfl
theorem new_ok {n : List Nat} {sh : List (List Nat)} (gn : Gd n) (nn : isName n = true) (gs : GdL sh) (ns : ∀ s ∈ sh, isName s = true) (hl : sh.length < 60) :
    Rs (newR m 3 (phi T lpW scr (fun i => code[i]?) (k + 3) m 2) (.str n :: sh.map D.str) h) (.ref h.length) fun h' => Stk h' h.length n (shl sh) ∧ Fp none h h' := by
  obtain ⟨h', e, st, fp⟩ := init_ok (scr := scr) (k := k) (m := m) (h := h ++ [.ins 3 []]) (i := h.length) get_push gn nn gs ns hl
  have e' : phi T lpW scr (fun i => code[i]?) (k + 3) m 2 (.ref h.length :: .str n :: sh.map D.str) (h ++ [.ins 3 []]) = .ok .non h' := e
  unfold newR
  rw [e', hot_ok]
  exact ⟨h', rfl, st, Fp.newp Fp.push fp (Nat.le_refl _)⟩
theorem new_bad {n : List Nat} {sh : List (List Nat)} {b : List Nat} (gn : Gd n) (gs : GdL sh) (eb : firstBad (n :: sh) = some b) (hl : sh.length < 60) :
    Xs (newR false 3 (phi T lpW scr (fun i => code[i]?) (k + 3) false 2) (.str n :: sh.map D.str) h) 1 [(0, .str b)] fun h' => Fp none h h' := by
  unfold firstBad at eb
  by_cases c : isName n = true
  · rw [if_pos c] at eb
    obtain ⟨h', e, fp⟩ := init_bad (scr := scr) (k := k) (h := h ++ [.ins 3 []]) (i := h.length) get_push gn c gs eb hl
    have e' : phi T lpW scr (fun i => code[i]?) (k + 3) false 2 (.ref h.length :: .str n :: sh.map D.str) (h ++ [.ins 3 []]) = .exc 1 [(0, .str b)] h' := e
    unfold newR
    rw [e', hot_f]
    exact ⟨h', rfl, Fp.newp Fp.push fp (Nat.le_refl _)⟩
  · rw [if_neg c] at eb
    cases eb
    have e := init_bad0 (scr := scr) (k := k) (h := h ++ [.ins 3 []]) (i := h.length) gn (by simpa using c) hl
    have e' : phi T lpW scr (fun i => code[i]?) (k + 3) false 2 (.ref h.length :: .str n :: sh.map D.str) (h ++ [.ins 3 []]) = .exc 1 [(0, .str n)] (h ++ [.ins 3 []]) := e
    unfold newR
    rw [e', hot_f]
    exact ⟨_, rfl, Fp.push⟩
end K00

set_option maxRecDepth 100000
set_option maxHeartbeats 4000000
namespace K00
open PySem PySem.Spec PyProof.Rows PI
variable {scr : List Int} {k : Nat} {m : Bool} {h : Hh} {i j : Nat} {n n2 : List Nat} {sh sh2 : List (List Nat)}
theorem GdL.app {a b : List (List Nat)} (ga : GdL a) (gb : GdL b) : GdL (a ++ b) := fun s hs => (List.mem_append.mp hs).elim (ga s) (gb s)
theorem srt_mem {l : List (List Nat)} {x : List Nat} : x ∈ srtL l ↔ x ∈ l := (srtL_perm l).mem_iff
theorem shl_mem {l : List (List Nat)} {x : List Nat} : x ∈ shl l ↔ x ∈ l := by
  unfold shl ddL
  rw [srt_mem, foldl_mem]
  simp
theorem shl_gd {l : List (List Nat)} (g : GdL l) : GdL (shl l) := fun s hs => g s (shl_mem.mp hs)
theorem shl_len {l : List (List Nat)} : (shl l).length ≤ l.length := by
  unfold shl
  rw [(srtL_perm _).length_eq]
  have := foldl_len l []
  unfold ddL
  simpa using this
theorem nms_app {a b : List (List Nat)} (ha : ∀ s ∈ a, isName s = true) (hb : ∀ s ∈ b, isName s = true) : ∀ s ∈ a ++ b, isName s = true := fun s hs => (List.mem_append.mp hs).elim (ha s) (hb s)
theorem fb_app {a b : List (List Nat)} (ha : ∀ s ∈ a, isName s = true) : firstBad (a ++ b) = firstBad b := by
  induction a with
  | nil => rfl
  | cons x r ih =>
    show (if isName x = true then firstBad (r ++ b) else some x) = _
    rw [if_pos (ha x List.mem_cons_self)]
    exact ih fun s hs => ha s (List.mem_cons_of_mem _ hs)
theorem bd_s1 {a : D} {r : List D} (hl : r.length ≤ 1000) : (Bd.star 1).f (a :: r) = some [a, .tup r] := by
  show (if 1 ≤ (a :: r).length ∧ (a :: r).length ≤ SZ then some ((a :: r).take 1 ++ [.tup ((a :: r).drop 1)]) else none) = _
  rw [if_pos ⟨by simp, by simp only [List.length_cons]; unfold SZ; omega⟩]
  rfl
/-- shielded -/
theorem shield_ok {more : List (List Nat)} (e : Stk h i n sh) (gn : Gd n) (nn : isName n = true) (gs : GdL sh) (ns : ∀ s ∈ sh, isName s = true) (gm : GdL more) (nm : ∀ s ∈ more, isName s = true) (hl : sh.length + more.length < 60) :
    Rs (F scr (k + 4) m 6 (.ref i :: more.map D.str) h) (.ref h.length) fun h' => Stk h' h.length n (shl (sh ++ more)) ∧ Fp none h h' := by
  obtain ⟨h', e1, q⟩ := new_ok (scr := scr) (k := k) (m := m) (h := h) gn nn (gs.app gm) (nms_app ns nm) (by rw [List.length_append]; exact hl)
  have b := phi_s (T := T) (lp := lpW) (scr := scr) (code := fun i => code[i]?) (k := k + 3) (f := 6) (m := m) (d := ⟨2, .star 1, b6⟩) (ds := .ref i :: more.map D.str) (h := h) rfl (bd_s1 (by simp; omega))
  show Rs (phi T lpW scr (fun i => code[i]?) (k + 3 + 1) m 6 _ h) _ _
  rw [b]
  show Rs (rtR (evSs (EN scr (k + 3)) m none b6 [some (.ref i), some (.tup (more.map D.str))] h)) _ _
  rw [List.map_append] at e1
  simp [b6, fVar, att_n e, att_s e, starD, e1]
  exact q
theorem shield_bad {more : List (List Nat)} {b : List Nat} (e : Stk h i n sh) (gn : Gd n) (nn : isName n = true) (gs : GdL sh) (ns : ∀ s ∈ sh, isName s = true) (gm : GdL more) (eb : firstBad more = some b) (hl : sh.length + more.length < 60) :
    Xs (F scr (k + 4) false 6 (.ref i :: more.map D.str) h) 1 [(0, .str b)] fun h' => Fp none h h' := by
  have eb2 : firstBad (n :: (sh ++ more)) = some b := by
    show (if isName n = true then firstBad (sh ++ more) else some n) = _
    rw [if_pos nn, fb_app ns, eb]
  obtain ⟨h', e1, q⟩ := new_bad (scr := scr) (k := k) (h := h) gn (gs.app gm) eb2 (by rw [List.length_append]; exact hl)
  have b := phi_s (T := T) (lp := lpW) (scr := scr) (code := fun i => code[i]?) (k := k + 3) (f := 6) (m := false) (d := ⟨2, .star 1, b6⟩) (ds := .ref i :: more.map D.str) (h := h) rfl (bd_s1 (by simp; omega))
  show Xs (phi T lpW scr (fun i => code[i]?) (k + 3 + 1) false 6 _ h) _ _ _
  rw [b]
  show Xs (rtR (evSs (EN scr (k + 3)) false none b6 [some (.ref i), some (.tup (more.map D.str))] h)) _ _ _
  rw [List.map_append] at e1
  simp [b6, fVar, att_n e, att_s e, starD, e1]
  exact q
/-! text -/
def pastT : List Nat := [32, 112, 97, 115, 116, 32]
def txtOf (n : List Nat) (sh : List (List Nat)) : List Nat := if sh = [] then n else n ++ pastT ++ joinL [32] sh
def Sml (l : List (List Nat)) : Prop := l.length < 60 ∧ ∀ s ∈ l, s.length ≤ 118
theorem joinSum_le {l : List (List Nat)} (s : Sml l) : joinSum [32] l ≤ 10000 := by
  have : ∀ l : List (List Nat), (∀ s ∈ l, s.length ≤ 118) → (l.map List.length).sum ≤ 118 * l.length := by
    intro l
    induction l with
    | nil => intro _; simp
    | cons x r ih =>
      intro q
      have := ih fun s hs => q s (List.mem_cons_of_mem _ hs)
      have := q x List.mem_cons_self
      simp only [List.map_cons, List.sum_cons, List.length_cons]
      omega
  have a := this l s.2
  have b := s.1
  unfold joinSum
  simp only [List.length_singleton, Nat.mul_one]
  omega
theorem join_run {x : D} {l : List (List Nat)} (s : Sml l) (e : seqD x h = some (l.map D.str)) : joinD (.str [32]) [x] h = .ok (.str (joinL [32] l)) h := by
  unfold joinD
  simp only [e, Option.bind_some, strs_strs]
  rw [if_pos (Nat.le_trans (joinSum_le s) (by decide)), cps_tjoin]
theorem join_le {l : List (List Nat)} (s : Sml l) : (joinL [32] l).length ≤ 10000 := by
  cases l with
  | nil => exact Nat.zero_le _
  | cons x r =>
    have a := join_len (a := [32]) (ps := x :: r) (by simp)
    have b := joinSum_le s
    unfold joinSum at b
    omega
theorem fmt_str {z : List Nat} (hz : z.length ≤ SZ) : fmtD (.str z) h = .ok (.str z) h := if_pos hz
theorem text_run (e : Stk h i n sh) (gn : Gd n) (s : Sml sh) : F scr (k + 1) m 7 [.ref i] h = .ok (.str (txtOf n sh)) h := by
  refine (phi_s (d := ⟨2, .all 1, b7⟩) (ds' := [.ref i]) rfl rfl).trans ?_
  show rtR (evSs (EN scr k) m none b7 [some (.ref i), none] h) = _
  cases sh with
  | nil => simp [b7, fVar, att_n e, att_s e, biF, lenD, txtOf]
  | cons x r =>
    have j := join_run (h := h) (x := .tup ((x :: r).map D.str)) s rfl
    have jl := join_le s
    have hz : ¬ ((r.length : Int) + 1 = 0) := by omega
    have a1 : n.length ≤ SZ := gn.sz
    have a2 : (n ++ pastT).length ≤ SZ := by have := gn.l; unfold pastT SZ; simp; omega
    have a3 : (n ++ pastT ++ joinL [32] (x :: r)).length ≤ SZ := by have := gn.l; unfold pastT SZ; rw [List.length_append, List.length_append]; simp only [List.length_cons, List.length_nil]; omega
    have f1 := fmt_str (h := h) a1
    have f2 := fmt_str (h := h) (z := joinL [32] (x :: r)) (Nat.le_trans jl (by decide))
    unfold pastT at a2 a3
    simp only [List.map_cons] at j
    rw [List.append_assoc] at a3
    simp only [List.length_append, List.length_cons, List.length_nil] at a2 a3
    have a3' : n.length + (6 + (joinL [32] (x :: r)).length) ≤ SZ := by omega
    simp [b7, fVar, att_n e, att_s e, biF, lenD, hz, bmT, bmF, tyD, j, f1, f2, a1, a2, a3', txtOf, pastT]
/-! read -/
structure Tx (t : List Nat) : Prop where
  c : ∀ x ∈ t, x < 128
  l : t.length ≤ 118
theorem Tx.gd {t : List Nat} (g : Tx t) : Gd t := ⟨g.c, Nat.le_trans g.l (by decide)⟩
def nmP (t : List Nat) : List Nat := (partL t pastT).1
def wdP (t : List Nat) : List Nat := (partL t pastT).2.1
def rsP (t : List Nat) : List Nat := (partL t pastT).2.2
def nsP (t : List Nat) : List (List Nat) := if wdP t = [] then [] else splitL (rsP t) [32]
theorem Tx.sub {t p : List Nat} (g : Tx t) (hm : ∀ x ∈ p, x ∈ t) (hl : p.length ≤ t.length) : Tx p := ⟨fun x hx => g.c x (hm x hx), Nat.le_trans hl g.l⟩
theorem tx_parts {t : List Nat} (g : Tx t) : Tx (nmP t) ∧ Tx (wdP t) ∧ Tx (rsP t) := by
  have e := part_sum t pastT
  have mem : ∀ x, x ∈ nmP t ∨ x ∈ wdP t ∨ x ∈ rsP t → x ∈ t := fun x hx => by
    rw [← e]
    rcases hx with q | q | q
    · exact List.mem_append_left _ (List.mem_append_left _ q)
    · exact List.mem_append_left _ (List.mem_append_right _ q)
    · exact List.mem_append_right _ q
  have len : (nmP t).length + (wdP t).length + (rsP t).length = t.length := by
    have := congrArg List.length e
    rw [List.length_append, List.length_append] at this
    exact this
  exact ⟨g.sub (fun x hx => mem x (.inl hx)) (by omega), g.sub (fun x hx => mem x (.inr (.inl hx))) (by omega), g.sub (fun x hx => mem x (.inr (.inr hx))) (by omega)⟩
theorem sum_mem {p : List Nat} : ∀ {l : List (List Nat)}, p ∈ l → p.length ≤ (l.map List.length).sum
  | x :: r, hp => by
    simp only [List.map_cons, List.sum_cons]
    rcases List.mem_cons.mp hp with e | e
    · subst e; omega
    · have := sum_mem e; omega
theorem tx_ns {t : List Nat} (g : Tx t) : ∀ s ∈ nsP t, Tx s := by
  intro s hs
  unfold nsP at hs
  split at hs
  · cases hs
  · have gr := (tx_parts g).2.2
    have ej := split_join (rsP t) [32]
    have ne := split_ne (t := rsP t) (a := [32]) (by simp)
    refine gr.sub (fun x hx => ?_) ?_
    · rw [← ej]; exact mem_join hs hx
    · have a := join_len (a := [32]) ne
      have b := sum_mem hs
      rw [ej] at a
      have c : 0 < (splitL (rsP t) [32]).length := List.length_pos_iff.mpr ne
      simp only [List.length_singleton, Nat.mul_one] at a
      omega
theorem gd_ns {t : List Nat} (g : Tx t) : GdL (nsP t) := fun s hs => (tx_ns g s hs).gd
theorem name_pos {s : List Nat} (e : isName s = true) : 0 < s.length := by
  cases s with
  | nil => cases e
  | cons _ _ => exact Nat.succ_pos _
theorem ns_few {t : List Nat} (g : Tx t) (a : ∀ s ∈ nsP t, isName s = true) : (nsP t).length < 60 := by
  unfold nsP at a ⊢
  split
  · exact Nat.succ_pos _
  · rename_i c
    rw [if_neg c] at a
    have ej := split_join (rsP t) [32]
    have ne := split_ne (t := rsP t) (a := [32]) (by simp)
    have b := join_len (a := [32]) ne
    have gr := (tx_parts g).2.2.l
    rw [ej] at b
    simp only [List.length_singleton, Nat.mul_one] at b
    have : ∀ l : List (List Nat), (∀ s ∈ l, isName s = true) → l.length ≤ (l.map List.length).sum := by
      intro l
      induction l with
      | nil => intro _; simp
      | cons x r ih =>
        intro q
        have := ih fun s hs => q s (List.mem_cons_of_mem _ hs)
        have := name_pos (q x List.mem_cons_self)
        simp only [List.map_cons, List.sum_cons, List.length_cons]
        omega
    have := this _ a
    omega
theorem part_run {t : List Nat} (g : Gd t) : partD (.str t) [.str pastT] h = .ok (.tup [.str (nmP t), .str (wdP t), .str (rsP t)]) h := if_pos ⟨by decide, g.sz⟩
theorem split_run {t : List Nat} (g : Gd t) : splitD (.str t) [.str [32]] h = .ok (.ref h.length) (h ++ [.lst ((splitL t [32]).map D.str)]) := if_pos ⟨by decide, by have := g.l; unfold SZ; omega⟩
theorem list_tup {xs : List D} : listD scr [.tup xs] h = .ok (.ref h.length) (h ++ [.lst xs]) := rfl
@[simp] theorem xl2 : T.xcls.lookup 2 = some (1, [(6, 0)]) := rfl
theorem names_run {t : List Nat} (g : Tx t) {env : Ev} (e3 : env[3]? = some (some (.str (wdP t)))) (e4 : env[4]? = some (some (.str (rsP t)))) :
    (evP (EN scr k) m none (.ife (.cmp .ne (.var 3) (.str [])) (.bm .split (.var 4) (.cons (.str [32]) .nil)) (.lst .nil))).1 env h = .ok (.ref h.length) (h ++ [.lst ((nsP t).map D.str)]) := by
  have gw := (tx_parts g).2.1.gd
  have sr := split_run (h := h) (tx_parts g).2.2.gd
  by_cases c : wdP t = []
  · simp [fVar, e3, e4, cne_str gw gd_nil, c, nsP, mkLst]
    simp [cne_str gd_nil gd_nil]
  · simp [fVar, e3, e4, cne_str gw gd_nil, c, nsP, bmT, bmF, tyD, sr]
def exL : Nat × List (Nat × D) := (2, [(6, .int 1)])
theorem read_start {t : List Nat} (g : Tx t) {m : Bool} {r : CSs} {env : Ev} (hv : env[1]? = some (some (.str t))) (h5 : env.length = 8) :
    evSs (EN scr k) m none (.cons (.asg (.tup (.cons (.nm 2) (.cons (.nm 3) (.cons (.nm 4) .nil)))) (.bm .partition (.var 1) (.cons (.str [32, 112, 97, 115, 116, 32]) .nil))) (.cons (.set 5 (.ife (.cmp .ne (.var 3) (.str [])) (.bm .split (.var 4) (.cons (.str [32]) .nil)) (.lst .nil))) r)) env h
      = evSs (EN scr k) m none r ((((env.set 2 (some (.str (nmP t)))).set 3 (some (.str (wdP t)))).set 4 (some (.str (rsP t)))).set 5 (some (.ref h.length))) (h ++ [.lst ((nsP t).map D.str)]) := by
  have p := part_run (h := h) g.gd
  unfold pastT at p
  have nr := names_run (scr := scr) (k := k) (m := m) (h := h) g (env := ((env.set 2 (some (.str (nmP t)))).set 3 (some (.str (wdP t)))).set 4 (some (.str (rsP t)))) (by simp [h5]) (by simp [h5])
  simp only [PI.s1, sset, sasg3, asg3_ok, vbm, vvar, fVar, hv, bind_ok, bmT, bmF, tyD, a1, a0, vstr, p, bindS_ok, BEq.rfl, ifR_t, sqR_nx, nr]
theorem ns_len {t : List Nat} (g : Tx t) : (nsP t).length ≤ 120 := by
  unfold nsP
  split
  · simp
  · have ej := split_join (rsP t) [32]
    have ne := split_ne (t := rsP t) (a := [32]) (by simp)
    have b := join_len (a := [32]) ne
    have gr := (tx_parts g).2.2.l
    rw [ej] at b
    simp only [List.length_singleton, Nat.mul_one] at b
    omega
theorem ml_ns {t : List Nat} (g : Tx t) {h : Hh} : mkLst (.str (nmP t) :: (nsP t).map D.str) h = .ok (.ref h.length) (h ++ [.lst ((nmP t :: nsP t).map D.str)]) := by
  have := ns_len g
  exact mkLst_ok (h := h) (xs := .str (nmP t) :: (nsP t).map D.str) (by simp only [List.length_cons, List.length_map]; unfold SZ; omega)
theorem gd_all {t : List Nat} (g : Tx t) : GdL (nmP t :: nsP t) := fun s hs => by
  rcases List.mem_cons.mp hs with e | e
  · subst e; exact (tx_parts g).1.gd
  · exact gd_ns g s e
theorem read_bad {t b : List Nat} (g : Tx t) (eb : firstBad (nmP t :: nsP t) = some b) : Xs (F scr (k + 4) false 8 [.cls 3, .str t] h) 2 [(6, .int 1)] fun h' => Fp none h h' := by
  refine Eq.mpr (congrArg (fun r => Xs r 2 [(6, .int 1)] fun h' => Fp none h h') (phi_s (d := ⟨8, .all 2, b8⟩) (ds' := [.cls 3, .str t]) rfl rfl)) ?_
  show Xs (rtR (evSs (EN scr (k + 3)) false none b8 [some (.cls 3), some (.str t), none, none, none, none, none, none] h)) _ _ _
  unfold b8
  rw [read_start g rfl rfl]
  obtain ⟨jb, ejb, hb, hbs⟩ := fb_some eb
  simp [fVar, starD, ml_ns g, itD]
  refine for_xs (xs := (nmP t :: nsP t).map D.str) (fun j env hh => j ≤ jb ∧ hh = h ++ [.lst ((nsP t).map D.str)] ++ [.lst ((nmP t :: nsP t).map D.str)] ∧ ∃ v, env = [some (.cls 3), some (.str t), some (.str (nmP t)), some (.str (wdP t)), some (.str (rsP t)), some (.ref h.length), v, none]) ⟨Nat.zero_le _, by simp, none, rfl⟩ (fun j env hh q => is_lst (by rw [q.2.1]; simp)) ?_ ?_
  · rintro j d env hh ej ⟨hj, rfl, v, rfl⟩
    rw [List.getElem?_map] at ej
    cases en : (nmP t :: nsP t)[j]? with
    | none => rw [en] at ej; cases ej
    | some x =>
      rw [en] at ej
      cases ej
      refine ⟨_, rfl, ?_⟩
      have hm : x ∈ nmP t :: nsP t := List.mem_of_getElem? en
      have cx := is_name (scr := scr) (k := k + 2) (m := false) (h := h ++ [.lst ((nsP t).map D.str)] ++ [.lst ((nmP t :: nsP t).map D.str)]) (gd_all g x hm)
      simp only [List.append_assoc, List.cons_append, List.nil_append, List.map_cons] at cx ⊢
      by_cases jj : j = jb
      · subst jj
        rw [ejb] at en
        cases en
        simp [fVar, cx, hb, xfl]
        have := Fp.trans (Fp.push (p := none) (h := h) (o := .lst ((nsP t).map D.str))) (Fp.push (o := .lst ((nmP t :: nsP t).map D.str)))
        simpa using this
      · simp [fVar, cx, hbs j x (by omega) en]
        omega
  · rintro env hh ⟨hj, _⟩
    have := (List.getElem?_eq_some_iff.mp ejb).1
    rw [List.length_map] at hj
    omega
theorem read_ok {t : List Nat} (g : Tx t) (eb : firstBad (nmP t :: nsP t) = none) (es : shl (nsP t) = nsP t) : Rz (fun r => ∃ a h', r = .ok (.ref a) h' ∧ Stk h' a (nmP t) (nsP t) ∧ h.length ≤ a ∧ Fp none h h') (F scr (k + 4) m 8 [.cls 3, .str t] h) := by
  refine Eq.mpr (congrArg (fun r => Rz (fun r => ∃ a h', r = .ok (.ref a) h' ∧ Stk h' a (nmP t) (nsP t) ∧ h.length ≤ a ∧ Fp none h h') r) (phi_s (d := ⟨8, .all 2, b8⟩) (ds' := [.cls 3, .str t]) rfl rfl)) ?_
  show Rz _ (rtR (evSs (EN scr (k + 3)) m none b8 [some (.cls 3), some (.str t), none, none, none, none, none, none] h))
  unfold b8
  rw [read_start g rfl rfl]
  have hbs := fb_none.mp eb
  have nn := hbs _ List.mem_cons_self
  have ns := fun s hs => hbs s (List.mem_cons_of_mem _ hs)
  have gn := (tx_parts g).1.gd
  have gs := gd_ns g
  have few := ns_few g ns
  simp [fVar, starD, ml_ns g, itD]
  refine for_rz (xs := (nmP t :: nsP t).map D.str) (fun j env hh => hh = h ++ [.lst ((nsP t).map D.str)] ++ [.lst ((nmP t :: nsP t).map D.str)] ∧ ∃ v, env = [some (.cls 3), some (.str t), some (.str (nmP t)), some (.str (wdP t)), some (.str (rsP t)), some (.ref h.length), v, none]) ⟨by simp, none, rfl⟩ (fun j env hh q => is_lst (by rw [q.1]; simp)) ?_ ?_
  · rintro j d env hh ej ⟨rfl, v, rfl⟩
    rw [List.getElem?_map] at ej
    cases en : (nmP t :: nsP t)[j]? with
    | none => rw [en] at ej; cases ej
    | some x =>
      rw [en] at ej
      cases ej
      refine ⟨_, rfl, ?_⟩
      have hm : x ∈ nmP t :: nsP t := List.mem_of_getElem? en
      have cx := is_name (scr := scr) (k := k + 2) (m := m) (h := h ++ [.lst ((nsP t).map D.str)] ++ [.lst ((nmP t :: nsP t).map D.str)]) (gd_all g x hm)
      simp only [List.append_assoc, List.cons_append, List.nil_append, List.map_cons] at cx ⊢
      simp [fVar, cx, hbs x hm]
  · rintro env hh ⟨rfl, v, rfl⟩
    obtain ⟨h3, e3, st, fp⟩ := new_ok (scr := scr) (k := k) (m := m) (h := h ++ [.lst ((nsP t).map D.str)] ++ [.lst ((nmP t :: nsP t).map D.str)]) gn nn gs ns few
    have fp0 : Fp none h (h ++ [.lst ((nsP t).map D.str)] ++ [.lst ((nmP t :: nsP t).map D.str)]) := Fp.push.trans Fp.push
    have q1 : (h ++ [O.lst ((nsP t).map D.str)] ++ [.lst ((nmP t :: nsP t).map D.str)])[h.length]? = some (.lst ((nsP t).map D.str)) := by simp
    have q2 := fp.get q1 (by simp)
    have lt2 := lt_of q2
    have q3 : (h3 ++ [O.lst ((shl (nsP t)).map D.str)])[h.length]? = some (.lst ((nsP t).map D.str)) := by rw [List.getElem?_append_left lt2]; exact q2
    have cn := cne_lst (shl_gd gs) gs (get_push (h := h3) (o := .lst ((shl (nsP t)).map D.str))) q3
    have co := co_lst (ow := fun c => T.owneq.lookup c) (Φ := phi T lpW scr (fun i => code[i]?) (k + 3) m) (op := .ne) (y := .ref h.length) (get_push (h := h3) (o := .lst ((shl (nsP t)).map D.str)))
    simp only [List.append_assoc, List.cons_append, List.nil_append, List.map_cons, List.length_append, List.length_cons, List.length_nil] at e3 st
    rw [es] at st cn co
    simp [fVar, fNewV, starD, e3, att_s st, biF, list_tup, co, cn]
    refine ⟨_, _, rfl, (Fp.push (p := none)).get st (by simp), by simp, ?_⟩
    exact (fp0.trans fp).trans Fp.push
theorem read_odd {t : List Nat} (g : Tx t) (eb : firstBad (nmP t :: nsP t) = none) (es : shl (nsP t) ≠ nsP t) : Xs (F scr (k + 4) false 8 [.cls 3, .str t] h) 2 [(6, .int 1)] fun h' => Fp none h h' := by
  refine Eq.mpr (congrArg (fun r => Xs r 2 [(6, .int 1)] fun h' => Fp none h h') (phi_s (d := ⟨8, .all 2, b8⟩) (ds' := [.cls 3, .str t]) rfl rfl)) ?_
  show Xs (rtR (evSs (EN scr (k + 3)) false none b8 [some (.cls 3), some (.str t), none, none, none, none, none, none] h)) _ _ _
  unfold b8
  rw [read_start g rfl rfl]
  have hbs := fb_none.mp eb
  have nn := hbs _ List.mem_cons_self
  have ns := fun s hs => hbs s (List.mem_cons_of_mem _ hs)
  have gn := (tx_parts g).1.gd
  have gs := gd_ns g
  have few := ns_few g ns
  simp [fVar, starD, ml_ns g, itD]
  refine for_xs (xs := (nmP t :: nsP t).map D.str) (fun j env hh => hh = h ++ [.lst ((nsP t).map D.str)] ++ [.lst ((nmP t :: nsP t).map D.str)] ∧ ∃ v, env = [some (.cls 3), some (.str t), some (.str (nmP t)), some (.str (wdP t)), some (.str (rsP t)), some (.ref h.length), v, none]) ⟨by simp, none, rfl⟩ (fun j env hh q => is_lst (by rw [q.1]; simp)) ?_ ?_
  · rintro j d env hh ej ⟨rfl, v, rfl⟩
    rw [List.getElem?_map] at ej
    cases en : (nmP t :: nsP t)[j]? with
    | none => rw [en] at ej; cases ej
    | some x =>
      rw [en] at ej
      cases ej
      refine ⟨_, rfl, ?_⟩
      have hm : x ∈ nmP t :: nsP t := List.mem_of_getElem? en
      have cx := is_name (scr := scr) (k := k + 2) (m := false) (h := h ++ [.lst ((nsP t).map D.str)] ++ [.lst ((nmP t :: nsP t).map D.str)]) (gd_all g x hm)
      simp only [List.append_assoc, List.cons_append, List.nil_append, List.map_cons] at cx ⊢
      simp [fVar, cx, hbs x hm]
  · rintro env hh ⟨rfl, v, rfl⟩
    obtain ⟨h3, e3, st, fp⟩ := new_ok (scr := scr) (k := k) (m := false) (h := h ++ [.lst ((nsP t).map D.str)] ++ [.lst ((nmP t :: nsP t).map D.str)]) gn nn gs ns few
    have fp0 : Fp none h (h ++ [.lst ((nsP t).map D.str)] ++ [.lst ((nmP t :: nsP t).map D.str)]) := Fp.push.trans Fp.push
    have q1 : (h ++ [O.lst ((nsP t).map D.str)] ++ [.lst ((nmP t :: nsP t).map D.str)])[h.length]? = some (.lst ((nsP t).map D.str)) := by simp
    have q2 := fp.get q1 (by simp)
    have lt2 := lt_of q2
    have q3 : (h3 ++ [O.lst ((shl (nsP t)).map D.str)])[h.length]? = some (.lst ((nsP t).map D.str)) := by rw [List.getElem?_append_left lt2]; exact q2
    have cn := cne_lst (shl_gd gs) gs (get_push (h := h3) (o := .lst ((shl (nsP t)).map D.str))) q3
    have co := co_lst (ow := fun c => T.owneq.lookup c) (Φ := phi T lpW scr (fun i => code[i]?) (k + 3) false) (op := .ne) (y := .ref h.length) (get_push (h := h3) (o := .lst ((shl (nsP t)).map D.str)))
    simp only [List.append_assoc, List.cons_append, List.nil_append, List.map_cons, List.length_append, List.length_cons, List.length_nil] at e3 st
    simp [fVar, fNewV, starD, e3, att_s st, biF, list_tup, co, cn, es, xfl]
    exact (fp0.trans fp).trans Fp.push
end K00

set_option maxRecDepth 100000
set_option maxHeartbeats 4000000
namespace K00
open PySem PySem.Spec PyProof.Rows PI
variable {scr : List Int} {k : Nat} {m : Bool} {h : Hh} {i j : Nat}
/-- where x goes -/
def posL (x : List Nat) : List (List Nat) → Nat
  | [] => 0
  | y :: r => if y < x then posL x r + 1 else 0
theorem pos_le {x : List Nat} : ∀ {l : List (List Nat)}, posL x l ≤ l.length
  | [] => Nat.le_refl _
  | y :: r => by
    unfold posL
    split
    · have := pos_le (x := x) (l := r); simp; exact this
    · simp
theorem pos_lt {x : List Nat} : ∀ {l : List (List Nat)} {i : Nat} {y : List Nat}, i < posL x l → l[i]? = some y → y < x
  | [], i, y, h, _ => by cases h
  | z :: r, i, y, h, e => by
    unfold posL at h
    by_cases c : z < x
    · rw [if_pos c] at h
      cases i with
      | zero => cases e; exact c
      | succ i => exact pos_lt (l := r) (i := i) (by omega) e
    · rw [if_neg c] at h
      cases h
theorem pos_at {x : List Nat} : ∀ {l : List (List Nat)} {y : List Nat}, l[posL x l]? = some y → ¬ y < x
  | [], y, e => by cases e
  | z :: r, y, e => by
    unfold posL at e
    by_cases c : z < x
    · rw [if_pos c] at e
      exact pos_at (l := r) e
    · rw [if_neg c] at e
      cases e
      exact c
theorem ins_pos {x : List Nat} : ∀ {l : List (List Nat)}, insL x l = l.take (posL x l) ++ [x] ++ l.drop (posL x l)
  | [] => rfl
  | y :: r => by
    unfold insL posL
    by_cases c : y < x
    · rw [if_pos c, if_pos c, ins_pos (l := r)]
      rfl
    · rw [if_neg c, if_neg c]
      rfl
theorem idx_strs {l : List (List Nat)} {a : Nat} {x : List Nat} (e : h[a]? = some (.lst (l.map D.str))) {i : Nat} (ei : l[i]? = some x) : idxD (.ref a) (.int i) h = .ok (.str x) h := by
  have li := (List.getElem?_eq_some_iff.mp ei).1
  have e1 : L2.atI (l.map D.str) (i : Int) = some (.str x) := by
    unfold L2.atI L2.ixN
    rw [if_pos (by omega), if_pos (by rw [List.length_map]; omega)]
    show (l.map D.str)[(i : Int).toNat]? = _
    rw [Int.toNat_natCast, List.getElem?_map, ei]
    rfl
  unfold idxD
  simp only [e, e1]
theorem len_lst {xs : List D} {a : Nat} (e : h[a]? = some (.lst xs)) : lenD [.ref a] h = .ok (.int xs.length) h := by
  unfold lenD
  simp only [e]
@[simp] theorem clt_str {a b : List Nat} : cmpD .lt (.str a) (.str b) h = .ok (.bl (decide (a < b))) h := rfl
theorem ins_run {l : List (List Nat)} {a p : Nat} {x : List Nat} (e : h[a]? = some (.lst (l.map D.str))) (hp : p ≤ l.length) (hl : l.length < 1000) : insD' (.ref a) [.int p, .str x] h = .ok .non (h.set a (.lst ((l.take p ++ [x] ++ l.drop p).map D.str))) := by
  unfold insD'
  simp only [e]
  rw [if_pos ⟨by rw [List.length_map]; unfold SZ; omega, by omega, by omega⟩]
  simp [List.map_take, List.map_drop]
/-- the while of _law_sorted -/
theorem whl_run {l : List (List Nat)} {a : Nat} {x : List Nat} {v : Option D} (e : h[a]? = some (.lst (l.map D.str))) :
    lpW (whStep (evP (EN scr k) m none (.and_ (.cons (.cmp .lt (.var 3) (.bi .len (.cons (.var 1) .nil))) (.cons (.cmp .lt (.idx (.var 1) (.var 3)) (.var 2)) .nil)))).2 (evSs (EN scr k) m none (.cons (.set 3 (.bin .add (.var 3) (.int 1))) .nil))) (0, [v, some (.ref a), some (.str x), some (.int 0)], h)
      = .nx [v, some (.ref a), some (.str x), some (.int (posL x l))] h := by
  refine whl_rule (fun n env hh => hh = h ∧ ∃ i : Nat, i + n = posL x l ∧ env = [v, some (.ref a), some (.str x), some (.int i)]) (fun r => r = _) ?_ (posL x l) 0 _ h ⟨rfl, 0, by omega, rfl⟩
  rintro n env hh ⟨rfl, i, hi, rfl⟩
  have ll := len_lst e
  rw [List.length_map] at ll
  have hle := pos_le (x := x) (l := l)
  by_cases c : i < l.length
  · obtain ⟨y, ey⟩ : ∃ y, l[i]? = some y := ⟨l[i], List.getElem?_eq_getElem c⟩
    have ix := idx_strs e ey
    by_cases d : y < x
    · right
      have ne : n ≠ 0 := by
        intro z
        subst z
        have : i = posL x l := by omega
        rw [this] at ey
        exact pos_at ey d
      refine ⟨hh, by simp [fVar, biF, ll, c, ix, d], ?_⟩
      simp [fVar, binD]
      exact ⟨n - 1, by omega, i + 1, by omega, by simp⟩
    · left
      have : i = posL x l := by
        rcases Nat.lt_or_ge i (posL x l) with z | z
        · exact absurd (pos_lt z ey) d
        · omega
      refine ⟨hh, by simp [fVar, biF, ll, c, ix, d], ?_⟩
      rw [this]
  · left
    have : i = posL x l := by omega
    refine ⟨hh, by simp [fVar, biF, ll, c], ?_⟩
    rw [this]
def srt2 (l : List (List Nat)) : List (List Nat) := l.foldl (fun acc x => insL x acc) []
theorem ins_len {x : List Nat} {l : List (List Nat)} : (insL x l).length = l.length + 1 := by rw [(insL_perm x l).length_eq]; rfl
theorem srt2_len (l acc : List (List Nat)) : (l.foldl (fun acc x => insL x acc) acc).length = acc.length + l.length := by
  induction l generalizing acc with
  | nil => rfl
  | cons x r ih => rw [List.foldl_cons, ih, ins_len, List.length_cons]; omega
theorem sorted_run {l : List (List Nat)} {r : Nat} (e : h[r]? = some (.lst (l.map D.str))) (hl : l.length < 900) : Rs (F scr (k + 1) m 14 [.ref r] h) (.ref h.length) fun h' => h'[h.length]? = some (.lst ((srt2 l).map D.str)) ∧ Fp none h h' := by
  refine Eq.mpr (congrArg (fun z => Rs z (.ref h.length) fun h' => h'[h.length]? = some (.lst ((srt2 l).map D.str)) ∧ Fp none h h') (phi_s (d := ⟨4, .all 1, b14⟩) (ds' := [.ref r]) rfl rfl)) ?_
  show Rs (rtR (evSs (EN scr k) m none b14 [some (.ref r), none, none, none] h)) _ _
  have lr := lt_of e
  have e0 : (h ++ [O.lst []])[r]? = some (.lst (l.map D.str)) := by rw [List.getElem?_append_left lr]; exact e
  simp [b14, fVar, mkLst, itD, e0]
  refine for_rs (xs := l.map D.str) (fun j env hh => hh[r]? = some (.lst (l.map D.str)) ∧ hh[h.length]? = some (.lst (((l.take j).foldl (fun acc x => insL x acc) []).map D.str)) ∧ Fp none h hh ∧ ∃ v w, env = [some (.ref r), some (.ref h.length), v, w]) ⟨e0, get_push, Fp.push, none, none, rfl⟩ (fun j env hh q => is_lst q.1) ?_ ?_
  · rintro j d env hh ej ⟨e1, e2, fp, v, w, rfl⟩
    rw [List.getElem?_map] at ej
    cases en : l[j]? with
    | none => rw [en] at ej; cases ej
    | some x =>
      rw [en] at ej
      cases ej
      refine ⟨_, rfl, ?_⟩
      have wr := whl_run (scr := scr) (k := k) (m := m) (x := x) (v := some (.ref r)) e2
      have ht : (l.take (j + 1)).foldl (fun acc x => insL x acc) [] = insL x ((l.take j).foldl (fun acc x => insL x acc) []) := by rw [List.take_succ, en, List.foldl_append]; rfl
      have len := srt2_len (l.take j) []
      have tl : (l.take j).length ≤ l.length := by rw [List.length_take]; omega
      simp only [List.length_nil, Nat.zero_add] at len
      have ir := ins_run (x := x) e2 (pos_le (x := x)) (by omega)
      rw [← ins_pos] at ir
      simp [fVar, wr, bmT, bmF, ty_lst e2, ir]
      refine ⟨?_, ?_, fp.newp Fp.set (Nat.le_refl _)⟩
      · rw [List.getElem?_set_ne (by omega)]; exact e1
      · rw [get_set e2, ht]
  · rintro env hh ⟨e1, e2, fp, v, w, rfl⟩
    rw [List.length_map, List.take_length] at e2
    simp [fVar]
    exact ⟨e2, fp⟩
end K00

set_option maxRecDepth 100000
set_option maxHeartbeats 4000000
namespace K00
open PySem PySem.Spec PyProof.Rows PI
variable {scr : List Int} {k : Nat} {m : Bool} {h : Hh} {i j : Nat}
theorem srt2_perm (l acc : List (List Nat)) : (l.foldl (fun acc x => insL x acc) acc).Perm (acc ++ l) := by
  induction l generalizing acc with
  | nil => simp
  | cons x r ih =>
    rw [List.foldl_cons]
    refine (ih _).trans ?_
    refine ((insL_perm x acc).append_right r).trans ?_
    exact (List.perm_middle).symm
theorem srt2_rises (l acc : List (List Nat)) (ha : acc.Pairwise (· ≤ ·)) : (l.foldl (fun acc x => insL x acc) acc).Pairwise (· ≤ ·) := by
  induction l generalizing acc with
  | nil => exact ha
  | cons x r ih => exact ih _ (insL_rises x _ ha)
theorem srt2_eq (l : List (List Nat)) : srt2 l = srtL l := by
  refine List.Perm.eq_of_pairwise (le := fun a b => a ≤ b) (fun a b _ _ h1 h2 => List.le_antisymm h1 h2) (srt2_rises l [] .nil) (srtL_rises l) ?_
  have := srt2_perm l []
  simp only [List.nil_append] at this
  exact List.Perm.trans this (srtL_perm l).symm
/-- _law_once -/
theorem once_run {l : List (List Nat)} {r : Nat} (e : h[r]? = some (.lst (l.map D.str))) (hl : l.length < 900) : Rz (fun z => ∃ a h', z = .ok (.ref a) h' ∧ h'[a]? = some (.lst ((shl l).map D.str)) ∧ h.length ≤ a ∧ Fp none h h') (F scr (k + 2) m 13 [.ref r] h) := by
  refine Eq.mpr (congrArg (fun z => Rz (fun z => ∃ a h', z = .ok (.ref a) h' ∧ h'[a]? = some (.lst ((shl l).map D.str)) ∧ h.length ≤ a ∧ Fp none h h') z) (phi_s (d := ⟨3, .all 1, b13⟩) (ds' := [.ref r]) rfl rfl)) ?_
  show Rz _ (rtR (evSs (EN scr (k + 1)) m none b13 [some (.ref r), none, none] h))
  have lr := lt_of e
  have e0 : (h ++ [O.lst []])[r]? = some (.lst (l.map D.str)) := by rw [List.getElem?_append_left lr]; exact e
  simp [b13, fVar, mkLst, itD, e0]
  refine for_rz (xs := l.map D.str) (fun j env hh => hh[r]? = some (.lst (l.map D.str)) ∧ hh[h.length]? = some (.lst (((l.take j).foldl addD []).map D.str)) ∧ Fp none h hh ∧ ∃ v, env = [some (.ref r), some (.ref h.length), v]) ⟨e0, get_push, Fp.push, none, rfl⟩ (fun j env hh q => is_lst q.1) ?_ ?_
  · rintro j d env hh ej ⟨e1, e2, fp, v, rfl⟩
    rw [List.getElem?_map] at ej
    cases en : l[j]? with
    | none => rw [en] at ej; cases ej
    | some x =>
      rw [en] at ej
      cases ej
      refine ⟨_, rfl, ?_⟩
      have ht : (l.take (j + 1)).foldl addD [] = addD ((l.take j).foldl addD []) x := by rw [List.take_succ, en, List.foldl_append]; rfl
      by_cases q : x ∈ (l.take j).foldl addD []
      · have q2 : addD ((l.take j).foldl addD []) x = (l.take j).foldl addD [] := if_pos q
        simp [fVar, cni_lst e2, q]
        exact ⟨e1, by rw [ht, q2]; exact e2, fp⟩
      · have q2 : addD ((l.take j).foldl addD []) x = (l.take j).foldl addD [] ++ [x] := if_neg q
        have len := foldl_len (l.take j) []
        have hla : (((l.take j).foldl addD []).map D.str).length < SZ := by
          rw [List.length_map]
          have : (l.take j).length ≤ l.length := by rw [List.length_take]; omega
          unfold SZ
          simp only [List.length_nil] at len
          omega
        simp [fVar, cni_lst e2, q, bmT, bmF, ty_lst e2, app_lst e2 hla]
        refine ⟨?_, ?_, ?_⟩
        · rw [List.getElem?_set_ne (by omega)]; exact e1
        · rw [get_set e2, ht, q2]; simp
        · exact fp.newp Fp.set (Nat.le_refl _)
  · rintro env hh ⟨e1, e2, fp, v, rfl⟩
    rw [List.length_map, List.take_length] at e2
    have len := foldl_len l []
    obtain ⟨h', es, q1, q2⟩ := sorted_run (scr := scr) (k := k) (m := m) (l := ddL l) e2 (by unfold ddL; simp only [List.length_nil] at len; omega)
    have es' : phi T lpW scr (fun i => code[i]?) (k + 1) m 14 [.ref h.length] hh = .ok (.ref hh.length) h' := es
    simp [fVar, es']
    refine ⟨_, _, rfl, ?_, fp.1, fp.trans q2⟩
    rw [q1, srt2_eq]
    rfl
/-! _law_same: the same values -/
mutual
def goodD : D → Bool
  | .non => true
  | .bl _ => true
  | .int _ => true
  | .str s => s.all (fun x => decide (x < 128)) && decide (s.length ≤ 10000)
  | .tup xs => decide (xs.length < 10000) && goodDs xs
  | _ => false
def goodDs : List D → Bool
  | [] => true
  | x :: r => goodD x && goodDs r
end
theorem good_tup {xs : List D} (g : goodD (.tup xs) = true) : xs.length < 10000 ∧ goodDs xs = true := by
  unfold goodD at g
  rw [Bool.and_eq_true, decide_eq_true_eq] at g
  exact g
theorem good_str {s : List Nat} : goodD (.str s) = true ↔ Gd s := by
  unfold goodD
  simp only [Bool.and_eq_true, List.all_eq_true, decide_eq_true_eq]
  exact ⟨fun h => ⟨h.1, h.2⟩, fun h => ⟨h.c, h.l⟩⟩
mutual
def depD : D → Nat
  | .tup xs => depDs xs + 1
  | _ => 0
def depDs : List D → Nat
  | [] => 0
  | x :: r => max (depD x) (depDs r)
end
theorem goodDs_get : ∀ {xs : List D} {i : Nat} {d : D}, goodDs xs = true → xs[i]? = some d → goodD d = true ∧ depD d ≤ depDs xs
  | x :: r, 0, d, g, e => by
    cases e
    simp only [goodDs, Bool.and_eq_true] at g
    exact ⟨g.1, by simp only [depDs]; omega⟩
  | x :: r, i + 1, d, g, e => by
    simp only [goodDs, Bool.and_eq_true] at g
    obtain ⟨h1, h2⟩ := goodDs_get (xs := r) (i := i) g.2 e
    exact ⟨h1, by simp only [depDs]; omega⟩
section
variable {ins : Nat → Bool} {t : String}
theorem isd {x : D} {kx : Kd} {b : Bool} (e : kdD x h = some kx) (hi : insK ins kx = true) (hl : T.ist.lookup (kx, .bt t) = some b) : isiD T.ist ins [x, .ty t] h = .ok (.bl b) h := by
  unfold isiD
  simp only [e, clD]
  rw [if_pos hi]
  simp only [hl]
end
@[simp] theorem nm_bool : Bt.nm .bool = "bool" := rfl
@[simp] theorem nm_int : Bt.nm .int = "int" := rfl
@[simp] theorem nm_str : Bt.nm .str = "str" := rfl
@[simp] theorem nm_tuple : Bt.nm .tuple = "tuple" := rfl
@[simp] theorem nm_list : Bt.nm .list = "list" := rfl
theorem isd_non {ins : Nat → Bool} {t : String} {b : Bool} (hl : T.ist.lookup (.non, .bt t) = some b) : isiD T.ist ins [.non, .ty t] h = .ok (.bl b) h := isd (kx := .non) rfl rfl hl
theorem isd_bl {ins : Nat → Bool} {t : String} {b c : Bool} (hl : T.ist.lookup (.bl, .bt t) = some b) : isiD T.ist ins [.bl c, .ty t] h = .ok (.bl b) h := isd (kx := .bl) rfl rfl hl
theorem isd_int {ins : Nat → Bool} {t : String} {b : Bool} {c : Int} (hl : T.ist.lookup (.int, .bt t) = some b) : isiD T.ist ins [.int c, .ty t] h = .ok (.bl b) h := isd (kx := .int) rfl rfl hl
theorem isd_str {ins : Nat → Bool} {t : String} {b : Bool} {c : List Nat} (hl : T.ist.lookup (.str, .bt t) = some b) : isiD T.ist ins [.str c, .ty t] h = .ok (.bl b) h := isd (kx := .str) rfl rfl hl
theorem isd_tup {ins : Nat → Bool} {t : String} {b : Bool} {c : List D} (hl : T.ist.lookup (.tup, .bt t) = some b) : isiD T.ist ins [.tup c, .ty t] h = .ok (.bl b) h := isd (kx := .tup) rfl rfl hl
theorem isd_lst {ins : Nat → Bool} {t : String} {b : Bool} {c : List D} {a : Nat} (e : h[a]? = some (.lst c)) (hl : T.ist.lookup (.lst, .bt t) = some b) : isiD T.ist ins [.ref a, .ty t] h = .ok (.bl b) h := isd (kx := .lst) (by unfold kdD; simp only [e]) rfl hl
theorem isn_ {x : D} (hx : x ≠ .non) (hr : ∀ a, x ≠ .cls a) : cmpD .is x .non h = .ok (.bl false) h := by
  cases x <;> first | rfl | exact absurd rfl hx
@[simp] theorem cne_int {a b : Int} : cmpD .ne (.int a) (.int b) h = .ok (.bl (!decide (a = b))) h := by
  show (match (eqD h (.int a) (.int b)).map (!·) with | some b => R.ok (D.bl b) h | none => R.bad) = _
  rw [eqD_int]
  rfl
theorem rng1 {n : Nat} (hn : n < 100000) : rngD1 [.int n] h = .ok (.rng 0 n) h := by
  simp only [rngD1]
  rw [if_pos (by constructor <;> omega), Int.toNat_natCast]
theorem idx_tup {xs : List D} {i : Nat} {x : D} (ei : xs[i]? = some x) : idxD (.tup xs) (.int i) h = .ok x h := by
  have li := (List.getElem?_eq_some_iff.mp ei).1
  have e1 : L2.atI xs (i : Int) = some x := by
    unfold L2.atI L2.ixN
    rw [if_pos (by omega), if_pos (by omega)]
    show xs[(i : Int).toNat]? = _
    rw [Int.toNat_natCast, ei]
  unfold idxD
  simp only [e1]
theorem idx_lst {xs : List D} {a : Nat} (e : h[a]? = some (.lst xs)) {i : Nat} {x : D} (ei : xs[i]? = some x) : idxD (.ref a) (.int i) h = .ok x h := by
  have li := (List.getElem?_eq_some_iff.mp ei).1
  have e1 : L2.atI xs (i : Int) = some x := by
    unfold L2.atI L2.ixN
    rw [if_pos (by omega), if_pos (by omega)]
    show xs[(i : Int).toNat]? = _
    rw [Int.toNat_natCast, ei]
  unfold idxD
  simp only [e, e1]
@[simp] theorem is_nn : cmpD .is .non .non h = .ok (.bl true) h := rfl
@[simp] theorem is_bn {b : Bool} : cmpD .is (.bl b) .non h = .ok (.bl false) h := rfl
@[simp] theorem is_in {b : Int} : cmpD .is (.int b) .non h = .ok (.bl false) h := rfl
@[simp] theorem is_sn {b : List Nat} : cmpD .is (.str b) .non h = .ok (.bl false) h := rfl
@[simp] theorem is_tn {b : List D} : cmpD .is (.tup b) .non h = .ok (.bl false) h := rfl
@[simp] theorem is_rn {b : Nat} : cmpD .is (.ref b) .non h = .ok (.bl false) h := rfl
@[simp] theorem isnot_nn : cmpD .isnot .non .non h = .ok (.bl false) h := rfl
@[simp] theorem isnot_sn {b : List Nat} : cmpD .isnot (.str b) .non h = .ok (.bl true) h := rfl
@[simp] theorem isnot_rn {b : Nat} : cmpD .isnot (.ref b) .non h = .ok (.bl true) h := rfl
@[simp] theorem is_bb {a b : Bool} : cmpD .is (.bl a) (.bl b) h = .ok (.bl (a == b)) h := rfl
theorem ri_lst {a b n : Nat} {xs : List D} (hn : xs.length < 100000) (eb : h[b]? = some (.lst xs)) : evI (EN scr n) m none (.rng1 (.bi .len (.cons (.var 1) .nil))) [some (.ref a), some (.ref b), none] h = .ok (.rng 0 xs.length) h := by
  rw [ir1, vbi]
  simp only [PI.a1, PI.a0, vvar, fVar, biF]
  simp only [List.getElem?_cons_succ, List.getElem?_cons_zero, bind_ok]
  rw [len_lst eb, bind_ok]
  exact rng1 hn
theorem len_tup {xs : List D} : lenD [.tup xs] h = .ok (.int xs.length) h := Eq.trans rfl rfl
theorem ri_tup {n : Nat} {xs : List D} (hn : xs.length < 100000) : evI (EN scr n) m none (.rng1 (.bi .len (.cons (.var 1) .nil))) [some (.tup xs), some (.tup xs), none] h = .ok (.rng 0 xs.length) h := by
  rw [ir1, vbi]
  simp only [PI.a1, PI.a0, vvar, fVar, biF]
  simp only [List.getElem?_cons_succ, List.getElem?_cons_zero, bind_ok]
  rw [len_tup, bind_ok]
  exact rng1 hn
theorem same_flat {n : Nat} {d : D} (g : goodD d = true) (nt : depD d = 0) (nt2 : ∀ xs, d ≠ .tup xs) : F scr (n + 1) m 15 [d, d] h = .ok (.bl true) h := by
  refine (phi_s (d := ⟨3, .all 2, b15⟩) (ds' := [d, d]) rfl rfl).trans ?_
  show rtR (evSs (EN scr n) m none b15 [some d, some d, none] h) = _
  cases d with
  | non => simp [b15, fVar]
  | bl b => simp [b15, fVar, biF, isd_bl (t := "bool") (b := true) (by decide +kernel)]
  | int b => simp [b15, fVar, biF, isd_int (t := "bool") (b := false) (by decide +kernel), isd_int (t := "int") (b := true) (by decide +kernel)]
  | str s => simp [b15, fVar, biF, isd_str (t := "bool") (b := false) (by decide +kernel), isd_str (t := "int") (b := false) (by decide +kernel), isd_str (t := "str") (b := true) (by decide +kernel), ceq_str (good_str.mp g) (good_str.mp g)]
  | tup xs => exact absurd rfl (nt2 xs)
  | _ => cases g
section
variable {n : Nat} {xs : List D}
theorem y1 : (evP (EN scr n) m none (.bi .isi (.cons (.var 1) (.cons (.tyn .bool) .nil)))).2 [some (.tup xs), some (.tup xs), none] h = .ok false h := by
  simp [fVar, biF, isd_tup (t := "bool") (b := false) (by decide +kernel)]
theorem y1i : (evP (EN scr n) m none (.bi .isi (.cons (.var 1) (.cons (.tyn .int) .nil)))).2 [some (.tup xs), some (.tup xs), none] h = .ok false h := by
  simp [fVar, biF, isd_tup (t := "int") (b := false) (by decide +kernel)]
theorem y1s : (evP (EN scr n) m none (.bi .isi (.cons (.var 1) (.cons (.tyn .str) .nil)))).2 [some (.tup xs), some (.tup xs), none] h = .ok false h := by
  simp [fVar, biF, isd_tup (t := "str") (b := false) (by decide +kernel)]
theorem y2 : (evP (EN scr n) m none (.cmp .is (.var 1) .non)).2 [some (.tup xs), some (.tup xs), none] h = .ok false h := by
  simp [fVar, biF]
theorem y3 : (evP (EN scr n) m none (.cmp .ne (.bi .len (.cons (.var 0) .nil)) (.bi .len (.cons (.var 1) .nil)))).2 [some (.tup xs), some (.tup xs), none] h = .ok false h := by
  simp [fVar, biF, len_tup]
theorem y4 : (evP (EN scr n) m none (.and_ (.cons (.bi .isi (.cons (.var 1) (.cons (.tyn .tuple) .nil))) (.cons (.not_ (.bi .isi (.cons (.var 0) (.cons (.tyn .tuple) .nil)))) .nil)))).2 [some (.tup xs), some (.tup xs), none] h = .ok false h := by
  simp [fVar, biF, isd_tup (t := "tuple") (b := true) (by decide +kernel)]
theorem y5 : (evP (EN scr n) m none (.and_ (.cons (.bi .isi (.cons (.var 1) (.cons (.tyn .list) .nil))) (.cons (.not_ (.bi .isi (.cons (.var 0) (.cons (.tyn .list) .nil)))) .nil)))).2 [some (.tup xs), some (.tup xs), none] h = .ok false h := by
  simp [fVar, biF, isd_tup (t := "list") (b := false) (by decide +kernel)]
end
theorem same_run : ∀ (n : Nat) (d : D), goodD d = true → depD d < n → F scr n m 15 [d, d] h = .ok (.bl true) h := by
  intro n
  induction n with
  | zero => intro d g hd; omega
  | succ n ih =>
    intro d g hd
    by_cases c : ∃ xs, d = .tup xs
    · obtain ⟨xs, rfl⟩ := c
      have g := good_tup g
      simp only [depD] at hd
      refine (phi_s (d := ⟨3, .all 2, b15⟩) (ds' := [.tup xs, .tup xs]) rfl rfl).trans ?_
      show rtR (evSs (EN scr n) m none b15 [some (.tup xs), some (.tup xs), none] h) = _
      have rg := ri_tup (scr := scr) (m := m) (h := h) (n := n) (xs := xs) (by omega)
      unfold b15
      rw [PI.s1, sife, y2, bindS_ok, ifR_f, PI.s0, sqR_nx, PI.s1, sife, y1, bindS_ok, ifR_f, PI.s0, sqR_nx, PI.s1, sife, y1i, bindS_ok, ifR_f, PI.s0, sqR_nx, PI.s1, sife, y1s, bindS_ok, ifR_f, PI.s0, sqR_nx, PI.s1, sife, y4, bindS_ok, ifR_f, PI.s0, sqR_nx, PI.s1, sife, y5, bindS_ok, ifR_f, PI.s0, sqR_nx, PI.s1, sife, y3, bindS_ok, ifR_f, PI.s0, sqR_nx, PI.s1, sfor, rg, bindS_ok]
      refine for_rule (xs := (List.range xs.length).map fun (i : Nat) => D.int (0 + (i : Int))) (fun j env hh => hh = h ∧ ∃ v, env = [some (.tup xs), some (.tup xs), v]) (fun r => rtR (sqR r _) = _) ⟨rfl, none, rfl⟩ (fun _ _ _ _ => is_rng) ?_ ?_
      · rintro j d env hh ej ⟨rfl, v, rfl⟩
        rw [List.getElem?_map] at ej
        by_cases lj : j < xs.length
        · rw [List.getElem?_range lj] at ej
          cases ej
          refine ⟨_, rfl, ?_⟩
          have ex : xs[j]? = some xs[j] := List.getElem?_eq_getElem lj
          obtain ⟨g1, g2⟩ := goodDs_get g.2 ex
          have ix := idx_tup (h := hh) ex
          have rc : phi T lpW scr (fun i => code[i]?) n m 15 [xs[j], xs[j]] hh = .ok (.bl true) hh := ih xs[j] g1 (by omega)
          simp [fVar, ix, rc]
        · rw [List.getElem?_eq_none (by simpa using lj)] at ej
          cases ej
      · rintro env hh ⟨rfl, v, rfl⟩
        simp
    · have nt2 : ∀ xs, d ≠ .tup xs := fun xs e => c ⟨xs, e⟩
      refine same_flat g ?_ nt2
      cases d <;> first | rfl | exact absurd rfl (nt2 _)
theorem same_lst {n a b : Nat} {xs : List D} (ea : h[a]? = some (.lst xs)) (eb : h[b]? = some (.lst xs)) (g : goodDs xs = true) (hl : xs.length < 10000) (hd : depDs xs < n) : F scr (n + 1) m 15 [.ref a, .ref b] h = .ok (.bl true) h := by
  refine (phi_s (d := ⟨3, .all 2, b15⟩) (ds' := [.ref a, .ref b]) rfl rfl).trans ?_
  show rtR (evSs (EN scr n) m none b15 [some (.ref a), some (.ref b), none] h) = _
  have rg := ri_lst (scr := scr) (m := m) (n := n) (a := a) (by omega) eb
  simp [-ir1, b15, fVar, biF, co_lst ea, co_lst eb, len_lst ea, len_lst eb, rg, isd_lst eb (t := "bool") (b := false) (by decide +kernel), isd_lst eb (t := "int") (b := false) (by decide +kernel), isd_lst eb (t := "str") (b := false) (by decide +kernel), isd_lst eb (t := "tuple") (b := false) (by decide +kernel), isd_lst eb (t := "list") (b := true) (by decide +kernel), isd_lst ea (t := "list") (b := true) (by decide +kernel)]
  refine for_rule (xs := (List.range xs.length).map fun (i : Nat) => D.int (0 + (i : Int))) (fun j env hh => hh = h ∧ ∃ v, env = [some (.ref a), some (.ref b), v]) (fun r => rtR (sqR r _) = _) ⟨rfl, none, rfl⟩ (fun _ _ _ _ => is_rng) ?_ ?_
  · rintro j d env hh ej ⟨rfl, v, rfl⟩
    rw [List.getElem?_map] at ej
    by_cases lj : j < xs.length
    · rw [List.getElem?_range lj] at ej
      cases ej
      refine ⟨_, rfl, ?_⟩
      have ex : xs[j]? = some xs[j] := List.getElem?_eq_getElem lj
      obtain ⟨g1, g2⟩ := goodDs_get g ex
      have rc : phi T lpW scr (fun i => code[i]?) n m 15 [xs[j], xs[j]] hh = .ok (.bl true) hh := same_run n xs[j] g1 (by omega)
      simp [fVar, idx_lst ea ex, idx_lst eb ex, rc]
    · rw [List.getElem?_eq_none (by simpa using lj)] at ej
      cases ej
  · rintro env hh ⟨rfl, v, rfl⟩
    simp
end K00

set_option maxRecDepth 100000
set_option maxHeartbeats 4000000
namespace K00
open PySem PySem.Spec PyProof.Rows PI
variable {scr : List Int} {k : Nat} {m : Bool} {h : Hh} {i j : Nat}
theorem lettersE : ([97, 98, 99, 100, 101, 102, 103, 104, 105, 106, 107, 108, 109, 110, 111, 112, 113, 114, 115, 116, 117, 118, 119, 120, 121, 122] : List Nat) = letters := rfl
theorem digitsE : ([48, 49, 50, 51, 52, 53, 54, 55, 56, 57] : List Nat) = digits := rfl
theorem add_ld : binD .add (.str letters) (.str digits) h = .ok (.str (letters ++ digits)) h := by
  unfold binD
  exact if_pos (by decide)
/-- the signs that are none of a name -/
def oddS (s : List Nat) : List Nat := s.filter fun x => !okSign x
theorem okS {x : Nat} : decide (x ∈ letters ++ digits) = okSign x := by
  unfold okSign
  simp [List.mem_append]
theorem comp_run {s : List Nat} (g : Gd s) : Rz (fun z => ∃ h', z = .ok (.ref h.length) h' ∧ h'[h.length]? = some (.lst ((oddS s).map fun c => D.str [c])) ∧ Fp none h h')
    ((evP (EN scr k) false none (.lc [("sign", 2)] (.nm 2) (.val (.var 0)) (.some (.cmp .notin (.var 2) (.bin .add (.var 1) (.str digits)))) (.var 2))).1 [some (.str s), some (.str letters), none] h) := by
  rw [vlc]
  simp only [iv, vvar, fVar, List.getElem?_cons_zero, bind_ok, itD]
  refine lc_rule (xs := s.map fun c => D.str [c]) (fun n hh => hh[h.length]? = some (.lst ((oddS (s.take n)).map fun c => D.str [c])) ∧ Fp none h hh) (fun r => Rz _ (rtO r)) ⟨get_push, Fp.push⟩ (fun n hh _ => is_str) ?_ ?_
  · rintro n x hh ex ⟨e1, fp⟩
    rw [List.getElem?_map] at ex
    cases en : s[n]? with
    | none => rw [en] at ex; cases ex
    | some c =>
      rw [en] at ex
      cases ex
      refine ⟨_, rfl, ?_⟩
      have ht : s.take (n + 1) = s.take n ++ [c] := by rw [List.take_succ, en]; rfl
      have lo : (oddS (s.take n)).length ≤ s.length := Nat.le_trans (List.length_filter_le _ _) (by rw [List.length_take]; omega)
      have gl := g.l
      by_cases d : okSign c = true
      · left
        have d' := d
        unfold okSign at d'
        rw [Bool.or_eq_true, decide_eq_true_eq, decide_eq_true_eq] at d'
        refine ⟨hh, by simp [fVar, wipeD, add_ld]; exact d'.resolve_left, ?_, fp⟩
        rw [ht]
        unfold oddS at e1 ⊢
        rw [List.filter_append]
        simpa [d] using e1
      · right
        have d' := d
        unfold okSign at d'
        rw [Bool.or_eq_true, decide_eq_true_eq, decide_eq_true_eq, not_or] at d'
        refine ⟨hh, .str [c], hh, _, by simp [fVar, wipeD, add_ld]; exact d', by simp [fVar, wipeD], e1, by rw [List.length_map]; unfold SZ; omega, ?_, fp.newp Fp.set (Nat.le_refl _)⟩
        rw [get_set e1, ht]
        unfold oddS
        rw [List.filter_append]
        simp [d]
  · rintro hh ⟨e1, fp⟩
    rw [List.length_map, List.take_length] at e1
    exact ⟨hh, rfl, e1, fp⟩
theorem law_is_name {s : List Nat} (g : Gd s) : Rs (F scr (k + 1) false 16 [.str s] h) (.bl (isName s)) fun h' => Fp none h h' := by
  refine Eq.mpr (congrArg (fun z => Rs z (.bl (isName s)) fun h' => Fp none h h') (phi_s (d := ⟨3, .all 1, b16⟩) (ds' := [.str s]) rfl rfl)) ?_
  show Rs (rtR (evSs (EN scr k) false none b16 [some (.str s), none, none] h)) _ _
  obtain ⟨h1, e1, e2, fp⟩ := comp_run (scr := scr) (k := k) (h := h) g
  have L := len_gd (h := h) g
  have ll := len_lst e2
  unfold b16
  rw [lettersE, digitsE]
  cases s with
  | nil =>
    simp [-vlc, fVar, biF, L]
    exact ⟨rfl, Fp.refl⟩
  | cons c r =>
    simp only [List.length_cons] at L
    by_cases c1 : r.length < 12
    · have c1' : ¬ ((12 : Int) < r.length + 1) := by omega
      have c0 : ¬ ((r.length : Int) + 1 < 1) := by omega
      by_cases c2 : c ∈ letters
      · simp [-vlc, fVar, biF, L, c1', c0, idx0 g, c2, e1, ll]
        refine ⟨?_, fp⟩
        have q : oddS (c :: r) = [] ↔ (c :: r).all okSign = true := by
          unfold oddS
          rw [List.filter_eq_nil_iff, List.all_eq_true]
          constructor
          · intro z x hx
            have := z x hx
            simpa using this
          · intro z x hx
            rw [z x hx]
            decide
        show _ = (decide (r.length < 12) && decide (c ∈ letters) && (c :: r).all okSign)
        by_cases a : (c :: r).all okSign = true
        · rw [a, decide_eq_true (q.mpr a), decide_eq_true c1, decide_eq_true c2]; rfl
        · rw [decide_eq_false (fun z => a (q.mp z)), show (c :: r).all okSign = false by simpa using a, Bool.and_false]
      · have c0 : ¬ ((r.length : Int) + 1 < 1) := by omega
        simp [-vlc, fVar, biF, L, c1', c0, idx0 g, isName, c2]
        exact Fp.refl
    · have c1' : ((12 : Int) < r.length + 1) := by omega
      have c0 : ¬ ((r.length : Int) + 1 < 1) := by omega
      simp [-vlc, fVar, biF, L, c1', c0, isName, c1]
      exact Fp.refl
theorem add_lst {i j : Nat} {a b : List D} (ei : h[i]? = some (.lst a)) (ej : h[j]? = some (.lst b)) (hl : a.length + b.length ≤ SZ) : binD .add (.ref i) (.ref j) h = .ok (.ref h.length) (h ++ [.lst (a ++ b)]) := by
  unfold binD
  simp only [ei, ej]
  exact if_pos hl
def dueD (l : List (List Nat)) : D := match firstBad l with
  | some b => .str b
  | none => .non
/-- _law_due -/
theorem due_run {n : List Nat} {ws : List (List Nat)} {r : Nat} (e : h[r]? = some (.lst (ws.map D.str))) (g : GdL (n :: ws)) (hl : ws.length < 900) : Rs (F scr (k + 2) false 18 [.str n, .ref r] h) (dueD (n :: ws)) fun h' => Fp none h h' := by
  refine Eq.mpr (congrArg (fun z => Rs z (dueD (n :: ws)) fun h' => Fp none h h') (phi_s (d := ⟨3, .all 2, b18⟩) (ds' := [.str n, .ref r]) rfl rfl)) ?_
  show Rs (rtR (evSs (EN scr (k + 1)) false none b18 [some (.str n), some (.ref r), none] h)) _ _
  have lr := lt_of e
  have e0 : (h ++ [O.lst [D.str n]])[r]? = some (.lst (ws.map D.str)) := by rw [List.getElem?_append_left lr]; exact e
  have ad := add_lst (get_push (h := h) (o := .lst [D.str n])) e0 (by simp; unfold SZ; omega)
  have ml := mkLst_ok (h := h) (xs := [D.str n]) (by show 1 ≤ SZ; decide)
  simp only [List.length_append, List.length_cons, List.length_nil, List.append_assoc, List.cons_append, List.nil_append] at ad
  simp [b18, fVar, ml, ad, itD]
  refine for_rs (xs := (n :: ws).map D.str) (fun j env hh => hh[h.length + 1]? = some (.lst ((n :: ws).map D.str)) ∧ Fp none h hh ∧ (∀ i s, i < j → (n :: ws)[i]? = some s → isName s = true) ∧ ∃ v, env = [some (.str n), some (.ref r), v]) ⟨by simp, ⟨by simp, fun i hi _ => List.getElem?_append_left hi⟩, fun i s hi => by omega, none, rfl⟩ (fun j env hh q => is_lst q.1) ?_ ?_
  · rintro j d env hh ej ⟨e1, fp, al, v, rfl⟩
    rw [List.getElem?_map] at ej
    cases en : (n :: ws)[j]? with
    | none => rw [en] at ej; cases ej
    | some x =>
      rw [en] at ej
      cases ej
      refine ⟨_, rfl, ?_⟩
      obtain ⟨h2, e2, fp2⟩ := law_is_name (scr := scr) (k := k) (h := hh) (g x (List.mem_of_getElem? en))
      have e2' : phi T lpW scr (fun i => code[i]?) (k + 1) false 16 [.str x] hh = .ok (.bl (isName x)) h2 := e2
      by_cases c : isName x = true
      · simp [fVar, e2', c]
        refine ⟨fp2.get e1 (by simp), fp.trans fp2, fun i s hi hs => ?_⟩
        by_cases ij : i = j
        · subst ij
          rw [en] at hs
          cases hs
          exact c
        · exact al i s (by omega) hs
      · have fb : firstBad (n :: ws) = some x := by
          cases ef : firstBad (n :: ws) with
          | none => exact absurd (fb_none.mp ef x (List.mem_of_getElem? en)) c
          | some b =>
            obtain ⟨jb, h1, h2, h3⟩ := fb_some ef
            have : jb = j := by
              rcases Nat.lt_trichotomy jb j with z | z | z
              · have := al jb b z h1
                rw [h2] at this
                cases this
              · exact z
              · exact absurd (h3 j x z en) c
            subst this
            rw [h1] at en
            exact en
        have c' : isName x = false := by simpa using c
        simp [fVar, e2', c', dueD, fb]
        exact fp.trans fp2
  · rintro env hh ⟨e1, fp, al, v, rfl⟩
    have fb : firstBad (n :: ws) = none := fb_none.mpr fun s hs => by
      obtain ⟨i, hi⟩ := List.getElem?_of_mem hs
      refine al i s ?_ hi
      have := (List.getElem?_eq_some_iff.mp hi).1
      simpa using this
    simp [dueD, fb]
    exact fp
end K00

set_option maxRecDepth 100000
set_option maxHeartbeats 4000000
namespace K00
open PySem PySem.Spec PyProof.Rows PI
variable {scr : List Int} {k : Nat} {m : Bool} {h : Hh} {i j : Nat}
/-! a strike's text, read -/
theorem sign_sp {s : List Nat} (e : s.all okSign = true) : 32 ∉ s := fun z => by
  have := List.all_eq_true.mp e 32 z
  revert this
  decide
theorem name_all {s : List Nat} (e : isName s = true) : s.all okSign = true := by
  cases s with
  | nil => cases e
  | cons c r =>
    have e' : (decide (r.length < 12) && decide (c ∈ letters) && (c :: r).all okSign) = true := e
    rw [Bool.and_eq_true] at e'
    exact e'.2
theorem name_sp {s : List Nat} (e : isName s = true) : 32 ∉ s := sign_sp (name_all e)
theorem sign_lt {x : Nat} (e : okSign x = true) : x < 128 := by
  unfold okSign letters digits at e
  rw [Bool.or_eq_true, decide_eq_true_eq, decide_eq_true_eq] at e
  simp only [List.mem_cons, List.not_mem_nil, or_false] at e
  omega
theorem name_len {s : List Nat} (e : isName s = true) : s.length ≤ 12 := by
  cases s with
  | nil => cases e
  | cons c r =>
    have e' : (decide (r.length < 12) && decide (c ∈ letters) && (c :: r).all okSign) = true := e
    rw [Bool.and_eq_true, Bool.and_eq_true, decide_eq_true_eq] at e'
    simp only [List.length_cons]
    omega
theorem name_gd {s : List Nat} (e : isName s = true) : Gd s := ⟨fun x hx => sign_lt (List.all_eq_true.mp (name_all e) x hx), Nat.le_trans (name_len e) (by decide)⟩
theorem nms_gd {l : List (List Nat)} (e : ∀ s ∈ l, isName s = true) : GdL l := fun s hs => name_gd (e s hs)
theorem past_sp : 32 ∈ pastT := by decide
theorem part_no {n : List Nat} (hn : 32 ∉ n) : partL n pastT = (n, [], []) := by
  have s := part_sum n pastT
  rcases part_word n pastT with e | ⟨e1, e2⟩
  · rw [e] at s
    exact absurd (by rw [← s]; exact List.mem_append_left _ (List.mem_append_right _ past_sp)) hn
  · rw [e1, e2, List.append_nil, List.append_nil] at s
    exact Prod.ext s (Prod.ext e1 e2)
theorem txt_parts {n : List Nat} {l : List (List Nat)} (nn : isName n = true) (nl : ∀ s ∈ l, isName s = true) : nmP (txtOf n l) = n ∧ nsP (txtOf n l) = l := by
  unfold nmP nsP wdP rsP txtOf
  cases l with
  | nil =>
    rw [if_pos rfl, part_no (name_sp nn)]
    exact ⟨rfl, rfl⟩
  | cons x r =>
    rw [if_neg (by simp), part_of (c := 32) rfl (name_sp nn)]
    refine ⟨rfl, ?_⟩
    show (if pastT = [] then [] else splitL (joinL [32] (x :: r)) [32]) = x :: r
    rw [if_neg (by decide)]
    exact split_of_join (by simp) fun w hw => name_sp (nl w hw)
theorem shl_shl {l : List (List Nat)} : shl (shl l) = shl l := by
  have nd : (shl l).Nodup := by
    unfold shl
    exact (srtL_perm _).nodup_iff.mpr (foldl_nodup (l := []) (by simp))
  have dd : ∀ (l acc : List (List Nat)), (acc ++ l).Nodup → l.foldl addD acc = acc ++ l := by
    intro l
    induction l with
    | nil => intro acc _; simp
    | cons x r ih =>
      intro acc hn
      have hx : x ∉ acc := by
        rw [List.nodup_append] at hn
        exact fun z => hn.2.2 x z x List.mem_cons_self rfl
      rw [List.foldl_cons, show addD acc x = acc ++ [x] from if_neg hx, ih _ (by simpa using hn)]
      simp
  show srtL (ddL (shl l)) = shl l
  have e : ddL (shl l) = shl l := by
    unfold ddL
    rw [dd _ [] (by simpa using nd)]
    simp
  rw [e]
  refine List.Perm.eq_of_pairwise (le := fun a b => a ≤ b) (fun a b _ _ h1 h2 => List.le_antisymm h1 h2) (srtL_rises _) ?_ (srtL_perm _)
  exact srtL_rises _
/-! _law_is -/
@[simp] theorem mkTup2 {a b : D} : mkTup [a, b] h = .ok (.tup [a, b]) h := if_pos (by show 2 ≤ SZ; decide)
@[simp] theorem mkTup3 {a b c : D} : mkTup [a, b, c] h = .ok (.tup [a, b, c]) h := if_pos (by show 3 ≤ SZ; decide)
@[simp] theorem mkLst0 : mkLst [] h = .ok (.ref h.length) (h ++ [.lst []]) := if_pos (by show 0 ≤ SZ; decide)
@[simp] theorem mkLst1 {a : D} : mkLst [a] h = .ok (.ref h.length) (h ++ [.lst [a]]) := if_pos (by show 1 ≤ SZ; decide)
@[simp] theorem mkLst2 {a b : D} : mkLst [a, b] h = .ok (.ref h.length) (h ++ [.lst [a, b]]) := if_pos (by show 2 ≤ SZ; decide)
@[simp] theorem mkLst3 {a b c : D} : mkLst [a, b, c] h = .ok (.ref h.length) (h ++ [.lst [a, b, c]]) := if_pos (by show 3 ≤ SZ; decide)
@[simp] theorem mkLst4 {a b c d : D} : mkLst [a, b, c, d] h = .ok (.ref h.length) (h ++ [.lst [a, b, c, d]]) := if_pos (by show 4 ≤ SZ; decide)
@[simp] theorem mkLst5 {a b c d e : D} : mkLst [a, b, c, d, e] h = .ok (.ref h.length) (h ++ [.lst [a, b, c, d, e]]) := if_pos (by show 5 ≤ SZ; decide)
theorem goods_strs {l : List (List Nat)} (g : GdL l) : goodDs (l.map D.str) = true := by
  induction l with
  | nil => rfl
  | cons x r ih =>
    simp only [List.map_cons, goodDs, Bool.and_eq_true]
    exact ⟨good_str.mpr (g x List.mem_cons_self), ih fun s hs => g s (List.mem_cons_of_mem _ hs)⟩
theorem dep_strs {l : List (List Nat)} : depDs (l.map D.str) = 0 := by
  induction l with
  | nil => rfl
  | cons x r ih => simp only [List.map_cons, depDs, depD, ih]; rfl
section
variable {n : List Nat} {sh : List (List Nat)} {a r : Nat}
theorem att_b (e : Stk h i n sh) : attD (phi T lpW scr (fun i => code[i]?) (k + 1) m) (T.isF 2) (fun c => T.ccons.lookup (c, 2)) (fun c => T.props.lookup (c, 2)) 2 (.ref i) h = .ok (.tup [.str raiseT, .str n]) h := by
  rw [att_p (g := 4) e rfl]
  have q : phi T lpW scr (fun i => code[i]?) (k + 1) m 4 [.ref i] h = .ok (.tup [.str raiseT, .str n]) h := blow_run e
  rw [q]
  rfl
theorem att_t (e : Stk h i n sh) (gn : Gd n) (s : Sml sh) : attD (phi T lpW scr (fun i => code[i]?) (k + 1) m) (T.isF 5) (fun c => T.ccons.lookup (c, 5)) (fun c => T.props.lookup (c, 5)) 5 (.ref i) h = .ok (.str (txtOf n sh)) h := by
  rw [att_p (g := 7) e rfl]
  have q : phi T lpW scr (fun i => code[i]?) (k + 1) m 7 [.ref i] h = .ok (.str (txtOf n sh)) h := text_run e gn s
  rw [q]
  rfl
theorem sel_3 (e : Stk h i n sh) : selD (fun c => T.meths.lookup (c, 3)) (fun c => T.cmets.lookup (c, 3)) 3 (.ref i) h = some 5 := by
  unfold Stk at e
  unfold selD
  simp only [e]
  rfl
theorem sel_7 (e : Stk h i n sh) : selD (fun c => T.meths.lookup (c, 7)) (fun c => T.cmets.lookup (c, 7)) 7 (.ref i) h = some 6 := by
  unfold Stk at e
  unfold selD
  simp only [e]
  rfl
@[simp] theorem sel_4 : selD (fun c => T.meths.lookup (c, 4)) (fun c => T.cmets.lookup (c, 4)) 4 (.cls 3) h = some 8 := rfl
theorem Stk.fp {h1 h2 : Hh} {p : Option Nat} (e : Stk h1 i n sh) (f : Fp p h1 h2) (q : some i ≠ p) : Stk h2 i n sh := f.get e q
def isXs (n : List Nat) (sh : List (List Nat)) : List D := [.str n, .tup (sh.map D.str), .tup [.str raiseT, .str n]]
theorem isXs_good (gn : Gd n) (gs : GdL sh) (hl : sh.length < 60) : goodDs (isXs n sh) = true := by
  have a := good_str.mpr gn
  have b : goodD (.str raiseT) = true := by decide
  have c : goodD (.tup (sh.map D.str)) = true := by
    unfold goodD
    rw [Bool.and_eq_true, decide_eq_true_eq, List.length_map]
    exact ⟨by omega, goods_strs gs⟩
  have d : goodD (.tup [.str raiseT, .str n]) = true := by
    unfold goodD
    rw [Bool.and_eq_true, decide_eq_true_eq]
    exact ⟨by show 2 < 10000; decide, by simp only [goodDs, a, b, Bool.and_self]⟩
  unfold isXs
  simp only [goodDs, a, c, d, Bool.and_self]
theorem isXs_dep : depDs (isXs n sh) = 1 := by
  unfold isXs
  simp only [depDs, depD, dep_strs]
  rfl
theorem is_head (e : Stk h i n sh) (ea : h[a]? = some (.lst (sh.map D.str))) (gn : Gd n) (gs : GdL sh) (hl : sh.length < 60) {v2 v4 v5 v6 : Option D} :
    ∃ h', (evP (EN scr (k + 3)) m none (.or_ (.cons (.not_ (.bi .isi (.cons (.var 0) (.cons (.cln 3) .nil)))) (.cons (.not_ (.call 15 (.cons (.lst (.cons (.att (.var 0) 0) (.cons (.att (.var 0) 1) (.cons (.att (.var 0) 2) .nil)))) (.cons (.lst (.cons (.var 1) (.cons (.bi .tuple (.cons (.var 3) .nil)) (.cons (.tup (.cons (.str [114, 97, 105, 115, 101]) (.cons (.var 1) .nil))) .nil)))) .nil)))) .nil)))).2 [some (.ref i), some (.str n), v2, some (.ref a), v4, v5, v6] h = .ok false h' ∧ Fp none h h' := by
  have h1 : (h ++ [O.lst (isXs n sh)])[a]? = some (.lst (sh.map D.str)) := by rw [List.getElem?_append_left (lt_of ea)]; exact ea
  have t1 := tuple_lst h1
  have e1 : (h ++ [O.lst (isXs n sh)] ++ [O.lst (isXs n sh)])[h.length]? = some (.lst (isXs n sh)) := by simp
  have e2 : (h ++ [O.lst (isXs n sh)] ++ [O.lst (isXs n sh)])[h.length + 1]? = some (.lst (isXs n sh)) := by simp
  have s : phi T lpW scr (fun i => code[i]?) (k + 3) m 15 [.ref h.length, .ref (h.length + 1)] (h ++ [O.lst (isXs n sh)] ++ [O.lst (isXs n sh)]) = .ok (.bl true) _ := same_lst (n := k + 2) e1 e2 (isXs_good gn gs hl) (by show 3 < 10000; decide) (by rw [isXs_dep]; omega)
  have ab := att_b (scr := scr) (k := k + 2) (m := m) e
  unfold isXs at t1 s
  unfold raiseT at t1 s ab
  simp only [List.append_assoc, List.cons_append, List.nil_append] at s
  refine ⟨_, ?_, (Fp.push (o := O.lst (isXs n sh))).trans (Fp.push (o := O.lst (isXs n sh)))⟩
  simp [fVar, biF, isi_s e, att_n e, att_s e, ab, t1, s, isXs, raiseT]
def isIn : CS := (.for_ (.nm 5) (.val (.lst (.cons (.tup (.cons (.str [100, 111]) (.cons (.var 4) (.cons .non .nil)))) (.cons (.tup (.cons (.str [100, 111]) (.cons (.var 4) (.cons (.int 7) .nil)))) (.cons (.tup (.cons (.str [116, 101, 115, 116]) (.cons (.var 4) .nil))) (.cons (.tup (.cons (.str [119, 97, 121]) (.cons (.var 4) (.cons (.int 0) .nil)))) .nil)))))) (.cons (.ife (.not_ (.call 15 (.cons (.meth (.var 0) 3 (.cons (.var 5) .nil)) (.cons (.cmp .notin (.var 4) (.var 3)) .nil)))) (.cons (.ret (.bl false)) .nil) .nil) .nil))
theorem is_inner {s : List Nat} (e : Stk h i n sh) (ea : h[a]? = some (.lst (sh.map D.str))) {v2 v5 v6 : Option D} :
    ∃ v h', evS (EN scr (k + 3)) m none isIn [some (.ref i), some (.str n), v2, some (.ref a), some (.str s), v5, v6] h = .nx [some (.ref i), some (.str n), v2, some (.ref a), some (.str s), v, v6] h' ∧ Fp none h h' := by
  unfold isIn
  simp [fVar, itD]
  refine for_rule (xs := [D.tup [.str [100, 111], .str s, .non], .tup [.str [100, 111], .str s, .int 7], .tup [.str [116, 101, 115, 116], .str s], .tup [.str [119, 97, 121], .str s, .int 0]]) (fun j env hh => hh[h.length]? = some (.lst [D.tup [.str [100, 111], .str s, .non], .tup [.str [100, 111], .str s, .int 7], .tup [.str [116, 101, 115, 116], .str s], .tup [.str [119, 97, 121], .str s, .int 0]]) ∧ Fp none h hh ∧ ∃ v, env = [some (.ref i), some (.str n), v2, some (.ref a), some (.str s), v, v6]) (fun r => ∃ v h', r = .nx [some (.ref i), some (.str n), v2, some (.ref a), some (.str s), v, v6] h' ∧ Fp none h h') ⟨get_push, Fp.push, v5, rfl⟩ (fun j env hh q => is_lst q.1) ?_ ?_
  · rintro j d env hh ej ⟨e1, fp, v, rfl⟩
    have hq : ∃ q, d = .tup q ∧ q[1]? = some (.str s) ∧ q.length < 10 := by
      match j, ej with
      | 0, ej => cases ej; exact ⟨_, rfl, rfl, by show 3 < 10; decide⟩
      | 1, ej => cases ej; exact ⟨_, rfl, rfl, by show 3 < 10; decide⟩
      | 2, ej => cases ej; exact ⟨_, rfl, rfl, by show 2 < 10; decide⟩
      | 3, ej => cases ej; exact ⟨_, rfl, rfl, by show 3 < 10; decide⟩
    obtain ⟨q, rfl, q1, q2⟩ := hq
    refine ⟨_, rfl, ?_⟩
    have st := e.fp fp (by simp)
    have hr : phi T lpW scr (fun i => code[i]?) (k + 3) m 5 [.ref i, .tup q] hh = .ok (.bl (!decide (s ∈ sh))) hh := hits_run (k := k + 2) st q1 q2
    have sr : phi T lpW scr (fun i => code[i]?) (k + 3) m 15 [.bl (!decide (s ∈ sh)), .bl (!decide (s ∈ sh))] hh = .ok (.bl true) hh := same_run (k + 3) (.bl _) rfl (by show 0 < k + 3; omega)
    simp [-Bool.not_eq_eq_eq_not, fVar, sel_3 st, hr, cni_lst (fp.get ea (by simp)), sr]
    exact ⟨e1, fp⟩
  · rintro env hh ⟨e1, fp, v, rfl⟩
    exact ⟨v, hh, rfl, fp⟩
end
end K00

set_option maxRecDepth 100000
set_option maxHeartbeats 4000000
namespace K00
open PySem PySem.Spec PyProof.Rows PI
variable {scr : List Int} {k : Nat} {m : Bool} {h : Hh} {i j : Nat} {n : List Nat} {sh : List (List Nat)} {a r : Nat}
def isTl : CSs := (.cons (.set 6 (.var 1)) (.cons (.ife (.cmp .gt (.bi .len (.cons (.var 3) .nil)) (.int 0)) (.cons (.set 6 (.bin .add (.bin .add (.var 1) (.str [32, 112, 97, 115, 116, 32])) (.bm .join (.str [32]) (.cons (.var 3) .nil)))) .nil) .nil) (.cons (.ret (.and_ (.cons (.call 15 (.cons (.att (.var 0) 5) (.cons (.var 6) .nil))) (.cons (.cmp .is (.cmp .eq (.meth (.cln 3) 4 (.cons (.var 6) .nil)) (.var 0)) (.bl true)) (.cons (.cmp .is (.cmp .ne (.meth (.cln 3) 4 (.cons (.var 6) .nil)) (.var 0)) (.bl false)) .nil))))) .nil)))
@[simp] theorem add_str {a b : List Nat} (hl : a.length + b.length ≤ SZ) : binD .add (.str a) (.str b) h = .ok (.str (a ++ b)) h := if_pos hl
theorem is_txt (ea : h[a]? = some (.lst (sh.map D.str))) (gn : Gd n) (s : Sml sh) {v0 v2 v4 v5 : Option D} {rest : CSs} :
    evSs (EN scr (k + 4)) m none (.cons (.set 6 (.var 1)) (.cons (.ife (.cmp .gt (.bi .len (.cons (.var 3) .nil)) (.int 0)) (.cons (.set 6 (.bin .add (.bin .add (.var 1) (.str [32, 112, 97, 115, 116, 32])) (.bm .join (.str [32]) (.cons (.var 3) .nil)))) .nil) .nil) rest)) [v0, some (.str n), v2, some (.ref a), v4, v5, none] h = evSs (EN scr (k + 4)) m none rest [v0, some (.str n), v2, some (.ref a), v4, v5, some (.str (txtOf n sh))] h := by
  have ll := len_lst ea
  have q := gn.l
  have jl := join_le s
  have jr := join_run (h := h) (x := .ref a) s (by unfold seqD; simp only [ea])
  cases sh with
  | nil =>
    simp [fVar, biF, ll, txtOf]
  | cons x t =>
    have a1 : binD .add (.str n) (.str [32, 112, 97, 115, 116, 32]) h = .ok (.str (n ++ [32, 112, 97, 115, 116, 32])) h := if_pos (by simp only [List.length_cons, List.length_nil]; unfold SZ; omega)
    have a2 : binD .add (.str (n ++ [32, 112, 97, 115, 116, 32])) (.str (joinL [32] (x :: t))) h = .ok (.str (n ++ [32, 112, 97, 115, 116, 32] ++ joinL [32] (x :: t))) h := if_pos (by simp only [List.length_append, List.length_cons, List.length_nil]; unfold SZ; omega)
    have c : (0 : Int) < ((List.map D.str (x :: t)).length : Nat) := by simp only [List.length_map, List.length_cons]; omega
    have e : txtOf n (x :: t) = n ++ [32, 112, 97, 115, 116, 32] ++ joinL [32] (x :: t) := by unfold txtOf; rw [if_neg (by simp)]; rfl
    rw [e]
    simp only [PI.s1, PI.s0, sset, sife, tcmp, vcmp, vbi, PI.a1, PI.a0, vvar, fVar, vint, vbin, vbm, vstr, biF, bmT, bmF, tyD, List.getElem?_cons_succ, List.getElem?_cons_zero, bind_ok, bindS_ok, sqR_nx, List.set_cons_succ, List.set_cons_zero, ll, co_int, cgt_int, decide_eq_true c, tru_bl, ifR_t, BEq.rfl, jr, a1, a2]
theorem is_tail (e : Stk h i n sh) (ea : h[a]? = some (.lst (sh.map D.str))) (gn : Gd n) (nn : isName n = true) (ns : ∀ s ∈ sh, isName s = true) (es : shl sh = sh) (s : Sml sh) (tx : Tx (txtOf n sh)) {v2 v4 v5 : Option D} :
    Rs (rtR (evSs (EN scr (k + 4)) m none isTl [some (.ref i), some (.str n), v2, some (.ref a), v4, v5, none] h)) (.bl true) fun h' => Fp none h h' := by
  unfold isTl
  rw [is_txt ea gn s]
  obtain ⟨p1, p2⟩ := txt_parts nn ns
  have gs := nms_gd ns
  have at5 := att_t (scr := scr) (k := k + 3) (m := m) e gn s
  have sr : phi T lpW scr (fun i => code[i]?) (k + 4) m 15 [.str (txtOf n sh), .str (txtOf n sh)] h = .ok (.bl true) h := same_run (k + 4) (.str _) (good_str.mpr tx.gd) (by show 0 < k + 4; omega)
  have fb : firstBad (nmP (txtOf n sh) :: nsP (txtOf n sh)) = none := by
    rw [p1, p2]
    exact fb_none.mpr fun x hx => by
      rcases List.mem_cons.mp hx with q | q
      · subst q; exact nn
      · exact ns x q
  have es2 : shl (nsP (txtOf n sh)) = nsP (txtOf n sh) := by rw [p2]; exact es
  obtain ⟨a1, h1, r1, st1, _, fp1⟩ := read_ok (scr := scr) (k := k) (m := m) (h := h) tx fb es2
  obtain ⟨a2, h2, r2, st2, _, fp2⟩ := read_ok (scr := scr) (k := k) (m := m) (h := h1) tx fb es2
  rw [p1, p2] at st1 st2
  have r1' : phi T lpW scr (fun i => code[i]?) (k + 4) m 8 [.cls 3, .str (txtOf n sh)] h = .ok (.ref a1) h1 := r1
  have r2' : phi T lpW scr (fun i => code[i]?) (k + 4) m 8 [.cls 3, .str (txtOf n sh)] h1 = .ok (.ref a2) h2 := r2
  have s1 := e.fp fp1 (by simp)
  have s2 := s1.fp fp2 (by simp)
  have c1 := co_eq (scr := scr) (k := k + 3) (m := m) st1 s1 gn gn gs gs
  have c2 := co_ne (scr := scr) (k := k + 3) (m := m) st2 s2 gn gn gs gs
  simp [fVar, at5, sr, r1', r2', c1, c2]
  exact fp1.trans fp2
/-- _law_is -/
theorem is_run {ws : List (List Nat)} (e : Stk h i n (shl ws)) (er : h[r]? = some (.lst (ws.map D.str))) (nn : isName n = true) (ns : ∀ s ∈ ws, isName s = true) (hl : ws.length < 60) (tx : Tx (txtOf n (shl ws))) :
    Rs (F scr (k + 5) m 19 [.ref i, .str n, .ref r] h) (.bl true) fun h' => Fp none h h' := by
  refine Eq.mpr (congrArg (fun z => Rs z (.bl true) fun h' => Fp none h h') (phi_s (d := ⟨7, .all 3, b19⟩) (ds' := [.ref i, .str n, .ref r]) rfl rfl)) ?_
  show Rs (rtR (evSs (EN scr (k + 4)) m none b19 [some (.ref i), some (.str n), some (.ref r), none, none, none, none] h)) _ _
  have gn := name_gd nn
  have gw := nms_gd ns
  have ns2 : ∀ s ∈ shl ws, isName s = true := fun s hs => ns s (shl_mem.mp hs)
  have gs := nms_gd ns2
  have hl2 : (shl ws).length < 60 := Nat.lt_of_le_of_lt shl_len hl
  have sm : Sml (shl ws) := ⟨hl2, fun s hs => Nat.le_trans (name_len (ns2 s hs)) (by decide)⟩
  obtain ⟨a, h1, o1, ea, la, fp1⟩ := once_run (scr := scr) (k := k + 2) (m := m) er (by omega)
  have o1' : phi T lpW scr (fun i => code[i]?) (k + 4) m 13 [.ref r] h = .ok (.ref a) h1 := o1
  have e1 := e.fp fp1 (by simp)
  obtain ⟨h2, t2, fp2⟩ := is_head (scr := scr) (k := k + 1) (m := m) e1 ea gn gs hl2 (v2 := some (.ref r)) (v4 := none) (v5 := none) (v6 := none)
  have e2 := e1.fp fp2 (by simp)
  have ea2 := fp2.get ea (by simp)
  have er2 := fp2.get (fp1.get er (by simp)) (by simp)
  have x1 : (h2 ++ [O.lst [D.str n, .str [122, 122], .str [122, 48]]])[r]? = some (.lst (ws.map D.str)) := by rw [List.getElem?_append_left (lt_of er2)]; exact er2
  have ad := add_lst x1 (get_push (h := h2) (o := .lst [D.str n, .str [122, 122], .str [122, 48]])) (by simp; unfold SZ; omega)
  have fp3 : Fp none h (h2 ++ [O.lst [D.str n, .str [122, 122], .str [122, 48]]] ++ [O.lst (ws.map D.str ++ [D.str n, .str [122, 122], .str [122, 48]])]) := ((fp1.trans fp2).trans Fp.push).trans Fp.push
  have hm : ws.map D.str ++ [D.str n, .str [122, 122], .str [122, 48]] = (ws ++ [n, [122, 122], [122, 48]]).map D.str := by simp
  unfold b19
  rw [PI.s1, sset, vcall]
  simp only [PI.a1, PI.a0, vvar, fVar, List.getElem?_cons_succ, List.getElem?_cons_zero, bind_ok, o1', hot_ok, bindS_ok, sqR_nx, List.set_cons_succ, List.set_cons_zero]
  rw [PI.s1, sife, t2, bindS_ok, ifR_f, PI.s0, sqR_nx, PI.s1, sfor]
  simp only [iv, vbin, vlst, vstr, PI.a1, PI.a0, vvar, fVar, List.getElem?_cons_succ, List.getElem?_cons_zero, bind_ok, mkLst3, ad, itD]
  rw [hm] at fp3 ⊢
  simp only [get_push, bindS_ok]
  generalize hh0 : (h2 ++ [O.lst [D.str n, .str [122, 122], .str [122, 48]]] ++ [O.lst ((ws ++ [n, [122, 122], [122, 48]]).map D.str)]) = h3 at fp3 ⊢
  have g3 : h3[(h2 ++ [O.lst [D.str n, .str [122, 122], .str [122, 48]]]).length]? = some (.lst ((ws ++ [n, [122, 122], [122, 48]]).map D.str)) := by rw [← hh0]; exact get_push
  have fp23 : Fp none h2 h3 := by rw [← hh0]; exact Fp.push.trans Fp.push
  generalize (h2 ++ [O.lst [D.str n, .str [122, 122], .str [122, 48]]]).length = p at g3 ⊢
  have e3 := e2.fp fp23 (by simp)
  have ea3 := fp23.get ea2 (by simp)
  refine for_rs (xs := (ws ++ [n, [122, 122], [122, 48]]).map D.str) (fun j env hh => Fp none h3 hh ∧ ∃ v w, env = [some (.ref i), some (.str n), some (.ref r), some (.ref a), v, w, none]) ⟨Fp.refl, none, none, rfl⟩ (fun j env hh q => is_lst (q.1.get g3 (by simp))) ?_ ?_
  · rintro j d env hh ej ⟨fp, v, w, rfl⟩
    rw [List.getElem?_map] at ej
    cases en : (ws ++ [n, [122, 122], [122, 48]])[j]? with
    | none => rw [en] at ej; cases ej
    | some x =>
      rw [en] at ej
      cases ej
      refine ⟨_, rfl, ?_⟩
      obtain ⟨v', h', ei, fpi⟩ := is_inner (scr := scr) (k := k + 1) (m := m) (s := x) (e3.fp fp (by simp)) (fp.get ea3 (by simp)) (v2 := some (.ref r)) (v5 := w) (v6 := none)
      have ei' : evSs (EN scr (k + 4)) m none (.cons isIn .nil) [some (.ref i), some (.str n), some (.ref r), some (.ref a), some (.str x), w, none] hh = .nx [some (.ref i), some (.str n), some (.ref r), some (.ref a), some (.str x), v', none] h' := by
        rw [PI.s1]
        rw [show evS (EN scr (k + 4)) m none isIn [some (.ref i), some (.str n), some (.ref r), some (.ref a), some (.str x), w, none] hh = _ from ei, sqR_nx, PI.s0]
      unfold isIn at ei'
      simp only [List.set_cons_succ, List.set_cons_zero]
      rw [ei']
      exact ⟨fp.trans fpi, some (.str x), v', rfl⟩
  · rintro env hh ⟨fp, v, w, rfl⟩
    obtain ⟨h', q1, q2⟩ := is_tail (scr := scr) (k := k) (m := m) (v2 := some (.ref r)) (v4 := v) (v5 := w) (e3.fp fp (by simp)) (fp.get ea3 (by simp)) gn nn ns2 shl_shl sm tx
    unfold isTl at q1
    exact ⟨h', q1, (fp3.trans fp).trans q2⟩
end K00

set_option maxRecDepth 100000
set_option maxHeartbeats 4000000
namespace K00
open PySem PySem.Spec PyProof.Rows PI
variable {scr : List Int} {k : Nat} {m : Bool} {h : Hh} {i j : Nat} {n : List Nat} {sh : List (List Nat)} {a r : Nat}
/-- the text that is told again -/
theorem txt_back {t : List Nat} (al : ∀ s ∈ nmP t :: nsP t, isName s = true) : txtOf (nmP t) (nsP t) = t := by
  have e := part_sum t pastT
  unfold txtOf nsP
  rcases part_word t pastT with w | ⟨w1, w2⟩
  · have hw : wdP t = pastT := w
    rw [if_neg (c := wdP t = []) (by rw [hw]; decide), if_neg (split_ne (by simp)), split_join]
    have e' : nmP t ++ wdP t ++ rsP t = t := e
    rw [hw] at e'
    exact e'
  · have hw : wdP t = [] := w1
    rw [if_pos hw, if_pos rfl]
    have e' : nmP t ++ (partL t pastT).2.1 ++ (partL t pastT).2.2 = t := e
    rw [w1, w2, List.append_nil, List.append_nil] at e'
    exact e'
def prsOk (t : List Nat) : Prop := (∀ s ∈ nmP t :: nsP t, isName s = true) ∧ shl (nsP t) = nsP t
/-- _law_parsed: the way to the test -/
theorem parsed_go {t : List Nat} (g : Tx t) {rest : CSs} : ∃ a h', (evSs (EN scr k) false none (.cons (.asg (.tup (.cons (.nm 1) (.cons (.nm 2) (.cons (.nm 3) .nil)))) (.bm .partition (.var 0) (.cons (.str [32, 112, 97, 115, 116, 32]) .nil))) (.cons (.set 4 (.lst .nil)) (.cons (.ife (.cmp .ne (.var 2) (.str [])) (.cons (.set 4 (.bm .split (.var 3) (.cons (.str [32]) .nil))) .nil) .nil) rest))) [some (.str t), none, none, none, none] h
    = evSs (EN scr k) false none rest [some (.str t), some (.str (nmP t)), some (.str (wdP t)), some (.str (rsP t)), some (.ref a)] h') ∧ h'[a]? = some (.lst ((nsP t).map D.str)) ∧ Fp none h h' := by
  have p := part_run (h := h) g.gd
  unfold pastT at p
  have gw := (tx_parts g).2.1.gd
  by_cases c : wdP t = []
  · have cn := cne_str (h := h ++ [O.lst []]) gd_nil gd_nil
    refine ⟨h.length, h ++ [O.lst []], ?_, ?_, Fp.push⟩
    · simp only [PI.s1, PI.s0, sset, sife, tcmp, vcmp, sasg3, asg3_ok, vbm, vlst, vvar, fVar, vstr, List.getElem?_cons_zero, List.getElem?_cons_succ, List.set_cons_succ, List.set_cons_zero, bind_ok, bmT, bmF, tyD, PI.a1, PI.a0, p, bindS_ok, BEq.rfl, ifR_t, sqR_nx, mkLst0, co_str, c, cn]
      simp
    · unfold nsP
      rw [if_pos c]
      exact get_push
  · have cn := cne_str (h := h ++ [O.lst []]) gw gd_nil
    have sr := split_run (h := h ++ [O.lst []]) (tx_parts g).2.2.gd
    refine ⟨h.length + 1, h ++ [O.lst []] ++ [O.lst ((splitL (rsP t) [32]).map D.str)], ?_, ?_, Fp.push.trans Fp.push⟩
    · simp only [PI.s1, PI.s0, sset, sife, tcmp, vcmp, sasg3, asg3_ok, vbm, vlst, vvar, fVar, vstr, List.getElem?_cons_zero, List.getElem?_cons_succ, List.set_cons_succ, List.set_cons_zero, bind_ok, bmT, bmF, tyD, PI.a1, PI.a0, p, bindS_ok, BEq.rfl, ifR_t, sqR_nx, mkLst0, co_str, cn, decide_eq_false c, Bool.not_false, tru_bl, sr, List.length_append, List.length_cons, List.length_nil]
    · unfold nsP
      rw [if_neg c]
      simp
theorem parsed_ok {t : List Nat} (g : Tx t) (ok : prsOk t) : Rz (fun z => ∃ a b h', z = .ok (.ref a) h' ∧ h'[a]? = some (.lst [.str (nmP t), .ref b]) ∧ h'[b]? = some (.lst ((nsP t).map D.str)) ∧ Fp none h h') (F scr (k + 3) false 20 [.str t] h) := by
  refine Eq.mpr (congrArg (fun z => Rz (fun z => ∃ a b h', z = .ok (.ref a) h' ∧ h'[a]? = some (.lst [.str (nmP t), .ref b]) ∧ h'[b]? = some (.lst ((nsP t).map D.str)) ∧ Fp none h h') z) (phi_s (d := ⟨5, .all 1, b20⟩) (ds' := [.str t]) rfl rfl)) ?_
  show Rz _ (rtR (evSs (EN scr (k + 2)) false none b20 [some (.str t), none, none, none, none] h))
  obtain ⟨b, h1, e1, eb, fp1⟩ := parsed_go (scr := scr) (k := k + 2) (h := h) g (rest := _)
  unfold b20
  rw [e1]
  have nl := ns_len g
  have gn := gd_ns g
  obtain ⟨h2, e2, fp2⟩ := due_run (scr := scr) (k := k) (n := nmP t) eb (gd_all g) (by omega)
  have fb : firstBad (nmP t :: nsP t) = none := fb_none.mpr ok.1
  have e2' : phi T lpW scr (fun i => code[i]?) (k + 2) false 18 [.str (nmP t), .ref b] h1 = .ok .non h2 := by rw [show phi T lpW scr (fun i => code[i]?) (k + 2) false 18 [.str (nmP t), .ref b] h1 = _ from e2]; unfold dueD; rw [fb]
  have eb2 := fp2.get eb (by simp)
  obtain ⟨a, h3, e3, ea, la, fp3⟩ := once_run (scr := scr) (k := k) (m := false) eb2 (by omega)
  have e3' : phi T lpW scr (fun i => code[i]?) (k + 2) false 13 [.ref b] h2 = .ok (.ref a) h3 := e3
  rw [ok.2] at ea
  have eb3 := fp3.get eb2 (by simp)
  have cn := cne_lst gn gn ea eb3
  have co := co_lst (ow := fun c => T.owneq.lookup c) (Φ := phi T lpW scr (fun i => code[i]?) (k + 2) false) (op := .ne) (y := .ref b) ea
  simp [fVar, e2', e3', co, cn]
  exact ⟨_, b, _, rfl, get_push, (Fp.push (p := none)).get eb3 (by simp), ((fp1.trans fp2).trans fp3).trans Fp.push⟩
theorem parsed_no {t : List Nat} (g : Tx t) (no : ¬ prsOk t) : Rs (F scr (k + 3) false 20 [.str t] h) .non fun h' => Fp none h h' := by
  refine Eq.mpr (congrArg (fun z => Rs z .non fun h' => Fp none h h') (phi_s (d := ⟨5, .all 1, b20⟩) (ds' := [.str t]) rfl rfl)) ?_
  show Rs (rtR (evSs (EN scr (k + 2)) false none b20 [some (.str t), none, none, none, none] h)) _ _
  obtain ⟨b, h1, e1, eb, fp1⟩ := parsed_go (scr := scr) (k := k + 2) (h := h) g (rest := _)
  unfold b20
  rw [e1]
  have nl := ns_len g
  have gn := gd_ns g
  obtain ⟨h2, e2, fp2⟩ := due_run (scr := scr) (k := k) (n := nmP t) eb (gd_all g) (by omega)
  cases fb : firstBad (nmP t :: nsP t) with
  | some s =>
    have e2' : phi T lpW scr (fun i => code[i]?) (k + 2) false 18 [.str (nmP t), .ref b] h1 = .ok (.str s) h2 := by rw [show phi T lpW scr (fun i => code[i]?) (k + 2) false 18 [.str (nmP t), .ref b] h1 = _ from e2]; unfold dueD; rw [fb]
    simp [fVar, e2']
    exact fp1.trans fp2
  | none =>
    have e2' : phi T lpW scr (fun i => code[i]?) (k + 2) false 18 [.str (nmP t), .ref b] h1 = .ok .non h2 := by rw [show phi T lpW scr (fun i => code[i]?) (k + 2) false 18 [.str (nmP t), .ref b] h1 = _ from e2]; unfold dueD; rw [fb]
    have ne : shl (nsP t) ≠ nsP t := fun z => no ⟨fb_none.mp fb, z⟩
    have eb2 := fp2.get eb (by simp)
    obtain ⟨a, h3, e3, ea, la, fp3⟩ := once_run (scr := scr) (k := k) (m := false) eb2 (by omega)
    have e3' : phi T lpW scr (fun i => code[i]?) (k + 2) false 13 [.ref b] h2 = .ok (.ref a) h3 := e3
    have eb3 := fp3.get eb2 (by simp)
    have cn := cne_lst (shl_gd gn) gn ea eb3
    have co := co_lst (ow := fun c => T.owneq.lookup c) (Φ := phi T lpW scr (fun i => code[i]?) (k + 2) false) (op := .ne) (y := .ref b) ea
    simp [fVar, e2', e3', co, cn, ne]
    exact (fp1.trans fp2).trans fp3
@[simp] theorem sub2 : T.xsub.lookup (2, 0) = some true := by rfl
@[simp] theorem sub1 : T.xsub.lookup (1, 0) = some true := by rfl
@[simp] theorem xi22 : T.xisi.lookup (2, 2) = some true := by rfl
@[simp] theorem xi21 : T.xisi.lookup (2, 1) = some false := by rfl
@[simp] theorem xi11 : T.xisi.lookup (1, 1) = some true := by rfl
@[simp] theorem xf26 : (2, 6) ∈ T.xfld := by decide
@[simp] theorem xf10 : (1, 0) ∈ T.xfld := by decide
theorem exN_ok {env : Ev} {f : Ev → Hh → R D} (e : env[i]? = some none) : fExN i f env h = f env h := by
  unfold fExN
  rw [e]
theorem same_int {x : Int} : phi T lpW scr (fun i => code[i]?) (k + 1) m 15 [.int x, .int x] h = .ok (.bl true) h := same_run (k + 1) (.int x) rfl (by show 0 < k + 1; omega)
/-- _law_reads -/
theorem reads_run {t : List Nat} (g : Tx t) : Rs (F scr (k + 6) false 21 [.str t] h) (.bl true) fun h' => Fp none h h' := by
  refine Eq.mpr (congrArg (fun z => Rs z (.bl true) fun h' => Fp none h h') (phi_s (d := ⟨4, .all 1, b21⟩) (ds' := [.str t]) rfl rfl)) ?_
  show Rs (rtR (evSs (EN scr (k + 5)) false none b21 [some (.str t), none, none, none] h)) _ _
  by_cases ok : prsOk t
  · obtain ⟨a, b, h1, e1, ea, eb, fp1⟩ := parsed_ok (scr := scr) (k := k + 2) (h := h) g ok
    have e1' : phi T lpW scr (fun i => code[i]?) (k + 5) false 20 [.str t] h = .ok (.ref a) h1 := e1
    obtain ⟨s, h2, e2, st, ls, fp2⟩ := read_ok (scr := scr) (k := k + 1) (m := false) (h := h1) g (fb_none.mpr ok.1) ok.2
    have e2' : phi T lpW scr (fun i => code[i]?) (k + 5) false 8 [.cls 3, .str t] h1 = .ok (.ref s) h2 := e2
    have ea2 := fp2.get ea (by simp)
    have eb2 := fp2.get eb (by simp)
    have i0 : idxD (.ref a) (.int 0) h2 = .ok (.str (nmP t)) h2 := idx_lst ea2 (i := 0) rfl
    have i1 : idxD (.ref a) (.int 1) h2 = .ok (.ref b) h2 := idx_lst ea2 (i := 1) rfl
    have cn : cmpO (fun c => T.owneq.lookup c) (phi T lpW scr (fun i => code[i]?) (k + 5) false) .isnot (.ref a) .non h2 = .ok (.bl true) h2 := co_lst ea2
    have st' : Stk h2 s (nmP t) (shl (nsP t)) := by rw [ok.2]; exact st
    have nn := ok.1 _ List.mem_cons_self
    have ns := fun s hs => ok.1 s (List.mem_cons_of_mem _ hs)
    obtain ⟨h3, e3, fp3⟩ := is_run (scr := scr) (k := k) (m := false) st' eb2 nn ns (ns_few g ns) (by rw [ok.2, txt_back ok.1]; exact g)
    have e3' : phi T lpW scr (fun i => code[i]?) (k + 5) false 19 [.ref s, .str (nmP t), .ref b] h2 = .ok (.bl true) h3 := e3
    simp [b21, fVar, e1', e2', i0, i1, e3', cn]
    exact (fp1.trans fp2).trans fp3
  · obtain ⟨h1, e1, fp1⟩ := parsed_no (scr := scr) (k := k + 2) (h := h) g ok
    have e1' : phi T lpW scr (fun i => code[i]?) (k + 5) false 20 [.str t] h = .ok .non h1 := e1
    have rb : ∃ h2, phi T lpW scr (fun i => code[i]?) (k + 5) false 8 [.cls 3, .str t] h1 = .exc 2 [(6, .int 1)] h2 ∧ Fp none h1 h2 := by
      cases fb : firstBad (nmP t :: nsP t) with
      | some b => exact read_bad (scr := scr) (k := k + 1) g fb
      | none => exact read_odd (scr := scr) (k := k + 1) g fb fun z => ok ⟨fb_none.mp fb, z⟩
    obtain ⟨h2, e2, fp2⟩ := rb
    have si := same_int (scr := scr) (k := k + 4) (m := true) (h := h2) (x := 1)
    simp [b21, fVar, e1', e2, exN_ok, fExF, fCst, si]
    exact fp1.trans fp2
end K00

set_option maxRecDepth 100000
set_option maxHeartbeats 4000000
namespace K00
open PySem PySem.Spec PyProof.Rows PI
variable {scr : List Int} {k : Nat} {m : Bool} {h : Hh} {i j : Nat} {n : List Nat} {sh : List (List Nat)} {a r : Nat}
/-! the pool -/
@[simp] theorem add_int {a b : Int} : binD .add (.int a) (.int b) h = .ok (.int (a + b)) h := rfl
@[simp] theorem sub_int {a b : Int} : binD .sub (.int a) (.int b) h = .ok (.int (a - b)) h := rfl
theorem mul_int {a b : Int} (hb : -(2 ^ 64) < b ∧ b < 2 ^ 64) : binD .mul (.int a) (.int b) h = .ok (.int (a * b)) h := if_pos (.inr hb)
theorem mod_int {a b : Int} (hb : 0 < b) : binD .mod (.int a) (.int b) h = .ok (.int (a % b)) h := if_pos hb
theorem fdiv_int {a b : Int} (hb : 0 < b ∧ b < 1073741824) : binD .fdiv (.int a) (.int b) h = .ok (.int (a / b)) h := if_pos hb
@[simp] theorem int_int {a : Int} : intD [.int a] h = .ok (.int a) h := rfl
theorem mixed_run {c t l : Int} (hl : 0 < l) : ∃ x : Int, (0 ≤ x ∧ x < l) ∧ phi T lpW scr (fun i => code[i]?) (k + 1) m 10 [.int c, .int t, .int l] h = .ok (.int x) h := by
  have e := phi_s (T := T) (lp := lpW) (scr := scr) (code := fun i => code[i]?) (k := k) (f := 10) (m := m) (d := ⟨6, .all 3, b10⟩) (ds := [.int c, .int t, .int l]) (ds' := [.int c, .int t, .int l]) (h := h) rfl rfl
  rw [e]
  suffices ∃ y : Int, rtR (evSs (EN scr k) m none b10 [some (.int c), some (.int t), some (.int l), none, none, none] h) = .ok (.int (y % l)) h by
    obtain ⟨y, ey⟩ := this
    exact ⟨_, ⟨Int.emod_nonneg _ (by omega), Int.emod_lt_of_pos _ hl⟩, ey⟩
  refine ⟨((((c * 48271 + t * 69621 + 11) % 2147483647) * 40692 + c * 16807 + t * 30269) % 2147483399 * 39373 + (c * 48271 + t * 69621 + 11) % 2147483647 / 7) % 1000000007, ?_⟩
  · show rtR (evSs (EN scr k) m none b10 [some (.int c), some (.int t), some (.int l), none, none, none] h) = _
    have m1 : ∀ x : Int, binD .mul (.int x) (.int 48271) h = .ok (.int (x * 48271)) h := fun x => mul_int ⟨by decide, by decide⟩
    have m2 : ∀ x : Int, binD .mul (.int x) (.int 69621) h = .ok (.int (x * 69621)) h := fun x => mul_int ⟨by decide, by decide⟩
    have m3 : ∀ x : Int, binD .mul (.int x) (.int 40692) h = .ok (.int (x * 40692)) h := fun x => mul_int ⟨by decide, by decide⟩
    have m4 : ∀ x : Int, binD .mul (.int x) (.int 16807) h = .ok (.int (x * 16807)) h := fun x => mul_int ⟨by decide, by decide⟩
    have m5 : ∀ x : Int, binD .mul (.int x) (.int 30269) h = .ok (.int (x * 30269)) h := fun x => mul_int ⟨by decide, by decide⟩
    have m6 : ∀ x : Int, binD .mul (.int x) (.int 39373) h = .ok (.int (x * 39373)) h := fun x => mul_int ⟨by decide, by decide⟩
    have d1 : ∀ x : Int, binD .mod (.int x) (.int 2147483647) h = .ok (.int (x % 2147483647)) h := fun x => mod_int (by decide)
    have d2 : ∀ x : Int, binD .mod (.int x) (.int 2147483399) h = .ok (.int (x % 2147483399)) h := fun x => mod_int (by decide)
    have d3 : ∀ x : Int, binD .mod (.int x) (.int 1000000007) h = .ok (.int (x % 1000000007)) h := fun x => mod_int (by decide)
    have d4 : ∀ x : Int, binD .mod (.int x) (.int l) h = .ok (.int (x % l)) h := fun x => mod_int hl
    have q1 : ∀ x : Int, binD .fdiv (.int x) (.int 7) h = .ok (.int (x / 7)) h := fun x => fdiv_int ⟨by decide, by decide⟩
    simp only [b10, PI.s1, sset, sret, vbin, vbi, PI.a1, PI.a0, vvar, fVar, vint, biF, List.getElem?_cons_zero, List.getElem?_cons_succ, List.set_cons_zero, List.set_cons_succ, bind_ok, bindS_ok, sqR_nx, sqR_rt, m1, m2, m3, m4, m5, m6, d1, d2, d3, d4, q1, int_int, add_int, rtR_rt]
structure Pool (h : Hh) (p q : Nat) : Prop where
  at_ : ∃ a b c d : Int, h[p]? = some (.lst [.ref q, .int a, .int b, .int c, .int d]) ∧ 0 ≤ a
  xs : ∃ xs : List Int, h[q]? = some (.lst (xs.map D.int)) ∧ xs.length < 1000
  ne : q ≠ p
theorem Pool.fp {p q : Nat} {h1 h2 : Hh} (e : Pool h1 p q) (f : Fp none h1 h2) : Pool h2 p q := by
  obtain ⟨a, b, c, d, e1, e2⟩ := e.at_
  obtain ⟨xs, x1, x2⟩ := e.xs
  exact ⟨⟨a, b, c, d, f.get e1 (by simp), e2⟩, ⟨xs, f.get x1 (by simp), x2⟩, e.ne⟩
theorem Pool.lt {p q : Nat} {h1 : Hh} (e : Pool h1 p q) : p < h1.length := by
  obtain ⟨a, b, c, d, e1, e2⟩ := e.at_
  exact lt_of e1
theorem setI_lst {xs : List D} {p : Nat} (e : h[p]? = some (.lst xs)) {i : Nat} (hi : i < xs.length) {y : D} : setID (.ref p) (.int i) y h = some (h.set p (.lst (xs.set i y))) := by
  have e1 : L2.ixN xs.length (i : Int) = some i := by
    unfold L2.ixN
    rw [if_pos (by omega), if_pos (by omega)]
    simp
  unfold setID
  simp only [e, e1]
section
variable {q p : Nat} {a b c d : Int}
theorem pidx {o : D} (e : h[p]? = some (.lst [o, .int a, .int b, .int c, .int d])) : idxD (.ref p) (.int 0) h = .ok o h ∧ idxD (.ref p) (.int 1) h = .ok (.int a) h ∧ idxD (.ref p) (.int 2) h = .ok (.int b) h ∧ idxD (.ref p) (.int 3) h = .ok (.int c) h ∧ idxD (.ref p) (.int 4) h = .ok (.int d) h :=
  ⟨idx_lst e (i := 0) rfl, idx_lst e (i := 1) rfl, idx_lst e (i := 2) rfl, idx_lst e (i := 3) rfl, idx_lst e (i := 4) rfl⟩
theorem pset {o y : D} (e : h[p]? = some (.lst [o, .int a, .int b, .int c, .int d])) : setID (.ref p) (.int 1) y h = some (h.set p (.lst [o, y, .int b, .int c, .int d])) ∧ setID (.ref p) (.int 2) y h = some (h.set p (.lst [o, .int a, y, .int c, .int d])) ∧ setID (.ref p) (.int 3) y h = some (h.set p (.lst [o, .int a, .int b, y, .int d])) ∧ setID (.ref p) (.int 4) y h = some (h.set p (.lst [o, .int a, .int b, .int c, y])) :=
  ⟨setI_lst e (i := 1) (by simp), setI_lst e (i := 2) (by simp), setI_lst e (i := 3) (by simp), setI_lst e (i := 4) (by simp)⟩
end
theorem Pool.upd {p q : Nat} {xs : List D} (e : Pool h p q) {a b c d : Int} (ha : 0 ≤ a) : Pool (h.set p (.lst [.ref q, .int a, .int b, .int c, .int d])) p q := by
  obtain ⟨_, _, _, _, e1, _⟩ := e.at_
  obtain ⟨xs, x1, x2⟩ := e.xs
  exact ⟨⟨a, b, c, d, get_set e1, ha⟩, ⟨xs, by rw [List.getElem?_set_ne e.ne.symm]; exact x1, x2⟩, e.ne⟩
def Drawn (p q : Nat) (h : Hh) (P : D → Hh → Prop) (r : R D) : Prop := ∃ d h', r = .ok d h' ∧ Pool h' p q ∧ Fp (some p) h h' ∧ P d h'
/-- _law_draw -/
theorem draw_run {p q : Nat} {l : Int} (pl : Pool h p q) (hl : 0 < l ∧ l < 1000000) : Drawn p q h (fun d _ => ∃ x : Int, d = .int x ∧ 0 ≤ x ∧ x < l) (phi T lpW scr (fun i => code[i]?) (k + 2) false 11 [.ref p, .int l] h) := by
  obtain ⟨a, b, c, d, e, ha⟩ := pl.at_
  obtain ⟨xs, x1, x2⟩ := pl.xs
  have ei := phi_s (T := T) (lp := lpW) (scr := scr) (code := fun i => code[i]?) (k := k + 1) (f := 11) (m := false) (d := ⟨4, .all 2, b11⟩) (ds := [.ref p, .int l]) (ds' := [.ref p, .int l]) (h := h) rfl rfl
  rw [ei]
  show Drawn p q h _ (rtR (evSs (EN scr (k + 1)) false none b11 [some (.ref p), some (.int l), none, none] h))
  obtain ⟨i0, i1, i2, i3, i4⟩ := pidx e
  have m0 : ∀ x : Int, ∀ h : Hh, binD .mod (.int x) (.int l) h = .ok (.int (x % l)) h := fun x h => mod_int hl.1
  have q0 : ∀ x : Int, ∀ h : Hh, binD .fdiv (.int x) (.int l) h = .ok (.int (x / l)) h := fun x h => fdiv_int ⟨hl.1, by omega⟩
  have md : ∀ x : Int, 0 ≤ x % l ∧ x % l < l := fun x => ⟨Int.emod_nonneg _ (by omega), Int.emod_lt_of_pos _ hl.1⟩
  by_cases c1 : 0 < b
  · obtain ⟨s1, s2, s3, s4⟩ := pset (y := .int (b / l)) e
    have : Drawn p q h (fun d _ => ∃ x : Int, d = .int x ∧ 0 ≤ x ∧ x < l) (.ok (.int (b % l)) (h.set p (.lst [.ref q, .int a, .int (b / l), .int c, .int d]))) := ⟨_, _, rfl, pl.upd (xs := []) ha, Fp.set, _, rfl, md b⟩
    simp [b11, fVar, i2, c1, m0, q0, s2, biF]
    exact this
  · by_cases c2 : 0 < d
    · obtain ⟨s1, s2, s3, s4⟩ := pset (y := .int (d - 1)) e
      have e2 : (h.set p (.lst [.ref q, .int a, .int b, .int c, .int (d - 1)]))[p]? = some (.lst [.ref q, .int a, .int b, .int c, .int (d - 1)]) := get_set e
      obtain ⟨j0, j1, j2, j3, j4⟩ := pidx e2
      obtain ⟨x, hx, ex⟩ := mixed_run (scr := scr) (k := k) (m := false) (h := h.set p (.lst [.ref q, .int a, .int b, .int c, .int (d - 1)])) (c := c) (t := d - 1) hl.1
      have : Drawn p q h (fun d _ => ∃ x : Int, d = .int x ∧ 0 ≤ x ∧ x < l) (.ok (.int x) (h.set p (.lst [.ref q, .int a, .int b, .int c, .int (d - 1)]))) := ⟨_, _, rfl, pl.upd (xs := []) ha, Fp.set, _, rfl, hx⟩
      simp [b11, fVar, i2, c1, i4, c2, s4, j3, j4, ex]
      exact this
    · have ll := len_lst x1
      rw [List.length_map] at ll
      by_cases c3 : a < xs.length
      · have c3' : ¬ ((xs.length : Int) ≤ a) := by omega
        obtain ⟨an, rfl⟩ : ∃ an : Nat, a = an := ⟨a.toNat, by omega⟩
        have la : an < xs.length := by omega
        have xa : (xs.map D.int)[an]? = some (.int xs[an]) := by rw [List.getElem?_map, List.getElem?_eq_getElem la]; rfl
        have ix := idx_lst x1 xa
        obtain ⟨s1, s2, s3, s4⟩ := pset (y := .int (an + 1)) e
        generalize xs[an] = v at ix
        have e2 : (h.set p (.lst [.ref q, .int (an + 1), .int b, .int c, .int d]))[p]? = some (.lst [.ref q, .int (an + 1), .int b, .int c, .int d]) := get_set e
        have pl2 : Pool (h.set p (.lst [.ref q, .int (an + 1), .int b, .int c, .int d])) p q := pl.upd (xs := []) (by omega)
        have pw : binD .pow (.int 10) (.int 18) (h.set p (.lst [.ref q, .int (an + 1), .int b, .int c, .int d])) = .ok (.int 1000000000000000000) (h.set p (.lst [.ref q, .int (an + 1), .int b, .int c, .int d])) := by rfl
        have key : ∀ w : Int, Drawn p q h (fun d _ => ∃ x : Int, d = .int x ∧ 0 ≤ x ∧ x < l) (rtR (evSs (EN scr (k + 1)) false none (.cons (.ife (.cmp .ge (.var 3) (.bin .pow (.int 10) (.int 18))) (.cons (.setI (.var 0) (.int 2) (.bin .fdiv (.var 3) (.var 1))) (.cons (.ret (.bin .mod (.bi .int (.cons (.var 3) .nil)) (.var 1))) .nil)) .nil) (.cons (.setI (.var 0) (.int 3) (.var 3)) (.cons (.setI (.var 0) (.int 4) (.int 7)) (.cons (.ret (.call 10 (.cons (.var 3) (.cons (.int 7) (.cons (.var 1) .nil))))) .nil)))) [some (.ref p), some (.int l), none, some (.int w)] (h.set p (.lst [.ref q, .int (an + 1), .int b, .int c, .int d])))) := by
          intro w
          by_cases c4 : 1000000000000000000 ≤ w
          · obtain ⟨s1, s2, s3, s4⟩ := pset (y := .int (w / l)) e2
            have : Drawn p q h (fun d _ => ∃ x : Int, d = .int x ∧ 0 ≤ x ∧ x < l) (.ok (.int (w % l)) ((h.set p (.lst [.ref q, .int (an + 1), .int b, .int c, .int d])).set p (.lst [.ref q, .int (an + 1), .int (w / l), .int c, .int d]))) := ⟨_, _, rfl, pl2.upd (xs := []) (by omega), Fp.set.trans Fp.set, _, rfl, md w⟩
            simp [-List.set_set, fVar, pw, c4, q0, s2, biF, m0]
            exact this
          · obtain ⟨s1, s2, s3, s4⟩ := pset (y := .int w) e2
            obtain ⟨t1, t2, t3, t4⟩ := pset (y := .int 7) (get_set (o := .lst [.ref q, .int (an + 1), .int b, .int w, .int d]) e2)
            obtain ⟨x, hx, ex⟩ := mixed_run (scr := scr) (k := k) (m := false) (h := ((h.set p (.lst [.ref q, .int (an + 1), .int b, .int c, .int d])).set p (.lst [.ref q, .int (an + 1), .int b, .int w, .int d])).set p (.lst [.ref q, .int (an + 1), .int b, .int w, .int 7])) (c := w) (t := 7) hl.1
            have : Drawn p q h (fun d _ => ∃ x : Int, d = .int x ∧ 0 ≤ x ∧ x < l) (.ok (.int x) (((h.set p (.lst [.ref q, .int (an + 1), .int b, .int c, .int d])).set p (.lst [.ref q, .int (an + 1), .int b, .int w, .int d])).set p (.lst [.ref q, .int (an + 1), .int b, .int w, .int 7]))) := ⟨_, _, rfl, (pl2.upd (xs := []) (by omega)).upd (xs := []) (by omega), (Fp.set.trans Fp.set).trans Fp.set, _, rfl, hx⟩
            simp [-List.set_set, fVar, pw, c4, s3, t4, ex]
            exact this
        unfold b11
        simp only [PI.s1, sife, tcmp, vcmp, vidx, vbi, vint, vvar, fVar, biF, PI.a1, PI.a0, List.getElem?_cons_zero, List.getElem?_cons_succ, bind_ok, i2, i4, i1, i0, co_int, cgt_int, cge_int, decide_eq_false c1, decide_eq_false c2, tru_bl, bindS_ok, ifR_f, PI.s0, sqR_nx, ll, decide_eq_false c3', sset, ix, List.set_cons_succ, List.set_cons_zero, ssetI, vbin, add_int, s1]
        have kv := fun w => key w
        simp only [PI.s1] at kv
        by_cases c5 : v < 0
        · have ng : negD (.int 1) (h.set p (.lst [.ref q, .int (an + 1), .int b, .int c, .int d])) = .ok (.int (-1)) (h.set p (.lst [.ref q, .int (an + 1), .int b, .int c, .int d])) := rfl
          simp only [clt_int, decide_eq_true c5, tru_bl, bind_ok, bindS_ok, ifR_t, PI.s1, sset, vbin, vneg, vint, vvar, fVar, List.getElem?_cons_zero, List.getElem?_cons_succ, ng, sub_int, List.set_cons_succ, List.set_cons_zero, sqR_nx, PI.s0]
          exact kv _
        · simp only [clt_int, decide_eq_false c5, tru_bl, bind_ok, bindS_ok, ifR_f, PI.s0, sqR_nx]
          exact kv _
      · have c3' : ((xs.length : Int) ≤ a) := by omega
        have : Drawn p q h (fun d _ => ∃ x : Int, d = .int x ∧ 0 ≤ x ∧ x < l) (.ok (.int 0) h) := ⟨_, _, rfl, pl, Fp.refl, _, rfl, by omega, by omega⟩
        simp [b11, fVar, i2, c1, i4, c2, i1, i0, biF, ll, c3']
        exact this
end K00

set_option maxRecDepth 100000
set_option maxHeartbeats 4000000
namespace K00
open PySem PySem.Spec PyProof.Rows PI
variable {scr : List Int} {k : Nat} {m : Bool} {h : Hh} {i j : Nat} {n : List Nat} {sh : List (List Nat)} {a r : Nat}
theorem Drawn.mono {p q : Nat} {P Q : D → Hh → Prop} {z : R D} (e : Drawn p q h P z) (f : ∀ d h', P d h' → Q d h') : Drawn p q h Q z := by
  obtain ⟨d, h', e1, e2, e3, e4⟩ := e
  exact ⟨d, h', e1, e2, e3, f _ _ e4⟩
theorem draw_nat {p q : Nat} {l : Int} (pl : Pool h p q) (hl : 0 < l ∧ l < 1000000) : Drawn p q h (fun d _ => ∃ x : Nat, d = .int (x : Int) ∧ (x : Int) < l) (phi T lpW scr (fun i => code[i]?) (k + 2) false 11 [.ref p, .int l] h) :=
  (draw_run pl hl).mono fun d h' ⟨x, e, h1, h2⟩ => ⟨x.toNat, by rw [e]; congr 1; omega, by omega⟩
theorem idx_str {z : List Nat} {x c : Nat} (e : z[x]? = some c) (hz : z.length ≤ SZ) : idxD (.str z) (.int (x : Int)) h = .ok (.str [c]) h := by
  have li := (List.getElem?_eq_some_iff.mp e).1
  have e1 : L2.atI z (x : Int) = some c := by
    unfold L2.atI L2.ixN
    rw [if_pos (by omega), if_pos (by omega)]
    show z[(x : Int).toNat]? = _
    rw [Int.toNat_natCast, e]
  unfold idxD
  simp only [e1]
  rw [if_pos hz]
theorem signsE : ([97, 98, 99, 100, 101, 102, 103, 104, 105, 106, 107, 108, 109, 110, 111, 112, 113, 114, 115, 116, 117, 118, 119, 120, 121, 122, 48, 49, 50, 51, 52, 53, 54, 55, 56, 57] : List Nat) = letters ++ digits := rfl
theorem sign_at {x : Nat} (hx : x < 36) : ∃ c, (letters ++ digits)[x]? = some c ∧ okSign c = true ∧ (x < 26 → c ∈ letters) := by
  have l : (letters ++ digits).length = 36 := rfl
  have hx' : x < (letters ++ digits).length := by rw [l]; exact hx
  cases e : (letters ++ digits)[x]? with
  | none => rw [List.getElem?_eq_none_iff] at e; omega
  | some c =>
    refine ⟨c, rfl, ?_, ?_⟩
    · have m := List.mem_of_getElem? e
      rw [List.mem_append] at m
      unfold okSign
      rw [Bool.or_eq_true, decide_eq_true_eq, decide_eq_true_eq]
      exact m
    · intro h
      have l2 : letters.length = 26 := rfl
      rw [List.getElem?_append_left (by rw [l2]; exact h)] at e
      exact List.mem_of_getElem? e
theorem rng1_nat {x : Nat} (hx : x < 100000) : rngD1 [.int (x : Int)] h = .ok (.rng 0 x) h := rng1 hx
theorem idx_of {xs : List D} {a : Nat} (e : h[a]? = some (.lst xs)) {x : Nat} (hx : x < xs.length) : ∃ d, xs[x]? = some d ∧ idxD (.ref a) (.int (x : Int)) h = .ok d h :=
  ⟨xs[x], List.getElem?_eq_getElem hx, idx_lst e (List.getElem?_eq_getElem hx)⟩
theorem name_run {p q : Nat} (pl : Pool h p q) : Drawn p q h (fun d _ => ∃ s, d = .str s ∧ isName s = true) (phi T lpW scr (fun i => code[i]?) (k + 3) false 12 [.ref p] h) := by
  have ei := phi_s (T := T) (lp := lpW) (scr := scr) (code := fun i => code[i]?) (k := k + 2) (f := 12) (m := false) (d := ⟨4, .all 1, b12⟩) (ds := [.ref p]) (ds' := [.ref p]) (h := h) rfl rfl
  rw [ei]
  show Drawn p q h _ (rtR (evSs (EN scr (k + 2)) false none b12 [some (.ref p), none, none, none] h))
  obtain ⟨_, h1, e1, pl1, fp1, x, rfl, hx⟩ := draw_nat (scr := scr) (k := k) pl (l := 26) (by decide)
  obtain ⟨c, ec, oc, lc⟩ := sign_at (x := x) (by omega)
  have i1 := idx_str (h := h1) ec (by decide)
  obtain ⟨_, h2, e2, pl2, fp2, y, rfl, hy⟩ := draw_nat (scr := scr) (k := k) (pl1.fp (Fp.push (o := .lst [.int 1, .int 3, .int 12]))) (l := 3) (by decide)
  have g2 := fp2.get (get_push (h := h1) (o := .lst [.int 1, .int 3, .int 12])) (by have := pl1.lt; simp; omega)
  obtain ⟨lim, i2, hl⟩ : ∃ lim : Int, idxD (.ref h1.length) (.int (y : Int)) h2 = .ok (.int lim) h2 ∧ 0 < lim ∧ lim ≤ 12 := by
    have : y = 0 ∨ y = 1 ∨ y = 2 := by omega
    rcases this with rfl | rfl | rfl
    · exact ⟨1, idx_lst g2 (i := 0) rfl, by decide⟩
    · exact ⟨3, idx_lst g2 (i := 1) rfl, by decide⟩
    · exact ⟨12, idx_lst g2 (i := 2) rfl, by decide⟩
  obtain ⟨_, h3, e3, pl3, fp3, z, rfl, hz⟩ := draw_nat (scr := scr) (k := k) pl2 (l := lim) ⟨hl.1, by omega⟩
  have rg := rng1_nat (h := h3) (x := z) (by omega)
  have fp : Fp (some p) h h3 := ((fp1.trans Fp.push).trans fp2).trans fp3
  unfold b12
  rw [signsE]
  simp -implicitDefEqProofs only [PI.s1, sset, sfor, ir1, vidx, vcall, vstr, vint, vlst, vvar, fVar, PI.a1, PI.a0, List.getElem?_cons_zero, List.getElem?_cons_succ, List.set_cons_succ, List.set_cons_zero, bind_ok, bindS_ok, sqR_nx, e1, hot_ok, i1, mkLst3, e2, i2, e3, rg]
  refine for_rule (xs := (List.range z).map fun (i : Nat) => D.int (0 + (i : Int))) (fun j env hh => Pool hh p q ∧ Fp (some p) h hh ∧ ∃ s v, env = [some (.ref p), some (.str (letters ++ digits)), some (.str s), v] ∧ s.length = j + 1 ∧ s.all okSign = true ∧ ∃ c t, s = c :: t ∧ c ∈ letters) (fun r => Drawn p q h _ (rtR (sqR r _))) ⟨pl3, fp, [c], none, rfl, rfl, by simpa using oc, c, [], rfl, lc (by omega)⟩ (fun _ _ _ _ => is_rng) ?_ ?_
  · rintro j d env hh ej ⟨pj, fj, s, v, rfl, sl, so, c, t, rfl, ct⟩
    have jl : j < z := by
      have := (List.getElem?_eq_some_iff.mp ej).1
      simpa using this
    refine ⟨_, rfl, ?_⟩
    obtain ⟨_, h4, e4, pl4, fp4, w, rfl, hw⟩ := draw_nat (scr := scr) (k := k) pj (l := 36) (by decide)
    obtain ⟨c2, ec2, oc2, _⟩ := sign_at (x := w) (by omega)
    have i3 := idx_str (h := h4) ec2 (by decide)
    have ad : binD .add (.str (c :: t)) (.str [c2]) h4 = .ok (.str (c :: t ++ [c2])) h4 := if_pos (by rw [sl]; simp only [List.length_cons, List.length_nil]; unfold SZ; omega)
    simp -implicitDefEqProofs only [PI.s1, PI.s0, sset, vbin, vidx, vcall, vint, vvar, fVar, PI.a1, PI.a0, List.getElem?_cons_zero, List.getElem?_cons_succ, List.set_cons_succ, List.set_cons_zero, bind_ok, bindS_ok, sqR_nx, e4, hot_ok, i3, ad]
    refine ⟨pl4, fj.trans fp4, _, _, rfl, by rw [List.length_append, sl]; rfl, by rw [List.all_append, so]; simpa using oc2, c, t ++ [c2], rfl, ct⟩
  · rintro env hh ⟨pj, fj, s, v, rfl, sl, so, c, t, rfl, ct⟩
    rw [List.length_map, List.length_range] at sl
    simp only [List.length_cons] at sl
    refine ⟨.str (c :: t), hh, by simp only [sqR_nx, PI.s1, sret, vvar, fVar, List.getElem?_cons_zero, List.getElem?_cons_succ, bindS_ok, sqR_rt, rtR_rt], pj, fj, _, rfl, ?_⟩
    show (decide (t.length < 12) && decide (c ∈ letters) && (c :: t).all okSign) = true
    rw [so, decide_eq_true ct, decide_eq_true (by omega)]
    rfl
/-! words -/
structure Wd (s : List Nat) : Prop where
  c : ∀ x ∈ s, x < 128
  l : s.length ≤ 25
theorem Wd.gd {s : List Nat} (g : Wd s) : Gd s := ⟨g.c, Nat.le_trans g.l (by decide)⟩
theorem wd_name {s : List Nat} (g : isName s = true) : Wd s := ⟨(name_gd g).c, Nat.le_trans (name_len g) (by decide)⟩
theorem cut_len {α : Type} {xs : List α} {lo hi : Option Int} : (cutL xs lo hi).length ≤ xs.length := by
  unfold cutL
  rw [List.length_take, List.length_drop]
  omega
theorem cut_mem {α : Type} {xs : List α} {lo hi : Option Int} {x : α} (e : x ∈ cutL xs lo hi) : x ∈ xs := List.mem_of_mem_drop (List.mem_of_mem_take e)
theorem slc_str {z : List Nat} {lo hi : Option Int} (hz : z.length ≤ SZ) : slcD (.str z) lo hi h = .ok (.str (cutL z lo hi)) h := if_pos hz
theorem wd_cut {s : List Nat} {lo hi : Option Int} (g : isName s = true) : (∀ x ∈ cutL s lo hi, x < 128) ∧ (cutL s lo hi).length ≤ 12 := ⟨fun x hx => (name_gd g).c x (cut_mem hx), Nat.le_trans cut_len (name_len g)⟩
@[simp] theorem part_int {x : Int} {E : En} {cu : Cur} {env : Ev} : fPart (evP E m cu (.int x)).1 env h = .ok (some x) h := rfl
theorem str_dig {x : Nat} (hx : x < 10) : strD [.int (x : Int)] h = .ok (.str (digs x)) h ∧ (digs x).length ≤ 1 ∧ ∀ y ∈ digs x, y < 128 := by
  have a : ∀ x : Fin 10, ((x.val : Int)).natAbs.log2 < 1920 ∧ (digs (x.val : Int)).length ≤ 1 ∧ ∀ y ∈ digs (x.val : Int), y < 128 := by decide +kernel
  have b := a ⟨x, hx⟩
  refine ⟨?_, b.2.1, b.2.2⟩
  exact if_pos b.1
/-- _law_word -/
theorem word_run {p q : Nat} {nm : List Nat} (pl : Pool h p q) (hn : isName nm = true) : Drawn p q h (fun d _ => ∃ s, d = .str s ∧ Wd s) (phi T lpW scr (fun i => code[i]?) (k + 4) false 17 [.ref p, .str nm] h) := by
  have ei := phi_s (T := T) (lp := lpW) (scr := scr) (code := fun i => code[i]?) (k := k + 3) (f := 17) (m := false) (d := ⟨4, .all 2, b17⟩) (ds := [.ref p, .str nm]) (ds' := [.ref p, .str nm]) (h := h) rfl rfl
  rw [ei]
  show Drawn p q h _ (rtR (evSs (EN scr (k + 3)) false none b17 [some (.ref p), some (.str nm), none, none] h))
  obtain ⟨_, h1, e1, pl1, fp1, x, rfl, _, hx⟩ := draw_run (scr := scr) (k := k + 1) pl (l := 12) (by decide)
  obtain ⟨_, h2, e2, pl2, fp2, one, rfl, ho⟩ := name_run (scr := scr) (k := k) pl1
  have fp := fp1.trans fp2
  have oz := (name_gd ho).sz
  have ol := name_len ho
  have oc := (name_gd ho).c
  unfold b17
  simp only [PI.s1, sset, vcall, vint, vvar, fVar, PI.a1, PI.a0, List.getElem?_cons_zero, List.getElem?_cons_succ, List.set_cons_succ, List.set_cons_zero, bind_ok, bindS_ok, sqR_nx, e1, hot_ok, e2]
  by_cases c7 : x = 7
  · subst c7
    have w1 := wd_cut (lo := none) (hi := some 5) ho
    have w2 := wd_cut (lo := some 5) (hi := some 11) ho
    have sl1 := slc_str (h := h2) (lo := none) (hi := some 5) oz
    obtain ⟨_, h3, e3, pl3, fp3, y, rfl, hy⟩ := draw_nat (scr := scr) (k := k + 1) (pl2.fp (Fp.push (o := .lst [.str [65], .str [95], .str [32], .str [45], .str [46]]))) (l := 5) (by decide)
    have g3 := fp3.get (get_push (h := h2) (o := .lst [.str [65], .str [95], .str [32], .str [45], .str [46]])) (by have := pl2.lt; simp; omega)
    have sl2 := slc_str (h := h3) (lo := some 5) (hi := some 11) oz
    obtain ⟨ch, i3, hc⟩ : ∃ ch : Nat, idxD (.ref h2.length) (.int (y : Int)) h3 = .ok (.str [ch]) h3 ∧ ch < 128 := by
      have : y = 0 ∨ y = 1 ∨ y = 2 ∨ y = 3 ∨ y = 4 := by omega
      rcases this with rfl | rfl | rfl | rfl | rfl
      · exact ⟨65, idx_lst g3 (i := 0) rfl, by decide⟩
      · exact ⟨95, idx_lst g3 (i := 1) rfl, by decide⟩
      · exact ⟨32, idx_lst g3 (i := 2) rfl, by decide⟩
      · exact ⟨45, idx_lst g3 (i := 3) rfl, by decide⟩
      · exact ⟨46, idx_lst g3 (i := 4) rfl, by decide⟩
    have a1 : binD .add (.str (cutL one none (some 5))) (.str [ch]) h3 = .ok (.str (cutL one none (some 5) ++ [ch])) h3 := if_pos (by have := w1.2; simp only [List.length_cons, List.length_nil]; unfold SZ; omega)
    have a2 : binD .add (.str (cutL one none (some 5) ++ [ch])) (.str (cutL one (some 5) (some 11))) h3 = .ok (.str (cutL one none (some 5) ++ [ch] ++ cutL one (some 5) (some 11))) h3 := if_pos (by have := w1.2; have := w2.2; simp only [List.length_append, List.length_cons, List.length_nil]; unfold SZ; omega)
    have fin : Drawn p q h (fun d _ => ∃ s, d = .str s ∧ Wd s) (.ok (.str (cutL one none (some 5) ++ [ch] ++ cutL one (some 5) (some 11))) h3) := by
      refine ⟨_, _, rfl, pl3, (fp.trans Fp.push).trans fp3, _, rfl, ?_, ?_⟩
      · intro x hx
        rcases List.mem_append.mp hx with q | q
        · rcases List.mem_append.mp q with q | q
          · exact w1.1 x q
          · rw [List.mem_singleton] at q; omega
        · exact w2.1 x q
      · have := w1.2; have := w2.2; simp only [List.length_append, List.length_cons, List.length_nil]; omega
    simp [-List.append_assoc, fVar, sl1, sl2, e3, i3, a1, a2]
    exact fin
  · by_cases c8 : x = 8
    · subst c8
      have w1 := wd_cut (lo := none) (hi := some 11) ho
      obtain ⟨_, h3, e3, pl3, fp3, y, rfl, hy⟩ := draw_nat (scr := scr) (k := k + 1) pl2 (l := 10) (by decide)
      have sl1 := slc_str (h := h3) (lo := none) (hi := some 11) oz
      obtain ⟨sd, d1, d2⟩ := str_dig (h := h3) (x := y) (by omega)
      have a1 : binD .add (.str (digs y)) (.str (cutL one none (some 11))) h3 = .ok (.str (digs y ++ cutL one none (some 11))) h3 := if_pos (by have := w1.2; unfold SZ; omega)
      have fin : Drawn p q h (fun d _ => ∃ s, d = .str s ∧ Wd s) (.ok (.str (digs y ++ cutL one none (some 11))) h3) := by
        refine ⟨_, _, rfl, pl3, fp.trans fp3, _, rfl, ?_, ?_⟩
        · intro x hx
          rcases List.mem_append.mp hx with q | q
          · exact d2 x q
          · exact w1.1 x q
        · have := w1.2; simp only [List.length_append]; omega
      simp [fVar, sl1, e3, sd, a1, biF]
      exact fin
    · by_cases c9 : x = 9
      · subst c9
        have a1 : binD .add (.str one) (.str [97, 98, 99, 100, 101, 102, 103, 104, 105, 106, 107, 108]) h2 = .ok (.str (one ++ [97, 98, 99, 100, 101, 102, 103, 104, 105, 106, 107, 108])) h2 := if_pos (by simp only [List.length_cons, List.length_nil]; unfold SZ; omega)
        have a2 : binD .add (.str [32]) (.str one) h2 = .ok (.str ([32] ++ one)) h2 := if_pos (by simp only [List.length_cons, List.length_nil]; unfold SZ; omega)
        obtain ⟨_, h3, e3, pl3, fp3, y, rfl, hy⟩ := draw_nat (scr := scr) (k := k + 1) (pl2.fp (Fp.push (o := .lst [.str [], .str (one ++ [97, 98, 99, 100, 101, 102, 103, 104, 105, 106, 107, 108]), .str ([32] ++ one)]))) (l := 3) (by decide)
        have g3 := fp3.get (get_push (h := h2) (o := .lst [.str [], .str (one ++ [97, 98, 99, 100, 101, 102, 103, 104, 105, 106, 107, 108]), .str ([32] ++ one)])) (by have := pl2.lt; simp; omega)
        obtain ⟨w, i3, hw⟩ : ∃ w, idxD (.ref h2.length) (.int (y : Int)) h3 = .ok (.str w) h3 ∧ Wd w := by
          have : y = 0 ∨ y = 1 ∨ y = 2 := by omega
          rcases this with rfl | rfl | rfl
          · exact ⟨_, idx_lst g3 (i := 0) rfl, ⟨by simp, by simp⟩⟩
          · refine ⟨_, idx_lst g3 (i := 1) rfl, ⟨fun x hx => ?_, by simp only [List.length_append, List.length_cons, List.length_nil]; omega⟩⟩
            rcases List.mem_append.mp hx with q | q
            · exact oc x q
            · simp only [List.mem_cons, List.not_mem_nil, or_false] at q; omega
          · refine ⟨_, idx_lst g3 (i := 2) rfl, ⟨fun x hx => ?_, by simp only [List.length_append, List.length_cons, List.length_nil]; omega⟩⟩
            rcases List.mem_append.mp hx with q | q
            · rw [List.mem_singleton] at q; omega
            · exact oc x q
        have fin : Drawn p q h (fun d _ => ∃ s, d = .str s ∧ Wd s) (.ok (.str w) h3) := ⟨_, _, rfl, pl3, (fp.trans Fp.push).trans fp3, _, rfl, hw⟩
        simp only [List.cons_append, List.nil_append] at a2 e3
        simp [fVar, a1, a2, e3, i3]
        exact fin
      · have fin : ∀ s, Wd s → Drawn p q h (fun d _ => ∃ s, d = .str s ∧ Wd s) (.ok (.str s) h2) := fun s hs => ⟨_, _, rfl, pl2, fp, _, rfl, hs⟩
        by_cases c10 : x = 10
        · subst c10
          simp [fVar]
          exact fin _ ⟨by decide, by decide⟩
        · by_cases c11 : x = 11
          · subst c11
            simp [fVar]
            exact fin _ (wd_name hn)
          · simp [fVar, c7, c8, c9, c10, c11]
            exact fin _ (wd_name ho)
end K00

set_option maxRecDepth 100000
set_option maxHeartbeats 4000000
namespace K00
open PySem PySem.Spec PyProof.Rows PI
variable {scr : List Int} {k : Nat} {m : Bool} {h : Hh} {i j : Nat} {n : List Nat} {sh : List (List Nat)} {a r : Nat}
theorem c_app {a b : List Nat} (ha : ∀ x ∈ a, x < 128) (hb : ∀ x ∈ b, x < 128) : ∀ x ∈ a ++ b, x < 128 := fun x hx => (List.mem_append.mp hx).elim (ha x) (hb x)
theorem sum_le {c : Nat} {l : List (List Nat)} (q : ∀ s ∈ l, s.length ≤ c) : (l.map List.length).sum ≤ c * l.length := by
  induction l with
  | nil => simp
  | cons x r ih =>
    have := ih fun s hs => q s (List.mem_cons_of_mem _ hs)
    have := q x List.mem_cons_self
    simp only [List.map_cons, List.sum_cons, List.length_cons, Nat.mul_succ]
    omega
theorem join_le2 {c : Nat} {l : List (List Nat)} (q : ∀ s ∈ l, s.length ≤ c) : (joinL [32] l).length ≤ c * l.length + l.length := by
  by_cases e : l = []
  · subst e; exact Nat.le_refl _
  · have a := join_len (a := [32]) e
    have b := sum_le q
    simp only [List.length_singleton, Nat.mul_one] at a
    omega
theorem join_c {l : List (List Nat)} (q : ∀ s ∈ l, ∀ x ∈ s, x < 128) : ∀ x ∈ joinL [32] l, x < 128 := fun x hx => by
  rcases join_mem hx with e | ⟨p, hp, e⟩
  · rw [List.mem_singleton] at e; omega
  · exact q p hp x e
theorem past_c : ∀ x ∈ pastT, x < 128 := by decide
theorem past_l : pastT.length = 6 := rfl
theorem tx_names {ws : List (List Nat)} (nn : isName n = true) (ns : ∀ s ∈ ws, isName s = true) (hl : ws.length ≤ 5) : Tx (txtOf n (shl ws)) := by
  have gn := name_gd nn
  have ln := name_len nn
  unfold txtOf
  split
  · exact ⟨gn.c, by omega⟩
  · have ns2 : ∀ s ∈ shl ws, isName s = true := fun s hs => ns s (shl_mem.mp hs)
    have jl := join_le2 (c := 12) fun s hs => name_len (ns2 s hs)
    have sl := shl_len (l := ws)
    refine ⟨c_app (c_app gn.c past_c) (join_c fun s hs => (name_gd (ns2 s hs)).c), ?_⟩
    rw [List.length_append, List.length_append, past_l]
    omega
theorem repl_tx {t z : List Nat} (tc : ∀ x ∈ t, x < 128) (tl : t.length ≤ 98) (zc : ∀ x ∈ z, x < 128) (zl : z.length ≤ 7) : Tx (cps (Txt.replace (sOf t) (sOf pastT) (sOf z))) := by
  rcases repl_parts t pastT z with e | ⟨ps, ne, e1, e2⟩
  · rw [e]
    exact ⟨tc, by omega⟩
  · rw [e2]
    refine ⟨fun x hx => ?_, ?_⟩
    · rcases join_mem hx with q | ⟨p, hp, q⟩
      · exact zc x q
      · exact tc x (by rw [e1]; exact mem_join hp q)
    · have l1 := join_len (a := pastT) ne
      have l2 := join_len (a := z) ne
      rw [← e1, past_l] at l1
      obtain ⟨c, hc⟩ : ∃ c, ps.length = c + 1 := ⟨ps.length - 1, by have := List.length_pos_iff.mpr ne; omega⟩
      rw [hc] at l1 l2
      have m1 : (c + 1) * z.length = c * z.length + z.length := by rw [Nat.add_mul, Nat.one_mul]
      have m2 : c * z.length ≤ c * 7 := Nat.mul_le_mul_left _ zl
      rw [m1] at l2
      omega
theorem join_run0 {l : List (List Nat)} {r : Nat} (s : Sml l) (e : h[r]? = some (.lst (l.map D.str))) : joinD (.str [32]) [.ref r] h = .ok (.str (joinL [32] l)) h := join_run s (by unfold seqD; simp only [e])
/-- _law_bent -/
theorem bent_run {p q : Nat} {ws : List (List Nat)} (pl : Pool h p q) (hn : isName n = true) (e : h[r]? = some (.lst (ws.map D.str))) (hr : r ≠ p) (hw : ∀ s ∈ ws, Wd s) (hl : ws.length = 3) :
    Drawn p q h (fun d _ => ∃ s, d = .str s ∧ Tx s) (phi T lpW scr (fun i => code[i]?) (k + 3) false 22 [.ref p, .str n, .ref r] h) := by
  have ei := phi_s (T := T) (lp := lpW) (scr := scr) (code := fun i => code[i]?) (k := k + 2) (f := 22) (m := false) (d := ⟨5, .all 3, b22⟩) (ds := [.ref p, .str n, .ref r]) (ds' := [.ref p, .str n, .ref r]) (h := h) rfl rfl
  rw [ei]
  show Drawn p q h _ (rtR (evSs (EN scr (k + 2)) false none b22 [some (.ref p), some (.str n), some (.ref r), none, none] h))
  obtain ⟨_, h1, e1, pl1, fp1, x, rfl, hx0, hx⟩ := draw_run (scr := scr) (k := k) pl (l := 8) (by decide)
  have er1 := fp1.get e (by simpa using hr)
  obtain ⟨a, h2, e2, ea, la, fp2⟩ := once_run (scr := scr) (k := k) (m := false) er1 (by omega)
  have e2' : phi T lpW scr (fun i => code[i]?) (k + 2) false 13 [.ref r] h1 = .ok (.ref a) h2 := e2
  have er2 := fp2.get er1 (by simp)
  have pl2 := pl1.fp fp2
  have fp := fp1.trans fp2.mono
  have gn := name_gd hn
  have ln := name_len hn
  have sl := shl_len (l := ws)
  have hw2 : ∀ s ∈ shl ws, Wd s := fun s hs => hw s (shl_mem.mp hs)
  have sm : Sml (shl ws) := ⟨by omega, fun s hs => Nat.le_trans (hw2 s hs).l (by decide)⟩
  have sm1 : Sml ws := ⟨by omega, fun s hs => Nat.le_trans (hw s hs).l (by decide)⟩
  have j1 := join_run0 sm ea
  have j2 := join_run0 sm1 er2
  have l1 := join_le2 (c := 25) fun s hs => (hw2 s hs).l
  have l2 := join_le2 (c := 25) fun s hs => (hw s hs).l
  have c1 := join_c fun s hs => (hw2 s hs).c
  have c2 := join_c fun s hs => (hw s hs).c
  have nl : (n ++ pastT).length ≤ 18 := by rw [List.length_append, past_l]; omega
  have nc : ∀ x ∈ n ++ pastT, x < 128 := c_app gn.c past_c
  have ad0 : ∀ h : Hh, binD .add (.str n) (.str [32, 112, 97, 115, 116, 32]) h = .ok (.str (n ++ pastT)) h := fun h => if_pos (by show n.length + 6 ≤ SZ; unfold SZ; omega)
  generalize n ++ pastT = np at nl nc ad0
  have ad1 : binD .add (.str np) (.str (joinL [32] (shl ws))) h2 = .ok (.str (np ++ joinL [32] (shl ws))) h2 := if_pos (by unfold SZ; omega)
  have ad2 : binD .add (.str np) (.str (joinL [32] ws)) h2 = .ok (.str (np ++ joinL [32] ws)) h2 := if_pos (by unfold SZ; omega)
  have t1l : (np ++ joinL [32] (shl ws)).length ≤ 98 := by rw [List.length_append]; omega
  have t1c := c_app nc c1
  have t2l : (np ++ joinL [32] ws).length ≤ 98 := by rw [List.length_append]; omega
  have t2c := c_app nc c2
  generalize np ++ joinL [32] (shl ws) = t1 at ad1 t1l t1c
  generalize np ++ joinL [32] ws = t2 at ad2 t2l t2c
  have fin : ∀ s, Tx s → Drawn p q h (fun d _ => ∃ s, d = .str s ∧ Tx s) (.ok (.str s) h2) := fun s hs => ⟨_, _, rfl, pl2, fp, _, rfl, hs⟩
  unfold b22
  simp only [PI.s1, sset, vcall, vbin, vbm, vstr, vint, vvar, fVar, PI.a1, PI.a0, bmT, bmF, tyD, List.getElem?_cons_zero, List.getElem?_cons_succ, List.set_cons_succ, List.set_cons_zero, bind_ok, bindS_ok, sqR_nx, e1, hot_ok, ad0, BEq.rfl, ifR_t, e2', j1, ad1]
  by_cases c0 : x = 0
  · subst c0
    simp [fVar, ad0, bmT, bmF, tyD, j2, ad2]
    exact fin _ ⟨t2c, by omega⟩
  by_cases c1' : x = 1
  · subst c1'
    have ad3 : binD .add (.str t1) (.str [32]) h2 = .ok (.str (t1 ++ [32])) h2 := if_pos (by simp only [List.length_cons, List.length_nil]; unfold SZ; omega)
    simp [fVar, ad3]
    exact fin _ ⟨c_app t1c (by decide), by simp only [List.length_append, List.length_cons, List.length_nil]; omega⟩
  by_cases c2' : x = 2
  · subst c2'
    simp [fVar, ad0]
    exact fin _ ⟨nc, by omega⟩
  by_cases c3 : x = 3
  · subst c3
    obtain ⟨_, h3, e3, pl3, fp3, y, rfl, hy⟩ := draw_nat (scr := scr) (k := k) pl2 (l := 4) (by decide)
    have key : ∀ z : List Nat, ([[32, 112, 97, 115, 116, 32, 32], [32, 32, 112, 97, 115, 116, 32], [32, 80, 97, 115, 116, 32], [32]] : List (List Nat))[y]? = some z → (∀ x ∈ z, x < 128) ∧ z.length ≤ 7 ∧ ([32, 112, 97, 115, 116, 32] : List Nat) ≠ z := by
      intro z hz
      have : y = 0 ∨ y = 1 ∨ y = 2 ∨ y = 3 := by omega
      rcases this with rfl | rfl | rfl | rfl <;> cases hz <;> decide
    have yl : y < ([[32, 112, 97, 115, 116, 32, 32], [32, 32, 112, 97, 115, 116, 32], [32, 80, 97, 115, 116, 32], [32]] : List (List Nat)).length := by show y < 4; omega
    obtain ⟨z, ez⟩ : ∃ z, ([[32, 112, 97, 115, 116, 32, 32], [32, 32, 112, 97, 115, 116, 32], [32, 80, 97, 115, 116, 32], [32]] : List (List Nat))[y]? = some z := ⟨_, List.getElem?_eq_getElem yl⟩
    obtain ⟨zc, zl, zn⟩ := key z ez
    have rp : rplD t1 [32, 112, 97, 115, 116, 32] [[32, 112, 97, 115, 116, 32, 32], [32, 32, 112, 97, 115, 116, 32], [32, 80, 97, 115, 116, 32], [32]] (.int (y : Int)) h3 = .ok (.str (cps (Txt.replace (sOf t1) (sOf pastT) (sOf z)))) h3 := by
      unfold rplD
      simp only [Int.toNat_natCast, ez]
      refine if_pos ⟨by omega, by omega, ?_, zn⟩
      have : (t1.length + 1) * z.length ≤ (t1.length + 1) * 7 := Nat.mul_le_mul_left _ zl
      omega
    have fin3 : Drawn p q h (fun d _ => ∃ s, d = .str s ∧ Tx s) (.ok (.str (cps (Txt.replace (sOf t1) (sOf pastT) (sOf z)))) h3) := ⟨_, _, rfl, pl3, fp.trans fp3, _, rfl, repl_tx t1c t1l zc zl⟩
    simp [fVar, fRpl, SZ, e3, rp]
    exact fin3
  by_cases c4 : x = 4
  · subst c4
    obtain ⟨w0, w1, w2, rfl⟩ : ∃ w0 w1 w2, ws = [w0, w1, w2] := by
      match ws, hl with
      | [w0, w1, w2], _ => exact ⟨_, _, _, rfl⟩
    have i0 : idxD (.ref r) (.int 0) h2 = .ok (.str w0) h2 := idx_lst er2 (i := 0) rfl
    have g0 := hw w0 List.mem_cons_self
    have gl := g0.l
    have ad3 : binD .add (.str np) (.str w0) h2 = .ok (.str (np ++ w0)) h2 := if_pos (by unfold SZ; omega)
    have ad4 : binD .add (.str (np ++ w0)) (.str [32]) h2 = .ok (.str (np ++ w0 ++ [32])) h2 := if_pos (by simp only [List.length_append, List.length_cons, List.length_nil]; unfold SZ; omega)
    have ad5 : binD .add (.str (np ++ w0 ++ [32])) (.str w0) h2 = .ok (.str (np ++ w0 ++ [32] ++ w0)) h2 := if_pos (by simp only [List.length_append, List.length_cons, List.length_nil]; unfold SZ; omega)
    simp [-List.append_assoc, fVar, fRpl, ad0, i0, ad3, ad4, ad5]
    exact fin _ ⟨c_app (c_app (c_app nc g0.c) (by decide)) g0.c, by simp only [List.length_append, List.length_cons, List.length_nil]; omega⟩
  by_cases c5 : x = 5
  · subst c5
    have ad3 : binD .add (.str [32]) (.str t1) h2 = .ok (.str ([32] ++ t1)) h2 := if_pos (by simp only [List.length_cons, List.length_nil]; unfold SZ; omega)
    simp only [List.cons_append, List.nil_append] at ad3
    simp [fVar, fRpl, ad3]
    exact fin _ ⟨c_app (a := [32]) (by decide) t1c, by simp only [List.length_cons]; omega⟩
  by_cases c6 : x = 6
  · subst c6
    have ad3 : binD .add (.str t1) (.str [10]) h2 = .ok (.str (t1 ++ [10])) h2 := if_pos (by simp only [List.length_cons, List.length_nil]; unfold SZ; omega)
    simp [fVar, fRpl, ad3]
    exact fin _ ⟨c_app t1c (by decide), by simp only [List.length_append, List.length_cons, List.length_nil]; omega⟩
  simp [fVar, fRpl, c0, c1', c2', c3, c4, c5, c6]
  exact fin _ ⟨t1c, by omega⟩
end K00

set_option maxRecDepth 100000
set_option maxHeartbeats 4000000
namespace K00
open PySem PySem.Spec PyProof.Rows PI
variable {scr : List Int} {k : Nat} {m : Bool} {h : Hh} {i j : Nat} {n : List Nat} {sh : List (List Nat)} {a r : Nat}
theorem fb_mem {l : List (List Nat)} {b : List Nat} (e : firstBad l = some b) : b ∈ l := by
  obtain ⟨j, h1, _⟩ := fb_some e
  exact List.mem_of_getElem? h1
/-- _law_makes -/
theorem makes_run {w0 w1 w2 : List Nat} (e : h[r]? = some (.lst [.str w0, .str w1, .str w2])) (g : GdL [n, w0, w1, w2]) : Rs (F scr (k + 6) false 23 [.str n, .ref r] h) (.bl true) fun h' => Fp none h h' := by
  refine Eq.mpr (congrArg (fun z => Rs z (.bl true) fun h' => Fp none h h') (phi_s (d := ⟨5, .all 2, b23⟩) (ds' := [.str n, .ref r]) rfl rfl)) ?_
  show Rs (rtR (evSs (EN scr (k + 5)) false none b23 [some (.str n), some (.ref r), none, none, none] h)) _ _
  obtain ⟨h1, e1, fp1⟩ := due_run (scr := scr) (k := k + 3) (n := n) (ws := [w0, w1, w2]) e g (by show 3 < 900; decide)
  have e1' : phi T lpW scr (fun i => code[i]?) (k + 5) false 18 [.str n, .ref r] h = .ok (dueD [n, w0, w1, w2]) h1 := e1
  have er1 := fp1.get e (by simp)
  have i0 : idxD (.ref r) (.int 0) h1 = .ok (.str w0) h1 := idx_lst er1 (i := 0) rfl
  have i1 : idxD (.ref r) (.int 1) h1 = .ok (.str w1) h1 := idx_lst er1 (i := 1) rfl
  have i2 : idxD (.ref r) (.int 2) h1 = .ok (.str w2) h1 := idx_lst er1 (i := 2) rfl
  have gn := g n List.mem_cons_self
  have gs : GdL [w0, w1, w2] := fun s hs => g s (List.mem_cons_of_mem _ hs)
  cases fb : firstBad [n, w0, w1, w2] with
  | none =>
    have al := fb_none.mp fb
    have nn := al n List.mem_cons_self
    have ns : ∀ s ∈ [w0, w1, w2], isName s = true := fun s hs => al s (List.mem_cons_of_mem _ hs)
    have ed : dueD [n, w0, w1, w2] = .non := by unfold dueD; rw [fb]
    rw [ed] at e1'
    obtain ⟨h2, e2, st, fp2⟩ := new_ok (scr := scr) (k := k + 2) (m := false) (h := h1) gn nn gs ns (by show 3 < 60; decide)
    have er2 := fp2.get er1 (by simp)
    obtain ⟨h3, e3, fp3⟩ := is_run (scr := scr) (k := k) (m := false) (ws := [w0, w1, w2]) st er2 nn ns (by show 3 < 60; decide) (tx_names nn ns (by show 3 ≤ 5; decide))
    have e3' : phi T lpW scr (fun i => code[i]?) (k + 5) false 19 [.ref h1.length, .str n, .ref r] h2 = .ok (.bl true) h3 := e3
    simp only [List.map_cons, List.map_nil] at e2
    simp -implicitDefEqProofs [b23, fVar, e1', i0, i1, i2, e2, e3']
    exact (fp1.trans fp2).trans fp3
  | some b =>
    have ed : dueD [n, w0, w1, w2] = .str b := by unfold dueD; rw [fb]
    rw [ed] at e1'
    obtain ⟨h2, e2, fp2⟩ := new_bad (scr := scr) (k := k + 2) (h := h1) gn gs fb (by show 3 < 60; decide)
    have sr : phi T lpW scr (fun i => code[i]?) (k + 5) true 15 [.str b, .str b] h2 = .ok (.bl true) h2 := same_run (k + 5) (.str b) (good_str.mpr (g b (fb_mem fb))) (by show 0 < k + 5; omega)
    simp only [List.map_cons, List.map_nil] at e2
    simp -implicitDefEqProofs [b23, fVar, e1', i0, i1, i2, e2, exN_ok, fExF, fCst, sr]
    exact fp1.trans fp2
/-! the shield of more -/
theorem shl_nodup {l : List (List Nat)} : (shl l).Nodup := by
  unfold shl
  exact (srtL_perm _).nodup_iff.mpr (foldl_nodup (l := []) (by simp))
theorem shl_ext {a b : List (List Nat)} (e : ∀ x, x ∈ a ↔ x ∈ b) : shl a = shl b := by
  refine List.Perm.eq_of_pairwise (le := fun a b => a ≤ b) (fun a b _ _ h1 h2 => List.le_antisymm h1 h2) (srtL_rises _) (srtL_rises _) ?_
  exact (List.perm_ext_iff_of_nodup shl_nodup shl_nodup).mpr fun x => by rw [shl_mem, shl_mem, e]
theorem shl_app {a b : List (List Nat)} : shl (shl a ++ b) = shl (a ++ b) := shl_ext fun x => by rw [List.mem_append, List.mem_append, shl_mem]
theorem cut1 {α : Type} {a : α} {l : List α} : cutL (a :: l) none (some 1) = [a] := by
  unfold cutL
  have e1 : HT.sIx (a :: l).length 0 none = 0 := rfl
  have e2 : HT.sIx (a :: l).length (a :: l).length (some 1) = 1 := by
    show HT.sIx _ _ (some ((1 : Nat) : Int)) = 1
    rw [HT.sIx_nat, List.length_cons]
    omega
  rw [e1, e2]
  rfl
theorem cut2 {α : Type} {a b : α} {l : List α} : cutL (a :: b :: l) none (some 2) = [a, b] := by
  unfold cutL
  have e1 : HT.sIx (a :: b :: l).length 0 none = 0 := rfl
  have e2 : HT.sIx (a :: b :: l).length (a :: b :: l).length (some 2) = 2 := by
    show HT.sIx _ _ (some ((2 : Nat) : Int)) = 2
    rw [HT.sIx_nat, List.length_cons, List.length_cons]
    omega
  rw [e1, e2]
  rfl
theorem slc_lst {xs : List D} {lo hi : Option Int} (e : h[r]? = some (.lst xs)) : slcD (.ref r) lo hi h = .ok (.ref h.length) (h ++ [.lst (cutL xs lo hi)]) := by
  unfold slcD
  simp only [e]
theorem get_old {o o' : O} {i : Nat} (e : h[i]? = some o') : (h ++ [o])[i]? = some o' := by rw [List.getElem?_append_left (lt_of e)]; exact e
theorem same_bl {n : Nat} {b : Bool} : phi T lpW scr (fun i => code[i]?) (n + 1) m 15 [.bl b, .bl b] h = .ok (.bl true) h := same_run (n + 1) (.bl b) rfl (by show 0 < n + 1; omega)
/-- _law_widens -/
theorem widens_run {g0 g1 g2 m0 m1 : List Nat} {r2 : Nat} (e : h[r]? = some (.lst [.str g0, .str g1, .str g2])) (e2 : h[r2]? = some (.lst [.str m0, .str m1])) (nn : isName n = true) (n0 : isName g0 = true) (gm : GdL [m0, m1]) :
    Rs (F scr (k + 6) false 24 [.str n, .ref r, .ref r2] h) (.bl true) fun h' => Fp none h h' := by
  refine Eq.mpr (congrArg (fun z => Rs z (.bl true) fun h' => Fp none h h') (phi_s (d := ⟨8, .all 3, b24⟩) (ds' := [.str n, .ref r, .ref r2]) rfl rfl)) ?_
  show Rs (rtR (evSs (EN scr (k + 5)) false none b24 [some (.str n), some (.ref r), some (.ref r2), none, none, none, none, none] h)) _ _
  have gn := name_gd nn
  have gd0 := name_gd n0
  have gx : GdL [g0] := fun s hs => by rw [List.mem_singleton] at hs; subst hs; exact gd0
  have nx : ∀ s ∈ [g0], isName s = true := fun s hs => by rw [List.mem_singleton] at hs; subst hs; exact n0
  have ga : GdL [n, m0, m1] := fun s hs => by
    rcases List.mem_cons.mp hs with q | q
    · subst q; exact gn
    · exact gm s q
  obtain ⟨h1, d1, fp1⟩ := due_run (scr := scr) (k := k + 3) (n := n) (ws := [m0, m1]) e2 ga (by show 2 < 900; decide)
  have d1' : phi T lpW scr (fun i => code[i]?) (k + 5) false 18 [.str n, .ref r2] h = .ok (dueD [n, m0, m1]) h1 := d1
  have er1 := fp1.get e (by simp)
  have em1 := fp1.get e2 (by simp)
  have i0 : idxD (.ref r) (.int 0) h1 = .ok (.str g0) h1 := idx_lst er1 (i := 0) rfl
  obtain ⟨h2, c2, st, fp2⟩ := new_ok (scr := scr) (k := k + 2) (m := false) (h := h1) gn nn gx nx (by show 1 < 60; decide)
  simp only [List.map_cons, List.map_nil] at c2
  have c2 : newR false 3 (phi T lpW scr (fun i => code[i]?) (k + 5) false 2) [.str n, .str g0] h1 = .ok (.ref h1.length) h2 := c2
  have er2 := fp2.get er1 (by simp)
  have em2 := fp2.get em1 (by simp)
  have j0 : idxD (.ref r2) (.int 0) h2 = .ok (.str m0) h2 := idx_lst em2 (i := 0) rfl
  have j1 : idxD (.ref r2) (.int 1) h2 = .ok (.str m1) h2 := idx_lst em2 (i := 1) rfl
  have sx : ∀ s ∈ shl [g0], isName s = true := fun s hs => nx s (shl_mem.mp hs)
  have gsx := shl_gd gx
  have slx := shl_len (l := [g0])
  simp only [List.length_cons, List.length_nil] at slx
  have s7 := sel_7 st
  cases fb : firstBad [n, m0, m1] with
  | none =>
    have al := fb_none.mp fb
    have nm : ∀ s ∈ [m0, m1], isName s = true := fun s hs => al s (List.mem_cons_of_mem _ hs)
    have ed : dueD [n, m0, m1] = .non := by unfold dueD; rw [fb]
    rw [ed] at d1'
    obtain ⟨h3, c3, st3, fp3⟩ := shield_ok (scr := scr) (k := k + 1) (m := false) (more := [m0, m1]) st gn nn gsx sx gm nm (by simp only [List.length_cons, List.length_nil]; omega)
    simp only [List.map_cons, List.map_nil] at c3
    rw [shl_app] at st3
    have c3' : phi T lpW scr (fun i => code[i]?) (k + 5) false 6 [.ref h1.length, .str m0, .str m1] h2 = .ok (.ref h2.length) h3 := c3
    have st' := st.fp fp3 (by simp)
    have gall : GdL ([g0] ++ [m0, m1]) := gx.app gm
    have nall : ∀ s ∈ [g0] ++ [m0, m1], isName s = true := nms_app nx nm
    have cq : cmpO (fun c => T.owneq.lookup c) (phi T lpW scr (fun i => code[i]?) (k + 5) false) .eq (.ref h1.length) (.ref h2.length) h3 = _ := co_eq (scr := scr) (k := k + 4) (m := false) st' st3 gn gn gsx (shl_gd gall)
    have er3 := fp3.get er2 (by simp)
    have em3 := fp3.get em2 (by simp)
    -- the two shields
    have q1 := slc_lst (lo := none) (hi := some 1) er3
    rw [cut1] at q1
    obtain ⟨b1, h4, o1, eb1, lb1, fp4⟩ := once_run (scr := scr) (k := k + 3) (m := false) (l := [g0]) (get_push (h := h3) (o := .lst [.str g0])) (by show 1 < 900; decide)
    have o1' : phi T lpW scr (fun i => code[i]?) (k + 5) false 13 [.ref h3.length] (h3 ++ [.lst [.str g0]]) = .ok (.ref b1) h4 := o1
    have er4 := fp4.get (get_old (o := .lst [.str g0]) er3) (by simp)
    have em4 := fp4.get (get_old (o := .lst [.str g0]) em3) (by simp)
    have q2 := slc_lst (lo := none) (hi := some 1) er4
    rw [cut1] at q2
    have ad := add_lst (get_push (h := h4) (o := .lst [.str g0])) (get_old (o := .lst [.str g0]) em4) (by show 1 + 2 ≤ SZ; decide)
    obtain ⟨b2, h5, o2, eb2, lb2, fp5⟩ := once_run (scr := scr) (k := k + 3) (m := false) (l := [g0] ++ [m0, m1]) (r := (h4 ++ [O.lst [.str g0]]).length) (get_push (h := h4 ++ [.lst [.str g0]]) (o := .lst ([.str g0] ++ [.str m0, .str m1]))) (by show 3 < 900; decide)
    have o2' : phi T lpW scr (fun i => code[i]?) (k + 5) false 13 [.ref (h4 ++ [O.lst [.str g0]]).length] (h4 ++ [.lst [.str g0]] ++ [.lst ([.str g0] ++ [.str m0, .str m1])]) = .ok (.ref b2) h5 := o2
    have f45 : Fp none h4 h5 := (Fp.push.trans Fp.push).trans fp5
    have eb1' := f45.get eb1 (by simp)
    have cl := ceq_lst gsx (shl_gd gall) eb1' eb2
    have co := co_lst (ow := fun c => T.owneq.lookup c) (Φ := phi T lpW scr (fun i => code[i]?) (k + 5) false) (op := .eq) (y := .ref b2) eb1'
    have sb : phi T lpW scr (fun i => code[i]?) (k + 5) false 15 [.bl (decide (shl [g0] = shl ([g0] ++ [m0, m1]))), .bl (decide (shl [g0] = shl ([g0] ++ [m0, m1])))] h5 = .ok (.bl true) h5 := same_bl (scr := scr) (n := k + 4) (m := false) (h := h5) (b := decide (shl [g0] = shl ([g0] ++ [m0, m1])))
    have f35 : Fp none h3 h5 := (Fp.push.trans fp4).trans f45
    have er5 := f35.get er3 (by simp)
    have em5 := f35.get em3 (by simp)
    -- the wide one
    have q3 := slc_lst (lo := none) (hi := some 1) er5
    rw [cut1] at q3
    have ad2 := add_lst (get_push (h := h5) (o := .lst [.str g0])) (get_old (o := .lst [.str g0]) em5) (by show 1 + 2 ≤ SZ; decide)
    have f57 : Fp none h5 (h5 ++ [.lst [.str g0]] ++ [.lst ([.str g0] ++ [.str m0, .str m1])]) := Fp.push.trans Fp.push
    obtain ⟨h8, w1, fp8⟩ := is_run (scr := scr) (k := k) (m := false) (ws := [g0] ++ [m0, m1]) (r := (h5 ++ [O.lst [.str g0]]).length) ((st3.fp f35 (by simp)).fp f57 (by simp)) get_push nn nall (by show 3 < 60; decide) (tx_names nn nall (by show 3 ≤ 5; decide))
    have w1' : phi T lpW scr (fun i => code[i]?) (k + 5) false 19 [.ref h2.length, .str n, .ref (h5 ++ [O.lst [.str g0]]).length] (h5 ++ [.lst [.str g0]] ++ [.lst ([.str g0] ++ [.str m0, .str m1])]) = .ok (.bl true) h8 := w1
    have f58 := f57.trans fp8
    have er8 := f58.get er5 (by simp)
    have q4 := slc_lst (lo := none) (hi := some 1) er8
    rw [cut1] at q4
    obtain ⟨h9, w2, fp9⟩ := is_run (scr := scr) (k := k) (m := false) (ws := [g0]) (r := h8.length) (((st'.fp f35 (by simp)).fp f58 (by simp)).fp (Fp.push (p := none) (o := .lst [.str g0])) (by simp)) get_push nn nx (by show 1 < 60; decide) (tx_names nn nx (by show 1 ≤ 5; decide))
    have w2' : phi T lpW scr (fun i => code[i]?) (k + 5) false 19 [.ref h1.length, .str n, .ref h8.length] (h8 ++ [.lst [.str g0]]) = .ok (.bl true) h9 := w2
    have ffin : Fp none h h9 := (((((fp1.trans fp2).trans fp3).trans f35).trans f58).trans Fp.push).trans fp9
    unfold b24
    simp -implicitDefEqProofs only [PI.s1, PI.s0, sset, stri, sret, vcall, vnew, vmeth, vidx, vslc, vbin, vcmp, vand, vand1, vint, vvar, vnon, fVar, PI.o0, PI.o1, part_int, PI.a1, PI.a0, List.getElem?_cons_zero, List.getElem?_cons_succ, List.set_cons_succ, List.set_cons_zero, bind_ok, bindS_ok, sqR_nx, sqR_rt, rtR_rt, try_nx, d1', hot_ok, ci3, i0, c2, s7, j0, j1, c3', cq, q1, o1', q2, ad, o2', co, cl, decide_true, Bool.true_and, sb, co_non, is_nn, tru_bl, ifR_t, q3, ad2, w1', q4, w2', rs_ok]
    exact ⟨trivial, ffin⟩
  | some b =>
    have ed : dueD [n, m0, m1] = .str b := by unfold dueD; rw [fb]
    rw [ed] at d1'
    have fb2 : firstBad [m0, m1] = some b := by
      have : firstBad [n, m0, m1] = firstBad [m0, m1] := by
        show (if isName n = true then firstBad [m0, m1] else some n) = _
        rw [if_pos nn]
      rw [← this, fb]
    obtain ⟨h3, c3, fp3⟩ := shield_bad (scr := scr) (k := k + 1) (more := [m0, m1]) st gn nn gsx sx gm fb2 (by simp only [List.length_cons, List.length_nil]; omega)
    simp only [List.map_cons, List.map_nil] at c3
    have c3' : phi T lpW scr (fun i => code[i]?) (k + 5) false 6 [.ref h1.length, .str m0, .str m1] h2 = .exc 1 [(0, .str b)] h3 := c3
    have st' := st.fp fp3 (by simp)
    have sr : phi T lpW scr (fun i => code[i]?) (k + 5) true 15 [.str b, .str b] h3 = .ok (.bl true) h3 := same_run (k + 5) (.str b) (good_str.mpr (ga b (fb_mem fb))) (by show 0 < k + 5; omega)
    have er3 := fp3.get er2 (by simp)
    have q4 := slc_lst (lo := none) (hi := some 1) er3
    rw [cut1] at q4
    obtain ⟨h9, w2, fp9⟩ := is_run (scr := scr) (k := k) (m := true) (ws := [g0]) (r := h3.length) (st'.fp (Fp.push (p := none) (o := .lst [.str g0])) (by simp)) get_push nn nx (by show 1 < 60; decide) (tx_names nn nx (by show 1 ≤ 5; decide))
    have w2' : phi T lpW scr (fun i => code[i]?) (k + 5) true 19 [.ref h1.length, .str n, .ref h3.length] (h3 ++ [.lst [.str g0]]) = .ok (.bl true) h9 := w2
    simp -implicitDefEqProofs [b24, fVar, d1', i0, c2, s7, j0, j1, c3', exN_ok, fExF, fCst, sr, q4, w2']
    exact (((fp1.trans fp2).trans fp3).trans Fp.push).trans fp9
end K00

set_option maxRecDepth 100000
set_option maxHeartbeats 4000000
namespace K00
open PySem PySem.Spec PyProof.Rows PI
variable {scr : List Int} {k : Nat} {m : Bool} {h : Hh} {i j : Nat} {n : List Nat} {sh : List (List Nat)} {a r : Nat}
/-- a list of three, drawn -/
theorem lc3 {e : CE} {env : Ev} {p q : Nat} {P : List Nat → Prop} (pl : Pool h p q) (he : ∀ (v : Option D) (hh : Hh), Pool hh p q → Drawn p q hh (fun d _ => ∃ s, d = .str s ∧ P s) ((evP (EN scr k) false none e).1 ((env.set 4 none).set 4 v) hh)) :
    Drawn p q h (fun d h' => ∃ ws : List (List Nat), d = .ref h.length ∧ ws.length = 3 ∧ (∀ s ∈ ws, P s) ∧ h'[h.length]? = some (.lst (ws.map D.str))) ((evP (EN scr k) false none (.lc [("k", 4)] (.nm 4) (.rng1 (.int 3)) .none e)).1 env h) := by
  have rg : rngD1 [.int 3] h = .ok (.rng 0 3) h := rng1_nat (x := 3) (by decide)
  rw [vlc]
  simp only [ir1, vint, bind_ok, rg]
  show Drawn p q h _ (rtO (lpW _ (0, env.set 4 none, _)))
  have pn : p ≠ h.length := by have := pl.lt; omega
  refine lc_rule (xs := (List.range 3).map fun (i : Nat) => D.int (0 + (i : Int))) (fun n hh => Pool hh p q ∧ Fp (some p) h hh ∧ ∃ ws : List (List Nat), ws.length = n ∧ (∀ s ∈ ws, P s) ∧ hh[h.length]? = some (.lst (ws.map D.str))) (fun r => Drawn p q h _ (rtO r)) ⟨pl.fp Fp.push, Fp.push, [], rfl, by simp, get_push⟩ (fun _ _ _ => is_rng) ?_ ?_
  · rintro n x hh ex ⟨pj, fj, ws, wl, wp, we⟩
    have nl : n < 3 := by
      have := (List.getElem?_eq_some_iff.mp ex).1
      simpa using this
    refine ⟨_, rfl, .inr ?_⟩
    obtain ⟨d, h2, e2, pl2, fp2, s, rfl, ps⟩ := he (some x) hh pj
    have we2 := fp2.get we (by simpa using pn.symm)
    refine ⟨hh, .str s, h2, _, rfl, e2, we2, by rw [List.length_map, wl]; unfold SZ; omega, ?_⟩
    have lt2 := lt_of we2
    obtain ⟨a, b, c, d, q1, q2⟩ := pl2.at_
    obtain ⟨xs, x1, x2⟩ := pl2.xs
    have qn : q ≠ h.length := by
      obtain ⟨xs0, y1, _⟩ := pl.xs
      have := lt_of y1
      omega
    refine ⟨⟨⟨a, b, c, d, by rw [List.getElem?_set_ne pn.symm]; exact q1, q2⟩, ⟨xs, by rw [List.getElem?_set_ne qn.symm]; exact x1, x2⟩, pl2.ne⟩, (fj.trans fp2).newp Fp.set (Nat.le_refl _), ws ++ [s], by rw [List.length_append, wl]; rfl, ?_, ?_⟩
    · intro t ht
      rcases List.mem_append.mp ht with z | z
      · exact wp t z
      · rw [List.mem_singleton] at z; subst z; exact ps
    · rw [get_set we2, List.map_append]; rfl
  · rintro hh ⟨pj, fj, ws, wl, wp, we⟩
    exact ⟨_, _, rfl, pj, fj, ws, rfl, wl, wp, we⟩
theorem list3 {ws : List (List Nat)} (e : ws.length = 3) : ∃ a b c, ws = [a, b, c] := by
  match ws, e with
  | [a, b, c], _ => exact ⟨_, _, _, rfl⟩
def fuel : Nat := 20
theorem law_true : ∀ ns : List Int, ns.length ≤ 63 → ∃ h2, PI.phi T PI.lpW ns (fun i => code[i]?) fuel false 25 [.scr] [] = .ok (.bl true) h2 := by
  intro scr hs
  have ei := phi_s (T := T) (lp := lpW) (scr := scr) (code := fun i => code[i]?) (k := 19) (f := 25) (m := false) (d := ⟨9, .all 1, b25⟩) (ds := [.scr]) (ds' := [.scr]) (h := []) rfl rfl
  show ∃ h2, phi T lpW scr (fun i => code[i]?) (19 + 1) false 25 [.scr] [] = .ok (.bl true) h2
  rw [ei]
  show ∃ h2, rtR (evSs (EN scr 19) false none b25 [some .scr, none, none, none, none, none, none, none, none] []) = .ok (.bl true) h2
  -- the pool
  have p0 : phi T lpW scr (fun i => code[i]?) 19 false 9 [.scr] [] = .ok (.ref 1) [.lst (scr.map D.int), .lst [.ref 0, .int 0, .int 0, .int 0, .int 0]] := by
    refine (phi_s (k := 18) (d := ⟨1, .all 1, b9⟩) (ds' := [.scr]) rfl rfl).trans ?_
    show rtR (evSs (EN scr 18) false none b9 [some .scr] []) = _
    have l0 : listD scr [.scr] [] = .ok (.ref 0) [.lst (scr.map D.int)] := rfl
    simp [b9, fVar, biF, l0]
  have pl : Pool [.lst (scr.map D.int), .lst [.ref 0, .int 0, .int 0, .int 0, .int 0]] 1 0 := ⟨⟨0, 0, 0, 0, rfl, by decide⟩, ⟨scr, rfl, by omega⟩, by decide⟩
  generalize ([.lst (scr.map D.int), .lst [.ref 0, .int 0, .int 0, .int 0, .int 0]] : Hh) = g0 at p0 pl
  obtain ⟨_, g1, n1, pl1, _, n, rfl, nn⟩ := name_run (scr := scr) (k := 16) pl
  have n1' : phi T lpW scr (fun i => code[i]?) 19 false 12 [.ref 1] g0 = .ok (.str n) g1 := n1
  obtain ⟨_, g2, w1, pl2, f2, ws, rfl, wl, wp, we⟩ := lc3 (scr := scr) (k := 19) (e := .call 17 (.cons (.var 1) (.cons (.var 2) .nil))) (env := [some .scr, some (.ref 1), some (.str n), none, none, none, none, none, none]) pl1 (P := Wd) (by
    intro v hh pj
    have q := word_run (scr := scr) (k := 15) (nm := n) pj nn
    rw [vcall]
    simp -implicitDefEqProofs only [PI.a1, PI.a0, vvar, fVar, List.getElem?_cons_zero, List.getElem?_cons_succ, List.set_cons_succ, List.set_cons_zero, bind_ok, hot_f]
    exact q)
  obtain ⟨_, g3, w2, pl3, f3, gs, rfl, gl, gp, ge⟩ := lc3 (scr := scr) (k := 19) (e := .call 12 (.cons (.var 1) .nil)) (env := [some .scr, some (.ref 1), some (.str n), some (.ref g1.length), none, none, none, none, none]) pl2 (P := fun s => isName s = true) (by
    intro v hh pj
    have q := name_run (scr := scr) (k := 16) pj
    rw [vcall]
    simp -implicitDefEqProofs only [PI.a1, PI.a0, vvar, fVar, List.getElem?_cons_zero, List.getElem?_cons_succ, List.set_cons_succ, List.set_cons_zero, bind_ok, hot_f]
    exact q)
  obtain ⟨_, g4, n4, pl4, f4, o, rfl, on⟩ := name_run (scr := scr) (k := 16) pl3
  have n4' : phi T lpW scr (fun i => code[i]?) 19 false 12 [.ref 1] g3 = .ok (.str o) g4 := n4
  have l1 := pl1.lt
  have l2 := pl2.lt
  have we4 := f4.get (f3.get we (by simp; omega)) (by simp; omega)
  have ge4 := f4.get ge (by simp; omega)
  obtain ⟨x0, x1, x2, rfl⟩ := list3 wl
  obtain ⟨y0, y1, y2, rfl⟩ := list3 gl
  generalize hR : g1.length = R at *
  generalize hS : g2.length = S at *
  have ny0 := gp y0 (by simp)
  have ny1 := gp y1 (by simp)
  have ny2 := gp y2 (by simp)
  have gdn := name_gd nn
  have gdo := name_gd on
  have wx0 := wp x0 (by simp)
  have wx1 := wp x1 (by simp)
  have wx2 := wp x2 (by simp)
  have G1 : GdL [n, x0, x1, x2] := fun s hs => by
    simp only [List.mem_cons, List.not_mem_nil, or_false] at hs
    rcases hs with rfl | rfl | rfl | rfl
    · exact gdn
    · exact wx0.gd
    · exact wx1.gd
    · exact wx2.gd
  have G2 : GdL [n, y0, y1, y2] := fun s hs => by
    simp only [List.mem_cons, List.not_mem_nil, or_false] at hs
    rcases hs with rfl | rfl | rfl | rfl
    · exact gdn
    · exact name_gd ny0
    · exact name_gd ny1
    · exact name_gd ny2
  have G3 : GdL [x0, y0, y1, y2] := fun s hs => by
    rcases List.mem_cons.mp hs with rfl | q
    · exact wx0.gd
    · exact G2 s (List.mem_cons_of_mem _ q)
  have we4' : g4[R]? = some (.lst [.str x0, .str x1, .str x2]) := we4
  have ge4' : g4[S]? = some (.lst [.str y0, .str y1, .str y2]) := ge4
  -- the makes
  obtain ⟨g5, m1, f5⟩ := makes_run (scr := scr) (k := 13) we4' G1
  have m1' : phi T lpW scr (fun i => code[i]?) 19 false 23 [.str n, .ref R] g4 = .ok (.bl true) g5 := m1
  obtain ⟨g6, m2, f6⟩ := makes_run (scr := scr) (k := 13) (f5.get ge4' (by simp)) G2
  have m2' : phi T lpW scr (fun i => code[i]?) 19 false 23 [.str n, .ref S] g5 = .ok (.bl true) g6 := m2
  have we6 := f6.get (f5.get we4' (by simp)) (by simp)
  have ge6 := f6.get (f5.get ge4' (by simp)) (by simp)
  have ix6 : idxD (.ref R) (.int 0) g6 = .ok (.str x0) g6 := idx_lst we6 (i := 0) rfl
  obtain ⟨g7, m3, f7⟩ := makes_run (scr := scr) (k := 13) ge6 G3
  have m3' : phi T lpW scr (fun i => code[i]?) 19 false 23 [.str x0, .ref S] g6 = .ok (.bl true) g7 := m3
  have we7 := f7.get we6 (by simp)
  have ge7 := f7.get ge6 (by simp)
  -- widens
  have q7 := slc_lst (lo := none) (hi := some 2) we7
  rw [cut2] at q7
  have Gm1 : GdL [x0, x1] := fun s hs => G1 s (by simp only [List.mem_cons, List.not_mem_nil, or_false] at hs ⊢; rcases hs with q | q <;> simp [q])
  have Gm2 : GdL [y1, y0] := fun s hs => G2 s (by simp only [List.mem_cons, List.not_mem_nil, or_false] at hs ⊢; rcases hs with q | q <;> simp [q])
  obtain ⟨g8, v1, f8⟩ := widens_run (scr := scr) (k := 13) (get_old (o := .lst [.str x0, .str x1]) ge7) (get_push (h := g7) (o := .lst [.str x0, .str x1])) nn ny0 Gm1
  have v1' : phi T lpW scr (fun i => code[i]?) 19 false 24 [.str n, .ref S, .ref g7.length] (g7 ++ [.lst [.str x0, .str x1]]) = .ok (.bl true) g8 := v1
  have we8 := f8.get (get_old (o := .lst [.str x0, .str x1]) we7) (by simp)
  have ge8 := f8.get (get_old (o := .lst [.str x0, .str x1]) ge7) (by simp)
  have i81 : idxD (.ref S) (.int 1) g8 = .ok (.str y1) g8 := idx_lst ge8 (i := 1) rfl
  have i80 : idxD (.ref S) (.int 0) g8 = .ok (.str y0) g8 := idx_lst ge8 (i := 0) rfl
  obtain ⟨g9, v2, f9⟩ := widens_run (scr := scr) (k := 13) (get_old (o := .lst [.str y1, .str y0]) ge8) (get_push (h := g8) (o := .lst [.str y1, .str y0])) nn ny0 Gm2
  have v2' : phi T lpW scr (fun i => code[i]?) 19 false 24 [.str n, .ref S, .ref g8.length] (g8 ++ [.lst [.str y1, .str y0]]) = .ok (.bl true) g9 := v2
  have we9 := f9.get (get_old (o := .lst [.str y1, .str y0]) we8) (by simp)
  have ge9 := f9.get (get_old (o := .lst [.str y1, .str y0]) ge8) (by simp)
  -- two strikes
  have i90 : idxD (.ref S) (.int 0) g9 = .ok (.str y0) g9 := idx_lst ge9 (i := 0) rfl
  have gy : GdL [y0] := fun s hs => by rw [List.mem_singleton] at hs; subst hs; exact name_gd ny0
  have nys : ∀ s ∈ [y0], isName s = true := fun s hs => by rw [List.mem_singleton] at hs; subst hs; exact ny0
  obtain ⟨g10, c1, st1, f10⟩ := new_ok (scr := scr) (k := 16) (m := false) (h := g9) gdn nn gy nys (by show 1 < 60; decide)
  simp only [List.map_cons, List.map_nil] at c1
  have c1' : newR false 3 (phi T lpW scr (fun i => code[i]?) 19 false 2) [.str n, .str y0] g9 = .ok (.ref g9.length) g10 := c1
  have ge10 := f10.get ge9 (by simp)
  have i100 : idxD (.ref S) (.int 0) g10 = .ok (.str y0) g10 := idx_lst ge10 (i := 0) rfl
  obtain ⟨g11, c2, st2, f11⟩ := new_ok (scr := scr) (k := 16) (m := false) (h := g10) gdo on gy nys (by show 1 < 60; decide)
  simp only [List.map_cons, List.map_nil] at c2
  have c2' : newR false 3 (phi T lpW scr (fun i => code[i]?) 19 false 2) [.str o, .str y0] g10 = .ok (.ref g10.length) g11 := c2
  have cq : cmpO (fun c => T.owneq.lookup c) (phi T lpW scr (fun i => code[i]?) 19 false) .eq (.ref g9.length) (.ref g10.length) g11 = .ok (.bl (decide (n = o))) g11 := by
    have := co_eq (scr := scr) (k := 18) (m := false) (st1.fp f11 (by simp)) st2 gdn gdo (shl_gd gy) (shl_gd gy)
    rw [show decide (shl [y0] = shl [y0]) = true from decide_eq_true rfl, Bool.and_true] at this
    exact this
  have cs := ceq_str (h := g11) gdn gdo
  have sb : phi T lpW scr (fun i => code[i]?) 19 false 15 [.bl (decide (n = o)), .bl (decide (n = o))] g11 = .ok (.bl true) g11 := same_bl (n := 18)
  -- a strike alone
  have ge11 := f11.get ge10 (by simp)
  have we11 := f11.get (f10.get we9 (by simp)) (by simp)
  obtain ⟨g12, c3, st3, f12⟩ := new_ok (scr := scr) (k := 16) (m := false) (h := g11) (sh := []) gdn nn (fun s hs => by cases hs) (fun s hs => by cases hs) (by decide)
  have c3' : newR false 3 (phi T lpW scr (fun i => code[i]?) 19 false 2) [.str n] g11 = .ok (.ref g11.length) g12 := c3
  obtain ⟨g13, t1, f13⟩ := is_run (scr := scr) (k := 14) (m := false) (ws := []) (r := g12.length) (st3.fp (Fp.push (p := none) (o := .lst [])) (by simp)) get_push nn (fun s hs => by cases hs) (by decide) (tx_names nn (fun s hs => by cases hs) (by decide))
  have t1' : phi T lpW scr (fun i => code[i]?) 19 false 19 [.ref g11.length, .str n, .ref g12.length] (g12 ++ [.lst []]) = .ok (.bl true) g13 := t1
  have f1113 : Fp none g11 g13 := (f12.trans Fp.push).trans f13
  have ge13 := f1113.get ge11 (by simp)
  have we13 := f1113.get we11 (by simp)
  -- the wide one
  obtain ⟨g14, c4, st4, f14⟩ := new_ok (scr := scr) (k := 16) (m := false) (h := g13) (sh := []) gdn nn (fun s hs => by cases hs) (fun s hs => by cases hs) (by decide)
  have c4' : newR false 3 (phi T lpW scr (fun i => code[i]?) 19 false 2) [.str n] g13 = .ok (.ref g13.length) g14 := c4
  have ge14 := f14.get ge13 (by simp)
  have we14 := f14.get we13 (by simp)
  have pl14 : Pool g14 1 0 := (((((((((((pl4.fp f5).fp f6).fp f7).fp (Fp.push (o := .lst [.str x0, .str x1]))).fp f8).fp (Fp.push (o := .lst [.str y1, .str y0]))).fp f9).fp f10).fp f11).fp f1113).fp f14)
  unfold b25
  rw [PI.s1, sset, vcall]
  simp -implicitDefEqProofs only [PI.a1, PI.a0, vvar, fVar, List.getElem?_cons_zero, List.getElem?_cons_succ, List.set_cons_succ, List.set_cons_zero, bind_ok, bindS_ok, sqR_nx, p0, hot_f]
  rw [PI.s1, sset, vcall]
  simp -implicitDefEqProofs only [PI.a1, PI.a0, vvar, fVar, List.getElem?_cons_zero, List.getElem?_cons_succ, List.set_cons_succ, List.set_cons_zero, bind_ok, bindS_ok, sqR_nx, n1', hot_f]
  rw [PI.s1, ssetL, w1]
  simp -implicitDefEqProofs only [bindS_ok, sqR_nx, List.set_cons_succ, List.set_cons_zero]
  rw [PI.s1, ssetL, w2]
  simp -implicitDefEqProofs only [bindS_ok, sqR_nx, List.set_cons_succ, List.set_cons_zero]
  rw [PI.s1, sset, vcall]
  simp -implicitDefEqProofs only [PI.a1, PI.a0, vvar, fVar, List.getElem?_cons_zero, List.getElem?_cons_succ, List.set_cons_succ, List.set_cons_zero, bind_ok, bindS_ok, sqR_nx, n4', hot_f]
  rw [PI.s1, sife]
  simp -implicitDefEqProofs only [tor, tor0, tnot, tcall, vcall, vidx, vint, PI.a1, PI.a0, vvar, fVar, List.getElem?_cons_zero, List.getElem?_cons_succ, bind_ok, hot_f, m1', tru_bl, Bool.not_true, ifR_f, m2', ix6, m3', bindS_ok, PI.s0, sqR_nx]
  rw [PI.s1, sife]
  simp -implicitDefEqProofs only [tor, tor0, tnot, tcall, vcall, vidx, vslc, vlst, PI.o0, PI.o1, part_int, vint, PI.a1, PI.a0, vvar, fVar, List.getElem?_cons_zero, List.getElem?_cons_succ, bind_ok, hot_f, q7, v1', tru_bl, Bool.not_true, ifR_f, i81, i80, mkLst2, v2', bindS_ok, PI.s0, sqR_nx]
  rw [PI.s1, sife]
  simp -implicitDefEqProofs only [tor, tor0, tnot, tcall, vcall, vcmp, vnew, ci3, vidx, vlst, vint, PI.a1, PI.a0, vvar, fVar, List.getElem?_cons_zero, List.getElem?_cons_succ, bind_ok, hot_f, i90, c1', i100, c2', cq, co_str, cs, sb, tru_bl, Bool.not_true, ifR_f, c3', mkLst0, t1', bindS_ok, PI.s0, sqR_nx]
  rw [PI.s1, sset]
  simp -implicitDefEqProofs only [vnew, ci3, PI.a1, PI.a0, vvar, fVar, List.getElem?_cons_zero, List.getElem?_cons_succ, List.set_cons_succ, List.set_cons_zero, bind_ok, c4', bindS_ok, sqR_nx]
  rw [PI.s1, sfor]
  simp -implicitDefEqProofs only [iv, vvar, fVar, List.getElem?_cons_zero, List.getElem?_cons_succ, bind_ok, itD, ge14, bindS_ok]
  have nys3 : ∀ s ∈ [y0, y1, y2], isName s = true := gp
  refine for_rule (xs := [y0, y1, y2].map D.str) (fun j env hh => Fp none g14 hh ∧ ∃ w v, Stk hh w n (shl ([y0, y1, y2].take j)) ∧ env = [some .scr, some (.ref 1), some (.str n), some (.ref R), none, some (.ref S), some (.str o), some (.ref w), v]) (fun r => ∃ h2, rtR (sqR r _) = .ok (.bl true) h2) ⟨Fp.refl, g13.length, none, st4, rfl⟩ (fun j env hh q => is_lst (q.1.get ge14 (by simp))) ?_ ?_
  · rintro j d env hh ej ⟨fj, w, v, st, rfl⟩
    rw [List.getElem?_map] at ej
    cases en : [y0, y1, y2][j]? with
    | none => rw [en] at ej; cases ej
    | some x =>
      rw [en] at ej
      cases ej
      refine ⟨_, rfl, ?_⟩
      have xm : x ∈ [y0, y1, y2] := List.mem_of_getElem? en
      have nx := nys3 x xm
      have tk : ∀ s ∈ [y0, y1, y2].take j, isName s = true := fun s hs => nys3 s (List.mem_of_mem_take hs)
      have st0 : ∀ s ∈ shl ([y0, y1, y2].take j), isName s = true := fun s hs => tk s (shl_mem.mp hs)
      have ll : (shl ([y0, y1, y2].take j)).length ≤ 3 := Nat.le_trans shl_len (by rw [List.length_take]; exact Nat.min_le_right _ _)
      obtain ⟨h1, d1, s1, fp1⟩ := shield_ok (scr := scr) (k := 15) (m := false) (more := [x]) st gdn nn (nms_gd st0) st0 (fun s hs => by rw [List.mem_singleton] at hs; subst hs; exact name_gd nx) (fun s hs => by rw [List.mem_singleton] at hs; subst hs; exact nx) (by simp only [List.length_cons, List.length_nil]; omega)
      have d1' : phi T lpW scr (fun i => code[i]?) 19 false 6 [.ref w, .str x] hh = .ok (.ref hh.length) h1 := d1
      rw [shl_app] at s1
      have ht : [y0, y1, y2].take j ++ [x] = [y0, y1, y2].take (j + 1) := by rw [List.take_succ, en]; rfl
      rw [ht] at s1
      have tk1 : ∀ s ∈ [y0, y1, y2].take (j + 1), isName s = true := fun s hs => nys3 s (List.mem_of_mem_take hs)
      have st1 : ∀ s ∈ shl ([y0, y1, y2].take (j + 1)), isName s = true := fun s hs => tk1 s (shl_mem.mp hs)
      have ll1 : (shl ([y0, y1, y2].take (j + 1))).length ≤ 3 := Nat.le_trans shl_len (by rw [List.length_take]; exact Nat.min_le_right _ _)
      obtain ⟨h2, d2, s2, fp2⟩ := shield_ok (scr := scr) (k := 15) (m := false) (more := []) s1 gdn nn (nms_gd st1) st1 (fun s hs => by cases hs) (fun s hs => by cases hs) (by simp only [List.length_nil]; omega)
      have d2' : phi T lpW scr (fun i => code[i]?) 19 false 6 [.ref hh.length] h1 = .ok (.ref h1.length) h2 := d2
      rw [List.append_nil, shl_shl] at s2
      have e7 := sel_7 st
      have e7' := sel_7 s1
      simp -implicitDefEqProofs only [PI.s1, PI.s0, sset, vmeth, PI.a1, PI.a0, vvar, fVar, List.getElem?_cons_zero, List.getElem?_cons_succ, List.set_cons_succ, List.set_cons_zero, bind_ok, e7, d1', hot_f, e7', d2', bindS_ok, sqR_nx]
      exact ⟨(fj.trans fp1).trans fp2, _, _, s2, rfl⟩
  · rintro env hh ⟨fj, w, v, st, rfl⟩
    have st' : Stk hh w n (shl [y0, y1, y2]) := st
    have ge15 := fj.get ge14 (by simp)
    have we15 := fj.get we14 (by simp)
    have pl15 := pl14.fp fj
    obtain ⟨g16, t2, f16⟩ := is_run (scr := scr) (k := 14) (m := false) (ws := [y0, y1, y2]) st' ge15 nn nys3 (by show 3 < 60; decide) (tx_names nn nys3 (by show 3 ≤ 5; decide))
    have t2' : phi T lpW scr (fun i => code[i]?) 19 false 19 [.ref w, .str n, .ref S] hh = .ok (.bl true) g16 := t2
    have ge16 := f16.get ge15 (by simp)
    have we16 := f16.get we15 (by simp)
    have pl16 := pl15.fp f16
    have sn : S ≠ 1 := by omega
    have rn : R ≠ 1 := by omega
    obtain ⟨_, g17, b1, pl17, f17, s1, rfl, tx1⟩ := bent_run (scr := scr) (k := 16) (ws := [x0, x1, x2]) pl16 nn we16 rn wp rfl
    have b1' : phi T lpW scr (fun i => code[i]?) 19 false 22 [.ref 1, .str n, .ref R] g16 = .ok (.str s1) g17 := b1
    obtain ⟨g18, r1, f18⟩ := reads_run (scr := scr) (k := 13) (h := g17) tx1
    have r1' : phi T lpW scr (fun i => code[i]?) 19 false 21 [.str s1] g17 = .ok (.bl true) g18 := r1
    have pl18 := pl17.fp f18
    have ge18 := f18.get (f17.get ge16 (by simpa using sn)) (by simp)
    have we18 := f18.get (f17.get we16 (by simpa using rn)) (by simp)
    obtain ⟨_, g19, b2, pl19, f19, s2, rfl, tx2⟩ := bent_run (scr := scr) (k := 16) (ws := [y0, y1, y2]) pl18 nn ge18 sn (fun s hs => wd_name (nys3 s hs)) rfl
    have b2' : phi T lpW scr (fun i => code[i]?) 19 false 22 [.ref 1, .str n, .ref S] g18 = .ok (.str s2) g19 := b2
    obtain ⟨g20, r2, f20⟩ := reads_run (scr := scr) (k := 13) (h := g19) tx2
    have r2' : phi T lpW scr (fun i => code[i]?) 19 false 21 [.str s2] g19 = .ok (.bl true) g20 := r2
    have we20 := f20.get (f19.get we18 (by simpa using rn)) (by simp)
    have i20 : idxD (.ref R) (.int 0) g20 = .ok (.str x0) g20 := idx_lst we20 (i := 0) rfl
    obtain ⟨g21, r3, f21⟩ := reads_run (scr := scr) (k := 13) (h := g20) (t := x0) ⟨wx0.c, by have := wx0.l; omega⟩
    have r3' : phi T lpW scr (fun i => code[i]?) 19 false 21 [.str x0] g20 = .ok (.bl true) g21 := r3
    refine ⟨g21, ?_⟩
    simp -implicitDefEqProofs only [sqR_nx, PI.s1, PI.s0, sife, tnot, tcall, sret, vand, vand1, vcall, vidx, vint, PI.a1, PI.a0, vvar, fVar, List.getElem?_cons_zero, List.getElem?_cons_succ, bind_ok, t2', hot_f, tru_bl, Bool.not_true, bindS_ok, ifR_f, ifR_t, b1', r1', b2', r2', i20, r3', sqR_rt, rtR_rt]
end K00

open PySem PySem.W PyProof.Rows in
set_option maxRecDepth 100000 in
set_option maxHeartbeats 0 in
theorem PySem.Challenge.cw_struckbodies_k00_strike_items_holds : PySem.Challenge.rw_struckbodies_k00_strike_items.Holds := by
  w_on; o_law; k_head; (case hw => w_witness2)
  k_fill
  refine PI.walk_P (n := 63) (kk := K00.fuel) (lf := 25) (T := K00.T) (code := fun i => K00.code[i]?) rfl (by decide) rfl ⟨by decide, by decide⟩ rfl (fun w h Y => PySem.W.kIn_of Y) ?F K00.law_true
  case F =>
    intro w mg fa h KX G hmg
    refine' K00.prg_mk KX G hmg ?pi_aC0 ?pi_aC1 ?pi_aC2 ?pi_aC3 ?pi_a0 ?pi_l0 ?pi_co0 ?pi_k0 ?pi_a1 ?pi_l1 ?pi_co1 ?pi_k1 ?pi_a2 ?pi_l2 ?pi_co2 ?pi_i2 ?pi_a3 ?pi_l3 ?pi_co3 ?pi_k3 ?pi_i3 ?pi_a4 ?pi_q4 ?pi_qg4 ?pi_qt4 ?pi_l4 ?pi_co4 ?pi_a5 ?pi_l5 ?pi_co5 ?pi_k5 ?pi_i5 ?pi_a6 ?pi_l6 ?pi_co6 ?pi_k6 ?pi_i6 ?pi_a7 ?pi_q7 ?pi_qg7 ?pi_qt7 ?pi_l7 ?pi_co7 ?pi_a8 ?pi_q8 ?pi_qf8 ?pi_l8 ?pi_co8 ?pi_a9 ?pi_l9 ?pi_co9 ?pi_k9 ?pi_a10 ?pi_l10 ?pi_co10 ?pi_k10 ?pi_a11 ?pi_l11 ?pi_co11 ?pi_k11 ?pi_a12 ?pi_l12 ?pi_co12 ?pi_k12 ?pi_a13 ?pi_l13 ?pi_co13 ?pi_k13 ?pi_a14 ?pi_l14 ?pi_co14 ?pi_k14 ?pi_a15 ?pi_l15 ?pi_co15 ?pi_k15 ?pi_a16 ?pi_l16 ?pi_co16 ?pi_k16 ?pi_a17 ?pi_l17 ?pi_co17 ?pi_k17 ?pi_a18 ?pi_l18 ?pi_co18 ?pi_k18 ?pi_a19 ?pi_l19 ?pi_co19 ?pi_k19 ?pi_a20 ?pi_l20 ?pi_co20 ?pi_k20 ?pi_a21 ?pi_l21 ?pi_co21 ?pi_k21 ?pi_a22 ?pi_l22 ?pi_co22 ?pi_k22 ?pi_a23 ?pi_l23 ?pi_co23 ?pi_k23 ?pi_a24 ?pi_l24 ?pi_co24 ?pi_k24 ?pi_a25 ?pi_l25 ?pi_co25 ?pi_k25 ?pi_pg3 ?pi_hd3 ?pi_po3 ?pi_sa3 ?pi_mk3 ?pi_kc3 ?pi_n3_name ?pi_n3_shield ?pi_ha3 ?pi_hm3 ?pi_rd3 ?pi_sg3 ?pi_ne3 ?pi_nf3_0 ?pi_nf3_1 ?pi_nf3_2 ?pi_nf3_3 ?pi_hn ?pi_ht ?pi_rd0 ?pi_sg0 ?pi_bi0 ?pi_hb0 ?pi_hh0 ?pi_hy0 ?pi_x1 ?pi_xsa1 ?pi_xe1 ?pi_xt1 ?pi_xk1 ?pi_xi1 ?pi_xy1 ?pi_xn1_name ?pi_lx1 ?pi_cox1 ?pi_xga1 ?pi_xgg1 ?pi_xhd1 ?pi_xha1 ?pi_xhm1 ?pi_xs1_0 ?pi_kic2 ?pi_kty2 ?pi_ksu1_2 ?pi_kne1_2 ?pi_kic1 ?pi_kty1 ?pi_ksu1_1 ?pi_x2 ?pi_xsa2 ?pi_xe2 ?pi_xt2 ?pi_xk2 ?pi_xi2 ?pi_xy2 ?pi_xn2_line ?pi_lx2 ?pi_cox2 ?pi_xga2 ?pi_xgg2 ?pi_xhd2 ?pi_xha2 ?pi_xhm2 ?pi_xs2_0 ?pi_ksu2_2 ?pi_ksu2_1 ?pi_kne2_1 ?pi_g0 ?pi_g1 ?pi_g2 ?pi_z_bool ?pi_z_int ?pi_z_isinstance ?pi_z_len ?pi_z_list ?pi_z_range ?pi_z_sorted ?pi_z_str ?pi_z_tuple ?pi_kic3 ?pi_kty3 ?pi_w0 ?pi_w1 ?pi_w2 ?pi_w3 ?pi_w4 ?pi_w5 ?pi_w6 ?pi_ksu3_3 ?pi_w15 ?pi_w23 ?pi_w31 ?pi_w39 ?pi_w47
    (case pi_aC0 => k_is)
    (case pi_aC1 => k_is)
    (case pi_aC2 => k_is)
    (case pi_aC3 => k_is)
    (case pi_a0 => k_is)
    (case pi_l0 => k_is)
    (case pi_co0 => k_is)
    (case pi_k0 => k_is)
    (case pi_a1 => k_is)
    (case pi_l1 => k_is)
    (case pi_co1 => k_is)
    (case pi_k1 => k_is)
    (case pi_a2 => k_is)
    (case pi_l2 => k_is)
    (case pi_co2 => k_is)
    (case pi_i2 => k_is)
    (case pi_a3 => k_is)
    (case pi_l3 => k_is)
    (case pi_co3 => k_is)
    (case pi_k3 => k_is)
    (case pi_i3 => k_is)
    (case pi_a4 => k_is)
    (case pi_q4 => k_is)
    (case pi_qg4 => k_is)
    (case pi_qt4 => k_is)
    (case pi_l4 => k_is)
    (case pi_co4 => k_is)
    (case pi_a5 => k_is)
    (case pi_l5 => k_is)
    (case pi_co5 => k_is)
    (case pi_k5 => k_is)
    (case pi_i5 => k_is)
    (case pi_a6 => k_is)
    (case pi_l6 => k_is)
    (case pi_co6 => k_is)
    (case pi_k6 => k_is)
    (case pi_i6 => k_is)
    (case pi_a7 => k_is)
    (case pi_q7 => k_is)
    (case pi_qg7 => k_is)
    (case pi_qt7 => k_is)
    (case pi_l7 => k_is)
    (case pi_co7 => k_is)
    (case pi_a8 => k_is)
    (case pi_q8 => k_is)
    (case pi_qf8 => k_is)
    (case pi_l8 => k_is)
    (case pi_co8 => k_is)
    (case pi_a9 => k_is)
    (case pi_l9 => k_is)
    (case pi_co9 => k_is)
    (case pi_k9 => k_is)
    (case pi_a10 => k_is)
    (case pi_l10 => k_is)
    (case pi_co10 => k_is)
    (case pi_k10 => k_is)
    (case pi_a11 => k_is)
    (case pi_l11 => k_is)
    (case pi_co11 => k_is)
    (case pi_k11 => k_is)
    (case pi_a12 => k_is)
    (case pi_l12 => k_is)
    (case pi_co12 => k_is)
    (case pi_k12 => k_is)
    (case pi_a13 => k_is)
    (case pi_l13 => k_is)
    (case pi_co13 => k_is)
    (case pi_k13 => k_is)
    (case pi_a14 => k_is)
    (case pi_l14 => k_is)
    (case pi_co14 => k_is)
    (case pi_k14 => k_is)
    (case pi_a15 => k_is)
    (case pi_l15 => k_is)
    (case pi_co15 => k_is)
    (case pi_k15 => k_is)
    (case pi_a16 => k_is)
    (case pi_l16 => k_is)
    (case pi_co16 => k_is)
    (case pi_k16 => k_is)
    (case pi_a17 => k_is)
    (case pi_l17 => k_is)
    (case pi_co17 => k_is)
    (case pi_k17 => k_is)
    (case pi_a18 => k_is)
    (case pi_l18 => k_is)
    (case pi_co18 => k_is)
    (case pi_k18 => k_is)
    (case pi_a19 => k_is)
    (case pi_l19 => k_is)
    (case pi_co19 => k_is)
    (case pi_k19 => k_is)
    (case pi_a20 => k_is)
    (case pi_l20 => k_is)
    (case pi_co20 => k_is)
    (case pi_k20 => k_is)
    (case pi_a21 => k_is)
    (case pi_l21 => k_is)
    (case pi_co21 => k_is)
    (case pi_k21 => k_is)
    (case pi_a22 => k_is)
    (case pi_l22 => k_is)
    (case pi_co22 => k_is)
    (case pi_k22 => k_is)
    (case pi_a23 => k_is)
    (case pi_l23 => k_is)
    (case pi_co23 => k_is)
    (case pi_k23 => k_is)
    (case pi_a24 => k_is)
    (case pi_l24 => k_is)
    (case pi_co24 => k_is)
    (case pi_k24 => k_is)
    (case pi_a25 => k_is)
    (case pi_l25 => k_is)
    (case pi_co25 => k_is)
    (case pi_k25 => k_is)
    (case pi_pg3 => k_is)
    (case pi_hd3 => k_is)
    (case pi_po3 => k_is)
    (case pi_sa3 => k_is)
    (case pi_mk3 => k_is)
    (case pi_kc3 => k_is)
    (case pi_n3_name => k_is)
    (case pi_n3_shield => k_is)
    (case pi_ha3 => k_is)
    (case pi_hm3 => k_is)
    (case pi_rd3 => k_is)
    (case pi_sg3 => k_is)
    (case pi_ne3 => k_is)
    (case pi_nf3_0 => k_is)
    (case pi_nf3_1 => k_is)
    (case pi_nf3_2 => k_is)
    (case pi_nf3_3 => k_is)
    (case pi_hn => k_is)
    (case pi_ht => k_is)
    (case pi_rd0 => k_is)
    (case pi_sg0 => k_is)
    (case pi_bi0 => k_is)
    (case pi_hb0 => k_is)
    (case pi_hh0 => k_is)
    (case pi_hy0 => k_is)
    (case pi_x1 => k_is)
    (case pi_xsa1 => k_is)
    (case pi_xe1 => k_is)
    (case pi_xt1 => k_is)
    (case pi_xk1 => k_is)
    (case pi_xi1 => k_is)
    (case pi_xy1 => k_is)
    (case pi_xn1_name => k_is)
    (case pi_lx1 => k_is)
    (case pi_cox1 => k_is)
    (case pi_xga1 => k_is)
    (case pi_xgg1 => k_is)
    (case pi_xhd1 => k_is)
    (case pi_xha1 => k_is)
    (case pi_xhm1 => k_is)
    (case pi_xs1_0 => k_is)
    (case pi_kic2 => k_is)
    (case pi_kty2 => k_is)
    (case pi_ksu1_2 => k_is)
    (case pi_kne1_2 => rfl)
    (case pi_kic1 => k_is)
    (case pi_kty1 => k_is)
    (case pi_ksu1_1 => k_is)
    (case pi_x2 => k_is)
    (case pi_xsa2 => k_is)
    (case pi_xe2 => k_is)
    (case pi_xt2 => k_is)
    (case pi_xk2 => k_is)
    (case pi_xi2 => k_is)
    (case pi_xy2 => k_is)
    (case pi_xn2_line => k_is)
    (case pi_lx2 => k_is)
    (case pi_cox2 => k_is)
    (case pi_xga2 => k_is)
    (case pi_xgg2 => k_is)
    (case pi_xhd2 => k_is)
    (case pi_xha2 => k_is)
    (case pi_xhm2 => k_is)
    (case pi_xs2_0 => k_is)
    (case pi_ksu2_2 => k_is)
    (case pi_ksu2_1 => k_is)
    (case pi_kne2_1 => rfl)
    (case pi_g0 => k_is)
    (case pi_g1 => k_is)
    (case pi_g2 => k_is)
    (case pi_z_bool => k_is)
    (case pi_z_int => k_is)
    (case pi_z_isinstance => k_is)
    (case pi_z_len => k_is)
    (case pi_z_list => k_is)
    (case pi_z_range => k_is)
    (case pi_z_sorted => k_is)
    (case pi_z_str => k_is)
    (case pi_z_tuple => k_is)
    (case pi_kic3 => k_is)
    (case pi_kty3 => k_is)
    (case pi_w0 => k_is)
    (case pi_w1 => k_is)
    (case pi_w2 => k_is)
    (case pi_w3 => k_is)
    (case pi_w4 => k_is)
    (case pi_w5 => k_is)
    (case pi_w6 => k_is)
    (case pi_ksu3_3 => k_is)
    (case pi_w15 => k_is)
    (case pi_w23 => k_is)
    (case pi_w31 => k_is)
    (case pi_w39 => k_is)
    (case pi_w47 => k_is)
#print axioms PySem.Challenge.cw_struckbodies_k00_strike_items_holds
