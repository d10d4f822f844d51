import PyProof.Rows.All
import Wide.All
import OpenK.AllK
import Wide.FinOn
import HandS.ForMost
import HandS.ForExc
import HandS.Wide
import HandS.CallSlots
import HandS.TryMany
import HandS.IsInst
import HandS.Lambda
import HandS.Defaults
import HandS.Walk
import HandS.Zip
import HandS.Rev
import HandS.Text
import HandS.ExcInit
import HandS.ClsMeth
import HandS.HotCalls
import HandS.ExcField
import HandS.HeadHook4
import KE.KStateDown
import HandS.Head0
import HandS.Head1
import HandS.Head2
import HandS.HeadEnd
import HandS.HeadHook1
import HandS.HeadHook2
import HandS.HeadWalk
import PySem.Challenge.RW_rootbags_k01_lowest_terms
set_option Elab.async false
set_option linter.all false
set_option maxRecDepth 100000
set_option maxHeartbeats 4000000
namespace LX
open PySem PySem.Spec L2
open PyProof.Rows hiding St

/-! ### data -/
inductive D where
  | non | bl (b : Bool) | int (i : Int) | str (x : Str) | ty (n : String) | ref (a : Addr)
  | tup (ds : List D) | lst (ds : List D) | ins (C : Addr) (ns : List Str) (ds : List D)

mutual
def Rep (K : PySem.W.Frag) (H : Hp) : D → V → Prop
  | .non, v => v = .non
  | .bl b, v => v = .bl b
  | .int i, v => v = .int i
  | .str x, v => v = .str x
  | .ty n, v => v = .ty n
  | .ref a, v => v = .ref a
  | .tup ds, v => ∃ a xs, v = .ref a ∧ SqT K H a xs ∧ RepL K H ds xs
  | .lst ds, v => ∃ a xs, v = .ref a ∧ SqL K H a xs ∧ RepL K H ds xs
  | .ins C ns ds, v => ∃ a dx vs, v = .ref a ∧ H a = some (.ins C dx (ns.zip vs)) ∧ vs.length = ns.length ∧ RepL K H ds vs
def RepL (K : PySem.W.Frag) (H : Hp) : List D → List V → Prop
  | [], vs => vs = []
  | d :: ds, vs => ∃ v r, vs = v :: r ∧ Rep K H d v ∧ RepL K H ds r
end

theorem sqT_same {K : PySem.W.Frag} {H H' : Hp} {a : Addr} {xs : List V} (e : Same H H') (h : SqT K H a xs) : SqT K H' a xs := by
  rcases h with (h | ⟨o, h⟩) | h
  · exact .inl (.inl (e _ _ h))
  · exact .inl (.inr ⟨o, e _ _ h⟩)
  · exact .inr h

mutual
theorem Rep.mono {K : PySem.W.Frag} {H H' : Hp} (e : Same H H') : ∀ (d : D) {v : V}, Rep K H d v → Rep K H' d v
  | .non, _, h => h
  | .bl _, _, h => h
  | .int _, _, h => h
  | .str _, _, h => h
  | .ty _, _, h => h
  | .ref _, _, h => h
  | .tup ds, _, h => by
    obtain ⟨a, xs, h1, h2, h3⟩ := h
    exact ⟨a, xs, h1, sqT_same e h2, RepL.mono e ds h3⟩
  | .lst ds, _, h => by
    obtain ⟨a, xs, h1, h2, h3⟩ := h
    exact ⟨a, xs, h1, e.seq h2, RepL.mono e ds h3⟩
  | .ins C ns ds, _, h => by
    obtain ⟨a, dx, vs, h1, h2, h3, h4⟩ := h
    exact ⟨a, dx, vs, h1, e _ _ h2, h3, RepL.mono e ds h4⟩
theorem RepL.mono {K : PySem.W.Frag} {H H' : Hp} (e : Same H H') : ∀ (ds : List D) {vs : List V}, RepL K H ds vs → RepL K H' ds vs
  | [], _, h => h
  | d :: ds, _, h => by
    obtain ⟨v, r, h1, h2, h3⟩ := h
    exact ⟨v, r, h1, Rep.mono e d h2, RepL.mono e ds h3⟩
end

section
variable {K : PySem.W.Frag} {H : Hp}
theorem RepL.length : ∀ {ds : List D} {vs : List V}, RepL K H ds vs → ds.length = vs.length
  | [], _, h => by
    have e : _ = [] := h
    rw [e]; rfl
  | _ :: _, _, h => by
    obtain ⟨v, r, rfl, _, h3⟩ := h
    rw [List.length_cons, List.length_cons, RepL.length h3]
theorem RepL.get : ∀ {ds : List D} {vs : List V} {i : Nat} {d : D}, RepL K H ds vs → ds[i]? = some d → ∃ v, vs[i]? = some v ∧ Rep K H d v
  | [], _, _, _, _, e => by simp at e
  | d :: _, _, 0, _, h, e => by
    obtain ⟨v, r, rfl, h2, _⟩ := h
    simp at e; subst e
    exact ⟨v, by simp, h2⟩
  | _ :: _, _, i + 1, _, h, e => by
    obtain ⟨v, r, rfl, _, h3⟩ := h
    obtain ⟨u, h4, h5⟩ := RepL.get (i := i) h3 (by simpa using e)
    exact ⟨u, by simpa using h4, h5⟩
theorem RepL.getV {ds : List D} {vs : List V} {i : Nat} {v : V} (h : RepL K H ds vs) (e : vs[i]? = some v) : ∃ d, ds[i]? = some d ∧ Rep K H d v := by
  have hl := h.length
  have hi : i < ds.length := by
    have := (List.getElem?_eq_some_iff.mp e).1
    omega
  obtain ⟨u, h1, h2⟩ := h.get (List.getElem?_eq_getElem hi)
  rw [e] at h1
  cases h1
  exact ⟨_, List.getElem?_eq_getElem hi, h2⟩
theorem RepL.append : ∀ {ds es : List D} {vs us : List V}, RepL K H ds vs → RepL K H es us → RepL K H (ds ++ es) (vs ++ us)
  | [], _, _, _, h, g => by
    have e : _ = [] := h
    rw [e]; exact g
  | d :: ds, es, _, us, h, g => by
    obtain ⟨v, r, rfl, h2, h3⟩ := h
    exact ⟨v, r ++ us, rfl, h2, RepL.append h3 g⟩
theorem RepL.one {d : D} {v : V} (h : Rep K H d v) : RepL K H [d] [v] := ⟨v, [], rfl, h, rfl⟩
theorem RepL.set : ∀ {ds : List D} {vs : List V} {i : Nat} {d : D} {v : V}, RepL K H ds vs → Rep K H d v → RepL K H (ds.set i d) (vs.set i v)
  | [], _, _, _, _, h, _ => by
    have e : _ = [] := h
    rw [e]; rfl
  | _ :: ds, _, 0, d, v, h, g => by
    obtain ⟨u, r, rfl, h2, h3⟩ := h
    exact ⟨v, r, rfl, g, h3⟩
  | _ :: ds, _, i + 1, d, v, h, g => by
    obtain ⟨u, r, rfl, h2, h3⟩ := h
    exact ⟨u, r.set i v, rfl, h2, RepL.set h3 g⟩
theorem RepL.take : ∀ {ds : List D} {vs : List V} (n : Nat), RepL K H ds vs → RepL K H (ds.take n) (vs.take n)
  | _, _, 0, _ => by simp [RepL]
  | [], _, n + 1, h => by
    have e : _ = [] := h
    rw [e]; simp [RepL]
  | d :: ds, _, n + 1, h => by
    obtain ⟨u, r, rfl, h2, h3⟩ := h
    exact ⟨u, r.take n, rfl, h2, RepL.take n h3⟩
theorem RepL.drop : ∀ {ds : List D} {vs : List V} (n : Nat), RepL K H ds vs → RepL K H (ds.drop n) (vs.drop n)
  | _, _, 0, h => by simpa using h
  | [], _, n + 1, h => by
    have e : _ = [] := h
    rw [e]; simp [RepL]
  | d :: ds, _, n + 1, h => by
    obtain ⟨u, r, rfl, h2, h3⟩ := h
    simpa using RepL.drop n h3
theorem repL_ints : ∀ (ns : List Int), RepL K H (ns.map D.int) (ns.map V.int)
  | [] => rfl
  | n :: ns => ⟨.int n, ns.map V.int, rfl, rfl, repL_ints ns⟩
end

/-! ### the memory of mutable cells -/
inductive Cell where
  | lst (ds : List D)
  | ins (C : Addr) (ns : List Str) (ds : List D)
  | dK (ks : List Key) (ds : List D)
  | tbl (q : Str)
abbrev Mem := Addr → Option Cell
def Mem.put (μ : Mem) (a : Addr) (c : Cell) : Mem := fun b => if b = a then some c else μ b
def Mem.del (μ : Mem) (a : Addr) : Mem := fun b => if b = a then none else μ b
theorem Mem.put_same {μ : Mem} {a : Addr} {c : Cell} : μ.put a c a = some c := if_pos rfl
theorem Mem.put_ne {μ : Mem} {a b : Addr} {c : Cell} (h : b ≠ a) : μ.put a c b = μ b := if_neg h
theorem Mem.put_put {μ : Mem} {a : Addr} {c d : Cell} : (μ.put a c).put a d = μ.put a d := by
  funext b; unfold Mem.put; split <;> rfl
theorem Mem.put_self {μ : Mem} {a : Addr} {c : Cell} (h : μ a = some c) : μ.put a c = μ := by
  funext b; unfold Mem.put
  split
  · rename_i e; rw [e, h]
  · rfl
theorem Mem.del_put {μ : Mem} {a : Addr} {c : Cell} (h : μ a = none) : (μ.put a c).del a = μ := by
  funext b; unfold Mem.del
  split
  · rename_i e; rw [e, h]
  · rename_i e; exact Mem.put_ne e
/-- the tracked heap without the mutable cells and the tables -/
def hide (H : Hp) (μ : Mem) : Hp := fun b => match μ b with
  | some _ => none
  | none => match H b with
    | some (.tbl _) => none
    | o => o
theorem hide_of3 {H : Hp} {μ : Mem} {b : Addr} {o : HO} (h : hide H μ b = some o) : H b = some o ∧ μ b = none ∧ ∀ ps, o ≠ .tbl ps := by
  unfold hide at h
  cases e : μ b with
  | some c => rw [e] at h; cases h
  | none =>
    rw [e] at h
    cases e2 : H b with
    | none => rw [e2] at h; cases h
    | some u =>
      rw [e2] at h
      cases u <;> first
        | (cases h; exact ⟨rfl, rfl, fun ps z => by cases z⟩)
        | cases h
theorem hide_of {H : Hp} {μ : Mem} {b : Addr} {o : HO} (h : hide H μ b = some o) : H b = some o ∧ μ b = none := ⟨(hide_of3 h).1, (hide_of3 h).2.1⟩
theorem hide_nt {H : Hp} {μ : Mem} {b : Addr} {o : HO} (h : hide H μ b = some o) : ∀ ps, o ≠ .tbl ps := (hide_of3 h).2.2
theorem hide_at {H : Hp} {μ : Mem} {b : Addr} {o : HO} (h : μ b = none) (e : H b = some o) (nt : ∀ ps, o ≠ .tbl ps) : hide H μ b = some o := by
  unfold hide
  rw [h, e]
  cases o <;> first
    | rfl
    | exact absurd rfl (nt _)
def CellAt (K : PySem.W.Frag) (G H : Hp) (a : Addr) : Cell → Prop
  | .lst ds => ∃ xs, H a = some (.lst xs) ∧ RepL K G ds xs
  | .ins C ns ds => ∃ dx vs, H a = some (.ins C dx (ns.zip vs)) ∧ vs.length = ns.length ∧ RepL K G ds vs
  | .dK ks ds => ∃ vs, H a = some (.dK (ks.zip vs)) ∧ vs.length = ks.length ∧ RepL K G ds vs
  | .tbl q => ∃ ps : Array Value, H a = some (.tbl ps) ∧ TriplesOk ps.toList ∧ ∀ (pos : Pos) (cv : Value), codeAmong pos ps.toList = some cv → ∃ c, cv = .ref c ∧ G c = some (LamX.CodeO c q)
def Mdl (K : PySem.W.Frag) (H : Hp) (μ : Mem) : Prop := ∀ a c, μ a = some c → CellAt K (hide H μ) H a c
theorem CellAt.mono {K : PySem.W.Frag} {G G' H H' : Hp} {a : Addr} {c : Cell} (e : Same G G') (ha : H' a = H a) (h : CellAt K G H a c) : CellAt K G' H' a c := by
  cases c with
  | lst ds => obtain ⟨xs, h1, h2⟩ := h; exact ⟨xs, ha.trans h1, RepL.mono e _ h2⟩
  | ins C ns ds => obtain ⟨dx, vs, h1, h2, h3⟩ := h; exact ⟨dx, vs, ha.trans h1, h2, RepL.mono e _ h3⟩
  | dK ks ds => obtain ⟨vs, h1, h2, h3⟩ := h; exact ⟨vs, ha.trans h1, h2, RepL.mono e _ h3⟩
  | tbl q => obtain ⟨ps, h1, h2, h3⟩ := h; exact ⟨ps, ha.trans h1, h2, fun pos cv z => let ⟨c, e1, e2⟩ := h3 pos cv z; ⟨c, e1, e _ _ e2⟩⟩
theorem CellAt.some {K : PySem.W.Frag} {G H : Hp} {a : Addr} {c : Cell} (h : CellAt K G H a c) : ∃ o, H a = some o := by
  cases c with
  | lst ds => obtain ⟨xs, h1, _⟩ := h; exact ⟨_, h1⟩
  | ins C ns ds => obtain ⟨dx, vs, h1, _⟩ := h; exact ⟨_, h1⟩
  | dK ks ds => obtain ⟨vs, h1, _⟩ := h; exact ⟨_, h1⟩
  | tbl q => obtain ⟨ps, h1, _⟩ := h; exact ⟨_, h1⟩

abbrev LEnv := List (Option D)
def EnvR (K : PySem.W.Frag) (G : Hp) (σ : St) (ρ : LEnv) : Prop := ∀ (i : Nat) (d : D), ρ[i]? = some (some d) → ∃ v, σ[i]? = some (some v) ∧ Rep K G d v
theorem EnvR.mono {K : PySem.W.Frag} {G G' : Hp} {σ : St} {ρ : LEnv} (e : Same G G') (h : EnvR K G σ ρ) : EnvR K G' σ ρ := fun i d q => by
  obtain ⟨v, h1, h2⟩ := h i d q
  exact ⟨v, h1, Rep.mono e d h2⟩
theorem EnvR.set {K : PySem.W.Frag} {G : Hp} {σ : St} {ρ : LEnv} {i : Nat} {d : D} {v : V} (hi : i < σ.length) (h : EnvR K G σ ρ) (r : Rep K G d v) : EnvR K G (σ.set i (some v)) (ρ.set i (some d)) := fun j d' q => by
  by_cases e : i = j
  · subst e
    have hl : i < ρ.length := by
      have := (List.getElem?_eq_some_iff.mp q).1
      simpa using this
    rw [List.getElem?_set_self hl] at q
    cases q
    exact ⟨v, List.getElem?_set_self hi, r⟩
  · rw [List.getElem?_set_ne e] at q ⊢
    exact h j d' q

structure Good (K : PySem.W.Frag) (B H : Hp) (μ : Mem) (σ : St) (ρ : LEnv) : Prop where
  same : Same B (hide H μ)
  env : EnvR K (hide H μ) σ ρ
  mdl : Mdl K H μ
section
variable {K : PySem.W.Frag} {B H : Hp} {μ : Mem} {σ : St} {ρ : LEnv}
/-- something new is laid at p -/
theorem hide_laid {p : Addr} {o : HO} (hp : H p = none) (hm : μ p = none) : Same (hide H μ) (hide (upd H p o) μ) := fun b u e => by
  obtain ⟨h1, h2, h3⟩ := hide_of3 e
  exact hide_at h2 (by rw [upd_ne (ne_of_none h1 hp)]; exact h1) h3
theorem Mdl.free (M : Mdl K H μ) {p : Addr} (hp : H p = none) : μ p = none := by
  cases e : μ p with
  | none => rfl
  | some c =>
    obtain ⟨o, h⟩ := (M p c e).some
    rw [hp] at h; cases h
theorem Good.laid (G : Good K B H μ σ ρ) {p : Addr} {o : HO} (hp : H p = none) : Good K B (upd H p o) μ σ ρ := by
  have e := hide_laid (H := H) (μ := μ) (o := o) hp (G.mdl.free hp)
  refine ⟨G.same.trans e, G.env.mono e, fun a c h => ?_⟩
  have q := G.mdl a c h
  obtain ⟨u, hu⟩ := q.some
  exact q.mono e (upd_ne (ne_of_none hu hp))
/-- a new cell -/
theorem hide_new {p : Addr} {o : HO} {c : Cell} (hp : H p = none) : Same (hide H μ) (hide (upd H p o) (μ.put p c)) := fun b u e => by
  obtain ⟨h1, h2, h3⟩ := hide_of3 e
  have n := ne_of_none h1 hp
  exact hide_at (by rw [Mem.put_ne n]; exact h2) (by rw [upd_ne n]; exact h1) h3
/-- a cell is written -/
theorem hide_put {p : Addr} {o : HO} {c c' : Cell} (hm : μ p = some c) : Same (hide H μ) (hide (upd H p o) (μ.put p c')) := fun b u e => by
  obtain ⟨h1, h2, h3⟩ := hide_of3 e
  have n : b ≠ p := fun z => by rw [z, hm] at h2; cases h2
  exact hide_at (by rw [Mem.put_ne n]; exact h2) (by rw [upd_ne n]; exact h1) h3
theorem Good.newCell (G : Good K B H μ σ ρ) {p : Addr} {o : HO} {c : Cell} (hp : H p = none) (hc : CellAt K (hide (upd H p o) (μ.put p c)) (upd H p o) p c) : Good K B (upd H p o) (μ.put p c) σ ρ := by
  have e := hide_new (H := H) (μ := μ) (o := o) (c := c) hp
  refine ⟨G.same.trans e, G.env.mono e, fun a c' h => ?_⟩
  by_cases n : a = p
  · subst n
    rw [Mem.put_same] at h; cases h
    exact hc
  · rw [Mem.put_ne n] at h
    have q := G.mdl a c' h
    exact q.mono e (upd_ne n)
theorem Good.putCell (G : Good K B H μ σ ρ) {p : Addr} {o : HO} {c c' : Cell} (hm : μ p = some c) (hc : CellAt K (hide (upd H p o) (μ.put p c')) (upd H p o) p c') : Good K B (upd H p o) (μ.put p c') σ ρ := by
  have e := hide_put (H := H) (μ := μ) (o := o) (c' := c') hm
  refine ⟨G.same.trans e, G.env.mono e, fun a c2 h => ?_⟩
  by_cases n : a = p
  · subst n
    rw [Mem.put_same] at h; cases h
    exact hc
  · rw [Mem.put_ne n] at h
    have q := G.mdl a c2 h
    exact q.mono e (upd_ne n)
/-- a cell becomes data: it is not written any more -/
theorem hide_del {p : Addr} : Same (hide H μ) (hide H (μ.del p)) := fun b u e => by
  obtain ⟨h1, h2, h3⟩ := hide_of3 e
  have z : μ.del p b = none := by
    unfold Mem.del
    split
    · rfl
    · exact h2
  exact hide_at z h1 h3
theorem Good.freeze (G : Good K B H μ σ ρ) (p : Addr) : Good K B H (μ.del p) σ ρ := by
  have e := hide_del (H := H) (μ := μ) (p := p)
  refine ⟨G.same.trans e, G.env.mono e, fun a c' h => ?_⟩
  have hm : μ a = some c' := by
    unfold Mem.del at h
    split at h
    · cases h
    · exact h
  exact (G.mdl a c' hm).mono e rfl
theorem Good.setEnv (G : Good K B H μ σ ρ) {i : Nat} {d : D} {v : V} (hi : i < σ.length) (r : Rep K (hide H μ) d v) : Good K B H μ (σ.set i (some v)) (ρ.set i (some d)) := ⟨G.same, G.env.set hi r, G.mdl⟩
end

/-! ### exceptions -/
structure Exc where
  C : Addr
  ns : List Str
  ds : List D
def ExcR (K : PySem.W.Frag) (G : Hp) (cls : Value) (d : Option Addr) (x : Exc) : Prop := cls = .ref x.C ∧ ∃ dd vs, d = some dd ∧ G dd = some (.xd (x.ns.zip vs)) ∧ vs.length = x.ns.length ∧ RepL K G x.ds vs
def Wc (K : PySem.W.Frag) (B : Hp) (EX : Exc → LEnv → Mem → Prop) : WX := fun cls d σ H => ∃ x ρ μ, Good K B H μ σ ρ ∧ ExcR K (hide H μ) cls d x ∧ EX x ρ μ

/-! ### where one stands -/
structure Ok (X : Cx) (N : List Str) (sc : Scope) (k : Nat) (B : Hp) (EX : Exc → LEnv → Mem → Prop) : Prop where
  hN : X.N = N
  hs : X.env.scope = sc
  nd : N.Nodup
  room : Room k X.A
  calm : X.calm = true
  tk : Takes X (Wc X.K B EX)
  own : PassesOwn (model X.prog X.w) X.A X.env X.xe

/-! ### readings that say what is -/
def tE (X : Cx) (e : Expr) : TE := fun σ H Q => ∀ pins s, Inv X pins σ H s → wpAny (model X.prog X.w) X.A (eval e X.env) (EP X pins σ Q) X.xe s
theorem peC {X : Cx} {e : Expr} : PE X e (tE X e) := ⟨fun pins s σ H Q I h => h pins s I⟩
theorem tE_mono {X : Cx} {e : Expr} {σ : St} {H : Hp} {Q Q' : VK} (h : tE X e σ H Q) (f : ∀ v H', Q v H' → Q' v H') : tE X e σ H Q' := fun pins s I => wpAny_mono (h pins s I) (fun u s' ⟨v, H', I', r, q⟩ => ⟨v, H', I', r, f v H' q⟩) fun _ _ x => x
theorem tE_of {X : Cx} {e : Expr} {t : TE} {σ : St} {H : Hp} {Q : VK} (h : PE X e t) (q : t σ H Q) : tE X e σ H Q := fun pins s I => h.run pins s σ H Q I q
def tA (X : Cx) (es : List Expr) : TA := fun σ H Q => ∀ pos pins s, Inv X pins σ H s → wpAny (model X.prog X.w) X.A (spliced (backTo pos (starEach es X.env))) (AP X pins σ Q) X.xe s
theorem paC {X : Cx} {es : List Expr} : PA X es (tA X es) := ⟨fun pos pins s σ H Q I h => h pos pins s I⟩
theorem tA_mono {X : Cx} {es : List Expr} {σ : St} {H : Hp} {Q Q' : List V → Hp → Prop} (h : tA X es σ H Q) (f : ∀ v H', Q v H' → Q' v H') : tA X es σ H Q' := fun pos pins s I => wpAny_mono (h pos pins s I) (fun u s' ⟨v, H', I', r, q⟩ => ⟨v, H', I', r, f v H' q⟩) fun _ _ x => x
theorem tA_of {X : Cx} {es : List Expr} {t : TA} {σ : St} {H : Hp} {Q : List V → Hp → Prop} (h : PA X es t) (q : t σ H Q) : tA X es σ H Q := fun pos pins s I => h.run pos pins s σ H Q I q
def tT (X : Cx) (e : Expr) : TT := fun σ H Q => ∀ pins s, Inv X pins σ H s → wpAny (model X.prog X.w) X.A (isTrue e X.env (eval e X.env)) (TP X pins σ Q) X.xe s
theorem ptC {X : Cx} {e : Expr} : PT X e (tT X e) := ⟨fun pins s σ H Q I h => h pins s I⟩
theorem tT_mono {X : Cx} {e : Expr} {σ : St} {H : Hp} {Q Q' : Bool → Hp → Prop} (h : tT X e σ H Q) (f : ∀ v H', Q v H' → Q' v H') : tT X e σ H Q' := fun pins s I => wpAny_mono (h pins s I) (fun u s' ⟨H', I', q⟩ => ⟨H', I', f _ H' q⟩) fun _ _ x => x
theorem tT_of {X : Cx} {e : Expr} {t : TT} {σ : St} {H : Hp} {Q : Bool → Hp → Prop} (h : PT X e t) (q : t σ H Q) : tT X e σ H Q := fun pins s I => h.run pins s σ H Q I q
def tW (X : Cx) (e : Expr) : TT := fun σ H Q => ∀ whole pins s, Inv X pins σ H s → wpAny (model X.prog X.w) X.A (isTrue e X.env whole) (TP X pins σ Q) X.xe s
theorem pwC {X : Cx} {e : Expr} : PW X e (tW X e) := ⟨fun wh pins s σ H Q I h => h wh pins s I⟩
theorem tW_mono {X : Cx} {e : Expr} {σ : St} {H : Hp} {Q Q' : Bool → Hp → Prop} (h : tW X e σ H Q) (f : ∀ v H', Q v H' → Q' v H') : tW X e σ H Q' := fun wh pins s I => wpAny_mono (h wh pins s I) (fun u s' ⟨H', I', q⟩ => ⟨H', I', f _ H' q⟩) fun _ _ x => x
theorem tW_of {X : Cx} {e : Expr} {t : TT} {σ : St} {H : Hp} {Q : Bool → Hp → Prop} (h : PW X e t) (q : t σ H Q) : tW X e σ H Q := fun wh pins s I => h.run wh pins s σ H Q I q
def tS (X : Cx) (st : Stmt) : TS := fun D σ H => ∀ pins s, Inv X pins σ H s → wpAny (model X.prog X.w) X.A (exec st X.env) (SP X pins D) X.xe s
theorem psC {X : Cx} {st : Stmt} : PS X st (tS X st) := ⟨fun pins s σ H D I h => h pins s I⟩
def tSs (X : Cx) (st : List Stmt) : TS := fun D σ H => ∀ pins s, Inv X pins σ H s → wpAny (model X.prog X.w) X.A (execs st X.env) (SP X pins D) X.xe s
theorem pssC {X : Cx} {st : List Stmt} : PSs X st (tSs X st) := ⟨fun pins s σ H D I h => h pins s I⟩
structure Ends.Le (D D' : L2.Ends) : Prop where
  nx : ∀ σ H, D.nx σ H → D'.nx σ H
  rt : ∀ v H, D.rt v H → D'.rt v H
  bk : ∀ σ H, D.bk σ H → D'.bk σ H
  ct : ∀ σ H, D.ct σ H → D'.ct σ H
theorem SP_mono {X : Cx} {pins : List (Addr × Obj)} {D D' : L2.Ends} (l : Ends.Le D D') {f : Flow} {s : Shared} (h : SP X pins D f s) : SP X pins D' f s := by
  cases f with
  | next => obtain ⟨a, b, c, d⟩ := h; exact ⟨a, b, c, l.nx _ _ d⟩
  | brk => obtain ⟨a, b, c, d⟩ := h; exact ⟨a, b, c, l.bk _ _ d⟩
  | cont => obtain ⟨a, b, c, d⟩ := h; exact ⟨a, b, c, l.ct _ _ d⟩
  | ret u => obtain ⟨v, a, b, c, r, d⟩ := h; exact ⟨v, a, b, c, r, l.rt _ _ d⟩
theorem tS_mono {X : Cx} {st : Stmt} {σ : St} {H : Hp} {D D' : L2.Ends} (h : tS X st D σ H) (l : Ends.Le D D') : tS X st D' σ H := fun pins s I => wpAny_mono (h pins s I) (fun f s' q => SP_mono l q) fun _ _ x => x
theorem tSs_mono {X : Cx} {st : List Stmt} {σ : St} {H : Hp} {D D' : L2.Ends} (h : tSs X st D σ H) (l : Ends.Le D D') : tSs X st D' σ H := fun pins s I => wpAny_mono (h pins s I) (fun f s' q => SP_mono l q) fun _ _ x => x
theorem tS_of {X : Cx} {st : Stmt} {t : TS} {σ : St} {H : Hp} {D : L2.Ends} (h : PS X st t) (q : t D σ H) : tS X st D σ H := fun pins s I => h.run pins s σ H D I q
theorem tSs_of {X : Cx} {st : List Stmt} {t : TS} {σ : St} {H : Hp} {D : L2.Ends} (h : PSs X st t) (q : t D σ H) : tSs X st D σ H := fun pins s I => h.run pins s σ H D I q

/-! ### the judgements -/
def EQ (X : Cx) (B G0 : Hp) (σ : St) (ρ : LEnv) (Q : D → Mem → Prop) : VK := fun v H' => ∃ d μ', Same G0 (hide H' μ') ∧ Good X.K B H' μ' σ ρ ∧ Rep X.K (hide H' μ') d v ∧ Q d μ'
def AQ (X : Cx) (B G0 : Hp) (σ : St) (ρ : LEnv) (Q : List D → Mem → Prop) : List V → Hp → Prop := fun vs H' => ∃ ds μ', Same G0 (hide H' μ') ∧ Good X.K B H' μ' σ ρ ∧ RepL X.K (hide H' μ') ds vs ∧ Q ds μ'
def TQ (X : Cx) (B G0 : Hp) (σ : St) (ρ : LEnv) (Q : Bool → Mem → Prop) : Bool → Hp → Prop := fun b H' => ∃ μ', Same G0 (hide H' μ') ∧ Good X.K B H' μ' σ ρ ∧ Q b μ'
structure Fi where
  nx : LEnv → Mem → Prop
  rt : D → Mem → Prop
  bk : LEnv → Mem → Prop := fun _ _ => False
  ct : LEnv → Mem → Prop := fun _ _ => False
def RQ (X : Cx) (B : Hp) (Q : D → Mem → Prop) : VK := fun v H' => ∃ d μ', Same B (hide H' μ') ∧ Mdl X.K H' μ' ∧ Rep X.K (hide H' μ') d v ∧ Q d μ'
def NQ (X : Cx) (B G0 : Hp) (Q : LEnv → Mem → Prop) : St → Hp → Prop := fun σ H' => ∃ ρ' μ', Same G0 (hide H' μ') ∧ Good X.K B H' μ' σ ρ' ∧ Q ρ' μ'
def FQ (X : Cx) (B G0 : Hp) (F : Fi) : L2.Ends := { nx := NQ X B G0 F.nx, rt := RQ X B F.rt, bk := NQ X B G0 F.bk, ct := NQ X B G0 F.ct }
def EW (X : Cx) (B : Hp) (e : Expr) (ρ : LEnv) (μ : Mem) (Q : D → Mem → Prop) : Prop := ∀ σ H, Good X.K B H μ σ ρ → tE X e σ H (EQ X B (hide H μ) σ ρ Q)
def AW (X : Cx) (B : Hp) (es : List Expr) (ρ : LEnv) (μ : Mem) (Q : List D → Mem → Prop) : Prop := ∀ σ H, Good X.K B H μ σ ρ → tA X es σ H (AQ X B (hide H μ) σ ρ Q)
def TW (X : Cx) (B : Hp) (e : Expr) (ρ : LEnv) (μ : Mem) (Q : Bool → Mem → Prop) : Prop := ∀ σ H, Good X.K B H μ σ ρ → tT X e σ H (TQ X B (hide H μ) σ ρ Q)
def WW (X : Cx) (B : Hp) (e : Expr) (ρ : LEnv) (μ : Mem) (Q : Bool → Mem → Prop) : Prop := ∀ σ H, Good X.K B H μ σ ρ → tW X e σ H (TQ X B (hide H μ) σ ρ Q)
def SW (X : Cx) (B : Hp) (st : Stmt) (ρ : LEnv) (μ : Mem) (F : Fi) : Prop := ∀ σ H, Good X.K B H μ σ ρ → tS X st (FQ X B (hide H μ) F) σ H
def BW (X : Cx) (B : Hp) (st : List Stmt) (ρ : LEnv) (μ : Mem) (F : Fi) : Prop := ∀ σ H, Good X.K B H μ σ ρ → tSs X st (FQ X B (hide H μ) F) σ H

section
variable {X : Cx} {B : Hp} {ρ : LEnv} {μ : Mem}
theorem EQ.mono {G0 G1 : Hp} {σ : St} {Q Q' : D → Mem → Prop} {v : V} {H' : Hp} (h : EQ X B G1 σ ρ Q v H') (e : Same G0 G1) (f : ∀ d μ', Q d μ' → Q' d μ') : EQ X B G0 σ ρ Q' v H' := by
  obtain ⟨d, μ', s, a, b, c⟩ := h
  exact ⟨d, μ', e.trans s, a, b, f _ _ c⟩
theorem EW.mono {e : Expr} {Q Q' : D → Mem → Prop} (h : EW X B e ρ μ Q) (f : ∀ d μ', Q d μ' → Q' d μ') : EW X B e ρ μ Q' := fun σ H G => tE_mono (h σ H G) fun v H' ⟨d, μ', s, a, b, c⟩ => ⟨d, μ', s, a, b, f _ _ c⟩
theorem AW.mono {e : List Expr} {Q Q' : List D → Mem → Prop} (h : AW X B e ρ μ Q) (f : ∀ d μ', Q d μ' → Q' d μ') : AW X B e ρ μ Q' := fun σ H G => tA_mono (h σ H G) fun v H' ⟨d, μ', s, a, b, c⟩ => ⟨d, μ', s, a, b, f _ _ c⟩
theorem TW.mono {e : Expr} {Q Q' : Bool → Mem → Prop} (h : TW X B e ρ μ Q) (f : ∀ d μ', Q d μ' → Q' d μ') : TW X B e ρ μ Q' := fun σ H G => tT_mono (h σ H G) fun v H' ⟨μ', s, a, c⟩ => ⟨μ', s, a, f _ _ c⟩
structure Fi.Le (F F' : Fi) : Prop where
  nx : ∀ σ H, F.nx σ H → F'.nx σ H
  rt : ∀ v H, F.rt v H → F'.rt v H
  bk : ∀ σ H, F.bk σ H → F'.bk σ H
  ct : ∀ σ H, F.ct σ H → F'.ct σ H
theorem NQ.mono {G0 G1 : Hp} {Q Q' : LEnv → Mem → Prop} {σ : St} {H : Hp} (h : NQ X B G1 Q σ H) (e : Same G0 G1) (f : ∀ d μ', Q d μ' → Q' d μ') : NQ X B G0 Q' σ H := by
  obtain ⟨a, b, s, c, d⟩ := h
  exact ⟨a, b, e.trans s, c, f _ _ d⟩
theorem FQ_le {F F' : Fi} {G0 G1 : Hp} (e : Same G0 G1) (l : Fi.Le F F') : Ends.Le (FQ X B G1 F) (FQ X B G0 F') := ⟨fun σ H h => NQ.mono h e l.nx, fun v H ⟨a, b, c, d, e, f⟩ => ⟨a, b, c, d, e, l.rt _ _ f⟩, fun σ H h => NQ.mono h e l.bk, fun σ H h => NQ.mono h e l.ct⟩
theorem Fi.Le.refl (F : Fi) : Fi.Le F F := ⟨fun _ _ h => h, fun _ _ h => h, fun _ _ h => h, fun _ _ h => h⟩
theorem SW.mono {st : Stmt} {F F' : Fi} (h : SW X B st ρ μ F) (l : Fi.Le F F') : SW X B st ρ μ F' := fun σ H G => tS_mono (h σ H G) (FQ_le (Same.refl _) l)
theorem BW.mono {st : List Stmt} {F F' : Fi} (h : BW X B st ρ μ F) (l : Fi.Le F F') : BW X B st ρ μ F' := fun σ H G => tSs_mono (h σ H G) (FQ_le (Same.refl _) l)

/-! ### names, constants -/
theorem ew_var {N : List Str} {sc : Scope} {k : Nat} {EX : Exc → LEnv → Mem → Prop} {i : Nat} {x : Str} {pos : Pos} {d : D} {Q : D → Mem → Prop} (h : Ok X N sc k B EX) (hN : N[i]? = some x) (hv : Vis sc x) (hd : ρ[i]? = some (some d)) (q : Q d μ)
    (h1 : (x == ("__debug__" : Str)) = false := by decide) (h2 : (x == ("__classdict__" : Str)) = false := by decide) : EW X B (.Name x pos) ρ μ Q := fun σ H G => by
  obtain ⟨v, e1, r⟩ := G.env i d hd
  exact tE_of (pe_var (i := i) (by rw [h.hN]; exact hN) (by rw [h.hs]; exact hv) h1 h2) ⟨v, e1, d, μ, Same.refl _, G, r, q⟩
theorem ew_int {i : Int} {j} {pos : Pos} {Q : D → Mem → Prop} (q : Q (.int i) μ) : EW X B (.Constant (.int i) j pos) ρ μ Q := fun σ H G => tE_of pe_int ⟨.int i, μ, Same.refl _, G, rfl, q⟩
theorem ew_bl {i : Bool} {j} {pos : Pos} {Q : D → Mem → Prop} (q : Q (.bl i) μ) : EW X B (.Constant (.bool i) j pos) ρ μ Q := fun σ H G => tE_of pe_bl ⟨.bl i, μ, Same.refl _, G, rfl, q⟩
theorem ew_non {j} {pos : Pos} {Q : D → Mem → Prop} (q : Q .non μ) : EW X B (.Constant .none j pos) ρ μ Q := fun σ H G => tE_of pe_non ⟨.non, μ, Same.refl _, G, rfl, q⟩
theorem ew_str {x : Str} {j} {pos : Pos} {Q : D → Mem → Prop} (q : Q (.str x) μ) : EW X B (.Constant (.str x) j pos) ρ μ Q := fun σ H G => tE_of pe_str ⟨.str x, μ, Same.refl _, G, rfl, q⟩
end
end LX

set_option Elab.async false
set_option linter.all false
set_option maxRecDepth 100000
set_option maxHeartbeats 4000000
namespace LX
open PySem PySem.Spec L2
open PyProof.Rows hiding St
section
variable {X : Cx} {B : Hp} {ρ : LEnv} {μ : Mem} {N : List Str} {sc : Scope} {k : Nat} {EX : Exc → LEnv → Mem → Prop}

/-! ### operators on data -/
abbrev R1D := D → Mem → (D → Mem → Prop) → Prop
abbrev R2D := D → D → Mem → (D → Mem → Prop) → Prop
abbrev RLD := List D → Mem → (D → Mem → Prop) → Prop
def Cv1 (X : Cx) (B : Hp) (r : V → Hp → VK → Prop) (rd : R1D) : Prop := ∀ (G0 H : Hp) (μ : Mem) (σ : St) (ρ : LEnv) (x : V) (dx : D) (Q : D → Mem → Prop) (Q2 : VK), Same G0 (hide H μ) → Good X.K B H μ σ ρ →
  Rep X.K (hide H μ) dx x → rd dx μ Q → (∀ v H', EQ X B G0 σ ρ Q v H' → Q2 v H') → r x H Q2
def Cv2 (X : Cx) (B : Hp) (r : R2) (rd : R2D) : Prop := ∀ (G0 H : Hp) (μ : Mem) (σ : St) (ρ : LEnv) (x y : V) (dx dy : D) (Q : D → Mem → Prop) (Q2 : VK), Same G0 (hide H μ) → Good X.K B H μ σ ρ →
  Rep X.K (hide H μ) dx x → Rep X.K (hide H μ) dy y → rd dx dy μ Q → (∀ v H', EQ X B G0 σ ρ Q v H' → Q2 v H') → r x y H Q2
def CvL (X : Cx) (B : Hp) (r : List V → Hp → VK → Prop) (rd : RLD) : Prop := ∀ (G0 H : Hp) (μ : Mem) (σ : St) (ρ : LEnv) (xs : List V) (ds : List D) (Q : D → Mem → Prop) (Q2 : VK), Same G0 (hide H μ) → Good X.K B H μ σ ρ →
  RepL X.K (hide H μ) ds xs → rd ds μ Q → (∀ v H', EQ X B G0 σ ρ Q v H' → Q2 v H') → r xs H Q2

theorem two {a b : Expr} {σ : St} {H : Hp} {R : D → D → Mem → Prop} {Q : V → V → Hp → Prop} (G : Good X.K B H μ σ ρ) (ha : EW X B a ρ μ fun x μ1 => EW X B b ρ μ1 fun y μ2 => R x y μ2)
    (f : ∀ dx dy x y H2 μ2, Same (hide H μ) (hide H2 μ2) → Good X.K B H2 μ2 σ ρ → Rep X.K (hide H2 μ2) dx x → Rep X.K (hide H2 μ2) dy y → R dx dy μ2 → Q x y H2) : tE X a σ H fun x H1 => tE X b σ H1 fun y H2 => Q x y H2 :=
  tE_mono (ha σ H G) fun x H1 ⟨dx, μ1, s1, G1, r1, q1⟩ => tE_mono (q1 σ H1 G1) fun y H2 ⟨dy, μ2, s2, G2, r2, q2⟩ => f dx dy x y H2 μ2 (s1.trans s2) G2 (Rep.mono s2 dx r1) r2 q2
theorem ew_op {op : Operator} {a b : Expr} {pos : Pos} {r : R2} {rd : R2D} {Q : D → Mem → Prop} (ho : OpR X (binaryOp op) r) (hc : Cv2 X B r rd) (h : EW X B a ρ μ fun x μ1 => EW X B b ρ μ1 fun y μ2 => rd x y μ2 Q) : EW X B (.BinOp a op b pos) ρ μ Q := fun σ H G =>
  tE_of (pe_op ho peC peC) (two G h fun dx dy x y H2 μ2 s G2 r1 r2 q => hc _ H2 μ2 σ ρ x y dx dy Q _ s G2 r1 r2 q fun _ _ z => z)
theorem ew_cmp {op : CmpOp} {a b : Expr} {pos : Pos} {r : R2} {rd : R2D} {Q : D → Mem → Prop} (ho : OpR X (compareOp op) r) (hc : Cv2 X B r rd) (hm : behindInMarks op b = false) (h : EW X B a ρ μ fun x μ1 => EW X B b ρ μ1 fun y μ2 => rd x y μ2 Q) : EW X B (.Compare a [op] [b] pos) ρ μ Q := fun σ H G =>
  tE_of (pe_cmpR ho peC peC hm) (two G h fun dx dy x y H2 μ2 s G2 r1 r2 q => hc _ H2 μ2 σ ρ x y dx dy Q _ s G2 r1 r2 q fun _ _ z => z)
/-- a value as a test -/
def BQ (Q : Bool → Mem → Prop) : D → Mem → Prop := fun d μ => ∃ c, d = .bl c ∧ Q c μ
theorem bq_of {σ : St} {G0 : Hp} {Q : Bool → Mem → Prop} {v : V} {H' : Hp} (h : EQ X B G0 σ ρ (BQ Q) v H') : ∃ c, v = .bl c ∧ TQ X B G0 σ ρ Q c H' := by
  obtain ⟨d, μ', s, G, r, c, rfl, q⟩ := h
  exact ⟨c, r, μ', s, G, q⟩
theorem tw_cmp {op : CmpOp} {a b : Expr} {pos : Pos} {r : R2} {rd : R2D} {Q : Bool → Mem → Prop} (ho : OpR X (compareOp op) r) (hc : Cv2 X B r rd) (hm : behindInMarks op b = false) (h : EW X B a ρ μ fun x μ1 => EW X B b ρ μ1 fun y μ2 => rd x y μ2 (BQ Q)) : TW X B (.Compare a [op] [b] pos) ρ μ Q := fun σ H G =>
  tT_of (pt_cmpR ho peC peC hm) (two G h fun dx dy x y H2 μ2 s G2 r1 r2 q => hc _ H2 μ2 σ ρ x y dx dy (BQ Q) _ s G2 r1 r2 q fun _ _ z => bq_of z)
theorem ew_un {op : UnaryOp} {a : Expr} {pos : Pos} {r : V → Hp → VK → Prop} {rd : R1D} {Q : D → Mem → Prop} (ho : UnR X (unaryOp op) r) (hc : Cv1 X B r rd) (h : EW X B a ρ μ fun x μ1 => rd x μ1 Q) : EW X B (.UnaryOp op a pos) ρ μ Q := fun σ H G =>
  tE_of (pe_un ho peC) (tE_mono (h σ H G) fun x H1 ⟨dx, μ1, s, G1, r1, q⟩ => hc _ H1 μ1 σ ρ x dx Q _ s G1 r1 q fun _ _ z => z)
/-- a < b < c -/
theorem chain_mid {op op' : CmpOp} {a b c : Expr} {r r' : R2} {rd rd' : R2D} {Q : D → Mem → Prop} {σ : St} {H : Hp} (hc : Cv2 X B r rd) (hc' : Cv2 X B r' rd') (G : Good X.K B H μ σ ρ)
    (h : EW X B a ρ μ fun x μ1 => EW X B b ρ μ1 fun y μ2 => rd x y μ2 fun z μ3 => μ3 = μ2 ∧ ∃ t, z = .bl t ∧ (if t = true then EW X B c ρ μ3 fun w μ4 => rd' y w μ4 Q else Q (.bl false) μ3)) {Q2 : VK} (hq : ∀ v H', EQ X B (hide H μ) σ ρ Q v H' → Q2 v H') :
    tChain r r' (tE X a) (tE X b) (tE X c) σ H Q2 := two G h fun dx dy x y H2 μ2 s G2 r1 r2 q => by
  refine hc _ H2 μ2 σ ρ x y dx dy _ _ (Same.refl _) G2 r1 r2 q fun v H3 z => ?_
  obtain ⟨d, μ3, s3, G3, r3, rfl, t, rfl, q3⟩ := z
  refine ⟨t, r3, ?_⟩
  cases t with
  | true =>
    rw [if_pos rfl] at q3 ⊢
    exact tE_mono (q3 σ H3 G3) fun w' H4 ⟨dw, μ4, s4, G4, r4, q4⟩ => hc' _ H4 μ4 σ ρ y w' dy dw Q _ ((s.trans s3).trans s4) G4 (Rep.mono (s3.trans s4) dy r2) r4 q4 hq
  | false =>
    rw [if_neg Bool.false_ne_true] at q3 ⊢
    exact hq _ _ ⟨.bl false, _, s.trans s3, G3, rfl, q3⟩
theorem ew_chain {op op' : CmpOp} {a b c : Expr} {pos : Pos} {r r' : R2} {rd rd' : R2D} {Q : D → Mem → Prop} (ho : OpR X (compareOp op) r) (ho' : OpR X (compareOp op') r') (hc : Cv2 X B r rd) (hc' : Cv2 X B r' rd')
    (hm : lastMarks [op, op'] [b, c] = false)
    (h : EW X B a ρ μ fun x μ1 => EW X B b ρ μ1 fun y μ2 => rd x y μ2 fun z μ3 => μ3 = μ2 ∧ ∃ t, z = .bl t ∧ (if t = true then EW X B c ρ μ3 fun w μ4 => rd' y w μ4 Q else Q (.bl false) μ3)) : EW X B (.Compare a [op, op'] [b, c] pos) ρ μ Q := fun σ H G =>
  tE_of (pe_chain ho ho' peC peC peC hm) (chain_mid (op := op) (op' := op') hc hc' G h fun _ _ z => z)
theorem tw_chain {op op' : CmpOp} {a b c : Expr} {pos : Pos} {r r' : R2} {rd rd' : R2D} {Q : Bool → Mem → Prop} (ho : OpR X (compareOp op) r) (ho' : OpR X (compareOp op') r') (hc : Cv2 X B r rd) (hc' : Cv2 X B r' rd')
    (hm : lastMarks [op, op'] [b, c] = false)
    (h : EW X B a ρ μ fun x μ1 => EW X B b ρ μ1 fun y μ2 => rd x y μ2 fun z μ3 => μ3 = μ2 ∧ ∃ t, z = .bl t ∧ (if t = true then EW X B c ρ μ3 fun w μ4 => rd' y w μ4 (BQ Q) else BQ Q (.bl false) μ3)) : TW X B (.Compare a [op, op'] [b, c] pos) ρ μ Q := fun σ H G =>
  tT_of (pt_chain ho ho' peC peC peC hm) (chain_mid (op := op) (op' := op') hc hc' G h fun _ _ z => bq_of z)

/-! ### tests -/
theorem tw_val {e : Expr} {Q : Bool → Mem → Prop} (h : EW X B e ρ μ (BQ Q)) (he : ∀ whole, isTrue e X.env whole = (do let v ← whole; standAt e.pos; holding [v] (truthy v)) := by intro _; rfl) : TW X B e ρ μ Q := fun σ H G =>
  tT_of (pt_val peC he) (tE_mono (h σ H G) fun v H' z => bq_of z)
theorem tw_not {e : Expr} {pos : Pos} {Q : Bool → Mem → Prop} (h : TW X B e ρ μ fun c μ1 => Q (!c) μ1) : TW X B (.UnaryOp .Not e pos) ρ μ Q := fun σ H G => tT_of (pt_not ptC) (tT_mono (h σ H G) fun c H' ⟨μ1, s, G1, q⟩ => ⟨μ1, s, G1, q⟩)
theorem ww_tw {e : Expr} {Q : Bool → Mem → Prop} (h : WW X B e ρ μ Q) : TW X B e ρ μ Q := fun σ H G => tT_of (PW.pt pwC) (h σ H G)
theorem ww_and1 {a : Expr} {pos : Pos} {Q : Bool → Mem → Prop} (h : TW X B a ρ μ Q) : WW X B (.BoolOp .And [a] pos) ρ μ Q := fun σ H G => tW_of (pw_and1 ptC) (h σ H G)
theorem ww_or1 {a : Expr} {pos : Pos} {Q : Bool → Mem → Prop} (h : TW X B a ρ μ Q) : WW X B (.BoolOp .Or [a] pos) ρ μ Q := fun σ H G => tW_of (pw_or1 ptC) (h σ H G)
theorem ww_and {a b : Expr} {rest : List Expr} {pos : Pos} {Q : Bool → Mem → Prop} (h : TW X B a ρ μ fun c μ1 => if c = true then WW X B (.BoolOp .And (b :: rest) pos) ρ μ1 Q else Q false μ1) : WW X B (.BoolOp .And (a :: b :: rest) pos) ρ μ Q := fun σ H G =>
  tW_of (pw_and ptC pwC) (tT_mono (h σ H G) fun c H' ⟨μ1, s, G1, q⟩ => by
    cases c with
    | true =>
      rw [if_pos rfl] at q ⊢
      exact tW_mono (q σ H' G1) fun b H2 ⟨μ2, s2, G2, q2⟩ => ⟨μ2, s.trans s2, G2, q2⟩
    | false =>
      rw [if_neg Bool.false_ne_true] at q ⊢
      exact ⟨μ1, s, G1, q⟩)
theorem ww_or {a b : Expr} {rest : List Expr} {pos : Pos} {Q : Bool → Mem → Prop} (h : TW X B a ρ μ fun c μ1 => if c = true then Q true μ1 else WW X B (.BoolOp .Or (b :: rest) pos) ρ μ1 Q) : WW X B (.BoolOp .Or (a :: b :: rest) pos) ρ μ Q := fun σ H G =>
  tW_of (pw_or ptC pwC) (tT_mono (h σ H G) fun c H' ⟨μ1, s, G1, q⟩ => by
    cases c with
    | false =>
      rw [if_neg Bool.false_ne_true] at q ⊢
      exact tW_mono (q σ H' G1) fun b H2 ⟨μ2, s2, G2, q2⟩ => ⟨μ2, s.trans s2, G2, q2⟩
    | true =>
      rw [if_pos rfl] at q ⊢
      exact ⟨μ1, s, G1, q⟩)
/-! ### and, or, not as values (all but the last are bools) -/
theorem ew_one {op} {a : Expr} {pos : Pos} {Q : D → Mem → Prop} (h : EW X B a ρ μ Q) : EW X B (.BoolOp op [a] pos) ρ μ Q := fun σ H G => tE_of (pe_one peC) (h σ H G)
theorem ew_and {a b : Expr} {rest : List Expr} {pos : Pos} {Q : D → Mem → Prop} (h : EW X B a ρ μ fun d μ1 => ∃ c, d = .bl c ∧ if c = true then EW X B (.BoolOp .And (b :: rest) pos) ρ μ1 Q else Q (.bl false) μ1) : EW X B (.BoolOp .And (a :: b :: rest) pos) ρ μ Q := fun σ H G =>
  tE_of (pe_and peC peC) (tE_mono (h σ H G) fun v H' ⟨d, μ1, s, G1, r, c, e, q⟩ => by
    subst e
    refine ⟨c, r, ?_⟩
    cases c with
    | true =>
      rw [if_pos rfl] at q ⊢
      exact tE_mono (q σ H' G1) fun v H2 z => EQ.mono z s fun _ _ z => z
    | false =>
      rw [if_neg Bool.false_ne_true] at q ⊢
      exact ⟨.bl false, μ1, s, G1, rfl, q⟩)
theorem ew_or {a b : Expr} {rest : List Expr} {pos : Pos} {Q : D → Mem → Prop} (h : EW X B a ρ μ fun d μ1 => ∃ c, d = .bl c ∧ if c = true then Q (.bl true) μ1 else EW X B (.BoolOp .Or (b :: rest) pos) ρ μ1 Q) : EW X B (.BoolOp .Or (a :: b :: rest) pos) ρ μ Q := fun σ H G =>
  tE_of (pe_or peC peC) (tE_mono (h σ H G) fun v H' ⟨d, μ1, s, G1, r, c, e, q⟩ => by
    subst e
    refine ⟨c, r, ?_⟩
    cases c with
    | false =>
      rw [if_neg Bool.false_ne_true] at q ⊢
      exact tE_mono (q σ H' G1) fun v H2 z => EQ.mono z s fun _ _ z => z
    | true =>
      rw [if_pos rfl] at q ⊢
      exact ⟨.bl true, μ1, s, G1, rfl, q⟩)
theorem ew_not {a : Expr} {pos : Pos} {Q : D → Mem → Prop} (h : EW X B a ρ μ fun d μ1 => ∃ c, d = .bl c ∧ Q (.bl (!c)) μ1) : EW X B (.UnaryOp .Not a pos) ρ μ Q := fun σ H G =>
  tE_of (pe_not peC) (tE_mono (h σ H G) fun v H' ⟨d, μ1, s, G1, r, c, e, q⟩ => by
    subst e
    exact ⟨c, r, .bl (!c), μ1, s, G1, rfl, q⟩)
theorem ew_ifExp {c a b : Expr} {pos : Pos} {Q : D → Mem → Prop} (h : TW X B c ρ μ fun t μ1 => if t = true then EW X B a ρ μ1 Q else EW X B b ρ μ1 Q) : EW X B (.IfExp c a b pos) ρ μ Q := fun σ H G =>
  tE_of (pe_ifExp ptC peC peC) (tT_mono (h σ H G) fun t H' ⟨μ1, s, G1, q⟩ => by
    cases t with
    | true =>
      rw [if_pos rfl] at q ⊢
      exact tE_mono (q σ H' G1) fun v H2 z => EQ.mono z s fun _ _ z => z
    | false =>
      rw [if_neg Bool.false_ne_true] at q ⊢
      exact tE_mono (q σ H' G1) fun v H2 z => EQ.mono z s fun _ _ z => z)

/-! ### ints -/
def dI (C : Int → Int → Prop) (g : Int → Int → D) : R2D := fun x y μ Q => ∃ i j, x = .int i ∧ y = .int j ∧ C i j ∧ Q (g i j) μ
def dI0 (g : Int → Int → D) : R2D := fun x y μ Q => ∃ i j, x = .int i ∧ y = .int j ∧ Q (g i j) μ
theorem cvI {C : Int → Int → Prop} {g : Int → Int → Int} : Cv2 X B (rI C fun i j => .int (g i j)) (dI C fun i j => .int (g i j)) := fun G0 H μ σ ρ x y dx dy Q Q2 s G r1 r2 ⟨i, j, e1, e2, c, q⟩ hq => by
  subst e1 e2
  exact ⟨i, j, r1, r2, c, hq _ _ ⟨.int (g i j), μ, s, G, rfl, q⟩⟩
theorem cvI0 {g : Int → Int → Int} : Cv2 X B (rI0 fun i j => .int (g i j)) (dI0 fun i j => .int (g i j)) := fun G0 H μ σ ρ x y dx dy Q Q2 s G r1 r2 ⟨i, j, e1, e2, q⟩ hq => by
  subst e1 e2
  exact ⟨i, j, r1, r2, hq _ _ ⟨.int (g i j), μ, s, G, rfl, q⟩⟩
theorem cvB0 {g : Int → Int → Bool} : Cv2 X B (rI0 fun i j => .bl (g i j)) (dI0 fun i j => .bl (g i j)) := fun G0 H μ σ ρ x y dx dy Q Q2 s G r1 r2 ⟨i, j, e1, e2, q⟩ hq => by
  subst e1 e2
  exact ⟨i, j, r1, r2, hq _ _ ⟨.bl (g i j), μ, s, G, rfl, q⟩⟩
theorem op_mulX : OpR X (binaryOp .Mult) (rI IntMulOk fun i j => .int (i * j)) := opI fun _ _ _ _ _ _ _ hc q => mul_int q hc
def CDX (i j : Int) : Prop := j ≠ 0 ∧ j.natAbs.log2 < 9000
theorem op_fdivX : OpR X (binaryOp .FloorDiv) (rI CDX fun i j => .int (i.fdiv j)) := opI fun _ _ _ _ _ _ _ hc q => floordiv_int hc.1 q (.inl (PyProof.noPylong_of_log2 hc.2))
variable {a b : Expr} {pos : Pos} {Q : D → Mem → Prop} {QB : Bool → Mem → Prop}
theorem ew_add (h : EW X B a ρ μ fun x μ1 => EW X B b ρ μ1 fun y μ2 => ∃ i j, x = .int i ∧ y = .int j ∧ Q (.int (i + j)) μ2) : EW X B (.BinOp a .Add b pos) ρ μ Q := ew_op op_add cvI0 h
theorem ew_sub (h : EW X B a ρ μ fun x μ1 => EW X B b ρ μ1 fun y μ2 => ∃ i j, x = .int i ∧ y = .int j ∧ Q (.int (i - j)) μ2) : EW X B (.BinOp a .Sub b pos) ρ μ Q := ew_op op_sub cvI0 h
theorem ew_mul (h : EW X B a ρ μ fun x μ1 => EW X B b ρ μ1 fun y μ2 => ∃ i j, x = .int i ∧ y = .int j ∧ IntMulOk i j ∧ Q (.int (i * j)) μ2) : EW X B (.BinOp a .Mult b pos) ρ μ Q := ew_op op_mulX cvI h
theorem ew_fdiv (h : EW X B a ρ μ fun x μ1 => EW X B b ρ μ1 fun y μ2 => ∃ i j, x = .int i ∧ y = .int j ∧ CDX i j ∧ Q (.int (i.fdiv j)) μ2) : EW X B (.BinOp a .FloorDiv b pos) ρ μ Q := ew_op op_fdivX cvI h
theorem ew_mod (h : EW X B a ρ μ fun x μ1 => EW X B b ρ μ1 fun y μ2 => ∃ i j, x = .int i ∧ y = .int j ∧ j ≠ 0 ∧ Q (.int (i.fmod j)) μ2) : EW X B (.BinOp a .Mod b pos) ρ μ Q := ew_op op_modN cvI h
theorem ew_pow (h : EW X B a ρ μ fun x μ1 => EW X B b ρ μ1 fun y μ2 => ∃ i j, x = .int i ∧ y = .int j ∧ CPow i j ∧ Q (.int (i ^ j.toNat)) μ2) : EW X B (.BinOp a .Pow b pos) ρ μ Q := ew_op op_pow cvI h
theorem ew_neg (h : EW X B a ρ μ fun x μ1 => ∃ i, x = .int i ∧ Q (.int (-i)) μ1) : EW X B (.UnaryOp .USub a pos) ρ μ Q := ew_un un_neg (rd := fun x μ1 Q => ∃ i, x = .int i ∧ Q (.int (-i)) μ1)
  (fun G0 H μ σ ρ x dx Q Q2 s G r ⟨i, e, q⟩ hq => by subst e; exact ⟨i, r, hq _ _ ⟨.int (-i), μ, s, G, rfl, q⟩⟩) h
theorem ew_lt (h : EW X B a ρ μ fun x μ1 => EW X B b ρ μ1 fun y μ2 => ∃ i j, x = .int i ∧ y = .int j ∧ Q (.bl (decide (i < j))) μ2) : EW X B (.Compare a [.Lt] [b] pos) ρ μ Q := ew_cmp op_lt cvB0 (nomark _) h
theorem ew_le (h : EW X B a ρ μ fun x μ1 => EW X B b ρ μ1 fun y μ2 => ∃ i j, x = .int i ∧ y = .int j ∧ Q (.bl (decide (i ≤ j))) μ2) : EW X B (.Compare a [.LtE] [b] pos) ρ μ Q := ew_cmp op_le cvB0 (nomark _) h
theorem ew_gt (h : EW X B a ρ μ fun x μ1 => EW X B b ρ μ1 fun y μ2 => ∃ i j, x = .int i ∧ y = .int j ∧ Q (.bl (decide (j < i))) μ2) : EW X B (.Compare a [.Gt] [b] pos) ρ μ Q := ew_cmp op_gt cvB0 (nomark _) h
theorem ew_ge (h : EW X B a ρ μ fun x μ1 => EW X B b ρ μ1 fun y μ2 => ∃ i j, x = .int i ∧ y = .int j ∧ Q (.bl (decide (j ≤ i))) μ2) : EW X B (.Compare a [.GtE] [b] pos) ρ μ Q := ew_cmp op_ge cvB0 (nomark _) h
theorem tw_lt (h : EW X B a ρ μ fun x μ1 => EW X B b ρ μ1 fun y μ2 => ∃ i j, x = .int i ∧ y = .int j ∧ QB (decide (i < j)) μ2) : TW X B (.Compare a [.Lt] [b] pos) ρ μ QB := tw_cmp op_lt cvB0 (nomark _) (h.mono fun x μ1 h => h.mono fun y μ2 ⟨i, j, e1, e2, q⟩ => ⟨i, j, e1, e2, _, rfl, q⟩)
theorem tw_le (h : EW X B a ρ μ fun x μ1 => EW X B b ρ μ1 fun y μ2 => ∃ i j, x = .int i ∧ y = .int j ∧ QB (decide (i ≤ j)) μ2) : TW X B (.Compare a [.LtE] [b] pos) ρ μ QB := tw_cmp op_le cvB0 (nomark _) (h.mono fun x μ1 h => h.mono fun y μ2 ⟨i, j, e1, e2, q⟩ => ⟨i, j, e1, e2, _, rfl, q⟩)
theorem tw_gt (h : EW X B a ρ μ fun x μ1 => EW X B b ρ μ1 fun y μ2 => ∃ i j, x = .int i ∧ y = .int j ∧ QB (decide (j < i)) μ2) : TW X B (.Compare a [.Gt] [b] pos) ρ μ QB := tw_cmp op_gt cvB0 (nomark _) (h.mono fun x μ1 h => h.mono fun y μ2 ⟨i, j, e1, e2, q⟩ => ⟨i, j, e1, e2, _, rfl, q⟩)
theorem tw_ge (h : EW X B a ρ μ fun x μ1 => EW X B b ρ μ1 fun y μ2 => ∃ i j, x = .int i ∧ y = .int j ∧ QB (decide (j ≤ i)) μ2) : TW X B (.Compare a [.GtE] [b] pos) ρ μ QB := tw_cmp op_ge cvB0 (nomark _) (h.mono fun x μ1 h => h.mono fun y μ2 ⟨i, j, e1, e2, q⟩ => ⟨i, j, e1, e2, _, rfl, q⟩)
/-- is None -/
def D.isNon : D → Bool
  | .non => true
  | _ => false
theorem Rep.isNon {G : Hp} {d : D} {v : V} (r : Rep X.K G d v) : decide (v = .non) = d.isNon := by
  cases d with
  | non => rw [show v = .non from r]; rfl
  | bl b => rw [show v = .bl b from r]; rfl
  | int b => rw [show v = .int b from r]; rfl
  | str b => rw [show v = .str b from r]; rfl
  | ty b => rw [show v = .ty b from r]; rfl
  | ref b => rw [show v = .ref b from r]; rfl
  | tup ds => obtain ⟨a, xs, e, _⟩ := r; rw [e]; rfl
  | lst ds => obtain ⟨a, xs, e, _⟩ := r; rw [e]; rfl
  | ins C ns ds => obtain ⟨a, dx, xs, e, _⟩ := r; rw [e]; rfl
theorem tw_isN {j p2} (h : EW X B a ρ μ fun x μ1 => QB x.isNon μ1) : TW X B (.Compare a [.Is] [.Constant .none j p2] pos) ρ μ QB := fun σ H G =>
  tT_of (pt_cmp (pc_isN peC)) (tE_mono (h σ H G) fun v H' ⟨d, μ1, s, G1, r, q⟩ => ⟨_, by rw [Rep.isNon r], μ1, s, G1, q⟩)
theorem tw_notN {j p2} (h : EW X B a ρ μ fun x μ1 => QB (!x.isNon) μ1) : TW X B (.Compare a [.IsNot] [.Constant .none j p2] pos) ρ μ QB := fun σ H G =>
  tT_of (pt_cmp (pc_notN peC)) (tE_mono (h σ H G) fun v H' ⟨d, μ1, s, G1, r, q⟩ => ⟨_, by rw [Rep.isNon r], μ1, s, G1, q⟩)
theorem ew_isN {j p2} (h : EW X B a ρ μ fun x μ1 => Q (.bl x.isNon) μ1) : EW X B (.Compare a [.Is] [.Constant .none j p2] pos) ρ μ Q := fun σ H G =>
  tE_of (pe_cmp (pc_isN peC)) (tE_mono (h σ H G) fun v H' ⟨d, μ1, s, G1, r, q⟩ => ⟨.bl d.isNon, μ1, s, G1, congrArg V.bl (Rep.isNon r), q⟩)
theorem ew_notN {j p2} (h : EW X B a ρ μ fun x μ1 => Q (.bl (!x.isNon)) μ1) : EW X B (.Compare a [.IsNot] [.Constant .none j p2] pos) ρ μ Q := fun σ H G =>
  tE_of (pe_cmp (pc_notN peC)) (tE_mono (h σ H G) fun v H' ⟨d, μ1, s, G1, r, q⟩ => ⟨.bl (!d.isNon), μ1, s, G1, congrArg (fun z => V.bl (!z)) (Rep.isNon r), q⟩)

/-! ### == of data -/
mutual
def D.py : D → PyData
  | .non => .none
  | .bl b => .bool b
  | .int i => .int i
  | .str x => .str x
  | .tup ds => .tuple (D.pyL ds)
  | .lst ds => .list (D.pyL ds)
  | .ty _ => .none
  | .ref _ => .none
  | .ins _ _ _ => .none
def D.pyL : List D → List PyData
  | [] => []
  | d :: ds => d.py :: D.pyL ds
end
mutual
def D.pure : D → Bool
  | .non => true
  | .bl b => true
  | .int i => true
  | .str x => true
  | .tup ds => D.pureL ds
  | .lst ds => D.pureL ds
  | .ty _ => false
  | .ref _ => false
  | .ins _ _ _ => false
def D.pureL : List D → Bool
  | [] => true
  | d :: ds => d.pure && D.pureL ds
end
mutual
theorem rep_dp {K : PySem.W.Frag} {μ : Mem} {H : Hp} : ∀ (d : D) {v : V}, d.pure = true → Rep K (hide H μ) d v → Dp K H v d.py
  | .non, _, _, r => by rw [show _ = V.non from r]; exact .non
  | .bl b, _, _, r => by rw [show _ = V.bl b from r]; exact .bl b
  | .int b, _, _, r => by rw [show _ = V.int b from r]; exact .int b
  | .str b, _, _, r => by rw [show _ = V.str b from r]; exact .str b
  | .tup ds, _, p, r => by
    obtain ⟨a, xs, rfl, h1, h2⟩ := r
    exact .tup (sqT_same (fun b o e => (hide_of e).1) h1) (repL_dp ds p h2)
  | .lst ds, _, p, r => by
    obtain ⟨a, xs, rfl, h1, h2⟩ := r
    exact .lst (Same.seq (fun b o e => (hide_of e).1) h1) (repL_dp ds p h2)
  | .ty _, _, p, _ => by cases p
  | .ref _, _, p, _ => by cases p
  | .ins _ _ _, _, p, _ => by cases p
theorem repL_dp {K : PySem.W.Frag} {μ : Mem} {H : Hp} : ∀ (ds : List D) {vs : List V}, D.pureL ds = true → RepL K (hide H μ) ds vs → DpAll K H vs (D.pyL ds)
  | [], _, _, r => by rw [show _ = [] from r]; exact .nil
  | d :: ds, _, p, r => by
    obtain ⟨v, rs, rfl, h1, h2⟩ := r
    have p' := Bool.and_eq_true_iff.mp (show (d.pure && D.pureL ds) = true from p)
    exact .cons (rep_dp d p'.1 h1) (repL_dp ds p'.2 h2)
end
/-- what == asks of data: no objects, short texts, no deep nesting -/
def D.plain (d : D) : Bool := d.pure && SeqAt.shaped d.py
def D.eqv (d e : D) : Bool := PyData.eqv d.py e.py
theorem cvEqD : Cv2 X B (rEqD X.K) (fun x y μ Q => x.plain = true ∧ y.plain = true ∧ Q (.bl (x.eqv y)) μ) := fun G0 H μ σ ρ x y dx dy Q Q2 s G r1 r2 ⟨p1, p2, q⟩ hq => by
  obtain ⟨a1, a2⟩ := Bool.and_eq_true_iff.mp p1
  obtain ⟨b1, b2⟩ := Bool.and_eq_true_iff.mp p2
  exact ⟨_, _, rep_dp dx a1 r1, rep_dp dy b1 r2, a2, b2, hq _ _ ⟨.bl (dx.eqv dy), μ, s, G, rfl, q⟩⟩
theorem cvNeD : Cv2 X B (rNeD X.K) (fun x y μ Q => x.plain = true ∧ y.plain = true ∧ Q (.bl (!x.eqv y)) μ) := fun G0 H μ σ ρ x y dx dy Q Q2 s G r1 r2 ⟨p1, p2, q⟩ hq => by
  obtain ⟨a1, a2⟩ := Bool.and_eq_true_iff.mp p1
  obtain ⟨b1, b2⟩ := Bool.and_eq_true_iff.mp p2
  exact ⟨_, _, rep_dp dx a1 r1, rep_dp dy b1 r2, a2, b2, hq _ _ ⟨.bl (!dx.eqv dy), μ, s, G, rfl, q⟩⟩
theorem ew_eq (h0 : Ok X N sc k B EX) (h : EW X B a ρ μ fun x μ1 => EW X B b ρ μ1 fun y μ2 => x.plain = true ∧ y.plain = true ∧ Q (.bl (x.eqv y)) μ2) : EW X B (.Compare a [.Eq] [b] pos) ρ μ Q := ew_cmp (op_eqD h0.room.units) cvEqD (nomark _) h
theorem ew_ne (h0 : Ok X N sc k B EX) (h : EW X B a ρ μ fun x μ1 => EW X B b ρ μ1 fun y μ2 => x.plain = true ∧ y.plain = true ∧ Q (.bl (!x.eqv y)) μ2) : EW X B (.Compare a [.NotEq] [b] pos) ρ μ Q := ew_cmp (op_neD h0.room.units) cvNeD (nomark _) h
theorem tw_eq (h0 : Ok X N sc k B EX) (h : EW X B a ρ μ fun x μ1 => EW X B b ρ μ1 fun y μ2 => x.plain = true ∧ y.plain = true ∧ QB (x.eqv y) μ2) : TW X B (.Compare a [.Eq] [b] pos) ρ μ QB := tw_cmp (op_eqD h0.room.units) cvEqD (nomark _) (h.mono fun x μ1 h => h.mono fun y μ2 ⟨e1, e2, q⟩ => ⟨e1, e2, _, rfl, q⟩)
theorem tw_ne (h0 : Ok X N sc k B EX) (h : EW X B a ρ μ fun x μ1 => EW X B b ρ μ1 fun y μ2 => x.plain = true ∧ y.plain = true ∧ QB (!x.eqv y) μ2) : TW X B (.Compare a [.NotEq] [b] pos) ρ μ QB := tw_cmp (op_neD h0.room.units) cvNeD (nomark _) (h.mono fun x μ1 h => h.mono fun y μ2 ⟨e1, e2, q⟩ => ⟨e1, e2, _, rfl, q⟩)

/-! ### arguments, displays -/
theorem aw_nil {Q : List D → Mem → Prop} (q : Q [] μ) : AW X B [] ρ μ Q := fun σ H G => tA_of pa_nil ⟨[], μ, Same.refl _, G, rfl, q⟩
theorem aw_cons {e : Expr} {es : List Expr} {Q : List D → Mem → Prop} (h : EW X B e ρ μ fun d μ1 => AW X B es ρ μ1 fun ds μ2 => Q (d :: ds) μ2) (hs : starEach (e :: es) X.env = (false, eval e X.env) :: starEach es X.env := by rfl) : AW X B (e :: es) ρ μ Q := fun σ H G =>
  tA_of (pa_cons peC paC hs) (tE_mono (h σ H G) fun v H1 ⟨d, μ1, s, G1, r, q⟩ => tA_mono (q σ H1 G1) fun vs H2 ⟨ds, μ2, s2, G2, r2, q2⟩ => ⟨d :: ds, μ2, s.trans s2, G2, ⟨v, vs, rfl, Rep.mono s2 d r, r2⟩, q2⟩)
theorem ew_tup {es : List Expr} {x1} (h : AW X B es ρ μ fun ds μ1 => ds.length ≤ sizeLine ∧ Q (.tup ds) μ1) : EW X B (.Tuple es x1 pos) ρ μ Q := fun σ H G =>
  tE_of (pe_tup paC) (tA_mono (h σ H G) fun vs H1 ⟨ds, μ1, s, G1, r, hz, q⟩ => ⟨by rw [← r.length]; exact hz, fun p hp => by
    have e := hide_laid (H := H1) (μ := μ1) (o := .tup vs) hp (G1.mdl.free hp)
    refine ⟨.tup ds, μ1, s.trans e, G1.laid hp, ⟨p, vs, rfl, SqT.of ?_, RepL.mono e ds r⟩, q⟩
    exact hide_at (G1.mdl.free hp) upd_same fun ps z => by cases z⟩)
theorem ew_lst {es : List Expr} (h : AW X B es ρ μ fun ds μ1 => ds.length ≤ sizeLine ∧ Q (.lst ds) μ1) : EW X B (.List es pos) ρ μ Q := fun σ H G =>
  tE_of (pe_lst paC) (tA_mono (h σ H G) fun vs H1 ⟨ds, μ1, s, G1, r, hz, q⟩ => ⟨by rw [← r.length]; exact hz, fun p hp => by
    have e := hide_laid (H := H1) (μ := μ1) (o := .lst vs) hp (G1.mdl.free hp)
    refine ⟨.lst ds, μ1, s.trans e, G1.laid hp, ⟨p, vs, rfl, SqL.of ?_, RepL.mono e ds r⟩, q⟩
    exact hide_at (G1.mdl.free hp) upd_same fun ps z => by cases z⟩)
/-- a list display that will be changed: a new cell -/
theorem ew_lstC {es : List Expr} (h : AW X B es ρ μ fun ds μ1 => ds.length ≤ sizeLine ∧ ∀ p, μ1 p = none → Q (.ref p) (μ1.put p (.lst ds))) : EW X B (.List es pos) ρ μ Q := fun σ H G =>
  tE_of (pe_lst paC) (tA_mono (h σ H G) fun vs H1 ⟨ds, μ1, s, G1, r, hz, q⟩ => ⟨by rw [← r.length]; exact hz, fun p hp => by
    have e := hide_new (H := H1) (μ := μ1) (o := .lst vs) (c := .lst ds) hp
    exact ⟨.ref p, _, s.trans e, G1.newCell hp ⟨vs, upd_same, RepL.mono e ds r⟩, rfl, q p (G1.mdl.free hp)⟩⟩)
end
end LX

set_option Elab.async false
set_option linter.all false
set_option maxRecDepth 100000
set_option maxHeartbeats 4000000
namespace LX
open PySem PySem.Spec L2
open PyProof.Rows hiding St
section
variable {X : Cx} {B : Hp} {ρ : LEnv} {μ : Mem} {N : List Str} {sc : Scope} {k : Nat} {EX : Exc → LEnv → Mem → Prop}
variable {a b : Expr} {pos : Pos} {Q : D → Mem → Prop} {QB : Bool → Mem → Prop}

/-! ### subscripts -/
theorem atI_rep {K : PySem.W.Frag} {G : Hp} {ds : List D} {xs : List V} {i : Int} {d : D} (r : RepL K G ds xs) (h : atI ds i = some d) : ∃ v, atI xs i = some v ∧ Rep K G d v := by
  unfold atI at h ⊢
  rw [← r.length]
  cases e : ixN ds.length i with
  | none => rw [e] at h; cases h
  | some j =>
    rw [e] at h
    exact r.get h
theorem ew_ix {rd : R2D} (hc : Cv2 X B (rIx X.K) rd) (h : EW X B a ρ μ fun x μ1 => EW X B b ρ μ1 fun y μ2 => rd x y μ2 Q) (hp : PlainIx b := by exact fun _ _ => rfl) : EW X B (.Subscript a b pos) ρ μ Q := fun σ H G =>
  tE_of (pe_ix ix_seq peC peC hp) (two G h fun dx dy x y H2 μ2 s G2 r1 r2 q => hc _ H2 μ2 σ ρ x y dx dy Q _ s G2 r1 r2 q fun _ _ z => z)
/-- what stands at i: of data or of a cell -/
def ItemAt (x : D) (μ : Mem) (i : Int) (d : D) : Prop := match x with
  | .tup ds => atI ds i = some d
  | .lst ds => atI ds i = some d
  | .ref p => ∃ ds, μ p = some (.lst ds) ∧ atI ds i = some d
  | .str z => z.length ≤ sizeLine ∧ ∃ c, atI z.cps.toList i = some c ∧ d = .str ⟨#[c]⟩
  | _ => False
theorem cvIx : Cv2 X B (rIx X.K) (fun x y μ Q => ∃ i d, y = .int i ∧ ItemAt x μ i d ∧ Q d μ) := fun G0 H μ σ ρ x y dx dy Q Q2 s G r1 r2 ⟨i, d, e, h, q⟩ hq => by
  subst e
  have ey : y = .int i := r2
  subst ey
  cases dx with
  | tup ds =>
    obtain ⟨p, xs, rfl, h1, h2⟩ := r1
    obtain ⟨v, e1, e2⟩ := atI_rep h2 h
    exact .inr (.inl ⟨p, xs, i, v, rfl, rfl, sqT_same (fun b o e => (hide_of e).1) h1, e1, hq _ _ ⟨d, μ, s, G, e2, q⟩⟩)
  | lst ds =>
    obtain ⟨p, xs, rfl, h1, h2⟩ := r1
    obtain ⟨v, e1, e2⟩ := atI_rep h2 h
    exact .inl ⟨p, xs, i, v, rfl, rfl, Same.seq (fun b o e => (hide_of e).1) h1, e1, hq _ _ ⟨d, μ, s, G, e2, q⟩⟩
  | ref p =>
    have ex : x = .ref p := r1
    subst ex
    obtain ⟨ds, hm, hi⟩ := h
    obtain ⟨xs, h1, h2⟩ := G.mdl p _ hm
    obtain ⟨v, e1, e2⟩ := atI_rep h2 hi
    exact .inl ⟨p, xs, i, v, rfl, rfl, SqL.of h1, e1, hq _ _ ⟨d, μ, s, G, e2, q⟩⟩
  | str z =>
    have ex : x = .str z := r1
    subst ex
    obtain ⟨hz, c, hc, rfl⟩ := h
    exact .inr (.inr ⟨z, i, c, rfl, rfl, hz, hc, hq _ _ ⟨.str ⟨#[c]⟩, μ, s, G, rfl, q⟩⟩)
  | _ => exact h.elim
theorem ew_item (h : EW X B a ρ μ fun x μ1 => EW X B b ρ μ1 fun y μ2 => ∃ i d, y = .int i ∧ ItemAt x μ2 i d ∧ Q d μ2) (hp : PlainIx b := by exact fun _ _ => rfl) : EW X B (.Subscript a b pos) ρ μ Q := ew_ix cvIx h hp

/-! ### slices -/
def tO (X : Cx) (o : Option Expr) : TO := match o with
  | none => tNoPart
  | some e => tPart (tE X e)
theorem poC {o : Option Expr} : PO X o (tO X o) := match o with
  | none => po_none
  | some e => po_some peC
def OW (X : Cx) (B : Hp) (o : Option Expr) (ρ : LEnv) (μ : Mem) (Q : Option Int → Mem → Prop) : Prop := match o with
  | none => Q none μ
  | some e => EW X B e ρ μ fun d μ1 => ∃ i, d = .int i ∧ Q (some i) μ1
def OQ (X : Cx) (B G0 : Hp) (σ : St) (ρ : LEnv) (Q : Option Int → Mem → Prop) : Option Int → Hp → Prop := fun v H' => ∃ μ', Same G0 (hide H' μ') ∧ Good X.K B H' μ' σ ρ ∧ Q v μ'
theorem OW.get {o : Option Expr} {Q : Option Int → Mem → Prop} {σ : St} {H : Hp} (h : OW X B o ρ μ Q) (G : Good X.K B H μ σ ρ) {Q2 : Option Int → Hp → Prop} (f : ∀ v H', OQ X B (hide H μ) σ ρ Q v H' → Q2 v H') : tO X o σ H Q2 := by
  cases o with
  | none => exact f _ _ ⟨μ, Same.refl _, G, h⟩
  | some e =>
    refine tE_mono (h σ H G) fun v H' ⟨d, μ1, s, G1, r, i, ed, q⟩ => ?_
    subst ed
    exact ⟨i, r, f _ _ ⟨μ1, s, G1, q⟩⟩
def cutD (ds : List D) (lo hi : Option Int) : List D := (ds.drop (HT.sIx ds.length 0 lo)).take (HT.sIx ds.length ds.length hi - HT.sIx ds.length 0 lo)
theorem cut_rep {K : PySem.W.Frag} {G : Hp} {ds : List D} {xs : List V} {lo hi : Option Int} (r : RepL K G ds xs) : RepL K G (cutD ds lo hi) (cutV xs lo hi) := by
  unfold cutD cutV
  rw [← r.length]
  exact (r.drop _).take _
theorem sl3 {lo hi : Option Expr} {σ : St} {H : Hp} {R : D → Option Int → Option Int → Mem → Prop} {Q2 : V → Option Int → Option Int → Hp → Prop} (G : Good X.K B H μ σ ρ) (h : EW X B a ρ μ fun x μ1 => OW X B lo ρ μ1 fun l μ2 => OW X B hi ρ μ2 fun u μ3 => R x l u μ3)
    (f : ∀ dx x l u H3 μ3, Same (hide H μ) (hide H3 μ3) → Good X.K B H3 μ3 σ ρ → Rep X.K (hide H3 μ3) dx x → R dx l u μ3 → Q2 x l u H3) : tE X a σ H fun x H1 => tO X lo σ H1 fun l H2 => tO X hi σ H2 fun u H3 => Q2 x l u H3 :=
  tE_mono (h σ H G) fun x H1 ⟨dx, μ1, s1, G1, r1, q1⟩ => q1.get G1 fun l H2 ⟨μ2, s2, G2, q2⟩ => q2.get G2 fun u H3 ⟨μ3, s3, G3, q3⟩ => f dx x l u H3 μ3 ((s1.trans s2).trans s3) G3 (Rep.mono (s2.trans s3) dx r1) q3
/-- xs[lo:hi] of a list (data or a cell): a new list -/
def LstOf (x : D) (μ : Mem) (ds : List D) : Prop := match x with
  | .lst es => es = ds
  | .ref p => μ p = some (.lst ds)
  | _ => False
theorem LstOf.get {K : PySem.W.Frag} {H : Hp} {σ : St} {x : D} {v : V} {ds : List D} (G : Good K B H μ σ ρ) (r : Rep K (hide H μ) x v) (h : LstOf x μ ds) : ∃ p xs, v = .ref p ∧ SqL K H p xs ∧ RepL K (hide H μ) ds xs := by
  cases x with
  | lst es =>
    cases (show es = ds from h)
    obtain ⟨p, xs, rfl, h1, h2⟩ := r
    exact ⟨p, xs, rfl, Same.seq (fun b o e => (hide_of e).1) h1, h2⟩
  | ref p =>
    obtain ⟨xs, h1, h2⟩ := G.mdl p _ (show μ p = some (.lst ds) from h)
    exact ⟨p, xs, r, SqL.of h1, h2⟩
  | _ => exact False.elim h
theorem ew_slL {lo hi : Option Expr} {p2 : Pos} (h : EW X B a ρ μ fun x μ1 => OW X B lo ρ μ1 fun l μ2 => OW X B hi ρ μ2 fun u μ3 => ∃ ds, LstOf x μ3 ds ∧ Q (.lst (cutD ds l u)) μ3) : EW X B (.Subscript a (.Slice lo hi none p2) pos) ρ μ Q := fun σ H G =>
  tE_of (pe_slice sl_list peC poC poC) (sl3 G h fun dx x l u H3 μ3 s G3 r ⟨ds, hl, q⟩ => by
    obtain ⟨p, xs, e, h1, h2⟩ := hl.get G3 r
    refine ⟨p, xs, e, h1, fun p' hp => ?_⟩
    have e' := hide_laid (H := H3) (μ := μ3) (o := .lst (cutV xs l u)) hp (G3.mdl.free hp)
    refine ⟨.lst (cutD ds l u), μ3, s.trans e', G3.laid hp, ⟨p', _, rfl, SqL.of ?_, RepL.mono e' _ (cut_rep h2)⟩, q⟩
    exact hide_at (G3.mdl.free hp) upd_same fun ps z => by cases z)
/-- t[lo:hi] of a tuple, not the whole -/
theorem ew_slT {lo hi : Option Expr} {p2 : Pos} (h : EW X B a ρ μ fun x μ1 => OW X B lo ρ μ1 fun l μ2 => OW X B hi ρ μ2 fun u μ3 => ∃ ds, x = .tup ds ∧ ¬ (HT.sIx ds.length 0 l = 0 ∧ HT.sIx ds.length ds.length u = ds.length) ∧ Q (.tup (cutD ds l u)) μ3) : EW X B (.Subscript a (.Slice lo hi none p2) pos) ρ μ Q := fun σ H G =>
  tE_of (pe_slice sl_tup peC poC poC) (sl3 G h fun dx x l u H3 μ3 s G3 r ⟨ds, ed, hw, q⟩ => by
    subst ed
    obtain ⟨p, xs, e, h1, h2⟩ := r
    refine ⟨p, xs, e, sqT_same (fun b o e => (hide_of e).1) h1, by rw [← h2.length]; exact hw, fun p' hp => ?_⟩
    have e' := hide_laid (H := H3) (μ := μ3) (o := .tup (cutV xs l u)) hp (G3.mdl.free hp)
    refine ⟨.tup (cutD ds l u), μ3, s.trans e', G3.laid hp, ⟨p', _, rfl, SqT.of ?_, RepL.mono e' _ (cut_rep h2)⟩, q⟩
    exact hide_at (G3.mdl.free hp) upd_same fun ps z => by cases z)

/-! ### built-in functions -/
theorem ew_bi {id : String} {r : List V → Hp → VK → Prop} {rd : RLD} {x : Str} {p : Pos} {e : Expr} {es : List Expr} (h0 : Ok X N sc k B EX) (hc : CallR X (.builtin id) r) (cv : CvL X B r rd) (hg : sc.names.lookup x = some .globalImplicit) (hm : X.mg x = none) (hv : bootBuiltins x = some (.builtin id))
    (h : AW X B (e :: es) ρ μ fun ds μ1 => rd ds μ1 Q) (hn : x ≠ "__name__" := by decide) (hdb : (x == ("__debug__" : Str)) = false := by decide)
    (he : starEach (e :: es) X.env = (false, eval e X.env) :: starEach es X.env := by rfl) (hpl : (backTo pos (starEach es X.env)).any (·.1) = false := by rfl) : EW X B (.Call (.Name x p) (e :: es) [] pos) ρ μ Q := fun σ H G =>
  tE_of (pe_callB hc (by show X.env.scope.names.lookup x = _; rw [h0.hs]; exact hg) hm hv paC hn hdb he hpl) (tA_mono (h σ H G) fun vs H1 ⟨ds, μ1, s, G1, r1, q⟩ => cv _ H1 μ1 σ ρ vs ds Q _ s G1 r1 q fun _ _ z => z)
theorem ew_bt {T : String} {r : List V → Hp → VK → Prop} {rd : RLD} {x : Str} {p : Pos} {e : Expr} {es : List Expr} (h0 : Ok X N sc k B EX) (hc : CallR X (.type T) r) (cv : CvL X B r rd) (hg : sc.names.lookup x = some .globalImplicit) (hm : X.mg x = none) (hv : bootBuiltins x = some (.type T))
    (h : AW X B (e :: es) ρ μ fun ds μ1 => rd ds μ1 Q) (hn : x ≠ "__name__" := by decide) (hdb : (x == ("__debug__" : Str)) = false := by decide)
    (he : starEach (e :: es) X.env = (false, eval e X.env) :: starEach es X.env := by rfl) (hpl : (backTo pos (starEach es X.env)).any (·.1) = false := by rfl) : EW X B (.Call (.Name x p) (e :: es) [] pos) ρ μ Q := fun σ H G =>
  tE_of (pe_callTy hc (by show X.env.scope.names.lookup x = _; rw [h0.hs]; exact hg) hm hv paC hn hdb he hpl) (tA_mono (h σ H G) fun vs H1 ⟨ds, μ1, s, G1, r1, q⟩ => cv _ H1 μ1 σ ρ vs ds Q _ s G1 r1 q fun _ _ z => z)
/-- a built-in type as a value -/
theorem ew_ty {x : Str} {n : String} {p : Pos} (h0 : Ok X N sc k B EX) (hg : sc.names.lookup x = some .globalImplicit) (hm : X.mg x = none) (hv : bootBuiltins x = some (.type n)) (q : Q (.ty n) μ) (hn : x ≠ "__name__" := by decide) (hdb : (x == ("__debug__" : Str)) = false := by decide) : EW X B (.Name x p) ρ μ Q := fun σ H G =>
  tE_of (pe_bltn (v := .ty n) (by show X.env.scope.names.lookup x = _; rw [h0.hs]; exact hg) hm hv rfl hn hdb) ⟨.ty n, μ, Same.refl _, G, rfl, q⟩
theorem RepL.one_inv {K : PySem.W.Frag} {G : Hp} {d : D} {xs : List V} (r : RepL K G [d] xs) : ∃ v, xs = [v] ∧ Rep K G d v := by
  obtain ⟨v, r', rfl, h, e⟩ := r
  rw [show r' = [] from e]
  exact ⟨v, rfl, h⟩
theorem RepL.two_inv {K : PySem.W.Frag} {G : Hp} {d e : D} {xs : List V} (r : RepL K G [d, e] xs) : ∃ v u, xs = [v, u] ∧ Rep K G d v ∧ Rep K G e u := by
  obtain ⟨v, r', rfl, h, r2⟩ := r
  obtain ⟨u, rfl, h2⟩ := RepL.one_inv r2
  exact ⟨v, u, rfl, h, h2⟩
theorem cvAbs : CvL X B (fun xs H Q => ∃ i, xs = [.int i] ∧ Q (.int (if i < 0 then -i else i)) H) (fun ds μ Q => ∃ i, ds = [.int i] ∧ Q (.int i.natAbs) μ) := fun G0 H μ σ ρ xs ds Q Q2 s G r ⟨i, e, q⟩ hq => by
  subst e
  obtain ⟨v, rfl, h⟩ := RepL.one_inv r
  refine ⟨i, by rw [show v = .int i from h], hq _ _ ⟨.int i.natAbs, μ, s, G, ?_, q⟩⟩
  show V.int (if i < 0 then -i else i) = V.int (i.natAbs : Int)
  congr 1
  split <;> omega
def LenD (x : D) (μ : Mem) (n : Nat) : Prop := match x with
  | .tup ds => n = ds.length
  | .lst ds => n = ds.length
  | .ref p => ∃ ds, μ p = some (.lst ds) ∧ n = ds.length
  | .str z => z.length ≤ sizeLine ∧ n = z.length
  | _ => False
theorem cvLen : CvL X B (fun xs H Q => ∃ x n, xs = [x] ∧ LenV X.K x H n ∧ Q (.int n) H) (fun ds μ Q => ∃ d n, ds = [d] ∧ LenD d μ n ∧ Q (.int n) μ) := fun G0 H μ σ ρ xs ds Q Q2 s G r ⟨d, n, e, hl, q⟩ hq => by
  subst e
  obtain ⟨v, rfl, h⟩ := RepL.one_inv r
  refine ⟨v, n, rfl, ?_, hq _ _ ⟨.int n, μ, s, G, rfl, q⟩⟩
  cases d with
  | tup ds =>
    obtain ⟨p, xs, rfl, h1, h2⟩ := h
    exact .inr ⟨xs, sqT_same (fun b o e => (hide_of e).1) h1, by rw [← h2.length]; exact hl⟩
  | lst ds =>
    obtain ⟨p, xs, rfl, h1, h2⟩ := h
    exact .inl ⟨xs, Same.seq (fun b o e => (hide_of e).1) h1, by rw [← h2.length]; exact hl⟩
  | ref p =>
    have ex : v = .ref p := h
    subst ex
    obtain ⟨ds, hm, e⟩ := hl
    obtain ⟨xs, h1, h2⟩ := G.mdl p _ hm
    exact .inl ⟨xs, SqL.of h1, by rw [← h2.length]; exact e⟩
  | str z =>
    have ex : v = .str z := h
    subst ex
    exact hl
  | _ => exact False.elim hl
def D.tyNm : D → Option String
  | .non => some "NoneType"
  | .bl _ => some "bool"
  | .int _ => some "int"
  | .str _ => some "str"
  | .tup _ => some "tuple"
  | .lst _ => some "list"
  | _ => none
theorem rd_list {K : PySem.W.Frag} {H : Hp} {p : Addr} {xs : List V} (h : SqL K H p xs) : TyX K H (.ref p) (.type "list") := by
  rcases h with (h | ⟨o, h⟩) | ⟨o, its, n, h, c, _⟩
  · exact .base (.lst h)
  · exact .base (.frz h)
  · exact .kList h c
theorem rd_tup {K : PySem.W.Frag} {H : Hp} {p : Addr} {xs : List V} (h : SqT K H p xs) : TyX K H (.ref p) (.type "tuple") := by
  rcases h with (h | ⟨o, h⟩) | ⟨o, its, n, h, c, _⟩
  · exact .base (.tup h)
  · exact .fTuple h
  · exact .kTuple h c
theorem tyNm_ok {K : PySem.W.Frag} {H : Hp} {d : D} {v : V} {n : String} (r : Rep K (hide H μ) d v) (h : d.tyNm = some n) : TyX K H v (.type n) := by
  cases d with
  | non => cases h; rw [show v = V.non from r]; exact .base .non
  | bl b => cases h; rw [show v = V.bl b from r]; exact .base (.bl b)
  | int b => cases h; rw [show v = V.int b from r]; exact .base (.int b)
  | str b => cases h; rw [show v = V.str b from r]; exact .base (.str b)
  | tup ds => cases h; obtain ⟨p, xs, rfl, h1, _⟩ := r; exact rd_tup (sqT_same (fun b o e => (hide_of e).1) h1)
  | lst ds => cases h; obtain ⟨p, xs, rfl, h1, _⟩ := r; exact rd_list (Same.seq (fun b o e => (hide_of e).1) h1)
  | ty _ => cases h
  | ref _ => cases h
  | ins _ _ _ => cases h
theorem cvIsi : CvL X B (rIsi X.K) (fun ds μ Q => ∃ d t n b, ds = [d, .ty t] ∧ d.tyNm = some n ∧ kitB n t = some b ∧ Q (.bl b) μ) := fun G0 H μ σ ρ xs ds Q Q2 s G r ⟨d, t, n, b, e, h1, h2, q⟩ hq => by
  subst e
  obtain ⟨v, u, rfl, r1, r2⟩ := RepL.two_inv r
  rw [show u = .ty t from r2]
  exact ⟨v, .ty t, .type n, .type t, b, rfl, .ty t, tyNm_ok r1 h1, kit_ty h2, hq _ _ ⟨.bl b, μ, s, G, rfl, q⟩⟩
theorem cvList : CvL X B (fun xs H Q => ∃ p ys, xs = [.ref p] ∧ (SqL X.K H p ys ∨ SqT X.K H p ys) ∧ ∀ l, H l = none → Q (.ref l) (upd H l (.lst ys))) (fun ds μ Q => ∃ d es, ds = [d] ∧ (LstOf d μ es ∨ d = .tup es) ∧ Q (.lst es) μ) := fun G0 H μ σ ρ xs ds Q Q2 s G r ⟨d, es, e, hl, q⟩ hq => by
  subst e
  obtain ⟨v, rfl, h⟩ := RepL.one_inv r
  have key : ∃ p xs, v = .ref p ∧ (SqL X.K H p xs ∨ SqT X.K H p xs) ∧ RepL X.K (hide H μ) es xs := by
    rcases hl with hl | rfl
    · obtain ⟨p, xs, e1, e2, e3⟩ := hl.get G h
      exact ⟨p, xs, e1, .inl e2, e3⟩
    · obtain ⟨p, xs, e1, e2, e3⟩ := h
      exact ⟨p, xs, e1, .inr (sqT_same (fun b o e => (hide_of e).1) e2), e3⟩
  obtain ⟨p, xs, rfl, h1, h2⟩ := key
  refine ⟨p, xs, rfl, h1, fun l hl => hq _ _ ?_⟩
  have e' := hide_laid (H := H) (μ := μ) (o := .lst xs) hl (G.mdl.free hl)
  refine ⟨.lst es, μ, s.trans e', G.laid hl, ⟨l, xs, rfl, SqL.of ?_, RepL.mono e' _ h2⟩, q⟩
  exact hide_at (G.mdl.free hl) upd_same fun ps z => by cases z
theorem cvTuple : CvL X B (fun xs H Q => ∃ p ys, xs = [.ref p] ∧ ((SqL X.K H p ys ∧ ∀ l, H l = none → Q (.ref l) (upd H l (.tup ys))) ∨ (SqT X.K H p ys ∧ Q (.ref p) H))) (fun ds μ Q => ∃ d es, ds = [d] ∧ (LstOf d μ es ∨ d = .tup es) ∧ Q (.tup es) μ) := fun G0 H μ σ ρ xs ds Q Q2 s G r ⟨d, es, e, hl, q⟩ hq => by
  subst e
  obtain ⟨v, rfl, h⟩ := RepL.one_inv r
  rcases hl with hl | rfl
  · obtain ⟨p, xs, rfl, e2, e3⟩ := hl.get G h
    refine ⟨p, xs, rfl, .inl ⟨e2, fun l hl => hq _ _ ?_⟩⟩
    have e' := hide_laid (H := H) (μ := μ) (o := .tup xs) hl (G.mdl.free hl)
    refine ⟨.tup es, μ, s.trans e', G.laid hl, ⟨l, xs, rfl, SqT.of ?_, RepL.mono e' _ e3⟩, q⟩
    exact hide_at (G.mdl.free hl) upd_same fun ps z => by cases z
  · obtain ⟨p, xs, rfl, e2, e3⟩ := id h
    exact ⟨p, xs, rfl, .inr ⟨sqT_same (fun b o e => (hide_of e).1) e2, hq _ _ ⟨.tup es, μ, s, G, h, q⟩⟩⟩
variable {p : Pos} {e e2 : Expr}
theorem ew_abs (h0 : Ok X N sc k B EX) (hm : X.mg "abs" = none) (h : AW X B [e] ρ μ fun ds μ1 => ∃ i, ds = [.int i] ∧ Q (.int i.natAbs) μ1) (hg : sc.names.lookup ("abs" : Str) = some .globalImplicit := by rfl) (he : starEach [e] X.env = (false, eval e X.env) :: starEach [] X.env := by rfl) : EW X B (.Call (.Name "abs" p) [e] [] pos) ρ μ Q :=
  ew_bi h0 call_abs cvAbs hg hm (by decide +kernel) h (by decide) (by decide) he
theorem ew_len (h0 : Ok X N sc k B EX) (hm : X.mg "len" = none) (h : AW X B [e] ρ μ fun ds μ1 => ∃ d n, ds = [d] ∧ LenD d μ1 n ∧ Q (.int n) μ1) (hg : sc.names.lookup ("len" : Str) = some .globalImplicit := by rfl) (he : starEach [e] X.env = (false, eval e X.env) :: starEach [] X.env := by rfl) : EW X B (.Call (.Name "len" p) [e] [] pos) ρ μ Q :=
  ew_bi h0 call_len cvLen hg hm (by decide +kernel) h (by decide) (by decide) he
theorem ew_isi (h0 : Ok X N sc k B EX) (hm : X.mg "isinstance" = none) (h : AW X B [e, e2] ρ μ fun ds μ1 => ∃ d t n b, ds = [d, .ty t] ∧ d.tyNm = some n ∧ kitB n t = some b ∧ Q (.bl b) μ1) (hg : sc.names.lookup ("isinstance" : Str) = some .globalImplicit := by rfl) (he : starEach [e, e2] X.env = (false, eval e X.env) :: starEach [e2] X.env := by rfl) (hpl : (backTo pos (starEach [e2] X.env)).any (·.1) = false := by rfl) : EW X B (.Call (.Name "isinstance" p) [e, e2] [] pos) ρ μ Q :=
  ew_bi h0 call_isi cvIsi hg hm (by decide +kernel) h (by decide) (by decide) he hpl
theorem ew_list (h0 : Ok X N sc k B EX) (hm : X.mg "list" = none) (h : AW X B [e] ρ μ fun ds μ1 => ∃ d es, ds = [d] ∧ (LstOf d μ1 es ∨ d = .tup es) ∧ Q (.lst es) μ1) (hg : sc.names.lookup ("list" : Str) = some .globalImplicit := by rfl) (he : starEach [e] X.env = (false, eval e X.env) :: starEach [] X.env := by rfl) : EW X B (.Call (.Name "list" p) [e] [] pos) ρ μ Q :=
  ew_bt h0 call_list_of cvList hg hm boot_list h (by decide) (by decide) he
theorem ew_tuple (h0 : Ok X N sc k B EX) (hm : X.mg "tuple" = none) (h : AW X B [e] ρ μ fun ds μ1 => ∃ d es, ds = [d] ∧ (LstOf d μ1 es ∨ d = .tup es) ∧ Q (.tup es) μ1) (hg : sc.names.lookup ("tuple" : Str) = some .globalImplicit := by rfl) (he : starEach [e] X.env = (false, eval e X.env) :: starEach [] X.env := by rfl) : EW X B (.Call (.Name "tuple" p) [e] [] pos) ρ μ Q :=
  ew_bt h0 call_tuple_of cvTuple hg hm boot_tuple h (by decide) (by decide) he
end
end LX

set_option Elab.async false
set_option linter.all false
set_option maxRecDepth 100000
set_option maxHeartbeats 4000000
namespace LX
open PySem PySem.Spec L2
open PyProof.Rows hiding St

def env0 (sc : Scope) : Env := envOfC ("" : Str) sc 0 0 .none
theorem swapped_env {ts : List Expr} {v : Expr} {env env' : Env} (h : env.scope = env'.scope) : swappedStores ts v env = swappedStores ts v env' := by
  have hk : env.kindOf = env'.kindOf := by funext x; unfold Env.kindOf; rw [h]
  have hb : env.blockKind = env'.blockKind := by unfold Env.blockKind; rw [h]
  unfold swappedStores
  rw [hk, hb]
theorem swapsWith_env {v : Expr} {t : Option Expr} {l : Nat} {env env' : Env} (h : env.scope = env'.scope) : swapsWith v t l env = swapsWith v t l env' := by
  have hk : env.kindOf = env'.kindOf := by funext x; unfold Env.kindOf; rw [h]
  have hb : env.blockKind = env'.blockKind := by unfold Env.blockKind; rw [h]
  unfold swapsWith
  rw [hk, hb, h]

/-! ### what a def promises, by data -/
abbrev Ct := List D → Mem → (D → Mem → Prop) → (Exc → Mem → Prop) → Prop
def spOf (K : PySem.W.Frag) (ct : Ct) : Sp := fun vs H Q E => ∃ ds μ Q0 E0, RepL K (hide H μ) ds vs ∧ Mdl K H μ ∧ ct ds μ Q0 E0 ∧
  (∀ d μ' v H', Q0 d μ' → Same (hide H μ) (hide H' μ') → Mdl K H' μ' → Rep K (hide H' μ') d v → Q v H') ∧
  (∀ x μ' cls dd H', E0 x μ' → Same (hide H μ) (hide H' μ') → Mdl K H' μ' → ExcR K (hide H' μ') cls dd x → E cls dd H')
structure Wd where
  P : Program
  w : World
  K : PySem.W.Frag
  mg : Str → Option Value
  base : Heap
abbrev wd (X : Cx) : Wd := ⟨X.prog, X.w, X.K, X.mg, X.base⟩
abbrev FOk (W : Wd) (k : Nat) (f : Addr) (fd : FuncData) (ps : List Str) (ct : Ct) : Prop := FnOk W.P W.w W.K W.mg W.base (L2.CX W.P W.w) k f fd ps (spOf W.K ct)
/-- a def that is called by its name, all parameters given by position -/
def Knows (W : Wd) (x : Str) (j : Nat) (ct : Ct) : Prop := ∃ f fd ps, W.mg x = some (.ref f) ∧ PySem.W.keepIn W.K (.ref f) = true ∧ Binds W.K fd ps [] ∧ FOk W j f fd ps ct
theorem Knows.mono {W : Wd} {x : Str} {j i : Nat} {ct : Ct} (h : Knows W x j ct) (l : j ≤ i) : Knows W x i ct := by
  obtain ⟨f, fd, ps, a, b, c, d⟩ := h
  exact ⟨f, fd, ps, a, b, c, d.mono l⟩
theorem FOk.imp {W : Wd} {k : Nat} {f : Addr} {fd : FuncData} {ps : List Str} {ct ct' : Ct} (F : FOk W k f fd ps ct) (h : ∀ ds μ Q E, ct' ds μ Q E → ct ds μ Q E) : FOk W k f fd ps ct' :=
  FnOk.imp F fun vs H Q E ⟨ds, μ, Q0, E0, a, b, c, d, e⟩ => ⟨ds, μ, Q0, E0, a, b, h _ _ _ _ c, d, e⟩
theorem Knows.imp {W : Wd} {x : Str} {j : Nat} {ct ct' : Ct} (h : Knows W x j ct) (g : ∀ ds μ Q E, ct' ds μ Q E → ct ds μ Q E) : Knows W x j ct' := by
  obtain ⟨f, fd, ps, a, b, c, d⟩ := h
  exact ⟨f, fd, ps, a, b, c, FOk.imp d g⟩

section
variable {X : Cx} {B : Hp} {ρ : LEnv} {μ : Mem} {N : List Str} {sc : Scope} {k : Nat} {EX : Exc → LEnv → Mem → Prop}
variable {a b e : Expr} {es : List Expr} {p pos : Pos} {Q : D → Mem → Prop} {QB : Bool → Mem → Prop}
theorem spOf_of {H0 H1 : Hp} {σ : St} {vs : List V} {ds : List D} {μ1 : Mem} {ct : Ct} (s : Same H0 (hide H1 μ1)) (G1 : Good X.K B H1 μ1 σ ρ) (r : RepL X.K (hide H1 μ1) ds vs) (q : ct ds μ1 Q fun x μ' => EX x ρ μ') : spOf X.K ct vs H1 (EQ X B H0 σ ρ Q) (WE (Wc X.K B EX) σ) :=
  ⟨ds, μ1, Q, _, r, G1.mdl, q, fun d μ' v H' q s' M r => ⟨d, μ', s.trans s', ⟨G1.same.trans s', G1.env.mono s', M⟩, r, q⟩, fun x μ' cls dd H' q s' M r => ⟨x, ρ, μ', ⟨G1.same.trans s', G1.env.mono s', M⟩, r, q⟩⟩
theorem ew_call {x : Str} {j : Nat} {ct : Ct} (h0 : Ok X N sc k B EX) (hk : Knows (wd X) x j ct) (hj : j ≤ k) (h : AW X B (e :: es) ρ μ fun ds μ1 => ct ds μ1 Q fun x μ' => EX x ρ μ') (hg : sc.names.lookup x = some .globalImplicit := by rfl) (hdb : (x == ("__debug__" : Str)) = false := by decide)
    (he : starEach (e :: es) X.env = (false, eval e X.env) :: starEach es X.env := by rfl) (hpl : (backTo pos (starEach es X.env)).any (·.1) = false := by rfl) : EW X B (.Call (.Name x p) (e :: es) [] pos) ρ μ Q := fun σ H G => by
  obtain ⟨f, fd, ps, h1, h2, h3, h4⟩ := hk
  exact tE_of (pe_callS h4 (h0.room.mono hj) (by show X.env.scope.names.lookup x = _; rw [h0.hs]; exact hg) h1 h2 h3 (fun σ => passAt h0.tk σ) paC hdb he hpl) (tA_mono (h σ H G) fun vs H1 ⟨ds, μ1, s, G1, r, q⟩ => spOf_of s G1 r q)

/-! ### statements -/
theorem bw_nil {F : Fi} (q : F.nx ρ μ) : BW X B [] ρ μ F := fun σ H G => tSs_of pss_nil ⟨ρ, μ, Same.refl _, G, q⟩
theorem bw_cons {st : Stmt} {rest : List Stmt} {F : Fi} (h : SW X B st ρ μ { F with nx := fun ρ1 μ1 => BW X B rest ρ1 μ1 F }) : BW X B (st :: rest) ρ μ F := fun σ H G =>
  tSs_of (pss_cons psC pssC) (tS_mono (h σ H G) ⟨fun σ1 H1 ⟨ρ1, μ1, s, G1, q⟩ => tSs_mono (q σ1 H1 G1) (FQ_le s (Fi.Le.refl F)), fun v H h => h, fun σ H h => h, fun σ H h => h⟩)
theorem bw_one {st : Stmt} {F : Fi} (h : SW X B st ρ μ F) : BW X B [st] ρ μ F := fun σ H G => tSs_of (pss_one psC) (h σ H G)
theorem Good.len {pins : List (Addr × Obj)} {σ : St} {H : Hp} {s : Shared} (I : Inv X pins σ H s) (h0 : Ok X N sc k B EX) {i : Nat} {x : Str} (hN : N[i]? = some x) : i < σ.length := by
  rw [I.len, h0.hN]
  exact (List.getElem?_eq_some_iff.mp hN).1
/-- what is shown of a statement may use the invariant -/
theorem tS_inv {st : Stmt} {σ : St} {H : Hp} {D : L2.Ends} (h : (σ.length = X.N.length) → tS X st D σ H) : tS X st D σ H := fun pins s I => h I.len pins s I
theorem sw_set {i : Nat} {x : Str} {p' : Pos} {F : Fi} (h0 : Ok X N sc k B EX) (hi : N[i]? = some x) (hx : L2.Loc sc x) (h : EW X B e ρ μ fun d μ1 => F.nx (ρ.set i (some d)) μ1) (hs : swapsWith e (some (.Name x p')) pos.line X.env = pure false := by rfl) (hf : X.fn x = true ∨ sc.names.lookup x = some .local := by exact .inr rfl) : SW X B (.Assign [.Name x p'] e pos) ρ μ F := fun σ H G => tS_inv fun hl => by
  have hi' : i < σ.length := by rw [hl, h0.hN]; exact (List.getElem?_eq_some_iff.mp hi).1
  refine tS_of (ps_set (i := i) (by rw [h0.hN]; exact h0.nd) (by rw [h0.hN]; exact hi) (by rw [h0.hs]; exact hx) peC hs (by rw [h0.hs]; exact hf)) (tE_mono (h σ H G) fun v H1 ⟨d, μ1, s, G1, r, q⟩ => ?_)
  exact ⟨_, μ1, s, G1.setEnv hi' r, q⟩
/-- targets -/
def tG (X : Cx) (tg : Expr) : TG := fun v σ H Q => ∀ pins s u, Inv X pins σ H s → RelV v u → wpAny (model X.prog X.w) X.A (assign tg X.env u) (fun _ s' => ∃ σ' H', Inv X pins σ' H' s' ∧ Q σ' H') X.xe s
theorem pgC {tg : Expr} : PG X tg (tG X tg) := ⟨fun pins s σ H v u Q I r h => h pins s u I r⟩
theorem tG_mono {tg : Expr} {v : V} {σ : St} {H : Hp} {Q Q' : St → Hp → Prop} (h : tG X tg v σ H Q) (f : ∀ σ' H', Q σ' H' → Q' σ' H') : tG X tg v σ H Q' := fun pins s u I r => wpAny_mono (h pins s u I r) (fun _ s' ⟨σ', H', I', q⟩ => ⟨σ', H', I', f _ _ q⟩) fun _ _ x => x
theorem tG_of {tg : Expr} {t : TG} {v : V} {σ : St} {H : Hp} {Q : St → Hp → Prop} (h : PG X tg t) (q : t v σ H Q) : tG X tg v σ H Q := fun pins s u I r => h.run pins s σ H v u Q I r q
def GW (X : Cx) (B : Hp) (tg : Expr) (d : D) (ρ : LEnv) (μ : Mem) (Q : LEnv → Mem → Prop) : Prop := ∀ σ H v, Good X.K B H μ σ ρ → Rep X.K (hide H μ) d v → tG X tg v σ H (NQ X B (hide H μ) Q)
theorem tG_inv {tg : Expr} {v : V} {σ : St} {H : Hp} {Q : St → Hp → Prop} (h : (σ.length = X.N.length) → tG X tg v σ H Q) : tG X tg v σ H Q := fun pins s u I r => h I.len pins s u I r
theorem gw_name {i : Nat} {x : Str} {d : D} {Q : LEnv → Mem → Prop} (h0 : Ok X N sc k B EX) (hi : N[i]? = some x) (hx : L2.Loc sc x) (q : Q (ρ.set i (some d)) μ) (hf : X.fn x = true ∨ sc.names.lookup x = some .local := by exact .inr rfl) : GW X B (.Name x p) d ρ μ Q := fun σ H v G r => tG_inv fun hl => by
  have hi' : i < σ.length := by rw [hl, h0.hN]; exact (List.getElem?_eq_some_iff.mp hi).1
  exact tG_of (pg_name (i := i) (by rw [h0.hN]; exact h0.nd) (by rw [h0.hN]; exact hi) (by rw [h0.hs]; exact hx) (by rw [h0.hs]; exact hf)) ⟨_, μ, Same.refl _, G.setEnv hi' r, q⟩
def tGs (X : Cx) (ts : List Expr) : TGs := fun vs σ H Q => ∀ pins s us, Inv X pins σ H s → Vals vs us → wpAny (model X.prog X.w) X.A (assignInOrder ((assignEach ts X.env).map (·.2)) us) (fun _ s' => ∃ σ' H', Inv X pins σ' H' s' ∧ Q σ' H') X.xe s
theorem pgsC {ts : List Expr} : PGs X ts (tGs X ts) := ⟨fun pins s σ H v u Q I r h => h pins s u I r⟩
theorem tGs_mono {tg : List Expr} {v : List V} {σ : St} {H : Hp} {Q Q' : St → Hp → Prop} (h : tGs X tg v σ H Q) (f : ∀ σ' H', Q σ' H' → Q' σ' H') : tGs X tg v σ H Q' := fun pins s u I r => wpAny_mono (h pins s u I r) (fun _ s' ⟨σ', H', I', q⟩ => ⟨σ', H', I', f _ _ q⟩) fun _ _ x => x
theorem tGs_of {tg : List Expr} {t : TGs} {v : List V} {σ : St} {H : Hp} {Q : St → Hp → Prop} (h : PGs X tg t) (q : t v σ H Q) : tGs X tg v σ H Q := fun pins s u I r => h.run pins s σ H v u Q I r q
def GWs (X : Cx) (B : Hp) (ts : List Expr) (ds : List D) (ρ : LEnv) (μ : Mem) (Q : LEnv → Mem → Prop) : Prop := ∀ σ H vs, Good X.K B H μ σ ρ → RepL X.K (hide H μ) ds vs → tGs X ts vs σ H (NQ X B (hide H μ) Q)
theorem gws_nil {Q : LEnv → Mem → Prop} (q : Q ρ μ) : GWs X B [] [] ρ μ Q := fun σ H vs G r => by
  rw [show vs = [] from r]
  exact tGs_of pgs_nil ⟨rfl, ρ, μ, Same.refl _, G, q⟩
theorem gws_cons {t : Expr} {ts : List Expr} {d : D} {ds : List D} {Q : LEnv → Mem → Prop} (h : GW X B t d ρ μ fun ρ1 μ1 => GWs X B ts ds ρ1 μ1 Q) (hs : (assignEach (t :: ts) X.env).map (·.2) = assign t X.env :: (assignEach ts X.env).map (·.2) := by rfl) : GWs X B (t :: ts) (d :: ds) ρ μ Q := fun σ H vs G r => by
  obtain ⟨v, rs, rfl, r1, r2⟩ := r
  exact tGs_of (pgs_cons pgC pgsC hs) ⟨v, rs, rfl, tG_mono (h σ H v G r1) fun σ1 H1 ⟨ρ1, μ1, s, G1, q⟩ => tGs_mono (q σ1 H1 rs G1 (RepL.mono s _ r2)) fun σ2 H2 ⟨ρ2, μ2, s2, G2, q2⟩ => ⟨ρ2, μ2, s.trans s2, G2, q2⟩⟩
theorem gw_tup {ts : List Expr} {c} {ds : List D} {Q : LEnv → Mem → Prop} (h0 : Ok X N sc k B EX) (h : GWs X B ts ds ρ μ Q) (hn : (assignEach ts X.env).length = ds.length := by rfl) (hst : (assignEach ts X.env).findIdx? (·.1) = none := by rfl) : GW X B (.Tuple ts c p) (.tup ds) ρ μ Q := fun σ H v G r => by
  obtain ⟨q, xs, rfl, r1, r2⟩ := r
  exact tG_of (pg_tup h0.calm pgsC hn hst) ⟨q, xs, rfl, sqT_same (fun b o e => (hide_of e).1) r1, r2.length.symm, h σ H xs G r2⟩
/-- target = value -/
theorem sw_asg {tg : Expr} {F : Fi} (h0 : Ok X N sc k B EX) (h : EW X B e ρ μ fun d μ1 => GW X B tg d ρ μ1 F.nx) (hs : swapsWith e (some tg) pos.line (env0 sc) = pure false := by rfl) (hw : swappedStores [tg] e (env0 sc) = pure none := by rfl)
    (h1 : (assignEach [tg] X.env).map (·.2) = [assign tg X.env] := by rfl) : SW X B (.Assign [tg] e pos) ρ μ F := fun σ H G =>
  tS_of (ps_asg peC pgC (by show swapsWith e (some tg) pos.line X.env = _; rw [swapsWith_env (env' := env0 sc) h0.hs]; exact hs) (by rw [swapped_env (env' := env0 sc) h0.hs]; exact hw) h1) (tE_mono (h σ H G) fun v H1 ⟨d, μ1, s, G1, r, q⟩ => tG_mono (q σ H1 v G1 r) fun σ2 H2 z => NQ.mono z s fun _ _ z => z)
/-- a, b = x, y -/
theorem sw_par {i j : Nat} {x y : Str} {px py pt : Pos} {kt k2 pt2} {F : Fi} (h0 : Ok X N sc k B EX) (hi : N[i]? = some x) (hj : N[j]? = some y) (hij : i ≠ j) (hx : sc.names.lookup x = some .local) (hy : sc.names.lookup y = some .local)
    (hw : swappedStores [.Tuple [.Name x px, .Name y py] kt pt] (.Tuple [a, b] k2 pt2) (env0 sc) = pure (some [x, y]))
    (h : EW X B a ρ μ fun d μ1 => EW X B b ρ μ1 fun e μ2 => F.nx ((ρ.set i (some d)).set j (some e)) μ2)
    (hs : swapsWithSole [.Tuple [.Name x px, .Name y py] kt pt] (.Tuple [a, b] k2 pt2) pos.line X.env = pure false := by rfl) (hs1 : starEach [a, b] X.env = (false, eval a X.env) :: starEach [b] X.env := by rfl) (hs2 : starEach [b] X.env = (false, eval b X.env) :: starEach [] X.env := by rfl) :
    SW X B (.Assign [.Tuple [.Name x px, .Name y py] kt pt] (.Tuple [a, b] k2 pt2) pos) ρ μ F := fun σ H G => tS_inv fun hl => by
  have hi' : i < σ.length := by rw [hl, h0.hN]; exact (List.getElem?_eq_some_iff.mp hi).1
  have hj' : j < σ.length := by rw [hl, h0.hN]; exact (List.getElem?_eq_some_iff.mp hj).1
  refine tS_of (ps_par (i := i) (j := j) h0.calm (by rw [h0.hN]; exact h0.nd) (by rw [h0.hN]; exact hi) (by rw [h0.hN]; exact hj) hij (by rw [h0.hs]; exact hx) (by rw [h0.hs]; exact hy) (pa_cons peC (pa_cons peC pa_nil hs2) hs1) (by rw [swapped_env (env' := env0 sc) h0.hs]; exact hw) hs) ?_
  exact tE_mono (h σ H G) fun v H1 ⟨d, μ1, s, G1, r, q⟩ => tE_mono (q σ H1 G1) fun u H2 ⟨e, μ2, s2, G2, r2, q2⟩ => ⟨v, u, rfl, _, μ2, s.trans s2, (G2.setEnv hi' (Rep.mono s2 _ r)).setEnv (by rw [List.length_set]; exact hj') r2, q2⟩
theorem sw_ret {F : Fi} (h : EW X B e ρ μ F.rt) : SW X B (.Return (some e) pos) ρ μ F := fun σ H G => tS_of (ps_ret peC) (tE_mono (h σ H G) fun v H1 ⟨d, μ1, s, G1, r, q⟩ => ⟨d, μ1, G1.same, G1.mdl, r, q⟩)
theorem sw_retN {F : Fi} (q : F.rt .non μ) : SW X B (.Return none pos) ρ μ F := fun σ H G => tS_of ps_retN ⟨.non, μ, G.same, G.mdl, rfl, q⟩
theorem sw_expr {F : Fi} (h : EW X B e ρ μ fun _ μ1 => F.nx ρ μ1) (hs : swapsWith e none pos.line X.env = pure false := by rfl) : SW X B (.Expr e pos) ρ μ F := fun σ H G => tS_of (ps_expr peC hs) (tE_mono (h σ H G) fun v H1 ⟨d, μ1, s, G1, r, q⟩ => ⟨ρ, μ1, s, G1, q⟩)
theorem sw_pass {F : Fi} (q : F.nx ρ μ) : SW X B (.Pass pos) ρ μ F := fun σ H G => tS_of ps_pass ⟨ρ, μ, Same.refl _, G, q⟩
theorem sw_break {F : Fi} (q : F.bk ρ μ) : SW X B (.Break pos) ρ μ F := fun σ H G => tS_of ps_break ⟨ρ, μ, Same.refl _, G, q⟩
theorem sw_cont {F : Fi} (q : F.ct ρ μ) : SW X B (.Continue pos) ρ μ F := fun σ H G => tS_of ps_continue ⟨ρ, μ, Same.refl _, G, q⟩
theorem sw_doc {x j p2} {F : Fi} (q : F.nx ρ μ) : SW X B (.Expr (.Constant (.str x) j p) p2) ρ μ F := fun σ H G => tS_of ps_doc ⟨ρ, μ, Same.refl _, G, q⟩
theorem sw_if {c : Expr} {t u : List Stmt} {F : Fi} (h : TW X B c ρ μ fun d μ1 => if d = true then BW X B t ρ μ1 F else BW X B u ρ μ1 F) : SW X B (.If c t u pos) ρ μ F := fun σ H G =>
  tS_of (ps_if ptC pssC pssC) (tT_mono (h σ H G) fun d H1 ⟨μ1, s, G1, q⟩ => by
    cases d with
    | true =>
      rw [if_pos rfl] at q ⊢
      exact tSs_mono (q σ H1 G1) (FQ_le s (Fi.Le.refl F))
    | false =>
      rw [if_neg Bool.false_ne_true] at q ⊢
      exact tSs_mono (q σ H1 G1) (FQ_le s (Fi.Le.refl F)))
/-- a list cell by place -/
theorem gw_cell {o i : Expr} {d : D} {Q : LEnv → Mem → Prop} (h : EW X B o ρ μ fun x μ1 => EW X B i ρ μ1 fun y μ2 => ∃ q ds n j, x = .ref q ∧ y = .int n ∧ μ2 q = some (.lst ds) ∧ ixN ds.length n = some j ∧ Q ρ (μ2.put q (.lst (ds.set j d))))
    (ha : ∀ v, assign (.Subscript o i pos) X.env v = (do
      let ov ← holding [v] (eval o X.env)
      let iv ← holding [v, ov] (eval i X.env)
      standAt pos
      holding [v, ov, iv] (setItem ov iv v)
      release [v, ov, iv] []) := by intro _; rfl) : GW X B (.Subscript o i pos) d ρ μ Q := fun σ H v G r =>
  tG_of (pg_sub peC peC set_list ha) (two G h fun dx dy x y H2 μ2 s G2 r1 r2 ⟨q, ds, n, j, e1, e2, hm, hj, hq⟩ => by
    subst e1 e2
    obtain ⟨xs, h1, h2⟩ := G2.mdl q _ hm
    refine ⟨q, xs, n, j, r1, r2, h1, by rw [← h2.length]; exact hj, ρ, _, s.trans (hide_put hm), G2.putCell (c' := .lst (ds.set j d)) hm ⟨_, upd_same, RepL.set (RepL.mono (hide_put hm) _ h2) (Rep.mono (s.trans (hide_put hm)) d r)⟩, hq⟩)
/-- xs.append(e) of a cell -/
theorem ew_append {o : Expr} {apos : Pos} (h : EW X B o ρ μ fun x μ1 => ∃ q, x = .ref q ∧ (∃ ds, μ1 q = some (.lst ds)) ∧ EW X B e ρ μ1 fun d μ2 => ∃ ds, μ2 q = some (.lst ds) ∧ ds.length < sizeLine ∧ Q .non (μ2.put q (.lst (ds ++ [d]))))
    (hbase : attributeBase o "append" X.env (eval o X.env) = eval o X.env := by rfl)
    (hfew : ((backTo pos (starEach [e] X.env)).all (fun x => !x.1) && (backToKw pos (keywordEach [] X.env)).all (fun x => x.1.isSome)
      && decide (([e] : List Expr).length + ([] : List Keyword).length + (if ([] : List Keyword).isEmpty then 0 else 1) < 30)) = true := by rfl)
    (hline : (apos.endLine == pos.line) = true := by rfl) (hs : starEach [e] X.env = (false, eval e X.env) :: starEach [] X.env := by rfl) :
    EW X B (.Call (.Attribute o "append" apos) [e] [] pos) ρ μ Q := fun σ H G =>
  tE_of (pe_bm PySem.F.plainAttrs_list PySem.F.slot_list_append PySem.F.type_list_append mt_append peC (pa_cons peC pa_nil hs) hbase hfew hline hs rfl) (tE_mono (h σ H G) fun v H1 ⟨d, μ1, s, G1, r, q, ed, ⟨ds, hm⟩, he⟩ => by
    subst ed
    obtain ⟨xs, h1, h2⟩ := G1.mdl q _ hm
    have ev : v = .ref q := r
    subst ev
    refine ⟨.inl ⟨rfl, xs, SqL.of h1⟩, tE_mono (he σ H1 G1) fun u H2 ⟨d2, μ2, s2, G2, r2, ds2, hm2, hz, q2⟩ => ?_⟩
    obtain ⟨ys, h3, h4⟩ := G2.mdl q _ hm2
    refine ⟨q, ys, u, rfl, rfl, h3, by rw [← h4.length]; exact hz, .non, _, (s.trans s2).trans (hide_put hm2), G2.putCell (c' := .lst (ds2 ++ [d2])) hm2 ⟨_, upd_same, RepL.append (RepL.mono (hide_put hm2) _ h4) (RepL.one (Rep.mono (hide_put hm2) _ r2))⟩, rfl, q2⟩)
end
end LX

set_option Elab.async false
set_option linter.all false
set_option maxRecDepth 100000
set_option maxHeartbeats 4000000
namespace LX
open PySem PySem.Spec L2
open PyProof.Rows hiding St

/-! ### what is walked -/
/-- J gives the data ds, one after another, while S holds of what is not written -/
structure IterD (K : PySem.W.Frag) (J : It) (ds : List D) (S : Hp → Prop) : Prop where
  mono : ∀ H H', Same H H' → S H → S H'
  goes : ∀ i H μ, i < ds.length → S (hide H μ) → J.go i H
  stops : ∀ H μ, S (hide H μ) → J.stop ds.length H
  yields : ∀ i H μ x H', i < ds.length → S (hide H μ) → J.yld i H x H' → (∀ p, H p = none → μ p = none) → Same (hide H μ) (hide H' μ) ∧ (∀ a c, μ a = some c → H' a = H a) ∧ ∃ d, ds[i]? = some d ∧ Rep K (hide H' μ) d x
section
variable {K : PySem.W.Frag} {a b : Addr} {xs ys : List V} {ds es : List D}
theorem unhide {H : Hp} {μ : Mem} : Same (hide H μ) H := fun b o e => (hide_of e).1
theorem iterD_list : IterD K (Itl K a) ds (fun G => ∃ xs, SqL K G a xs ∧ RepL K G ds xs) where
  mono := fun H H' e ⟨xs, h1, h2⟩ => ⟨xs, e.seq h1, RepL.mono e _ h2⟩
  goes := fun i H μ hi ⟨xs, h1, h2⟩ => walk_list.goes i H (by rw [← h2.length]; exact hi) (unhide.seq h1)
  stops := fun H μ ⟨xs, h1, h2⟩ => by rw [h2.length]; exact walk_list.stops H (unhide.seq h1)
  yields := fun i H μ x H' hi ⟨xs, h1, h2⟩ y _ => by
    obtain ⟨rfl, e⟩ := walk_list.yields i H x H' (by rw [← h2.length]; exact hi) (unhide.seq h1) y
    obtain ⟨d, e1, e2⟩ := h2.getV e
    exact ⟨Same.refl _, fun _ _ _ => rfl, d, e1, e2⟩
theorem iterD_tup : IterD K (Itt K a) ds (fun G => ∃ xs, SqT K G a xs ∧ RepL K G ds xs) where
  mono := fun H H' e ⟨xs, h1, h2⟩ => ⟨xs, sqT_same e h1, RepL.mono e _ h2⟩
  goes := fun i H μ hi ⟨xs, h1, h2⟩ => walk_tup.goes i H (by rw [← h2.length]; exact hi) (sqT_same unhide h1)
  stops := fun H μ ⟨xs, h1, h2⟩ => by rw [h2.length]; exact walk_tup.stops H (sqT_same unhide h1)
  yields := fun i H μ x H' hi ⟨xs, h1, h2⟩ y _ => by
    obtain ⟨rfl, e⟩ := walk_tup.yields i H x H' (by rw [← h2.length]; exact hi) (sqT_same unhide h1) y
    obtain ⟨d, e1, e2⟩ := h2.getV e
    exact ⟨Same.refl _, fun _ _ _ => rfl, d, e1, e2⟩
def rangeD (lo : Int) (n : Nat) : List D := (List.range n).map fun (i : Nat) => D.int (lo + (i : Int))
theorem rangeD_length (lo : Int) (n : Nat) : (rangeD lo n).length = n := by simp [rangeD]
theorem rangeD_get {lo : Int} {n i : Nat} (h : i < n) : (rangeD lo n)[i]? = some (.int (lo + i)) := by
  simp [rangeD, h]
theorem iterD_range {lo : Int} {n : Nat} : IterD K (Itr lo n) (rangeD lo n) (fun _ => True) where
  mono := fun _ _ _ h => h
  goes := fun i H μ hi _ => by rw [rangeD_length] at hi; exact hi
  stops := fun H μ _ => by rw [rangeD_length]; exact Nat.le_refl _
  yields := fun i H μ x H' hi _ y _ => by
    rw [rangeD_length] at hi
    obtain ⟨rfl, rfl⟩ := y
    exact ⟨Same.refl _, fun _ _ _ => rfl, .int (lo + i), rangeD_get hi, rfl⟩
theorem pair_ok {H H' : Hp} {μ : Mem} {v x y : V} {T : Addr} {d e : D} (e1 : v = .ref T) (hn : H T = none) (eh : H' = upd H T (.tup [x, y])) (hf : ∀ p, H p = none → μ p = none) (r1 : Rep K (hide H μ) d x) (r2 : Rep K (hide H μ) e y) :
    Same (hide H μ) (hide H' μ) ∧ (∀ a c, μ a = some c → H' a = H a) ∧ Rep K (hide H' μ) (.tup [d, e]) v := by
  subst e1 eh
  have s := hide_laid (H := H) (μ := μ) (o := .tup [x, y]) hn (hf T hn)
  refine ⟨s, fun a c h => ?_, T, [x, y], rfl, SqT.of ?_, ⟨x, [y], rfl, Rep.mono s _ r1, ⟨y, [], rfl, Rep.mono s _ r2, rfl⟩⟩⟩
  · refine upd_ne fun z => ?_
    rw [z, hf T hn] at h
    cases h
  · exact hide_at (hf T hn) upd_same fun ps z => by cases z
def enumD (ds : List D) : List D := (List.range ds.length).zipWith (fun (i : Nat) d => D.tup [.int (i : Int), d]) ds
theorem enumD_length (ds : List D) : (enumD ds).length = ds.length := by simp [enumD]
theorem enumD_get {ds : List D} {i : Nat} {d : D} (h : ds[i]? = some d) : (enumD ds)[i]? = some (.tup [.int (i : Int), d]) := by
  obtain ⟨hi, e⟩ := List.getElem?_eq_some_iff.mp h
  simp [enumD, List.getElem?_zipWith, hi, e]
theorem iterD_enum : IterD K (Ite K a) (enumD ds) (fun G => ∃ xs, SqL K G a xs ∧ RepL K G ds xs) where
  mono := fun H H' e ⟨xs, h1, h2⟩ => ⟨xs, e.seq h1, RepL.mono e _ h2⟩
  goes := fun i H μ hi ⟨xs, h1, h2⟩ => walk_enum.goes i H (by rw [← h2.length]; rw [enumD_length] at hi; exact hi) (unhide.seq h1)
  stops := fun H μ ⟨xs, h1, h2⟩ => by rw [enumD_length, h2.length]; exact walk_enum.stops H (unhide.seq h1)
  yields := fun i H μ x H' hi ⟨xs, h1, h2⟩ y hf => by
    rw [enumD_length] at hi
    obtain ⟨T, u, v, e1, e2, e3, e4, e5⟩ := walk_enum.yields i H x H' (by rw [← h2.length]; exact hi) (unhide.seq h1) y
    obtain ⟨d, f1, f2⟩ := h2.getV e5
    cases e4
    obtain ⟨g1, g2, g3⟩ := pair_ok (d := .int (i : Int)) (e := d) e1 e2 e3 hf rfl f2
    exact ⟨g1, g2, _, enumD_get f1, g3⟩
def zipD (ds es : List D) : List D := ds.zipWith (fun d e => D.tup [d, e]) es
theorem zipD_length (ds es : List D) : (zipD ds es).length = min ds.length es.length := by simp [zipD]
theorem zipD_get {ds es : List D} {i : Nat} {d e : D} (h : ds[i]? = some d) (h' : es[i]? = some e) : (zipD ds es)[i]? = some (.tup [d, e]) := by
  simp [zipD, List.getElem?_zipWith, h, h']
theorem iterD_zip : IterD K (Itz K a b) (zipD ds es) (fun G => ∃ xs ys, SqL K G a xs ∧ RepL K G ds xs ∧ SqL K G b ys ∧ RepL K G es ys) where
  mono := fun H H' e ⟨xs, ys, h1, h2, h3, h4⟩ => ⟨xs, ys, e.seq h1, RepL.mono e _ h2, e.seq h3, RepL.mono e _ h4⟩
  goes := fun i H μ hi ⟨xs, ys, h1, h2, h3, h4⟩ => (walk_zip rfl).goes i H (by rw [← h2.length, ← h4.length]; rw [zipD_length] at hi; exact hi) ⟨unhide.seq h1, unhide.seq h3⟩
  stops := fun H μ ⟨xs, ys, h1, h2, h3, h4⟩ => by rw [zipD_length, h2.length, h4.length]; exact (walk_zip rfl).stops H ⟨unhide.seq h1, unhide.seq h3⟩
  yields := fun i H μ x H' hi ⟨xs, ys, h1, h2, h3, h4⟩ y hf => by
    rw [zipD_length] at hi
    obtain ⟨T, u, v, e1, e2, e3, e4, e5⟩ := (walk_zip rfl).yields i H x H' (by rw [← h2.length, ← h4.length]; exact hi) ⟨unhide.seq h1, unhide.seq h3⟩ y
    obtain ⟨d, f1, f2⟩ := h2.getV e4
    obtain ⟨d', f3, f4⟩ := h4.getV e5
    obtain ⟨g1, g2, g3⟩ := pair_ok (d := d) (e := d') e1 e2 e3 hf f2 f4
    exact ⟨g1, g2, _, zipD_get f1 f3, g3⟩
theorem iterD_zipT : IterD K (RZ.ItzT K a b) (zipD ds es) (fun G => ∃ xs ys, SqT K G a xs ∧ RepL K G ds xs ∧ SqT K G b ys ∧ RepL K G es ys) where
  mono := fun H H' e ⟨xs, ys, h1, h2, h3, h4⟩ => ⟨xs, ys, sqT_same e h1, RepL.mono e _ h2, sqT_same e h3, RepL.mono e _ h4⟩
  goes := fun i H μ hi ⟨xs, ys, h1, h2, h3, h4⟩ => by
    rw [zipD_length] at hi
    have l1 := h2.length
    have l2 := h4.length
    have i1 : i < xs.length := by omega
    have i2 : i < ys.length := by omega
    exact ⟨xs, ys, xs[i], ys[i], sqT_same unhide h1, sqT_same unhide h3, by simp [i1], by simp [i2]⟩
  stops := fun H μ ⟨xs, ys, h1, h2, h3, h4⟩ => by
    have l1 := h2.length
    have l2 := h4.length
    rw [zipD_length]
    exact ⟨xs, ys, sqT_same unhide h1, sqT_same unhide h3, by omega⟩
  yields := fun i H μ x H' hi ⟨xs, ys, h1, h2, h3, h4⟩ y hf => by
    rw [zipD_length] at hi
    obtain ⟨T, u, v, e1, e2, e3, e4, e5⟩ := y
    have e4 := e4 xs (sqT_same unhide h1)
    have e5 := e5 ys (sqT_same unhide h3)
    obtain ⟨d, f1, f2⟩ := h2.getV e4
    obtain ⟨d', f3, f4⟩ := h4.getV e5
    obtain ⟨g1, g2, g3⟩ := pair_ok (d := d) (e := d') e1 e2 e3 hf f2 f4
    exact ⟨g1, g2, _, zipD_get f1 f3, g3⟩
theorem rev_get {ds : List D} {xs : List V} {G : Hp} {i : Nat} {x : V} (h : RepL K G ds xs) (hi : i < ds.length) (e : xs[xs.length - 1 - i]? = some x) : ∃ d, ds.reverse[i]? = some d ∧ Rep K G d x := by
  obtain ⟨d, f1, f2⟩ := h.getV e
  refine ⟨d, ?_, f2⟩
  rw [List.getElem?_reverse hi, h.length]
  exact f1
theorem iterD_rev {n : Nat} (hn : n = ds.length) : IterD K (Itv K a n) ds.reverse (fun G => ∃ xs, SqL K G a xs ∧ RepL K G ds xs) where
  mono := fun H H' e ⟨xs, h1, h2⟩ => ⟨xs, e.seq h1, RepL.mono e _ h2⟩
  goes := fun i H μ hi ⟨xs, h1, h2⟩ => by
    rw [List.length_reverse] at hi
    subst hn; rw [h2.length]
    exact walk_rev.goes i H (by rw [← h2.length]; exact hi) (unhide.seq h1)
  stops := fun H μ ⟨xs, h1, h2⟩ => by rw [List.length_reverse]; subst hn; rw [h2.length]; exact walk_rev.stops H (unhide.seq h1)
  yields := fun i H μ x H' hi ⟨xs, h1, h2⟩ y _ => by
    rw [List.length_reverse] at hi
    subst hn; rw [h2.length] at y
    obtain ⟨rfl, e⟩ := walk_rev.yields i H x H' (by rw [← h2.length]; exact hi) (unhide.seq h1) y
    obtain ⟨d, e1, e2⟩ := rev_get h2 hi e
    exact ⟨Same.refl _, fun _ _ _ => rfl, d, e1, e2⟩
end

section
variable {X : Cx} {B : Hp} {ρ : LEnv} {μ : Mem} {N : List Str} {sc : Scope} {k : Nat} {EX : Exc → LEnv → Mem → Prop}
variable {a b e : Expr} {es : List Expr} {p pos : Pos} {tg : Expr}
def tI (X : Cx) (tg iter : Expr) : TI := fun σ H R => ∀ pins s, Inv X pins σ H s → wpAny (model X.prog X.w) X.A (eval iter X.env) (fun v s1 => wpAny (model X.prog X.w) X.A (pyIter v) (PIE X pins σ tg R) X.xe s1) X.xe s
theorem piC {iter : Expr} : PI X tg iter (tI X tg iter) := ⟨fun pins s σ H R I h => h pins s I⟩
theorem tI_of {iter : Expr} {t : TI} {σ : St} {H : Hp} {R : It → Hp → Prop} (h : PI X tg iter t) (q : t σ H R) : tI X tg iter σ H R := fun pins s I => h.run pins s σ H R I q
theorem tI_mono {iter : Expr} {σ : St} {H : Hp} {R R' : It → Hp → Prop} (h : tI X tg iter σ H R) (f : ∀ J H', R J H' → R' J H') : tI X tg iter σ H R' := fun pins s I => wpAny_mono (h pins s I) (fun v s1 h1 => wpAny_mono h1 (fun itv s2 ⟨it, fp, tn, J, H', e, I2, T, st, ff, r⟩ => ⟨it, fp, tn, J, H', e, I2, T, st, ff, f _ _ r⟩) fun _ _ x => x) fun _ _ x => x
def IW (X : Cx) (B : Hp) (tg iter : Expr) (ρ : LEnv) (μ : Mem) (Q : List D → Mem → Prop) : Prop := ∀ σ H, Good X.K B H μ σ ρ →
  tI X tg iter σ H fun J H' => ∃ ds μ' S, Same (hide H μ) (hide H' μ') ∧ Good X.K B H' μ' σ ρ ∧ IterD X.K J ds S ∧ S (hide H' μ') ∧ Q ds μ'
variable {Q : List D → Mem → Prop}
theorem iw_list {iter : Expr} (h : EW X B iter ρ μ fun d μ1 => ∃ ds, d = .lst ds ∧ Q ds μ1) : IW X B tg iter ρ μ Q := fun σ H G =>
  tI_of (pi_list peC) (tE_mono (h σ H G) fun v H1 ⟨d, μ1, s, G1, r, ds, e, q⟩ => by
    subst e
    obtain ⟨a, xs, rfl, h1, h2⟩ := r
    exact ⟨a, rfl, ⟨xs, unhide.seq h1⟩, ds, μ1, _, s, G1, iterD_list, ⟨xs, h1, h2⟩, q⟩)
theorem iw_tup {iter : Expr} (h : EW X B iter ρ μ fun d μ1 => ∃ ds, d = .tup ds ∧ Q ds μ1) : IW X B tg iter ρ μ Q := fun σ H G =>
  tI_of (pi_tup peC) (tE_mono (h σ H G) fun v H1 ⟨d, μ1, s, G1, r, ds, e, q⟩ => by
    subst e
    obtain ⟨a, xs, rfl, h1, h2⟩ := r
    exact ⟨a, rfl, ⟨xs, sqT_same unhide h1⟩, ds, μ1, _, s, G1, iterD_tup, ⟨xs, h1, h2⟩, q⟩)
theorem iw_range1 (h0 : Ok X N sc k B EX) (hm : X.mg "range" = none) (h : EW X B a ρ μ fun d μ1 => ∃ j : Int, d = .int j ∧ (-(2 ^ 62) ≤ j ∧ j < 2 ^ 62) ∧ Q (rangeD 0 j.toNat) μ1) (hg : sc.names.lookup ("range" : Str) = some .globalImplicit := by rfl) (hs : starEach [a] X.env = [(false, eval a X.env)] := by rfl) : IW X B tg (.Call (.Name "range" p) [a] [] pos) ρ μ Q := fun σ H G =>
  tI_of (pi_range1 (by show X.env.scope.names.lookup _ = _; rw [h0.hs]; exact hg) hm (pa_cons peC pa_nil hs) hs) (tE_mono (h σ H G) fun v H1 ⟨d, μ1, s, G1, r, j, e, ⟨b1, b2⟩, q⟩ => by
    subst e
    exact ⟨j, by rw [show v = .int j from r], b1, b2, _, μ1, _, s, G1, iterD_range, True.intro, q⟩)
theorem iw_range2 (h0 : Ok X N sc k B EX) (hm : X.mg "range" = none) (h : EW X B a ρ μ fun x μ1 => EW X B b ρ μ1 fun y μ2 => ∃ i j : Int, x = .int i ∧ y = .int j ∧ (-(2 ^ 62) ≤ i ∧ i < 2 ^ 62 ∧ -(2 ^ 62) ≤ j ∧ j < 2 ^ 62) ∧ Q (rangeD i (j - i).toNat) μ2) (hg : sc.names.lookup ("range" : Str) = some .globalImplicit := by rfl)
    (hs : starEach [a, b] X.env = [(false, eval a X.env), (false, eval b X.env)] := by rfl) (hs2 : starEach [b] X.env = [(false, eval b X.env)] := by rfl) : IW X B tg (.Call (.Name "range" p) [a, b] [] pos) ρ μ Q := fun σ H G =>
  tI_of (pi_range2 (by show X.env.scope.names.lookup _ = _; rw [h0.hs]; exact hg) hm (pa_cons peC (pa_cons peC pa_nil hs2) (by rw [hs, hs2])) hs hs2) (two G h fun dx dy x y H2 μ2 s G2 r1 r2 ⟨i, j, e1, e2, bb, q⟩ => by
    subst e1 e2
    exact ⟨i, j, by rw [show x = .int i from r1, show y = .int j from r2], bb, _, μ2, _, s, G2, iterD_range, True.intro, q⟩)
theorem iw_enum {elts : List Expr} {kk} {tpos : Pos} (h0 : Ok X N sc k B EX) (hm : X.mg "enumerate" = none) (h : EW X B a ρ μ fun d μ1 => ∃ ds, d = .lst ds ∧ Q (enumD ds) μ1) (hg : sc.names.lookup ("enumerate" : Str) = some .globalImplicit := by rfl) (hs : starEach [a] X.env = [(false, eval a X.env)] := by rfl) : IW X B (.Tuple elts kk tpos) (.Call (.Name "enumerate" p) [a] [] pos) ρ μ Q := fun σ H G =>
  tI_of (pi_enum (by show X.env.scope.names.lookup _ = _; rw [h0.hs]; exact hg) hm (pa_cons peC pa_nil hs) hs) (tE_mono (h σ H G) fun v H1 ⟨d, μ1, s, G1, r, ds, e, q⟩ => by
    subst e
    obtain ⟨a, xs, rfl, h1, h2⟩ := r
    exact ⟨a, xs, rfl, unhide.seq h1, _, μ1, _, s, G1, iterD_enum, ⟨xs, h1, h2⟩, q⟩)
theorem iw_zip {elts : List Expr} {kk} {tpos : Pos} (h0 : Ok X N sc k B EX) (hm : X.mg "zip" = none) (h : EW X B a ρ μ fun x μ1 => EW X B b ρ μ1 fun y μ2 => ∃ ds es, ((x = .lst ds ∧ y = .lst es) ∨ (x = .tup ds ∧ y = .tup es)) ∧ Q (zipD ds es) μ2) (hg : sc.names.lookup ("zip" : Str) = some .globalImplicit := by rfl)
    (hs : starEach [a, b] X.env = (false, eval a X.env) :: starEach [b] X.env := by rfl) (hs2 : starEach [b] X.env = (false, eval b X.env) :: starEach [] X.env := by rfl) (hpl : (backTo pos (starEach [b] X.env)).any (·.1) = false := by rfl) : IW X B (.Tuple elts kk tpos) (.Call (.Name "zip" p) [a, b] [] pos) ρ μ Q := fun σ H G =>
  tI_of (RZ.pi_zipA (by show X.env.scope.names.lookup _ = _; rw [h0.hs]; exact hg) hm (pa_cons peC (pa_cons peC pa_nil hs2) hs) hs hpl) (two G h fun dx dy x y H2 μ2 s G2 r1 r2 ⟨ds, es, hh, q⟩ => by
    rcases hh with ⟨e1, e2⟩ | ⟨e1, e2⟩
    · subst e1 e2
      obtain ⟨a, xs, rfl, h1, h2⟩ := r1
      obtain ⟨b, ys, rfl, h3, h4⟩ := r2
      exact ⟨a, b, xs, ys, rfl, .inl ⟨unhide.seq h1, unhide.seq h3, _, μ2, _, s, G2, iterD_zip, ⟨xs, ys, h1, h2, h3, h4⟩, q⟩⟩
    · subst e1 e2
      obtain ⟨a, xs, rfl, h1, h2⟩ := r1
      obtain ⟨b, ys, rfl, h3, h4⟩ := r2
      exact ⟨a, b, xs, ys, rfl, .inr ⟨sqT_same unhide h1, sqT_same unhide h3, _, μ2, _, s, G2, iterD_zipT, ⟨xs, ys, h1, h2, h3, h4⟩, q⟩⟩)
theorem iw_rev (h0 : Ok X N sc k B EX) (hm : X.mg "reversed" = none) (h : EW X B a ρ μ fun d μ1 => ∃ ds, (d = .lst ds ∨ d = .tup ds) ∧ Q ds.reverse μ1) (hg : sc.names.lookup ("reversed" : Str) = some .globalImplicit := by rfl) (hs : starEach [a] X.env = (false, eval a X.env) :: starEach [] X.env := by rfl) : IW X B tg (.Call (.Name "reversed" p) [a] [] pos) ρ μ Q := fun σ H G =>
  tI_of (RT.pi_revA (by show X.env.scope.names.lookup _ = _; rw [h0.hs]; exact hg) hm peC hs) (tE_mono (h σ H G) fun v H1 ⟨d, μ1, s, G1, r, ds, e, q⟩ => by
    rcases e with e | e
    · subst e
      obtain ⟨a, xs, rfl, h1, h2⟩ := r
      exact ⟨a, xs, rfl, .inl ⟨unhide.seq h1, _, μ1, _, s, G1, iterD_rev h2.length.symm, ⟨xs, h1, h2⟩, q⟩⟩
    · subst e
      obtain ⟨a, xs, rfl, h1, h2⟩ := r
      refine ⟨a, xs, rfl, .inr ⟨sqT_same unhide h1, ds.reverse, μ1, (fun G => ∃ xs, SqT X.K G a xs ∧ RepL X.K G ds xs), s, G1, ⟨fun H H' e ⟨xs, h1, h2⟩ => ⟨xs, sqT_same e h1, RepL.mono e _ h2⟩, fun i H μ hi ⟨ys, h3, h4⟩ => ?_, fun H μ ⟨ys, h3, h4⟩ => ?_, fun i H μ x H' hi ⟨ys, h3, h4⟩ y _ => ?_⟩, ⟨xs, h1, h2⟩, q⟩⟩
      · rw [List.length_reverse] at hi
        have l1 := h4.length
        have l2 := h2.length
        exact ⟨by omega, ys, ys[xs.length - 1 - i]'(by omega), sqT_same unhide h3, by simp [show xs.length - 1 - i < ys.length by omega]⟩
      · rw [List.length_reverse, h2.length]
        exact Nat.le_refl _
      · rw [List.length_reverse] at hi
        obtain ⟨rfl, e⟩ := y
        have e := e ys (sqT_same unhide h3)
        rw [show xs.length = ys.length from by rw [← h2.length, ← h4.length]] at e
        obtain ⟨d, e1, e2⟩ := rev_get h4 hi e
        exact ⟨Same.refl _, fun _ _ _ => rfl, d, e1, e2⟩)

/-! ### for, while -/
def FL (X : Cx) (B : Hp) (tg : Expr) (body : List Stmt) (F : Fi) : List D → LEnv → Mem → Prop
  | [], ρ, μ => F.nx ρ μ
  | d :: ds, ρ, μ => GW X B tg d ρ μ fun ρ1 μ1 => BW X B body ρ1 μ1 { F with nx := fun ρ' μ' => FL X B tg body F ds ρ' μ', ct := fun ρ' μ' => FL X B tg body F ds ρ' μ', bk := F.nx }
theorem sw_for {iter : Expr} {body : List Stmt} {F : Fi} (h0 : Ok X N sc k B EX) (h : IW X B tg iter ρ μ fun ds μ1 => FL X B tg body F ds ρ μ1) (hs : ∀ x, foldedSetIterable iter X.env x = pure x := by intro _; rfl) : SW X B (.For tg iter body [] pos) ρ μ F := fun σ H G =>
  tS_of (ps_for h0.own h0.calm piC pgC pssC hs) (tI_mono (h σ H G) fun J H1 ⟨ds, μ1, S, s, G1, w, hS, q⟩ => by
    refine ⟨fun i m σ' H' => m = ds.length - i ∧ i ≤ ds.length ∧ ∃ ρ' μ', Same (hide H1 μ1) (hide H' μ') ∧ Good X.K B H' μ' σ' ρ' ∧ FL X B tg body F (ds.drop i) ρ' μ', ⟨ds.length, by simp, Nat.zero_le _, ρ, μ1, Same.refl _, G1, by simpa using q⟩, ?_⟩
    rintro i m σ' H' ⟨rfl, hi, ρ', μ', s', G', q'⟩
    have hS' := w.mono _ _ s' hS
    by_cases hlt : i < ds.length
    · refine .inr ⟨w.goes i H' μ' hlt hS', fun σ2 H2 => ∃ ρ2 μ2, Same (hide H1 μ1) (hide H2 μ2) ∧ Good X.K B H2 μ2 σ2 ρ2 ∧ FL X B tg body F (ds.drop (i + 1)) ρ2 μ2, fun σ2 H2 ⟨ρ2, μ2, s2, G2, q2⟩ => ⟨ds.length - (i + 1), by omega, rfl, hlt, ρ2, μ2, s2, G2, q2⟩, fun x H2 y => ?_⟩
      obtain ⟨s2, hk, d, e1, r⟩ := w.yields i H' μ' x H2 hlt hS' y fun p hp => G'.mdl.free hp
      have G2 : Good X.K B H2 μ' σ' ρ' := ⟨G'.same.trans s2, G'.env.mono s2, fun a c h => (G'.mdl a c h).mono s2 (hk a c h)⟩
      have ed : ds.drop i = d :: ds.drop (i + 1) := by
        obtain ⟨h1, h2⟩ := List.getElem?_eq_some_iff.mp e1
        rw [List.drop_eq_getElem_cons h1, h2]
      rw [ed] at q'
      refine tG_mono (q' σ' H2 x G2 r) fun σ3 H3 ⟨ρ3, μ3, s3, G3, q3⟩ => ?_
      refine tSs_mono (q3 σ3 H3 G3) ⟨fun σ4 H4 ⟨ρ4, μ4, s4, G4, q4⟩ => ⟨ρ4, μ4, ((s'.trans s2).trans s3).trans s4, G4, q4⟩, fun v H4 z => z, fun σ4 H4 z => NQ.mono z (((s.trans s').trans s2).trans s3) fun _ _ z => z, fun σ4 H4 ⟨ρ4, μ4, s4, G4, q4⟩ => ⟨ρ4, μ4, ((s'.trans s2).trans s3).trans s4, G4, q4⟩⟩
    · have e : i = ds.length := by omega
      subst e
      rw [List.drop_length] at q'
      exact .inl ⟨w.stops H' μ' hS', ρ', μ', s.trans s', G', q'⟩)
/-- while, by what holds with a measure -/
theorem sw_while {c : Expr} {body : List Stmt} {F : Fi} (h0 : Ok X N sc k B EX) (I : Nat → LEnv → Mem → Prop) {n : Nat} (hi : I n ρ μ)
    (step : ∀ n ρ μ, I n ρ μ → TW X B c ρ μ fun t μ1 => if t = true then BW X B body ρ μ1 { F with nx := fun ρ' μ' => ∃ m, m < n ∧ I m ρ' μ', ct := fun ρ' μ' => ∃ m, m < n ∧ I m ρ' μ', bk := F.nx } else F.nx ρ μ1) : SW X B (.While c body [] pos) ρ μ F := fun σ H G =>
  tS_of (ps_while h0.own ptC pssC) (by
    refine ⟨fun m σ' H' => ∃ ρ' μ', Same (hide H μ) (hide H' μ') ∧ Good X.K B H' μ' σ' ρ' ∧ I m ρ' μ', ⟨n, ρ, μ, Same.refl _, G, hi⟩, ?_⟩
    rintro m σ' H' ⟨ρ', μ', s', G', i'⟩
    refine tT_mono (step m ρ' μ' i' σ' H' G') fun t H1 ⟨μ1, s1, G1, q⟩ => ?_
    cases t with
    | true =>
      rw [if_pos rfl] at q ⊢
      refine ⟨fun σ2 H2 => ∃ ρ2 μ2, Same (hide H μ) (hide H2 μ2) ∧ Good X.K B H2 μ2 σ2 ρ2 ∧ ∃ m', m' < m ∧ I m' ρ2 μ2, fun σ2 H2 ⟨ρ2, μ2, s2, G2, m', l, i2⟩ => ⟨m', l, ρ2, μ2, s2, G2, i2⟩, ?_⟩
      exact tSs_mono (q σ' H1 G1) ⟨fun σ4 H4 ⟨ρ4, μ4, s4, G4, q4⟩ => ⟨ρ4, μ4, (s'.trans s1).trans s4, G4, q4⟩, fun v H4 z => z, fun σ4 H4 z => NQ.mono z (s'.trans s1) fun _ _ z => z, fun σ4 H4 ⟨ρ4, μ4, s4, G4, q4⟩ => ⟨ρ4, μ4, (s'.trans s1).trans s4, G4, q4⟩⟩
    | false =>
      rw [if_neg Bool.false_ne_true] at q ⊢
      exact ⟨ρ', μ1, s'.trans s1, G1, q⟩)
end

/-! ### a def by its body -/
def startD (N : List Str) (ds : List D) : LEnv := ds.map some ++ List.replicate (N.length - ds.length) none
theorem env_start {K : PySem.W.Frag} {G : Hp} {N : List Str} {ds : List D} {vs : List V} (r : RepL K G ds vs) : EnvR K G (L2.start N vs) (startD N ds) := fun i d h => by
  unfold startD at h
  unfold L2.start
  by_cases hi : i < ds.length
  · rw [List.getElem?_append_left (by simpa using hi), List.getElem?_map] at h
    rw [List.getElem?_append_left (by rw [List.length_map, ← r.length]; exact hi), List.getElem?_map]
    cases e : ds[i]? with
    | none => rw [e] at h; cases h
    | some d' =>
      rw [e] at h
      cases h
      obtain ⟨v, h1, h2⟩ := r.get e
      exact ⟨v, by rw [h1]; rfl, h2⟩
  · rw [List.getElem?_append_right (by simpa using hi), List.getElem?_replicate] at h
    split at h <;> cases h
theorem def_ok {W : Wd} {x qual : Str} {params : Arguments} {body : List Stmt} {scope : Scope} {dvs : List V} {kws : List (Str × V)} {f : Addr} {fd : FuncData} {N ps : List Str} {k : Nat} {ct : Ct} (F : FunD W.K x qual params body scope dvs kws f fd) (S : FnScope N ps scope)
    (len : ∀ ds μ Q E, ct ds μ Q E → ds.length = ps.length)
    (hbody : ∀ (X : Cx) (B : Hp) (ds : List D) (μ : Mem) (Q : D → Mem → Prop) (E : Exc → Mem → Prop), wd X = W → (∀ x, X.fn x = true) → Ok X N scope k B (fun x _ μ' => E x μ') → ct ds μ Q E → BW X B body (startD N ds) μ { nx := fun _ μ' => Q .non μ', rt := Q }) :
    FOk W (k + 1) f fd ps ct := by
  refine F.ok S (fun vs H Q E ⟨ds, μ, Q0, E0, h1, h2, h3, h4, h5⟩ => by rw [← h1.length]; exact len _ _ _ _ h3) fun cdv A outer s H vs Q E hr ⟨ds, μ, Q0, E0, h1, h2, h3, h4, h5⟩ => ⟨tSs _ body, pssC, ?_⟩
  have ok : Ok (cxOf (L2.CX W.P W.w) W.P W.w W.K W.mg W.base N qual scope f cdv A outer s H E) N scope k (hide H μ) (fun x _ μ' => E0 x μ') := {
    hN := rfl
    hs := rfl
    nd := S.nd
    room := hr
    calm := rfl
    tk := by
      refine Takes.imp (W := fun cls d _ H => E cls d H) (takes_of rfl rfl rfl rfl) fun c d σ H' ⟨x, ρ', μ', G, r, q⟩ => h5 x μ' c d H' q G.same G.mdl r
    own := passes_of rfl }
  refine tSs_mono (hbody _ (hide H μ) ds μ Q0 E0 rfl (fun _ => rfl) ok h3 _ H ⟨Same.refl _, env_start h1, h2⟩) ⟨fun σ' H' ⟨ρ', μ', s', G', q⟩ => h4 _ μ' _ H' q s' G'.mdl rfl, fun v H' ⟨d, μ', s', M, r, q⟩ => h4 d μ' v H' q s' M r, fun _ _ ⟨_, _, _, _, q⟩ => q.elim, fun _ _ ⟨_, _, _, _, q⟩ => q.elim⟩
end LX

set_option Elab.async false
set_option linter.all false
set_option maxRecDepth 100000
set_option maxHeartbeats 4000000
namespace LX
open PySem PySem.Spec L2
open PyProof.Rows hiding St

/-! ### making own exceptions: C(..) -/
section
variable {X : Cx} {e : Expr} {es : List Expr} {p p1 p2 pos : Pos} {ta : TA}
/-- C() -/
theorem pmk_oex0 {CX : CXT} {x : Str} {C fI : Addr} {k : Nat} {fd : FuncData} {ps : List Str} {sp : Sp} (T : OexC X.K C) (iC : PySem.W.findIn X.K (.ref C) "__init__" = some (some (.ref fI))) (tI : PySem.W.typeIn X.K (.ref fI) = some (.type "function"))
    (F1 : FnOk X.prog X.w X.K X.mg X.base CX k fI fd ps sp) (hr : Room (k + 1) X.A) (hb : Binds X.K fd ps []) (hx : Passes CX X (fun _ _ _ => False)) (hg : Gl X x) (hm : X.mg x = some (.ref C))
    (hdb : (x == ("__debug__" : Str)) = false := by decide) :
    PMk X (.Call (.Name x p) [] [] pos) (tMkO C sp [] tNil) := by
  intro pins s σ H Q I h
  obtain ⟨hz, q1⟩ := h
  obtain ⟨nm, q, N, bs, bm, sn, sub, ab, col, dd, k0, k1, k2, k3, k5, hC, hbm⟩ := T.cls
  refine wpAny_Call_Name_kw (ld_glob I hg hm ?_ hdb)
  refine PySem.W.callWith_K0 I.kIn T.kC ?_
  show wpAny _ _ (call (.ref C) []) _ _ _
  obtain ⟨hp, g, dr, tk, os⟩ := s
  have hsz : hp.objs.size ≤ hp.objs.size + 1 := Nat.le_succ _
  have hn : H (hp.objs.size + 1) = none := I.hok.fresh hsz
  have hq := q1 (hp.objs.size + 1) hn
  have kk : ∀ b o, hp.get? b = some o → ((hp.push (PySem.W.kdv_tup [])).push (PySem.HandSPX.excO C hp.objs.size)).get? b = some o := fun b o e => Heap.get?_push_of_some _ (Heap.get?_push_of_some _ e)
  have hget : ((hp.push (PySem.W.kdv_tup [])).push (PySem.HandSPX.excO C hp.objs.size)).get? (hp.objs.size + 1) = some (PySem.HandSPX.excO C hp.objs.size) := by heap_get
  have I2 : Inv X pins σ (upd H (hp.objs.size + 1) (exo (hp.objs.size + 1) C none)) ⟨(hp.push (PySem.W.kdv_tup [])).push (PySem.HandSPX.excO C hp.objs.size), g, dr, tk, os⟩ :=
    I.laid (t' := tk) (a := hp.objs.size + 1) (o := exo (hp.objs.size + 1) C none) (h' := (hp.push (PySem.W.kdv_tup [])).push (PySem.HandSPX.excO C hp.objs.size)) kk hsz (exo_ok hget)
  have r2 : Vals [V.ref (hp.objs.size + 1)] [Value.ref (hp.objs.size + 1)] := .cons rfl .nil
  have hl : ([Value.ref (hp.objs.size + 1)] ++ []).length = ps.length := F1.len _ _ _ _ hq
  refine wpAny_call (PySem.HandSPX.call_own F.excBase_ValueError (fun Y => PySem.HandSPX.refsVE_contains Y bm hbm) (I.kIn _ _ hC) (PySem.W.looks_findIn I.kIn iC) (fun self => PySem.W.bind_fn I.kIn self tI) (Nat.zero_le _)
    (codeAny_mono (F1.run _ X.stack _ _ ⟨[Value.ref (hp.objs.size + 1)], []⟩ [Value.ref (hp.objs.size + 1)] [V.ref (hp.objs.size + 1)] _ (fun _ _ _ => False) (hr.make C [] []) (I2.env0.make C [] []) (hb _ [Value.ref (hp.objs.size + 1)] I2.kIn hl) r2 hq) fun r s' hq' => ?_))
  cases r with
  | error er => exact hx pins σ _ _ er s' I2 hq'
  | ok fl =>
    cases fl with
    | ret u =>
      obtain ⟨v, H2, os2, bare2, un2, hok2, rv, ev, d, fs, ea, ed, hd1, q2⟩ := hq'
      subst ev
      obtain ⟨h2, g2, d2, t2, os'⟩ := s'
      exact ⟨rv, mk_end (raises_own T.exC T.tyC) I hsz kk un2 hok2 os2 bare2 ea ed hd1 q2⟩
    | next => exact False.elim hq'
    | brk => exact False.elim hq'
    | cont => exact False.elim hq'
/-- B.__init__(e, ..), B an own class whose __init__ is the def at f -/
theorem pe_clsinit {CX : CXT} {x : Str} {C f : Addr} {mc : Value} {k : Nat} {fd : FuncData} {ps : List Str} {sp : Sp} {m : Str} {E : XK} {t : TA} {pl : Sem Bool} (hg : Gl X x) (hm : X.mg x = some (.ref C)) (r : ClX.CRead X.K C mc) (c : ClX.CVal X.K C mc m (.ref f) (.ref f)) (hk : PySem.W.keepIn X.K (.ref f) = true)
    (F : FnOk X.prog X.w X.K X.mg X.base CX k f fd ps sp) (hr : Room k X.A) (hb : Binds X.K fd ps []) (hx : Passes CX X E) (ha : PA X (e :: es) t)
    (hc : eval (.Call (.Attribute (.Name x p1) m p2) (e :: es) [] pos) X.env = (do
      let ov ← eval (.Name x p1) X.env
      standAt p2.atName
      let (f, first) ← holding [ov] (getMethod ov m pl)
      callWith pos f first (backTo pos (starEach (e :: es) X.env)) (backToKw pos (keywordEach [] X.env))) := by rfl)
    (he : starEach (e :: es) X.env = (false, eval e X.env) :: starEach es X.env := by rfl) (hpl : (backTo pos (starEach es X.env)).any (·.1) = false := by rfl) (hdb : (x == ("__debug__" : Str)) = false := by decide) :
    PE X (.Call (.Attribute (.Name x p1) m p2) (e :: es) [] pos) (tCall sp [] E t) := by
  refine ⟨fun pins s σ H Q I h => ?_⟩
  refine PySem.W.methodCall_KW (ld_glob I hg hm ?_ hdb) hc
  refine PySem.W.method_cls I.kIn r.ga (ClX.getcval_ok I r c fun s' I' => ?_)
  refine PySem.W.callWith_K (h₀ := X.base) I'.ok.mod.kin hk (thn (ha.run pos pins s' σ H _ I' h) fun us s1 ⟨vs, H1, I1, r1, q⟩ => ⟨I1.kIn, ?_⟩) he hpl
  exact run_fn (us := us) (vs := vs) F hr hb .nil hx I1 r1 q
end

/-! ### own exception classes by their __init__ -/
abbrev fCode (c : Str) : List (Str × V) := [("code", .str c)]
/-- the base class's __init__(self, code), at an instance of any class below it -/
def spB (K : PySem.W.Frag) : Sp := fun vs H Q _ => ∃ (a C : Addr) (c : Str), vs = [.ref a, .str c] ∧ OexC K C ∧ PySem.W.findIn K (.ref C) "code" = some none ∧ H a = some (exo a C none) ∧
  ∀ d, H d = none → d ≠ a → Q .non (upd (upd H d (exd d (fCode c))) a (exo a C (some d)))
/-- C's __init__(self, ..): the fields ns, the last one code -/
def spX (C : Addr) (ns : List Str) (code : Str) : Sp := fun vs H Q _ => ∃ (a : Addr) (ws : List V), vs = .ref a :: ws ∧ ws.length + 1 = ns.length ∧ H a = some (exo a C none) ∧
  ∀ d, H d = none → d ≠ a → Q .non (upd (upd H d (exd d (ns.zip (ws ++ [.str code])))) a (exo a C (some d)))
structure XCls (W : Wd) (x : Str) (k : Nat) (C : Addr) (ns : List Str) (code : Str) : Prop where
  g : W.mg x = some (.ref C)
  T : OexC W.K C
  ex : ∃ fI fd ps, PySem.W.findIn W.K (.ref C) "__init__" = some (some (.ref fI)) ∧ PySem.W.typeIn W.K (.ref fI) = some (.type "function") ∧ Binds W.K fd ps [] ∧ FnOk W.P W.w W.K W.mg W.base (L2.CX W.P W.w) k fI fd ps (spX C ns code)
theorem del_upd {H : Hp} {a d : Addr} {o u v : HO} (ha : H a = none) (hd : d ≠ a) : upd (del (upd (upd (upd H a o) d u) a v) a) d v = upd H d v := by
  funext b
  by_cases h : b = d
  · rw [h, upd_same, upd_same]
  · rw [upd_ne h, upd_ne h]
    by_cases h2 : b = a
    · rw [h2, del_same, ha]
    · rw [del_ne h2, upd_ne h2, upd_ne h, upd_ne h2]
theorem del_upd' {H : Hp} {a d : Addr} {o u v w : HO} (ha : H a = none) (hd : d ≠ a) : upd (del (upd (upd (upd H a o) d u) a v) a) d w = upd H d w := by
  funext b
  by_cases h : b = d
  · rw [h, upd_same, upd_same]
  · rw [upd_ne h, upd_ne h]
    by_cases h2 : b = a
    · rw [h2, del_same, ha]
    · rw [del_ne h2, upd_ne h2, upd_ne h, upd_ne h2]
section
variable {X : Cx} {B : Hp} {ρ : LEnv} {μ : Mem} {N : List Str} {sc : Scope} {k : Nat} {EX : Exc → LEnv → Mem → Prop}
variable {a b e : Expr} {es : List Expr} {p pos pos' : Pos}
theorem raise_end {σ : St} {H : Hp} {C : Addr} {ns : List Str} {code : Str} {ws : List V} {ds : List D} (G : Good X.K B H μ σ ρ) (r : RepL X.K (hide H μ) ds ws) (hl : ws.length + 1 = ns.length) (q : EX ⟨C, ns, ds ++ [.str code]⟩ ρ μ) (a : Addr) (ha : H a = none) :
    spX C ns code (.ref a :: ws) (upd H a (exo a C none)) (fun v H2 => v = .non ∧ ∃ (d : Addr) (fs : List (Str × V)), H2 a = some (exo a C (some d)) ∧ H2 d = some (exd d fs) ∧ H d = none ∧ Wc X.K B EX (.ref C) (some d) σ (upd (del H2 a) d (.xd fs))) (fun _ _ _ => False) := by
  refine ⟨a, ws, rfl, hl, upd_same, fun d hd hne => ⟨rfl, d, ns.zip (ws ++ [.str code]), upd_same, ?_, ?_, ?_⟩⟩
  · rw [upd_ne hne, upd_same]
  · rw [upd_ne hne] at hd
    exact hd
  · rw [upd_ne hne] at hd
    rw [del_upd' ha hne]
    have G2 : Good X.K B (upd H d (.xd (ns.zip (ws ++ [.str code])))) μ σ ρ := G.laid hd
    have s := hide_laid (H := H) (μ := μ) (o := .xd (ns.zip (ws ++ [.str code]))) hd (G.mdl.free hd)
    refine ⟨⟨C, ns, ds ++ [.str code]⟩, ρ, μ, G2, ⟨rfl, d, ws ++ [.str code], rfl, ?_, ?_, ?_⟩, q⟩
    · exact hide_at (G.mdl.free hd) upd_same fun ps z => by cases z
    · show (ws ++ [V.str code]).length = ns.length
      rw [List.length_append]; exact hl
    · exact RepL.append (RepL.mono s _ r) (RepL.one rfl)
theorem sw_raise0 {x : Str} {C : Addr} {code : Str} {j : Nat} {F : Fi} (h0 : Ok X N sc k B EX) (hx : XCls (wd X) x j C ["code"] code) (hj : j + 1 ≤ k) (q : EX ⟨C, ["code"], [.str code]⟩ ρ μ) (hg : sc.names.lookup x = some .globalImplicit := by rfl) (hdb : (x == ("__debug__" : Str)) = false := by decide) :
    SW X B (.Raise (some (.Call (.Name x p) [] [] pos)) none pos') ρ μ F := fun σ H G => by
  obtain ⟨fI, fd, ps, h1, h2, h3, h4⟩ := hx.ex
  refine tS_of (ps_raise h0.calm h0.tk (pmk_oex0 hx.T h1 h2 h4 (h0.room.mono hj) h3 passL (by show X.env.scope.names.lookup x = _; rw [h0.hs]; exact hg) hx.g hdb)) ?_
  exact ⟨Nat.zero_le _, fun a ha => raise_end (ds := []) G rfl rfl q a ha⟩
theorem sw_raise {x : Str} {C : Addr} {ns : List Str} {code : Str} {j : Nat} {F : Fi} (h0 : Ok X N sc k B EX) (hx : XCls (wd X) x j C ns code) (hj : j + 1 ≤ k) (h : AW X B (e :: es) ρ μ fun ds μ1 => ds.length + 1 = ns.length ∧ ds.length ≤ 1000 ∧ EX ⟨C, ns, ds ++ [.str code]⟩ ρ μ1) (hg : sc.names.lookup x = some .globalImplicit := by rfl) (hdb : (x == ("__debug__" : Str)) = false := by decide)
    (he : starEach (e :: es) X.env = (false, eval e X.env) :: starEach es X.env := by rfl) (hpl : (backTo pos (starEach es X.env)).any (·.1) = false := by rfl) :
    SW X B (.Raise (some (.Call (.Name x p) (e :: es) [] pos)) none pos') ρ μ F := fun σ H G => by
  obtain ⟨fI, fd, ps, h1, h2, h3, h4⟩ := hx.ex
  refine tS_of (ps_raise h0.calm h0.tk (pmk_oex (dvs := []) (ds := []) hx.T h1 h2 h4 (h0.room.mono hj) h3 .nil passL (by show X.env.scope.names.lookup x = _; rw [h0.hs]; exact hg) hx.g paC hdb he hpl)) ?_
  refine tA_mono (h σ H G) fun vs H1 ⟨ds, μ1, s, G1, r, hl, hz, q⟩ => ⟨by rw [← r.length]; exact hz, fun a ha => ?_⟩
  rw [List.append_nil]
  exact raise_end G1 r (by rw [← r.length]; exact hl) q a ha
end
end LX

set_option Elab.async false
set_option linter.all false
set_option maxRecDepth 100000
set_option maxHeartbeats 4000000
namespace LX
open PySem PySem.Spec L2
open PyProof.Rows hiding St

/-! ### a def that is called while an exception is handled, the exception at p known -/
abbrev SpE := Addr × Obj → Sp
structure FnE (W : Wd) (k : Nat) (f : Addr) (fd : FuncData) (ps : List Str) (sp : SpE) : Prop where
  len : ∀ p vs H Q E, sp p vs H Q E → vs.length = ps.length
  run : ∀ (A : Around) (outer : List Env) (s : Shared) (H : Hp) (args : Args) (us : List Value) (vs : List V) (Q : VK) (E : XK) (p : Addr × Obj), L2H.RoomH k A → L2H.PinOk outer H s p → Env0 W.P W.w W.K W.mg W.base A outer s H →
    BindsTo s fd args (ps.zip us) → Vals vs us → sp p vs H Q E → codeAny (model W.P W.w) A (.call (.ref f) args) (CR (L2.CX W.P W.w) outer W.P W.w H s Q E) s
theorem fnE_of {W : Wd} {k : Nat} {f : Addr} {x qual : Str} {params : Arguments} {body : List Stmt} {scope : Scope} {fd : FuncData} {N ps : List Str} {sp : SpE} (F : FunD W.K x qual params body scope [] [] f fd) (S : FnScope N ps scope)
    (len : ∀ p vs H Q E, sp p vs H Q E → vs.length = ps.length)
    (hbody : ∀ (cdv : Value) (A : Around) (outer : List Env) (s : Shared) (H : Hp) (vs : List V) (Q : VK) (E : XK) (p : Addr × Obj), sp p vs H Q E →
      ∃ t, PSs (L2H.cxH (L2.CX W.P W.w) W.P W.w W.K W.mg W.base N qual scope f cdv A outer s H E p) body t ∧ t { nx := fun _ H' => Q .non H', rt := Q } (L2.start N vs) H) :
    FnE W (k + 1) f fd ps sp := by
  obtain ⟨P, w, K, mg, base⟩ := W
  obtain ⟨oc, od, dV, kV, doc, pm, an, cdv, ct, osl, rfl, lk, hcd, _, _⟩ := F.ex
  refine ⟨len, fun A outer s H args us vs Q E p room pin e0 bd rv hsp => ?_⟩
  have arity := len _ _ _ _ _ hsp
  have inK : K.In s.heap := e0.mod.kin.keeps fun b o e => (e0.bs b o e).1
  have noLim : s.heap.NoLimit := e0.mod.nolimit.keeps fun b o e => (e0.bs b o e).1
  have slots : ∀ y ∈ ps.zip us, scope.names.lookup y.1 = some .local ∨ (scope.names.lookup y.1 = some .cell ∧ ((cellsFrom (s.heap.objs.size + 1) scope.names []).lookup y.1).isSome = true) := by
    rintro ⟨n, v⟩ hy
    exact (S.par n (List.of_mem_zip hy).1).imp id fun q => ⟨q, PySem.W.cellsFrom_some _ _ _ (.inl q)⟩
  refine codeAny_call_function room.depth (inK _ _ lk) rfl S.co S.gen rfl (PySem.W.codeRec_of inK hcd) (bd _ _ _ _ (wpAny_newFunctionEnv_cells S.kind slots ?_))
  rintro env rfl s1 inside
  refine ⟨noLim.keeps inside.toInCall.keep, codeAny_func ?_⟩
  obtain ⟨t, ht, hq⟩ := hbody cdv A outer s H vs Q E p hsp
  refine wpAny_mono (ht.run [] s1 (L2.start N vs) H _ (L2H.inv_startH S pin e0 arity rv inside) hq) (fun fl s' hs => ?_) fun e s' hs => hs
  cases fl with
  | ret u =>
    obtain ⟨v, _, H', J, r, q⟩ := hs
    exact ⟨v, H', J.os, J.bare, J.base, J.hok, r, q⟩
  | next =>
    obtain ⟨_, H', J, q⟩ := hs
    exact ⟨V.non, H', J.os, J.bare, J.base, J.hok, (rfl : Value.none = Value.none), q⟩
  | brk => exact hs.choose_spec.choose_spec.2.elim
  | cont => exact hs.choose_spec.choose_spec.2.elim
/-- its call there -/
theorem pe_callE {X : Cx} {k : Nat} {f : Addr} {fd : FuncData} {ps : List Str} {sp : SpE} {x : Str} {q pos : Pos} {e : Expr} {es : List Expr} {t : TA} {p : Addr × Obj} (F : FnE (wd X) k f fd ps sp) (hr : L2H.RoomH k X.A) (hp : p ∈ X.pn) (hg : Gl X x) (hm : X.mg x = some (.ref f)) (hk : PySem.W.keepIn X.K (.ref f) = true) (hb : Binds X.K fd ps [])
    (ha : PA X (e :: es) t) (hdb : (x == ("__debug__" : Str)) = false := by decide) (he : starEach (e :: es) X.env = (false, eval e X.env) :: starEach es X.env := by rfl) (hpl : (backTo pos (starEach es X.env)).any (·.1) = false := by rfl) :
    PE X (.Call (.Name x q) (e :: es) [] pos) (fun σ H Q => t σ H fun vs H1 => sp p vs H1 Q E0) := by
  refine ⟨fun pins s σ H Q I h => wpAny_Call_Name_kw (ld_glob I hg hm ?_ hdb)⟩
  refine PySem.W.callWith_K (h₀ := X.base) I.ok.mod.kin hk (thn (ha.run pos pins s σ H _ I h) fun us s1 ⟨vs, H1, I1, r, z⟩ => ⟨I1.kIn, ?_⟩) he hpl
  have n : us.length = ps.length := by rw [← r.length]; exact F.len _ _ _ _ _ z
  have bd := hb s1 us I1.kIn (by simpa using n)
  obtain ⟨p1, p2, p3, p4, p5⟩ := I1.pin p (List.mem_append_left _ hp)
  have pin : L2H.PinOk X.stack H1 s1 p := ⟨p1, p2, fun m => (List.mem_cons.mp (I1.stkSub p.1 m)).elim p3 p4, p5⟩
  refine wpAny_call (codeAny_mono (F.run X.A X.stack s1 H1 ⟨us, []⟩ us vs Q E0 p hr pin I1.env0 (by simpa using bd) r z) fun r s' hq => ?_)
  rcases r with e | (_ | _ | _ | u)
  · exact passL (X := X) pins σ _ _ _ _ I1 hq
  all_goals first
    | exact I1.after hq
    | exact False.elim hq
/-- e.n where e is the exception at p, which is known -/
def tXfE (p : Addr × Obj) (C : Addr) (f : Str) (te : TE) : TE := fun σ H Q => te σ H fun x H1 => x = .ref p.1 ∧ ∃ (dd : Addr) (fs : List (Str × V)) (v : V), p.2.dict = some dd ∧ H1 dd = some (.xd fs) ∧ fs.lookup f = some v ∧ Q v H1
theorem pe_xfE {X : Cx} {C : Addr} {p : Addr × Obj} {e : Expr} {te : TE} {pos : Pos} {n : Str} (hp : p ∈ X.pn) (hcls : p.2.cls = .ref C) (hf : ∃ vs, p.2.data = .fields vs) (T : XfC X.K C) (hno : PySem.W.findIn X.K (.ref C) n = some none)
    (he : PE X e te) (hb : attributeBase e n X.env (eval e X.env) = eval e X.env := by rfl) : PE X (.Attribute e n pos) (tXfE p C n te) := by
  refine ⟨fun pins s σ H Q I h => attr_of hb (thn (he.run pins s σ H _ I h) fun u s1 hh => ?_)⟩
  obtain ⟨x, H1, I1, rx, rfl, dd, fs, v, ed, ea, l, q⟩ := hh
  obtain rfl : u = Value.ref p.1 := rx
  obtain ⟨at1, _⟩ := I1.pin p (List.mem_append_left _ hp)
  obtain ⟨ws, hd⟩ := hf
  obtain ⟨mA, hns, hr⟩ : ObjOk X.prog X.w H1 s1.heap dd (.xd fs) := I1.hok dd _ ea
  obtain ⟨od, ho, hl⟩ := lookIn_ns hns
  obtain ⟨u, hu, ru⟩ := RelO.some_of (v := v) (o := mA n) (by rw [← l]; exact hr n)
  have inst : PySem.W.InstAt s1.heap p.1 p.2 C (some od) := ⟨at1, hcls, by unfold PySem.W.notCls; rw [hd] <;> rfl, by rw [ed]; exact ho⟩
  exact HandSPX.exc_get I1.kIn inst T.ga T.gg T.exC (PySem.W.findObj_own T.hdC hno rfl (by rw [hl, hu])) (handed_of ru) ⟨v, H1, I1.tok _, ru, q⟩

/-! ### lists of written texts -/
def strsOf : List Expr → Option (List Str)
  | [] => some []
  | .Constant (.str x) _ _ :: es => (strsOf es).map (x :: ·)
  | _ => none
theorem pa_strs {X : Cx} : ∀ {es : List Expr} {ws : List Str}, strsOf es = some ws → PA X es (fun _ H Q => Q (ws.map V.str) H)
  | [], ws, h => by
    cases (show some [] = some ws from h)
    exact pa_nil
  | e :: es, ws, h => by
    cases e with
    | Constant c j pos =>
      cases c with
      | str x =>
        cases q : strsOf es with
        | none =>
          have z : (strsOf es).map (x :: ·) = some ws := h
          rw [q] at z; cases z
        | some w2 =>
          have z : (strsOf es).map (x :: ·) = some ws := h
          rw [q] at z
          cases (show some (x :: w2) = some ws from z)
          have t := pa_strs (X := X) q
          exact ⟨fun p pins s σ H Q I hq => (pa_cons (pe_str (x := x) (j := j) (pos := pos)) t).run p pins s σ H Q I hq⟩
      | _ => cases h
    | _ => cases h
theorem inV_strs (c : Str) : ∀ ws : List Str, inV (.str c) (ws.map V.str) = decide (c ∈ ws)
  | [] => rfl
  | w :: ws => by
    have ih := inV_strs c ws
    have e : inV (.str c) ((w :: ws).map V.str) = (eqV (.str w) (.str c) || inV (.str c) (ws.map V.str)) := rfl
    rw [e, ih]
    have e2 : eqV (.str w) (.str c) = (w == c) := rfl
    rw [e2]
    by_cases h : c = w
    · subst h; simp
    · have h' : ¬ w = c := fun z => h z.symm
      simp [h, h']
theorem flat_strs : ∀ ws : List Str, (ws.map V.str).all flatV = true
  | [] => rfl
  | _ :: ws => flat_strs ws

/-! ### the law's reader of an error's field -/
def fLim : List Str := ["SizeExceeded", "DigitsExceeded", "NestingTooDeep", "TermTooLarge", "LimitReached", "InvalidLimit"]
def fNam : List Str := ["InvalidName", "DuplicateName", "NameInUse", "CircularName", "UnknownName"]
def fPos : List Str := ["InvalidText", "InvalidCommand"]
def fMod : List Str := ["InvalidModulus", "SharedDivisor"]
def fMan : List Str := ["InvalidChoice", "InvalidCount"]
def fieldNm (c : Str) : Option Str :=
  if c ∈ fLim then some "limit" else if c ∈ fNam then some "name" else if c ∈ fPos then some "position" else if c ∈ fMod then some "modulus" else if c ∈ fMan then some "many"
  else if c = "InvalidExponent" then some "exponent" else if c = "InvalidRoad" then some "road" else if c = "InvalidOrder" then some "order" else if c = "InvalidPlace" then some "place" else if c = "InvalidSnapshot" then some "line" else none
def allF : List Str := ["code", "limit", "name", "position", "modulus", "many", "exponent", "road", "order", "place", "line"]
/-- what an own exception class must have for the law to read its instances -/
structure XRd (K : PySem.W.Frag) (C : Addr) : Prop where
  xf : XfC K C
  no : ∀ f ∈ allF, PySem.W.findIn K (.ref C) f = some none
def spField (K : PySem.W.Frag) : SpE := fun p vs H Q _ => ∃ (C dd : Addr) (fs : List (Str × V)) (c : Str) (r : V), vs = [.ref p.1] ∧ p.2.cls = .ref C ∧ p.2.dict = some dd ∧ (∃ ws, p.2.data = .fields ws) ∧ XRd K C ∧ H dd = some (.xd fs) ∧ fs.lookup ("code" : Str) = some (V.str c) ∧
  (match fieldNm c with | none => r = V.non | some f => fs.lookup f = some r) ∧ ∀ H', Same H H' → Q r H'
section
variable {K : PySem.W.Frag} {C dd : Addr} {p : Addr × Obj} {fs : List (Str × V)} {c : Str} {σ : St} {H : Hp}
/-- if e.code in [..]: return e.f -/
theorem field_in {f : Str} {ws : List Str} {D : L2.Ends} (hv : σ[0]? = some (some (.ref p.1))) (hd : p.2.dict = some dd) (hx : H dd = some (.xd fs)) (hc : fs.lookup ("code" : Str) = some (V.str c)) (hz : ws.length ≤ 1000)
    (h1 : c ∈ ws → ∃ v, fs.lookup f = some v ∧ ∀ H', Same H H' → D.rt v H') (h2 : c ∉ ws → ∀ H', Same H H' → D.nx σ H') :
    tIfS (tTest (tOp (rIn K false) (tXfE p C "code" (tVar 0)) (tLst fun _ H Q => Q (ws.map V.str) H))) (tRet (tXfE p C f (tVar 0))) tNext D σ H := by
  refine ⟨_, hv, rfl, dd, fs, _, hd, hx, hc, by rw [List.length_map, sizeLine_eq]; omega, fun q hq => ⟨q, ws.map V.str, rfl, .inl (SqL.of upd_same), rfl, flat_strs ws, _, rfl, ?_⟩⟩
  have same : Same H (upd H q (.lst (ws.map V.str))) := fun b o e => by
    rw [upd_ne (ne_of_none e hq)]
    exact e
  show if inV (.str c) (ws.map V.str) = true then _ else _
  rw [inV_strs]
  by_cases m : c ∈ ws
  · rw [if_pos (decide_eq_true m)]
    obtain ⟨v, e1, e2⟩ := h1 m
    exact ⟨_, hv, rfl, dd, fs, v, hd, same _ _ hx, e1, e2 _ same⟩
  · rw [if_neg (by rw [decide_eq_false m]; exact Bool.false_ne_true)]
    exact h2 m _ same
/-- if e.code == '..': return e.f -/
theorem field_eq {f w : Str} {D : L2.Ends} (hv : σ[0]? = some (some (.ref p.1))) (hd : p.2.dict = some dd) (hx : H dd = some (.xd fs)) (hc : fs.lookup ("code" : Str) = some (V.str c))
    (h1 : c = w → ∃ v, fs.lookup f = some v ∧ D.rt v H) (h2 : c ≠ w → D.nx σ H) :
    tIfS (tTest (tOp rEq (tXfE p C "code" (tVar 0)) (tC (.str w)))) (tRet (tXfE p C f (tVar 0))) tNext D σ H := by
  refine ⟨_, hv, rfl, dd, fs, _, hd, hx, hc, rfl, _, rfl, ?_⟩
  show if decide (V.str c = V.str w) = true then _ else _
  by_cases m : c = w
  · rw [if_pos (decide_eq_true (congrArg V.str m))]
    obtain ⟨v, e1, e2⟩ := h1 m
    exact ⟨_, hv, rfl, dd, fs, v, hd, hx, e1, e2⟩
  · rw [if_neg (by rw [decide_eq_false (fun z => m (V.str.inj z))]; exact Bool.false_ne_true)]
    exact h2 m
end
abbrev tIn (K : PySem.W.Frag) (p : Addr × Obj) (C : Addr) (ws : List Str) (f : Str) : TS := tIfS (tTest (tOp (rIn K false) (tXfE p C "code" (tVar 0)) (tLst fun _ H Q => Q (ws.map V.str) H))) (tRet (tXfE p C f (tVar 0))) tNext
abbrev tEqF (p : Addr × Obj) (C : Addr) (w f : Str) : TS := tIfS (tTest (tOp rEq (tXfE p C "code" (tVar 0)) (tC (.str w)))) (tRet (tXfE p C f (tVar 0))) tNext
theorem ps_fin' {X : Cx} {C : Addr} {p : Addr × Obj} {es : List Expr} {ws : List Str} {f x : Str} {p1 p2 p3 p4 p5 p6 p7 p9 : Pos} (hp : p ∈ X.pn) (hcls : p.2.cls = .ref C) (hf : ∃ vs, p.2.data = .fields vs) (T : XRd X.K C) (hm : f ∈ allF) (hw : strsOf es = some ws)
    (he : ∀ pos, PE X (.Name x pos) (tVar 0)) :
    PS X (.If (.Compare (.Attribute (.Name x p1) "code" p2) [.In] [.List es p3] p4) [.Return (some (.Attribute (.Name x p5) f p6)) p7] [] p9) (tIn X.K p C ws f) :=
  ps_if (pt_cmpR op_in_seq (pe_xfE hp hcls hf T.xf (T.no _ (by decide +kernel)) (he _)) (pe_lst (pa_strs hw)) rfl) (pss_one (ps_ret (pe_xfE hp hcls hf T.xf (T.no _ hm) (he _)))) pss_nil
theorem ps_feq' {X : Cx} {C : Addr} {p : Addr × Obj} {w f x : Str} {j} {p1 p2 p3 p4 p5 p6 p7 p9 : Pos} (hp : p ∈ X.pn) (hcls : p.2.cls = .ref C) (hf : ∃ vs, p.2.data = .fields vs) (T : XRd X.K C) (hm : f ∈ allF)
    (he : ∀ pos, PE X (.Name x pos) (tVar 0)) :
    PS X (.If (.Compare (.Attribute (.Name x p1) "code" p2) [.Eq] [.Constant (.str w) j p3] p4) [.Return (some (.Attribute (.Name x p5) f p6)) p7] [] p9) (tEqF p C w f) :=
  ps_if (pt_cmpR op_eq (pe_xfE hp hcls hf T.xf (T.no _ (by decide +kernel)) (he _)) pe_str (nomark _)) (pss_one (ps_ret (pe_xfE hp hcls hf T.xf (T.no _ hm) (he _)))) pss_nil

/-- the whole of the reader -/
def t_field (K : PySem.W.Frag) (p : Addr × Obj) (C : Addr) : TS :=
  tSeq (tIn K p C fLim "limit") (tSeq (tIn K p C fNam "name") (tSeq (tIn K p C fPos "position") (tSeq (tIn K p C fMod "modulus") (tSeq (tIn K p C fMan "many")
  (tSeq (tEqF p C "InvalidExponent" "exponent") (tSeq (tEqF p C "InvalidRoad" "road") (tSeq (tEqF p C "InvalidOrder" "order") (tSeq (tEqF p C "InvalidPlace" "place")
  (tRet (tIf (tTest (tOp rEq (tXfE p C "code" (tVar 0)) (tC (.str "InvalidSnapshot")))) (tXfE p C "line" (tVar 0)) (tC .non)))))))))))
theorem t_field_ok {K : PySem.W.Frag} {p : Addr × Obj} {C dd : Addr} {fs : List (Str × V)} {c : Str} {r : V} {H : Hp} {σ : St} {Q : VK} {n : St → Hp → Prop} (hv : σ[0]? = some (some (.ref p.1))) (hd : p.2.dict = some dd) (hx : H dd = some (.xd fs)) (hc : fs.lookup ("code" : Str) = some (V.str c))
    (hr : match fieldNm c with | none => r = V.non | some f => fs.lookup f = some r) (q : ∀ H', Same H H' → Q r H') : t_field K p C { nx := n, rt := Q } σ H := by
  unfold fieldNm at hr
  refine field_in hv hd hx hc (by decide) (fun m => ?_) fun m1 H1 s1 => ?_
  · rw [if_pos m] at hr; exact ⟨r, hr, q⟩
  rw [if_neg m1] at hr
  refine field_in hv hd (s1 _ _ hx) hc (by decide) (fun m => ?_) fun m2 H2 s2 => ?_
  · rw [if_pos m] at hr; exact ⟨r, hr, fun H' s => q _ (s1.trans s)⟩
  rw [if_neg m2] at hr
  have s12 := s1.trans s2
  refine field_in hv hd (s12 _ _ hx) hc (by decide) (fun m => ?_) fun m3 H3 s3 => ?_
  · rw [if_pos m] at hr; exact ⟨r, hr, fun H' s => q _ (s12.trans s)⟩
  rw [if_neg m3] at hr
  have s13 := s12.trans s3
  refine field_in hv hd (s13 _ _ hx) hc (by decide) (fun m => ?_) fun m4 H4 s4 => ?_
  · rw [if_pos m] at hr; exact ⟨r, hr, fun H' s => q _ (s13.trans s)⟩
  rw [if_neg m4] at hr
  have s14 := s13.trans s4
  refine field_in hv hd (s14 _ _ hx) hc (by decide) (fun m => ?_) fun m5 H5 s5 => ?_
  · rw [if_pos m] at hr; exact ⟨r, hr, fun H' s => q _ (s14.trans s)⟩
  rw [if_neg m5] at hr
  have s15 := s14.trans s5
  have hx5 := s15 _ _ hx
  have q5 := q _ s15
  refine field_eq hv hd hx5 hc (fun m => ?_) fun m6 => ?_
  · rw [if_pos m] at hr; exact ⟨r, hr, q5⟩
  rw [if_neg m6] at hr
  refine field_eq hv hd hx5 hc (fun m => ?_) fun m7 => ?_
  · rw [if_pos m] at hr; exact ⟨r, hr, q5⟩
  rw [if_neg m7] at hr
  refine field_eq hv hd hx5 hc (fun m => ?_) fun m8 => ?_
  · rw [if_pos m] at hr; exact ⟨r, hr, q5⟩
  rw [if_neg m8] at hr
  refine field_eq hv hd hx5 hc (fun m => ?_) fun m9 => ?_
  · rw [if_pos m] at hr; exact ⟨r, hr, q5⟩
  rw [if_neg m9] at hr
  refine ⟨_, hv, rfl, dd, fs, _, hd, hx5, hc, rfl, _, rfl, ?_⟩
  show if decide (V.str c = V.str "InvalidSnapshot") = true then _ else _
  by_cases m : c = "InvalidSnapshot"
  · rw [if_pos m] at hr
    rw [if_pos (decide_eq_true (congrArg V.str m))]
    exact ⟨_, hv, rfl, dd, fs, r, hd, hx5, hr, q5⟩
  · rw [if_neg m] at hr
    have hr : r = V.non := hr
    rw [if_neg (by rw [decide_eq_false (fun z => m (V.str.inj z))]; exact Bool.false_ne_true)]
    rw [hr] at q5
    exact q5
end LX

set_option Elab.async false
set_option linter.all false
set_option maxRecDepth 100000
set_option maxHeartbeats 4000000
namespace LX
open PySem PySem.Spec L2
open PyProof.Rows hiding St

/-! ### try with several clauses «except x as n», one name n (slot i) in all of them -/
abbrev Suite := Addr × Obj → Value → Option Addr → TS
def wAsL (K : PySem.W.Frag) (i : Nat) (Wout : WX) (D : L2.Ends) : List (Value × (Addr → Value → Option Addr → TS)) → WX
  | [] => Wout
  | (c, ts) :: r => fun cls d σ H => ∃ b, PySem.W.exmOne K cls c = some b ∧
      (b = true → ∀ a, H a = none → ts a cls d { nx := fun σ' H' => D.nx (σ'.set i none) H', rt := D.rt, bk := fun σ' H' => D.bk (σ'.set i none) H', ct := fun σ' H' => D.ct (σ'.set i none) H' } (σ.set i (some (.ref a))) H) ∧
      (b = false → wAsL K i Wout D r cls d σ H)
inductive HdsAs (X : Cx) (n : Str) : List ExceptHandler → List (Value × (Addr → Value → Option Addr → TS)) → Prop
  | nil : HdsAs X n [] []
  | cons {x : Str} {c : Value} {ts : Addr → Value → Option Addr → TS} {b₀ : Stmt} {suite : List Stmt} {np pos' : Pos} {hds : List ExceptHandler} {l : List (Value × (Addr → Value → Option Addr → TS))} (name : Names X x c)
      (body : ∀ (a : Addr) (oe : Obj) (cls : Value) (d : Option Addr) (pn : List (Addr × Obj)), Zc cls d oe → (∃ vs, oe.data = .fields vs) → PSs (X.suite a ((a, oe) :: pn)) (b₀ :: suite) (ts a cls d)) (more : HdsAs X n hds l) :
      HdsAs X n (.ExceptHandler (some (.Name x np)) (some n) (b₀ :: suite) pos' :: hds) ((c, ts) :: l)
section
variable {X : Cx} {n : Str} {i : Nat} {body : List Stmt} {h₀ : ExceptHandler} {hds : List ExceptHandler} {l : List (Value × (Addr → Value → Option Addr → TS))} {pos : Pos} {tb : WX → TS} {Wout : WX}
theorem ps_try_asL (hs : X.stack = X.env :: X.outer) (hf : X.env.frame = some X.env.locals) (hN : X.N.Nodup) (hi : X.N[i]? = some n) (hln : X.env.kindOf n = some .local) (tk : Takes X Wout)
    (hb : ∀ (W : WX) (pn : List (Addr × Obj)) (xe : Value → Shared → Prop), Takes (X.tr pn xe) W → PassesOwn (model X.prog X.w) X.A X.env xe → PSs (X.tr pn xe) body (tb W))
    (hh : HdsAs X n (h₀ :: hds) l) : PS X (.Try body (h₀ :: hds) [] [] pos) (fun D σ H => tb (wAsL X.K i Wout D l) D σ H) := by
  refine ⟨fun pins s σ H D I h => wpAny_Try_except ?_⟩
  have ok := I.ok
  have fr1 : X.A.frames = some (X.env :: X.outer) := by rw [ok.frames, hs]
  let caught : Value → Shared → Prop := fun e s₁ => wpAny (model X.prog X.w) X.A (noteFrame e X.env) (fun _ s₂ => wpAny (model X.prog X.w) X.A (setFlight e none) (fun _ s₃ => wpAny (model X.prog X.w) X.A (handleBy e X.env (h₀ :: hds)) (SP X pins D) X.xe s₃) X.xe s₂) X.xe s₁
  have key : Takes (X.tr (X.pn ++ pins) caught) (wAsL X.K i Wout D l) := by
    rintro u s' ⟨a, G, sI, pins', σ', H', cls, d, rfl, J', nb, up, sky, na, os, ag, wish⟩
    have J : Inv X pins σ' H' sI := J'.ofTry ok
    have sky1 : Sky G (X.env :: X.outer) a (Zc cls d) X.env.locals s'.heap := by rw [← hs]; exact sky
    refine Sky.land Zc.steady fr1 hf sky1 fun h3 fly up3 => ?_
    have J3 : Inv X pins σ' H' { s' with heap := h3 } := J.landed nb fly.1 (up.trans up3) os ag
    obtain ⟨o3, f3, g3, z3, d3⟩ := fly.there
    have out : a ∉ frs (X.env :: X.outer) := fun m => by
      obtain ⟨_, o', g', nf⟩ := fly.2.2.1.mem m
      rw [g3] at g'; cases g'
      exact nf _ d3
    have nL : a ≠ X.env.locals := fun z => out (List.mem_filterMap.mpr ⟨X.env, List.mem_cons_self, by rw [hf, z]⟩)
    have nF : a ∉ X.fs := fun m => by
      obtain ⟨e, he, q⟩ := List.mem_filterMap.mp m
      exact out (List.mem_filterMap.mpr ⟨e, List.mem_cons_of_mem _ he, q⟩)
    have S3 := J3.suite g3 d3 na nL nF
    suffices go : ∀ {hl : List ExceptHandler} {wl : List (Value × (Addr → Value → Option Addr → TS))}, HdsAs X n hl wl → wAsL X.K i Wout D wl cls d σ' H' → wpAny (model X.prog X.w) X.A (handleBy (.ref a) X.env hl) (SP X pins D) X.xe { s' with heap := h3 } from go hh wish
    intro hl wl hk
    induction hk with
    | nil =>
      intro w
      obtain ⟨k1, k2, k3, oe, vs, T, oT, ts', he, hz, hd, h1, hr⟩ := id fly
      have last : wpAny (model X.prog X.w) X.A (setFlight (.ref a) X.env.frame) (fun _ s4 => wpAny (model X.prog X.w) X.A (throw (.ref a) : Sem Flow) (SP X pins D) X.xe s4) X.xe { s' with heap := h3 } := by
        rw [hf]
        exact HandSPX.setFlight_upZ fly fun h4 held up4 => wpAny_throw (tk _ _ ⟨a, G, sI, pins, σ', H', cls, d, rfl, J, nb, (up.trans up3).trans up4, .inr (.inr (by rw [hs]; exact held)), na, os, ag, w⟩)
      refine wpAny_handleBy_nil ?_
      unfold PySem.passOn
      refine wpAny_bind (wpAny_field he hd h1 ?_)
      rw [if_neg (by simp)]
      first
        | exact wpAny_bind (wpAny_pure (wpAny_bind last))
        | exact wpAny_bind last
    | @cons x c ts b1 suite np pos' hl2 wl2 name sb more ih =>
      rintro ⟨b, hb1, hyes, hno⟩
      refine wpAny_handleBy_cons (codeAny_handlers_test ?_) fun q => by cases q
      have tyA : PySem.W.Looks (model X.prog X.w) h3 (typeOf (.ref a)) cls := fun A Q E s k q => wpAny_typeOf_ref (k _ _ g3) (by rw [z3.1]; exact q)
      have answer := PySem.W.exm_one (M := model X.prog X.w) J3.kIn tyA hb1
      have ask : ∀ {Q E : Value → Shared → Prop}, Q c { s' with heap := h3 } → wpAny (model X.prog X.w) (X.A.mark (some (.ref a))) (eval (.Name x np) X.env) Q E { s' with heap := h3 } := fun {Q E} q => by
        obtain ⟨hg, hdbg, hm | ⟨hm, hv, hnn⟩⟩ := name
        · exact ld_glob (X := X.suite a ((a, o3) :: (X.pn ++ pins))) S3 hg hm q hdbg
        · exact ld_blt (X := X.suite a ((a, o3) :: (X.pn ++ pins))) S3 hg hm hv q hnn hdbg
      refine ask (answer.here ?_)
      cases b with
      | false =>
        show wpAny _ X.A (handleBy (.ref a) X.env hl2) _ _ _
        exact ih (hno rfl)
      | true =>
        refine codeAny_handlers_suite_as (HandSPX.lands_againZ fly fun h4 fly4 up4 => ?_)
        have J4 : Inv X pins σ' H' { s' with heap := h4 } := J.landed nb fly4.1 ((up.trans up3).trans up4) os ag
        obtain ⟨o4, f4, g4, z4, d4⟩ := fly4.there
        refine store_ok (X := X.suite a ((a, o4) :: (X.pn ++ pins))) (v := .ref a) (J4.suite g4 d4 na nL nF) hN hi (.inl hln) rfl (fun s5 S5 => ?_) (.inr hln)
        refine wpAny_mono ((sb a o4 cls d (X.pn ++ pins) z4 ⟨_, d4⟩).run [] s5 _ H' _ S5 (hyes rfl a na)) (fun f s6 hsp => ?_) fun _ _ z => False.elim z
        have gone : ∀ {σ6 : St} {H6 : Hp} {Q : Shared → Prop}, Inv (X.suite a ((a, o4) :: (X.pn ++ pins))) [] σ6 H6 s6 → (∀ s7, Inv X pins (σ6.set i none) H6 s7 → Q s7) →
            wpAny (model X.prog X.w) X.A (do bindName X.env n .none; unbindBehindTheSuite X.env n pos') (fun _ s7 => Q s7) X.xe s6 := fun S6 hq => gone_ok (S6.unsuite ok) hN hi hln hq
        cases f with
        | ret u =>
          obtain ⟨v6, σ6, H6, S6, r6, q6⟩ := hsp
          exact gone S6 fun s7 J7 => ⟨_, _, _, J7, r6, q6⟩
        | _ =>
          obtain ⟨σ6, H6, S6, q6⟩ := hsp
          exact gone S6 fun s7 J7 => ⟨_, _, J7, q6⟩
  refine wpAny_mono ((hb _ (X.pn ++ pins) caught key PassesOwn.looking).run [] s σ H D (I.toTry _) h) (fun f s1 hsp => ?_) fun e s1 he => he
  cases f with
  | next =>
    obtain ⟨σ', H', J', q⟩ := hsp
    exact wpAny_execs_nil ⟨σ', H', J'.ofTry ok, q⟩
  | ret u =>
    obtain ⟨v, σ', H', J', r, q⟩ := hsp
    exact ⟨v, σ', H', J'.ofTry ok, r, q⟩
  | _ =>
    obtain ⟨σ', H', J', q⟩ := hsp
    exact ⟨σ', H', J'.ofTry ok, q⟩
end
end LX

set_option Elab.async false
set_option linter.all false
set_option maxRecDepth 100000
set_option maxHeartbeats 4000000
namespace LX
open PySem PySem.Spec L2 LamX
open PyProof.Rows hiding St

/-! ### the law's try -/
def Catch (K : PySem.W.Frag) (CB CM C : Addr) : Prop := PySem.W.exmOne K (.ref C) (.ref CB) = some true ∨ (PySem.W.exmOne K (.ref C) (.ref CB) = some false ∧ PySem.W.exmOne K (.ref C) (.ref CM) = some true)
def Etry (K : PySem.W.Frag) (CB CM : Addr) (Q : VK) : XK := fun cls d H' => ∃ (C dd : Addr) (fs : List (Str × V)) (c : Str) (r : V), cls = .ref C ∧ d = some dd ∧ XRd K C ∧ H' dd = some (.xd fs) ∧ fs.lookup ("code" : Str) = some (.str c) ∧
  (match fieldNm c with | none => r = V.non | some f => fs.lookup f = some r) ∧ Catch K CB CM C ∧ ∀ H2 p, Same H' H2 → H2 p = none → Q (.ref p) (upd H2 p (.tup [.str c, r]))
def TTtry (K : PySem.W.Frag) (CB CM : Addr) : (XK → Hp → VK → Prop) → Hp → VK → Prop := fun tl H Q => tl (Etry K CB CM Q) H fun v H' => [V.str "value", v].length ≤ sizeLine ∧ ∀ p, H' p = none → Q (.ref p) (upd H' p (.tup [.str "value", v]))
/-- what the except suites do with the exception at a -/
def tSuite (K : PySem.W.Frag) : Addr → Value → Option Addr → TS := fun a cls d D σ H => (∃ σ0 : L2.St, σ = σ0.set 1 (some (.ref a))) ∧ ∃ (C dd : Addr) (fs : List (Str × V)) (c : Str) (r : V), cls = .ref C ∧ d = some dd ∧ XRd K C ∧ H dd = some (.xd fs) ∧ fs.lookup ("code" : Str) = some (.str c) ∧
  (match fieldNm c with | none => r = V.non | some f => fs.lookup f = some r) ∧ ∀ H2 p, Same H H2 → H2 p = none → D.rt (.ref p) (upd H2 p (.tup [.str c, r]))
theorem suite_ok {X : Cx} {sg : Scope} {j : Nat} {ff : Addr} {fdF : FuncData} {a : Addr} {oe : Obj} {cls : Value} {d : Option Addr} {p1 p2 p3 p4 p5 p6 p7 : Pos} {kt}
    (hN : X.N = [("_law_ask" : Str), ("_law_e" : Str)]) (hs : X.env.scope = sg) (hgF : sg.names.lookup ("_law_field" : Str) = some .globalImplicit) (hl : sg.names.lookup ("_law_e" : Str) = some .local) (hmF : X.mg "_law_field" = some (.ref ff)) (hkF : PySem.W.keepIn X.K (.ref ff) = true)
    (hbF : Binds X.K fdF ["_law_e"] []) (F : FnE (wd X) j ff fdF ["_law_e"] (spField X.K)) (hr : L2H.RoomH j X.A) (hp : (a, oe) ∈ X.pn) (hz : Zc cls d oe) (hf : ∃ vs, oe.data = .fields vs) :
    PSs X [.Return (some (.Tuple [.Attribute (.Name "_law_e" p1) "code" p2, .Call (.Name "_law_field" p3) [.Name "_law_e" p4] [] p5] kt p6)) p7] (tSuite X.K a cls d) := by
  refine ⟨fun pins s σ H D I h => ?_⟩
  obtain ⟨⟨σ0, eσ⟩, C, dd, fs, c, r, rfl, rfl, T, hx, hc, hr2, q⟩ := h
  have hv : σ[1]? = some (some (.ref a)) := by
    have l := I.len
    rw [hN, eσ, List.length_set] at l
    rw [eσ]
    exact List.getElem?_set_self (by rw [l]; exact (by decide : (1 : Nat) < 2))
  have pv : ∀ {pos : Pos}, PE X (.Name "_law_e" pos) (tVar 1) := pe_var (by rw [hN]; rfl) (by rw [hs]; exact .inl hl)
  have e1 : PE X (.Attribute (.Name "_law_e" p1) "code" p2) (tXfE (a, oe) C "code" (tVar 1)) := pe_xfE hp hz.1 hf T.xf (T.no _ (by decide +kernel)) pv
  have e2 := pe_callE (x := "_law_field") (q := p3) (pos := p5) F hr hp (by show X.env.scope.names.lookup _ = _; rw [hs]; exact hgF) hmF hkF hbF (pa_cons (pv (pos := p4)) pa_nil)
  refine (pss_one (ps_ret (pos := p7) (pe_tup (pos := p6) (x1 := kt) (pa_cons e1 (pa_cons e2 pa_nil))))).run pins s σ H D I ?_
  refine ⟨_, hv, rfl, dd, fs, _, hz.2, hx, hc, _, hv, ?_⟩
  refine ⟨C, dd, fs, c, r, rfl, hz.1, hz.2, hf, T, hx, hc, hr2, fun H' s' => ⟨Nat.le_trans (show [V.str c, r].length ≤ 2 from Nat.le_refl 2) (by decide +kernel), fun p hp => ?_⟩⟩
  exact q _ _ s' hp
theorem try_gives {X : Cx} {q : Str} {sg : Scope} {g CB CM ff : Addr} {cdg : Value} {fdF : FuncData} {j : Nat} {kt k2 k3} {jj} {p1 p2 p3 p4 p5 p6 p7 p8 p9 p10 p11 p12 p13 p14 p15 p16 p17 p18 p19 p20 p21 p22 p23 p24 : Pos}
    (hgB : sg.names.lookup ("BagError" : Str) = some .globalImplicit) (hgM : sg.names.lookup ("Missing" : Str) = some .globalImplicit) (hgF : sg.names.lookup ("_law_field" : Str) = some .globalImplicit) (hl : sg.names.lookup ("_law_e" : Str) = some .local)
    (hmB : X.mg "BagError" = some (.ref CB)) (hmM : X.mg "Missing" = some (.ref CM)) (hmF : X.mg "_law_field" = some (.ref ff)) (hkF : PySem.W.keepIn X.K (.ref ff) = true) (hbF : Binds X.K fdF ["_law_e"] []) (F : FnE (wd X) j ff fdF ["_law_e"] (spField X.K)) (hr : Room (j + 1) X.A) :
    GivesTo X ["_law_ask", "_law_e"] "_law_try" sg g cdg
      [.Try [.Return (some (.Tuple [.Constant (.str "value") jj p1, .Call (.Name "_law_ask" p2) [] [] p3] kt p4)) p5]
        [.ExceptHandler (some (.Name "BagError" p6)) (some "_law_e") [.Return (some (.Tuple [.Attribute (.Name "_law_e" p7) "code" p8, .Call (.Name "_law_field" p9) [.Name "_law_e" p10] [] p11] k2 p12)) p13] p14,
         .ExceptHandler (some (.Name "Missing" p15)) (some "_law_e") [.Return (some (.Tuple [.Attribute (.Name "_law_e" p16) "code" p17, .Call (.Name "_law_field" p18) [.Name "_law_e" p19] [] p20] k3 p21)) p22] p23] [] [] p24] "_law_ask" q (TTtry X.K CB CM) := by
  intro f c' s H Q tl act hc h
  have room : L2H.RoomH j (X.A.deeper (envOfC "_law_try" sg s.heap.objs.size g cdg)) := L2H.roomH_of (hr.deeper _)
  have hd := HdsAs.cons (X := (cxOf C8.CX0 X.prog X.w X.K X.mg X.base ["_law_ask", "_law_e"] "_law_try" sg g cdg X.A X.stack s H C8.E0).nox) (n := "_law_e") (x := "BagError") (c := .ref CB) (np := p6) (pos' := p14) (ts := tSuite X.K) ⟨hgB, by decide, .inl hmB⟩
    (fun a oe cls d pn hz hf => suite_ok (X := ((cxOf C8.CX0 X.prog X.w X.K X.mg X.base ["_law_ask", "_law_e"] "_law_try" sg g cdg X.A X.stack s H C8.E0).nox).suite a ((a, oe) :: pn)) (p1 := p7) (p2 := p8) (p3 := p9) (p4 := p10) (p5 := p11) (p6 := p12) (p7 := p13) (kt := k2) rfl rfl hgF hl hmF hkF hbF F ⟨room.dp, room.un⟩ List.mem_cons_self hz hf)
    (HdsAs.cons (x := "Missing") (c := .ref CM) (np := p15) (pos' := p23) (ts := tSuite X.K) ⟨hgM, by decide, .inl hmM⟩
    (fun a oe cls d pn hz hf => suite_ok (X := ((cxOf C8.CX0 X.prog X.w X.K X.mg X.base ["_law_ask", "_law_e"] "_law_try" sg g cdg X.A X.stack s H C8.E0).nox).suite a ((a, oe) :: pn)) (p1 := p16) (p2 := p17) (p3 := p18) (p4 := p19) (p5 := p20) (p6 := p21) (p7 := p22) (kt := k3) rfl rfl hgF hl hmF hkF hbF F ⟨room.dp, room.un⟩ List.mem_cons_self hz hf) .nil)
  refine ⟨_, pss_one (ps_try_asL (i := 1) (pos := p24) (Wout := fun _ _ _ _ => False)
    (tb := fun W D σ H => ∃ Ech : XK, (∀ cls d σ' H', Ech cls d H' → W cls d σ' H') ∧ σ[0]? = some (some (.ref f)) ∧ H c' = some (CodeO c' q) ∧ tl Ech H fun v H' => [V.str "value", v].length ≤ sizeLine ∧ ∀ p, H' p = none → D.rt (.ref p) (upd H' p (.tup [.str "value", v])))
    rfl rfl (show [("_law_ask" : Str), "_law_e"].Nodup by decide) rfl (by show (envOfC _ _ _ _ _).kindOf _ = _; exact hl) L2.takes0 (fun W pn xe tk _ => ?_) hd), ?_⟩
  · refine ⟨fun pins s' σ H' D I h' => ?_⟩
    obtain ⟨Ech, hW, h1, h2, h3⟩ := h'
    have hp := act W pn xe Ech p2 p3 tk hW
    have hq := pss_one (ps_ret (pos := p5) (pe_tup (pos := p4) (x1 := kt) (pa_cons (pe_str (x := "value") (j := jj) (pos := p1)) (pa_cons hp pa_nil))))
    refine hq.run pins s' σ H' D I ?_
    exact ⟨h1, h2, h3⟩
  · refine ⟨Etry X.K CB CM Q, fun cls d σ' H' hE => ?_, rfl, hc, h⟩
    obtain ⟨C, dd, fs, c, r, rfl, rfl, T, hx, hcd, hr2, hca, q⟩ := hE
    have yes : ∀ (D : L2.Ends), D.rt = Q → ∀ a, H' a = none → tSuite X.K a (.ref C) (some dd) D (σ'.set 1 (some (.ref a))) H' := fun D eD a _ => ⟨⟨σ', rfl⟩, C, dd, fs, c, r, rfl, rfl, T, hx, hcd, hr2, by rw [eD]; exact q⟩
    rcases hca with h1 | ⟨h1, h2⟩
    · exact ⟨true, h1, (fun _ a ha => yes _ rfl a ha), (fun z => by cases z)⟩
    · exact ⟨false, h1, (fun z => by cases z), fun _ => ⟨true, h2, (fun _ a ha => yes _ rfl a ha), (fun z => by cases z)⟩⟩

theorem gives_of {W : Wd} {sg : Scope} {g CB CM ff : Addr} {fdF : FuncData} {j jF : Nat} {kt k2 k3} {jj} {p1 p2 p3 p4 p5 p6 p7 p8 p9 p10 p11 p12 p13 p14 p15 p16 p17 p18 p19 p20 p21 p22 p23 p24 : Pos}
    (hgB : sg.names.lookup ("BagError" : Str) = some .globalImplicit) (hgM : sg.names.lookup ("Missing" : Str) = some .globalImplicit) (hgF : sg.names.lookup ("_law_field" : Str) = some .globalImplicit) (hl : sg.names.lookup ("_law_e" : Str) = some .local)
    (hmB : W.mg "BagError" = some (.ref CB)) (hmM : W.mg "Missing" = some (.ref CM)) (hmF : W.mg "_law_field" = some (.ref ff)) (hkF : PySem.W.keepIn W.K (.ref ff) = true) (hbF : Binds W.K fdF ["_law_e"] []) (F : FnE W jF ff fdF ["_law_e"] (spField W.K)) (hj : jF ≤ j) :
    ∀ (X : Cx) (q : Str) (cdg : Value), wd X = W → Room (j + 2) X.A → GivesTo X ["_law_ask", "_law_e"] "_law_try" sg g cdg
      [.Try [.Return (some (.Tuple [.Constant (.str "value") jj p1, .Call (.Name "_law_ask" p2) [] [] p3] kt p4)) p5]
        [.ExceptHandler (some (.Name "BagError" p6)) (some "_law_e") [.Return (some (.Tuple [.Attribute (.Name "_law_e" p7) "code" p8, .Call (.Name "_law_field" p9) [.Name "_law_e" p10] [] p11] k2 p12)) p13] p14,
         .ExceptHandler (some (.Name "Missing" p15)) (some "_law_e") [.Return (some (.Tuple [.Attribute (.Name "_law_e" p16) "code" p17, .Call (.Name "_law_field" p18) [.Name "_law_e" p19] [] p20] k3 p21)) p22] p23] [] [] p24] "_law_ask" q (TTtry X.K CB CM) := by
  intro X q cdg hX hr
  subst hX
  exact try_gives hgB hgM hgF hl hmB hmM hmF hkF hbF F (hr.mono (by omega))

/-! ### the tables of lambdas -/
def TabsIn (T : List (Addr × Str)) (μ : Mem) : Prop := (∀ p ∈ T, μ p.1 = some (.tbl p.2)) ∧ ∀ a q, μ a = some (.tbl q) → (a, q) ∈ T
theorem TabsIn.put {T : List (Addr × Str)} {μ : Mem} (t : TabsIn T μ) {p : Addr} {c : Cell} (h : ∀ q, μ p ≠ some (.tbl q)) (hc : ∀ q, c ≠ .tbl q) : TabsIn T (μ.put p c) := by
  refine ⟨fun z hz => ?_, fun a q e => ?_⟩
  · have n : z.1 ≠ p := fun e => h z.2 (by rw [← e]; exact t.1 z hz)
    rw [Mem.put_ne n]
    exact t.1 z hz
  · by_cases n : a = p
    · subst n
      rw [Mem.put_same] at e
      cases e
      exact absurd rfl (hc q)
    · rw [Mem.put_ne n] at e
      exact t.2 a q e
theorem tabs_of {K : PySem.W.Frag} {H : Hp} {μ : Mem} {T : List (Addr × Str)} (M : Mdl K H μ) (t : TabsIn T μ) : Tabs T H := fun p hp => by
  obtain ⟨ps, h1, h2, h3⟩ := M p.1 _ (t.1 p hp)
  exact ⟨ps, h1, h2, fun pos cv e => let ⟨c, e1, e2⟩ := h3 pos cv e; ⟨c, e1, (hide_of e2).1⟩⟩
/-- what is tracked stays good when tables grow -/
theorem Good.grow {K : PySem.W.Frag} {B H H1 : Hp} {μ : Mem} {σ : L2.St} {ρ : LEnv} {T : List (Addr × Str)} (G : Good K B H μ σ ρ) (t : TabsIn T μ) (e : ExtN H H1) (t1 : Tabs T H1) : Same (hide H μ) (hide H1 μ) ∧ Good K B H1 μ σ ρ := by
  have s : Same (hide H μ) (hide H1 μ) := fun b o h => by
    obtain ⟨h1, h2, h3⟩ := hide_of3 h
    exact hide_at h2 (e b o h1 h3) h3
  refine ⟨s, G.same.trans s, G.env.mono s, fun a c h => ?_⟩
  have q := G.mdl a c h
  cases c with
  | tbl q' =>
    obtain ⟨ps, h1, h2, h3⟩ := t1 _ (t.2 a q' h)
    refine ⟨ps, h1, h2, fun pos cv z => ?_⟩
    obtain ⟨c, e1, e2⟩ := h3 pos cv z
    refine ⟨c, e1, hide_at ?_ e2 (fun ps => codeO_ne ps)⟩
    cases hm : μ c with
    | none => rfl
    | some cell =>
      exfalso
      have q2 := G.mdl c cell hm
      cases cell with
      | lst ds =>
        obtain ⟨xs, g1, _⟩ := q2
        have g2 := e _ _ g1 (fun ps z => by cases z)
        rw [show H1 c = _ from e2] at g2
        exact absurd g2 (by unfold CodeO; intro z; cases z)
      | ins C ns ds =>
        obtain ⟨dx, vs, g1, _⟩ := q2
        have g2 := e _ _ g1 (fun ps z => by cases z)
        rw [show H1 c = _ from e2] at g2
        exact absurd g2 (by unfold CodeO; intro z; cases z)
      | dK ks ds =>
        obtain ⟨vs, g1, _⟩ := q2
        have g2 := e _ _ g1 (fun ps z => by cases z)
        rw [show H1 c = _ from e2] at g2
        exact absurd g2 (by unfold CodeO; intro z; cases z)
      | tbl q3 =>
        obtain ⟨ps', g1, _⟩ := t1 _ (t.2 c q3 hm)
        rw [show H1 c = _ from e2] at g1
        exact absurd g1 (by unfold CodeO; intro z; cases z)
  | lst ds =>
    obtain ⟨xs, h1, h2⟩ := q
    exact ⟨xs, e _ _ h1 (fun ps z => by cases z), RepL.mono s _ h2⟩
  | ins C ns ds =>
    obtain ⟨dx, vs, h1, h2, h3⟩ := q
    exact ⟨dx, vs, e _ _ h1 (fun ps z => by cases z), h2, RepL.mono s _ h3⟩
  | dK ks ds =>
    obtain ⟨vs, h1, h2, h3⟩ := q
    exact ⟨vs, e _ _ h1 (fun ps z => by cases z), h2, RepL.mono s _ h3⟩

/-! ### _law_try(lambda: body), by data -/
def xFld (x : Exc) (f : Str) : Option D := (x.ns.zip x.ds).lookup f
theorem fld_rep {K : PySem.W.Frag} {G : Hp} {f : Str} {d : D} : ∀ {ns : List Str} {ds : List D} {vs : List V}, RepL K G ds vs → (ns.zip ds).lookup f = some d → ∃ v, (ns.zip vs).lookup f = some v ∧ Rep K G d v
  | [], _, _, _, h => by simp at h
  | n :: ns, [], _, r, h => by simp at h
  | n :: ns, d' :: ds, _, r, h => by
    obtain ⟨v, vs, rfl, r1, r2⟩ := r
    rw [List.zip_cons_cons, List.lookup_cons] at h ⊢
    cases e : f == n with
    | true => rw [e] at h; cases h; exact ⟨v, rfl, r1⟩
    | false => rw [e] at h; exact fld_rep r2 h
/-- what the law's try makes of an exception -/
def TryX (K : PySem.W.Frag) (CB CM : Addr) (Q : D → Mem → Prop) : Exc → Mem → Prop := fun x μ => ∃ (c : Str) (r : D), XRd K x.C ∧ Catch K CB CM x.C ∧ xFld x "code" = some (.str c) ∧ (match fieldNm c with | none => r = D.non | some f => xFld x f = some r) ∧ Q (.tup [.str c, r]) μ
/-- the def _law_try of this program -/
structure TryD (W : Wd) (j : Nat) (g : Addr) (sg : Scope) (bg : List Stmt) (CB CM : Addr) : Prop where
  gm : W.mg "_law_try" = some (.ref g)
  kp : PySem.W.keepIn W.K (.ref g) = true
  S : FnScope ["_law_ask", "_law_e"] ["_law_ask"] sg
  vis : Vis sg "_law_ask"
  fn : ∃ (oc : Value) (od : Option Addr) (pg : Arguments) (dV kV doc pm : Value) (an : Option Addr) (cdv ct : Value) (osl : Array (Option Value)), W.K.lookup g = some ⟨oc, od, .func (PySem.W.fnOf "_law_try" "_law_try" pg bg sg dV kV doc pm an cdv ct), osl⟩ ∧
    PySem.W.codeIn W.K cdv "_law_try" = true ∧ Binds W.K (PySem.W.fnOf "_law_try" "_law_try" pg bg sg dV kV doc pm an cdv ct) ["_law_ask"] []
  gives : ∀ (X : Cx) (q : Str) (cdg : Value), wd X = W → Room (j + 2) X.A → GivesTo X ["_law_ask", "_law_e"] "_law_try" sg g cdg bg "_law_ask" q (TTtry X.K CB CM)
section
variable {X : Cx} {B : Hp} {ρ : LEnv} {μ : Mem} {N : List Str} {sc : Scope} {k : Nat} {EX : Exc → LEnv → Mem → Prop} {Q : D → Mem → Prop}
theorem ew_try {T : List (Addr × Str)} {j : Nat} {g c P : Addr} {sg scope : Scope} {bg : List Stmt} {CB CM : Addr} {params : Arguments} {body : Expr} {p lpos pos : Pos} (h0 : Ok X N sc k B EX) (D1 : TryD (wd X) j g sg bg CB CM)
    (TB : TabB X.base X.mg c P) (hcode : X.env.code = .ref c) (hT : TabsIn T μ) (hmT : (P, X.env.qual ++ "<lambda>") ∈ T) (hj : j + 2 ≤ k) (L : LamS sc scope)
    (h : ∀ (X' : Cx) (B' : Hp), wd X' = wd X → Ok X' N scope j B' (fun x _ μ' => TryX X.K CB CM Q x μ') → EW X' B' body ρ μ fun d μ' => Q (.tup [.str "value", d]) μ')
    (hg : sc.names.lookup ("_law_try" : Str) = some .globalImplicit := by rfl) (hdef : defaultsOf params X.env = ([], []) := by rfl)
    (hbind : ∀ (q : Str) (cl : List (Str × Addr)) (pm cv ctv : Value), bindArgs (PySem.W.kla_fn "<lambda>" q params body scope cl pm cv ctv) ⟨[], []⟩ = pure [] := by intros; rfl) :
    EW X B (.Call (.Name "_law_try" p) [.Lambda params body scope lpos] [] pos) ρ μ Q := fun σ H G => by
  obtain ⟨oc, od, pg, dV, kV, doc, pm, an, cdv, ct, osl, e1, e2, e3⟩ := D1.fn
  have hL : LamS X.env.scope scope := by rw [h0.hs]; exact L
  have hu : ∀ p ∈ T, p.1 = P → p.2 = X.env.qual ++ "<lambda>" := fun p hp e => by
    have m1 := hT.1 p hp
    have m2 := hT.1 _ hmT
    rw [e, m2] at m1
    exact (Cell.tbl.inj (Option.some.inj m1)).symm
  refine tE_of (pe_lamcall (T := T) (k := j) (t := fun E σ H Q => ∀ (A : Around) (outer : List Env) (s : Shared) (H0 : Hp) (f c' : Addr), Room j (A.deeper (lamEnv X scope s.heap.objs.size f c')) → tE (lamCx X A outer s H0 E scope f c') body σ H Q) (by show X.env.scope.names.lookup _ = _; rw [h0.hs]; exact hg) D1.gm D1.kp e1 e2 e3 D1.S rfl D1.vis (D1.gives X _ cdv rfl (h0.room.mono hj)) TB hcode hmT hu (h0.room.mono hj) hL hdef hbind (fun A outer s H E f c' hr => ⟨fun pins s' σ H' Q I h => h A outer s H f c' hr pins s' I⟩)) ?_
  refine ⟨tabs_of G.mdl hT, fun H1 eN T1 A outer s H0 f c' hr => ?_⟩
  obtain ⟨s1, G1⟩ := G.grow hT eN T1
  have G1' : Good X.K (hide H1 μ) H1 μ σ ρ := ⟨Same.refl _, G1.env, G1.mdl⟩
  have close : ∀ {H' H2 : Hp} {μ' : Mem} {p : Addr} {x y : V} {d e : D}, Same (hide H1 μ) (hide H' μ') → Mdl X.K H' μ' → Same H' H2 → H2 p = none → Rep X.K (hide H' μ') d x → Rep X.K (hide H' μ') e y → Q (.tup [d, e]) μ' → EQ X B (hide H μ) σ ρ Q (.ref p) (upd H2 p (.tup [x, y])) := fun {H' H2 μ' p x y d e} a M s2 hp r1 r2 q => by
    have s3 : Same (hide H' μ') (hide H2 μ') := fun b o h => by
      obtain ⟨h1, h2, h3⟩ := hide_of3 h
      exact hide_at h2 (s2 _ _ h1) h3
    have M2 : Mdl X.K H2 μ' := fun a c h => by
      have z := M a c h
      obtain ⟨o, ho⟩ := z.some
      exact z.mono s3 (by rw [ho]; exact s2 _ _ ho)
    have G2 : Good X.K B H2 μ' σ ρ := ⟨(G1.same.trans a).trans s3, (G1.env.mono a).mono s3, M2⟩
    have e' := hide_laid (H := H2) (μ := μ') (o := .tup [x, y]) hp (M2.free hp)
    refine ⟨.tup [d, e], μ', ((s1.trans a).trans s3).trans e', G2.laid hp, ⟨p, [x, y], rfl, SqT.of ?_, x, [y], rfl, Rep.mono (s3.trans e') _ r1, y, [], rfl, Rep.mono (s3.trans e') _ r2, rfl⟩, q⟩
    exact hide_at (M2.free hp) upd_same fun ps z => by cases z
  have ok : Ok (lamCx X A outer s H0 (Etry X.K CB CM (EQ X B (hide H μ) σ ρ Q)) scope f c') N scope j (hide H1 μ) (fun x _ μ' => TryX X.K CB CM Q x μ') := {
    hN := h0.hN
    hs := rfl
    nd := h0.nd
    room := hr
    calm := rfl
    tk := by
      refine Takes.imp (W := fun cls d _ H9 => Etry X.K CB CM (EQ X B (hide H μ) σ ρ Q) cls d H9) (L2.takes_of (X := lamCx X A outer s H0 (Etry X.K CB CM (EQ X B (hide H μ) σ ρ Q)) scope f c') (E := Etry X.K CB CM (EQ X B (hide H μ) σ ρ Q)) rfl rfl rfl rfl) fun cls d σ' H' ⟨x, ρ', μ', G2, ⟨ec, dd, vs, ed, hx, hl, r⟩, cd, rr, T2, hca, hc, hf, q⟩ => ?_
      obtain ⟨w, l1, l2⟩ := fld_rep r hc
      cases (show w = V.str cd from l2)
      have hx' := (hide_of hx).1
      cases ef : fieldNm cd with
      | none =>
        rw [ef] at hf
        have hf : rr = D.non := hf
        subst hf
        refine ⟨x.C, dd, _, cd, .non, ec, ed, T2, hx', l1, by rw [ef], hca, fun H2 p s2 hp => close (d := .str cd) (e := .non) G2.same G2.mdl s2 hp rfl rfl q⟩
      | some f' =>
        rw [ef] at hf
        obtain ⟨w2, l3, l4⟩ := fld_rep r hf
        refine ⟨x.C, dd, _, cd, w2, ec, ed, T2, hx', l1, by rw [ef]; exact l3, hca, fun H2 p s2 hp => close (d := .str cd) G2.same G2.mdl s2 hp rfl l4 q⟩
    own := passes_of rfl }
  refine tE_mono (h (lamCx X A outer s H0 (Etry X.K CB CM (EQ X B (hide H μ) σ ρ Q)) scope f c') (hide H1 μ) rfl ok σ H1 G1') fun v H' ⟨d, μ', s2, G2, r, q⟩ => ⟨Nat.le_trans (show [V.str "value", v].length ≤ 2 from Nat.le_refl 2) (by decide +kernel), fun p hp => ?_⟩
  exact close (d := .str "value") s2 G2.mdl (Same.refl _) hp rfl r q
end
end LX

set_option Elab.async false
set_option linter.all false
set_option maxRecDepth 100000
set_option maxHeartbeats 4000000
namespace LX
open PySem PySem.Spec L2 LamX
open PyProof.Rows hiding St

/-! ### facts of exception classes, by kernel -/
def oexB (K : PySem.W.Frag) (C : Addr) : Bool := (match K.lookup C with
  | some ⟨.type "type", _, .cls cd, sl⟩ => (match cd.mro, sl.toList with
    | .ref C' :: bm, [_, _, _, _, some (.builtin n), _] => decide (C' = C) && (decide (n = "ValueError.__new__") && (!cd.hasDel && (cd.hasDict && PySem.HandSPX.refsVE bm)))
    | _, _ => false)
  | _ => false) && (decide (PySem.W.findIn K (.ref C) "__setattr__" = some (some (.builtin "object.__setattr__"))) && (decide (PySem.W.subIn K (.ref C) (.type "BaseException") = some true) && (decide (PySem.W.typeIn K (.ref C) = some (.type "type")) && PySem.W.keepIn K (.ref C))))
theorem oexB_ok {K : PySem.W.Frag} {C : Addr} (h : oexB K C = true) : OexC K C := by
  obtain ⟨h1, h⟩ := Bool.and_eq_true_iff.mp h
  obtain ⟨h2, h⟩ := Bool.and_eq_true_iff.mp h
  obtain ⟨h3, h⟩ := Bool.and_eq_true_iff.mp h
  obtain ⟨h4, h5⟩ := Bool.and_eq_true_iff.mp h
  refine ⟨?_, of_decide_eq_true h2, of_decide_eq_true h3, of_decide_eq_true h4, h5⟩
  split at h1
  · rename_i dd cd sl ho
    split at h1
    · rename_i C' bm k0 k1 k2 k3 n k5 hm hs
      obtain ⟨e1, q⟩ := Bool.and_eq_true_iff.mp h1
      obtain ⟨e2, q⟩ := Bool.and_eq_true_iff.mp q
      obtain ⟨e3, q⟩ := Bool.and_eq_true_iff.mp q
      obtain ⟨e4, e5⟩ := Bool.and_eq_true_iff.mp q
      have e1 := of_decide_eq_true e1
      have e2 := of_decide_eq_true e2
      obtain ⟨l⟩ := sl
      obtain ⟨nm, bs, mro, N, q', hd, sn, sub, ab, col, del⟩ := cd
      dsimp only at hm hs e3 e4
      subst hm hs e1 e2
      cases del with
      | true => cases e3
      | false =>
        cases hd with
        | false => cases e4
        | true => exact ⟨nm, q', N, bs, bm, sn, sub, ab, col, dd, k0, k1, k2, k3, k5, ho, e5⟩
    · cases h1
  · cases h1
def xrdB (K : PySem.W.Frag) (C : Addr) : Bool := xfB K C && allF.all fun f => decide (PySem.W.findIn K (.ref C) f = some none)
theorem xrdB_ok {K : PySem.W.Frag} {C : Addr} (h : xrdB K C = true) : XRd K C := by
  obtain ⟨h1, h2⟩ := Bool.and_eq_true_iff.mp h
  exact ⟨xfB_ok h1, fun f hf => of_decide_eq_true (List.all_eq_true.mp h2 f hf)⟩
def catB (K : PySem.W.Frag) (CB CM C : Addr) : Bool := decide (PySem.W.exmOne K (.ref C) (.ref CB) = some true) || (decide (PySem.W.exmOne K (.ref C) (.ref CB) = some false) && decide (PySem.W.exmOne K (.ref C) (.ref CM) = some true))
theorem catB_ok {K : PySem.W.Frag} {CB CM C : Addr} (h : catB K CB CM C = true) : Catch K CB CM C := by
  rcases Bool.or_eq_true_iff.mp h with h | h
  · exact .inl (of_decide_eq_true h)
  · obtain ⟨h1, h2⟩ := Bool.and_eq_true_iff.mp h
    exact .inr ⟨of_decide_eq_true h1, of_decide_eq_true h2⟩
def valB (K : PySem.W.Frag) (c mc : Value) (f : Str) (u : Value) : Bool := match PySem.W.findCls K c mc f with
  | some (.val v) => decide (v = u)
  | _ => false
theorem valB_ok {K : PySem.W.Frag} {c mc : Value} {f : Str} {u : Value} (h : valB K c mc f u = true) : PySem.W.findCls K c mc f = some (.val u) := by
  unfold valB at h
  split at h
  · rename_i v e
    rw [e, of_decide_eq_true h]
  · cases h
/-- ValueError.__init__ is read as it stands; so is BagError.__init__ -/
def baseB (K : PySem.W.Frag) : Bool := valB K (.type "ValueError") (.type "type") "__init__" (.builtin "ValueError.__init__") &&
  (PySem.W.readsIn K (He.ga K "BagError") (.type "type") && (decide (PySem.W.specialIn K (.ref (He.ga K "BagError")) "__getattribute__" = some (some (.builtin "type.__getattribute__"))) && valB K (.ref (He.ga K "BagError")) (.type "type") "__init__" (.ref (He.ma K (He.ga K "BagError") "__init__"))))
structure BaseF (K : PySem.W.Frag) (CB fB : Addr) : Prop where
  ve : PySem.W.findCls K (.type "ValueError") (.type "type") "__init__" = some (.val (.builtin "ValueError.__init__"))
  rd : ClX.CRead K CB (.type "type")
  va : ClX.CVal K CB (.type "type") "__init__" (.ref fB) (.ref fB)
theorem baseB_ok {K : PySem.W.Frag} (h : baseB K = true) : BaseF K (He.ga K "BagError") (He.ma K (He.ga K "BagError") "__init__") := by
  obtain ⟨h1, h⟩ := Bool.and_eq_true_iff.mp h
  obtain ⟨h2, h⟩ := Bool.and_eq_true_iff.mp h
  obtain ⟨h3, h4⟩ := Bool.and_eq_true_iff.mp h
  exact ⟨valB_ok h1, ⟨h2, of_decide_eq_true h3⟩, ⟨valB_ok h4, rfl⟩⟩
/-- an own error's class: raised, read by the law -/
def errB (K : PySem.W.Frag) (x : Str) : Bool := oexB K (He.ga K x) && (xrdB K (He.ga K x) && (catB K (He.ga K "BagError") (He.ga K "Missing") (He.ga K x) && (decide (PySem.W.findIn K (.ref (He.ga K x)) "__init__" = some (some (.ref (He.ma K (He.ga K x) "__init__")))) &&
  decide (PySem.W.typeIn K (.ref (He.ma K (He.ga K x) "__init__")) = some (.type "function")))))
structure ErrF (K : PySem.W.Frag) (CB CM C fI : Addr) : Prop where
  oex : OexC K C
  xrd : XRd K C
  cat : Catch K CB CM C
  ini : PySem.W.findIn K (.ref C) "__init__" = some (some (.ref fI))
  fn : PySem.W.typeIn K (.ref fI) = some (.type "function")
theorem errB_ok {K : PySem.W.Frag} {x : Str} (h : errB K x = true) : ErrF K (He.ga K "BagError") (He.ga K "Missing") (He.ga K x) (He.ma K (He.ga K x) "__init__") := by
  obtain ⟨h1, h⟩ := Bool.and_eq_true_iff.mp h
  obtain ⟨h2, h⟩ := Bool.and_eq_true_iff.mp h
  obtain ⟨h3, h⟩ := Bool.and_eq_true_iff.mp h
  obtain ⟨h4, h5⟩ := Bool.and_eq_true_iff.mp h
  exact ⟨oexB_ok h1, xrdB_ok h2, catB_ok h3, of_decide_eq_true h4, of_decide_eq_true h5⟩

/-! ### their __init__s -/
section
variable {W : Wd} {f CB fB : Addr} {fd fdB : FuncData} {qual : Str} {params : Arguments} {sc : Scope} {kk : Nat} {p1 p2 p3 p4 p5 p6 p7 p8 p9 p10 : Pos}
def initCall (x : Str) (a b : Expr) (p1 p2 p5 : Pos) : Expr := .Call (.Attribute (.Name x p1) "__init__" p2) [a, b] [] p5
/-- x.__init__(a, b) is the call of what it reads -/
def InitForm (x : Str) (a b : Expr) (p1 p2 p5 : Pos) : Prop := ∀ env : Env, ∃ pl : Sem Bool, eval (.Call (.Attribute (.Name x p1) "__init__" p2) [a, b] [] p5) env = (do
      let ov ← eval (.Name x p1) env
      standAt p2.atName
      let (f, first) ← holding [ov] (getMethod ov "__init__" pl)
      callWith p5 f first (backTo p5 (starEach [a, b] env)) (backToKw p5 (keywordEach [] env)))
theorem exd_code {H : Hp} {a d C : Addr} {f : Str} {c : Str} {y : V} (hne : d ≠ a) : upd (upd (upd H d (exd d (fCode c))) a (exo a C (some d))) d (exd d ((f, y) :: fCode c)) = upd (upd H d (exd d ((f, y) :: fCode c))) a (exo a C (some d)) := by
  funext b
  by_cases h : b = d
  · rw [h, upd_same, upd_ne hne, upd_same]
  · rw [upd_ne h]
    by_cases h2 : b = a
    · rw [h2, upd_same, upd_same]
    · rw [upd_ne h2, upd_ne h, upd_ne h2, upd_ne h]
theorem ok_base (F : FunD W.K "__init__" qual params [.Expr (.Call (.Attribute (.Name "ValueError" p1) "__init__" p2) [.Name "self" p3, .Name "code" p4] [] p5) p6, .Assign [.Attribute (.Name "self" p7) "code" p8] (.Name "code" p9) p10] sc [] [] f fd)
    (S : FnScope ["self", "code"] ["self", "code"] sc) (hv0 : Vis sc "self") (hv1 : Vis sc "code") (hg : sc.names.lookup ("ValueError" : Str) = some .globalImplicit) (gm : W.mg "ValueError" = none) (vV : PySem.W.findCls W.K (.type "ValueError") (.type "type") "__init__" = some (.val (.builtin "ValueError.__init__")))
    (hc : InitForm "ValueError" (.Name "self" p3) (.Name "code" p4) p1 p2 p5) : FnOk W.P W.w W.K W.mg W.base (L2.CX W.P W.w) 1 f fd ["self", "code"] (spB W.K) := by
  refine F.ok S (fun vs H Q E ⟨a, C, c, e, _⟩ => by rw [e]; rfl) fun cdv A outer s H vs Q E hr ⟨a, C, c, e, T, hno, ha, q⟩ => ?_
  subst e
  obtain ⟨pl, hpl⟩ := hc (cxOf (L2.CX W.P W.w) W.P W.w W.K W.mg W.base ["self", "code"] qual sc f cdv A outer s H E).env
  have pv0 : ∀ {pos : Pos}, PE (cxOf (L2.CX W.P W.w) W.P W.w W.K W.mg W.base ["self", "code"] qual sc f cdv A outer s H E) (.Name "self" pos) (tVar 0) := pe_var rfl hv0
  have pv1 : ∀ {pos : Pos}, PE (cxOf (L2.CX W.P W.w) W.P W.w W.K W.mg W.base ["self", "code"] qual sc f cdv A outer s H E) (.Name "code" pos) (tVar 1) := pe_var rfl hv1
  refine ⟨_, pss_cons (ps_expr (pe_veinit (pl := pl) hg gm vV (pa_cons pv0 (pa_cons pv1 pa_nil)) hpl)) (pss_one (ps_ost pv0 pv1)), ?_⟩
  refine ⟨_, rfl, _, rfl, a, C, [.str c], rfl, by simp, T, ha, ?_⟩
  refine ⟨_, rfl, _, rfl, a, C, rfl, T, hno, .inl ⟨ha, fun dx n ne => ?_⟩⟩
  exact q dx n ne
theorem ok_err0 {c : Str} {C : Addr} {j} (F : FunD W.K "__init__" qual params [.Expr (.Call (.Attribute (.Name "BagError" p1) "__init__" p2) [.Name "self" p3, .Constant (.str c) j p4] [] p5) p6] sc [] [] f fd)
    (S : FnScope ["self"] ["self"] sc) (hv0 : Vis sc "self") (hg : sc.names.lookup ("BagError" : Str) = some .globalImplicit) (gm : W.mg "BagError" = some (.ref CB)) (BF : BaseF W.K CB fB) (hk : PySem.W.keepIn W.K (.ref fB) = true) (FB : FnOk W.P W.w W.K W.mg W.base (L2.CX W.P W.w) 1 fB fdB ["self", "code"] (spB W.K)) (hb : Binds W.K fdB ["self", "code"] [])
    (T : OexC W.K C) (hno : PySem.W.findIn W.K (.ref C) "code" = some none) (hc : InitForm "BagError" (.Name "self" p3) (.Constant (.str c) j p4) p1 p2 p5) : FnOk W.P W.w W.K W.mg W.base (L2.CX W.P W.w) 2 f fd ["self"] (spX C ["code"] c) := by
  refine F.ok S (fun vs H Q E ⟨a, ws, e, hl, _⟩ => by rw [e]; exact hl) fun cdv A outer s H vs Q E hr ⟨a, ws, e, hl, ha, q⟩ => ?_
  subst e
  cases ws with
  | cons _ _ => simp at hl
  | nil =>
    obtain ⟨pl, hpl⟩ := hc (cxOf (L2.CX W.P W.w) W.P W.w W.K W.mg W.base ["self"] qual sc f cdv A outer s H E).env
    have pv0 : ∀ {pos : Pos}, PE (cxOf (L2.CX W.P W.w) W.P W.w W.K W.mg W.base ["self"] qual sc f cdv A outer s H E) (.Name "self" pos) (tVar 0) := pe_var rfl hv0
    refine ⟨_, pss_one (ps_expr (pe_clsinit (pl := pl) hg gm BF.rd BF.va hk FB hr hb passL (pa_cons pv0 (pa_cons pe_str pa_nil)) hpl)), ?_⟩
    refine ⟨_, rfl, ?_⟩
    exact ⟨a, C, c, rfl, T, hno, ha, fun d n ne => q d n ne⟩
theorem ok_err1 {c n : Str} {C : Addr} {j} (F : FunD W.K "__init__" qual params [.Expr (.Call (.Attribute (.Name "BagError" p1) "__init__" p2) [.Name "self" p3, .Constant (.str c) j p4] [] p5) p6, .Assign [.Attribute (.Name "self" p7) n p8] (.Name n p9) p10] sc [] [] f fd)
    (S : FnScope ["self", n] ["self", n] sc) (hv0 : Vis sc "self") (hv1 : Vis sc n) (hd1 : (n == ("__debug__" : Str)) = false) (hd2 : (n == ("__classdict__" : Str)) = false) (hg : sc.names.lookup ("BagError" : Str) = some .globalImplicit) (gm : W.mg "BagError" = some (.ref CB)) (BF : BaseF W.K CB fB) (hk : PySem.W.keepIn W.K (.ref fB) = true) (FB : FnOk W.P W.w W.K W.mg W.base (L2.CX W.P W.w) 1 fB fdB ["self", "code"] (spB W.K)) (hb : Binds W.K fdB ["self", "code"] [])
    (T : OexC W.K C) (hno : PySem.W.findIn W.K (.ref C) "code" = some none) (hno1 : PySem.W.findIn W.K (.ref C) n = some none) (hc : InitForm "BagError" (.Name "self" p3) (.Constant (.str c) j p4) p1 p2 p5) : FnOk W.P W.w W.K W.mg W.base (L2.CX W.P W.w) 2 f fd ["self", n] (spX C [n, "code"] c) := by
  refine F.ok S (fun vs H Q E ⟨a, ws, e, hl, _⟩ => by rw [e]; exact hl) fun cdv A outer s H vs Q E hr ⟨a, ws, e, hl, ha, q⟩ => ?_
  subst e
  match ws, hl with
  | [y], _ =>
    obtain ⟨pl, hpl⟩ := hc (cxOf (L2.CX W.P W.w) W.P W.w W.K W.mg W.base ["self", n] qual sc f cdv A outer s H E).env
    have pv0 : ∀ {pos : Pos}, PE (cxOf (L2.CX W.P W.w) W.P W.w W.K W.mg W.base ["self", n] qual sc f cdv A outer s H E) (.Name "self" pos) (tVar 0) := pe_var rfl hv0
    have pv1 : ∀ {pos : Pos}, PE (cxOf (L2.CX W.P W.w) W.P W.w W.K W.mg W.base ["self", n] qual sc f cdv A outer s H E) (.Name n pos) (tVar 1) := pe_var rfl hv1 hd1 hd2
    refine ⟨_, pss_cons (ps_expr (pe_clsinit (pl := pl) hg gm BF.rd BF.va hk FB hr hb passL (pa_cons pv0 (pa_cons pe_str pa_nil)) hpl)) (pss_one (ps_ost pv0 pv1)), ?_⟩
    refine ⟨_, rfl, ?_⟩
    refine ⟨a, C, c, rfl, T, hno, ha, fun d nn ne => ?_⟩
    refine ⟨_, rfl, _, rfl, a, C, rfl, T, hno1, .inr ⟨d, fCode c, upd_same, ?_, (by show 1 ≤ 900; omega), ?_⟩⟩
    · rw [upd_ne ne, upd_same]
    · show Q .non _
      rw [exd_code ne]
      exact q d nn ne
end
end LX

set_option Elab.async false
set_option linter.all false
set_option maxRecDepth 100000
set_option maxHeartbeats 4000000
namespace LX
open PySem PySem.Spec L2 LamX
open PyProof.Rows hiding St

/-! ### the head's Hook: defs, facts, tables, with the statics -/
structure HeadF (fa : List He.Fa) (fn : List He.DefD) (tf : List He.Defn) (ex : PySem.W.Frag → Bool) (h : Heap) (K : PySem.W.Frag) : Prop where
  inn : K.In h
  d : He.SaysD fa fn K
  more : ex K = true
  tab : ∀ p ∈ tf, PySem.W.codeHdIn K (He.cT K p).1 (He.cT K p).2 = true ∧ K.lookup (He.cT K p).2 = none ∧ h.get? (He.cT K p).2 = some { cls := .none, data := .fields #[] }
def KofG (n : Nat) (g : Addr → Option Obj) : PySem.W.Frag := He.frT g (cStatics :: He.asD g n)
def obsL (n : Nat) (fa : List He.Fa) (fn : List He.DefD) (tf : List He.Defn) (ex : PySem.W.Frag → Bool) (g : Addr → Option Obj) : He.AlD × Bool := (He.obsD fa fn (KofG n g), ex (KofG n g) && He.tabsB g tf (KofG n g))
theorem headF_of {n : Nat} {fa : List He.Fa} {fn : List He.DefD} {tf : List He.Defn} {ex : PySem.W.Frag → Bool} {h : Heap} (e : obsL n fa fn tf ex h.get? = (He.valD fn, true)) : HeadF fa fn tf ex h (KofG n h.get?) := by
  have e2 := congrArg Prod.snd e
  refine ⟨He.frT_in, congrArg Prod.fst e, (Bool.and_eq_true_iff.mp e2).1, fun p hp => ?_⟩
  have t := Bool.and_eq_true_iff.mp (List.all_eq_true.mp (Bool.and_eq_true_iff.mp e2).2 p hp)
  have t2 := t.2
  split at t2
  · rename_i o q
    exact ⟨t.1, He.frT_none q t2, q.trans (congrArg some (He.emptyTab_eq t2))⟩
  · cases t2
def hookL (n : Nat) (fa : List He.Fa) (fn : List He.DefD) (tf : List He.Defn) (ex : PySem.W.Frag → Bool) : PySem.W.Hook where
  α := He.AlD × Bool
  obs := fun s => obsL n fa fn tf ex s.heap.get?
  val := fun _ => (He.valD fn, true)
  says := fun _ h => ∃ K : PySem.W.Frag, HeadF fa fn tf ex h K
  of := fun _ _ e => ⟨_, headF_of e⟩
  keeps := fun _ _ _ ⟨K, c⟩ k => ⟨K, PySem.W.Frag.In.keeps c.inn k, c.d, c.more, fun p hp => ⟨(c.tab p hp).1, (c.tab p hp).2.1, k _ _ (c.tab p hp).2.2⟩⟩
theorem obsL_eq {n : Nat} {fa : List He.Fa} {fn : List He.DefD} {tf : List He.Defn} {ex : PySem.W.Frag → Bool} {s : PySem.W.SharedT} : obsL n fa fn tf ex (HandSHeadRun.getT s) = (hookL n fa fn tf ex).obs s.abs := by
  have e : HandSHeadRun.getT s = s.abs.heap.get? := funext (HandSHeadRun.getT_eq s)
  rw [e] <;> rfl
end LX

set_option Elab.async false
set_option linter.all false
set_option maxRecDepth 100000
set_option maxHeartbeats 4000000
namespace LX
open PySem PySem.Spec L2
open PyProof.Rows hiding St

/-! ### slots that a block owns -/
def wipeD (ρ : LEnv) : List Nat → LEnv
  | [] => ρ
  | v :: vs => (wipeD ρ vs).set v none
theorem wipe_get {α : Type} {w : List (Option α) → List Nat → List (Option α)} (h0 : ∀ σ, w σ [] = σ) (h1 : ∀ σ v vs, w σ (v :: vs) = (w σ vs).set v none) (σ : List (Option α)) (j : Nat) : ∀ vs, (w σ vs)[j]? = if j ∈ vs then (σ[j]?).map (fun _ => none) else σ[j]?
  | [] => by rw [h0]; rfl
  | v :: vs => by
    have ih := wipe_get h0 h1 σ j vs
    rw [h1, List.getElem?_set]
    by_cases e : v = j
    · subst e
      rw [if_pos rfl, if_pos List.mem_cons_self]
      by_cases hl : v < (w σ vs).length
      · rw [if_pos hl]
        cases q : σ[v]? with
        | none =>
          rw [q] at ih
          have : (w σ vs)[v]? = none := by rw [ih]; split <;> rfl
          rw [List.getElem?_eq_none_iff] at this
          omega
        | some x => rfl
      · rw [if_neg hl]
        have n := List.getElem?_eq_none (l := w σ vs) (i := v) (by omega)
        rw [n] at ih
        cases q : σ[v]? with
        | none => rfl
        | some x => rw [q] at ih; split at ih <;> cases ih
    · rw [if_neg e, ih]
      by_cases m : j ∈ vs
      · rw [if_pos m, if_pos (List.mem_cons_of_mem _ m)]
      · rw [if_neg m, if_neg (by simp only [List.mem_cons, not_or]; exact ⟨fun z => e z.symm, m⟩)]
theorem wipeV_get (σ : St) (j : Nat) (vs : List Nat) : (wipe σ vs)[j]? = if j ∈ vs then (σ[j]?).map (fun _ => none) else σ[j]? := wipe_get (w := wipe) (fun _ => rfl) (fun _ _ _ => rfl) σ j vs
theorem wipeD_get (σ : LEnv) (j : Nat) (vs : List Nat) : (wipeD σ vs)[j]? = if j ∈ vs then (σ[j]?).map (fun _ => none) else σ[j]? := wipe_get (w := wipeD) (fun _ => rfl) (fun _ _ _ => rfl) σ j vs
theorem wipe_set {σ : St} {i : Nat} {x : Option V} {vs : List Nat} (h : i ∈ vs) : wipe (σ.set i x) vs = wipe σ vs := by
  refine List.ext_getElem? fun j => ?_
  rw [wipeV_get, wipeV_get]
  by_cases m : j ∈ vs
  · rw [if_pos m, if_pos m, List.getElem?_set]
    by_cases e : i = j
    · subst e
      rw [if_pos rfl]
      by_cases hl : i < σ.length
      · rw [if_pos hl, List.getElem?_eq_getElem hl]; rfl
      · rw [if_neg hl, List.getElem?_eq_none (by omega)]
    · rw [if_neg e]
  · rw [if_neg m, if_neg m, List.getElem?_set_ne (fun (e : i = j) => m (e ▸ h))]
theorem wipe_wipe {σ : St} {vs : List Nat} : wipe (wipe σ vs) vs = wipe σ vs := by
  refine List.ext_getElem? fun j => ?_
  rw [wipeV_get, wipeV_get]
  split
  · cases σ[j]? <;> rfl
  · rfl
theorem EnvR.wipe {K : PySem.W.Frag} {G : Hp} {σ : St} {ρ : LEnv} (vs : List Nat) (h : EnvR K G σ ρ) : EnvR K G (L2.wipe σ vs) (wipeD ρ vs) := fun i d q => by
  rw [wipeD_get] at q
  by_cases m : i ∈ vs
  · rw [if_pos m] at q
    cases e : ρ[i]? with
    | none => rw [e] at q; cases q
    | some x => rw [e] at q; cases q
  · rw [if_neg m] at q
    rw [wipeV_get, if_neg m]
    exact h i d q

/-! ### a block's target -/
mutual
inductive AsgT (N : List Str) (sc : Scope) (vs : List Nat) : Expr → D → LEnv → LEnv → Prop
  | name {x : Str} {i : Nat} {p : Pos} {d : D} {ρ : LEnv} (hi : N[i]? = some x) (hx : sc.names.lookup x = some .local) (hv : i ∈ vs) : AsgT N sc vs (.Name x p) d ρ (ρ.set i (some d))
  | tup {ts : List Expr} {c} {p : Pos} {ds : List D} {ρ ρ2 : LEnv} (h : AsgTs N sc vs ts ds ρ ρ2) (hn : ∀ env, (assignEach ts env).length = ds.length) (hst : ∀ env, (assignEach ts env).findIdx? (·.1) = none) : AsgT N sc vs (.Tuple ts c p) (.tup ds) ρ ρ2
inductive AsgTs (N : List Str) (sc : Scope) (vs : List Nat) : List Expr → List D → LEnv → LEnv → Prop
  | nil {ρ : LEnv} : AsgTs N sc vs [] [] ρ ρ
  | cons {t : Expr} {ts : List Expr} {d : D} {ds : List D} {ρ ρ1 ρ2 : LEnv} (h : AsgT N sc vs t d ρ ρ1) (r : AsgTs N sc vs ts ds ρ1 ρ2) (hs : ∀ env, (assignEach (t :: ts) env).map (·.2) = assign t env :: (assignEach ts env).map (·.2)) : AsgTs N sc vs (t :: ts) (d :: ds) ρ ρ2
end
section
variable {X : Cx} {B : Hp} {N : List Str} {sc : Scope} {k : Nat} {EX : Exc → LEnv → Mem → Prop} {vs : List Nat} {μ : Mem}
mutual
theorem AsgT.run (h0 : Ok X N sc k B EX) : ∀ {tg : Expr} {d : D} {ρ ρ2 : LEnv}, AsgT N sc vs tg d ρ ρ2 → ∀ σ H v, Good X.K B H μ σ ρ → Rep X.K (hide H μ) d v → tG X tg v σ H fun σ2 H2 => H2 = H ∧ wipe σ2 vs = wipe σ vs ∧ Good X.K B H μ σ2 ρ2
  | _, _, _, _, .name (i := i) hi hx hv, σ, H, v, G, r => tG_inv fun hl => by
    have hi' : i < σ.length := by rw [hl, h0.hN]; exact (List.getElem?_eq_some_iff.mp hi).1
    exact tG_of (pg_name (i := i) (by rw [h0.hN]; exact h0.nd) (by rw [h0.hN]; exact hi) (by rw [h0.hs]; exact .inl hx) (by rw [h0.hs]; exact .inr hx)) ⟨rfl, wipe_set hv, G.setEnv hi' r⟩
  | _, _, _, _, .tup h hn hst, σ, H, v, G, r => by
    obtain ⟨q, xs, rfl, r1, r2⟩ := r
    refine tG_of (pg_tup h0.calm pgsC (hn _) (hst _)) ⟨q, xs, rfl, sqT_same (fun b o e => (hide_of e).1) r1, r2.length.symm, ?_⟩
    exact AsgTs.run h0 h σ H xs G r2
theorem AsgTs.run (h0 : Ok X N sc k B EX) : ∀ {ts : List Expr} {ds : List D} {ρ ρ2 : LEnv}, AsgTs N sc vs ts ds ρ ρ2 → ∀ σ H xs, Good X.K B H μ σ ρ → RepL X.K (hide H μ) ds xs → tGs X ts xs σ H fun σ2 H2 => H2 = H ∧ wipe σ2 vs = wipe σ vs ∧ Good X.K B H μ σ2 ρ2
  | _, _, _, _, .nil, σ, H, xs, G, r => by
    rw [show xs = [] from r]
    exact tGs_of pgs_nil ⟨rfl, rfl, rfl, G⟩
  | _, _, _, _, .cons h r hs, σ, H, xs, G, rl => by
    obtain ⟨v, rs, rfl, r1, r2⟩ := rl
    refine tGs_of (pgs_cons pgC pgsC (hs _)) ⟨v, rs, rfl, tG_mono (AsgT.run h0 h σ H v G r1) fun σ1 H1 ⟨e1, w1, G1⟩ => ?_⟩
    subst e1
    exact tGs_mono (AsgTs.run h0 r σ1 _ rs G1 r2) fun σ2 H2 ⟨e2, w2, G2⟩ => ⟨e2, w2.trans w1, G2⟩
end
end

/-! ### a block's tests -/
def tIfs (X : Cx) (ifs : List Expr) : TT := fun σ H Q => ∀ pins s, Inv X pins σ H s → wpAny (model X.prog X.w) X.A (forIn ifs true fun c r => if r = true then do let ok ← isTrue c X.env (eval c X.env); pure (ForInStep.yield ok) else pure (ForInStep.yield r)) (TP X pins σ Q) X.xe s
theorem ptsC {X : Cx} {ifs : List Expr} : PTs X ifs (tIfs X ifs) := ⟨fun pins s σ H Q I h => h pins s I⟩
theorem tIfs_of {X : Cx} {e : List Expr} {t : TT} {σ : St} {H : Hp} {Q : Bool → Hp → Prop} (h : PTs X e t) (q : t σ H Q) : tIfs X e σ H Q := fun pins s I => h.run pins s σ H Q I q
theorem tIfs_mono {X : Cx} {e : List Expr} {σ : St} {H : Hp} {Q Q' : Bool → Hp → Prop} (h : tIfs X e σ H Q) (f : ∀ v H', Q v H' → Q' v H') : tIfs X e σ H Q' := fun pins s I => wpAny_mono (h pins s I) (fun u s' ⟨H', I', q⟩ => ⟨H', I', f _ H' q⟩) fun _ _ x => x
def IFW (X : Cx) (B : Hp) (ifs : List Expr) (ρ : LEnv) (μ : Mem) (Q : Bool → Mem → Prop) : Prop := ∀ σ H, Good X.K B H μ σ ρ → tIfs X ifs σ H (TQ X B (hide H μ) σ ρ Q)
theorem ifw_nil {X : Cx} {B : Hp} {ρ : LEnv} {μ : Mem} {Q : Bool → Mem → Prop} (q : Q true μ) : IFW X B [] ρ μ Q := fun σ H G => tIfs_of pts_nil ⟨μ, Same.refl _, G, q⟩
theorem ifw_one {X : Cx} {B : Hp} {c : Expr} {ρ : LEnv} {μ : Mem} {Q : Bool → Mem → Prop} (h : TW X B c ρ μ Q) : IFW X B [c] ρ μ Q := fun σ H G => tIfs_of (pts_one ptC) (h σ H G)

/-! ### [elt for tg in iter if ..] -/
structure BlkX (X : Cx) (N : List Str) (sc scope : Scope) (k : Nat) (B : Hp) (X' : Cx) : Prop where
  w : wd X' = wd X
  ok : Ok X' N (relS scope sc) k B (fun _ _ _ => False)
section
variable {X : Cx} {B : Hp} {ρ : LEnv} {μ : Mem} {N : List Str} {sc : Scope} {k : Nat} {EX : Exc → LEnv → Mem → Prop}
theorem blk_ok {scope : Scope} {s : Shared} {H0 : Hp} {C : Addr} {cl : List (Str × Addr)} {fp : List Addr} (h0 : Ok X N sc k B EX) : BlkX X N sc scope k B (X.blk s H0 scope (compEnvC scope cl C X.env) fp) where
  w := rfl
  ok := {
    hN := h0.hN
    hs := by show relS scope X.env.scope = _; rw [h0.hs]
    nd := h0.nd
    room := h0.room
    calm := h0.calm
    tk := fun u s' x => by
      obtain ⟨_, _, _, _, _, _, _, _, _, _, _, _, _, _, _, _, _, _, _, _, _, z⟩ := x
      exact z
    own := fun _ _ z => z.elim }
def gB (X : Cx) (scope : Scope) (tg : Expr) : TG := fun x σ0 H Q => ∀ (s : Shared) (H0 : Hp) (C : Addr) (cl : List (Str × Addr)) (fp : List Addr), tG (X.blk s H0 scope (compEnvC scope cl C X.env) fp) tg x σ0 H Q
def tB (X : Cx) (scope : Scope) (ifs : List Expr) : TT := fun σ0 H Q => ∀ (s : Shared) (H0 : Hp) (C : Addr) (cl : List (Str × Addr)) (fp : List Addr), tIfs (X.blk s H0 scope (compEnvC scope cl C X.env) fp) ifs σ0 H Q
def eB (X : Cx) (scope : Scope) (elt : Expr) : TE := fun σ0 H Q => ∀ (s : Shared) (H0 : Hp) (C : Addr) (cl : List (Str × Addr)) (fp : List Addr), tE (X.blk s H0 scope (compEnvC scope cl C X.env) fp) elt σ0 H Q
theorem gB_ok {scope : Scope} {tg : Expr} (s : Shared) (H0 : Hp) (C : Addr) (cl : List (Str × Addr)) (fp : List Addr) : PG (X.blk s H0 scope (compEnvC scope cl C X.env) fp) tg (gB X scope tg) := ⟨fun pins s' σ' H' v u Q I r h => h s H0 C cl fp pins s' u I r⟩
theorem tB_ok {scope : Scope} {ifs : List Expr} (s : Shared) (H0 : Hp) (C : Addr) (cl : List (Str × Addr)) (fp : List Addr) : PTs (X.blk s H0 scope (compEnvC scope cl C X.env) fp) ifs (tB X scope ifs) := ⟨fun pins s' σ' H' Q I h => h s H0 C cl fp pins s' I⟩
theorem eB_ok {scope : Scope} {elt : Expr} (s : Shared) (H0 : Hp) (C : Addr) (cl : List (Str × Addr)) (fp : List Addr) : PE (X.blk s H0 scope (compEnvC scope cl C X.env) fp) elt (eB X scope elt) := ⟨fun pins s' σ' H' Q I h => h s H0 C cl fp pins s' I⟩
/-- what a comprehension is to show of its turns -/
def LcT (X : Cx) (N : List Str) (sc scope : Scope) (k : Nat) (B : Hp) (vs : List Nat) (tg elt : Expr) (ifs : List Expr) (ρ : LEnv) (ds : List D) (P : Nat → List D → Mem → Prop) : Prop :=
  ∀ i d acc ν D, ds[i]? = some d → ν D = none → P i acc ν → ∃ ρ2, AsgT N (relS scope sc) vs tg d (wipeD ρ vs) ρ2 ∧ ∀ X', BlkX X N sc scope k B X' → IFW X' B ifs ρ2 (ν.put D (.lst acc)) fun b μ3 =>
    if b = true then ∀ X', BlkX X N sc scope k B X' → EW X' B elt ρ2 μ3 fun e μ4 => ∃ ν', ν' D = none ∧ μ4 = ν'.put D (.lst acc) ∧ P (i + 1) (acc ++ [e]) ν' else ∃ ν', ν' D = none ∧ μ3 = ν'.put D (.lst acc) ∧ P (i + 1) acc ν'
theorem lc_reads {elt tg iter : Expr} {ifs : List Expr} {scope : Scope} {vs : List Nat} {Q : D → Mem → Prop} {σ : St} {H : Hp} (h0 : Ok X N sc k B EX) (G : Good X.K B H μ σ ρ)
    (h : IW X B tg iter ρ μ fun ds μ1 => ds.length ≤ sizeLine ∧ ∃ P : Nat → List D → Mem → Prop, P 0 [] μ1 ∧ LcT X N sc scope k B vs tg elt ifs ρ ds P ∧ ∀ acc ν, P ds.length acc ν → Q (.lst acc) ν) :
    tLc (tI X tg iter) (gB X scope tg) (tB X scope ifs) (eB X scope elt) vs σ H (EQ X B (hide H μ) σ ρ Q) := by
  refine tI_mono (h σ H G) fun J H1 ⟨ds, μ1, S, s, G1, w, hS, hz, P, p0, step, fin⟩ => ?_
  intro D hD
  have hμD := G1.mdl.free hD
  refine ⟨fun i m H' => m = ds.length - i ∧ i ≤ ds.length ∧ ∃ acc ν, acc.length ≤ i ∧ ν D = none ∧ Same (hide H1 μ1) (hide H' (ν.put D (.lst acc))) ∧ Good X.K B H' (ν.put D (.lst acc)) (wipe σ vs) (wipeD ρ vs) ∧ P i acc ν, ⟨ds.length, by simp, Nat.zero_le _, [], μ1, Nat.le_refl _, hμD, hide_new hD, ?_, p0⟩, ?_⟩
  · have Gw : Good X.K B H1 μ1 (wipe σ vs) (wipeD ρ vs) := ⟨G1.same, G1.env.wipe vs, G1.mdl⟩
    exact Gw.newCell hD ⟨[], upd_same, rfl⟩
  · rintro i m H' ⟨rfl, hi, acc, ν, hl, hν, s', G', p⟩
    have hS' := w.mono _ _ s' hS
    by_cases hlt : i < ds.length
    · refine .inr ⟨w.goes i H' _ hlt hS', fun H2 => ∃ acc ν, acc.length ≤ i + 1 ∧ ν D = none ∧ Same (hide H1 μ1) (hide H2 (ν.put D (.lst acc))) ∧ Good X.K B H2 (ν.put D (.lst acc)) (wipe σ vs) (wipeD ρ vs) ∧ P (i + 1) acc ν,
        fun H2 ⟨acc, ν, hl2, a, b, c, d⟩ => ⟨ds.length - (i + 1), by omega, rfl, hlt, acc, ν, hl2, a, b, c, d⟩, fun x H2 y => ?_⟩
      obtain ⟨s2, hk, d, e1, r⟩ := w.yields i H' _ x H2 hlt hS' y fun p hp => G'.mdl.free hp
      have G2 : Good X.K B H2 (ν.put D (.lst acc)) (wipe σ vs) (wipeD ρ vs) := ⟨G'.same.trans s2, G'.env.mono s2, fun a c h => (G'.mdl a c h).mono s2 (hk a c h)⟩
      obtain ⟨ρ2, at2, hb⟩ := step i d acc ν D e1 hν p
      intro sa Ha Ca cla fpa
      refine tG_mono (AsgT.run (blk_ok (scope := scope) h0).ok at2 _ H2 x G2 r) fun σ3 H3 ⟨eH, ew, G3⟩ => ?_
      subst eH
      refine ⟨by rw [ew, wipe_wipe], fun sb Hb Cb clb fpb => ?_⟩
      have ew2 : wipe σ3 vs = wipe σ vs := by rw [ew, wipe_wipe]
      have back : ∀ {H4 : Hp} {μ4 : Mem}, Same (hide H1 μ1) (hide H4 μ4) → Good X.K B H4 μ4 σ3 ρ2 → Good X.K B H4 μ4 (wipe σ vs) (wipeD ρ vs) := fun {H4 μ4} a g => ⟨g.same, (G1.env.wipe vs).mono a, g.mdl⟩
      refine tIfs_mono (hb _ (blk_ok h0) σ3 _ G3) fun b H4 ⟨μ4, s4, G4, q⟩ => ?_
      have sA : Same (hide H1 μ1) (hide H4 μ4) := (s'.trans s2).trans s4
      cases b with
      | false =>
        rw [if_neg Bool.false_ne_true] at q ⊢
        obtain ⟨ν', h1, rfl, h3⟩ := q
        exact ⟨acc, ν', Nat.le_succ_of_le hl, h1, sA, back sA G4, h3⟩
      | true =>
        rw [if_pos rfl] at q ⊢
        intro sc' Hc Cc clc fpc
        refine tE_mono (q _ (blk_ok h0) σ3 H4 G4) fun v H5 ⟨e, μ5, s5, G5, r5, ν', h1, h2, h3⟩ => ?_
        subst h2
        obtain ⟨xs, f1, f2⟩ := G5.mdl D (.lst acc) Mem.put_same
        refine ⟨xs, f1, by rw [← f2.length]; omega, acc ++ [e], ν', by rw [List.length_append]; exact Nat.succ_le_succ hl, h1, ?_, ?_, h3⟩
        · have z := hide_put (H := H5) (o := HO.lst (xs ++ [v])) (c' := Cell.lst (acc ++ [e])) (Mem.put_same (μ := ν') (a := D) (c := Cell.lst acc))
          rw [Mem.put_put] at z
          exact (sA.trans s5).trans z
        · have sB := sA.trans s5
          have z := (back sB G5).putCell (p := D) (o := .lst (xs ++ [v])) (c' := .lst (acc ++ [e])) Mem.put_same ⟨_, upd_same, RepL.append (RepL.mono (hide_put Mem.put_same) _ f2) (RepL.one (Rep.mono (hide_put Mem.put_same) _ r5))⟩
          rw [Mem.put_put] at z
          exact z
    · have e : i = ds.length := by omega
      subst e
      refine .inl ⟨w.stops H' _ hS', .lst acc, ν, ?_, ?_, ?_, fin acc ν p⟩
      · have z := hide_del (H := H') (μ := ν.put D (.lst acc)) (p := D)
        rw [Mem.del_put hν] at z
        exact (s.trans s').trans z
      · have z := G'.freeze D
        rw [Mem.del_put hν] at z
        refine ⟨z.same, ?_, z.mdl⟩
        have y := hide_del (H := H') (μ := ν.put D (.lst acc)) (p := D)
        rw [Mem.del_put hν] at y
        exact G1.env.mono (s'.trans y)
      · obtain ⟨xs, f1, f2⟩ := G'.mdl D (.lst acc) Mem.put_same
        have y := hide_del (H := H') (μ := ν.put D (.lst acc)) (p := D)
        rw [Mem.del_put hν] at y
        exact ⟨D, xs, rfl, SqL.of (hide_at hν f1 fun ps z => by cases z), RepL.mono y _ f2⟩
variable {elt tg iter : Expr} {ifs : List Expr} {scope : Scope} {own : List (Str × Nat)} {pos : Pos} {Q : D → Mem → Prop}
theorem ew_lc (h0 : Ok X N sc k B EX) (hb : blkC N sc scope own = true)
    (h : IW X B tg iter ρ μ fun ds μ1 => ds.length ≤ sizeLine ∧ ∃ P : Nat → List D → Mem → Prop, P 0 [] μ1 ∧ LcT X N sc scope k B (own.map (·.2)) tg elt ifs ρ ds P ∧ ∀ acc ν, P ds.length acc ν → Q (.lst acc) ν)
    (hs : ∀ x, foldedSetIterable iter X.env x = pure x := by intro _; rfl) : EW X B (.ListComp elt [⟨tg, iter, ifs, 0⟩] scope pos) ρ μ Q := fun σ H G =>
  tE_of (pe_lc h0.calm (by rw [h0.hN]; exact h0.nd) piC (by rw [h0.hN, h0.hs]; exact blkOk_by hb) gB_ok tB_ok eB_ok hs)
    (lc_reads h0 G h)
/-- name = [..] -/
theorem sw_setLc {i : Nat} {y : Str} {py spos : Pos} {F : Fi} (h0 : Ok X N sc k B EX) (hy : N[i]? = some y) (hyl : sc.names.lookup y = some .local) (hkf : sc.kind = .function) (hline : (py.line == pos.line) = true) (hown : (scope.names.any fun (n, k) => n == y && (k == .local || k == .cell)) = false) (hb : blkC N sc scope own = true)
    (h : IW X B tg iter ρ μ fun ds μ1 => ds.length ≤ sizeLine ∧ ∃ P : Nat → List D → Mem → Prop, P 0 [] μ1 ∧ LcT X N sc scope k B (own.map (·.2)) tg elt ifs ρ ds P ∧ ∀ acc ν, P ds.length acc ν → F.nx (ρ.set i (some (.lst acc))) ν)
    (hs : ∀ x, foldedSetIterable iter X.env x = pure x := by intro _; rfl) : SW X B (.Assign [.Name y py] (.ListComp elt [⟨tg, iter, ifs, 0⟩] scope pos) spos) ρ μ F := fun σ H G => tS_inv fun hl => by
  have hi' : i < σ.length := by rw [hl, h0.hN]; exact (List.getElem?_eq_some_iff.mp hy).1
  refine tS_of (ps_setLc (i := i) h0.calm (by rw [h0.hN]; exact h0.nd) (by rw [h0.hN]; exact hy) (by rw [h0.hs]; exact hyl) (sw_true (by rw [h0.hs]; exact hkf) (by rw [h0.hs]; exact hyl) hline hown) piC (by rw [h0.hN, h0.hs]; exact blkOk_by hb)
    gB_ok tB_ok eB_ok hs) ?_
  have z := lc_reads (Q := fun d μ' => F.nx (ρ.set i (some d)) μ') h0 G (show IW X B tg iter ρ μ _ from fun σ H G => tI_mono (h σ H G) fun J H1 ⟨ds, μ1, S, a, b, c, d, hz, P, p0, st, fin⟩ => ⟨ds, μ1, S, a, b, c, d, hz, P, p0, st, fin⟩)
  refine tI_mono z fun J H1 z2 D hD => ?_
  obtain ⟨W, w0, w1⟩ := z2 D hD
  refine ⟨W, w0, fun i' m H' hw => ?_⟩
  rcases w1 i' m H' hw with ⟨a, d, μ', s', G', r, q⟩ | b
  · exact .inl ⟨a, _, μ', s', G'.setEnv hi' r, q⟩
  · exact .inr b
/-- elements that are only read: no cell changes -/
theorem lc_pure {ds : List D} {μ1 : Mem} {vs : List Nat} {Q : D → Mem → Prop} (hz : ds.length ≤ sizeLine) (f : D → D)
    (he : ∀ d ∈ ds, ∃ ρ2, AsgT N (relS scope sc) vs tg d (wipeD ρ vs) ρ2 ∧ ∀ X' μ', BlkX X N sc scope k B X' → (∀ a c, μ1 a = some c → μ' a = some c) → EW X' B elt ρ2 μ' fun e μ4 => e = f d ∧ μ4 = μ')
    (q : Q (.lst (ds.map f)) μ1) : ds.length ≤ sizeLine ∧ ∃ P : Nat → List D → Mem → Prop, P 0 [] μ1 ∧ LcT X N sc scope k B vs tg elt [] ρ ds P ∧ ∀ acc ν, P ds.length acc ν → Q (.lst acc) ν := by
  refine ⟨hz, fun i acc ν => ν = μ1 ∧ acc = (ds.take i).map f, ⟨rfl, rfl⟩, fun i d acc ν D e1 hν ⟨e2, e3⟩ => ?_, fun acc ν ⟨e2, e3⟩ => ?_⟩
  · subst e2 e3
    obtain ⟨ρ2, a, b⟩ := he d (List.mem_of_getElem? e1)
    refine ⟨ρ2, a, fun X' hX => ifw_nil ?_⟩
    rw [if_pos rfl]
    refine fun X2 hX2 => (b X2 _ hX2 fun a c h => ?_).mono fun e μ4 ⟨h1, h2⟩ => ⟨ν, hν, h2, rfl, ?_⟩
    · rw [Mem.put_ne fun z => by rw [z, hν] at h; cases h]
      exact h
    · obtain ⟨hi, e4⟩ := List.getElem?_eq_some_iff.mp e1
      rw [List.take_succ_eq_append_getElem hi, List.map_append, h1, e4]
      rfl
  · subst e2 e3
    rw [List.take_length]
    exact q
theorem IW.mono {Q Q' : List D → Mem → Prop} (h : IW X B tg iter ρ μ Q) (f : ∀ ds μ', Q ds μ' → Q' ds μ') : IW X B tg iter ρ μ Q' := fun σ H G => tI_mono (h σ H G) fun J H1 ⟨ds, μ1, S, a, b, c, d, q⟩ => ⟨ds, μ1, S, a, b, c, d, f _ _ q⟩
/-- what a pure comprehension is to show -/
def LcP (X : Cx) (N : List Str) (sc scope : Scope) (k : Nat) (B : Hp) (vs : List Nat) (tg elt : Expr) (ρ : LEnv) (μ1 : Mem) (ds : List D) (f : D → D) : Prop :=
  ∀ d ∈ ds, ∃ ρ2, AsgT N (relS scope sc) vs tg d (wipeD ρ vs) ρ2 ∧ ∀ X' μ', BlkX X N sc scope k B X' → (∀ a c, μ1 a = some c → μ' a = some c) → EW X' B elt ρ2 μ' fun e μ4 => e = f d ∧ μ4 = μ'
theorem ew_lcP (h0 : Ok X N sc k B EX) (hb : blkC N sc scope own = true)
    (h : IW X B tg iter ρ μ fun ds μ1 => ds.length ≤ sizeLine ∧ ∃ f : D → D, LcP X N sc scope k B (own.map (·.2)) tg elt ρ μ1 ds f ∧ Q (.lst (ds.map f)) μ1)
    (hs : ∀ x, foldedSetIterable iter X.env x = pure x := by intro _; rfl) : EW X B (.ListComp elt [⟨tg, iter, [], 0⟩] scope pos) ρ μ Q :=
  ew_lc h0 hb (h.mono fun ds μ1 ⟨hz, f, he, q⟩ => lc_pure hz f he q) hs
theorem sw_setLcP {i : Nat} {y : Str} {py spos : Pos} {F : Fi} (h0 : Ok X N sc k B EX) (hy : N[i]? = some y) (hyl : sc.names.lookup y = some .local) (hkf : sc.kind = .function) (hline : (py.line == pos.line) = true) (hown : (scope.names.any fun (n, k) => n == y && (k == .local || k == .cell)) = false) (hb : blkC N sc scope own = true)
    (h : IW X B tg iter ρ μ fun ds μ1 => ds.length ≤ sizeLine ∧ ∃ f : D → D, LcP X N sc scope k B (own.map (·.2)) tg elt ρ μ1 ds f ∧ F.nx (ρ.set i (some (.lst (ds.map f)))) μ1)
    (hs : ∀ x, foldedSetIterable iter X.env x = pure x := by intro _; rfl) : SW X B (.Assign [.Name y py] (.ListComp elt [⟨tg, iter, [], 0⟩] scope pos) spos) ρ μ F :=
  sw_setLc h0 hy hyl hkf hline hown hb (h.mono fun ds μ1 ⟨hz, f, he, q⟩ => lc_pure (Q := fun d μ' => F.nx (ρ.set i (some d)) μ') hz f he q) hs
/-- a test's two ways -/
theorem it_yes {p q : Prop} {b : Bool} (hb : b = true) (h : p) : if b = true then p else q := by rw [if_pos hb]; exact h
theorem it_no {p q : Prop} {b : Bool} (hb : b = false) (h : q) : if b = true then p else q := by rw [if_neg (by rw [hb]; exact Bool.false_ne_true)]; exact h
end
end LX

set_option Elab.async false
set_option linter.all false
set_option maxRecDepth 100000
set_option maxHeartbeats 4000000
namespace LX
open PySem PySem.Spec L2
open PyProof.Rows hiding St
theorem repL_ints_inv {K : PySem.W.Frag} {G : Hp} : ∀ {ns : List Int} {xs : List V}, RepL K G (ns.map D.int) xs → xs = ns.map V.int
  | [], _, h => h
  | n :: ns, _, h => by
    obtain ⟨v, r, rfl, h1, h2⟩ := h
    rw [repL_ints_inv h2, show v = V.int n from h1]
    rfl
theorem repL_bls_inv {K : PySem.W.Frag} {G : Hp} : ∀ {bs : List Bool} {xs : List V}, RepL K G (bs.map D.bl) xs → xs = bs.map V.bl
  | [], _, h => h
  | n :: ns, _, h => by
    obtain ⟨v, r, rfl, h1, h2⟩ := h
    rw [repL_bls_inv h2, show v = V.bl n from h1]
    rfl
section
variable {X : Cx} {B : Hp} {ρ : LEnv} {μ : Mem} {N : List Str} {sc : Scope} {k : Nat} {EX : Exc → LEnv → Mem → Prop}
/-- a statement, then the rest, by what holds between -/
theorem bw_mid {st : Stmt} {rest : List Stmt} {F : Fi} (R : LEnv → Mem → Prop) (h : SW X B st ρ μ { F with nx := R }) (h2 : ∀ ρ1 μ1, R ρ1 μ1 → BW X B rest ρ1 μ1 F) : BW X B (st :: rest) ρ μ F :=
  bw_cons (h.mono ⟨fun ρ1 μ1 r => h2 ρ1 μ1 r, fun _ _ z => z, fun _ _ z => z, fun _ _ z => z⟩)
theorem small_line {n : Nat} (h : n ≤ 1000000) : n ≤ sizeLine := Nat.le_trans h (by decide +kernel)
theorem len_ok {l : List D} (h : Nat.ble l.length 1000000 = true := by rfl) : l.length ≤ sizeLine := small_line (Nat.le_of_ble_eq_true h)
theorem mul_r {i j : Int} (h1 : -(2 ^ 64) < j) (h2 : j < 2 ^ 64) : CMul i j := .inr ⟨h1, h2⟩
theorem mul_l {i j : Int} (h1 : -(2 ^ 64) < i) (h2 : i < 2 ^ 64) : CMul i j := .inl ⟨h1, h2⟩
theorem cdx {j : Int} (h1 : j ≠ 0) (h2 : j.natAbs.log2 < 9000) {i : Int} : CDX i j := ⟨h1, h2⟩
theorem plain_int {i : Int} : (D.int i).plain = true := rfl
theorem cpow {i j : Int} (h1 : 0 ≤ j) (h2 : j ≤ 1000000) (h3 : i.natAbs < 2 ^ 64) : CPow i j := ⟨h1, h2, h3⟩
theorem mul_b {i j : Int} (h1 : i.natAbs < 2 ^ 10000) (h2 : j.natAbs < 2 ^ 10000) : IntMulOk i j := by
  have key : ∀ x : Int, x.natAbs < 2 ^ 10000 → Builtin.Int.intBits x ≤ 10000 := fun x h => by
    unfold Builtin.Int.intBits
    split
    · exact Nat.zero_le _
    · rename_i hx
      have : x.natAbs ≠ 0 := by
        intro z
        apply hx
        rw [Int.natAbs_eq_zero.mp z]
        rfl
      exact (Nat.log2_lt this).mpr h
  exact mulOk_of_bits (key i h1) (key j h2) (by decide)
/-- d == d of what stands for itself -/
theorem eqv_int (i j : Int) : D.eqv (.int i) (.int j) = decide (i = j) := rfl
theorem eqv_str (i j : Str) : D.eqv (.str i) (.str j) = decide (i = j) := rfl
theorem eqv_bl (i j : Bool) : D.eqv (.bl i) (.bl j) = decide (i = j) := by cases i <;> cases j <;> rfl
theorem cut63 {ds : List D} (h : ds.length ≤ 63) : LX.cutD ds none (some 63) = ds := by
  have e1 : HT.sIx ds.length 0 none = 0 := rfl
  have e2 : HT.sIx ds.length ds.length (some 63) = ds.length := by
    have := HT.sIx_nat ds.length ds.length 63
    rw [show ((63 : Nat) : Int) = 63 from rfl] at this
    rw [this]; omega
  unfold LX.cutD
  rw [e1, e2, List.drop_zero, Nat.sub_zero, List.take_length]
theorem ow_none {Q : Option Int → Mem → Prop} (q : Q none μ) : OW X B none ρ μ Q := q
theorem ow_some {e : Expr} {Q : Option Int → Mem → Prop} (h : EW X B e ρ μ fun d μ1 => ∃ i, d = .int i ∧ Q (some i) μ1) : OW X B (some e) ρ μ Q := h
theorem cvAll : CvL X B (rAll X.K) (fun ds μ Q => ∃ (d : D) (bs : List Bool), ds = [d] ∧ LstOf d μ (bs.map .bl) ∧ Q (.bl (bs.all id)) μ) := fun G0 H μ σ ρ xs ds Q Q2 s G r ⟨d, bs, e, hl, q⟩ hq => by
  subst e
  obtain ⟨v, rfl, h⟩ := RepL.one_inv r
  obtain ⟨p, xs, rfl, e2, e3⟩ := hl.get G h
  rw [repL_bls_inv e3] at e2
  exact ⟨p, bs, rfl, e2, hq _ _ ⟨.bl (bs.all id), μ, s, G, rfl, q⟩⟩
theorem cvAny : CvL X B (rAny X.K) (fun ds μ Q => ∃ (d : D) (bs : List Bool), ds = [d] ∧ LstOf d μ (bs.map .bl) ∧ Q (.bl (bs.any id)) μ) := fun G0 H μ σ ρ xs ds Q Q2 s G r ⟨d, bs, e, hl, q⟩ hq => by
  subst e
  obtain ⟨v, rfl, h⟩ := RepL.one_inv r
  obtain ⟨p, xs, rfl, e2, e3⟩ := hl.get G h
  rw [repL_bls_inv e3] at e2
  exact ⟨p, bs, rfl, e2, hq _ _ ⟨.bl (bs.any id), μ, s, G, rfl, q⟩⟩
theorem cvSum : CvL X B (rSum X.K) (fun ds μ Q => ∃ (d : D) (ns : List Int), ds = [d] ∧ LstOf d μ (ns.map .int) ∧ Q (.int ns.sum) μ) := fun G0 H μ σ ρ xs ds Q Q2 s G r ⟨d, bs, e, hl, q⟩ hq => by
  subst e
  obtain ⟨v, rfl, h⟩ := RepL.one_inv r
  obtain ⟨p, xs, rfl, e2, e3⟩ := hl.get G h
  rw [repL_ints_inv e3] at e2
  exact ⟨p, bs, rfl, e2, hq _ _ ⟨.int bs.sum, μ, s, G, rfl, q⟩⟩
theorem cvMaxL : CvL X B (rMax X.K) (fun ds μ Q => ∃ (d : D) (ns : List Int), ds = [d] ∧ LstOf d μ (ns.map .int) ∧ 0 < ns.length ∧ ∀ m, m ∈ ns → (∀ y, y ∈ ns → y ≤ m) → Q (.int m) μ) := fun G0 H μ σ ρ xs ds Q Q2 s G r ⟨d, bs, e, hl, hp, q⟩ hq => by
  subst e
  obtain ⟨v, rfl, h⟩ := RepL.one_inv r
  obtain ⟨p, xs, rfl, e2, e3⟩ := hl.get G h
  rw [repL_ints_inv e3] at e2
  exact ⟨p, bs, rfl, e2, hp, fun m h1 h2 => hq _ _ ⟨.int m, μ, s, G, rfl, q m h1 h2⟩⟩
theorem cvMinL : CvL X B (rMin X.K) (fun ds μ Q => ∃ (d : D) (ns : List Int), ds = [d] ∧ LstOf d μ (ns.map .int) ∧ 0 < ns.length ∧ ∀ m, m ∈ ns → (∀ y, y ∈ ns → m ≤ y) → Q (.int m) μ) := fun G0 H μ σ ρ xs ds Q Q2 s G r ⟨d, bs, e, hl, hp, q⟩ hq => by
  subst e
  obtain ⟨v, rfl, h⟩ := RepL.one_inv r
  obtain ⟨p, xs, rfl, e2, e3⟩ := hl.get G h
  rw [repL_ints_inv e3] at e2
  exact ⟨p, bs, rfl, e2, hp, fun m h1 h2 => hq _ _ ⟨.int m, μ, s, G, rfl, q m h1 h2⟩⟩
theorem cvMax2 : CvL X B (fun xs H Q => ∃ i j, xs = [.int i, .int j] ∧ Q (.int (if j > i then j else i)) H) (fun ds μ Q => ∃ i j : Int, ds = [.int i, .int j] ∧ Q (.int (max i j)) μ) := fun G0 H μ σ ρ xs ds Q Q2 s G r ⟨i, j, e, q⟩ hq => by
  subst e
  obtain ⟨v, u, rfl, h1, h2⟩ := RepL.two_inv r
  refine ⟨i, j, by rw [show v = .int i from h1, show u = .int j from h2], hq _ _ ⟨.int (max i j), μ, s, G, ?_, q⟩⟩
  show V.int (if j > i then j else i) = V.int (max i j)
  congr 1
  split <;> omega
theorem cvMin2 : CvL X B (fun xs H Q => ∃ i j, xs = [.int i, .int j] ∧ Q (.int (if j < i then j else i)) H) (fun ds μ Q => ∃ i j : Int, ds = [.int i, .int j] ∧ Q (.int (min i j)) μ) := fun G0 H μ σ ρ xs ds Q Q2 s G r ⟨i, j, e, q⟩ hq => by
  subst e
  obtain ⟨v, u, rfl, h1, h2⟩ := RepL.two_inv r
  refine ⟨i, j, by rw [show v = .int i from h1, show u = .int j from h2], hq _ _ ⟨.int (min i j), μ, s, G, ?_, q⟩⟩
  show V.int (if j < i then j else i) = V.int (min i j)
  congr 1
  split <;> omega
variable {p pos : Pos} {e e2 : Expr} {Q : D → Mem → Prop}
theorem ew_all (h0 : Ok X N sc k B EX) (hm : X.mg "all" = none) (h : AW X B [e] ρ μ fun ds μ1 => ∃ (d : D) (bs : List Bool), ds = [d] ∧ LstOf d μ1 (bs.map .bl) ∧ Q (.bl (bs.all id)) μ1) (hg : sc.names.lookup ("all" : Str) = some .globalImplicit := by rfl) (he : starEach [e] X.env = (false, eval e X.env) :: starEach [] X.env := by rfl) : EW X B (.Call (.Name "all" p) [e] [] pos) ρ μ Q :=
  ew_bi h0 (cr_all h0.calm) cvAll hg hm (by decide +kernel) h (by decide) (by decide) he
theorem ew_any (h0 : Ok X N sc k B EX) (hm : X.mg "any" = none) (h : AW X B [e] ρ μ fun ds μ1 => ∃ (d : D) (bs : List Bool), ds = [d] ∧ LstOf d μ1 (bs.map .bl) ∧ Q (.bl (bs.any id)) μ1) (hg : sc.names.lookup ("any" : Str) = some .globalImplicit := by rfl) (he : starEach [e] X.env = (false, eval e X.env) :: starEach [] X.env := by rfl) : EW X B (.Call (.Name "any" p) [e] [] pos) ρ μ Q :=
  ew_bi h0 (cr_any h0.calm) cvAny hg hm (by decide +kernel) h (by decide) (by decide) he
theorem ew_sum (h0 : Ok X N sc k B EX) (hm : X.mg "sum" = none) (h : AW X B [e] ρ μ fun ds μ1 => ∃ (d : D) (ns : List Int), ds = [d] ∧ LstOf d μ1 (ns.map .int) ∧ Q (.int ns.sum) μ1) (hg : sc.names.lookup ("sum" : Str) = some .globalImplicit := by rfl) (he : starEach [e] X.env = (false, eval e X.env) :: starEach [] X.env := by rfl) : EW X B (.Call (.Name "sum" p) [e] [] pos) ρ μ Q :=
  ew_bi h0 (cr_sum h0.calm) cvSum hg hm (by decide +kernel) h (by decide) (by decide) he
theorem ew_maxL (h0 : Ok X N sc k B EX) (hm : X.mg "max" = none) (h : AW X B [e] ρ μ fun ds μ1 => ∃ (d : D) (ns : List Int), ds = [d] ∧ LstOf d μ1 (ns.map .int) ∧ 0 < ns.length ∧ ∀ m, m ∈ ns → (∀ y, y ∈ ns → y ≤ m) → Q (.int m) μ1) (hg : sc.names.lookup ("max" : Str) = some .globalImplicit := by rfl) (he : starEach [e] X.env = (false, eval e X.env) :: starEach [] X.env := by rfl) : EW X B (.Call (.Name "max" p) [e] [] pos) ρ μ Q :=
  ew_bi h0 (cr_max h0.calm) cvMaxL hg hm (by decide +kernel) h (by decide) (by decide) he
theorem ew_minL (h0 : Ok X N sc k B EX) (hm : X.mg "min" = none) (h : AW X B [e] ρ μ fun ds μ1 => ∃ (d : D) (ns : List Int), ds = [d] ∧ LstOf d μ1 (ns.map .int) ∧ 0 < ns.length ∧ ∀ m, m ∈ ns → (∀ y, y ∈ ns → m ≤ y) → Q (.int m) μ1) (hg : sc.names.lookup ("min" : Str) = some .globalImplicit := by rfl) (he : starEach [e] X.env = (false, eval e X.env) :: starEach [] X.env := by rfl) : EW X B (.Call (.Name "min" p) [e] [] pos) ρ μ Q :=
  ew_bi h0 (cr_min h0.calm) cvMinL hg hm (by decide +kernel) h (by decide) (by decide) he
theorem ew_max2 (h0 : Ok X N sc k B EX) (hm : X.mg "max" = none) (h : AW X B [e, e2] ρ μ fun ds μ1 => ∃ i j : Int, ds = [.int i, .int j] ∧ Q (.int (max i j)) μ1) (hg : sc.names.lookup ("max" : Str) = some .globalImplicit := by rfl) (he : starEach [e, e2] X.env = (false, eval e X.env) :: starEach [e2] X.env := by rfl) (hpl : (backTo pos (starEach [e2] X.env)).any (·.1) = false := by rfl) : EW X B (.Call (.Name "max" p) [e, e2] [] pos) ρ μ Q :=
  ew_bi h0 (call_max2 h0.calm) cvMax2 hg hm (by decide +kernel) h (by decide) (by decide) he hpl
theorem ew_min2 (h0 : Ok X N sc k B EX) (hm : X.mg "min" = none) (h : AW X B [e, e2] ρ μ fun ds μ1 => ∃ i j : Int, ds = [.int i, .int j] ∧ Q (.int (min i j)) μ1) (hg : sc.names.lookup ("min" : Str) = some .globalImplicit := by rfl) (he : starEach [e, e2] X.env = (false, eval e X.env) :: starEach [e2] X.env := by rfl) (hpl : (backTo pos (starEach [e2] X.env)).any (·.1) = false := by rfl) : EW X B (.Call (.Name "min" p) [e, e2] [] pos) ρ μ Q :=
  ew_bi h0 (call_min2 h0.calm) cvMin2 hg hm (by decide +kernel) h (by decide) (by decide) he hpl
/-- a for loop by what holds before and behind each turn -/
theorem fl_inv {tg : Expr} {body : List Stmt} {F : Fi} (I : LEnv → Mem → Prop) : ∀ {ds : List D}, (∀ d ∈ ds, ∀ ρ μ, I ρ μ → GW X B tg d ρ μ fun ρ1 μ1 => BW X B body ρ1 μ1 { nx := I, rt := F.rt, bk := F.nx, ct := I }) → (∀ ρ μ, I ρ μ → F.nx ρ μ) → ∀ {ρ μ}, I ρ μ → FL X B tg body F ds ρ μ
  | [], _, h2, ρ, μ, hi => h2 ρ μ hi
  | d :: ds, h1, h2, ρ, μ, hi => fun σ H v G r => tG_mono (h1 d List.mem_cons_self ρ μ hi σ H v G r) fun σ1 H1 ⟨ρ1, μ1, s, G1, q⟩ =>
    ⟨ρ1, μ1, s, G1, BW.mono q ⟨fun ρ' μ' hi' => fl_inv I (fun d hd => h1 d (List.mem_cons_of_mem _ hd)) h2 hi', fun _ _ z => z, fun _ _ z => z, fun ρ' μ' hi' => fl_inv I (fun d hd => h1 d (List.mem_cons_of_mem _ hd)) h2 hi'⟩⟩
end
end LX

set_option Elab.async false
set_option linter.all false
set_option maxRecDepth 100000
set_option maxHeartbeats 4000000
namespace LX
open PySem PySem.Spec L2
open PyProof.Rows hiding St
/-! ### rationals in lowest terms as pairs -/
def encQ (q : Rat) : D := .tup [.int q.num, .int q.den]
/-- the divisor that lowest() divides by -/
def lowS (n d : Int) : Int := if d < 0 then -(Int.gcd n d : Int) else (Int.gcd n d : Int)
theorem gcd_ne {n d : Int} (h : d ≠ 0) : (Int.gcd n d : Int) ≠ 0 := by
  intro z
  have z' : Int.gcd n d = 0 := by exact_mod_cast z
  rw [Int.gcd_eq_zero_iff] at z'
  exact h z'.2
theorem low_num {n d : Int} (h : d ≠ 0) : n.fdiv (lowS n d) = (Rat.divInt n d).num := by
  rw [Rat.num_divInt]
  have hg : ((Int.gcd n d : Int)) ∣ n := Int.gcd_dvd_left n d
  unfold lowS
  rw [show d.gcd n = n.gcd d from Int.gcd_comm d n]
  by_cases hd : d < 0
  · rw [if_pos hd, Int.fdiv_eq_ediv_of_dvd ((Int.neg_dvd).mpr hg), Int.ediv_neg, Int.sign_eq_neg_one_of_neg hd, Int.neg_one_mul, Int.neg_ediv_of_dvd hg]
  · rw [if_neg hd, Int.fdiv_eq_ediv_of_dvd hg, Int.sign_eq_one_of_pos (by omega), Int.one_mul]
theorem low_den {n d : Int} (h : d ≠ 0) : d.fdiv (lowS n d) = ((Rat.divInt n d).den : Int) := by
  rw [Rat.den_divInt, if_neg h]
  have hg : ((Int.gcd n d : Int)) ∣ d := Int.gcd_dvd_right n d
  unfold lowS
  rw [show d.gcd n = n.gcd d from Int.gcd_comm d n, Int.natCast_ediv]
  by_cases hd : d < 0
  · rw [if_pos hd, Int.fdiv_eq_ediv_of_dvd ((Int.neg_dvd).mpr hg), Int.ediv_neg, ← Int.neg_ediv_of_dvd hg]
    congr 1
    omega
  · rw [if_neg hd, Int.fdiv_eq_ediv_of_dvd hg]
    congr 1
    omega
theorem lowS_ne {n d : Int} (h : d ≠ 0) : lowS n d ≠ 0 := by
  have := gcd_ne (n := n) h
  unfold lowS
  split <;> omega
theorem lowS_abs {n d : Int} : (lowS n d).natAbs = Int.gcd n d := by
  unfold lowS
  split <;> omega
theorem log2_mono {a b : Nat} (h : a ≤ b) (ha : a ≠ 0) : a.log2 ≤ b.log2 := by
  have hb : b ≠ 0 := by omega
  rw [Nat.le_log2 hb]
  exact Nat.le_trans (Nat.log2_self_le ha) h
theorem low_log {n d : Int} (h : d ≠ 0) (hb : d.natAbs.log2 < 9000) : (lowS n d).natAbs.log2 < 9000 := by
  rw [lowS_abs]
  have h1 : Int.gcd n d ≤ d.natAbs := Nat.le_of_dvd (by omega) (Int.gcd_dvd_natAbs_right n d)
  have h2 : Int.gcd n d ≠ 0 := by
    have := gcd_ne (n := n) h
    omega
  exact Nat.lt_of_le_of_lt (log2_mono h1 h2) hb
theorem encQ_eq {q r : Rat} (h : encQ q = encQ r) : q = r := by
  unfold encQ at h
  simp only [D.tup.injEq, List.cons.injEq, D.int.injEq, and_true] at h
  exact Rat.ext h.1 (by exact_mod_cast h.2)
theorem divInt_cross {n d : Int} (h : d ≠ 0) : (Rat.divInt n d).num * d = n * (Rat.divInt n d).den := by
  rw [← Rat.divInt_eq_divInt_iff (by have := (Rat.divInt n d).den_nz; omega) h, Rat.num_divInt_den]
theorem divInt_num_le {n d : Int} (h : d ≠ 0) : (Rat.divInt n d).num.natAbs ≤ n.natAbs := by
  have c := divInt_cross (n := n) h
  by_cases hn : n = 0
  · subst hn
    rw [Int.zero_mul] at c
    rcases Int.mul_eq_zero.mp c with z | z
    · rw [z]; exact Nat.le_refl _
    · exact absurd z h
  · have e : (Rat.divInt n d).num.natAbs * d.natAbs = n.natAbs * (Rat.divInt n d).den := by
      have := congrArg Int.natAbs c
      rwa [Int.natAbs_mul, Int.natAbs_mul, Int.natAbs_natCast] at this
    have dv : (Rat.divInt n d).num.natAbs ∣ n.natAbs * (Rat.divInt n d).den := ⟨d.natAbs, e.symm⟩
    exact Nat.le_of_dvd (by omega) ((Rat.divInt n d).reduced.dvd_of_dvd_mul_right dv)
theorem divInt_den_le {n d : Int} (h : d ≠ 0) : (Rat.divInt n d).den ≤ d.natAbs := by
  rw [Rat.den_divInt, if_neg h]
  exact Nat.div_le_self _ _
theorem num_den_gcd (q : Rat) : Int.gcd q.num q.den = 1 := by
  have := q.reduced
  unfold Nat.Coprime at this
  rw [Int.gcd, Int.natAbs_natCast]
  exact this
end LX

set_option Elab.async false
set_option linter.all false
set_option maxRecDepth 100000
set_option maxHeartbeats 4000000
namespace LX
open PySem PySem.Spec L2 LamX
open PyProof.Rows hiding St
/-- a def by its body, its code object and its name known -/
theorem def_okC {W : Wd} {x qual : Str} {params : Arguments} {body : List Stmt} {scope : Scope} {dvs : List V} {kws : List (Str × V)} {f : Addr} {fd : FuncData} {N ps : List Str} {k : Nat} {ct : Ct} (F : FunD W.K x qual params body scope dvs kws f fd) (S : FnScope N ps scope)
    (len : ∀ ds μ Q E, ct ds μ Q E → ds.length = ps.length)
    (hbody : ∀ (X : Cx) (B : Hp) (ds : List D) (μ : Mem) (Q : D → Mem → Prop) (E : Exc → Mem → Prop), wd X = W → (∀ x, X.fn x = true) → X.env.code = fd.code → X.env.qual = qual ++ ".<locals>." → Ok X N scope k B (fun x _ μ' => E x μ') → ct ds μ Q E → BW X B body (startD N ds) μ { nx := fun _ μ' => Q .non μ', rt := Q }) :
    FOk W (k + 1) f fd ps ct := by
  obtain ⟨oc, od, dV, kV, doc, pm, an, cdv, ct', osl, rfl, lk, hcd, _, _⟩ := F.ex
  refine fn_of lk hcd S (fun vs H Q E ⟨ds, μ, Q0, E0, h1, h2, h3, h4, h5⟩ => by rw [← h1.length]; exact len _ _ _ _ h3) fun A outer s H vs Q E hr ⟨ds, μ, Q0, E0, h1, h2, h3, h4, h5⟩ => ⟨tSs _ body, pssC, ?_⟩
  have ok : Ok (cxOf (L2.CX W.P W.w) W.P W.w W.K W.mg W.base N qual scope f cdv A outer s H E) N scope k (hide H μ) (fun x _ μ' => E0 x μ') := {
    hN := rfl
    hs := rfl
    nd := S.nd
    room := hr
    calm := rfl
    tk := by
      refine Takes.imp (W := fun cls d _ H => E cls d H) (L2.takes_of rfl rfl rfl rfl) fun c d σ H' ⟨x, ρ', μ', G, r, q⟩ => h5 x μ' c d H' q G.same G.mdl r
    own := passes_of rfl }
  refine tSs_mono (hbody _ (hide H μ) ds μ Q0 E0 rfl (fun _ => rfl) rfl rfl ok h3 _ H ⟨Same.refl _, env_start h1, h2⟩) ⟨fun σ' H' ⟨ρ', μ', s', G', q⟩ => h4 _ μ' _ H' q s' G'.mdl rfl, fun v H' ⟨d, μ', s', M, r, q⟩ => h4 d μ' v H' q s' M r, fun _ _ ⟨_, _, _, _, q⟩ => q.elim, fun _ _ ⟨_, _, _, _, q⟩ => q.elim⟩

/-! ### the law itself -/
theorem mem_lk {β : Type} {a : Addr} {b : β} : ∀ {l : List (Addr × β)}, l.lookup a = some b → (a, b) ∈ l
  | [], h => by cases h
  | (c, d) :: l, h => by
    rw [List.lookup_cons] at h
    cases e : a == c with
    | true =>
      rw [e] at h
      cases h
      rw [eq_of_beq e]
      exact List.mem_cons_self
    | false =>
      rw [e] at h
      exact List.mem_cons_of_mem _ (mem_lk h)
def muT (T : List (Addr × Str)) : Mem := fun a => (T.lookup a).map Cell.tbl
theorem muT_in {T : List (Addr × Str)} (h : ∀ p ∈ T, T.lookup p.1 = some p.2) : TabsIn T (muT T) := by
  refine ⟨fun p hp => ?_, fun a q e => ?_⟩
  · unfold muT
    rw [h p hp]; rfl
  · unfold muT at e
    cases z : T.lookup a with
    | none => rw [z] at e; cases e
    | some q' =>
      rw [z] at e
      have e2 : Cell.tbl q' = Cell.tbl q := Option.some.inj e
      rw [← Cell.tbl.inj e2]
      exact mem_lk z
/-- the law gets a list of at most 63 ints, the tables are empty; it answers True -/
def ctLaw (T : List (Addr × Str)) : Ct := fun ds μ Q _ => ∃ ns : List Int, ns.length ≤ 63 ∧ (∀ z ∈ ns, Builtin.Int.intBits z ≤ 1048576) ∧ ds = [.lst (ns.map .int)] ∧ μ = muT T ∧ ∀ μ', Q (.bl true) μ'
theorem law_sp {K : PySem.W.Frag} {T : List (Addr × Str)} {H : Hp} {a : Addr} {ns : List Int} (hl : ns.length ≤ 63) (hb : ∀ z ∈ ns, Builtin.Int.intBits z ≤ 1048576) (hT : ∀ p ∈ T, H p.1 = some (.tbl #[])) (hS : SqL K H a (ns.map V.int)) : spOf K (ctLaw T) [.ref a] H (fun v _ => v = .bl true) fun _ _ _ => False := by
  have M : Mdl K H (muT T) := fun b c e => by
    unfold muT at e
    cases z : T.lookup b with
    | none => rw [z] at e; cases e
    | some q =>
      rw [z] at e
      cases e
      obtain ⟨ps, h1, h2, h3⟩ := TabS.nil (q := q) (hT (b, q) (mem_lk z))
      have e1 : ps = #[] := by
        have := hT (b, q) (mem_lk z)
        rw [show H b = _ from h1] at this
        cases this; rfl
      refine ⟨ps, h1, h2, fun pos cv hc => ?_⟩
      subst e1
      exact absurd hc (by simp [codeAmong])
  refine ⟨[.lst (ns.map .int)], muT T, fun d _ => d = .bl true, fun _ _ => False, RepL.one ⟨a, ns.map V.int, rfl, ?_, repL_ints ns⟩, M, ⟨ns, hl, hb, rfl, rfl, fun _ => rfl⟩, fun d μ' v H' e _ _ r => by subst e; exact r, fun _ _ _ _ _ z => z.elim⟩
  have nm : ∀ {o}, H a = some o → (∀ ps, o ≠ .tbl ps) → hide H (muT T) a = some o := fun {o} e nt => by
    refine hide_at ?_ e nt
    cases z : muT T a with
    | none => rfl
    | some c =>
      unfold muT at z
      cases y : T.lookup a with
      | none => rw [y] at z; cases z
      | some q =>
        have := hT (a, q) (mem_lk y)
        rw [show H a = _ from e] at this
        exact absurd (Option.some.inj this) (nt _)
  rcases hS with (h | ⟨o, h⟩) | h
  · exact .inl (.inl (nm h fun ps z => by cases z))
  · exact .inl (.inr ⟨o, nm h fun ps z => by cases z⟩)
  · exact .inr h
theorem law_at {l : PySem.W.OpenLaw} {w : World} {K : PySem.W.Frag} {mg : Str → Option Value} {fa : Addr} {h : Heap} {k : Nat} {x : Str} {fas : List He.Fa} {fn : List He.DefD} {tf : List He.Defn} {ex : PySem.W.Frag → Bool} {fd : FuncData} (q : He.Defn → Str) (c : HeadF fas fn tf ex h K) (bind : ∀ (s : Shared) (u : Value), BindsTo s fd ⟨[u], []⟩ [(x, u)])
    (fok : ∀ base : Heap, K.In base → base.Ns mainGlobals mg → (∀ p ∈ tf, TabB base mg (He.cT K p).1 (He.cT K p).2) → FOk ⟨l.prog, w, K, mg, base⟩ k fa fd [x] (ctLaw (tf.map fun p => ((He.cT K p).2, q p)))) : LawAtS l w K (L2.CX l.prog w) k 63 x mg fa h := by
  refine ⟨fd, tf.map (He.cT K), spOf K (ctLaw (tf.map fun p => ((He.cT K p).2, q p))), fun p hp => ?_, fun p hp => ?_, fun p hp => ?_, bind, fun H a ns hl hb hT hS => ?_, fun base h1 h2 h3 => fok base h1 h2 fun p hp => h3 _ (List.mem_map_of_mem hp)⟩
  · obtain ⟨d, hd, rfl⟩ := List.mem_map.mp hp
    exact (c.tab d hd).2.2
  · obtain ⟨d, hd, rfl⟩ := List.mem_map.mp hp
    exact (c.tab d hd).2.1
  · obtain ⟨d, hd, rfl⟩ := List.mem_map.mp hp
    exact PySem.W.codeHd_of_K c.inn (c.tab d hd).1
  · refine law_sp hl hb (fun p hp => ?_) hS
    obtain ⟨d, hd, rfl⟩ := List.mem_map.mp hp
    exact hT _ (List.mem_map_of_mem hd)
theorem no_out {P : Program} (w : World) (H : Hp) (s : Shared) (e : Value) (s' : Shared) (z : L2.CX P w [] H s (fun _ _ _ => False) e s') : False := by
  obtain ⟨_, _, _, _, _, _, _, _, _, _, _, _, z⟩ := z
  exact z
theorem FnOk.binds1 {W : Wd} {f : Addr} {fd : FuncData} {x qual : Str} {params : Arguments} {body : List Stmt} {scope : Scope} {p : Str} (F : FunD W.K x qual params body scope [] [] f fd) (h : ∀ (kV doc pm : Value) (an : Option Addr) (cdv ct : Value) (us : List Value), us.length = [p].length → bindArgs (PySem.W.fnOf x qual params body scope .none kV doc pm an cdv ct) ⟨us, []⟩ = pure ([p].zip us)) (s : Shared) (u : Value) : BindsTo s fd ⟨[u], []⟩ [(p, u)] := F.bindsA h s [u] rfl
end LX

set_option Elab.async false
set_option linter.all false
set_option maxRecDepth 100000
set_option maxHeartbeats 4000000
namespace K1
open PySem PySem.Spec L2 LX
open PyProof.Rows hiding St
def top (i : Nat) : Stmt := PySem.Challenge.pw_rootbags_k01_lowest_terms.main.body.getD i (.Pass ⟨0, 0, 0, 0⟩)
abbrev FnP (K : PySem.W.Frag) (x : Str) (st : Stmt) (f : Addr) (fd : FuncData) : Prop := FunD K x x (defArgs st) (defBody st) (defScope st) [] [] f fd

/-! ### draws -/
abbrev sDraws : Stmt := top 8
theorem scDraws : FnScope ["_law_script", "_law_salt", "_law_cell"] ["_law_script"] (defScope sDraws) := ⟨rfl, rfl, rfl, by decide +kernel, rfl, by decide +kernel, by decide +kernel⟩
/-- the state of the law's source of draws -/
def RngOk (st : List D) : Prop := ∃ (ns : List Int) (i : Nat) (a s : Int), ns.length ≤ 63 ∧ st = [.lst (ns.map .int), .int i, .int a, .int s]
def ctDraws : Ct := fun ds μ Q _ => ∃ ns : List Int, ns.length ≤ 63 ∧ ds = [.lst (ns.map .int)] ∧ ∀ r st, μ r = none → RngOk st → Q (.ref r) (μ.put r (.lst st))
theorem ok_draws {W : Wd} {f : Addr} {fd : FuncData} (F : FnP W.K "_law_draws" sDraws f fd) (g_list : W.mg "list" = none) : FOk W 1 f fd ["_law_script"] ctDraws := by
  refine def_ok F scDraws (fun ds μ Q E ⟨a, _, e, _⟩ => by rw [e]; rfl) fun X B ds μ Q E hW hfn h0 ⟨ns, hl, e, q⟩ => ?_
  subst hW e
  have hl' : (ns.map D.int).length ≤ 63 := by rw [List.length_map]; exact hl
  refine bw_cons (sw_set (i := 1) h0 rfl (.inl rfl) ?_)
  refine ew_int ?_
  refine bw_cons (sw_for h0 ?_)
  refine iw_list (ew_slL (ew_var (i := 0) h0 rfl (.inl rfl) rfl (ow_none (ow_some (ew_int ?_)))))
  refine ⟨_, rfl, ?_⟩
  refine ⟨_, rfl, ?_⟩
  refine ⟨_, rfl, ?_⟩
  rw [cut63 hl']
  suffices H : ∀ (ms : List Int) (salt : Int) (x : Option D), FL X B _ _ _ (ms.map D.int) [some (.lst (ns.map D.int)), some (.int salt), x] μ from H ns 3810 _
  intro ms
  induction ms with
  | nil =>
    intro salt x
    show BW X B _ _ _ _
    refine bw_one (sw_ret ?_)
    refine ew_lstC (aw_cons (ew_list h0 g_list (aw_cons (ew_slL (ew_var (i := 0) h0 rfl (.inl rfl) rfl (ow_none (ow_some (ew_int ?_))))))))
    refine ⟨_, rfl, ?_⟩
    refine ⟨_, rfl, ?_⟩
    refine aw_nil ?_
    refine ⟨_, _, rfl, .inl rfl, ?_⟩
    refine aw_cons (ew_int (aw_cons (ew_int (aw_cons (ew_var (i := 1) h0 rfl (.inl rfl) rfl (aw_nil ?_))))))
    refine ⟨len_ok, ?_⟩
    rw [cut63 hl']
    exact fun p hp => q p _ hp ⟨ns, 0, 0, salt, hl, rfl⟩
  | cons m ms ih =>
    intro salt x
    refine gw_name (i := 2) h0 rfl (.inl rfl) ?_
    refine bw_one (sw_set (i := 1) h0 rfl (.inl rfl) ?_)
    refine ew_mod (ew_add (ew_add (ew_mul (ew_var (i := 1) h0 rfl (.inl rfl) rfl (ew_int ?_)))))
    refine ⟨_, _, rfl, rfl, CMul.ok (mul_r (by decide) (by decide)), ?_⟩
    refine ew_mod (ew_var (i := 2) h0 rfl (.inl rfl) rfl (ew_int ?_))
    refine ⟨_, _, rfl, rfl, by decide, ?_⟩
    refine ⟨_, _, rfl, rfl, ?_⟩
    refine ew_int ?_
    refine ⟨_, _, rfl, rfl, ?_⟩
    refine ew_int ?_
    refine ⟨_, _, rfl, rfl, by decide, ?_⟩
    exact ih _ _
abbrev sDraw : Stmt := top 9
theorem scDraw : FnScope ["_law_rng", "_law_amount", "_law_cell", "_law_got", "_law_seed"] ["_law_rng", "_law_amount"] (defScope sDraw) := ⟨rfl, rfl, rfl, by decide +kernel, rfl, by decide +kernel, by decide +kernel⟩
def ctDraw : Ct := fun ds μ Q _ => ∃ (r : Addr) (m : Int) (st : List D), ds = [.ref r, .int m] ∧ 0 < m ∧ m.natAbs.log2 < 9000 ∧ μ r = some (.lst st) ∧ RngOk st ∧ ∀ n st', 0 ≤ n → n < m → RngOk st' → Q (.int n) (μ.put r (.lst st'))
theorem ok_draw {W : Wd} {f : Addr} {fd : FuncData} (F : FnP W.K "_law_draw" sDraw f fd) (g_len : W.mg "len" = none) : FOk W 1 f fd ["_law_rng", "_law_amount"] ctDraw := by
  refine def_ok F scDraw (fun ds μ Q E ⟨a, _, _, e, _⟩ => by rw [e]; rfl) fun X B ds μ Q E hW hfn h0 ⟨r, m, st, e, hm, hm2, hr, hst, q⟩ => ?_
  subst hW e
  have hm0 : m ≠ 0 := by omega
  have upd : ∀ {j : Nat} {d : D} {st : List D}, (μ.put r (.lst st)).put r (.lst (st.set j d)) = μ.put r (.lst (st.set j d)) := Mem.put_put
  rw [← Mem.put_self hr]
  refine bw_mid (fun ρ' μ' => ∃ st2 x y z, RngOk st2 ∧ ρ' = [some (.ref r), some (.int m), x, y, z] ∧ μ' = μ.put r (.lst st2)) ?_ ?_
  · obtain ⟨ns, i, a, s, hl, rfl⟩ := hst
    refine sw_if ?_
    refine ww_tw (ww_and (tw_eq h0 (ew_item (ew_var (i := 0) h0 rfl (.inl rfl) rfl (ew_int ?_)))))
    refine ⟨_, _, rfl, ⟨_, Mem.put_same, rfl⟩, ?_⟩
    refine ew_int ?_
    refine ⟨rfl, rfl, ?_⟩
    have skip : BW X B [] (startD ["_law_rng", "_law_amount", "_law_cell", "_law_got", "_law_seed"] [.ref r, .int m]) (μ.put r (.lst [.lst (ns.map .int), .int i, .int a, .int s])) { nx := fun ρ' μ' => ∃ st2 x y z, RngOk st2 ∧ ρ' = [some (.ref r), some (.int m), x, y, z] ∧ μ' = μ.put r (.lst st2), rt := Q } :=
      bw_nil ⟨_, _, _, _, ⟨ns, i, a, s, hl, rfl⟩, rfl, rfl⟩
    by_cases ha : a = 0
    · rw [if_pos (show D.eqv (.int a) (.int 0) = true from decide_eq_true ha)]
      refine ww_and1 (tw_lt (ew_item (ew_var (i := 0) h0 rfl (.inl rfl) rfl (ew_int ?_))))
      refine ⟨_, _, rfl, ⟨_, Mem.put_same, rfl⟩, ?_⟩
      refine ew_len h0 g_len (aw_cons (ew_item (ew_var (i := 0) h0 rfl (.inl rfl) rfl (ew_int ?_))))
      refine ⟨_, _, rfl, ⟨_, Mem.put_same, rfl⟩, ?_⟩
      refine aw_nil ?_
      refine ⟨_, _, rfl, rfl, ?_⟩
      refine ⟨_, _, rfl, rfl, ?_⟩
      by_cases hi : i < ns.length
      · rw [if_pos (decide_eq_true (by rw [List.length_map]; exact_mod_cast hi))]
        refine bw_cons (sw_set (i := 2) h0 rfl (.inl rfl) ?_)
        refine ew_item (ew_item (ew_var (i := 0) h0 rfl (.inl rfl) rfl (ew_int ?_)))
        refine ⟨_, _, rfl, ⟨_, Mem.put_same, rfl⟩, ?_⟩
        refine ew_item (ew_var (i := 0) h0 rfl (.inl rfl) rfl (ew_int ?_))
        refine ⟨_, _, rfl, ⟨_, Mem.put_same, rfl⟩, ?_⟩
        refine ⟨_, .int (ns[i]), rfl, atI_nat (by simp [hi]), ?_⟩
        refine bw_cons (sw_asg h0 ?_)
        refine ew_add (ew_item (ew_var (i := 0) h0 rfl (.inl rfl) rfl (ew_int ?_)))
        refine ⟨_, _, rfl, ⟨_, Mem.put_same, rfl⟩, ?_⟩
        refine ew_int ?_
        refine ⟨_, _, rfl, rfl, ?_⟩
        refine gw_cell (ew_var (i := 0) h0 rfl (.inl rfl) rfl (ew_int ?_))
        refine ⟨_, _, _, _, rfl, rfl, Mem.put_same, rfl, ?_⟩
        rw [upd]
        refine bw_one (sw_if ?_)
        refine tw_ge (ew_var (i := 2) h0 rfl (.inl rfl) rfl (ew_pow (ew_int (ew_int ?_))))
        refine ⟨_, _, rfl, rfl, cpow (by decide) (by decide) (by decide), ?_⟩
        refine ⟨_, _, rfl, rfl, ?_⟩
        by_cases hc : 10 ^ Int.toNat 18 ≤ ns[i]
        · rw [if_pos (decide_eq_true hc)]
          refine bw_one (sw_asg h0 ?_)
          refine ew_var (i := 2) h0 rfl (.inl rfl) rfl (gw_cell (ew_var (i := 0) h0 rfl (.inl rfl) rfl (ew_int ?_)))
          refine ⟨_, _, _, _, rfl, rfl, Mem.put_same, rfl, ?_⟩
          rw [upd]
          exact ⟨_, _, _, _, ⟨ns, i + 1, ns[i], s, hl, rfl⟩, rfl, rfl⟩
        · rw [if_neg (by rw [decide_eq_false hc]; exact Bool.false_ne_true)]
          refine bw_one (sw_asg h0 ?_)
          refine ew_mod (ew_add (ew_add (ew_mul (ew_item (ew_var (i := 0) h0 rfl (.inl rfl) rfl (ew_int ?_))))))
          refine ⟨_, _, rfl, ⟨_, Mem.put_same, rfl⟩, ?_⟩
          refine ew_int ?_
          refine ⟨_, _, rfl, rfl, CMul.ok (mul_r (by decide) (by decide)), ?_⟩
          refine ew_mul (ew_mod (ew_var (i := 2) h0 rfl (.inl rfl) rfl (ew_int ?_)))
          refine ⟨_, _, rfl, rfl, by decide, ?_⟩
          refine ew_int ?_
          refine ⟨_, _, rfl, rfl, CMul.ok (mul_r (by decide) (by decide)), ?_⟩
          refine ⟨_, _, rfl, rfl, ?_⟩
          refine ew_int ?_
          refine ⟨_, _, rfl, rfl, ?_⟩
          refine ew_int ?_
          refine ⟨_, _, rfl, rfl, by decide, ?_⟩
          refine gw_cell (ew_var (i := 0) h0 rfl (.inl rfl) rfl (ew_int ?_))
          refine ⟨_, _, _, _, rfl, rfl, Mem.put_same, rfl, ?_⟩
          rw [upd]
          exact ⟨_, _, _, _, ⟨ns, i + 1, a, _, hl, rfl⟩, rfl, rfl⟩
      · rw [if_neg (by rw [decide_eq_false (by rw [List.length_map]; exact_mod_cast hi)]; exact Bool.false_ne_true)]
        exact skip
    · rw [if_neg (show ¬ D.eqv (.int a) (.int 0) = true from fun z => ha (of_decide_eq_true z)), if_neg Bool.false_ne_true]
      exact skip
  · rintro ρ' μ' ⟨st2, x, y, z, ⟨ns, i, a, s, hl, rfl⟩, rfl, rfl⟩
    refine bw_cons (sw_if ?_)
    refine tw_gt (ew_item (ew_var (i := 0) h0 rfl (.inl rfl) rfl (ew_int ?_)))
    refine ⟨_, _, rfl, ⟨_, Mem.put_same, rfl⟩, ?_⟩
    refine ew_int ?_
    refine ⟨_, _, rfl, rfl, ?_⟩
    by_cases hc : 0 < a
    · rw [if_pos (by simpa using hc)]
      refine bw_cons (sw_set (i := 3) h0 rfl (.inl rfl) ?_)
      refine ew_mod (ew_item (ew_var (i := 0) h0 rfl (.inl rfl) rfl (ew_int ?_)))
      refine ⟨_, _, rfl, ⟨_, Mem.put_same, rfl⟩, ?_⟩
      refine ew_var (i := 1) h0 rfl (.inl rfl) rfl ?_
      refine ⟨_, _, rfl, rfl, hm0, ?_⟩
      refine bw_cons (sw_asg h0 ?_)
      refine ew_fdiv (ew_item (ew_var (i := 0) h0 rfl (.inl rfl) rfl (ew_int ?_)))
      refine ⟨_, _, rfl, ⟨_, Mem.put_same, rfl⟩, ?_⟩
      refine ew_var (i := 1) h0 rfl (.inl rfl) rfl ?_
      refine ⟨_, _, rfl, rfl, cdx hm0 hm2, ?_⟩
      refine gw_cell (ew_var (i := 0) h0 rfl (.inl rfl) rfl (ew_int ?_))
      refine ⟨_, _, _, _, rfl, rfl, Mem.put_same, rfl, ?_⟩
      refine bw_one (sw_ret ?_)
      refine ew_var (i := 3) h0 rfl (.inl rfl) rfl ?_
      rw [upd]
      exact q _ _ (Int.fmod_nonneg_of_pos _ hm) (Int.fmod_lt_of_pos _ hm) ⟨ns, i, _, s, hl, rfl⟩
    · rw [if_neg (by simpa using hc)]
      refine bw_nil ?_
      refine bw_cons (sw_set (i := 4) h0 rfl (.inl rfl) ?_)
      refine ew_item (ew_var (i := 0) h0 rfl (.inl rfl) rfl (ew_int ?_))
      refine ⟨_, _, rfl, ⟨_, Mem.put_same, rfl⟩, ?_⟩
      refine bw_cons (sw_asg h0 ?_)
      refine ew_mod (ew_add (ew_add (ew_mul (ew_var (i := 4) h0 rfl (.inl rfl) rfl (ew_int ?_)))))
      refine ⟨_, _, rfl, rfl, CMul.ok (mul_r (by decide) (by decide)), ?_⟩
      refine ew_mul (ew_fdiv (ew_var (i := 4) h0 rfl (.inl rfl) rfl (ew_int ?_)))
      refine ⟨_, _, rfl, rfl, cdx (by decide) (by decide), ?_⟩
      refine ew_int ?_
      refine ⟨_, _, rfl, rfl, CMul.ok (mul_r (by decide) (by decide)), ?_⟩
      refine ⟨_, _, rfl, rfl, ?_⟩
      refine ew_int ?_
      refine ⟨_, _, rfl, rfl, ?_⟩
      refine ew_int ?_
      refine ⟨_, _, rfl, rfl, by decide, ?_⟩
      refine gw_cell (ew_var (i := 0) h0 rfl (.inl rfl) rfl (ew_int ?_))
      refine ⟨_, _, _, _, rfl, rfl, Mem.put_same, rfl, ?_⟩
      rw [upd]
      refine bw_one (sw_ret ?_)
      refine ew_mod (ew_add (ew_fdiv (ew_item (ew_var (i := 0) h0 rfl (.inl rfl) rfl (ew_int ?_)))))
      refine ⟨_, _, rfl, ⟨_, Mem.put_same, rfl⟩, ?_⟩
      refine ew_int ?_
      refine ⟨_, _, rfl, rfl, cdx (by decide) (by decide), ?_⟩
      refine ew_mul (ew_mod (ew_item (ew_var (i := 0) h0 rfl (.inl rfl) rfl (ew_int ?_))))
      refine ⟨_, _, rfl, ⟨_, Mem.put_same, rfl⟩, ?_⟩
      refine ew_int ?_
      refine ⟨_, _, rfl, rfl, by decide, ?_⟩
      refine ew_int ?_
      refine ⟨_, _, rfl, rfl, CMul.ok (mul_r (by decide) (by decide)), ?_⟩
      refine ⟨_, _, rfl, rfl, ?_⟩
      refine ew_var (i := 1) h0 rfl (.inl rfl) rfl ?_
      refine ⟨_, _, rfl, rfl, hm0, ?_⟩
      exact q _ _ (Int.fmod_nonneg_of_pos _ hm) (Int.fmod_lt_of_pos _ hm) ⟨ns, i, a, _, hl, rfl⟩
end K1

set_option Elab.async false
set_option linter.all false
set_option maxRecDepth 100000
set_option maxHeartbeats 4000000
namespace K1
open PySem PySem.Spec L2 LX
open PyProof.Rows hiding St
abbrev sPick : Stmt := top 10
theorem scPick : FnScope ["_law_rng", "_law_things"] ["_law_rng", "_law_things"] (defScope sPick) := ⟨rfl, rfl, rfl, by decide +kernel, rfl, by decide +kernel, by decide +kernel⟩
def ctPick : Ct := fun ds μ Q _ => ∃ (r : Addr) (d : D) (es : List D) (st : List D), ds = [.ref r, d] ∧ (d = .lst es ∨ d = .tup es) ∧ 0 < es.length ∧ es.length ≤ 1000 ∧ μ r = some (.lst st) ∧ RngOk st ∧ ∀ e st', e ∈ es → RngOk st' → Q e (μ.put r (.lst st'))
theorem ok_pick {W : Wd} {f : Addr} {fd : FuncData} (F : FnP W.K "_law_pick" sPick f fd) (g_len : W.mg "len" = none) (k_draw : Knows W "_law_draw" 1 ctDraw) : FOk W 2 f fd ["_law_rng", "_law_things"] ctPick := by
  refine def_ok F scPick (fun ds μ Q E ⟨a, _, _, _, e, _⟩ => by rw [e]; rfl) fun X B ds μ Q E hW hfn h0 ⟨r, d, es, st, e, hd, hp, hl, hr, hst, q⟩ => ?_
  subst hW e
  refine bw_one (sw_ret ?_)
  refine ew_item (ew_var (i := 1) h0 rfl (.inl rfl) rfl (ew_call h0 k_draw (by omega) (aw_cons (ew_var (i := 0) h0 rfl (.inl rfl) rfl (aw_cons (ew_len h0 g_len (aw_cons (ew_var (i := 1) h0 rfl (.inl rfl) rfl (aw_nil ?_)))))))))
  refine ⟨d, es.length, rfl, (by rcases hd with rfl | rfl <;> rfl), ?_⟩
  refine aw_nil ?_
  have hz : ((es.length : Int)).natAbs.log2 < 9000 := by
    rw [Int.natAbs_natCast]
    exact Nat.lt_of_le_of_lt (Nat.log2_le_self _) (by omega)
  refine ⟨r, es.length, st, rfl, by omega, hz, hr, hst, fun n st' h1 h2 h3 => ?_⟩
  obtain ⟨m, rfl⟩ := Int.eq_ofNat_of_zero_le h1
  have hm : m < es.length := by omega
  refine ⟨m, es[m], rfl, ?_, q _ _ (List.getElem_mem hm) h3⟩
  rcases hd with rfl | rfl
  · exact atI_nat (List.getElem?_eq_getElem hm)
  · exact atI_nat (List.getElem?_eq_getElem hm)

/-! ### greatest common divisors -/
abbrev sCd : Stmt := top 5
theorem scCd : FnScope ["one", "other"] ["one", "other"] (defScope sCd) := ⟨rfl, rfl, rfl, by decide +kernel, rfl, by decide +kernel, by decide +kernel⟩
abbrev sGcd : Stmt := top 14
theorem scGcd : FnScope ["_law_one", "_law_other"] ["_law_one", "_law_other"] (defScope sGcd) := ⟨rfl, rfl, rfl, by decide +kernel, rfl, by decide +kernel, by decide +kernel⟩
def ctCd : Ct := fun ds μ Q E => ∃ a b : Int, ds = [.int a, .int b] ∧ Q (.int (Int.gcd a b)) μ
theorem gcd_step (a b : Nat) (h : b ≠ 0) : Int.fmod (a : Int) (b : Int) = ((a % b : Nat) : Int) := by
  rw [Int.fmod_eq_emod_of_nonneg _ (by omega)]
  rfl
theorem ok_cd {W : Wd} {f : Addr} {fd : FuncData} (F : FnP W.K "common_divisor" sCd f fd) (gAbs : W.mg "abs" = none) : FOk W 1 f fd ["one", "other"] ctCd := by
  refine def_ok F scCd (fun ds μ Q E ⟨a, b, e, _⟩ => by rw [e]; rfl) fun X B ds μ Q E hW hfn h0 ⟨a, b, e, q⟩ => ?_
  subst hW e
  refine bw_cons (sw_par (i := 0) (j := 1) h0 rfl rfl (by decide) rfl rfl rfl ?_)
  refine ew_abs h0 gAbs (aw_cons (ew_var (i := 0) h0 rfl (.inl rfl) rfl (aw_nil ?_)))
  refine ⟨a, rfl, ?_⟩
  refine ew_abs h0 gAbs (aw_cons (ew_var (i := 1) h0 rfl (.inl rfl) rfl (aw_nil ?_)))
  refine ⟨b, rfl, ?_⟩
  refine bw_cons (sw_while h0 (fun n ρ μ' => μ' = μ ∧ ∃ x y : Nat, n = y ∧ Nat.gcd x y = Int.gcd a b ∧ ρ = [some (.int (x : Int)), some (.int (y : Int))]) ⟨rfl, _, _, rfl, rfl, rfl⟩ ?_)
  rintro n ρ μ' ⟨rfl, x, y, rfl, hg, rfl⟩
  refine tw_ne h0 (ew_var (i := 1) h0 rfl (.inl rfl) rfl (ew_int ?_))
  refine ⟨rfl, rfl, ?_⟩
  by_cases hy : n = 0
  · subst hy
    show BW X B _ _ _ _
    refine bw_one (sw_ret (ew_var (i := 0) h0 rfl (.inl rfl) rfl ?_))
    rw [Nat.gcd_zero_right] at hg
    rw [← hg] at q
    exact q
  · have e : (!D.eqv (.int (n : Int)) (.int 0)) = true := by
      show (!((n : Int) == 0)) = true
      simp; omega
    rw [if_pos e]
    refine bw_one (sw_par (i := 0) (j := 1) h0 rfl rfl (by decide) rfl rfl rfl ?_)
    refine ew_var (i := 1) h0 rfl (.inl rfl) rfl (ew_mod (ew_var (i := 0) h0 rfl (.inl rfl) rfl (ew_var (i := 1) h0 rfl (.inl rfl) rfl ?_)))
    refine ⟨_, _, rfl, rfl, by omega, ?_⟩
    rw [gcd_step _ _ hy]
    refine ⟨_, Nat.mod_lt x (by omega), rfl, n, x % n, rfl, ?_, rfl⟩
    rw [← hg, Nat.gcd_comm x n, Nat.gcd_rec n x, Nat.gcd_comm]
theorem ok_gcd {W : Wd} {f : Addr} {fd : FuncData} (F : FnP W.K "_law_gcd" sGcd f fd) (gAbs : W.mg "abs" = none) : FOk W 1 f fd ["_law_one", "_law_other"] ctCd := by
  refine def_ok F scGcd (fun ds μ Q E ⟨a, b, e, _⟩ => by rw [e]; rfl) fun X B ds μ Q E hW hfn h0 ⟨a, b, e, q⟩ => ?_
  subst hW e
  refine bw_cons (sw_par (i := 0) (j := 1) h0 rfl rfl (by decide) rfl rfl rfl ?_)
  refine ew_abs h0 gAbs (aw_cons (ew_var (i := 0) h0 rfl (.inl rfl) rfl (aw_nil ?_)))
  refine ⟨a, rfl, ?_⟩
  refine ew_abs h0 gAbs (aw_cons (ew_var (i := 1) h0 rfl (.inl rfl) rfl (aw_nil ?_)))
  refine ⟨b, rfl, ?_⟩
  refine bw_cons (sw_while h0 (fun n ρ μ' => μ' = μ ∧ ∃ x y : Nat, n = y ∧ Nat.gcd x y = Int.gcd a b ∧ ρ = [some (.int (x : Int)), some (.int (y : Int))]) ⟨rfl, _, _, rfl, rfl, rfl⟩ ?_)
  rintro n ρ μ' ⟨rfl, x, y, rfl, hg, rfl⟩
  refine tw_ne h0 (ew_var (i := 1) h0 rfl (.inl rfl) rfl (ew_int ?_))
  refine ⟨rfl, rfl, ?_⟩
  by_cases hy : n = 0
  · subst hy
    show BW X B _ _ _ _
    refine bw_one (sw_ret (ew_var (i := 0) h0 rfl (.inl rfl) rfl ?_))
    rw [Nat.gcd_zero_right] at hg
    rw [← hg] at q
    exact q
  · have e : (!D.eqv (.int (n : Int)) (.int 0)) = true := by
      show (!((n : Int) == 0)) = true
      simp; omega
    rw [if_pos e]
    refine bw_one (sw_par (i := 0) (j := 1) h0 rfl rfl (by decide) rfl rfl rfl ?_)
    refine ew_var (i := 1) h0 rfl (.inl rfl) rfl (ew_mod (ew_var (i := 0) h0 rfl (.inl rfl) rfl (ew_var (i := 1) h0 rfl (.inl rfl) rfl ?_)))
    refine ⟨_, _, rfl, rfl, by omega, ?_⟩
    rw [gcd_step _ _ hy]
    refine ⟨_, Nat.mod_lt x (by omega), rfl, n, x % n, rfl, ?_, rfl⟩
    rw [← hg, Nat.gcd_comm x n, Nat.gcd_rec n x, Nat.gcd_comm]

/-! ### lowest terms -/
abbrev sLowest : Stmt := top 6
theorem scLowest : FnScope ["numerator", "denominator", "shared"] ["numerator", "denominator"] (defScope sLowest) := ⟨rfl, rfl, rfl, by decide +kernel, rfl, by decide +kernel, by decide +kernel⟩
def ctLowest (CI : Addr) : Ct := fun ds μ Q E => ∃ n d : Int, ds = [.int n, .int d] ∧ (d = 0 → E ⟨CI, ["code"], [.str "InvalidNumber"]⟩ μ) ∧ (d ≠ 0 → d.natAbs.log2 < 9000 ∧ Q (encQ (Rat.divInt n d)) μ)
theorem ok_lowest {W : Wd} {f CI : Addr} {fd : FuncData} (F : FnP W.K "lowest" sLowest f fd) (k_cd : Knows W "common_divisor" 1 ctCd) (x_inv : XCls W "InvalidNumber" 2 CI ["code"] "InvalidNumber") : FOk W 4 f fd ["numerator", "denominator"] (ctLowest CI) := by
  refine def_ok F scLowest (fun ds μ Q E ⟨a, _, e, _⟩ => by rw [e]; rfl) fun X B ds μ Q E hW hfn h0 ⟨n, d, e, qE, q⟩ => ?_
  subst hW e
  refine bw_cons (sw_if ?_)
  refine tw_eq h0 (ew_var (i := 1) h0 rfl (.inl rfl) rfl (ew_int ?_))
  refine ⟨rfl, rfl, ?_⟩
  by_cases hd : d = 0
  · rw [if_pos (show D.eqv (.int d) (.int 0) = true from decide_eq_true hd)]
    exact bw_one (sw_raise0 h0 x_inv (by omega) (qE hd))
  · rw [if_neg (show ¬ D.eqv (.int d) (.int 0) = true from fun z => hd (of_decide_eq_true z))]
    refine bw_nil ?_
    obtain ⟨hb, q⟩ := q hd
    refine bw_cons (sw_set (i := 2) h0 rfl (.inl rfl) ?_)
    refine ew_call h0 k_cd (by omega) (aw_cons (ew_var (i := 0) h0 rfl (.inl rfl) rfl (aw_cons (ew_var (i := 1) h0 rfl (.inl rfl) rfl (aw_nil ?_)))))
    refine ⟨n, d, rfl, ?_⟩
    refine bw_mid (fun ρ' μ' => ρ' = [some (.int n), some (.int d), some (.int (lowS n d))] ∧ μ' = μ) ?_ ?_
    · refine sw_if ?_
      refine tw_lt (ew_var (i := 1) h0 rfl (.inl rfl) rfl (ew_int ?_))
      refine ⟨_, _, rfl, rfl, ?_⟩
      by_cases hc : d < 0
      · rw [if_pos (decide_eq_true hc)]
        refine bw_one (sw_set (i := 2) h0 rfl (.inl rfl) ?_)
        refine ew_neg (ew_var (i := 2) h0 rfl (.inl rfl) rfl ?_)
        refine ⟨_, rfl, ?_, rfl⟩
        unfold lowS
        rw [if_pos hc]
        rfl
      · rw [if_neg (by rw [decide_eq_false hc]; exact Bool.false_ne_true)]
        refine bw_nil ⟨?_, rfl⟩
        unfold lowS
        rw [if_neg hc]
        rfl
    · rintro ρ' μ' ⟨rfl, rfl⟩
      refine bw_one (sw_ret ?_)
      refine ew_tup (aw_cons (ew_fdiv (ew_var (i := 0) h0 rfl (.inl rfl) rfl (ew_var (i := 2) h0 rfl (.inl rfl) rfl ?_))))
      refine ⟨_, _, rfl, rfl, cdx (lowS_ne hd) (low_log hd hb), ?_⟩
      refine aw_cons (ew_fdiv (ew_var (i := 1) h0 rfl (.inl rfl) rfl (ew_var (i := 2) h0 rfl (.inl rfl) rfl ?_)))
      refine ⟨_, _, rfl, rfl, cdx (lowS_ne hd) (low_log hd hb), ?_⟩
      refine aw_nil ?_
      refine ⟨len_ok, ?_⟩
      rw [low_num hd, low_den hd]
      exact q
abbrev sLow : Stmt := top 15
theorem scLow : FnScope ["_law_top", "_law_bottom", "_law_shared"] ["_law_top", "_law_bottom"] (defScope sLow) := ⟨rfl, rfl, rfl, by decide +kernel, rfl, by decide +kernel, by decide +kernel⟩
def ctLow : Ct := fun ds μ Q E => ∃ n d : Int, ds = [.int n, .int d] ∧ d ≠ 0 ∧ d.natAbs.log2 < 9000 ∧ Q (encQ (Rat.divInt n d)) μ
theorem ok_low {W : Wd} {f : Addr} {fd : FuncData} (F : FnP W.K "_law_low" sLow f fd) (k_cd : Knows W "_law_gcd" 1 ctCd) : FOk W 2 f fd ["_law_top", "_law_bottom"] ctLow := by
  refine def_ok F scLow (fun ds μ Q E ⟨a, _, e, _⟩ => by rw [e]; rfl) fun X B ds μ Q E hW hfn h0 ⟨n, d, e, hd, hb, q⟩ => ?_
  subst hW e
  refine bw_cons (sw_set (i := 2) h0 rfl (.inl rfl) ?_)
  refine ew_call h0 k_cd (by omega) (aw_cons (ew_var (i := 0) h0 rfl (.inl rfl) rfl (aw_cons (ew_var (i := 1) h0 rfl (.inl rfl) rfl (aw_nil ?_)))))
  refine ⟨n, d, rfl, ?_⟩
  refine bw_mid (fun ρ' μ' => ρ' = [some (.int n), some (.int d), some (.int (lowS n d))] ∧ μ' = μ) ?_ ?_
  · refine sw_if ?_
    refine tw_lt (ew_var (i := 1) h0 rfl (.inl rfl) rfl (ew_int ?_))
    refine ⟨_, _, rfl, rfl, ?_⟩
    by_cases hc : d < 0
    · rw [if_pos (decide_eq_true hc)]
      refine bw_one (sw_set (i := 2) h0 rfl (.inl rfl) ?_)
      refine ew_neg (ew_var (i := 2) h0 rfl (.inl rfl) rfl ?_)
      refine ⟨_, rfl, ?_, rfl⟩
      unfold lowS
      rw [if_pos hc]
      rfl
    · rw [if_neg (by rw [decide_eq_false hc]; exact Bool.false_ne_true)]
      refine bw_nil ⟨?_, rfl⟩
      unfold lowS
      rw [if_neg hc]
      rfl
  · rintro ρ' μ' ⟨rfl, rfl⟩
    refine bw_one (sw_ret ?_)
    refine ew_tup (aw_cons (ew_fdiv (ew_var (i := 0) h0 rfl (.inl rfl) rfl (ew_var (i := 2) h0 rfl (.inl rfl) rfl ?_))))
    refine ⟨_, _, rfl, rfl, cdx (lowS_ne hd) (low_log hd hb), ?_⟩
    refine aw_cons (ew_fdiv (ew_var (i := 1) h0 rfl (.inl rfl) rfl (ew_var (i := 2) h0 rfl (.inl rfl) rfl ?_)))
    refine ⟨_, _, rfl, rfl, cdx (lowS_ne hd) (low_log hd hb), ?_⟩
    refine aw_nil ?_
    refine ⟨len_ok, ?_⟩
    rw [low_num hd, low_den hd]
    exact q
end K1

set_option Elab.async false
set_option linter.all false
set_option maxRecDepth 100000
set_option maxHeartbeats 4000000
namespace K1
open PySem PySem.Spec L2 LX
open PyProof.Rows hiding St
/-! ### _law_same of equal data -/
mutual
/-- data that _law_same compares, nested no deeper than n -/
def okS : Nat → D → Bool
  | _, .non => true
  | _, .bl _ => true
  | _, .int _ => true
  | _, .str x => D.plain (.str x)
  | n + 1, .tup ds => Nat.ble ds.length 1000000 && okSL n ds
  | n + 1, .lst ds => Nat.ble ds.length 1000000 && okSL n ds
  | _, _ => false
def okSL : Nat → List D → Bool
  | _, [] => true
  | n, d :: ds => okS n d && okSL n ds
end
theorem okSL_mem {n : Nat} {d : D} : ∀ {ds : List D}, okSL n ds = true → d ∈ ds → okS n d = true
  | [], _, m => by simp at m
  | e :: ds, h, m => by
    have h' := Bool.and_eq_true_iff.mp (show (okS n e && okSL n ds) = true from by simpa [okSL] using h)
    rcases List.mem_cons.mp m with rfl | m
    · exact h'.1
    · exact okSL_mem h'.2 m
abbrev sSame : Stmt := top 11
theorem scSame : FnScope ["_law_result", "_law_expected"] ["_law_result", "_law_expected"] (defScope sSame) := ⟨rfl, rfl, rfl, by decide +kernel, rfl, by decide +kernel, by decide +kernel⟩
def ctSame (n : Nat) : Ct := fun ds μ Q _ => ∃ d : D, ds = [d, d] ∧ okS n d = true ∧ Q (.bl true) μ
structure SameG (W : Wd) : Prop where
  isi : W.mg "isinstance" = none
  list : W.mg "list" = none
  tuple : W.mg "tuple" = none
  bool : W.mg "bool" = none
  int : W.mg "int" = none
  str : W.mg "str" = none
  len : W.mg "len" = none
  all : W.mg "all" = none
  zip : W.mg "zip" = none
theorem zip_same {f : D → D} : ∀ (ds : List D), (∀ d ∈ ds, f (.tup [d, d]) = .bl true) → (zipD ds ds).map f = (ds.map fun _ => true).map .bl
  | [], _ => rfl
  | d :: ds, h => by
    have := zip_same (f := f) ds fun x hx => h x (List.mem_cons_of_mem _ hx)
    unfold zipD at this ⊢
    rw [List.zipWith_cons_cons, List.map_cons, List.map_cons, List.map_cons, this, h d List.mem_cons_self]
theorem mem_zip_same {d : D} : ∀ {ds : List D}, d ∈ zipD ds ds → ∃ e ∈ ds, d = .tup [e, e]
  | [], h => by simp [zipD] at h
  | e :: ds, h => by
    unfold zipD at h
    rw [List.zipWith_cons_cons] at h
    rcases List.mem_cons.mp h with rfl | h
    · exact ⟨e, List.mem_cons_self, rfl⟩
    · obtain ⟨x, h1, h2⟩ := mem_zip_same (ds := ds) h
      exact ⟨x, List.mem_cons_of_mem _ h1, h2⟩
theorem zip_len {ds : List D} : (zipD ds ds).length = ds.length := by simp [zipD]
theorem all_true (ds : List D) : (ds.map fun _ => true).all id = true := by
  induction ds with
  | nil => rfl
  | cons d ds ih => simpa using ih
def nSame : List Str := ["_law_result", "_law_expected", "_law_a", "_law_b"]
theorem kt_ll : kitB "list" "list" = some true := by decide +kernel
theorem kt_lt : kitB "list" "tuple" = some false := by decide +kernel
theorem kt_tl : kitB "tuple" "list" = some false := by decide +kernel
theorem kt_tt : kitB "tuple" "tuple" = some true := by decide +kernel
section
variable {X : Cx} {B : Hp} {μ : Mem} {k : Nat} {EX : Exc → LEnv → Mem → Prop} {Q : D → Mem → Prop}
/-- isinstance(name, type) -/
theorem isi_v {i : Nat} {x : Str} {d : D} {ρ : LEnv} {T : Str} {t tn : String} {b : Bool} {N : List Str} {sc : Scope} {p1 p2 p3 pos : Pos} (h0 : Ok X N sc k B EX) (g : X.mg "isinstance" = none) (gT : X.mg T = none) (hT : sc.names.lookup T = some .globalImplicit) (hv : bootBuiltins T = some (.type t)) (hn : T ≠ "__name__") (hdb : (T == ("__debug__" : Str)) = false)
    (hN : N[i]? = some x) (hx : Vis sc x) (hd : ρ[i]? = some (some d)) (h1 : (x == ("__debug__" : Str)) = false) (h2 : (x == ("__classdict__" : Str)) = false) (ht : d.tyNm = some tn) (hk : kitB tn t = some b) (q : Q (.bl b) μ) (hg : sc.names.lookup ("isinstance" : Str) = some .globalImplicit) : EW X B (.Call (.Name "isinstance" p1) [.Name x p2, .Name T p3] [] pos) ρ μ Q :=
  ew_isi h0 g (aw_cons (ew_var (i := i) h0 hN hx hd (aw_cons (ew_ty h0 hT gT hv (aw_nil ⟨d, t, tn, b, rfl, ht, hk, q⟩) hn hdb)) h1 h2)) hg
end
theorem same_step {W : Wd} {f : Addr} {fd : FuncData} (F : FnP W.K "_law_same" sSame f fd) (gs : SameG W) (n : Nat) (hrec : ∀ m, n = m + 1 → Knows W "_law_same" (m + 1) (ctSame m)) : FOk W (n + 1) f fd ["_law_result", "_law_expected"] (ctSame n) := by
  refine def_ok (N := nSame) F ⟨rfl, rfl, rfl, by decide +kernel, rfl, by decide +kernel, by decide +kernel⟩ (fun ds μ Q E ⟨a, e, _⟩ => by rw [e]; rfl) fun X B ds μ Q E hW hfn h0 ⟨d, e, ho, q⟩ => ?_
  subst hW e
  have seq : ∀ (ds : List D) (tl tt : Bool), (d = .lst ds ∧ tl = true ∧ tt = false) ∨ (d = .tup ds ∧ tl = false ∧ tt = true) → BW X B (defBody sSame) (startD nSame [d, d]) μ { nx := fun _ μ' => Q .non μ', rt := Q } := by
    intro ds tl tt hd
    have kl : ∃ tn, d.tyNm = some tn ∧ kitB tn "list" = some tl ∧ kitB tn "tuple" = some tt := by
      rcases hd with ⟨rfl, rfl, rfl⟩ | ⟨rfl, rfl, rfl⟩
      · exact ⟨_, rfl, kt_ll, kt_lt⟩
      · exact ⟨_, rfl, kt_tl, kt_tt⟩
    obtain ⟨tn, ht, k1, k2⟩ := kl
    have hone : tl = true ∨ tt = true := by rcases hd with ⟨_, h, _⟩ | ⟨_, _, h⟩ <;> simp [h]
    obtain ⟨m, hm, hz, hds⟩ : ∃ m, n = m + 1 ∧ ds.length ≤ 1000000 ∧ okSL m ds = true := by
      rcases hd with ⟨rfl, _⟩ | ⟨rfl, _⟩
      all_goals
        cases n with
        | zero => simp [okS] at ho
        | succ m =>
          simp only [okS, Bool.and_eq_true] at ho
          exact ⟨m, rfl, Nat.le_of_ble_eq_true ho.1, ho.2⟩
    have kn := hrec m hm
    have rest : BW X B (defBody sSame).tail.tail (startD nSame [d, d]) μ { nx := fun _ μ' => Q .non μ', rt := Q } → True := fun _ => trivial
    have inner : BW X B (match (defBody sSame).head? with | some (.If _ t _ _) => t | _ => []) (startD nSame [d, d]) μ { nx := fun _ _ => False, rt := Q } := by
      refine bw_cons (sw_if ?_)
      refine ww_tw (ww_or (tw_ne h0 ?_))
      refine isi_v (i := 0) h0 gs.isi gs.list rfl boot_list (by decide) (by decide) rfl (.inl rfl) rfl (by decide) (by decide) ht k1 ?_ rfl
      refine isi_v (i := 1) h0 gs.isi gs.list rfl boot_list (by decide) (by decide) rfl (.inl rfl) rfl (by decide) (by decide) ht k1 ?_ rfl
      refine ⟨rfl, rfl, ?_⟩
      refine it_no (by rw [eqv_bl, decide_eq_true rfl]; rfl) ?_
      refine ww_or1 (tw_ne h0 ?_)
      refine isi_v (i := 0) h0 gs.isi gs.tuple rfl boot_tuple (by decide) (by decide) rfl (.inl rfl) rfl (by decide) (by decide) ht k2 ?_ rfl
      refine isi_v (i := 1) h0 gs.isi gs.tuple rfl boot_tuple (by decide) (by decide) rfl (.inl rfl) rfl (by decide) (by decide) ht k2 ?_ rfl
      refine ⟨rfl, rfl, ?_⟩
      refine it_no (by rw [eqv_bl, decide_eq_true rfl]; rfl) ?_
      refine bw_nil ?_
      refine bw_one (sw_ret ?_)
      have hlen : LenD d μ ds.length := by rcases hd with ⟨rfl, _⟩ | ⟨rfl, _⟩ <;> rfl
      refine ew_and (ew_eq h0 (ew_len h0 gs.len (aw_cons (ew_var (i := 0) h0 rfl (.inl rfl) rfl (aw_nil ?_)))))
      refine ⟨_, _, rfl, hlen, ?_⟩
      refine ew_len h0 gs.len (aw_cons (ew_var (i := 1) h0 rfl (.inl rfl) rfl (aw_nil ?_)))
      refine ⟨_, _, rfl, hlen, ?_⟩
      refine ⟨rfl, rfl, ?_⟩
      refine ⟨_, rfl, ?_⟩
      refine it_yes (by rw [eqv_int, decide_eq_true rfl]) ?_
      refine ew_one (ew_all h0 gs.all (aw_cons (ew_lcP (own := [("_law_a", 2), ("_law_b", 3)]) h0 (by decide +kernel) ?_)))
      refine iw_zip h0 gs.zip (ew_var (i := 0) h0 rfl (.inl rfl) rfl (ew_var (i := 1) h0 rfl (.inl rfl) rfl ?_))
      refine ⟨ds, ds, (by rcases hd with ⟨rfl, _⟩ | ⟨rfl, _⟩ <;> simp), ?_⟩
      refine ⟨by rw [zip_len]; exact small_line hz, (fun d => match d with | .tup [_, _] => .bl true | _ => .non), fun e he => ?_, ?_⟩
      · obtain ⟨x, hx, rfl⟩ := mem_zip_same he
        refine ⟨_, .tup (.cons (.name (i := 2) rfl rfl (by decide)) (.cons (.name (i := 3) rfl rfl (by decide)) .nil (fun _ => rfl)) (fun _ => rfl)) (fun _ => rfl) (fun _ => rfl), fun X' μ' hX _ => ?_⟩
        refine ew_call (j := m + 1) (ct := ctSame m) hX.ok (by rw [hX.w]; exact kn) (by omega) (aw_cons (ew_var (i := 2) hX.ok rfl (.inl rfl) rfl (aw_cons (ew_var (i := 3) hX.ok rfl (.inl rfl) rfl (aw_nil ?_)))))
        exact ⟨x, rfl, okSL_mem hds hx, rfl, rfl⟩
      · refine aw_nil ?_
        refine ⟨_, ds.map fun _ => true, rfl, ?_, ?_⟩
        · exact zip_same ds fun _ _ => rfl
        · rw [all_true]
          exact q
    refine bw_cons (sw_if ?_)
    have inner' : BW X B (match (defBody sSame).head? with | some (.If _ t _ _) => t | _ => []) (startD nSame [d, d]) μ { nx := fun ρ1 μ1 => BW X B (defBody sSame).tail ρ1 μ1 { nx := fun _ μ' => Q .non μ', rt := Q }, rt := Q } := inner.mono ⟨fun _ _ z => z.elim, fun _ _ z => z, fun _ _ z => z, fun _ _ z => z⟩
    refine ww_tw (ww_or (tw_val ?_))
    refine isi_v (i := 1) h0 gs.isi gs.list rfl boot_list (by decide) (by decide) rfl (.inl rfl) rfl (by decide) (by decide) ht k1 ?_ rfl
    refine ⟨_, rfl, ?_⟩
    cases tl with
    | true => exact inner'
    | false =>
      refine it_no rfl ?_
      refine ww_or1 (tw_val ?_)
      refine isi_v (i := 1) h0 gs.isi gs.tuple rfl boot_tuple (by decide) (by decide) rfl (.inl rfl) rfl (by decide) (by decide) ht k2 ?_ rfl
      refine ⟨_, rfl, ?_⟩
      cases tt with
      | true => exact inner'
      | false => rcases hone with h | h <;> cases h
  have sca : ∀ (tn : String) (b1 b2 b3 : Bool), d.tyNm = some tn → kitB tn "list" = some false → kitB tn "tuple" = some false → kitB tn "bool" = some b1 → kitB tn "int" = some b2 → kitB tn "str" = some b3 → d.plain = true → D.eqv d d = true → BW X B (defBody sSame) (startD nSame [d, d]) μ { nx := fun _ μ' => Q .non μ', rt := Q } := by
    intro tn b1 b2 b3 ht k1 k2 k3 k4 k5 hp he
    refine bw_cons (sw_if ?_)
    refine ww_tw (ww_or (tw_val ?_))
    refine isi_v (i := 1) h0 gs.isi gs.list rfl boot_list (by decide) (by decide) rfl (.inl rfl) rfl (by decide) (by decide) ht k1 ?_ rfl
    refine ⟨_, rfl, ?_⟩
    refine it_no rfl ?_
    refine ww_or1 (tw_val ?_)
    refine isi_v (i := 1) h0 gs.isi gs.tuple rfl boot_tuple (by decide) (by decide) rfl (.inl rfl) rfl (by decide) (by decide) ht k2 ?_ rfl
    refine ⟨_, rfl, ?_⟩
    refine it_no rfl ?_
    refine bw_nil ?_
    refine bw_cons (sw_if ?_)
    refine ww_tw (ww_or (tw_isN (ew_var (i := 0) h0 rfl (.inl rfl) rfl ?_)))
    cases hn : d.isNon with
    | true =>
      refine it_yes rfl ?_
      refine bw_one (sw_ret ?_)
      refine ew_and (ew_isN (ew_var (i := 0) h0 rfl (.inl rfl) rfl ?_))
      refine ⟨_, rfl, ?_⟩
      refine it_yes hn ?_
      refine ew_one (ew_isN (ew_var (i := 1) h0 rfl (.inl rfl) rfl ?_))
      rw [hn]
      exact q
    | false =>
      refine it_no rfl ?_
      refine ww_or1 (tw_isN (ew_var (i := 1) h0 rfl (.inl rfl) rfl ?_))
      refine it_no hn ?_
      refine bw_nil ?_
      refine bw_cons (sw_if ?_)
      refine ww_tw (ww_or (tw_ne h0 ?_))
      refine isi_v (i := 0) h0 gs.isi gs.bool rfl (by decide +kernel) (by decide) (by decide) rfl (.inl rfl) rfl (by decide) (by decide) ht k3 ?_ rfl
      refine isi_v (i := 1) h0 gs.isi gs.bool rfl (by decide +kernel) (by decide) (by decide) rfl (.inl rfl) rfl (by decide) (by decide) ht k3 ?_ rfl
      refine ⟨rfl, rfl, ?_⟩
      refine it_no (by rw [eqv_bl, decide_eq_true rfl]; rfl) ?_
      refine ww_or1 (tw_ne h0 ?_)
      refine isi_v (i := 0) h0 gs.isi gs.int rfl (by decide +kernel) (by decide) (by decide) rfl (.inl rfl) rfl (by decide) (by decide) ht k4 ?_ rfl
      refine isi_v (i := 1) h0 gs.isi gs.int rfl (by decide +kernel) (by decide) (by decide) rfl (.inl rfl) rfl (by decide) (by decide) ht k4 ?_ rfl
      refine ⟨rfl, rfl, ?_⟩
      refine it_no (by rw [eqv_bl, decide_eq_true rfl]; rfl) ?_
      refine bw_nil ?_
      refine bw_one (sw_ret ?_)
      refine ew_and (ew_eq h0 ?_)
      refine isi_v (i := 0) h0 gs.isi gs.str rfl (by decide +kernel) (by decide) (by decide) rfl (.inl rfl) rfl (by decide) (by decide) ht k5 ?_ rfl
      refine isi_v (i := 1) h0 gs.isi gs.str rfl (by decide +kernel) (by decide) (by decide) rfl (.inl rfl) rfl (by decide) (by decide) ht k5 ?_ rfl
      refine ⟨rfl, rfl, ?_⟩
      refine ⟨_, rfl, ?_⟩
      refine it_yes (by rw [eqv_bl, decide_eq_true rfl]) ?_
      refine ew_one (ew_eq h0 (ew_var (i := 0) h0 rfl (.inl rfl) rfl (ew_var (i := 1) h0 rfl (.inl rfl) rfl ?_)))
      refine ⟨hp, hp, ?_⟩
      rw [he]
      exact q
  cases d with
  | non => exact sca _ _ _ _ rfl (by decide +kernel) (by decide +kernel) (by decide +kernel : kitB "NoneType" "bool" = some false) (by decide +kernel : kitB "NoneType" "int" = some false) (by decide +kernel : kitB "NoneType" "str" = some false) rfl rfl
  | bl b => exact sca _ _ _ _ rfl (by decide +kernel) (by decide +kernel) (by decide +kernel : kitB "bool" "bool" = some true) (by decide +kernel : kitB "bool" "int" = some true) (by decide +kernel : kitB "bool" "str" = some false) rfl (by rw [eqv_bl]; exact decide_eq_true rfl)
  | int b => exact sca _ _ _ _ rfl (by decide +kernel) (by decide +kernel) (by decide +kernel : kitB "int" "bool" = some false) (by decide +kernel : kitB "int" "int" = some true) (by decide +kernel : kitB "int" "str" = some false) rfl (by rw [eqv_int]; exact decide_eq_true rfl)
  | str b => exact sca _ _ _ _ rfl (by decide +kernel) (by decide +kernel) (by decide +kernel : kitB "str" "bool" = some false) (by decide +kernel : kitB "str" "int" = some false) (by decide +kernel : kitB "str" "str" = some true) (by cases n <;> simpa [okS] using ho) (by rw [eqv_str]; exact decide_eq_true rfl)
  | tup ds => exact seq ds false true (.inr ⟨rfl, rfl, rfl⟩)
  | lst ds => exact seq ds true false (.inl ⟨rfl, rfl, rfl⟩)
  | ty _ => cases n <;> simp [okS] at ho
  | ref _ => cases n <;> simp [okS] at ho
  | ins _ _ _ => cases n <;> simp [okS] at ho
theorem ok_same {W : Wd} {f : Addr} {fd : FuncData} (F : FnP W.K "_law_same" sSame f fd) (g : W.mg "_law_same" = some (.ref f)) (bd : Binds W.K fd ["_law_result", "_law_expected"] []) (gs : SameG W) : ∀ n, Knows W "_law_same" (n + 1) (ctSame n) := by
  intro n
  induction n with
  | zero => exact ⟨f, fd, _, g, F.kp, bd, same_step F gs 0 fun m h => by omega⟩
  | succ n ih => exact ⟨f, fd, _, g, F.kp, bd, same_step F gs (n + 1) fun m h => by
    have e : m = n := by omega
    rw [e]
    exact ih⟩
end K1

set_option Elab.async false
set_option linter.all false
set_option maxRecDepth 100000
set_option maxHeartbeats 4000000
namespace K1
open PySem PySem.Spec L2 LX LamX
open PyProof.Rows hiding St
abbrev sLaw : Stmt := top 16
def nLaw : List Str := ["_law_script", "_law_rng", "_law_turn", "_law_great", "_law_told", "_law_numerator", "_law_denominator", "_law_bottom", "_law_top"]
theorem scLaw : FnScope nLaw ["_law_script"] (defScope sLaw) := ⟨rfl, rfl, rfl, by decide +kernel, rfl, by decide +kernel, by decide +kernel⟩
theorem field_inv : fieldNm ("InvalidNumber" : Str) = none := by decide +kernel
theorem log_small {i : Int} (h : i.natAbs < 2 ^ 200) : i.natAbs.log2 < 9000 := by
  by_cases z : i.natAbs = 0
  · rw [z]; decide
  · exact Nat.lt_of_lt_of_le ((Nat.log2_lt z).mpr h) (by decide)
theorem big {i : Nat} (h : i < 2 ^ 200) : i < 2 ^ 10000 := Nat.lt_of_lt_of_le h (Nat.pow_le_pow_right (by decide) (by decide))
def great (g : Int) : Prop := 1 ≤ g ∧ g ≤ 10 ^ 40
theorem great_mem {e : D} (h : e ∈ [D.int 1, D.int 1, D.int 7, D.int 60, D.int (10 ^ (40 : Int).toNat)]) : ∃ g, e = .int g ∧ great g := by
  simp only [List.mem_cons, List.mem_nil_iff, or_false] at h
  rcases h with rfl | rfl | rfl | rfl | rfl
  · exact ⟨_, rfl, by decide, by decide⟩
  · exact ⟨_, rfl, by decide, by decide⟩
  · exact ⟨_, rfl, by decide, by decide⟩
  · exact ⟨_, rfl, by decide, by decide⟩
  · exact ⟨_, rfl, by decide, by decide⟩
theorem mul_le {a b A B : Nat} (h1 : a ≤ A) (h2 : b ≤ B) : a * b ≤ A * B := Nat.mul_le_mul h1 h2
theorem top_small {a g b c : Int} (h1 : 0 ≤ a) (h2 : a < 2001) (hg : great g) (h3 : 0 ≤ b) (h4 : b < 2) (h5 : 0 ≤ c) (h6 : c < 10 ^ (18 : Int).toNat) : ((a - 1000) * g + b * c).natAbs < 2 ^ 190 := by
  have e1 : ((a - 1000) * g).natAbs ≤ 1000 * 10 ^ 40 := by
    rw [Int.natAbs_mul]
    exact mul_le (by omega) (by have := hg.1; have := hg.2; omega)
  have e2 : (b * c).natAbs ≤ 1 * 10 ^ 18 := by
    rw [Int.natAbs_mul]
    have h6' : c < 10 ^ 18 := h6
    exact mul_le (by omega) (by omega)
  have e3 := Int.natAbs_add_le ((a - 1000) * g) (b * c)
  have e4 : 1000 * 10 ^ 40 + 1 * 10 ^ 18 < 2 ^ 190 := by decide
  omega
theorem bot_small {a g : Int} (h1 : 0 ≤ a) (h2 : a < 41) (hg : great g) : ((a - 20) * g).natAbs < 2 ^ 190 := by
  have e1 : ((a - 20) * g).natAbs ≤ 20 * 10 ^ 40 := by
    rw [Int.natAbs_mul]
    exact mul_le (by omega) (by have := hg.1; have := hg.2; omega)
  have e4 : 20 * 10 ^ 40 < 2 ^ 190 := by decide
  omega
theorem okS_encQ (q : Rat) : okS 1 (encQ q) = true := rfl
theorem ok_law {W : Wd} {f : Addr} {fd : FuncData} {CI CB CM g c P : Addr} {sg : Scope} {bg : List Stmt} (F : FnP W.K "law" sLaw f fd) (k_draws : Knows W "_law_draws" 1 ctDraws) (k_draw : Knows W "_law_draw" 1 ctDraw) (k_pick : Knows W "_law_pick" 2 ctPick)
    (k_same : ∀ n, Knows W "_law_same" (n + 1) (ctSame n)) (k_gcd : Knows W "_law_gcd" 1 ctCd) (k_low : Knows W "_law_low" 2 ctLow) (k_lowest : Knows W "lowest" 4 (ctLowest CI)) (D1 : TryD W 4 g sg bg CB CM) (xr : XRd W.K CI) (ca : Catch W.K CB CM CI) (g_range : W.mg "range" = none)
    (TB : TabB W.base W.mg c P) (hc : fd.code = .ref c) : FOk W 7 f fd ["_law_script"] (ctLaw [(P, "law.<locals>.<lambda>")]) := by
  refine def_okC F scLaw (fun ds μ Q E ⟨a, _, _, e, _⟩ => by rw [e]; rfl) fun X B ds μ Q E hW hfn hcode hqual h0 ⟨ns, hl, _, e, hμ, q⟩ => ?_
  subst hW e
  have hT0 : TabsIn [(P, ("law.<locals>.<lambda>" : Str))] μ := by
    rw [hμ]
    refine muT_in fun p hp => ?_
    rw [List.mem_singleton.mp hp]
    simp
  have hql : X.env.qual ++ "<lambda>" = ("law.<locals>.<lambda>" : Str) := by rw [hqual]; decide +kernel
  refine bw_cons (sw_set (i := 1) h0 rfl (.inl rfl) ?_)
  refine ew_call h0 k_draws (by omega) (aw_cons (ew_var (i := 0) h0 rfl (.inl rfl) rfl (aw_nil ?_)))
  refine ⟨ns, hl, rfl, fun r st0 hr hst0 => ?_⟩
  have hT : ∀ st, TabsIn [(P, ("law.<locals>.<lambda>" : Str))] (μ.put r (.lst st)) := fun st => hT0.put (fun q z => by rw [hr] at z; cases z) fun q z => by cases z
  refine bw_cons (sw_for h0 ?_)
  refine iw_range1 h0 g_range (ew_int ?_)
  refine ⟨8, rfl, by decide, ?_⟩
  refine fl_inv (fun ρ μ' => ∃ x2 x3 x4 x5 x6 x7 x8 st, RngOk st ∧ ρ = [some (.lst (ns.map .int)), some (.ref r), x2, x3, x4, x5, x6, x7, x8] ∧ μ' = μ.put r (.lst st)) ?_ ?_ ?_
  rotate_left
  · rintro ρ μ' ⟨x2, x3, x4, x5, x6, x7, x8, st, hst, rfl, rfl⟩
    exact bw_one (sw_ret (ew_bl (q _)))
  · exact ⟨_, _, _, _, _, _, _, st0, hst0, rfl, rfl⟩
  rintro d - ρ μ' ⟨x2, x3, x4, x5, x6, x7, x8, st, hst, rfl, rfl⟩
  refine gw_name (i := 2) h0 rfl (.inl rfl) ?_
  -- great
  refine bw_cons (sw_set (i := 3) h0 rfl (.inl rfl) ?_)
  refine ew_call h0 k_pick (by omega) (aw_cons (ew_var (i := 1) h0 rfl (.inl rfl) rfl (aw_cons (ew_lst (aw_cons (ew_int (aw_cons (ew_int (aw_cons (ew_int (aw_cons (ew_int (aw_cons (ew_pow (ew_int (ew_int ?_))))))))))))))))
  refine ⟨_, _, rfl, rfl, cpow (by decide) (by decide) (by decide), ?_⟩
  refine aw_nil ?_
  refine ⟨len_ok, ?_⟩
  refine aw_nil ?_
  refine ⟨r, _, _, st, rfl, .inl rfl, by decide, by decide, Mem.put_same, hst, fun e st1 he hst1 => ?_⟩
  obtain ⟨g, rfl, hg⟩ := great_mem he
  rw [Mem.put_put]
  -- top
  refine bw_cons (sw_set (i := 8) h0 rfl (.inr rfl) ?_ (hf := .inl (hfn _)))
  refine ew_add (ew_mul (ew_sub (ew_call h0 k_draw (by omega) (aw_cons (ew_var (i := 1) h0 rfl (.inl rfl) rfl (aw_cons (ew_int (aw_nil ?_))))))))
  refine ⟨r, _, _, rfl, by decide, by decide, Mem.put_same, hst1, fun a st2 ha1 ha2 hst2 => ?_⟩
  rw [Mem.put_put]
  refine ew_int ?_
  refine ⟨_, _, rfl, rfl, ?_⟩
  refine ew_var (i := 3) h0 rfl (.inl rfl) rfl ?_
  refine ⟨_, _, rfl, rfl, CMul.ok (mul_l (by omega) (by omega)), ?_⟩
  refine ew_mul (ew_call h0 k_draw (by omega) (aw_cons (ew_var (i := 1) h0 rfl (.inl rfl) rfl (aw_cons (ew_int (aw_nil ?_))))))
  refine ⟨r, _, _, rfl, by decide, by decide, Mem.put_same, hst2, fun b st3 hb1 hb2 hst3 => ?_⟩
  rw [Mem.put_put]
  refine ew_call h0 k_draw (by omega) (aw_cons (ew_var (i := 1) h0 rfl (.inl rfl) rfl (aw_cons (ew_pow (ew_int (ew_int ?_))))))
  refine ⟨_, _, rfl, rfl, cpow (by decide) (by decide) (by decide), ?_⟩
  refine aw_nil ?_
  refine ⟨r, _, _, rfl, by decide, by decide, Mem.put_same, hst3, fun cc st4 hc1 hc2 hst4 => ?_⟩
  rw [Mem.put_put]
  refine ⟨_, _, rfl, rfl, CMul.ok (mul_l (by omega) (by omega)), ?_⟩
  refine ⟨_, _, rfl, rfl, ?_⟩
  -- bottom
  refine bw_cons (sw_set (i := 7) h0 rfl (.inr rfl) ?_ (hf := .inl (hfn _)))
  refine ew_mul (ew_sub (ew_call h0 k_draw (by omega) (aw_cons (ew_var (i := 1) h0 rfl (.inl rfl) rfl (aw_cons (ew_int (aw_nil ?_)))))))
  refine ⟨r, _, _, rfl, by decide, by decide, Mem.put_same, hst4, fun dd st5 hd1 hd2 hst5 => ?_⟩
  rw [Mem.put_put]
  refine ew_int ?_
  refine ⟨_, _, rfl, rfl, ?_⟩
  refine ew_var (i := 3) h0 rfl (.inl rfl) rfl ?_
  refine ⟨_, _, rfl, rfl, CMul.ok (mul_l (by omega) (by omega)), ?_⟩
  have hn := top_small ha1 ha2 hg hb1 hb2 hc1 hc2
  have hm := bot_small hd1 hd2 hg
  generalize (a - 1000) * g + b * cc = n at hn ⊢
  generalize (dd - 20) * g = m at hm ⊢
  have hm9 : m.natAbs.log2 < 9000 := log_small (Nat.lt_trans hm (by decide))
  -- told
  refine bw_cons (sw_set (i := 4) h0 rfl (.inl rfl) ?_)
  refine ew_try h0 D1 TB (hcode.trans hc) (hT _) (by rw [hql]; exact List.mem_singleton.mpr rfl) (by omega) (lamS_by rfl) (fun X' B' hX' h0' => ?_)
  refine ew_call h0' (by rw [hX']; exact k_lowest) (by omega) (aw_cons (ew_var (i := 8) h0' rfl (.inr (.inr rfl)) rfl (aw_cons (ew_var (i := 7) h0' rfl (.inr (.inr rfl)) rfl (aw_nil ?_)))))
  refine ⟨n, m, rfl, fun hz => ⟨"InvalidNumber", .non, xr, ca, rfl, by rw [field_inv], ?_⟩, fun hz => ⟨hm9, ?_⟩⟩
  · -- InvalidNumber
    subst hz
    refine bw_cons (sw_if ?_)
    refine tw_eq h0 (ew_var (i := 7) h0 rfl (.inr (.inl rfl)) rfl (ew_int ?_))
    refine ⟨rfl, rfl, ?_⟩
    refine it_yes rfl ?_
    refine bw_cons (sw_if ?_)
    refine tw_ne h0 (ew_var (i := 4) h0 rfl (.inl rfl) rfl (ew_tup (aw_cons (ew_str (aw_cons (ew_non (aw_nil ?_)))))))
    refine ⟨len_ok, ?_⟩
    refine ⟨by decide +kernel, by decide +kernel, ?_⟩
    refine it_no (by decide +kernel) ?_
    refine bw_nil ?_
    exact bw_one (sw_cont ⟨_, _, _, _, _, _, _, st5, hst5, rfl, rfl⟩)
  · refine bw_cons (sw_if ?_)
    refine tw_eq h0 (ew_var (i := 7) h0 rfl (.inr (.inl rfl)) rfl (ew_int ?_))
    refine ⟨rfl, rfl, ?_⟩
    refine it_no (decide_eq_false hz) ?_
    refine bw_nil ?_
    refine bw_cons (sw_if ?_)
    refine ww_tw (ww_or (tw_ne h0 (ew_item (ew_var (i := 4) h0 rfl (.inl rfl) rfl (ew_int ?_)))))
    refine ⟨_, _, rfl, rfl, ?_⟩
    refine ew_str ?_
    refine ⟨by decide +kernel, by decide +kernel, ?_⟩
    refine it_no (by decide +kernel) ?_
    refine ww_or1 (tw_not (tw_val (ew_call h0 (k_same 1) (by omega) (aw_cons (ew_item (ew_var (i := 4) h0 rfl (.inl rfl) rfl (ew_int ?_)))))))
    refine ⟨_, _, rfl, rfl, ?_⟩
    refine aw_cons (ew_call h0 k_low (by omega) (aw_cons (ew_var (i := 8) h0 rfl (.inr (.inl rfl)) rfl (aw_cons (ew_var (i := 7) h0 rfl (.inr (.inl rfl)) rfl (aw_nil ?_))))))
    refine ⟨n, m, rfl, hz, hm9, ?_⟩
    refine aw_nil ?_
    refine ⟨_, rfl, okS_encQ _, ?_⟩
    refine ⟨_, rfl, ?_⟩
    refine it_no rfl ?_
    refine bw_nil ?_
    refine bw_cons (sw_asg h0 ?_)
    refine ew_item (ew_var (i := 4) h0 rfl (.inl rfl) rfl (ew_int ?_))
    refine ⟨_, _, rfl, rfl, ?_⟩
    refine gw_tup h0 (gws_cons (gw_name (i := 5) h0 rfl (.inl rfl) (gws_cons (gw_name (i := 6) h0 rfl (.inl rfl) (gws_nil ?_)))))
    have hden : (0 : Int) < (Rat.divInt n m).den := by have := (Rat.divInt n m).den_pos; omega
    refine bw_cons (sw_if ?_)
    refine ww_tw (ww_or (tw_lt (ew_var (i := 6) h0 rfl (.inl rfl) rfl (ew_int ?_))))
    refine ⟨_, _, rfl, rfl, ?_⟩
    refine it_no (decide_eq_false (by omega)) ?_
    have s1 := divInt_num_le (n := n) hz
    have s2 := divInt_den_le (n := n) hz
    refine ww_or (tw_ne h0 (ew_mul (ew_var (i := 5) h0 rfl (.inl rfl) rfl (ew_var (i := 7) h0 rfl (.inr (.inl rfl)) rfl ?_))))
    refine ⟨_, _, rfl, rfl, mul_b (big (by omega)) (big (by omega)), ?_⟩
    refine ew_mul (ew_var (i := 8) h0 rfl (.inr (.inl rfl)) rfl (ew_var (i := 6) h0 rfl (.inl rfl) rfl ?_))
    refine ⟨_, _, rfl, rfl, mul_b (big (by omega)) (big (by omega)), ?_⟩
    refine ⟨rfl, rfl, ?_⟩
    refine it_no (by rw [eqv_int, decide_eq_true (divInt_cross hz)]; rfl) ?_
    refine ww_or1 (tw_ne h0 (ew_call h0 k_gcd (by omega) (aw_cons (ew_var (i := 5) h0 rfl (.inl rfl) rfl (aw_cons (ew_var (i := 6) h0 rfl (.inl rfl) rfl (aw_nil ?_)))))))
    refine ⟨_, _, rfl, ?_⟩
    refine ew_int ?_
    refine ⟨rfl, rfl, ?_⟩
    refine it_no (by rw [num_den_gcd]; rfl) ?_
    refine bw_nil ?_
    refine bw_one (sw_if ?_)
    refine tw_not (tw_val (ew_call h0 (k_same 1) (by omega) (aw_cons (ew_call h0 k_lowest (by omega) (aw_cons (ew_var (i := 8) h0 rfl (.inr (.inl rfl)) rfl (aw_cons (ew_neg (ew_var (i := 7) h0 rfl (.inr (.inl rfl)) rfl ?_)))))))))
    refine ⟨_, rfl, ?_⟩
    refine aw_nil ?_
    refine ⟨n, -m, rfl, fun z => absurd z (by omega), fun _ => ⟨by rw [Int.natAbs_neg]; exact hm9, ?_⟩⟩
    refine aw_cons (ew_tup (aw_cons (ew_neg (ew_var (i := 5) h0 rfl (.inl rfl) rfl ?_))))
    refine ⟨_, rfl, ?_⟩
    refine aw_cons (ew_var (i := 6) h0 rfl (.inl rfl) rfl (aw_nil ?_))
    refine ⟨len_ok, ?_⟩
    refine aw_nil ?_
    have e : encQ (Rat.divInt n (-m)) = .tup [.int (-(Rat.divInt n m).num), .int (Rat.divInt n m).den] := by
      unfold encQ
      rw [Rat.divInt_neg', Rat.neg_divInt .. |>.symm, Rat.neg_num, Rat.neg_den]
    rw [e]
    refine ⟨_, rfl, rfl, ?_⟩
    refine ⟨_, rfl, ?_⟩
    refine it_no rfl ?_
    exact bw_nil ⟨_, _, _, _, _, _, _, st5, hst5, rfl, rfl⟩
end K1

set_option Elab.async false
set_option linter.all false
set_option maxRecDepth 100000
set_option maxHeartbeats 0
namespace K1
open PySem PySem.Spec PyProof.Rows L2 LX LamX
def clsBody : Stmt → List Stmt
  | .ClassDef _ _ _ b _ _ _ _ _ _ _ => b
  | _ => []
abbrev meth (i j : Nat) : Stmt := (clsBody (top i)).getD j (.Pass ⟨0, 0, 0, 0⟩)
abbrev dTop (x : Str) (i : Nat) : He.DefD := ⟨(x, none), x, x, defArgs (top i), defBody (top i), defScope (top i), [], []⟩
abbrev dMeth (c m : Str) (i j : Nat) : He.DefD := ⟨(c, some m), m, c ++ "." ++ m, defArgs (meth i j), defBody (meth i j), defScope (meth i j), [], []⟩
def fn : List He.DefD := [dMeth "BagError" "__init__" 1 0, dMeth "InvalidNumber" "__init__" 3 0, dTop "common_divisor" 5, dTop "lowest" 6, dTop "_law_draws" 8, dTop "_law_draw" 9, dTop "_law_pick" 10, dTop "_law_same" 11, dTop "_law_field" 12, dTop "_law_try" 13, dTop "_law_gcd" 14, dTop "_law_low" 15, dTop "law" 16]
def fa : List He.Fa := [.glo "BagError", .glo "Missing", .glo "InvalidNumber", .glo "common_divisor", .glo "lowest", .glo "_law_draws", .glo "_law_draw", .glo "_law_pick", .glo "_law_same", .glo "_law_field", .glo "_law_try", .glo "_law_gcd", .glo "_law_low", .glo "law",
  .free "ValueError", .free "abs", .free "len", .free "list", .free "range", .free "isinstance", .free "tuple", .free "all", .free "zip", .free "bool", .free "int", .free "str"]
def ex (K : PySem.W.Frag) : Bool := LX.baseB K && LX.errB K "InvalidNumber"
abbrev R : PySem.W.OpenRow := PySem.W.OpenLaw.row PySem.Challenge.rw_rootbags_k01_lowest_terms
def tf : List He.Defn := [("law", none)]
abbrev hk : PySem.W.Hook := LX.hookL 5 fa fn tf ex
def ob (s : PySem.W.SharedT) : He.AlD × Bool := LX.obsL 5 fa fn tf ex (HandSHeadRun.getT s)
theorem ob_eq (s : PySem.W.SharedT) : ob s = hk.obs s.abs := LX.obsL_eq
def loose : List Str := ["BagError", "Missing", "InvalidNumber", "common_divisor", "lowest", "_law_draws", "_law_draw", "_law_pick", "_law_same", "_law_field", "_law_try", "_law_gcd", "_law_low", "__name__"]
theorem run (w : World) : HandSHeadRun.RunEq R (PySem.W.view R.prog [16]) hk ob 2000 loose w := by
  intro os
  kernel_rfl
abbrev sField : Stmt := top 12
theorem scField : FnScope ["_law_e"] ["_law_e"] (defScope sField) := ⟨rfl, rfl, rfl, by decide +kernel, rfl, by decide +kernel, by decide +kernel⟩
theorem ok_field {W : Wd} {f : Addr} {fd : FuncData} (F : FnP W.K "_law_field" sField f fd) : FnE W 1 f fd ["_law_e"] (spField W.K) := by
  refine fnE_of F scField (fun p vs H Q E ⟨C, dd, fs, c, r, e, _⟩ => by rw [e]; rfl) fun cdv A outer s H vs Q E p ⟨C, dd, fs, c, r, e, hcls, hd, hf, T, hx, hc, hr, q⟩ => ?_
  subst e
  have hp : p ∈ ([p] : List (Addr × Obj)) := List.mem_cons_self
  refine ⟨t_field W.K p C, ?_, t_field_ok rfl hd hx hc hr q⟩
  refine pss_cons (ps_fin' hp hcls hf T (by decide +kernel) rfl fun _ => pv 0) ?_
  refine pss_cons (ps_fin' hp hcls hf T (by decide +kernel) rfl fun _ => pv 0) ?_
  refine pss_cons (ps_fin' hp hcls hf T (by decide +kernel) rfl fun _ => pv 0) ?_
  refine pss_cons (ps_fin' hp hcls hf T (by decide +kernel) rfl fun _ => pv 0) ?_
  refine pss_cons (ps_fin' hp hcls hf T (by decide +kernel) rfl fun _ => pv 0) ?_
  refine pss_cons (ps_feq' hp hcls hf T (by decide +kernel) fun _ => pv 0) ?_
  refine pss_cons (ps_feq' hp hcls hf T (by decide +kernel) fun _ => pv 0) ?_
  refine pss_cons (ps_feq' hp hcls hf T (by decide +kernel) fun _ => pv 0) ?_
  refine pss_cons (ps_feq' hp hcls hf T (by decide +kernel) fun _ => pv 0) ?_
  exact pss_one (ps_ret (pe_ifExp (pt_cmpR op_eq (pe_xfE hp hcls hf T.xf (T.no _ (by decide +kernel)) (pv 0)) pe_str (nomark _)) (pe_xfE hp hcls hf T.xf (T.no _ (by decide +kernel)) (pv 0)) pe_non))

abbrev sTry : Stmt := top 13
theorem scTry : FnScope ["_law_ask", "_law_e"] ["_law_ask"] (defScope sTry) := ⟨rfl, rfl, rfl, by decide +kernel, rfl, by decide +kernel, by decide +kernel⟩
abbrev bindT (x : Str) (st : Stmt) (ps : List Str) : Prop := ∀ (kV doc pm : Value) (an : Option Addr) (cdv ct : Value) (us : List Value), us.length = ps.length → bindArgs (PySem.W.fnOf x x (defArgs st) (defBody st) (defScope st) .none kV doc pm an cdv ct) ⟨us, []⟩ = pure (ps.zip us)
/-! ### the facts put together -/
theorem gloF {tf : List He.Defn} {ex : PySem.W.Frag → Bool} {h : Heap} {K : PySem.W.Frag} {mg : Str → Option Value} (c : HeadF fa fn tf ex h K) (G : h.Ns mainGlobals mg) {x : Str} (m : He.Fa.glo x ∈ fa) : mg x = some (.ref (He.ga K x)) := He.glo_ok c.inn G (c.d.facts m)
theorem freeF {tf : List He.Defn} {ex : PySem.W.Frag → Bool} {h : Heap} {K : PySem.W.Frag} {mg : Str → Option Value} (c : HeadF fa fn tf ex h K) (G : h.Ns mainGlobals mg) {x : Str} (m : He.Fa.free x ∈ fa) : mg x = none := He.free_ok c.inn G (c.d.facts m)
/-- a def that the head tells of, with its promise -/
theorem knows {W : Wd} {x : Str} {st : Stmt} {f : Addr} {fd : FuncData} {k : Nat} {ps : List Str} {ct : Ct} (F : FnP W.K x st f fd) (g : W.mg x = some (.ref f)) (ok : FOk W k f fd ps ct)
    (h : ∀ (kV doc pm : Value) (an : Option Addr) (cdv ct : Value) (us : List Value), us.length = ps.length → bindArgs (PySem.W.fnOf x x (defArgs st) (defBody st) (defScope st) .none kV doc pm an cdv ct) ⟨us, []⟩ = pure (ps.zip us)) : Knows W x k ct := ⟨f, fd, ps, g, F.kp, F.bindsN h, ok⟩
theorem law_fok {w : World} {h : Heap} {K : PySem.W.Frag} {mg : Str → Option Value} (c : HeadF fa fn tf ex h K) (G : h.Ns mainGlobals mg) (base : Heap) (TB : TabB base mg (He.cT K ("law", none)).1 (He.cT K ("law", none)).2) {fd : FuncData} (F : FnP K "law" (top 16) (He.ga K "law") fd) (hc : fd.code = .ref (He.cT K ("law", none)).1) :
    FOk ⟨R.prog, w, K, mg, base⟩ 7 (He.ga K "law") fd ["_law_script"] (ctLaw [((He.cT K ("law", none)).2, "law.<locals>.<lambda>")]) := by
  have glo : ∀ {x : Str}, He.Fa.glo x ∈ fa → mg x = some (.ref (He.ga K x)) := fun m => gloF c G m
  have fre : ∀ {x : Str}, He.Fa.free x ∈ fa → mg x = none := fun m => freeF c G m
  obtain ⟨eb, e1⟩ := Bool.and_eq_true_iff.mp (show (LX.baseB K && LX.errB K "InvalidNumber") = true from c.more)
  have BF := baseB_ok eb
  have EI := errB_ok e1
  obtain ⟨fdB, FB⟩ := c.d.def_ 0 (d := dMeth "BagError" "__init__" 1 0) rfl
  obtain ⟨fdI, FI⟩ := c.d.def_ 1 (d := dMeth "InvalidNumber" "__init__" 3 0) rfl
  obtain ⟨fdCd, FCd⟩ := c.d.def_ 2 (d := dTop "common_divisor" 5) rfl
  obtain ⟨fdLo, FLo⟩ := c.d.def_ 3 (d := dTop "lowest" 6) rfl
  obtain ⟨fdDs, FDs⟩ := c.d.def_ 4 (d := dTop "_law_draws" 8) rfl
  obtain ⟨fdDr, FDr⟩ := c.d.def_ 5 (d := dTop "_law_draw" 9) rfl
  obtain ⟨fdPi, FPi⟩ := c.d.def_ 6 (d := dTop "_law_pick" 10) rfl
  obtain ⟨fdSa, FSa⟩ := c.d.def_ 7 (d := dTop "_law_same" 11) rfl
  obtain ⟨fdFi, FFi⟩ := c.d.def_ 8 (d := dTop "_law_field" 12) rfl
  obtain ⟨fdTr, FTr⟩ := c.d.def_ 9 (d := dTop "_law_try" 13) rfl
  obtain ⟨fdGc, FGc⟩ := c.d.def_ 10 (d := dTop "_law_gcd" 14) rfl
  obtain ⟨fdLw, FLw⟩ := c.d.def_ 11 (d := dTop "_law_low" 15) rfl
  have gBag := glo (x := "BagError") (by simp [fa])
  have gMis := glo (x := "Missing") (by simp [fa])
  have gInv := glo (x := "InvalidNumber") (by simp [fa])
  have okB := ok_base (W := ⟨R.prog, w, K, mg, base⟩) FB ⟨rfl, rfl, rfl, by decide +kernel, rfl, by decide +kernel, by decide +kernel⟩ (.inl rfl) (.inl rfl) rfl (fre (by simp [fa])) BF.ve (fun env => ⟨_, rfl⟩)
  have bB : Binds K fdB ["self", "code"] [] := FB.bindsN fun _ _ _ _ _ _ us hl => match us, hl with | [_, _], _ => rfl
  have okI := ok_err0 (W := ⟨R.prog, w, K, mg, base⟩) FI ⟨rfl, rfl, rfl, by decide +kernel, rfl, by decide +kernel, by decide +kernel⟩ (.inl rfl) rfl gBag BF FB.kp okB bB EI.oex (EI.xrd.no "code" (by decide +kernel)) (fun env => ⟨_, rfl⟩)
  have bI : Binds K fdI ["self"] [] := FI.bindsN fun _ _ _ _ _ _ us hl => match us, hl with | [_], _ => rfl
  have xI : XCls ⟨R.prog, w, K, mg, base⟩ "InvalidNumber" 2 (He.ga K "InvalidNumber") ["code"] "InvalidNumber" := ⟨gInv, EI.oex, _, fdI, ["self"], EI.ini, EI.fn, bI, okI⟩
  have kCd : Knows ⟨R.prog, w, K, mg, base⟩ "common_divisor" 1 ctCd := knows (st := top 5) FCd (glo (by simp [fa])) (ok_cd FCd (fre (by simp [fa]))) (fun _ _ _ _ _ _ us hl => match us, hl with | [_, _], _ => rfl)
  have kGc : Knows ⟨R.prog, w, K, mg, base⟩ "_law_gcd" 1 ctCd := knows (st := top 14) FGc (glo (by simp [fa])) (ok_gcd FGc (fre (by simp [fa]))) (fun _ _ _ _ _ _ us hl => match us, hl with | [_, _], _ => rfl)
  have kLo : Knows ⟨R.prog, w, K, mg, base⟩ "lowest" 4 (ctLowest (He.ga K "InvalidNumber")) := knows (st := top 6) FLo (glo (by simp [fa])) (ok_lowest FLo kCd xI) (fun _ _ _ _ _ _ us hl => match us, hl with | [_, _], _ => rfl)
  have kDs : Knows ⟨R.prog, w, K, mg, base⟩ "_law_draws" 1 ctDraws := knows (st := top 8) FDs (glo (by simp [fa])) (ok_draws FDs (fre (by simp [fa]))) (fun _ _ _ _ _ _ us hl => match us, hl with | [_], _ => rfl)
  have kDr : Knows ⟨R.prog, w, K, mg, base⟩ "_law_draw" 1 ctDraw := knows (st := top 9) FDr (glo (by simp [fa])) (ok_draw FDr (fre (by simp [fa]))) (fun _ _ _ _ _ _ us hl => match us, hl with | [_, _], _ => rfl)
  have kPi : Knows ⟨R.prog, w, K, mg, base⟩ "_law_pick" 2 ctPick := knows (st := top 10) FPi (glo (by simp [fa])) (ok_pick FPi (fre (by simp [fa])) kDr) (fun _ _ _ _ _ _ us hl => match us, hl with | [_, _], _ => rfl)
  have kLw : Knows ⟨R.prog, w, K, mg, base⟩ "_law_low" 2 ctLow := knows (st := top 15) FLw (glo (by simp [fa])) (ok_low FLw kGc) (fun _ _ _ _ _ _ us hl => match us, hl with | [_, _], _ => rfl)
  have kSa := ok_same (W := ⟨R.prog, w, K, mg, base⟩) FSa (glo (by simp [fa])) (FSa.bindsN fun _ _ _ _ _ _ us hl => match us, hl with | [_, _], _ => rfl) ⟨fre (by simp [fa]), fre (by simp [fa]), fre (by simp [fa]), fre (by simp [fa]), fre (by simp [fa]), fre (by simp [fa]), fre (by simp [fa]), fre (by simp [fa]), fre (by simp [fa])⟩
  have oF := ok_field (W := ⟨R.prog, w, K, mg, base⟩) FFi
  have bF : Binds K fdFi ["_law_e"] [] := FFi.bindsN fun _ _ _ _ _ _ us hl => match us, hl with | [_], _ => rfl
  have D1 : TryD ⟨R.prog, w, K, mg, base⟩ 4 (He.ga K "_law_try") (defScope sTry) (defBody sTry) (He.ga K "BagError") (He.ga K "Missing") := {
    gm := glo (by simp [fa])
    kp := FTr.kp
    S := scTry
    vis := .inl rfl
    fn := by
      have bT : Binds K fdTr ["_law_ask"] [] := FTr.bindsN fun _ _ _ _ _ _ us hl => match us, hl with | [_], _ => rfl
      obtain ⟨oc, od, dV, kV, doc, pm, an, cdv, ct', osl, rfl, lk, hcd, _, _⟩ := FTr.ex
      exact ⟨oc, od, _, dV, kV, doc, pm, an, cdv, ct', osl, lk, hcd, bT⟩
    gives := gives_of (W := ⟨R.prog, w, K, mg, base⟩) rfl rfl rfl rfl gBag gMis (glo (by simp [fa])) FFi.kp bF oF (by omega) }
  exact ok_law F kDs kDr kPi kSa kGc kLw kLo D1 EI.xrd EI.cat (fre (by simp [fa])) TB hc
theorem law_end {w : World} {h : Heap} {K : PySem.W.Frag} {mg : Str → Option Value} {f : Addr} (c : HeadF fa fn tf ex h K) (G : h.Ns mainGlobals mg) (hf : mg ("law" : Str) = some (.ref f)) : LawAtS PySem.Challenge.rw_rootbags_k01_lowest_terms w K (L2.CX PySem.Challenge.pw_rootbags_k01_lowest_terms w) 7 63 "_law_script" mg f h := by
  have e := hf.symm.trans (gloF c G (x := "law") (by simp [fa]))
  cases e
  obtain ⟨fd, F⟩ := c.d.def_ 12 (d := dTop "law" 16) rfl
  have hc : fd.code = .ref (He.cT K ("law", none)).1 := by
    obtain ⟨oc, od, dV, kV, doc, pm, an, cdv, ct', osl, rfl, lk, hcd, _, _⟩ := F.ex
    obtain ⟨c', rfl⟩ := He.codeIn_ref hcd
    exact congrArg Value.ref (He.codeOf_eq (p := ("law", none)) lk rfl).symm
  exact law_at (fun _ => "law.<locals>.<lambda>") c (fun s u => F.bindsA (ps := ["_law_script"]) (fun _ _ _ _ _ _ us hl => match us, hl with | [_], _ => rfl) s [u] rfl)
    fun base _ _ TB => law_fok c G base (TB ("law", none) (by simp [tf])) F hc
end K1
open PySem PySem.W PySem.Calls PyProof.Rows
theorem PySem.Challenge.cw_rootbags_k01_lowest_terms_holds : PySem.Challenge.rw_rootbags_k01_lowest_terms.Holds := by
  w_on; o_law
  refine HandSHeadRun.head_any (r := OpenLaw.row PySem.Challenge.rw_rootbags_k01_lowest_terms) (q := view (OpenLaw.row PySem.Challenge.rw_rootbags_k01_lowest_terms).prog [16]) (H := K1.hk) (ob := K1.ob) (M := 2000) (loose := K1.loose) (d := HandSHeadRun.topDef (OpenLaw.row PySem.Challenge.rw_rootbags_k01_lowest_terms).prog 16) (kwd := []) K1.ob_eq
    (by kernel_rfl) (fun s => by kernel_rfl) K1.run (by kernel_rfl) (by kernel_rfl) (by kernel_rfl) (by rfl) (by first | assumption | decide +kernel) (by decide +kernel) ⟨rfl, rfl, rfl, rfl, rfl, by decide +kernel⟩ ?hw ?hc
  case hw => w_witness2
  case hc =>
    refine LamX.walk_ofTsE (l := PySem.Challenge.rw_rootbags_k01_lowest_terms) (n := 63) (k := 7) (x := "_law_script") (CX := L2.CX PySem.Challenge.pw_rootbags_k01_lowest_terms) rfl (by decide) (by kernel_rfl) ⟨rfl, by decide, by decide⟩ ?F LX.no_out
    intro w mg fa h Y G hmg0
    obtain ⟨K, c⟩ := Y
    have hmg : mg ("law" : PySem.Str) = some (.ref fa) := by
      have e : (HandSHeadRun.topDef (OpenLaw.row PySem.Challenge.rw_rootbags_k01_lowest_terms).prog 16).name = ("law" : PySem.Str) := by kernel_rfl
      rw [← e]
      exact hmg0
    exact ⟨K, c.inn, K1.law_end c G hmg⟩

