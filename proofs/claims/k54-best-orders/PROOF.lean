import PyProof.Rows.All
import Wide.All
import OpenK.AllK
import Wide.FinOn
import HandS.ForMost
import HandS.ForExc
import HandS.Wide
import HandS.Deep
import HandS.IsInst
import HandS.Conv
import HandS.TupAny
import KE.KeyNested
import KE.KDictKeyed
import KE.KDictWalk
import HandS.HeadEnd
import KE.GoesMore
import HandS.Star
import HandS.TupMul
import HandS.SortInts
import HandS.More
import KE.SortData
import KE.KDictList
import HandS.DictTup
import HandS.DictComp
import KE.KDictDisplayH
import PyProof.ReprRoads
import PySem.Challenge.RW_onenumber_k54_best_orders
import PyProof.ReprLen
set_option Elab.async false
set_option linter.all false
set_option maxRecDepth 100000
/-! Data over the layer: tuples by value, lists and dicts by place. -/
namespace DL
open PySem PySem.Spec PyProof.Rows L2

/-- a datum -/
inductive D where
  | non
  | bl (b : Bool)
  | int (i : Int)
  | str (x : Str)
  | tup (ds : List D)
  | ref (a : Addr)
  | scr (ns : List Int)

/-- what stands at a place -/
inductive Ob where
  | lst (ds : List D)
  | dK (kvs : List (Key × D))
  | dN (kvs : List (D × D))

/-- the written part, the program, the world -/
structure Ev where
  k : PySem.W.Frag
  p : Program
  w : World
abbrev ev (X : Cx) : Ev := ⟨X.K, X.prog, X.w⟩
abbrev Sto := Addr → Option Ob
abbrev DS := List (Option D)
def sput (S : Sto) (a : Addr) (o : Ob) : Sto := fun b => if b = a then some o else S b
theorem sput_same {S : Sto} {a : Addr} {o : Ob} : sput S a o a = some o := if_pos rfl
theorem sput_ne {S : Sto} {a b : Addr} {o : Ob} (h : b ≠ a) : sput S a o b = S b := if_neg h

/-- a list that nobody changes: locked, or of the module -/
def RoL (K : PySem.W.Frag) (H : Hp) (a : Addr) (xs : List V) : Prop := (∃ o, H a = some (.frz o (.lst xs))) ∨
  ∃ (o : Obj) (its : Array Value) (n : Nat), K.lookup a = some o ∧ o.cls = .type "list" ∧ o.dict = Option.none ∧ o.data = .seq its n ∧ its.size ≤ sizeLine ∧ Vals xs its.toList
theorem RoL.sq {K : PySem.W.Frag} {H : Hp} {a : Addr} {xs : List V} (h : RoL K H a xs) : SqL K H a xs := h.elim (fun ⟨o, q⟩ => .inl (.inr ⟨o, q⟩)) .inr
mutual
def Rp (K : Ev) (H : Hp) : D → V → Prop
  | .non, v => v = .non
  | .bl b, v => v = .bl b
  | .int i, v => v = .int i
  | .str x, v => v = .str x
  | .ref a, v => v = .ref a
  | .tup ds, v => ∃ a vs, v = .ref a ∧ SqT K.k H a vs ∧ Rps K H ds vs
  | .scr ns, v => ∃ a, v = .ref a ∧ RoL K.k H a (ns.map V.int)
def Rps (K : Ev) (H : Hp) : List D → List V → Prop
  | [], vs => vs = []
  | d :: ds, vs => ∃ v r, vs = v :: r ∧ Rp K H d v ∧ Rps K H ds r
end

mutual
/-- the datum as a key -/
def toKey : D → Option NestedKey
  | .non => some .none
  | .bl b => some (.num (if b = true then 1 else 0))
  | .int i => some (.num i)
  | .str x => some (.text x)
  | .tup ds => match toKeys ds with
    | some ks => some (.tup ks)
    | none => none
  | .ref _ => none
  | .scr _ => none
def toKeys : List D → Option (List NestedKey)
  | [] => some []
  | d :: ds => match toKey d, toKeys ds with
    | some k, some ks => some (k :: ks)
    | _, _ => none
end
/-- a tuple as a dict's key -/
def keyD (d : D) : Option NestedKey := match d with
  | .tup ds => match toKeys ds with
    | some ks => if (NestedKey.tup ks).depth ≤ 8 then some (.tup ks) else none
    | none => none
  | _ => none
/-- a dict whose keys are tuples -/
def dNH (P : Program) (w : World) (a : Addr) (xs : List (NestedKey × Addr × V)) : HO := .ext fun h => (a == sysModules) = false ∧ xs.length ≤ sizeLine ∧ ∃ (o : Obj) (es : Array DictEntry) (ep : Nat) (us : List (NestedKey × Addr × Value)),
  h.get? a = some o ∧ o.ExactDict ∧ o.data = .dict es ep ∧ es.toList = us.map (entryOfKey (nestedKind P w)) ∧ Paired (fun p q => p.1 = q.1 ∧ p.2.1 = q.2.1 ∧ RelV p.2.2 q.2.2) xs us
abbrev KvR (K : Ev) (H : Hp) (p : D × D) (q : NestedKey × Addr × V) : Prop := keyD p.1 = some q.1 ∧ Rp K H p.1 (.ref q.2.1) ∧ Rp K H p.2 q.2.2
def RpO (K : Ev) (H : Hp) (a : Addr) : Ob → Prop
  | .lst ds => ∃ vs, H a = some (.lst vs) ∧ Rps K H ds vs
  | .dK kvs => ∃ ws : List (Key × V), H a = some (.dK ws) ∧ ws.map (·.1) = kvs.map (·.1) ∧ Rps K H (kvs.map (·.2)) (ws.map (·.2))
  | .dN kvs => ∃ xs, H a = some (dNH K.p K.w a xs) ∧ Paired (KvR K H) kvs xs ∧ (xs.map (·.1)).Nodup

def SimS (K : Ev) (S : Sto) (H : Hp) : Prop := ∀ a o, S a = some o → RpO K H a o
structure SimV (K : Ev) (H : Hp) (σd : DS) (σ : L2.St) : Prop where
  len : σd.length = σ.length
  val : ∀ (i : Nat) (d : D), σd[i]? = some (some d) → ∃ v, σ[i]? = some (some v) ∧ Rp K H d v
/-- what is not of the store stays -/
def Step (S : Sto) (H : Hp) (S' : Sto) (H' : Hp) : Prop := ∀ a o, H a = some o → S a = none → H' a = some o ∧ S' a = none
structure Sim (K : Ev) (B : Sto × Hp) (σd : DS) (S : Sto) (σ : L2.St) (H : Hp) : Prop where
  v : SimV K H σd σ
  s : SimS K S H
  b : Step B.1 B.2 S H

theorem Step.refl (S : Sto) (H : Hp) : Step S H S H := fun _ _ h n => ⟨h, n⟩
theorem Step.trans {S S1 S2 : Sto} {H H1 H2 : Hp} (x : Step S H S1 H1) (y : Step S1 H1 S2 H2) : Step S H S2 H2 := fun a o h n =>
  let ⟨h1, n1⟩ := x a o h n
  y a o h1 n1

section
variable {K : Ev} {S S' : Sto} {H H' : Hp}
theorem SimS.tupNone (s : SimS K S H) {a : Addr} {xs : List V} (h : Rd H a (.tup xs)) : S a = none := by
  cases e : S a with
  | none => rfl
  | some o =>
    have r := s a o e
    exfalso
    cases o with
    | lst ds => obtain ⟨vs, q, _⟩ := r; rcases h with h | ⟨_, h⟩ <;> (rw [h] at q; cases q)
    | dK kvs => obtain ⟨vs, q, _⟩ := r; rcases h with h | ⟨_, h⟩ <;> (rw [h] at q; cases q)
    | dN kvs => obtain ⟨vs, q, _⟩ := r; rcases h with h | ⟨_, h⟩ <;> (rw [h] at q; unfold dNH at q; cases q)
theorem SimS.off (s : SimS K S H) {a : Addr} (h : H a = none) : S a = none := by
  cases e : S a with
  | none => rfl
  | some o =>
    have r := s a o e
    exfalso
    cases o with
    | lst ds => obtain ⟨vs, q, _⟩ := r; rw [h] at q; cases q
    | dK kvs => obtain ⟨vs, q, _⟩ := r; rw [h] at q; cases q
    | dN kvs => obtain ⟨vs, q, _⟩ := r; rw [h] at q; unfold dNH at q; cases q
theorem Step.sq (t : Step S H S' H') (s : SimS K S H) {a : Addr} {xs : List V} (h : SqT K.k H a xs) : SqT K.k H' a xs := by
  rcases h with h | h
  · have n := s.tupNone h
    rcases h with h | ⟨o, h⟩
    · exact .inl (.inl (t a _ h n).1)
    · exact .inl (.inr ⟨o, (t a _ h n).1⟩)
  · exact .inr h
theorem SimS.frzNone (s : SimS K S H) {a : Addr} {o : Obj} {u : HO} (h : H a = some (.frz o u)) : S a = none := by
  cases e : S a with
  | none => rfl
  | some o =>
    have r := s a o e
    exfalso
    cases o with
    | lst ds => obtain ⟨vs, q, _⟩ := r; rw [h] at q; cases q
    | dK kvs => obtain ⟨vs, q, _⟩ := r; rw [h] at q; cases q
    | dN kvs => obtain ⟨vs, q, _⟩ := r; rw [h] at q; unfold dNH at q; cases q
/-- what is read alone stays -/
structure Mo (K : Ev) (H H' : Hp) : Prop where
  t : ∀ a xs, SqT K.k H a xs → SqT K.k H' a xs
  r : ∀ a xs, RoL K.k H a xs → RoL K.k H' a xs
theorem Step.mo (t : Step S H S' H') (s : SimS K S H) : Mo K H H' := ⟨fun _ _ q => t.sq s q, fun a xs q => by
  rcases q with ⟨o, q⟩ | q
  · exact .inl ⟨o, (t a _ q (s.frzNone q)).1⟩
  · exact .inr q⟩
mutual
theorem Rp.mono (m : Mo K H H') : ∀ {d : D} {v : V}, Rp K H d v → Rp K H' d v
  | .non, _, h => by simpa only [Rp] using h
  | .bl _, _, h => by simpa only [Rp] using h
  | .int _, _, h => by simpa only [Rp] using h
  | .str _, _, h => by simpa only [Rp] using h
  | .ref _, _, h => by simpa only [Rp] using h
  | .tup ds, _, h => by
    simp only [Rp] at h ⊢
    obtain ⟨a, vs, e, q, r⟩ := h
    exact ⟨a, vs, e, m.t _ _ q, Rps.mono m r⟩
  | .scr ns, _, h => by
    simp only [Rp] at h ⊢
    obtain ⟨a, e, q⟩ := h
    exact ⟨a, e, m.r _ _ q⟩
theorem Rps.mono (m : Mo K H H') : ∀ {ds : List D} {vs : List V}, Rps K H ds vs → Rps K H' ds vs
  | [], _, h => by simpa only [Rps] using h
  | d :: ds, _, h => by
    simp only [Rps] at h ⊢
    obtain ⟨v, r, e, q, t⟩ := h
    exact ⟨v, r, e, Rp.mono m q, Rps.mono m t⟩
end
theorem Step.rp (t : Step S H S' H') (s : SimS K S H) {d : D} {v : V} (h : Rp K H d v) : Rp K H' d v := h.mono (t.mo s)
theorem Step.rps (t : Step S H S' H') (s : SimS K S H) {ds : List D} {vs : List V} (h : Rps K H ds vs) : Rps K H' ds vs := h.mono (t.mo s)
theorem SimV.step {σd : DS} {σ : L2.St} (x : SimV K H σd σ) (t : Step S H S' H') (s : SimS K S H) : SimV K H' σd σ := ⟨x.len, fun i d e =>
  let ⟨v, e1, r⟩ := x.val i d e
  ⟨v, e1, t.rp s r⟩⟩
theorem Rps.nilEq {vs : List V} (h : Rps K H [] vs) : vs = [] := by simpa only [Rps] using h
theorem Rps.length : ∀ {ds : List D} {vs : List V}, Rps K H ds vs → ds.length = vs.length
  | [], _, h => by
    rw [h.nilEq]
    rfl
  | d :: ds, _, h => by
    simp only [Rps] at h
    obtain ⟨v, r, rfl, _, t⟩ := h
    simp only [List.length_cons, Rps.length t]
theorem Rps.cons {d : D} {ds : List D} {v : V} {vs : List V} (h : Rp K H d v) (t : Rps K H ds vs) : Rps K H (d :: ds) (v :: vs) := by
  simp only [Rps]
  exact ⟨v, vs, rfl, h, t⟩
theorem Rps.nil : Rps K H [] [] := by simp only [Rps]
theorem Rps.append : ∀ {ds es : List D} {vs us : List V}, Rps K H ds vs → Rps K H es us → Rps K H (ds ++ es) (vs ++ us)
  | [], _, _, _, h, t => by
    rw [h.nilEq]
    exact t
  | d :: ds, _, _, _, h, t => by
    simp only [Rps] at h
    obtain ⟨v, r, rfl, q, h⟩ := h
    exact (Rps.append h t).cons q
theorem Rps.get : ∀ {ds : List D} {vs : List V} {i : Nat} {d : D}, Rps K H ds vs → ds[i]? = some d → ∃ v, vs[i]? = some v ∧ Rp K H d v
  | [], _, _, _, _, e => by simp at e
  | d :: ds, _, 0, _, h, e => by
    simp only [Rps] at h
    obtain ⟨v, r, rfl, q, h⟩ := h
    simp at e
    subst e
    exact ⟨v, rfl, q⟩
  | d :: ds, _, i + 1, _, h, e => by
    simp only [Rps] at h
    obtain ⟨v, r, rfl, q, h⟩ := h
    obtain ⟨w, e1, q1⟩ := Rps.get (i := i) h (by simpa using e)
    exact ⟨w, by simpa using e1, q1⟩
theorem Rps.drop : ∀ {ds : List D} {vs : List V} (n : Nat), Rps K H ds vs → Rps K H (ds.drop n) (vs.drop n)
  | _, _, 0, h => h
  | [], _, n + 1, h => by
    rw [h.nilEq]
    exact Rps.nil
  | d :: ds, _, n + 1, h => by
    simp only [Rps] at h
    obtain ⟨v, r, rfl, q, h⟩ := h
    exact Rps.drop n h
theorem Rps.take : ∀ {ds : List D} {vs : List V} (n : Nat), Rps K H ds vs → Rps K H (ds.take n) (vs.take n)
  | _, _, 0, h => by simpa using Rps.nil
  | [], _, n + 1, h => by
    rw [h.nilEq]
    exact Rps.nil
  | d :: ds, _, n + 1, h => by
    simp only [Rps] at h
    obtain ⟨v, r, rfl, q, h⟩ := h
    exact (Rps.take n h).cons q
theorem Rps.set {d : D} {v : V} (q : Rp K H d v) : ∀ {ds : List D} {vs : List V} (n : Nat), Rps K H ds vs → Rps K H (ds.set n d) (vs.set n v)
  | [], _, n, h => by
    rw [h.nilEq]
    exact Rps.nil
  | d0 :: ds, _, 0, h => by
    simp only [Rps] at h
    obtain ⟨v0, r, rfl, q0, h⟩ := h
    exact h.cons q
  | d0 :: ds, _, n + 1, h => by
    simp only [Rps] at h
    obtain ⟨v0, r, rfl, q0, h⟩ := h
    exact (Rps.set q n h).cons q0
theorem Rps.reverse : ∀ {ds : List D} {vs : List V}, Rps K H ds vs → Rps K H ds.reverse vs.reverse
  | [], _, h => by
    rw [h.nilEq]
    exact Rps.nil
  | d0 :: ds, _, h => by
    simp only [Rps] at h
    obtain ⟨v0, r, rfl, q0, h⟩ := h
    rw [List.reverse_cons, List.reverse_cons]
    exact (Rps.reverse h).append (Rps.nil.cons q0)
/-- what a fresh place, or a changed one, does -/
theorem RpO.mono {a : Addr} {o : Ob} (e : H' a = H a) (m : Mo K H H') (h : RpO K H a o) : RpO K H' a o := by
  cases o with
  | lst ds => obtain ⟨vs, q, r⟩ := h; exact ⟨vs, e.trans q, r.mono m⟩
  | dK kvs => obtain ⟨vs, q, k, r⟩ := h; exact ⟨vs, e.trans q, k, r.mono m⟩
  | dN kvs => obtain ⟨xs, q, r, n⟩ := h; exact ⟨xs, e.trans q, Paired.mapP r fun _ _ z => ⟨z.1, z.2.1.mono m, z.2.2.mono m⟩, n⟩
/-- something new that is not of the store -/
theorem Step.fresh (s : SimS K S H) {p : Addr} {o : HO} (hp : H p = none) : Step S H S (upd H p o) := fun a u h n => ⟨by rw [upd_ne (ne_of_none h hp)]; exact h, n⟩
theorem SimS.fresh (s : SimS K S H) {p : Addr} {o : HO} (hp : H p = none) : SimS K S (upd H p o) := fun a u e => by
  have t := Step.fresh (o := o) s hp
  refine RpO.mono ?_ (t.mo s) (s a u e)
  refine upd_ne fun z => ?_
  rw [z, s.off hp] at e
  cases e
/-- a new object of the store -/
theorem Step.new (s : SimS K S H) {p : Addr} {o : HO} {u : Ob} (hp : H p = none) : Step S H (sput S p u) (upd H p o) := fun a w h n => by
  have ne := ne_of_none h hp
  exact ⟨by rw [upd_ne ne]; exact h, by rw [sput_ne ne]; exact n⟩
theorem SimS.new (s : SimS K S H) {p : Addr} {o : HO} {u : Ob} (hp : H p = none) (hu : ∀ H', Mo K H H' → H' p = some o → RpO K H' p u) : SimS K (sput S p u) (upd H p o) := fun a w e => by
  have t := Step.new (o := o) (u := u) s hp
  have m : Mo K H (upd H p o) := t.mo s
  by_cases h : a = p
  · subst h
    rw [sput_same] at e
    cases e
    exact hu _ m upd_same
  · rw [sput_ne h] at e
    exact RpO.mono (upd_ne h) m (s a w e)
/-- an object of the store is changed -/
theorem Step.put {p : Addr} {o : HO} {u w : Ob} (hp : S p = some w) : Step S H (sput S p u) (upd H p o) := fun a x h n => by
  have ne : a ≠ p := fun z => by rw [z, hp] at n; cases n
  exact ⟨by rw [upd_ne ne]; exact h, by rw [sput_ne ne]; exact n⟩
theorem SimS.put (s : SimS K S H) {p : Addr} {o : HO} {u w : Ob} (hp : S p = some w) (hu : ∀ H', Mo K H H' → H' p = some o → RpO K H' p u) : SimS K (sput S p u) (upd H p o) := fun a x e => by
  have t := Step.put (H := H) (o := o) (u := u) hp
  have m : Mo K H (upd H p o) := t.mo s
  by_cases h : a = p
  · subst h
    rw [sput_same] at e
    cases e
    exact hu _ m upd_same
  · rw [sput_ne h] at e
    exact RpO.mono (upd_ne h) m (s a x e)
end

/-! ### lifted readings -/
abbrev DK := D → Sto → Prop
abbrev WE := DS → Sto → DK → Prop
abbrev WT := DS → Sto → (Bool → Sto → Prop) → Prop
abbrev WA := DS → Sto → (List D → Sto → Prop) → Prop
def QL (K : Ev) (S : Sto) (H : Hp) (Q : DK) : VK := fun v H' => ∃ d S', Step S H S' H' ∧ SimS K S' H' ∧ Rp K H' d v ∧ Q d S'
def liftE (K : Ev) (B : Sto × Hp) (t : WE) : TE := fun σ H Q => ∃ σd S Qd, Sim K B σd S σ H ∧ t σd S Qd ∧ ∀ d S' v H', Step S H S' H' → SimS K S' H' → Rp K H' d v → Qd d S' → Q v H'
def liftT (K : Ev) (B : Sto × Hp) (t : WT) : TT := fun σ H Q => ∃ σd S Qd, Sim K B σd S σ H ∧ t σd S Qd ∧ ∀ b S' H', Step S H S' H' → SimS K S' H' → Qd b S' → Q b H'
def liftA (K : Ev) (B : Sto × Hp) (t : WA) : TA := fun σ H Q => ∃ σd S Qd, Sim K B σd S σ H ∧ t σd S Qd ∧ ∀ ds S' vs H', Step S H S' H' → SimS K S' H' → Rps K H' ds vs → Qd ds S' → Q vs H'
structure DEnds where
  nx : DS → Sto → Prop
  rt : DK
  bk : DS → Sto → Prop := fun _ _ => False
  ct : DS → Sto → Prop := fun _ _ => False
abbrev WS := DEnds → DS → Sto → Prop
/-- the ends of data imply the ends of values, from (S, H) on -/
structure EndsOk (K : Ev) (S : Sto) (H : Hp) (Dd : DEnds) (D' : Ends) : Prop where
  nx : ∀ σd S' σ H', Step S H S' H' → SimS K S' H' → SimV K H' σd σ → Dd.nx σd S' → D'.nx σ H'
  rt : ∀ d S' v H', Step S H S' H' → SimS K S' H' → Rp K H' d v → Dd.rt d S' → D'.rt v H'
  bk : ∀ σd S' σ H', Step S H S' H' → SimS K S' H' → SimV K H' σd σ → Dd.bk σd S' → D'.bk σ H'
  ct : ∀ σd S' σ H', Step S H S' H' → SimS K S' H' → SimV K H' σd σ → Dd.ct σd S' → D'.ct σ H'
def liftS (K : Ev) (B : Sto × Hp) (t : WS) : TS := fun D' σ H => ∃ σd S Dd, Sim K B σd S σ H ∧ t Dd σd S ∧ EndsOk K S H Dd D'

def DE (X : Cx) (B : Sto × Hp) (e : Expr) (t : WE) : Prop := PE X e (liftE (ev X) B t)
def DT (X : Cx) (B : Sto × Hp) (e : Expr) (t : WT) : Prop := PT X e (liftT (ev X) B t)
def DW (X : Cx) (B : Sto × Hp) (e : Expr) (t : WT) : Prop := PW X e (liftT (ev X) B t)
def DA (X : Cx) (B : Sto × Hp) (es : List Expr) (t : WA) : Prop := PA X es (liftA (ev X) B t)
def DSt (X : Cx) (B : Sto × Hp) (s : Stmt) (t : WS) : Prop := PS X s (liftS (ev X) B t)
def DSs (X : Cx) (B : Sto × Hp) (s : List Stmt) (t : WS) : Prop := PSs X s (liftS (ev X) B t)

theorem PE.imp {X : Cx} {e : Expr} {t u : TE} (h : PE X e t) (i : ∀ σ H Q, u σ H Q → t σ H Q) : PE X e u := ⟨fun pins s σ H Q I q => h.run pins s σ H Q I (i _ _ _ q)⟩
theorem PT.imp {X : Cx} {e : Expr} {t u : TT} (h : PT X e t) (i : ∀ σ H Q, u σ H Q → t σ H Q) : PT X e u := ⟨fun pins s σ H Q I q => h.run pins s σ H Q I (i _ _ _ q)⟩
theorem PW.imp {X : Cx} {e : Expr} {t u : TT} (h : PW X e t) (i : ∀ σ H Q, u σ H Q → t σ H Q) : PW X e u := ⟨fun whole pins s σ H Q I q => h.run whole pins s σ H Q I (i _ _ _ q)⟩
theorem PA.imp {X : Cx} {es : List Expr} {t u : TA} (h : PA X es t) (i : ∀ σ H Q, u σ H Q → t σ H Q) : PA X es u := ⟨fun pos pins s σ H Q I q => h.run pos pins s σ H Q I (i _ _ _ q)⟩
theorem PS.imp {X : Cx} {e : Stmt} {t u : TS} (h : PS X e t) (i : ∀ D' σ H, u D' σ H → t D' σ H) : PS X e u := ⟨fun pins s σ H D' I q => h.run pins s σ H D' I (i _ _ _ q)⟩
theorem PSs.imp {X : Cx} {e : List Stmt} {t u : TS} (h : PSs X e t) (i : ∀ D' σ H, u D' σ H → t D' σ H) : PSs X e u := ⟨fun pins s σ H D' I q => h.run pins s σ H D' I (i _ _ _ q)⟩

theorem Sim.step {K : Ev} {B : Sto × Hp} {σd : DS} {S S' : Sto} {σ : L2.St} {H H' : Hp} (x : Sim K B σd S σ H) (t : Step S H S' H') (s : SimS K S' H') : Sim K B σd S' σ H' := ⟨x.v.step t x.s, s, x.b.trans t⟩

/-! ### expressions -/
def slot : DS → Nat → Option D
  | [], _ => none
  | d :: _, 0 => d
  | _ :: r, n + 1 => slot r n
theorem slot_get : ∀ {σ : DS} {i : Nat} {d : D}, slot σ i = some d → σ[i]? = some (some d)
  | [], _, _, h => by cases h
  | o :: _, 0, _, h => by
    have e : o = _ := h
    rw [e]
    rfl
  | _ :: r, n + 1, _, h => by
    have e := slot_get (σ := r) (i := n) h
    simpa using e
def dVar (i : Nat) : WE := fun σ S Q => match slot σ i with
  | some d => Q d S
  | none => False
def dC (d : D) : WE := fun _ S Q => Q d S
section
variable {X : Cx} {B : Sto × Hp} {pos : Pos} {a b c e : Expr} {es : List Expr} {ta tb tc te : WE}
theorem liftC {d : D} {v : V} (h : ∀ H, Rp (ev X) H d v) (p : PE X e (tC v)) : DE X B e (dC d) :=
  PE.imp p fun σ H Q ⟨σd, S, Qd, s, q, k⟩ => k d S v H (Step.refl S H) s.s (h H) q
theorem de_int {i j pos} : DE X B (.Constant (.int i) j pos) (dC (.int i)) := liftC (fun _ => by simp only [Rp]) pe_int
theorem de_bl {b j pos} : DE X B (.Constant (.bool b) j pos) (dC (.bl b)) := liftC (fun _ => by simp only [Rp]) pe_bl
theorem de_non {j pos} : DE X B (.Constant .none j pos) (dC .non) := liftC (fun _ => by simp only [Rp]) pe_non
theorem de_str {x j pos} : DE X B (.Constant (.str x) j pos) (dC (.str x)) := liftC (fun _ => by simp only [Rp]) pe_str
theorem dv (i : Nat) {x : Str} {pos : Pos} (hN : X.N[i]? = some x := by rfl) (hv : Vis X.env.scope x := by first | exact Or.inl rfl | exact Or.inr (Or.inl rfl) | exact Or.inr (Or.inr rfl)) (hd : (x == ("__debug__" : Str)) = false := by decide)
    (hcd : (x == ("__classdict__" : Str)) = false := by decide) : DE X B (.Name x pos) (dVar i) := PE.imp (pe_var hN hv hd hcd) fun σ H Q ⟨σd, S, Qd, s, q, k⟩ => by
  unfold dVar at q
  split at q
  · rename_i d hd
    obtain ⟨v, e, r⟩ := s.v.val i d (slot_get hd)
    exact ⟨v, e, k d S v H (Step.refl S H) s.s r q⟩
  · exact q.elim

/-- a two-place operation on data -/
abbrev RD := D → D → Sto → DK → Prop
def OpD (K : Ev) (r : R2) (rd : RD) : Prop := ∀ (x y : D) (v u : V) (S : Sto) (H : Hp) (Q : DK) (Q' : VK), SimS K S H → Rp K H x v → Rp K H y u → rd x y S Q →
  (∀ d S' w H', Step S H S' H' → SimS K S' H' → Rp K H' d w → Q d S' → Q' w H') → r v u H Q'
def dOp (rd : RD) (ta tb : WE) : WE := fun σ S Q => ta σ S fun x S1 => tb σ S1 fun y S2 => rd x y S2 Q
theorem lift_op {r : R2} {rd : RD} (hd : OpD (ev X) r rd) {σ : L2.St} {H : Hp} {Q : VK} (h : liftE (ev X) B (dOp rd ta tb) σ H Q) : tOp r (liftE (ev X) B ta) (liftE (ev X) B tb) σ H Q := by
  obtain ⟨σd, S, Qd, s, q, k⟩ := h
  refine ⟨σd, S, _, s, q, fun x S1 v H1 t1 s1 r1 q1 => ?_⟩
  refine ⟨σd, S1, _, s.step t1 s1, q1, fun y S2 u H2 t2 s2 r2 q2 => ?_⟩
  exact hd x y v u S2 H2 Qd Q s2 (t2.rp s1 r1) r2 q2 fun d S' w H' t3 s3 r3 q3 => k d S' w H' ((t1.trans t2).trans t3) s3 r3 q3
theorem de_op {op : Operator} {r : R2} {rd : RD} (ho : OpR X (binaryOp op) r) (hd : OpD (ev X) r rd) (ha : DE X B a ta) (hb : DE X B b tb) : DE X B (.BinOp a op b pos) (dOp rd ta tb) :=
  PE.imp (pe_op ho ha hb) fun _ _ _ h => lift_op hd h
theorem de_cmp {op : CmpOp} {r : R2} {rd : RD} (ho : OpR X (compareOp op) r) (hd : OpD (ev X) r rd) (ha : DE X B a ta) (hb : DE X B b tb) (hm : behindInMarks op b = false := by first | exact nomark _ | rfl) : DE X B (.Compare a [op] [b] pos) (dOp rd ta tb) :=
  PE.imp (pe_cmpR ho ha hb hm) fun _ _ _ h => lift_op hd h
end
end DL

set_option maxRecDepth 100000
/-! Tests, statements, targets, loops, comprehensions over data. -/
namespace DL
open PySem PySem.Spec PyProof.Rows L2

def br (b : Bool) (p q : Prop) : Prop := match b with
  | true => p
  | false => q
theorem br_split {b : Bool} {p q : Prop} (h1 : b = true → p) (h2 : b = false → q) : br b p q := by
  cases b
  · exact h2 rfl
  · exact h1 rfl
theorem br_ite {b : Bool} {p q : Prop} (h : br b p q) : if b = true then p else q := by
  cases b
  · rw [if_neg Bool.false_ne_true]
    exact h
  · rw [if_pos rfl]
    exact h

def kB (Q : Bool → Sto → Prop) : DK := fun d S => match d with
  | .bl b => Q b S
  | _ => False
theorem kB_of {K : Ev} {H : Hp} {d : D} {v : V} {S : Sto} {Q : Bool → Sto → Prop} (r : Rp K H d v) (h : kB Q d S) : ∃ b, v = .bl b ∧ Q b S := by
  cases d with
  | bl b => exact ⟨b, by simpa only [Rp] using r, h⟩
  | _ => exact h.elim
def dTest (t : WE) : WT := fun σ S Q => t σ S (kB Q)
def dAnd (t u : WT) : WT := fun σ S Q => t σ S fun b S1 => br b (u σ S1 Q) (Q false S1)
def dOr (t u : WT) : WT := fun σ S Q => t σ S fun b S1 => br b (Q true S1) (u σ S1 Q)
def dNot (t : WT) : WT := fun σ S Q => t σ S fun b S1 => Q (!b) S1
def dAndV (t u : WE) : WE := fun σ S Q => t σ S (kB fun b S1 => br b (u σ S1 Q) (Q (.bl false) S1))
def dOrV (t u : WE) : WE := fun σ S Q => t σ S (kB fun b S1 => br b (Q (.bl true) S1) (u σ S1 Q))
def dNotV (t : WE) : WE := fun σ S Q => t σ S (kB fun b S1 => Q (.bl (!b)) S1)
def dIf (c : WT) (t u : WE) : WE := fun σ S Q => c σ S fun b S1 => br b (t σ S1 Q) (u σ S1 Q)
def dChain (rd rd' : RD) (ta tb tc : WE) : WE := fun σ S Q => ta σ S fun x S1 => tb σ S1 fun y S2 => rd x y S2 (kB fun b S3 => br b (tc σ S3 fun z S4 => rd' y z S4 Q) (Q (.bl false) S3))

section
variable {X : Cx} {B : Sto × Hp} {pos : Pos} {a b c e : Expr} {es : List Expr} {ta tb tc te : WE} {t u : WT} {rest : List Expr}

theorem lift_test {σ : L2.St} {H : Hp} {Q : Bool → Hp → Prop} (h : liftT (ev X) B (dTest te) σ H Q) : liftE (ev X) B te σ H fun x H1 => ∃ k, x = .bl k ∧ Q k H1 := by
  obtain ⟨σd, S, Qd, s, q, k⟩ := h
  refine ⟨σd, S, _, s, q, fun d S' v H' t1 s1 r1 q1 => ?_⟩
  obtain ⟨b, e, q2⟩ := kB_of r1 q1
  exact ⟨b, e, k b S' H' t1 s1 q2⟩
theorem dt_val (h : DE X B e te) (he : ∀ whole, isTrue e X.env whole = (do let v ← whole; standAt e.pos; holding [v] (truthy v)) := by intro _; rfl) : DT X B e (dTest te) := PT.imp (pt_val h he) fun _ _ _ q => lift_test q
theorem dt_cmp {op : CmpOp} {r : R2} {rd : RD} (ho : OpR X (compareOp op) r) (hd : OpD (ev X) r rd) (ha : DE X B a ta) (hb : DE X B b tb) (hm : behindInMarks op b = false := by first | exact nomark _ | rfl) : DT X B (.Compare a [op] [b] pos) (dTest (dOp rd ta tb)) :=
  PT.imp (pt_cmpR ho ha hb hm) fun _ _ _ q => lift_op hd (lift_test q)
theorem lift_chain {r r' : R2} {rd rd' : RD} (hd : OpD (ev X) r rd) (hd' : OpD (ev X) r' rd') {σ : L2.St} {H : Hp} {Q : VK} (h : liftE (ev X) B (dChain rd rd' ta tb tc) σ H Q) : tChain r r' (liftE (ev X) B ta) (liftE (ev X) B tb) (liftE (ev X) B tc) σ H Q := by
  obtain ⟨σd, S, Qd, s, q, k⟩ := h
  refine ⟨σd, S, _, s, q, fun x S1 v H1 t1 s1 r1 q1 => ?_⟩
  refine ⟨σd, S1, _, s.step t1 s1, q1, fun y S2 u H2 t2 s2 r2 q2 => ?_⟩
  refine hd x y v u S2 H2 _ _ s2 (t2.rp s1 r1) r2 q2 fun d S3 w H3 t3 s3 r3 q3 => ?_
  obtain ⟨b, e, q4⟩ := kB_of r3 q3
  refine ⟨b, e, ?_⟩
  have t13 := (t1.trans t2).trans t3
  cases b with
  | false =>
    rw [if_neg Bool.false_ne_true]
    exact k _ _ _ _ t13 s3 (by simp only [Rp]) q4
  | true =>
    rw [if_pos rfl]
    refine ⟨σd, S3, _, s.step t13 s3, q4, fun z S4 w' H4 t4 s4 r4 q5 => ?_⟩
    exact hd' y z u w' S4 H4 Qd Q s4 (t4.rp s3 (t3.rp s2 r2)) r4 q5 fun d S' w2 H' t5 s5 r5 q6 => k d S' w2 H' ((t13.trans t4).trans t5) s5 r5 q6
theorem de_chain {op op' : CmpOp} {r r' : R2} {rd rd' : RD} (ho : OpR X (compareOp op) r) (hd : OpD (ev X) r rd) (ho' : OpR X (compareOp op') r') (hd' : OpD (ev X) r' rd') (ha : DE X B a ta) (hb : DE X B b tb) (hc : DE X B c tc)
    (hm : lastMarks [op, op'] [b, c] = false := by with_unfolding_all rfl) : DE X B (.Compare a [op, op'] [b, c] pos) (dChain rd rd' ta tb tc) := PE.imp (pe_chain ho ho' ha hb hc hm) fun _ _ _ q => lift_chain hd hd' q
theorem dt_chain {op op' : CmpOp} {r r' : R2} {rd rd' : RD} (ho : OpR X (compareOp op) r) (hd : OpD (ev X) r rd) (ho' : OpR X (compareOp op') r') (hd' : OpD (ev X) r' rd') (ha : DE X B a ta) (hb : DE X B b tb) (hc : DE X B c tc)
    (hm : lastMarks [op, op'] [b, c] = false := by with_unfolding_all rfl) : DT X B (.Compare a [op, op'] [b, c] pos) (dTest (dChain rd rd' ta tb tc)) := PT.imp (pt_chain ho ho' ha hb hc hm) fun _ _ _ q => lift_chain hd hd' (lift_test q)
theorem dw_and1 (ha : DT X B a t) : DW X B (.BoolOp .And [a] pos) t := pw_and1 ha
theorem dw_or1 (ha : DT X B a t) : DW X B (.BoolOp .Or [a] pos) t := pw_or1 ha
theorem dw_and (ha : DT X B a t) (hb : DW X B (.BoolOp .And (b :: rest) pos) u) : DW X B (.BoolOp .And (a :: b :: rest) pos) (dAnd t u) :=
  PW.imp (pw_and ha hb) fun σ H Q ⟨σd, S, Qd, s, q, k⟩ => ⟨σd, S, _, s, q, fun b S' H' t1 s1 q1 => by
    cases b with
    | true =>
      rw [if_pos rfl]
      exact ⟨σd, S', Qd, s.step t1 s1, q1, fun b S2 H2 t2 s2 q2 => k b S2 H2 (t1.trans t2) s2 q2⟩
    | false =>
      rw [if_neg Bool.false_ne_true]
      exact k _ _ _ t1 s1 q1⟩
theorem dw_or (ha : DT X B a t) (hb : DW X B (.BoolOp .Or (b :: rest) pos) u) : DW X B (.BoolOp .Or (a :: b :: rest) pos) (dOr t u) :=
  PW.imp (pw_or ha hb) fun σ H Q ⟨σd, S, Qd, s, q, k⟩ => ⟨σd, S, _, s, q, fun b S' H' t1 s1 q1 => by
    cases b with
    | false =>
      rw [if_neg Bool.false_ne_true]
      exact ⟨σd, S', Qd, s.step t1 s1, q1, fun b S2 H2 t2 s2 q2 => k b S2 H2 (t1.trans t2) s2 q2⟩
    | true =>
      rw [if_pos rfl]
      exact k _ _ _ t1 s1 q1⟩
theorem DW.dt (h : DW X B a t) : DT X B a t := PW.pt h
theorem dt_not (ha : DT X B a t) : DT X B (.UnaryOp .Not a pos) (dNot t) :=
  PT.imp (pt_not ha) fun σ H Q ⟨σd, S, Qd, s, q, k⟩ => ⟨σd, S, _, s, q, fun b S' H' t1 s1 q1 => k _ _ _ t1 s1 q1⟩
theorem de_one {op} (h : DE X B a ta) : DE X B (.BoolOp op [a] pos) ta := pe_one h
theorem de_and (ha : DE X B a ta) (hb : DE X B (.BoolOp .And (b :: rest) pos) tb) : DE X B (.BoolOp .And (a :: b :: rest) pos) (dAndV ta tb) :=
  PE.imp (pe_and ha hb) fun σ H Q ⟨σd, S, Qd, s, q, k⟩ => ⟨σd, S, _, s, q, fun d S' v H' t1 s1 r1 q1 => by
    obtain ⟨b, e, q2⟩ := kB_of r1 q1
    refine ⟨b, e, ?_⟩
    cases b with
    | true =>
      rw [if_pos rfl]
      exact ⟨σd, S', Qd, s.step t1 s1, q2, fun d S2 v H2 t2 s2 r2 q2 => k d S2 v H2 (t1.trans t2) s2 r2 q2⟩
    | false =>
      rw [if_neg Bool.false_ne_true]
      exact k _ _ _ _ t1 s1 (by simp only [Rp]) q2⟩
theorem de_or (ha : DE X B a ta) (hb : DE X B (.BoolOp .Or (b :: rest) pos) tb) : DE X B (.BoolOp .Or (a :: b :: rest) pos) (dOrV ta tb) :=
  PE.imp (pe_or ha hb) fun σ H Q ⟨σd, S, Qd, s, q, k⟩ => ⟨σd, S, _, s, q, fun d S' v H' t1 s1 r1 q1 => by
    obtain ⟨b, e, q2⟩ := kB_of r1 q1
    refine ⟨b, e, ?_⟩
    cases b with
    | false =>
      rw [if_neg Bool.false_ne_true]
      exact ⟨σd, S', Qd, s.step t1 s1, q2, fun d S2 v H2 t2 s2 r2 q2 => k d S2 v H2 (t1.trans t2) s2 r2 q2⟩
    | true =>
      rw [if_pos rfl]
      exact k _ _ _ _ t1 s1 (by simp only [Rp]) q2⟩
theorem de_not (ha : DE X B a ta) : DE X B (.UnaryOp .Not a pos) (dNotV ta) :=
  PE.imp (pe_not ha) fun σ H Q ⟨σd, S, Qd, s, q, k⟩ => ⟨σd, S, _, s, q, fun d S' v H' t1 s1 r1 q1 => by
    obtain ⟨b, e, q2⟩ := kB_of r1 q1
    exact ⟨b, e, k _ _ _ _ t1 s1 (by simp only [Rp]) q2⟩⟩
theorem de_if (hc : DT X B c t) (ha : DE X B a ta) (hb : DE X B b tb) : DE X B (.IfExp c a b pos) (dIf t ta tb) :=
  PE.imp (pe_ifExp hc ha hb) fun σ H Q ⟨σd, S, Qd, s, q, k⟩ => ⟨σd, S, _, s, q, fun b S' H' t1 s1 q1 => by
    cases b with
    | true =>
      rw [if_pos rfl]
      exact ⟨σd, S', Qd, s.step t1 s1, q1, fun d S2 v H2 t2 s2 r2 q2 => k d S2 v H2 (t1.trans t2) s2 r2 q2⟩
    | false =>
      rw [if_neg Bool.false_ne_true]
      exact ⟨σd, S', Qd, s.step t1 s1, q1, fun d S2 v H2 t2 s2 r2 q2 => k d S2 v H2 (t1.trans t2) s2 r2 q2⟩⟩
end

/-! ### argument lists, displays -/
def aNil : WA := fun _ S Q => Q [] S
def aCons (t : WE) (r : WA) : WA := fun σ S Q => t σ S fun d S1 => r σ S1 fun ds S2 => Q (d :: ds) S2
def dTup (t : WA) : WE := fun σ S Q => t σ S fun ds S1 => ds.length ≤ sizeLine ∧ Q (.tup ds) S1
def dLst (t : WA) : WE := fun σ S Q => t σ S fun ds S1 => ds.length ≤ sizeLine ∧ ∀ p, S1 p = none → Q (.ref p) (sput S1 p (.lst ds))
section
variable {X : Cx} {B : Sto × Hp} {pos : Pos} {e : Expr} {es : List Expr} {te : WE} {t : WA}
theorem da_nil : DA X B [] aNil := PA.imp pa_nil fun σ H Q ⟨σd, S, Qd, s, q, k⟩ => k _ _ _ _ (Step.refl S H) s.s Rps.nil q
theorem da_cons (ha : DE X B e te) (hr : DA X B es t) (hs : starEach (e :: es) X.env = (false, eval e X.env) :: starEach es X.env := by rfl) : DA X B (e :: es) (aCons te t) :=
  PA.imp (pa_cons ha hr hs) fun σ H Q ⟨σd, S, Qd, s, q, k⟩ => ⟨σd, S, _, s, q, fun d S1 v H1 t1 s1 r1 q1 =>
    ⟨σd, S1, _, s.step t1 s1, q1, fun ds S2 vs H2 t2 s2 r2 q2 => k _ _ _ _ (t1.trans t2) s2 ((r2.cons (t2.rp s1 r1))) q2⟩⟩
theorem de_tup {x1} (h : DA X B es t) : DE X B (.Tuple es x1 pos) (dTup t) :=
  PE.imp (pe_tup h) fun σ H Q ⟨σd, S, Qd, s, q, k⟩ => ⟨σd, S, _, s, q, fun ds S1 vs H1 t1 s1 r1 q1 =>
    ⟨by rw [← r1.length]; exact q1.1, fun p hp => k (.tup ds) S1 _ _ (t1.trans (Step.fresh s1 hp)) (s1.fresh hp) (by
      simp only [Rp]
      exact ⟨p, vs, rfl, SqT.of upd_same, (Step.fresh s1 hp).rps s1 r1⟩) q1.2⟩⟩
theorem de_lst (h : DA X B es t) : DE X B (.List es pos) (dLst t) :=
  PE.imp (pe_lst h) fun σ H Q ⟨σd, S, Qd, s, q, k⟩ => ⟨σd, S, _, s, q, fun ds S1 vs H1 t1 s1 r1 q1 =>
    ⟨by rw [← r1.length]; exact q1.1, fun p hp => k (.ref p) _ _ _ (t1.trans (Step.new s1 hp)) (s1.new (u := .lst ds) hp fun H' m e => ⟨vs, e, r1.mono m⟩) (by simp only [Rp]) (q1.2 p (s1.off hp))⟩⟩
end

/-! ### statements -/
def sNext : WS := fun D σ S => D.nx σ S
def sSeq (t u : WS) : WS := fun D σ S => t { D with nx := u D } σ S
def sBreak : WS := fun D σ S => D.bk σ S
def sCont : WS := fun D σ S => D.ct σ S
def sDrop (t : WE) : WS := fun D σ S => t σ S fun _ S1 => D.nx σ S1
def sRet (t : WE) : WS := fun D σ S => t σ S D.rt
def sRetN : WS := fun D σ S => D.rt .non S
def sIf (c : WT) (t u : WS) : WS := fun D σ S => c σ S fun b S1 => br b (t D σ S1) (u D σ S1)
section
variable {K : Ev} {S S' : Sto} {H H' : Hp} {Dd : DEnds} {D' : Ends}
theorem EndsOk.step (h : EndsOk K S H Dd D') (t : Step S H S' H') : EndsOk K S' H' Dd D' :=
  ⟨fun σd S2 σ H2 t2 => h.nx σd S2 σ H2 (t.trans t2), fun d S2 v H2 t2 => h.rt d S2 v H2 (t.trans t2), fun σd S2 σ H2 t2 => h.bk σd S2 σ H2 (t.trans t2), fun σd S2 σ H2 t2 => h.ct σd S2 σ H2 (t.trans t2)⟩
end
section
variable {X : Cx} {B : Sto × Hp} {pos : Pos} {e c : Expr} {te : WE} {tc : WT} {st : Stmt} {rest a b : List Stmt} {t u : WS}
theorem dss_nil : DSs X B [] sNext := PSs.imp pss_nil fun D' σ H ⟨σd, S, Dd, s, q, k⟩ => k.nx _ _ _ _ (Step.refl S H) s.s s.v q
theorem lift_seq {D' : Ends} {σ : L2.St} {H : Hp} (h : liftS (ev X) B (sSeq t u) D' σ H) : tSeq (liftS (ev X) B t) (liftS (ev X) B u) D' σ H := by
  obtain ⟨σd, S, Dd, s, q, k⟩ := h
  exact ⟨σd, S, _, s, q, fun σ2 S2 σ' H2 t2 s2 v2 q2 => ⟨σ2, S2, Dd, ⟨v2, s2, s.b.trans t2⟩, q2, k.step t2⟩, k.rt, k.bk, k.ct⟩
theorem dss_cons (h1 : DSt X B st t) (h2 : DSs X B rest u) : DSs X B (st :: rest) (sSeq t u) := PSs.imp (pss_cons h1 h2) fun _ _ _ h => lift_seq h
theorem dss_one (h1 : DSt X B st t) : DSs X B [st] t := pss_one h1
theorem ds_pass : DSt X B (.Pass pos) sNext := PS.imp ps_pass fun D' σ H ⟨σd, S, Dd, s, q, k⟩ => k.nx _ _ _ _ (Step.refl S H) s.s s.v q
theorem ds_break : DSt X B (.Break pos) sBreak := PS.imp ps_break fun D' σ H ⟨σd, S, Dd, s, q, k⟩ => k.bk _ _ _ _ (Step.refl S H) s.s s.v q
theorem ds_continue : DSt X B (.Continue pos) sCont := PS.imp ps_continue fun D' σ H ⟨σd, S, Dd, s, q, k⟩ => k.ct _ _ _ _ (Step.refl S H) s.s s.v q
theorem ds_expr (he : DE X B e te) (hs : swapsWith e none pos.line X.env = pure false := by rfl) : DSt X B (.Expr e pos) (sDrop te) :=
  PS.imp (ps_expr he hs) fun D' σ H ⟨σd, S, Dd, s, q, k⟩ => ⟨σd, S, _, s, q, fun d S1 v H1 t1 s1 r1 q1 => k.nx _ _ _ _ t1 s1 (s.v.step t1 s.s) q1⟩
theorem ds_ret (he : DE X B e te) : DSt X B (.Return (some e) pos) (sRet te) :=
  PS.imp (ps_ret he) fun D' σ H ⟨σd, S, Dd, s, q, k⟩ => ⟨σd, S, _, s, q, fun d S1 v H1 t1 s1 r1 q1 => k.rt _ _ _ _ t1 s1 r1 q1⟩
theorem ds_retN : DSt X B (.Return none pos) sRetN := PS.imp ps_retN fun D' σ H ⟨σd, S, Dd, s, q, k⟩ => k.rt _ _ _ _ (Step.refl S H) s.s (by simp only [Rp]) q
theorem ds_if (hc : DT X B c tc) (ha : DSs X B a t) (hb : DSs X B b u) : DSt X B (.If c a b pos) (sIf tc t u) :=
  PS.imp (ps_if hc ha hb) fun D' σ H ⟨σd, S, Dd, s, q, k⟩ => ⟨σd, S, _, s, q, fun b S1 H1 t1 s1 q1 => by
    cases b with
    | true =>
      refine iteT ?_
      exact ⟨σd, S1, Dd, s.step t1 s1, q1, k.step t1⟩
    | false =>
      refine iteF ?_
      exact ⟨σd, S1, Dd, s.step t1 s1, q1, k.step t1⟩⟩
end

/-! ### targets -/
abbrev WG := D → DS → Sto → (DS → Sto → Prop) → Prop
abbrev WGs := List D → DS → Sto → (DS → Sto → Prop) → Prop
/-- a target's reading over data; the slots at vs alone may change -/
structure GOk (K : Ev) (vs : List Nat) (g : TG) (gd : WG) : Prop where
  run : ∀ (d : D) (v : V) (σd : DS) (S : Sto) (σ : L2.St) (H : Hp) (Qd : DS → Sto → Prop) (Q : L2.St → Hp → Prop), SimV K H σd σ → SimS K S H → Rp K H d v → gd d σd S Qd →
    (∀ σd' S' σ' H', Step S H S' H' → SimS K S' H' → SimV K H' σd' σ' → wipe σ' vs = wipe σ vs → Qd σd' S' → Q σ' H') → g v σ H Q
structure GsOk (K : Ev) (vs : List Nat) (g : TGs) (gd : WGs) : Prop where
  run : ∀ (d : List D) (v : List V) (σd : DS) (S : Sto) (σ : L2.St) (H : Hp) (Qd : DS → Sto → Prop) (Q : L2.St → Hp → Prop), SimV K H σd σ → SimS K S H → Rps K H d v → gd d σd S Qd →
    (∀ σd' S' σ' H', Step S H S' H' → SimS K S' H' → SimV K H' σd' σ' → wipe σ' vs = wipe σ vs → Qd σd' S' → Q σ' H') → g v σ H Q
def gdName (i : Nat) : WG := fun d σ S Q => Q (σ.set i (some d)) S
def gdNil : WGs := fun ds σ S Q => match ds with
  | [] => Q σ S
  | _ :: _ => False
def gdCons (g : WG) (r : WGs) : WGs := fun ds σ S Q => match ds with
  | d :: ds => g d σ S fun σ1 S1 => r ds σ1 S1 Q
  | [] => False
def gdTup (n : Nat) (g : WGs) : WG := fun d σ S Q => match d with
  | .tup ds => ds.length = n ∧ g ds σ S Q
  | _ => False
theorem wipe_get : ∀ {vs : List Nat} {σ : L2.St} {j : Nat}, j ∉ vs → (wipe σ vs)[j]? = σ[j]?
  | [], _, _, _ => rfl
  | v :: vs, σ, j, h => by
    unfold wipe
    have h1 : v ≠ j := fun e => h (e ▸ List.mem_cons_self ..)
    rw [List.getElem?_set_ne h1]
    exact wipe_get fun e => h (List.mem_cons_of_mem _ e)
theorem wipe_in : ∀ {vs : List Nat} {σ : L2.St} {j : Nat}, j ∈ vs → (wipe σ vs)[j]? = if j < σ.length then some none else none
  | [], _, _, h => absurd h (by simp)
  | v :: vs, σ, j, h => by
    unfold wipe
    by_cases e : v = j
    · subst e
      by_cases hl : v < σ.length
      · rw [if_pos hl]
        rw [List.getElem?_set_self (by rw [wipe_length]; exact hl)]
      · rw [if_neg hl]
        refine List.getElem?_eq_none_iff.mpr ?_
        rw [List.length_set, wipe_length]
        omega
    · rw [List.getElem?_set_ne e]
      refine wipe_in ?_
      rcases List.mem_cons.mp h with z | z
      · exact absurd z.symm e
      · exact z
theorem wipe_set {vs : List Nat} {σ : L2.St} {i : Nat} {x : Option V} (h : i ∈ vs) : wipe (σ.set i x) vs = wipe σ vs := by
  refine List.ext_getElem? fun j => ?_
  by_cases hj : j ∈ vs
  · rw [wipe_in hj, wipe_in hj, List.length_set]
  · rw [wipe_get hj, wipe_get hj, List.getElem?_set_ne]
    rintro rfl
    exact hj h
section
variable {K : Ev} {H : Hp} {σd : DS} {σ : L2.St}
theorem SimV.set {d : D} {v : V} (x : SimV K H σd σ) (r : Rp K H d v) (i : Nat) : SimV K H (σd.set i (some d)) (σ.set i (some v)) := by
  refine ⟨by rw [List.length_set, List.length_set]; exact x.len, fun j e h => ?_⟩
  by_cases hj : i = j
  · subst hj
    have hl : i < σd.length := by
      obtain ⟨h1, _⟩ := List.getElem?_eq_some_iff.mp h
      simpa using h1
    rw [List.getElem?_set_self hl] at h
    cases h
    exact ⟨v, List.getElem?_set_self (by rw [← x.len]; exact hl), r⟩
  · rw [List.getElem?_set_ne hj] at h
    obtain ⟨w, e1, r1⟩ := x.val j e h
    exact ⟨w, by rw [List.getElem?_set_ne hj]; exact e1, r1⟩
theorem SimV.del (x : SimV K H σd σ) (i : Nat) (y : Option V) : SimV K H (σd.set i none) (σ.set i y) := by
  refine ⟨by rw [List.length_set, List.length_set]; exact x.len, fun j e h => ?_⟩
  by_cases hj : i = j
  · subst hj
    have hl : i < σd.length := by
      obtain ⟨h1, _⟩ := List.getElem?_eq_some_iff.mp h
      simpa using h1
    rw [List.getElem?_set_self hl] at h
    cases h
  · rw [List.getElem?_set_ne hj] at h
    obtain ⟨w, e1, r1⟩ := x.val j e h
    exact ⟨w, by rw [List.getElem?_set_ne hj]; exact e1, r1⟩
def wipeD (σ : DS) : List Nat → DS
  | [] => σ
  | v :: vs => (wipeD σ vs).set v none
theorem SimV.wipe (x : SimV K H σd σ) : ∀ vs : List Nat, SimV K H (wipeD σd vs) (wipe σ vs)
  | [] => x
  | v :: vs => (SimV.wipe x vs).del v none
theorem gok_name {i : Nat} {vs : List Nat} (h : i ∈ vs := by decide) : GOk K vs (gName i) (gdName i) := ⟨fun d v σd S σ H Qd Q x s r q k => k _ S _ H (Step.refl S H) s (x.set r i) (wipe_set h) q⟩
theorem gsok_nil {vs : List Nat} : GsOk K vs gNil gdNil := ⟨fun d v σd S σ H Qd Q x s r q k => by
  cases d with
  | nil => exact ⟨r.nilEq, k _ S _ H (Step.refl S H) s x rfl q⟩
  | cons _ _ => exact q.elim⟩
theorem gsok_cons {vs : List Nat} {g : TG} {gd : WG} {r : TGs} {rd : WGs} (h1 : GOk K vs g gd) (h2 : GsOk K vs r rd) : GsOk K vs (gCons g r) (gdCons gd rd) := ⟨fun d v σd S σ H Qd Q x s rr q k => by
  cases d with
  | nil => exact q.elim
  | cons d ds =>
    simp only [Rps] at rr
    obtain ⟨v0, vr, rfl, r0, r1⟩ := rr
    refine ⟨v0, vr, rfl, h1.run d v0 σd S σ H _ _ x s r0 q fun σ1 S1 σ' H1 t1 s1 x1 w1 q1 => ?_⟩
    exact h2.run ds vr σ1 S1 σ' H1 _ _ x1 s1 (t1.rps s r1) q1 fun σ2 S2 σ'' H2 t2 s2 x2 w2 q2 => k _ _ _ _ (t1.trans t2) s2 x2 (w2.trans w1) q2⟩
theorem gok_tup {vs : List Nat} {n : Nat} {g : TGs} {gd : WGs} (h : GsOk K vs g gd) : GOk K vs (gTup K.k n g) (gdTup n gd) := ⟨fun d v σd S σ H Qd Q x s r q k => by
  cases d with
  | tup ds =>
    simp only [Rp] at r
    obtain ⟨a, us, rfl, hq, rr⟩ := r
    exact ⟨a, us, rfl, hq, by rw [← rr.length]; exact q.1, h.run ds us σd S σ H _ _ x s rr q.2 k⟩
  | _ => exact q.elim⟩
end

/-! ### assignments -/
def sAsg (t : WE) (g : WG) : WS := fun D σ S => t σ S fun d S1 => g d σ S1 D.nx
section
variable {X : Cx} {B : Sto × Hp} {pos : Pos} {e tg : Expr} {te : WE}
theorem lift_asg {vs : List Nat} {g : TG} {gd : WG} (hg : GOk (ev X) vs g gd) {D' : Ends} {σ : L2.St} {H : Hp} (h : liftS (ev X) B (sAsg te gd) D' σ H) : tAsg (liftE (ev X) B te) g D' σ H := by
  obtain ⟨σd, S, Dd, s, q, k⟩ := h
  refine ⟨σd, S, _, s, q, fun d S1 v H1 t1 s1 r1 q1 => ?_⟩
  exact hg.run d v σd S1 σ H1 _ _ (s.v.step t1 s.s) s1 r1 q1 fun σ2 S2 σ' H2 t2 s2 x2 _ q2 => k.nx _ _ _ _ (t1.trans t2) s2 x2 q2
theorem ds_set {i : Nat} {x : Str} {pos' : Pos} (hN : X.N.Nodup) (he : DE X B e te) (hi : X.N[i]? = some x := by rfl) (hx : Loc X.env.scope x := by first | exact Or.inl rfl | exact Or.inr rfl) (hs : swapsWith e (some (.Name x pos')) pos.line X.env = pure false := by rfl)
    (hf : X.fn x = true ∨ X.env.scope.names.lookup x = some .local := by first | exact .inl rfl | exact .inr rfl) : DSt X B (.Assign [.Name x pos'] e pos) (sAsg te (gdName i)) :=
  PS.imp (ps_set hN hi hx he hs hf) fun D' σ H h => lift_asg (vs := [i]) (gok_name (List.mem_singleton.mpr rfl)) h
theorem ds_asg {vs : List Nat} {g : TG} {gd : WG} (he : DE X B e te) (hp : PG X tg g) (hg : GOk (ev X) vs g gd) (hs : swapsWithSole [tg] e pos.line X.env = pure false := by rfl) (hw : swappedStores [tg] e X.env = pure none := by rfl)
    (h1 : (assignEach [tg] X.env).map (·.2) = [assign tg X.env] := by rfl) : DSt X B (.Assign [tg] e pos) (sAsg te gd) :=
  PS.imp (ps_asg he hp hs hw h1) fun D' σ H h => lift_asg hg h
/-- two names, two values -/
def sPar (i j : Nat) (t : WA) : WS := fun D σ S => t σ S fun ds S1 => match ds with
  | [d, e] => D.nx ((σ.set i (some d)).set j (some e)) S1
  | _ => False
theorem ds_par {i j : Nat} {x y : Str} {a b : Expr} {ta : WA} {px py pt : Pos} {kt k2 pt2} (hc : X.calm = true) (hN : X.N.Nodup) (ha : DA X B [a, b] ta)
    (hi : X.N[i]? = some x := by rfl) (hj : X.N[j]? = some y := by rfl) (hij : i ≠ j := by decide)
    (hx : X.env.scope.names.lookup x = some .local := by rfl) (hy : X.env.scope.names.lookup y = some .local := by rfl)
    (hw : swappedStores [.Tuple [.Name x px, .Name y py] kt pt] (.Tuple [a, b] k2 pt2) X.env = pure (some [x, y]) := by rfl)
    (hs : swapsWithSole [.Tuple [.Name x px, .Name y py] kt pt] (.Tuple [a, b] k2 pt2) pos.line X.env = pure false := by rfl) :
    DSt X B (.Assign [.Tuple [.Name x px, .Name y py] kt pt] (.Tuple [a, b] k2 pt2) pos) (sPar i j ta) :=
  PS.imp (ps_par hc hN hi hj hij hx hy ha hw hs) fun D' σ H ⟨σd, S, Dd, s, q, k⟩ => ⟨σd, S, _, s, q, fun ds S1 vs H1 t1 s1 r1 q1 => by
    match ds, q1, r1 with
    | [d, e], q1, r1 =>
      simp only [Rps] at r1
      obtain ⟨v, _, rfl, rv, w, _, rfl, rw', rfl⟩ := r1
      exact ⟨v, w, rfl, k.nx _ _ _ _ t1 s1 (((s.v.step t1 s.s).set rv i).set rw' j) q1⟩
    | [], q1, _ => exact q1.elim
    | [_], q1, _ => exact q1.elim
    | _ :: _ :: _ :: _, q1, _ => exact q1.elim⟩
/-- name op= value -/
def sAug (i : Nat) (rd : RD) (te : WE) : WS := fun D σ S => match slot σ i with
  | some x => te σ S fun y S1 => rd x y S1 fun z S2 => D.nx (σ.set i (some z)) S2
  | none => False
theorem ds_aug {i : Nat} {x : Str} {op : Operator} {ti : TIp} {rd : RD} {pos' : Pos} (hN : X.N.Nodup) (he : DE X B e te) (ho : PIp X op ti) (hd : OpD (ev X) ti rd) (hi : X.N[i]? = some x := by rfl) (hx : Loc X.env.scope x := by first | exact Or.inl rfl | exact Or.inr rfl)
    (hf : X.fn x = true ∨ X.env.scope.names.lookup x = some .local := by first | exact .inl rfl | exact .inr rfl) : DSt X B (.AugAssign (.Name x pos') op e pos) (sAug i rd te) :=
  PS.imp (ps_aug hN hi hx he ho hf) fun D' σ H ⟨σd, S, Dd, s, q, k⟩ => by
    unfold sAug at q
    split at q
    · rename_i x' hx'
      obtain ⟨v, e1, r⟩ := s.v.val i x' (slot_get hx')
      refine ⟨v, e1, σd, S, _, s, q, fun y S1 u H1 t1 s1 r1 q1 => ?_⟩
      exact hd x' y v u S1 H1 _ _ s1 (t1.rp s.s r) r1 q1 fun z S2 w H2 t2 s2 r2 q2 => k.nx _ _ _ _ (t1.trans t2) s2 (((s.v.step t1 s.s).step t2 s1).set r2 i) q2
    · exact q.elim
end

/-! ### while -/
/-- the invariant W with its measure -/
def sWhile (c : WT) (tb : WS) : WS := fun D σ S => ∃ W : Nat → DS → Sto → Prop, (∃ m, W m σ S) ∧ ∀ m σ S, W m σ S →
  c σ S fun b S1 => br b (tb { D with nx := fun σ' S' => ∃ m', m' < m ∧ W m' σ' S', ct := fun σ' S' => ∃ m', m' < m ∧ W m' σ' S', bk := D.nx } σ S1) (D.nx σ S1)
section
variable {X : Cx} {B : Sto × Hp} {pos : Pos}
theorem ds_while {c : Expr} {body : List Stmt} {tc : WT} {tb : WS} (hp : PassesOwn (model X.prog X.w) X.A X.env X.xe) (hc : DT X B c tc) (hb : DSs X B body tb) : DSt X B (.While c body [] pos) (sWhile tc tb) :=
  PS.imp (ps_while hp hc hb) fun D' σ H ⟨σd, S, Dd, s, ⟨W, ⟨m0, w0⟩, turn⟩, k⟩ => by
    refine ⟨fun m σ' H' => ∃ σd' S', Sim (ev X) B σd' S' σ' H' ∧ Step S H S' H' ∧ W m σd' S', ⟨m0, σd, S, s, Step.refl S H, w0⟩, ?_⟩
    rintro m σ' H' ⟨σd', S', s', t', w'⟩
    refine ⟨σd', S', _, s', turn m σd' S' w', fun b S1 H1 t1 s1 q1 => ?_⟩
    have sim1 := s'.step t1 s1
    cases b with
    | false =>
      refine iteF ?_
      exact k.nx _ _ _ _ (t'.trans t1) s1 sim1.v q1
    | true =>
      refine iteT ?_
      refine ⟨fun σ'' H'' => ∃ m', m' < m ∧ ∃ σd' S', Sim (ev X) B σd' S' σ'' H'' ∧ Step S H S' H'' ∧ W m' σd' S', fun _ _ z => z, σd', S1, _, sim1, q1, ?_, ?_, ?_, ?_⟩
      · rintro σ2 S2 σ'' H'' t2 s2 v2 ⟨m', hm, w2⟩
        exact ⟨m', hm, σ2, S2, ⟨v2, s2, sim1.b.trans t2⟩, (t'.trans t1).trans t2, w2⟩
      · exact fun d S2 v H2 t2 => k.rt d S2 v H2 ((t'.trans t1).trans t2)
      · exact fun σ2 S2 σ'' H'' t2 => k.nx σ2 S2 σ'' H'' ((t'.trans t1).trans t2)
      · rintro σ2 S2 σ'' H'' t2 s2 v2 ⟨m', hm, w2⟩
        exact ⟨m', hm, σ2, S2, ⟨v2, s2, sim1.b.trans t2⟩, (t'.trans t1).trans t2, w2⟩
end

/-! ### what is walked -/
abbrev WI := DS → Sto → (List D → (Sto → Prop) → Sto → Prop) → Prop
/-- the iterator J yields these data while G holds of the store -/
structure ItOk (K : Ev) (S : Sto) (H : Hp) (J : It) (its : List D) (G : Sto → Prop) : Prop where
  go : ∀ (i : Nat) (d : D) (S' : Sto) (H' : Hp), its[i]? = some d → Step S H S' H' → SimS K S' H' → G S' → J.go i H' ∧ ∀ x H'', J.yld i H' x H'' → Step S' H' S' H'' ∧ SimS K S' H'' ∧ Rp K H'' d x
  stop : ∀ (S' : Sto) (H' : Hp), Step S H S' H' → SimS K S' H' → G S' → J.stop its.length H'
structure DI (X : Cx) (B : Sto × Hp) (tg iter : Expr) (wi : WI) : Prop where
  ex : ∃ w : TI, PI X tg iter w ∧ ∀ (σd : DS) (S : Sto) (σ : L2.St) (H : Hp) (R : List D → (Sto → Prop) → Sto → Prop) (R' : It → Hp → Prop), Sim (ev X) B σd S σ H → wi σd S R →
    (∀ J its G S' H', Step S H S' H' → SimS (ev X) S' H' → ItOk (ev X) S' H' J its G → R its G S' → R' J H') → w σ H R'
def forW (G : Sto → Prop) (g : WG) (tb : WS) (D : DEnds) : List DL.D → DS → Sto → Prop
  | [], σ, S => G S ∧ D.nx σ S
  | d :: r, σ, S => G S ∧ g d σ S fun σ1 S1 => tb { D with nx := forW G g tb D r, ct := forW G g tb D r, bk := D.nx } σ1 S1
theorem forW_G {G : Sto → Prop} {g : WG} {tb : WS} {D : DEnds} {its : List DL.D} {σ : DS} {S : Sto} (h : forW G g tb D its σ S) : G S := by
  cases its <;> exact h.1
def sFor (wi : WI) (g : WG) (tb : WS) : WS := fun D σ S => wi σ S fun its G S1 => forW G g tb D its σ S1
section
variable {X : Cx} {B : Sto × Hp} {pos : Pos} {tg iter : Expr} {wi : WI} {vs : List Nat} {g : TG} {gd : WG}
theorem ds_for {body : List Stmt} {tb : WS} (hp : PassesOwn (model X.prog X.w) X.A X.env X.xe) (hc : X.calm = true) (hi : DI X B tg iter wi) (hg : PG X tg g) (hk : GOk (ev X) vs g gd) (hb : DSs X B body tb)
    (hs : ∀ x, foldedSetIterable iter X.env x = pure x := by intro _; rfl) : DSt X B (.For tg iter body [] pos) (sFor wi gd tb) := by
  obtain ⟨w, pi, hw⟩ := hi.ex
  refine PS.imp (ps_for hp hc pi hg hb hs) fun D' σ H ⟨σd, S, Dd, s, q, k⟩ => ?_
  refine hw σd S σ H _ _ s q fun J its G S1 H1 t1 s1 io q1 => ?_
  refine ⟨fun i m σ' H' => m = its.length - i ∧ i ≤ its.length ∧ ∃ σd' S', Sim (ev X) B σd' S' σ' H' ∧ Step S1 H1 S' H' ∧ forW G gd tb Dd (its.drop i) σd' S',
    ⟨its.length, rfl, Nat.zero_le _, σd, S1, s.step t1 s1, Step.refl S1 H1, q1⟩, ?_⟩
  rintro i m σ' H' ⟨rfl, hi, σd', S', s', t', q'⟩
  have hG := forW_G q'
  by_cases hlt : i < its.length
  · obtain ⟨hgo, hyl⟩ := io.go i its[i] S' H' (by simp [hlt]) t' s'.s hG
    rw [List.drop_eq_getElem_cons hlt] at q'
    refine .inr ⟨hgo, fun σ2 H2 => ∃ m', m' < its.length - i ∧ m' = its.length - (i + 1) ∧ i + 1 ≤ its.length ∧ ∃ σd' S', Sim (ev X) B σd' S' σ2 H2 ∧ Step S1 H1 S' H2 ∧ forW G gd tb Dd (its.drop (i + 1)) σd' S',
      fun σ2 H2 z => z, fun x H2 y => ?_⟩
    obtain ⟨t2, s2, r2⟩ := hyl x H2 y
    refine hk.run its[i] x σd' S' σ' H2 _ _ (s'.v.step t2 s'.s) s2 r2 q'.2 fun σ3 S3 σ'' H3 t3 s3 v3 _ q3 => ?_
    have b3 : Step B.1 B.2 S3 H3 := (s'.b.trans t2).trans t3
    have t13 := (t'.trans t2).trans t3
    have fin : ∀ σ4 S4 σ5 H4, Step S3 H3 S4 H4 → SimS (ev X) S4 H4 → SimV (ev X) H4 σ4 σ5 → forW G gd tb Dd (its.drop (i + 1)) σ4 S4 →
        ∃ m', m' < its.length - i ∧ m' = its.length - (i + 1) ∧ i + 1 ≤ its.length ∧ ∃ σd' S', Sim (ev X) B σd' S' σ5 H4 ∧ Step S1 H1 S' H4 ∧ forW G gd tb Dd (its.drop (i + 1)) σd' S' :=
      fun σ4 S4 σ5 H4 t4 s4 v4 q4 => ⟨its.length - (i + 1), by omega, rfl, hlt, σ4, S4, ⟨v4, s4, b3.trans t4⟩, t13.trans t4, q4⟩
    have k' := k.step (t1.trans t13)
    exact ⟨σ3, S3, _, ⟨v3, s3, b3⟩, q3, fin, k'.rt, k'.nx, fin⟩
  · have e : i = its.length := by omega
    subst e
    rw [List.drop_length] at q'
    exact .inl ⟨io.stop S' H' t' s'.s hG, k.nx _ _ _ _ (t1.trans t') s'.s s'.v q'.2⟩

/-! ### list comprehensions -/
def lcW (G : Sto → Prop) (g : WG) (tt : WT) (te : WE) (σ : DS) (R : List D → Sto → Prop) : List D → List D → Sto → Prop
  | [], acc, S => G S ∧ R acc S
  | d :: r, acc, S => G S ∧ g d σ S fun σ2 S2 => tt σ2 S2 fun b S3 => br b (te σ2 S3 fun y S4 => acc.length < sizeLine ∧ lcW G g tt te σ R r (acc ++ [y]) S4) (lcW G g tt te σ R r acc S3)
theorem lcW_G {G : Sto → Prop} {g : WG} {tt : WT} {te : WE} {σ : DS} {R : List D → Sto → Prop} {its acc : List D} {S : Sto} (h : lcW G g tt te σ R its acc S) : G S := by
  cases its <;> exact h.1
def dLc (wi : WI) (g : WG) (tt : WT) (te : WE) (vs : List Nat) : WE := fun σ S Q => wi σ S fun its G S1 => lcW G g tt te (wipeD σ vs) (fun acc S2 => ∀ p, S2 p = none → Q (.ref p) (sput S2 p (.lst acc))) its [] S1
def dYes : WT := fun _ S Q => Q true S
def DTs (X : Cx) (B : Sto × Hp) (ifs : List Expr) (t : WT) : Prop := PTs X ifs (liftT (ev X) B t)
theorem dts_nil : DTs X B [] dYes := ⟨fun pins s σ H Q I ⟨σd, S, Qd, sm, q, k⟩ => pts_nil.run pins s σ H Q I (k _ _ _ (Step.refl S H) sm.s q)⟩
theorem dts_one {c : Expr} {t : WT} (h : DT X B c t) : DTs X B [c] t := pts_one h
end
/-- the list that is being made, at a place that the store does not know, has grown -/
theorem SimS.scratch {K : Ev} {S : Sto} {H : Hp} (s : SimS K S H) {p : Addr} {ys zs : List V} (hs : S p = none) (hp : H p = some (.lst ys)) : Mo K H (upd H p (.lst zs)) ∧ SimS K S (upd H p (.lst zs)) := by
  have m : Mo K H (upd H p (.lst zs)) := by
    refine ⟨fun a xs q => ?_, fun a xs q => ?_⟩
    · rcases q with q | q
      · have ne : a ≠ p := fun z => by
          subst z
          rcases q with q | ⟨o, q⟩ <;> (rw [hp] at q; cases q)
        rcases q with q | ⟨o, q⟩
        · exact .inl (.inl (by rw [upd_ne ne]; exact q))
        · exact .inl (.inr ⟨o, by rw [upd_ne ne]; exact q⟩)
      · exact .inr q
    · rcases q with ⟨o, q⟩ | q
      · have ne : a ≠ p := fun z => by
          rw [z, hp] at q
          cases q
        exact .inl ⟨o, by rw [upd_ne ne]; exact q⟩
      · exact .inr q
  refine ⟨m, fun a o e => ?_⟩
  have ne : a ≠ p := fun z => by rw [z, hs] at e; cases e
  exact RpO.mono (upd_ne ne) m (s a o e)
section
variable {X : Cx} {B : Sto × Hp} {pos : Pos} {tg iter elt : Expr} {ifs : List Expr} {wi : WI} {vs : List Nat} {g : TG} {gd : WG} {tt : WT} {te : WE}
theorem wipe_wipe {σ : L2.St} {vs : List Nat} : wipe (wipe σ vs) vs = wipe σ vs := by
  refine List.ext_getElem? fun j => ?_
  by_cases hj : j ∈ vs
  · rw [wipe_in hj, wipe_in hj, wipe_length]
  · rw [wipe_get hj]
theorem lift_lc {w : TI} (hk : GOk (ev X) vs g gd)
    (hw : ∀ (σd : DS) (S : Sto) (σ : L2.St) (H : Hp) (R : List D → (Sto → Prop) → Sto → Prop) (R' : It → Hp → Prop), Sim (ev X) B σd S σ H → wi σd S R →
      (∀ J its G S' H', Step S H S' H' → SimS (ev X) S' H' → ItOk (ev X) S' H' J its G → R its G S' → R' J H') → w σ H R')
    {σ : L2.St} {H : Hp} {Q : VK} (h : liftE (ev X) B (dLc wi gd tt te vs) σ H Q) : tLc w g (liftT (ev X) B tt) (liftE (ev X) B te) vs σ H Q := by
  obtain ⟨σd, S, Qd, s, q, k⟩ := h
  refine hw σd S σ H _ _ s q fun J its G S1 H1 t1 s1 io q1 => ?_
  intro L hL
  have nL : S1 L = none := s1.off hL
  have v1 : SimV (ev X) H1 (wipeD σd vs) (wipe σ vs) := (s.v.step t1 s.s).wipe vs
  refine ⟨fun i m H' => m = its.length - i ∧ i ≤ its.length ∧ ∃ S' acc vacc, H' L = some (.lst vacc) ∧ Rps (ev X) H' acc vacc ∧ S' L = none ∧ SimS (ev X) S' H' ∧ Step S1 H1 S' H' ∧
      lcW G gd tt te (wipeD σd vs) (fun acc S2 => ∀ p, S2 p = none → Qd (.ref p) (sput S2 p (.lst acc))) (its.drop i) acc S',
    ⟨its.length, rfl, Nat.zero_le _, S1, [], [], upd_same, Rps.nil, nL, s1.fresh hL, Step.fresh s1 hL, q1⟩, ?_⟩
  rintro i m H' ⟨rfl, hi, S', acc, vacc, hD, rD, nD, s', t', q'⟩
  have hG := lcW_G q'
  by_cases hlt : i < its.length
  · obtain ⟨hgo, hyl⟩ := io.go i its[i] S' H' (by simp [hlt]) t' s' hG
    rw [List.drop_eq_getElem_cons hlt] at q'
    refine .inr ⟨hgo, fun H2 => ∃ m', m' < its.length - i ∧ m' = its.length - (i + 1) ∧ i + 1 ≤ its.length ∧ ∃ S' acc vacc, H2 L = some (.lst vacc) ∧ Rps (ev X) H2 acc vacc ∧ S' L = none ∧ SimS (ev X) S' H2 ∧ Step S1 H1 S' H2 ∧
        lcW G gd tt te (wipeD σd vs) (fun acc S2 => ∀ p, S2 p = none → Qd (.ref p) (sput S2 p (.lst acc))) (its.drop (i + 1)) acc S', fun H2 z => z, fun x H2 y => ?_⟩
    obtain ⟨t2, s2, r2⟩ := hyl x H2 y
    refine hk.run its[i] x (wipeD σd vs) S' (wipe σ vs) H2 _ _ ((v1.step t' s1).step t2 s') s2 r2 q'.2 fun σ3 S3 σ'' H3 t3 s3 v3 w3 q3 => ?_
    have b3 : Step B.1 B.2 S3 H3 := (((s.b.trans t1).trans t').trans t2).trans t3
    refine ⟨by rw [w3]; exact wipe_wipe, σ3, S3, _, ⟨v3, s3, b3⟩, q3, fun b S4 H4 t4 s4 q4 => ?_⟩
    have t24 := (t2.trans t3).trans t4
    have d4 := t24 L _ hD nD
    have r4 := t24.rps s' rD
    cases b with
    | false =>
      refine iteF ?_
      exact ⟨its.length - (i + 1), by omega, rfl, hlt, S4, acc, vacc, d4.1, r4, d4.2, s4, t'.trans t24, q4⟩
    | true =>
      refine iteT ?_
      refine ⟨σ3, S4, _, ⟨v3.step t4 s3, s4, b3.trans t4⟩, q4, fun y S5 v H5 t5 s5 r5 q5 => ?_⟩
      have d5 := t5 L _ d4.1 d4.2
      have r5' := t5.rps s4 r4
      obtain ⟨mm, s6⟩ := s5.scratch (zs := vacc ++ [v]) d5.2 d5.1
      have t6 : Step S1 H1 S5 (upd H5 L (.lst (vacc ++ [v]))) := fun a o ha na => by
        have z := ((t'.trans t24).trans t5) a o ha na
        have ne : a ≠ L := fun e => by rw [e, hL] at ha; cases ha
        exact ⟨by rw [upd_ne ne]; exact z.1, z.2⟩
      refine ⟨vacc, d5.1, by rw [← r5'.length]; exact q5.1, its.length - (i + 1), by omega, rfl, hlt, S5, acc ++ [y], vacc ++ [v], upd_same, ?_, d5.2, s6, t6, q5.2⟩
      exact (r5'.mono mm).append (Rps.nil.cons (r5.mono mm))
  · have e : i = its.length := by omega
    subst e
    rw [List.drop_length] at q'
    refine .inl ⟨io.stop S' H' t' s' hG, k (.ref L) (sput S' L (.lst acc)) _ _ (fun a o ha na => ?_) (fun a o e => ?_) (by simp only [Rp]) (q'.2 L nD)⟩
    · have z1 := t1 a o ha na
      have z := t' a o z1.1 z1.2
      have ne : a ≠ L := fun e => by rw [e, hL] at z1; cases z1.1
      exact ⟨z.1, by rw [sput_ne ne]; exact z.2⟩
    · by_cases h : a = L
      · subst h
        rw [sput_same] at e
        cases e
        exact ⟨vacc, hD, rD⟩
      · rw [sput_ne h] at e
        exact s' a o e
end
end DL

set_option maxRecDepth 100000
/-! Defs over data: what a def promises, its call, its body, the law's end. -/
namespace DL
open PySem PySem.Spec PyProof.Rows L2

/-- what is wanted of an exception: its class, the value that it keeps, (the slots,) the store -/
abbrev WD := Str → D → DS → Sto → Prop
abbrev XD := Str → D → Sto → Prop
def liftW (K : Ev) (mg : Str → Option Value) (B : Sto × Hp) (W : WD) : WX := fun cls d σ H' => ∃ (x : Str) (C dd : Addr) (v : V) (e : D) (σd : DS) (S' : Sto), mg x = some (.ref C) ∧ cls = .ref C ∧ d = some dd ∧ H' dd = some (.xd [("value", v)]) ∧
  Rp K H' e v ∧ SimV K H' σd σ ∧ SimS K S' H' ∧ Step B.1 B.2 S' H' ∧ W x e σd S'
def EL (K : Ev) (mg : Str → Option Value) (S : Sto) (H : Hp) (E : XD) : XK := fun cls d H' => ∃ (x : Str) (C dd : Addr) (v : V) (e : D) (S' : Sto), mg x = some (.ref C) ∧ cls = .ref C ∧ d = some dd ∧ H' dd = some (.xd [("value", v)]) ∧
  Rp K H' e v ∧ SimS K S' H' ∧ Step S H S' H' ∧ E x e S'
abbrev SpD := List D → Sto → DK → XD → Prop
abbrev WF : WD := fun _ _ _ _ => False
abbrev EF : XD := fun _ _ _ => False

/-- what a body's context gives -/
structure OkD (X : Cx) (B : Sto × Hp) (W : WD) (k : Nat) : Prop where
  calm : X.calm = true
  room : Room k X.A
  guard : X.A.guards = some []
  takes : Takes X (liftW (ev X) X.mg B W)
  own : PassesOwn (model X.prog X.w) X.A X.env X.xe
theorem OkD.mono {X : Cx} {B : Sto × Hp} {W : WD} {j k : Nat} (c : OkD X B W k) (h : j ≤ k) : OkD X B W j := ⟨c.calm, c.room.mono h, c.guard, c.takes, c.own⟩
theorem OkD.blk {X : Cx} {B : Sto × Hp} {W : WD} {k : Nat} (c : OkD X B W k) (s : Shared) (H : Hp) (scope : Scope) (env : Env) (fp : List Addr) : OkD (X.blk s H scope env fp) B WF k := by
  refine ⟨c.calm, c.room, c.guard, fun u s' x => ?_, ?_⟩
  · obtain ⟨a, B, sI, pins, σ, H, cls, d, _, _, _, _, _, _, _, _, w⟩ := x
    obtain ⟨_, _, _, _, _, _, _, _, _, _, _, _, _, _, _, z⟩ := w
    exact z
  · exact PassesOwn.never
theorem OkD.u64 {X : Cx} {B : Sto × Hp} {W : WD} {k : Nat} (c : OkD X B W k) : X.A.units + 64 < cLine := c.room.units
theorem OkD.u65 {X : Cx} {B : Sto × Hp} {W : WD} {k : Nat} (c : OkD X B W k) : X.A.units + 65 < cLine := by
  have := c.room.un
  omega
theorem OkD.u1 {X : Cx} {B : Sto × Hp} {W : WD} {k : Nat} (c : OkD X B W k) : X.A.units + 1 < cLine := hu_of c.room

/-- the def at the global name x keeps sp, at most k calls deep -/
structure FnD (P : Program) (w : World) (K : PySem.W.Frag) (mg : Str → Option Value) (base : Heap) (k : Nat) (x : Str) (sp : SpD) : Prop where
  ex : ∃ f : Addr, mg x = some (.ref f) ∧ PySem.W.keepIn K (.ref f) = true ∧
    ∀ (A : Around) (outer : List Env) (s : Shared) (H : Hp) (us : List Value) (vs : List V) (ds : List D) (S : Sto) (Q : DK) (E : XD), Room k A → A.guards = some [] →
      Env0 P w K mg base A outer s H → Vals vs us → Rps ⟨K, P, w⟩ H ds vs → SimS ⟨K, P, w⟩ S H → sp ds S Q E →
      codeAny (model P w) A (.call (.ref f) ⟨us, []⟩) (CR (CX P w) outer P w H s (QL ⟨K, P, w⟩ S H Q) (EL ⟨K, P, w⟩ mg S H E)) s
theorem FnD.mono {P : Program} {w : World} {K : PySem.W.Frag} {mg : Str → Option Value} {base : Heap} {j k : Nat} {x : Str} {sp : SpD} (F : FnD P w K mg base j x sp) (h : j ≤ k) : FnD P w K mg base k x sp := by
  obtain ⟨f, h1, h2, h3⟩ := F.ex
  exact ⟨f, h1, h2, fun A outer s H us vs ds S Q E hr => h3 A outer s H us vs ds S Q E (hr.mono h)⟩
theorem FnD.imp {P : Program} {w : World} {K : PySem.W.Frag} {mg : Str → Option Value} {base : Heap} {k : Nat} {x : Str} {sp sp' : SpD} (F : FnD P w K mg base k x sp) (h : ∀ ds S Q E, sp' ds S Q E → sp ds S Q E) : FnD P w K mg base k x sp' := by
  obtain ⟨f, h1, h2, h3⟩ := F.ex
  exact ⟨f, h1, h2, fun A outer s H us vs ds S Q E hr hg e0 r rd s0 q => h3 A outer s H us vs ds S Q E hr hg e0 r rd s0 (h _ _ _ _ q)⟩

/-! ### a call -/
def dCall (sp : SpD) (W : WD) (t : WA) : WE := fun σ S Q => t σ S fun ds S1 => sp ds S1 Q fun C e S2 => W C e σ S2
section
variable {X : Cx} {B : Sto × Hp} {W : WD} {j k : Nat} {x : Str} {sp : SpD} {p pos : Pos} {e : Expr} {es : List Expr} {t : WA}
theorem run_fnD {f : Addr} {pins : List (Addr × Obj)} {σ : L2.St} {H : Hp} {σd : DS} {s : Shared} {Q : DK} {Q' : VK} {us : List Value} {vs : List V} {ds : List D} {S : Sto}
    (F : ∀ (A : Around) (outer : List Env) (s : Shared) (H : Hp) (us : List Value) (vs : List V) (ds : List D) (S : Sto) (Q : DK) (E : XD), Room k A → A.guards = some [] →
      Env0 X.prog X.w X.K X.mg X.base A outer s H → Vals vs us → Rps (ev X) H ds vs → SimS (ev X) S H → sp ds S Q E →
      codeAny (model X.prog X.w) A (.call (.ref f) ⟨us, []⟩) (CR (CX X.prog X.w) outer X.prog X.w H s (QL (ev X) S H Q) (EL (ev X) X.mg S H E)) s)
    (c : OkD X B W k) (I : Inv X pins σ H s) (sm : Sim (ev X) B σd S σ H) (r : Vals vs us) (rd : Rps (ev X) H ds vs) (h : sp ds S Q fun C e S2 => W C e σd S2) (hq : ∀ v H', QL (ev X) S H Q v H' → Q' v H') :
    wpAny (model X.prog X.w) X.A (call (.ref f) us) (EP X pins σ Q') X.xe s := by
  refine wpAny_call (codeAny_mono (F X.A X.stack s H us vs ds S Q _ c.room c.guard I.env0 r rd sm.s h) fun r s' hh => ?_)
  cases r with
  | error e =>
    refine c.takes e s' (XE.of_call I (fun cls d H' w => ?_) hh)
    obtain ⟨x, C, dd, v, e, S', h0, h1, h2, h3, h4, h5, h6, h7⟩ := w
    exact ⟨x, C, dd, v, e, σd, S', h0, h1, h2, h3, h4, sm.v.step h6 sm.s, h5, sm.b.trans h6, h7⟩
  | ok fl =>
    cases fl with
    | ret u =>
      obtain ⟨v, H', I', rv, q⟩ := I.after hh
      exact ⟨v, H', I', rv, hq v H' q⟩
    | next => exact False.elim hh
    | brk => exact False.elim hh
    | cont => exact False.elim hh
theorem de_call (F : FnD X.prog X.w X.K X.mg X.base j x sp) (c : OkD X B W k) (ha : DA X B (e :: es) t) (hk : j ≤ k := by decide) (hg : Gl X x := by rfl) (hdb : (x == ("__debug__" : Str)) = false := by decide)
    (he : starEach (e :: es) X.env = (false, eval e X.env) :: starEach es X.env := by rfl) (hpl : (backTo pos (starEach es X.env)).any (·.1) = false := by rfl) :
    DE X B (.Call (.Name x p) (e :: es) [] pos) (dCall sp W t) := by
  obtain ⟨f, h1, h2, h3⟩ := F.ex
  refine ⟨fun pins s σ H Q' I ⟨σd, S, Q, sm, q, kk⟩ => ?_⟩
  refine wpAny_Call_Name_kw (ld_glob I hg h1 ?_ hdb)
  have hargs := PA.run ha pos pins s σ H (fun vs H1 => ∃ ds S1, Step S H S1 H1 ∧ SimS (ev X) S1 H1 ∧ Rps (ev X) H1 ds vs ∧ sp ds S1 Q fun C e S2 => W C e σd S2) I ⟨σd, S, _, sm, q, fun ds S1 vs H1 t1 s1 r1 q1 => ⟨ds, S1, t1, s1, r1, q1⟩⟩
  refine PySem.W.callWith_K (h₀ := X.base) I.ok.mod.kin h2 (thn hargs fun us s1 ⟨vs, H1, I1, r, ds, S1, t1, sm1, rd, hsp⟩ => ⟨I1.kIn, ?_⟩) he hpl
  exact run_fnD h3 (c.mono hk) I1 (sm.step t1 sm1) r rd hsp fun v H' ⟨d, S', t2, s2, r2, q2⟩ => kk d S' v H' (t1.trans t2) s2 r2 q2
theorem de_call0 (F : FnD X.prog X.w X.K X.mg X.base j x sp) (c : OkD X B W k) (hk : j ≤ k := by decide) (hg : Gl X x := by rfl) (hdb : (x == ("__debug__" : Str)) = false := by decide) :
    DE X B (.Call (.Name x p) [] [] pos) (dCall sp W aNil) := by
  obtain ⟨f, h1, h2, h3⟩ := F.ex
  refine ⟨fun pins s σ H Q' I ⟨σd, S, Q, sm, q, kk⟩ => ?_⟩
  refine wpAny_Call_Name_kw (ld_glob I hg h1 ?_ hdb)
  refine PySem.W.callWith_K0 I.kIn h2 ?_
  exact run_fnD h3 (c.mono hk) I sm .nil Rps.nil q fun v H' ⟨d, S', t2, s2, r2, q2⟩ => kk d S' v H' t2 s2 r2 q2
end

/-! ### a def -/
def startD (N : List Str) (ds : List D) : DS := ds.map some ++ List.replicate (N.length - ds.length) none
theorem sim_start {K : Ev} {H : Hp} {N : List Str} {ds : List D} {vs : List V} (r : Rps K H ds vs) : SimV K H (startD N ds) (L2.start N vs) := by
  have e := r.length
  refine ⟨by unfold startD L2.start; simp [e], fun i d h => ?_⟩
  unfold startD at h
  unfold L2.start
  have hi : i < ds.length := by
    by_cases hi : i < ds.length
    · exact hi
    · rw [List.getElem?_append_right (by simpa using hi), List.getElem?_replicate] at h
      split at h <;> cases h
  rw [List.getElem?_append_left (by simpa using hi), List.getElem?_map] at h
  rw [List.getElem?_append_left (by simpa [← e] using hi), List.getElem?_map]
  cases h1 : ds[i]? with
  | none => rw [h1] at h; cases h
  | some d' =>
    rw [h1] at h
    cases h
    obtain ⟨v, e1, r1⟩ := r.get h1
    exact ⟨v, by rw [e1]; rfl, r1⟩
/-- the ends of a body: it falls off its end with None -/
def endsD (Q : DK) : DEnds := { nx := fun _ S => Q .non S, rt := Q }
section
variable {P : Program} {w : World} {K : PySem.W.Frag} {mg : Str → Option Value} {base : Heap} {x qual : Str} {st : Stmt} {f : Addr} {fd : FuncData} {N ps : List Str} {k : Nat} {sp : SpD}
theorem fnD_of (F : Fun K x qual st f fd) (bd : Binds K fd ps []) (S : FnScope N ps (defScope st)) (gx : mg x = some (.ref f)) (len : ∀ ds S Q E, sp ds S Q E → ds.length = ps.length)
    (hbody : ∀ (cdv : Value) (A : Around) (outer : List Env) (s : Shared) (H : Hp) (S0 : Sto) (E : XD), OkD (cxOf (CX P w) P w K mg base N qual (defScope st) f cdv A outer s H (EL ⟨K, P, w⟩ mg S0 H E)) (S0, H) (fun C e _ S => E C e S) k →
      ∃ t, DSs (cxOf (CX P w) P w K mg base N qual (defScope st) f cdv A outer s H (EL ⟨K, P, w⟩ mg S0 H E)) (S0, H) (defBody st) t ∧ ∀ ds Q, sp ds S0 Q E → t (endsD Q) (startD N ds) S0) : FnD P w K mg base (k + 1) x sp := by
  obtain ⟨oc, od, kV, doc, pm, an, cdv, ct, osl, rfl, lk, hcd⟩ := F.ex
  refine ⟨f, gx, F.kp, fun A outer s H us vs ds S0 Q E hr hg e0 r rd s0 hsp => ?_⟩
  have hl : vs.length = ps.length := by rw [← rd.length]; exact len _ _ _ _ hsp
  have KX : K.In s.heap := e0.mod.kin.keeps fun b o e => (e0.bs b o e).1
  have lim : s.heap.NoLimit := e0.mod.nolimit.keeps fun b o e => (e0.bs b o e).1
  have hb := bd s us KX (by rw [List.append_nil, ← r.length]; exact hl)
  rw [List.append_nil] at hb
  have hkind : ∀ y ∈ ps.zip us, (defScope st).names.lookup y.1 = some .local ∨
      ((defScope st).names.lookup y.1 = some .cell ∧ ((cellsFrom (s.heap.objs.size + 1) (defScope st).names []).lookup y.1).isSome = true) := fun ⟨n, v⟩ hy =>
    (S.par n (List.of_mem_zip hy).1).elim .inl fun q => .inr ⟨q, PySem.W.cellsFrom_some _ _ _ (.inl q)⟩
  refine codeAny_call_function hr.depth (KX _ _ lk) rfl S.co S.gen rfl (PySem.W.codeRec_of KX hcd) (hb _ _ _ _ (wpAny_newFunctionEnv_cells S.kind hkind fun env he s1 x => ?_))
  subst he
  refine ⟨lim.keeps x.toInCall.keep, codeAny_func ?_⟩
  have room := hr.deeper (envOfC qual (defScope st) s.heap.objs.size f cdv)
  have ok : OkD (cxOf (CX P w) P w K mg base N qual (defScope st) f cdv A outer s H (EL ⟨K, P, w⟩ mg S0 H E)) (S0, H) (fun C e _ S => E C e S) k :=
    ⟨rfl, room, hg, (takes_of rfl rfl rfl rfl).imp fun cls d σ H' ⟨x, C, dd, v, e, σd, S', h0, h1, h2, h3, h4, _, h5, h6, h7⟩ => ⟨x, C, dd, v, e, S', h0, h1, h2, h3, h4, h5, h6, h7⟩, passes_of rfl⟩
  obtain ⟨t, ht, hq⟩ := hbody cdv A outer s H S0 E ok
  have I : Inv (cxOf (CX P w) P w K mg base N qual (defScope st) f cdv A outer s H (EL ⟨K, P, w⟩ mg S0 H E)) [] (L2.start N vs) H s1 := inv_start S hr.hd e0 hl r x
  have sm : Sim ⟨K, P, w⟩ (S0, H) (startD N ds) S0 (L2.start N vs) H := ⟨sim_start rd, s0, Step.refl S0 H⟩
  have run := PSs.run ht [] s1 (L2.start N vs) H { nx := fun _ H' => QL ⟨K, P, w⟩ S0 H Q .non H', rt := QL ⟨K, P, w⟩ S0 H Q } I ⟨_, S0, _, sm, hq ds Q hsp, ?_, ?_, ?_, ?_⟩
  · refine wpAny_mono run (fun fl s' hs => ?_) fun e s' hs => hs
    cases fl with
    | ret u =>
      obtain ⟨v, σ', H', J, rv, q⟩ := hs
      exact ⟨v, H', J.os, J.bare, J.base, J.hok, rv, q⟩
    | next =>
      obtain ⟨σ', H', J, q⟩ := hs
      exact ⟨.non, H', J.os, J.bare, J.base, J.hok, rfl, q⟩
    | brk => exact hs.elim fun _ z => z.elim fun _ z => z.2.elim
    | cont => exact hs.elim fun _ z => z.elim fun _ z => z.2.elim
  · exact fun σd S' σ H' t1 s1 v1 q1 => ⟨.non, S', t1, s1, by simp only [Rp], q1⟩
  · exact fun d S' v H' t1 s1 r1 q1 => ⟨d, S', t1, s1, r1, q1⟩
  · exact fun _ _ _ _ _ _ _ z => z
  · exact fun _ _ _ _ _ _ _ z => z
end

/-! ### the law's end -/
/-- the law at the heap behind the top: the script is a datum that nobody changes -/
theorem law_callD {P : Program} {w : World} {K : PySem.W.Frag} {mg mb : Str → Option Value} {k : Nat} {fa a : Addr} {x : Str} {sp : SpD} {s₁ : Shared} {vs : List Value} {ns : List Int}
    (KX : K.In s₁.heap) (hns : s₁.heap.Ns mainGlobals mg) (hb : s₁.heap.Ns builtinsNs mb) (hbb : ∀ x : Str, x ≠ "__name__" → mb x = bootBuiltins x) (hlim : s₁.heap.NoLimit) (hg : s₁.gens = #[])
    (ha : s₁.heap.get? a = some { cls := .type "list", data := .seq vs.toArray }) (hi : IntsAre vs ns) (hl : ns.length ≤ sizeLine) (hr : Room k callerA) (hfa : mg x = some (.ref fa))
    (F : ∀ base : Heap, K.In base → base.Ns mainGlobals mg → FnD P w K mg base k x sp)
    (hsp : ∀ S : Sto, (∀ b, S b = none) → sp [.scr ns] S (fun d _ => d = .bl true) EF) :
    codeAny (model P w) callerA (.call (.ref fa) ⟨[.ref a], []⟩) (fun r s' => r = .ok (.ret (.bool true)) ∧ OldK s₁.heap s'.heap ∧ s'.os = s₁.os ∧ AllBare s'.gens) s₁ := by
  have rv := vals_ints hi
  have lenV := hi.length
  obtain ⟨H, hfz, hro, hok, hA, hK⟩ : ∃ H : Hp, (∀ b u, H b = some u → b = a ∧ ∃ o xs, u = .frz o (.lst xs)) ∧ RoL K H a (ns.map V.int) ∧ HOk P w H s₁.heap ∧ (∀ b, b ≠ a → H b = none) ∧ (H a = none ∨ K.lookup a = none) := by
    cases hk : K.lookup a with
    | some o =>
      have e := KX a o hk
      rw [ha] at e
      cases e
      exact ⟨fun _ => none, (fun b u z => (nomatch (show (none : Option HO) = some u from z))), .inr ⟨_, vs.toArray, _, hk, rfl, rfl, rfl, by rw [List.size_toArray, lenV]; exact hl, by simpa using rv⟩,
        (fun b u z => (nomatch (show (none : Option HO) = some u from z))), fun _ _ => rfl, .inl rfl⟩
    | none =>
      refine ⟨fun b => if b = a then some (.frz { cls := .type "list", data := .seq vs.toArray } (.lst (ns.map V.int))) else none, fun b u z => ?_, .inl ⟨_, if_pos rfl⟩, fun b u z => ?_, fun b h => if_neg h, .inr rfl⟩
      · by_cases h : b = a
        · have z' := (if_pos h).symm.trans z
          cases z'
          exact ⟨h, _, _, rfl⟩
        · have z' := (if_neg h).symm.trans z
          cases z'
      · by_cases h : b = a
        · have z' := (if_pos h).symm.trans z
          cases z'
          subst h
          exact ⟨ha, by rw [List.length_map]; exact hl, vs, _, rv, ha⟩
        · have z' := (if_neg h).symm.trans z
          cases z'
  have offA : ∀ {b : Addr} {o : Obj}, s₁.heap.get? b = some o → (∀ es ep, o.data = .dict es ep → True) → b ≠ a → H b = none := fun _ _ h => hA _ h
  have nsK : ∀ {b : Addr} {m : Str → Option Value}, s₁.heap.Ns b m → (hidT s₁.heap H).Ns b m := fun {b m} ⟨o, es, ep, e, d, r⟩ => ⟨o, es, ep, hidT_get e (hA b fun z => by
    rw [z, ha] at e
    cases e
    have d' : Data.seq vs.toArray _ = Data.dict es ep := d
    cases d'), d, r⟩
  have hKb : K.In (hidT s₁.heap H) := fun b o e => hidT_get (KX b o e) (by
    by_cases z : b = a
    · rcases hK with q | q
      · rw [z]; exact q
      · rw [z, q] at e; cases e
    · exact hA b z)
  have hM : Mod K mg (hidT s₁.heap H) := ⟨hKb, nsK hns, ⟨mb, nsK hb, hbb⟩, let ⟨mc, h1, h2⟩ := hlim; ⟨mc, nsK h1, h2⟩⟩
  have noFr : ∀ b ∈ frs ([] : List Env), H b = none := fun b hb => absurd (show b ∈ ([] : List Addr) from hb) (by simp)
  have e0 : Env0 P w K mg (hidT s₁.heap H) callerA [] s₁ H := ⟨rfl, hM, fun b o e => of_hidT e, Nat.le_of_eq (hidT_size _ _), trivial, noFr, hok, .of_eq hg⟩
  obtain ⟨f, h1, h2, h3⟩ := (F _ hKb (nsK hns)).ex
  have ef : f = fa := by
    rw [hfa] at h1
    cases h1
    rfl
  subst ef
  have rd : Rps ⟨K, P, w⟩ H [D.scr ns] [V.ref a] := Rps.nil.cons (by simp only [Rp]; exact ⟨a, rfl, hro⟩)
  refine codeAny_mono (h3 callerA [] s₁ H [.ref a] [.ref a] [.scr ns] (fun _ => none) _ EF hr rfl e0 (.cons rfl .nil) rd (fun b o z => (nomatch (show (none : Option Ob) = some o from z))) (hsp _ fun _ => rfl)) fun r s' h => ?_
  cases r with
  | error e =>
    obtain ⟨_, _, _, _, _, _, _, _, _, _, _, _, x, C, dd, v, e, S', _, _, _, _, _, _, _, z⟩ := h
    exact z.elim
  | ok fl =>
    cases fl with
    | next => exact False.elim h
    | brk => exact False.elim h
    | cont => exact False.elim h
    | ret u =>
      obtain ⟨v, H', os, bare, un, hok', r', d, S', _, _, rd', q⟩ := h
      subst q
      have ev : v = .bl true := by simpa only [Rp] using rd'
      subst ev
      obtain rfl : u = Value.bool true := r'
      refine ⟨rfl, OldK.of_keep fun b o e => ?_, os, bare⟩
      cases q : H b with
      | none => exact un.keep b o e q (by intro z; exact absurd (show b ∈ ([] : List Addr) from z) (by simp)) (by simp)
      | some u =>
        obtain ⟨_, ob, xs, rfl⟩ := hfz b u q
        have z2 := un.frzs b ob _ q
        obtain ⟨e1, _⟩ := hok b _ q
        obtain ⟨e2, _⟩ := hok' b _ z2
        rw [e] at e1
        cases e1
        exact e2
/-- the goal that the head leaves, by the law's promise over data -/
theorem walkD {l : PySem.W.OpenLaw} {n k : Nat} {q : Program} {loose : List Str} {XP : (Str → Option Value) → Heap → Prop} {YP : World → Heap → Prop} {d : DefRec} {sp : SpD}
    (hn : l.most = some n) (hn2 : n ≤ sizeLine) (hdf : d.params.defaults = []) (hr : Room k callerA)
    (F : ∀ (w : World) (mg : Str → Option Value) (fa : Addr) (h : Heap), YP w h → h.Ns mainGlobals mg → mg d.name = some (.ref fa) →
      ∃ K : PySem.W.Frag, K.In h ∧ ∀ base : Heap, K.In base → base.Ns mainGlobals mg → FnD l.prog w K mg base k d.name sp)
    (hsp : ∀ (ns : List Int) (S : Sto), ns.length ≤ n → (∀ b, S b = none) → sp [.scr ns] S (fun d _ => d = .bl true) EF) :
    PySem.W.WalkO q loose XP YP l.row.toRowW d [] (fun f vs => PySem.call f vs) := by
  refine Att.attach_call hn hdf fun w s₀ s₁ mg mb fa o pm cd doc a vs ns G Y ho hd hcd hmg hobj hints hlen hg => ?_
  obtain ⟨K, KX, hF⟩ := F w mg fa _ Y G.T.g hmg
  exact law_callD KX G.T.g G.T.b G.T.builtins G.T.nolimit hg hobj hints (Nat.le_trans hlen hn2) hr hmg hF fun S hS => hsp ns S hlen hS
end DL

set_option maxRecDepth 100000
/-! Operators and built-ins over data. -/
namespace DL
open PySem PySem.Spec PyProof.Rows L2

section
variable {X : Cx}
/-- // by a divisor of any sign, below 2 ^ 9000 -/
def CDivX (_ j : Int) : Prop := j ≠ 0 ∧ j.natAbs.log2 < 9000
theorem op_fdivX : OpR X (binaryOp .FloorDiv) (rI CDivX fun i j => .int (i.fdiv j)) := opI fun i j _ _ _ _ _ hc q => floordiv_int hc.1 q (.inl (PyProof.noPylong_of_log2 hc.2))
end
/-! ### ints -/
def rdI (C : Int → Int → Prop) (g : Int → Int → D) : RD := fun x y S Q => match x, y with
  | .int i, .int j => C i j ∧ Q (g i j) S
  | _, _ => False
def rdI0 (g : Int → Int → D) : RD := fun x y S Q => match x, y with
  | .int i, .int j => Q (g i j) S
  | _, _ => False
section
variable {K : Ev}
theorem opd_I {C : Int → Int → Prop} {g : Int → Int → V} {gd : Int → Int → D} (h : ∀ H i j, Rp K H (gd i j) (g i j)) : OpD K (rI C g) (rdI C gd) := fun x y v u S H Q Q' s rx ry q k => by
  cases x with
  | int i =>
    cases y with
    | int j =>
      have e1 : v = .int i := by simpa only [Rp] using rx
      have e2 : u = .int j := by simpa only [Rp] using ry
      exact ⟨i, j, e1, e2, q.1, k _ S _ H (Step.refl S H) s (h H i j) q.2⟩
    | _ => exact q.elim
  | _ => exact q.elim
theorem opd_I0 {g : Int → Int → V} {gd : Int → Int → D} (h : ∀ H i j, Rp K H (gd i j) (g i j)) : OpD K (rI0 g) (rdI0 gd) := fun x y v u S H Q Q' s rx ry q k => by
  cases x with
  | int i =>
    cases y with
    | int j =>
      have e1 : v = .int i := by simpa only [Rp] using rx
      have e2 : u = .int j := by simpa only [Rp] using ry
      exact ⟨i, j, e1, e2, k _ S _ H (Step.refl S H) s (h H i j) q⟩
    | _ => exact q.elim
  | _ => exact q.elim
end
theorem OpD.or {K : Ev} {r r' : R2} {rd rd' : RD} (h : OpD K r rd) (h' : OpD K r' rd') : OpD K (fun x y H Q => r x y H Q ∨ r' x y H Q) (fun x y S Q => rd x y S Q ∨ rd' x y S Q) := fun x y v u S H Q Q' s rx ry q k =>
  q.elim (fun q => .inl (h x y v u S H Q Q' s rx ry q k)) fun q => .inr (h' x y v u S H Q Q' s rx ry q k)
abbrev rdAdd : RD := rdI0 fun i j => .int (i + j)
abbrev rdSub : RD := rdI0 fun i j => .int (i - j)
abbrev rdMul : RD := rdI CMulW fun i j => .int (i * j)
abbrev rdDiv : RD := rdI CDivW fun i j => .int (i / j)
abbrev rdDivX : RD := rdI CDivX fun i j => .int (i.fdiv j)
abbrev rdMod : RD := rdI (fun _ j => 0 < j) fun i j => .int (i % j)
abbrev rdPow : RD := rdI CPow fun i j => .int (i ^ j.toNat)
abbrev rdLt : RD := rdI0 fun i j => .bl (decide (i < j))
abbrev rdLe : RD := rdI0 fun i j => .bl (decide (i ≤ j))
abbrev rdGt : RD := rdI0 fun i j => .bl (decide (j < i))
abbrev rdGe : RD := rdI0 fun i j => .bl (decide (j ≤ i))
section
variable {X : Cx} {B : Sto × Hp} {pos : Pos} {a b c e : Expr} {ta tb tc te : WE}
theorem de_add (ha : DE X B a ta) (hb : DE X B b tb) : DE X B (.BinOp a .Add b pos) (dOp rdAdd ta tb) := de_op op_add (opd_I0 fun _ _ _ => by simp only [Rp]) ha hb
theorem de_sub (ha : DE X B a ta) (hb : DE X B b tb) : DE X B (.BinOp a .Sub b pos) (dOp rdSub ta tb) := de_op op_sub (opd_I0 fun _ _ _ => by simp only [Rp]) ha hb
theorem de_mul (ha : DE X B a ta) (hb : DE X B b tb) : DE X B (.BinOp a .Mult b pos) (dOp rdMul ta tb) := de_op op_mulW (opd_I fun _ _ _ => by simp only [Rp]) ha hb
theorem de_div (ha : DE X B a ta) (hb : DE X B b tb) : DE X B (.BinOp a .FloorDiv b pos) (dOp rdDiv ta tb) := de_op op_fdivW (opd_I fun _ _ _ => by simp only [Rp]) ha hb
theorem de_divX (ha : DE X B a ta) (hb : DE X B b tb) : DE X B (.BinOp a .FloorDiv b pos) (dOp rdDivX ta tb) := de_op op_fdivX (opd_I fun _ _ _ => by simp only [Rp]) ha hb
theorem de_mod (ha : DE X B a ta) (hb : DE X B b tb) : DE X B (.BinOp a .Mod b pos) (dOp rdMod ta tb) := de_op op_mod (opd_I fun _ _ _ => by simp only [Rp]) ha hb
theorem de_pow (ha : DE X B a ta) (hb : DE X B b tb) : DE X B (.BinOp a .Pow b pos) (dOp rdPow ta tb) := de_op op_pow (opd_I fun _ _ _ => by simp only [Rp]) ha hb
def dNeg (t : WE) : WE := fun σ S Q => t σ S fun x S1 => match x with
  | .int i => Q (.int (-i)) S1
  | _ => False
theorem de_neg (ha : DE X B a ta) : DE X B (.UnaryOp .USub a pos) (dNeg ta) := PE.imp (pe_un un_neg ha) fun σ H Q ⟨σd, S, Qd, s, q, k⟩ => ⟨σd, S, _, s, q, fun x S1 v H1 t1 s1 r1 q1 => by
  cases x with
  | int i => exact ⟨i, by simpa only [Rp] using r1, k _ _ _ _ t1 s1 (by simp only [Rp]) q1⟩
  | _ => exact q1.elim⟩
/-! ### is None -/
def D.isNon : D → Bool
  | .non => true
  | _ => false
abbrev rdIsN : RD := fun x y S Q => match y with
  | .non => Q (.bl x.isNon) S
  | _ => False
abbrev rdNotN : RD := fun x y S Q => match y with
  | .non => Q (.bl (!x.isNon)) S
  | _ => False
theorem isNon_rp {K : Ev} {H : Hp} {x : D} {v : V} (r : Rp K H x v) : x.isNon = decide (v = .non) := by
  cases x <;> simp only [Rp] at r
  case tup ds =>
    obtain ⟨a, vs, rfl, _⟩ := r
    rfl
  case scr ns =>
    obtain ⟨a, rfl, _⟩ := r
    rfl
  all_goals (subst r; rfl)
theorem opd_isN {K : Ev} : OpD K (fun x y H Q => y = .non ∧ Q (.bl (decide (x = .non))) H) rdIsN := fun x y v u S H Q Q' s rx ry q k => by
  cases y with
  | non => exact ⟨by simpa only [Rp] using ry, k _ S _ H (Step.refl S H) s (by simp only [Rp]; rw [isNon_rp rx]) q⟩
  | _ => exact q.elim
theorem opd_notN {K : Ev} : OpD K (fun x y H Q => y = .non ∧ Q (.bl (!decide (x = .non))) H) rdNotN := fun x y v u S H Q Q' s rx ry q k => by
  cases y with
  | non => exact ⟨by simpa only [Rp] using ry, k _ S _ H (Step.refl S H) s (by simp only [Rp]; rw [isNon_rp rx]) q⟩
  | _ => exact q.elim
theorem opd_cmp {K : Ev} {p : Int → Int → Bool} : OpD K (rI0 fun i j => .bl (p i j)) (rdI0 fun i j => .bl (p i j)) := opd_I0 fun _ _ _ => by simp only [Rp]
end

/-! ### items by place -/
abbrev rdIx : RD := fun x y S Q => match x, y with
  | .tup ds, .int i => ∃ d, atI ds i = some d ∧ Q d S
  | .ref a, .int i => ∃ ds d, S a = some (.lst ds) ∧ atI ds i = some d ∧ Q d S
  | _, _ => False
section
variable {K : Ev}
theorem Rps.at {H : Hp} {ds : List D} {vs : List V} {i : Int} {d : D} (r : Rps K H ds vs) (h : atI ds i = some d) : ∃ v, atI vs i = some v ∧ Rp K H d v := by
  unfold atI at h ⊢
  rw [← r.length]
  cases e : ixN ds.length i with
  | none => rw [e] at h; cases h
  | some j =>
    rw [e] at h
    exact r.get h
theorem ix_opd {x y : D} {v u : V} {S : Sto} {H : Hp} {Q : DK} {Q' : VK} (s : SimS K S H) (rx : Rp K H x v) (ry : Rp K H y u) (q : rdIx x y S Q)
    (k : ∀ d S' w H', Step S H S' H' → SimS K S' H' → Rp K H' d w → Q d S' → Q' w H') : rIxL K.k v u H Q' ∨ rIxT K.k v u H Q' := by
  cases y with
  | int i =>
    have e2 : u = .int i := by simpa only [Rp] using ry
    cases x with
    | tup ds =>
      simp only [Rp] at rx
      obtain ⟨a, vs, e1, hq, rs⟩ := rx
      obtain ⟨d, e, q⟩ := q
      obtain ⟨w, h1, h2⟩ := rs.at e
      exact .inr ⟨a, vs, i, w, e1, e2, hq, h1, k d S w H (Step.refl S H) s h2 q⟩
    | ref a =>
      have e1 : v = .ref a := by simpa only [Rp] using rx
      obtain ⟨ds, d, eo, e, q⟩ := q
      obtain ⟨vs, hq, rs⟩ := s a _ eo
      obtain ⟨w, h1, h2⟩ := rs.at e
      exact .inl ⟨a, vs, i, w, e1, e2, SqL.of hq, h1, k d S w H (Step.refl S H) s h2 q⟩
    | _ => exact q.elim
  | _ => cases x <;> exact q.elim
end
section
variable {X : Cx} {B : Sto × Hp} {pos : Pos} {a b e : Expr} {es : List Expr} {ta tb te : WE} {t : WA}
theorem de_ix (ha : DE X B a ta) (hb : DE X B b tb) (hs : PlainIx b := by exact fun _ _ => rfl) : DE X B (.Subscript a b pos) (dOp rdIx ta tb) :=
  PE.imp (pe_ix (ix_list.or ix_tup) ha hb hs) fun σ H Q h => lift_op (r := fun x y H Q => rIxL X.K x y H Q ∨ rIxT X.K x y H Q) (fun x y v u S H Q Q' s rx ry q k => ix_opd (K := ev X) s rx ry q k) h

/-! ### built-ins -/
abbrev RB := List D → Sto → DK → Prop
def BD (K : Ev) (r : List V → Hp → VK → Prop) (rd : RB) : Prop := ∀ (ds : List D) (vs : List V) (S : Sto) (H : Hp) (Q : DK) (Q' : VK), SimS K S H → Rps K H ds vs → rd ds S Q →
  (∀ d S' w H', Step S H S' H' → SimS K S' H' → Rp K H' d w → Q d S' → Q' w H') → r vs H Q'
def dB (rd : RB) (t : WA) : WE := fun σ S Q => t σ S fun ds S1 => rd ds S1 Q
theorem lift_B {r : List V → Hp → VK → Prop} {rd : RB} (hd : BD (ev X) r rd) {σ : L2.St} {H : Hp} {Q : VK} (h : liftE (ev X) B (dB rd t) σ H Q) : tCB r (liftA (ev X) B t) σ H Q := by
  obtain ⟨σd, S, Qd, s, q, k⟩ := h
  exact ⟨σd, S, _, s, q, fun ds S1 vs H1 t1 s1 r1 q1 => hd ds vs S1 H1 Qd Q s1 r1 q1 fun d S' w H' t2 => k d S' w H' (t1.trans t2)⟩
theorem de_B {x : Str} {id : String} {p : Pos} {r : List V → Hp → VK → Prop} {rd : RB} (hc : CallR X (.builtin id) r) (hd : BD (ev X) r rd) (hm : X.mg x = none) (hv : bootBuiltins x = some (.builtin id)) (ha : DA X B (e :: es) t) (hg : Gl X x := by rfl)
    (hn : x ≠ "__name__" := by decide) (hdb : (x == ("__debug__" : Str)) = false := by decide)
    (he : starEach (e :: es) X.env = (false, eval e X.env) :: starEach es X.env := by rfl) (hpl : (backTo pos (starEach es X.env)).any (·.1) = false := by rfl) : DE X B (.Call (.Name x p) (e :: es) [] pos) (dB rd t) :=
  PE.imp (pe_callB hc hg hm hv ha hn hdb he hpl) fun _ _ _ h => lift_B hd h
theorem de_BT {x : Str} {T : String} {p : Pos} {r : List V → Hp → VK → Prop} {rd : RB} (hc : CallR X (.type T) r) (hd : BD (ev X) r rd) (hm : X.mg x = none) (hv : bootBuiltins x = some (.type T)) (ha : DA X B (e :: es) t) (hg : Gl X x := by rfl)
    (hn : x ≠ "__name__" := by decide) (hdb : (x == ("__debug__" : Str)) = false := by decide)
    (he : starEach (e :: es) X.env = (false, eval e X.env) :: starEach es X.env := by rfl) (hpl : (backTo pos (starEach es X.env)).any (·.1) = false := by rfl) : DE X B (.Call (.Name x p) (e :: es) [] pos) (dB rd t) :=
  PE.imp (pe_callTy hc hg hm hv ha hn hdb he hpl) fun _ _ _ h => lift_B hd h
end
end DL

set_option maxRecDepth 100000
/-! Equality, membership, lengths, types, lists and tuples made of one another. -/
namespace DL
open PySem PySem.Spec PyProof.Rows L2

/-! ### data as a whole -/
def pdAll (f : D → Option PyData) : List D → Option (List PyData)
  | [] => some []
  | d :: r => match f d, pdAll f r with
    | some p, some ps => some (p :: ps)
    | _, _ => none
/-- the datum as the model's own == reads it -/
def pd (S : Sto) : Nat → D → Option PyData
  | _, .non => some .none
  | _, .bl b => some (.bool b)
  | _, .int i => some (.int i)
  | _, .str x => if PySem.PyData.canLay0 (.str x) = true then some (.str x) else none
  | _, .scr _ => none
  | 0, .tup _ => none
  | 0, .ref _ => none
  | n + 1, .tup ds => match pdAll (pd S n) ds with
    | some ps => some (.tuple ps)
    | none => none
  | n + 1, .ref a => match S a with
    | some (.lst ds) => match pdAll (pd S n) ds with
      | some ps => some (.list ps)
      | none => none
    | _ => none
section
variable {K : Ev} {S : Sto} {H : Hp}
theorem pdAll_dp {f : D → Option PyData} (h : ∀ d v p, Rp K H d v → f d = some p → Dp K.k H v p) : ∀ {ds : List D} {vs : List V} {ps : List PyData}, Rps K H ds vs → pdAll f ds = some ps → DpAll K.k H vs ps
  | [], _, _, r, e => by
    rw [r.nilEq]
    cases e
    exact .nil
  | d :: ds, _, _, r, e => by
    simp only [Rps] at r
    obtain ⟨v, vr, rfl, r1, r2⟩ := r
    unfold pdAll at e
    split at e
    · rename_i p ps e1 e2
      cases e
      exact .cons (h _ _ _ r1 e1) (pdAll_dp h r2 e2)
    · cases e
theorem pd_dp (s : SimS K S H) : ∀ (n : Nat) (d : D) (v : V) (p : PyData), Rp K H d v → pd S n d = some p → Dp K.k H v p := by
  intro n
  induction n with
  | zero =>
    intro d v p r e
    cases d <;> simp only [Rp] at r <;> simp only [pd] at e
    case non => cases e; subst r; exact .non
    case bl b => cases e; subst r; exact .bl b
    case int i => cases e; subst r; exact .int i
    case str x =>
      split at e
      · cases e; subst r; exact .str x
      · cases e
    all_goals cases e
  | succ n ih =>
    intro d v p r e
    cases d <;> simp only [Rp] at r <;> simp only [pd] at e
    case non => cases e; subst r; exact .non
    case bl b => cases e; subst r; exact .bl b
    case int i => cases e; subst r; exact .int i
    case str x =>
      split at e
      · cases e; subst r; exact .str x
      · cases e
    case tup ds =>
      obtain ⟨a, vs, rfl, hq, rs⟩ := r
      split at e
      · rename_i ps e1
        cases e
        exact .tup hq (pdAll_dp ih rs e1)
      · cases e
    case ref a =>
      subst r
      split at e
      · rename_i ds eo
        obtain ⟨vs, hq, rs⟩ := s a _ eo
        split at e
        · rename_i ps e1
          cases e
          exact .lst (SqL.of hq) (pdAll_dp ih rs e1)
        · cases e
      · cases e
    all_goals cases e
theorem pdAll_lay {f : D → Option PyData} {n : Nat} (h : ∀ d p, f d = some p → p.canLay0 = true ∧ p.depth ≤ n) : ∀ {ds : List D} {ps : List PyData}, pdAll f ds = some ps → PyData.canLayAll0 ps = true ∧ PyData.depthAll ps ≤ n
  | [], _, e => by
    cases e
    exact ⟨by simp [PyData.canLayAll0], by simp [PyData.depthAll]⟩
  | d :: ds, _, e => by
    unfold pdAll at e
    split at e
    · rename_i p ps e1 e2
      cases e
      obtain ⟨h1, h2⟩ := h _ _ e1
      obtain ⟨h3, h4⟩ := pdAll_lay h e2
      refine ⟨by simp [PyData.canLayAll0, h1, h3], ?_⟩
      simp only [PyData.depthAll]
      omega
    · cases e
theorem pd_lay : ∀ (n : Nat) (d : D) (p : PyData), pd S n d = some p → p.canLay0 = true ∧ p.depth ≤ n := by
  intro n
  induction n with
  | zero =>
    intro d p e
    cases d <;> simp only [pd] at e
    case str x =>
      split at e
      · cases e; exact ⟨by assumption, by simp [PyData.depth]⟩
      · cases e
    all_goals first
      | (cases e; done)
      | (cases e; exact ⟨by simp [PyData.canLay0], by simp [PyData.depth]⟩)
  | succ n ih =>
    intro d p e
    cases d <;> simp only [pd] at e
    case str x =>
      split at e
      · cases e; exact ⟨by assumption, by simp [PyData.depth]⟩
      · cases e
    case tup ds =>
      split at e
      · rename_i ps e1
        cases e
        obtain ⟨h1, h2⟩ := pdAll_lay ih e1
        exact ⟨by simpa [PyData.canLay0] using h1, by simp only [PyData.depth]; omega⟩
      · cases e
    case ref a =>
      split at e
      · split at e
        · rename_i ps e1
          cases e
          obtain ⟨h1, h2⟩ := pdAll_lay ih e1
          exact ⟨by simpa [PyData.canLay0] using h1, by simp only [PyData.depth]; omega⟩
        · cases e
      · cases e
    all_goals first
      | (cases e; done)
      | (cases e; exact ⟨by simp [PyData.canLay0], by simp [PyData.depth]⟩)
theorem pd_shaped {d : D} {p : PyData} (e : pd S 20 d = some p) : SeqAt.shaped p = true := by
  obtain ⟨h1, h2⟩ := pd_lay 20 d p e
  show (p.canLay0 && decide (p.depth ≤ 64)) = true
  rw [h1, decide_eq_true (by omega)]
  rfl
end
abbrev rdEq : RD := fun x y S Q => ∃ p q, pd S 20 x = some p ∧ pd S 20 y = some q ∧ Q (.bl (PyData.eqv p q)) S
abbrev rdNe : RD := fun x y S Q => ∃ p q, pd S 20 x = some p ∧ pd S 20 y = some q ∧ Q (.bl (!PyData.eqv p q)) S
def itemsP : Option PyData → Option (List PyData)
  | some (.list ps) => some ps
  | some (.tuple ps) => some ps
  | _ => none
/-- x in y, y a list or a tuple -/
abbrev rdIn : RD := fun x y S Q => ∃ p ps, pd S 20 x = some p ∧ itemsP (pd S 20 y) = some ps ∧ Q (.bl (ps.any fun z => PyData.eqv z p)) S
abbrev rdNotIn : RD := fun x y S Q => ∃ p ps, pd S 20 x = some p ∧ itemsP (pd S 20 y) = some ps ∧ Q (.bl (!ps.any fun z => PyData.eqv z p)) S
def rInA (K : PySem.W.Frag) : R2 := fun x y H Q => ∃ d e ds, Dp K H x d ∧ Dp K H y e ∧ (e = .list ds ∨ e = .tuple ds) ∧ SeqAt.shaped d = true ∧ SeqAt.shaped e = true ∧ Q (.bl (ds.any fun z => PyData.eqv z d)) H
def rNotInA (K : PySem.W.Frag) : R2 := fun x y H Q => ∃ d e ds, Dp K H x d ∧ Dp K H y e ∧ (e = .list ds ∨ e = .tuple ds) ∧ SeqAt.shaped d = true ∧ SeqAt.shaped e = true ∧ Q (.bl (!ds.any fun z => PyData.eqv z d)) H
section
variable {X : Cx}
theorem room_sh {A : Around} {d : PyData} {ds : List PyData} (sd : SeqAt.shaped d = true) (hu : A.units + 65 < cLine) : A.units + 1 + min (PyData.depthAll ds) d.depth < cLine := by
  have h1 := SeqAt.depth_of_shaped sd
  have h2 : min (PyData.depthAll ds) d.depth ≤ d.depth := Nat.min_le_right _ _
  omega
theorem op_inA (hu : X.A.units + 65 < cLine) : OpR X (compareOp .In) (rInA X.K) := by
  intro pins s σ H x y v u Q I rx ry h
  obtain ⟨d, e, ds, hd, he, ee, sd, se, q⟩ := h
  obtain ⟨as, r1⟩ := Dp.reads I d x v hd rx
  obtain ⟨bs, r2⟩ := Dp.reads I e y u he ry
  have lay := SeqAt.canLay_of_shaped se
  rcases ee with rfl | rfl
  · exact SeqAt.in_list_reads r2 r1 lay (SeqAt.canLay_of_shaped sd) (room_sh sd hu) ⟨.bl _, H, I, rfl, q⟩
  · exact SeqAt.in_tuple_reads r2 r1 lay (SeqAt.canLay_of_shaped sd) (room_sh sd hu) ⟨.bl _, H, I, rfl, q⟩
theorem op_notInA (hu : X.A.units + 65 < cLine) : OpR X (compareOp .NotIn) (rNotInA X.K) := by
  intro pins s σ H x y v u Q I rx ry h
  obtain ⟨d, e, ds, hd, he, ee, sd, se, q⟩ := h
  obtain ⟨as, r1⟩ := Dp.reads I d x v hd rx
  obtain ⟨bs, r2⟩ := Dp.reads I e y u he ry
  have lay := SeqAt.canLay_of_shaped se
  rcases ee with rfl | rfl
  · exact SeqAt.notIn_list_reads r2 r1 lay (SeqAt.canLay_of_shaped sd) (room_sh sd hu) ⟨.bl _, H, I, rfl, q⟩
  · exact SeqAt.notIn_tuple_reads r2 r1 lay (SeqAt.canLay_of_shaped sd) (room_sh sd hu) ⟨.bl _, H, I, rfl, q⟩
end
theorem itemsP_cases {o : Option PyData} {ps : List PyData} (h : itemsP o = some ps) : ∃ e, o = some e ∧ (e = .list ps ∨ e = .tuple ps) := by
  unfold itemsP at h
  split at h
  · cases h; exact ⟨_, rfl, .inl rfl⟩
  · cases h; exact ⟨_, rfl, .inr rfl⟩
  · cases h
section
variable {K : Ev}
theorem opd_eq : OpD K (rEqD K.k) rdEq := fun x y v u S H Q Q' s rx ry q k => by
  obtain ⟨p, p', e1, e2, q⟩ := q
  exact ⟨p, p', pd_dp s _ _ _ _ rx e1, pd_dp s _ _ _ _ ry e2, pd_shaped e1, pd_shaped e2, k _ S _ H (Step.refl S H) s (by simp only [Rp]) q⟩
theorem opd_ne : OpD K (rNeD K.k) rdNe := fun x y v u S H Q Q' s rx ry q k => by
  obtain ⟨p, p', e1, e2, q⟩ := q
  exact ⟨p, p', pd_dp s _ _ _ _ rx e1, pd_dp s _ _ _ _ ry e2, pd_shaped e1, pd_shaped e2, k _ S _ H (Step.refl S H) s (by simp only [Rp]) q⟩
theorem opd_in : OpD K (rInA K.k) rdIn := fun x y v u S H Q Q' s rx ry q k => by
  obtain ⟨p, ps, e1, e2, q⟩ := q
  obtain ⟨e, e3, e4⟩ := itemsP_cases e2
  exact ⟨p, e, ps, pd_dp s _ _ _ _ rx e1, pd_dp s _ _ _ _ ry e3, e4, pd_shaped e1, pd_shaped e3, k _ S _ H (Step.refl S H) s (by simp only [Rp]) q⟩
theorem opd_notIn : OpD K (rNotInA K.k) rdNotIn := fun x y v u S H Q Q' s rx ry q k => by
  obtain ⟨p, ps, e1, e2, q⟩ := q
  obtain ⟨e, e3, e4⟩ := itemsP_cases e2
  exact ⟨p, e, ps, pd_dp s _ _ _ _ rx e1, pd_dp s _ _ _ _ ry e3, e4, pd_shaped e1, pd_shaped e3, k _ S _ H (Step.refl S H) s (by simp only [Rp]) q⟩
end

/-! ### len, abs, int, isinstance -/
def lenOf (S : Sto) : D → Option Nat
  | .tup ds => some ds.length
  | .scr ns => some ns.length
  | .ref a => match S a with
    | some (.lst ds) => some ds.length
    | _ => none
  | _ => none
abbrev rdLen : RB := fun ds S Q => match ds with
  | [x] => ∃ n : Nat, lenOf S x = some n ∧ Q (.int n) S
  | _ => False
abbrev rdAbs : RB := fun ds S Q => match ds with
  | [.int i] => Q (.int (if i < 0 then -i else i)) S
  | _ => False
abbrev rdInt : RB := fun ds S Q => match ds with
  | [.int i] => Q (.int i) S
  | [.bl b] => Q (.int (if b then 1 else 0)) S
  | _ => False
abbrev rdMax2 : RB := fun ds S Q => match ds with
  | [.int i, .int j] => Q (.int (if j > i then j else i)) S
  | _ => False
abbrev rdMin2 : RB := fun ds S Q => match ds with
  | [.int i, .int j] => Q (.int (if j < i then j else i)) S
  | _ => False
section
variable {K : Ev} {H : Hp}
theorem Rps.one {d : D} {vs : List V} (r : Rps K H [d] vs) : ∃ v, vs = [v] ∧ Rp K H d v := by
  simp only [Rps] at r
  obtain ⟨v, _, rfl, r1, rfl⟩ := r
  exact ⟨v, rfl, r1⟩
theorem Rps.two {d e : D} {vs : List V} (r : Rps K H [d, e] vs) : ∃ v u, vs = [v, u] ∧ Rp K H d v ∧ Rp K H e u := by
  simp only [Rps] at r
  obtain ⟨v, _, rfl, r1, u, _, rfl, r2, rfl⟩ := r
  exact ⟨v, u, rfl, r1, r2⟩
theorem Rp.int {i : Int} {v : V} (r : Rp K H (.int i) v) : v = .int i := by simpa only [Rp] using r
theorem Rp.bl {b : Bool} {v : V} (r : Rp K H (.bl b) v) : v = .bl b := by simpa only [Rp] using r
theorem Rp.ref {a : Addr} {v : V} (r : Rp K H (.ref a) v) : v = .ref a := by simpa only [Rp] using r
theorem bd_abs : BD K (fun xs H Q => ∃ i, xs = [.int i] ∧ Q (.int (if i < 0 then -i else i)) H) rdAbs := fun ds vs S H Q Q' s r q k => by
  match ds, q, r with
  | [.int i], q, r =>
    obtain ⟨v, rfl, r1⟩ := r.one
    rw [r1.int]
    exact ⟨i, rfl, k _ S _ H (Step.refl S H) s (by simp only [Rp]) q⟩
theorem bd_int : BD K (fun xs H Q => (∃ i, xs = [.int i] ∧ Q (.int i) H) ∨ ∃ k, xs = [.bl k] ∧ Q (.int (if k then 1 else 0)) H) rdInt := fun ds vs S H Q Q' s r q k => by
  match ds, q, r with
  | [.int i], q, r =>
    obtain ⟨v, rfl, r1⟩ := r.one
    rw [r1.int]
    exact .inl ⟨i, rfl, k _ S _ H (Step.refl S H) s (by simp only [Rp]) q⟩
  | [.bl b], q, r =>
    obtain ⟨v, rfl, r1⟩ := r.one
    rw [r1.bl]
    exact .inr ⟨b, rfl, k _ S _ H (Step.refl S H) s (by simp only [Rp]) q⟩
theorem bd_max2 : BD K (fun xs H Q => ∃ i j, xs = [.int i, .int j] ∧ Q (.int (if j > i then j else i)) H) rdMax2 := fun ds vs S H Q Q' s r q k => by
  match ds, q, r with
  | [.int i, .int j], q, r =>
    obtain ⟨v, u, rfl, r1, r2⟩ := r.two
    rw [r1.int, r2.int]
    exact ⟨i, j, rfl, k _ S _ H (Step.refl S H) s (by simp only [Rp]) q⟩
theorem bd_min2 : BD K (fun xs H Q => ∃ i j, xs = [.int i, .int j] ∧ Q (.int (if j < i then j else i)) H) rdMin2 := fun ds vs S H Q Q' s r q k => by
  match ds, q, r with
  | [.int i, .int j], q, r =>
    obtain ⟨v, u, rfl, r1, r2⟩ := r.two
    rw [r1.int, r2.int]
    exact ⟨i, j, rfl, k _ S _ H (Step.refl S H) s (by simp only [Rp]) q⟩
theorem bd_len : BD K (fun xs H Q => ∃ p ys, xs = [.ref p] ∧ (SqL K.k H p ys ∨ SqT K.k H p ys) ∧ Q (.int ys.length) H) rdLen := fun ds vs S H Q Q' s r q k => by
  match ds, q, r with
  | [x], q, r =>
    obtain ⟨v, rfl, r1⟩ := r.one
    obtain ⟨n, hn, q⟩ := q
    cases x <;> simp only [lenOf] at hn
    case tup ds =>
      cases hn
      simp only [Rp] at r1
      obtain ⟨a, vs, rfl, hq, rs⟩ := r1
      exact ⟨a, vs, rfl, .inr hq, k _ S _ H (Step.refl S H) s (by simp only [Rp]; rw [rs.length]) q⟩
    case scr ns =>
      cases hn
      simp only [Rp] at r1
      obtain ⟨a, rfl, hq⟩ := r1
      exact ⟨a, _, rfl, .inl hq.sq, k _ S _ H (Step.refl S H) s (by simp only [Rp, List.length_map]) q⟩
    case ref a =>
      rw [r1.ref]
      split at hn
      · rename_i ds eo
        cases hn
        obtain ⟨vs, hq, rs⟩ := s a _ eo
        exact ⟨a, vs, rfl, .inl (SqL.of hq), k _ S _ H (Step.refl S H) s (by simp only [Rp]; rw [rs.length]) q⟩
      · cases hn
    all_goals cases hn
end
/-- the name of a datum's type -/
def tyOf (S : Sto) : D → Option String
  | .non => some "NoneType"
  | .bl _ => some "bool"
  | .int _ => some "int"
  | .str _ => some "str"
  | .tup _ => some "tuple"
  | .scr _ => some "list"
  | .ref a => match S a with
    | some (.lst _) => some "list"
    | some (.dK _) => some "dict"
    | some (.dN _) => none
    | none => none
def isTy (t T : String) : Bool := t == T || (t == "bool" && T == "int")
theorem kit_isTy {K : PySem.W.Frag} {t T : String} (ht : t ∈ ["NoneType", "bool", "int", "str", "tuple", "list", "dict"]) (hT : T ∈ ["int", "bool", "tuple", "list", "str"]) : PySem.W.kitOne K (.type t) (.type T) = some (isTy t T) := by
  refine kit_ty ?_
  simp only [List.mem_cons, List.not_mem_nil, or_false] at ht hT
  rcases ht with rfl | rfl | rfl | rfl | rfl | rfl | rfl <;> rcases hT with rfl | rfl | rfl | rfl | rfl <;> decide +kernel
theorem tyOf_ok {K : Ev} {S : Sto} {H : Hp} (s : SimS K S H) {x : D} {v : V} {t : String} (r : Rp K H x v) (h : tyOf S x = some t) : t ∈ ["NoneType", "bool", "int", "str", "tuple", "list", "dict"] ∧ TyX K.k H v (.type t) := by
  cases x <;> simp only [Rp] at r <;> simp only [tyOf] at h
  case non => cases h; subst r; exact ⟨by decide, .base .non⟩
  case bl b => cases h; subst r; exact ⟨by decide, .base (.bl b)⟩
  case int i => cases h; subst r; exact ⟨by decide, .base (.int i)⟩
  case str x => cases h; subst r; exact ⟨by decide, .base (.str x)⟩
  case tup ds =>
    cases h
    obtain ⟨a, vs, rfl, hq, _⟩ := r
    refine ⟨by decide, ?_⟩
    rcases hq with (hq | ⟨o, hq⟩) | ⟨o, its, n, hk, hc, _⟩
    · exact .base (.tup hq)
    · exact .fTuple hq
    · exact .kTuple hk hc
  case scr ns =>
    cases h
    obtain ⟨a, rfl, hq⟩ := r
    refine ⟨by decide, ?_⟩
    rcases hq with ⟨o, hq⟩ | ⟨o, its, n, hk, hc, _⟩
    · exact .base (.frz hq)
    · exact .kList hk hc
  case ref a =>
    subst r
    cases eo : S a with
    | none => rw [eo] at h; cases h
    | some o =>
      rw [eo] at h
      cases o with
      | lst ds =>
        cases h
        obtain ⟨vs, hq, _⟩ := s a _ eo
        exact ⟨by decide, .base (.lst hq)⟩
      | dK kvs =>
        cases h
        obtain ⟨vs, hq, _⟩ := s a _ eo
        exact ⟨by decide, .base (.dK hq)⟩
      | dN kvs => cases h
def dIsi (T : String) (t : WE) : WE := fun σ S Q => t σ S fun x S1 => ∃ n, tyOf S1 x = some n ∧ Q (.bl (isTy n T)) S1
section
variable {X : Cx} {B : Sto × Hp} {pos : Pos} {a b c e : Expr} {es : List Expr} {ta tb te : WE} {t : WA}
theorem de_isi {T : String} {tn : Str} {p p2 : Pos} (ha : DE X B a ta) (hm : X.mg "isinstance" = none) (hT : X.mg tn = none) (hv : bootBuiltins tn = some (.type T)) (ht : T ∈ ["int", "bool", "tuple", "list", "str"]) (hg : Gl X "isinstance" := by rfl) (hg2 : Gl X tn := by rfl) (hn : tn ≠ "__name__" := by decide)
    (hd : (tn == ("__debug__" : Str)) = false := by decide)
    (h1 : starEach [a, .Name tn p2] X.env = (false, eval a X.env) :: starEach [.Name tn p2] X.env := by rfl) (h2 : starEach [.Name tn p2] X.env = (false, eval (.Name tn p2) X.env) :: starEach [] X.env := by rfl) (h3 : (backTo pos (starEach [.Name tn p2] X.env)).any (·.1) = false := by rfl) :
    DE X B (.Call (.Name "isinstance" p) [a, .Name tn p2] [] pos) (dIsi T ta) := by
  refine PE.imp (pe_callB call_isi hg hm PyProof.Rows.boot_isinstance (pa_cons ha (pa_cons (pe_bltn (v := .ty T) hg2 hT hv rfl hn hd) pa_nil h2) h1) (by decide) (by decide) h1 h3) fun σ H Q ⟨σd, S, Qd, s, q, k⟩ => ?_
  refine ⟨σd, S, _, s, q, fun x S1 v H1 t1 s1 r1 q1 => ?_⟩
  obtain ⟨n, e, q1⟩ := q1
  obtain ⟨m, ty⟩ := tyOf_ok s1 r1 e
  exact ⟨v, .ty T, .type n, .type T, isTy n T, rfl, .ty T, ty, kit_isTy m ht, k _ S1 _ H1 t1 s1 (by simp only [Rp]) q1⟩
end
end DL

set_option maxRecDepth 100000
/-! What is walked: lists, tuples, the script; ranges; enumerate. -/
namespace DL
open PySem PySem.Spec PyProof.Rows L2
open AutoSeq1 (wpAny_loadPart')

section
variable {X : Cx} {tg : Expr}
/-- a list or a tuple -/
def iSeq (K : PySem.W.Frag) (tl : TE) : TI := fun σ H R => tl σ H fun x H1 => ∃ a, x = .ref a ∧ (((∃ xs, SqL K H1 a xs) ∧ R (Itl K a) H1) ∨ ((∃ xs, SqT K H1 a xs) ∧ R (Itt K a) H1))
theorem pi_seq {l : Expr} {tl : TE} (hl : PE X l tl) : PI X tg l (iSeq X.K tl) := by
  refine ⟨fun pins s σ H R I h => thn (hl.run pins s σ H _ I h) fun v s1 ⟨x, H1, I1, r1, a, e, q⟩ => ?_⟩
  subst e
  cases r1
  have new : ∀ b ∈ [s1.heap.objs.size], FpOk X pins H1 b := fun b hb => by
    have e : b = s1.heap.objs.size := by simpa using hb
    subst e
    exact I1.fpOk (Nat.le_refl _) (I1.hok.fresh (Nat.le_refl _))
  rcases q with ⟨⟨xs, hq⟩, q⟩ | ⟨⟨xs, hq⟩, q⟩
  · obtain ⟨its, rv, p, hz⟩ := I1.list hq
    exact wpAny_pyIter_list p.isList ⟨s1.heap.objs.size, [s1.heap.objs.size], _, _, H1, rfl, I1.kept (t' := s1.toks) fun b o e => Heap.get?_push_of_some _ e, turn_list a _, ⟨_, Heap.get?_push_size _ rfl, rfl, rfl⟩, new, q⟩
  · obtain ⟨its, rv, p, hz⟩ := I1.tuple hq
    exact wpAny_pyIter_tuple (show s1.heap.IsTuple a its.toArray from p) ⟨s1.heap.objs.size, [s1.heap.objs.size], _, _, H1, rfl, I1.kept (t' := s1.toks) fun b o e => Heap.get?_push_of_some _ e, turn_tuple a _, ⟨_, Heap.get?_push_size _ rfl, rfl, rfl⟩, new, q⟩
end

/-! ### enumerate of a tuple -/
theorem meets_enumT (l : Addr) (items : Array Value) (n : Nat) (dct : Option Addr) (sl : Array (Option Value)) :
    Meets (Builtin.«enumerate.__new__» ⟨[.type "enumerate", .ref l], []⟩) (fun _ R s => s.heap.get? l = some { cls := .type "tuple", dict := dct, data := .seq items n, slots := sl } ∧
      R (.ok (.ret (.ref (s.heap.push { cls := .type "tuple_iterator", data := .fields #[.ref l, .int 0 0] }).objs.size)))
        { s with heap := (s.heap.push { cls := .type "tuple_iterator", data := .fields #[.ref l, .int 0 0] }).push { cls := .type "enumerate", data := .fields #[.none, .bool false, .ref s.heap.objs.size, rawInt 0, .none, .none] } }) :=
  .of_wp fun prog w A R s h => by
    obtain ⟨hp, g, d, tk, os⟩ := s
    obtain ⟨hl, h⟩ := h
    have hsub := sub_enumerate
    have hT : Heap.IsTuple (Shared.heap ⟨hp, g, d, tk, os⟩) l items := ⟨_, hl, rfl, n, rfl⟩
    wp_walk using wpAny_loadPart' hl
    refine wpAny_stack_any fun st => wpAny_pure ?_
    split
    · rename_i c _ _ _ _ _
      cases (c == Value.type "enumerate") <;> (wp_walk using wpAny_loadPart' hl, wpAny_pyIter_tuple hT; exact ⟨_, rfl, h⟩)
    · wp_walk using wpAny_loadPart' hl, wpAny_pyIter_tuple hT
      exact ⟨_, rfl, h⟩
theorem call_enumT {prog : Program} {w : World} {A : Around} {E : Value → Shared → Prop} {s : Shared} {l : Addr} {items : Array Value} {Q : Value → Shared → Prop} (hL : s.heap.IsTuple l items)
    (h : ∀ h', IsEnum h' (s.heap.objs.size + 1) s.heap.objs.size 0 .none → h'.IsTupleIter s.heap.objs.size l 0 → (∀ b o, s.heap.get? b = some o → h'.get? b = some o) → Q (.ref (s.heap.objs.size + 1)) { s with heap := h' }) :
    wpAny (model prog w) A (call (.type "enumerate") [.ref l]) Q E s := by
  obtain ⟨⟨c, dct, dt, sl⟩, hl, hc, n, hd⟩ := hL
  replace hc : c = .type "tuple" := hc
  replace hd : dt = .seq items n := hd
  subst hc hd
  refine callType_new F.called_enumerate (by decide) (F.typeCall_enumerate_1 _) (F.newCall_enumerate_1 _) (fun obj => F.args_object_init_2 obj _) F.entry_enumerate_new (meets_enumT l items n dct sl) ⟨hl, ?_⟩
  have hz : (s.heap.push { cls := .type "tuple_iterator", data := .fields #[.ref l, .int 0 0] }).objs.size = s.heap.objs.size + 1 := Heap.size_push ..
  show _ ∧ _
  rw [hz]
  have he : IsEnum ((s.heap.push { cls := .type "tuple_iterator", data := .fields #[.ref l, .int 0 0] }).push { cls := .type "enumerate", data := .fields #[.none, .bool false, .ref s.heap.objs.size, rawInt 0, .none, .none] })
      (s.heap.objs.size + 1) s.heap.objs.size 0 .none := by
    have e := Heap.get?_push_size (s.heap.push { cls := .type "tuple_iterator", data := .fields #[.ref l, .int 0 0] }) (o := { cls := .type "enumerate", data := .fields #[.none, .bool false, .ref s.heap.objs.size, rawInt 0, .none, .none] }) rfl
    rw [hz] at e
    exact e
  exact ⟨⟨_, he, rfl⟩, h _ he ⟨_, Heap.get?_push_of_some _ (Heap.get?_push_size _ rfl), rfl, rfl⟩ fun b o x => Heap.get?_push_of_some _ (Heap.get?_push_of_some _ x)⟩
theorem wpAny_pyNext_enum_endT {prog : Program} {w : World} {A : Around} {E : Value → Shared → Prop} {s : Shared} {e it l : Addr} {i : Nat} {items : Array Value} {old : Value} {Q : Option Value → Shared → Prop} (hh : A.handled = none) (he : IsEnum s.heap e it i old)
    (hit : s.heap.IsTupleIter it l i) (hl : s.heap.IsTuple l items) (hx : items[i]? = none) (hQ : ∀ h', Heap.ExtBut it s.heap h' → Q none { s with heap := h' }) : wpAny (model prog w) A (pyNext (.ref e)) Q E s := by
  have hT : s.TypeIs (.ref e) "enumerate" := ⟨_, he, rfl⟩
  unfold pyNext
  refine wpAny_bind (wpAny_attempt (wpAny_callSpecial?_slot (name := Str.ofString "__next__") hT F.slot_enumerate_next (wpAny_call_entry F.slot_enumerate_next hT F.entry_enumerate_next ?_ (F.args_enumerate_next_1 _))))
  show wpAny _ _ (field (.ref e) 2 >>= _) _ _ _
  exact wpAny_bind (wpAny_field he rfl (x := .ref it) rfl (wpAny_bind (wpAny_nextOf_tuple_end hh hit hl hx fun h' x he' ⟨o, ho, hc⟩ =>
    wpAny_bind (wpAny_isInstance (T := "StopIteration") (b := true) ⟨o, ho, hc⟩ isSubtype_stop (wpAny_pure (hQ _ he'))))))
/-- the items of the tuple at a in new pairs -/
def ItnT (K : PySem.W.Frag) (a : Addr) : It :=
  ⟨fun i H => ∃ (xs : List V) (x : V), SqT K H a xs ∧ xs[i]? = some x, fun i H v H' => ∃ T x, v = .ref T ∧ H T = none ∧ H' = upd H T (.tup [.int (i : Nat), x]) ∧ ∀ xs, SqT K H a xs → xs[i]? = some x, fun i H => ∃ xs : List V, SqT K H a xs ∧ xs.length ≤ i⟩
theorem turn_enumT {P : Program} {w : World} {K : PySem.W.Frag} {elts : List Expr} {kk : Nat} {tpos : Pos} (a e it : Addr) (hait : a ≠ it) (hea : e ≠ a) :
    Turn P w K (.Tuple elts kk tpos) (ItnT K a) [e, it] e (fun i h => (∃ old, IsEnum h e it ((i : Nat) : Int) old) ∧ h.IsTupleIter it a i ∧ e ≠ it) where
  mem := by simp
  obj := fun i h ⟨⟨old, he⟩, ⟨o, ho, hc, hd⟩, _⟩ b hb => by
    rcases (show b = e ∨ b = it by simpa using hb) with z | z
    · rw [z]; exact ⟨_, he, fun v q => nomatch q⟩
    · rw [z]; exact ⟨o, ho, fun v q => by rw [hd] at q; cases q⟩
  keep := fun i h h' ⟨⟨old, he⟩, hi, hne⟩ k => ⟨⟨old, k e (by simp) _ he⟩, hi.at fun o q => k it (by simp) o q, hne⟩
  item := by
    intro X hP hw hK hc i pins s σ H E I hf st hg
    subst hP hw hK
    obtain ⟨⟨old, he⟩, hit, hne⟩ := st
    obtain ⟨xs, x, hq, hx⟩ := hg
    obtain ⟨its, rv, p, hz⟩ := I.tuple hq
    obtain ⟨u, hu, ru⟩ := rv.get hx
    have hel : e < s.heap.objs.size := Heap.lt_size he
    have hil : it < s.heap.objs.size := let ⟨_, q, _⟩ := hit; Heap.lt_size q
    have D := Draws.tuple (prog := X.prog) (w := X.w) (A := X.A.in1) (I.ok.hd hc) it a hait its.toArray
    have hi : i < its.toArray.size := by
      have := (List.getElem?_eq_some_iff.mp hu).1
      simpa using this
    refine wpAny_pyNext_enum_itemD D he ⟨hit, p⟩ hi hne (by simp; exact ⟨hne, hea⟩) fun x' h' tk hx' ho st' hT hsz hk => ?_
    have ex : x' = u := by
      have z : its.toArray[i]? = some x' := hx'
      have z2 : its.toArray[i]? = some u := by simpa using hu
      rw [z2] at z
      exact (Option.some.inj z).symm
    subst ex
    refine ⟨_, rfl, wpAny_letOwnedTupleGo_enum (s := { s with heap := h', toks := tk + 1 }) ho fun h'' he' sb => ?_⟩
    have hT2 : h''.get? s.heap.objs.size = some { cls := .type "tuple", data := .seq #[.int i tk, x'] } := (sb.2 _ (Nat.ne_of_gt hel)).trans hT
    have new : ObjOk X.prog X.w (upd H s.heap.objs.size (.tup [.int (i : Nat), x])) h'' s.heap.objs.size (.tup [.int (i : Nat), x]) :=
      ⟨by show 2 ≤ sizeLine; decide, [.int i tk, x'], .cons ⟨_, rfl⟩ (.cons ru .nil), ⟨_, hT2, rfl, _, rfl⟩⟩
    have I1 : Inv X pins σ (upd H s.heap.objs.size (.tup [.int (i : Nat), x])) { s with heap := h'', toks := tk + 1 } :=
      I.turnedNew (ch := [e, it]) (fun b ob hb q => (sb.2 b (fun z => hb (by simp [z]))).trans (hk b ob (fun z => hb (by simp [z])) (fun z => hb (by simp [z])) q)) hf (Nat.le_refl _) new
    refine ⟨.ref s.heap.objs.size, _, I1, rfl, ⟨_, x, rfl, I.hok.fresh (Nat.le_refl _), rfl, fun ys hy => by rw [I.tuple_inj hy hq]; exact hx⟩, ⟨⟨x', ?_⟩, st'.1.at fun o q => (sb.2 it (Ne.symm hne)).trans q, hne⟩, fun b hb => ?_⟩
    · have e1 : ((i + 1 : Nat) : Int) = (i : Int) + 1 := by omega
      rw [e1]
      exact he'
    · have hb' : b < s.heap.objs.size := by
        rcases (show b = e ∨ b = it by simpa using hb) with z | z
        · rw [z]; exact hel
        · rw [z]; exact hil
      rw [upd_ne (Nat.ne_of_lt hb')]
      exact (hf b hb).1
  done := by
    intro X hP hw hK hc i pins s σ H E I hf st hg
    subst hP hw hK
    obtain ⟨⟨old, he⟩, hit, hne⟩ := st
    obtain ⟨xs, hq, hx⟩ := hg
    obtain ⟨its, rv, p, hz⟩ := I.tuple hq
    obtain ⟨f0, f1, f2, f3, f4, f5⟩ := hf it (by simp)
    have hl := rv.length
    refine wpAny_pyNext_enum_endT (I.ok.hd hc) he hit p (by simp; omega) fun h' eb => ⟨rfl, I.turned (t' := s.toks) (fun b o hb q => eb b o hb q) f0 f1 f3 f4 f5⟩
  self := fun A i s Q E ⟨⟨_, he⟩, _⟩ h => wpAny_pyIter_enum he h

def iEnumA (K : PySem.W.Frag) (ta : TA) : TI := fun σ H R => ta σ H fun vs H1 => ∃ a, vs = [.ref a] ∧ (((∃ xs, SqL K H1 a xs) ∧ R (Ite K a) H1) ∨ ((∃ xs, SqT K H1 a xs) ∧ R (ItnT K a) H1))
theorem pi_enumA {X : Cx} {e : Expr} {ta : TA} {p pos tpos : Pos} {elts : List Expr} {kk : Nat} (hg : Gl X "enumerate") (hm : X.mg "enumerate" = none) (ha : PA X [e] ta) (hs : starEach [e] X.env = [(false, eval e X.env)] := by rfl) :
    PI X (.Tuple elts kk tpos) (.Call (.Name "enumerate" p) [e] [] pos) (iEnumA X.K ta) := by
  refine ⟨fun pins s σ H R I h => Call_ (ld_blt I hg hm boot_enumerate (PyProof.Rows.callWith_type1 (thn (ha.run pos pins s σ H _ I h) fun us s1 ⟨vs, H1, I1, r1, a, ex, q⟩ => ?_) hs rfl))⟩
  subst ex
  have two : ∀ b ∈ [s1.heap.objs.size + 1, s1.heap.objs.size], FpOk X pins H1 b := fun b hb => by
    have hle : s1.heap.objs.size ≤ b := by
      rcases (show b = s1.heap.objs.size + 1 ∨ b = s1.heap.objs.size by simpa using hb) with z | z
      · rw [z]; exact Nat.le_add_right _ _
      · rw [z]; exact Nat.le_refl _
    exact I1.fpOk hle (I1.hok.fresh hle)
  cases r1 with
  | cons r rr =>
    cases rr
    cases r
    rcases q with ⟨⟨xs, hq⟩, q⟩ | ⟨⟨xs, hq⟩, q⟩
    · obtain ⟨its, rv, p', hz⟩ := I1.list hq
      exact call_enumerate_list p'.isList fun h' he hit hsz hk => wpAny_pyIter_enum he ⟨s1.heap.objs.size + 1, [s1.heap.objs.size + 1, s1.heap.objs.size], _, _, H1, rfl, I1.kept (t' := s1.toks) hk, turn_enum a (s1.heap.objs.size + 1) s1.heap.objs.size, ⟨⟨.none, he⟩, hit, Nat.succ_ne_self _⟩, two, q⟩
    · obtain ⟨its, rv, p', hz⟩ := I1.tuple hq
      have hlt : a < s1.heap.objs.size := p'.lt
      exact call_enumT (show s1.heap.IsTuple a its.toArray from p') fun h' he hit hk => wpAny_pyIter_enum he ⟨s1.heap.objs.size + 1, [s1.heap.objs.size + 1, s1.heap.objs.size], _, _, H1, rfl, I1.kept (t' := s1.toks) hk,
        turn_enumT a (s1.heap.objs.size + 1) s1.heap.objs.size (Nat.ne_of_lt hlt) (Nat.ne_of_gt (Nat.lt_succ_of_lt hlt)), ⟨⟨.none, he⟩, hit, Nat.succ_ne_self _⟩, two, q⟩

/-! ### over data -/
/-- the items of a datum, and what keeps them so -/
def seqW (x : D) (S : Sto) (R : List D → (Sto → Prop) → Sto → Prop) : Prop := match x with
  | .tup ds => R ds (fun _ => True) S
  | .scr ns => R (ns.map D.int) (fun _ => True) S
  | .ref a => ∃ ds, S a = some (.lst ds) ∧ R ds (fun S' => S' a = some (.lst ds)) S
  | _ => False
def iDS (t : WE) : WI := fun σ S R => t σ S fun x S1 => seqW x S1 R
theorem rps_ints {K : Ev} {H : Hp} : ∀ ns : List Int, Rps K H (ns.map D.int) (ns.map V.int)
  | [] => Rps.nil
  | n :: ns => (rps_ints ns).cons (by simp only [Rp])
section
variable {K : Ev} {S : Sto} {H : Hp}
theorem itok_list {a : Addr} {ds : List D} {vs : List V} (hq : H a = some (.lst vs)) (hs : S a = some (.lst ds)) (rs : Rps K H ds vs) : ItOk K S H (Itl K.k a) ds (fun S' => S' a = some (.lst ds)) := by
  refine ⟨fun i d S' H' hi t s g => ?_, fun S' H' t s g => ?_⟩
  · obtain ⟨us, hq', rs'⟩ := s a _ g
    obtain ⟨v, hv, rv⟩ := rs'.get hi
    refine ⟨⟨us, v, SqL.of hq', hv⟩, fun x H'' ⟨e, y⟩ => ?_⟩
    subst e
    have e2 := y us (SqL.of hq')
    rw [hv] at e2
    cases e2
    exact ⟨Step.refl S' _, s, rv⟩
  · obtain ⟨us, hq', rs'⟩ := s a _ g
    exact ⟨us, SqL.of hq', Nat.le_of_eq rs'.length.symm⟩
theorem itok_tup {a : Addr} {ds : List D} {vs : List V} (s0 : SimS K S H) (hq : SqT K.k H a vs) (rs : Rps K H ds vs) : ItOk K S H (Itt K.k a) ds (fun _ => True) := by
  refine ⟨fun i d S' H' hi t s g => ?_, fun S' H' t s g => ?_⟩
  · obtain ⟨v, hv, rv⟩ := (t.rps s0 rs).get hi
    have hq' := t.sq s0 hq
    refine ⟨⟨vs, v, hq', hv⟩, fun x H'' ⟨e, y⟩ => ?_⟩
    subst e
    have e2 := y vs hq'
    rw [hv] at e2
    cases e2
    exact ⟨Step.refl S' _, s, rv⟩
  · exact ⟨vs, t.sq s0 hq, Nat.le_of_eq rs.length.symm⟩
theorem itok_ro {a : Addr} {ds : List D} {vs : List V} (s0 : SimS K S H) (hq : RoL K.k H a vs) (rs : Rps K H ds vs) : ItOk K S H (Itl K.k a) ds (fun _ => True) := by
  refine ⟨fun i d S' H' hi t s g => ?_, fun S' H' t s g => ?_⟩
  · obtain ⟨v, hv, rv⟩ := (t.rps s0 rs).get hi
    have hq' := ((t.mo s0).r _ _ hq).sq
    refine ⟨⟨vs, v, hq', hv⟩, fun x H'' ⟨e, y⟩ => ?_⟩
    subst e
    have e2 := y vs hq'
    rw [hv] at e2
    cases e2
    exact ⟨Step.refl S' _, s, rv⟩
  · exact ⟨vs, ((t.mo s0).r _ _ hq).sq, Nat.le_of_eq rs.length.symm⟩
end
/-- (i, d), (i + 1, d'), .. -/
def numbered : Nat → List D → List D
  | _, [] => []
  | i, d :: r => .tup [.int (i : Nat), d] :: numbered (i + 1) r
theorem numbered_get : ∀ {i : Nat} {ds : List D} {j : Nat} {d : D}, (numbered i ds)[j]? = some d → ∃ x, ds[j]? = some x ∧ d = .tup [.int ((i + j : Nat) : Int), x]
  | _, [], _, _, h => by simp [numbered] at h
  | i, x :: r, 0, d, h => by
    simp [numbered] at h
    exact ⟨x, rfl, by rw [← h]; rfl⟩
  | i, x :: r, j + 1, d, h => by
    obtain ⟨y, h1, h2⟩ := numbered_get (i := i + 1) (ds := r) (j := j) (d := d) (by simpa [numbered] using h)
    exact ⟨y, by simpa using h1, by rw [h2, show i + 1 + j = i + (j + 1) by omega]⟩
theorem numbered_length : ∀ (i : Nat) (ds : List D), (numbered i ds).length = ds.length
  | _, [] => rfl
  | i, d :: r => by simp only [numbered, List.length_cons, numbered_length]
def iDEnum (t : WE) : WI := fun σ S R => t σ S fun x S1 => seqW x S1 fun ds G S2 => R (numbered 0 ds) G S2
section
variable {K : Ev} {S : Sto} {H : Hp}
theorem step_pair {S' : Sto} {H' : Hp} (s : SimS K S' H') {T : Addr} {i : Nat} {x : V} {d : D} (n : H' T = none) (r : Rp K H' d x) :
    Step S' H' S' (upd H' T (.tup [.int (i : Nat), x])) ∧ SimS K S' (upd H' T (.tup [.int (i : Nat), x])) ∧ Rp K (upd H' T (.tup [.int (i : Nat), x])) (.tup [.int (i : Nat), d]) (.ref T) := by
  have t := Step.fresh (o := .tup [.int (i : Nat), x]) s n
  refine ⟨t, s.fresh n, ?_⟩
  simp only [Rp]
  exact ⟨T, _, rfl, SqT.of upd_same, (Rps.nil.cons (t.rp s r)).cons (by simp only [Rp])⟩
theorem itok_enumL {a : Addr} {ds : List D} {vs : List V} (hq : H a = some (.lst vs)) (hs : S a = some (.lst ds)) (rs : Rps K H ds vs) : ItOk K S H (Ite K.k a) (numbered 0 ds) (fun S' => S' a = some (.lst ds)) := by
  refine ⟨fun i d S' H' hi t s g => ?_, fun S' H' t s g => ?_⟩
  · obtain ⟨x, h1, rfl⟩ := numbered_get hi
    obtain ⟨us, hq', rs'⟩ := s a _ g
    obtain ⟨v, hv, rv⟩ := rs'.get h1
    refine ⟨⟨us, v, SqL.of hq', hv⟩, fun y H'' ⟨T, z, e1, n, e2, yy⟩ => ?_⟩
    subst e1 e2
    have e3 := yy us (SqL.of hq')
    rw [hv] at e3
    cases e3
    rw [Nat.zero_add]
    exact step_pair s n rv
  · obtain ⟨us, hq', rs'⟩ := s a _ g
    exact ⟨us, SqL.of hq', by rw [numbered_length]; exact Nat.le_of_eq rs'.length.symm⟩
theorem itok_enumR {a : Addr} {ds : List D} {vs : List V} (s0 : SimS K S H) (hq : RoL K.k H a vs) (rs : Rps K H ds vs) : ItOk K S H (Ite K.k a) (numbered 0 ds) (fun _ => True) := by
  refine ⟨fun i d S' H' hi t s g => ?_, fun S' H' t s g => ?_⟩
  · obtain ⟨x, h1, rfl⟩ := numbered_get hi
    obtain ⟨v, hv, rv⟩ := (t.rps s0 rs).get h1
    have hq' := ((t.mo s0).r _ _ hq).sq
    refine ⟨⟨vs, v, hq', hv⟩, fun y H'' ⟨T, z, e1, n, e2, yy⟩ => ?_⟩
    subst e1 e2
    have e3 := yy vs hq'
    rw [hv] at e3
    cases e3
    rw [Nat.zero_add]
    exact step_pair s n rv
  · exact ⟨vs, ((t.mo s0).r _ _ hq).sq, by rw [numbered_length]; exact Nat.le_of_eq rs.length.symm⟩
theorem itok_enumT {a : Addr} {ds : List D} {vs : List V} (s0 : SimS K S H) (hq : SqT K.k H a vs) (rs : Rps K H ds vs) : ItOk K S H (ItnT K.k a) (numbered 0 ds) (fun _ => True) := by
  refine ⟨fun i d S' H' hi t s g => ?_, fun S' H' t s g => ?_⟩
  · obtain ⟨x, h1, rfl⟩ := numbered_get hi
    obtain ⟨v, hv, rv⟩ := (t.rps s0 rs).get h1
    have hq' := t.sq s0 hq
    refine ⟨⟨vs, v, hq', hv⟩, fun y H'' ⟨T, z, e1, n, e2, yy⟩ => ?_⟩
    subst e1 e2
    have e3 := yy vs hq'
    rw [hv] at e3
    cases e3
    rw [Nat.zero_add]
    exact step_pair s n rv
  · exact ⟨vs, t.sq s0 hq, by rw [numbered_length]; exact Nat.le_of_eq rs.length.symm⟩
theorem itok_range {lo : Int} {n : Nat} : ItOk K S H (Itr lo n) ((List.range n).map fun i => .int (lo + (i : Nat))) (fun _ => True) := by
  refine ⟨fun i d S' H' hi t s g => ?_, fun S' H' t s g => ?_⟩
  · rw [List.getElem?_map] at hi
    cases e : (List.range n)[i]? with
    | none => rw [e] at hi; cases hi
    | some j =>
      rw [e] at hi
      cases hi
      obtain ⟨h1, h2⟩ := List.getElem?_eq_some_iff.mp e
      rw [List.getElem_range] at h2
      subst h2
      rw [List.length_range] at h1
      refine ⟨h1, fun x H'' ⟨e1, e2⟩ => ?_⟩
      subst e1 e2
      exact ⟨Step.refl S' _, s, by simp only [Rp]⟩
  · show n ≤ _
    rw [List.length_map, List.length_range]
    exact Nat.le_refl n
end
/-- lo, lo + 1, .. -/
def rangeD (lo : Int) (n : Nat) : List D := (List.range n).map fun i => .int (lo + (i : Nat))
def one (f : D → Sto → Prop) : List D → Sto → Prop := fun ds S => match ds with
  | [x] => f x S
  | _ => False
def two (f : D → D → Sto → Prop) : List D → Sto → Prop := fun ds S => match ds with
  | [x, y] => f x y S
  | _ => False
def rgK1 (R : List D → (Sto → Prop) → Sto → Prop) : D → Sto → Prop := fun x S => match x with
  | .int j => (-(2 ^ 62) ≤ j ∧ j < 2 ^ 62) ∧ R (rangeD 0 j.toNat) (fun _ => True) S
  | _ => False
def rgK2 (R : List D → (Sto → Prop) → Sto → Prop) : D → D → Sto → Prop := fun x y S => match x, y with
  | .int i, .int j => (-(2 ^ 62) ≤ i ∧ i < 2 ^ 62 ∧ -(2 ^ 62) ≤ j ∧ j < 2 ^ 62) ∧ R (rangeD i (j - i).toNat) (fun _ => True) S
  | _, _ => False
def iDRange1 (t : WE) : WI := fun σ S R => t σ S (rgK1 R)
def iDRange2 (ta tb : WE) : WI := fun σ S R => ta σ S fun x S1 => tb σ S1 fun y S2 => rgK2 R x y S2
section
variable {X : Cx} {B : Sto × Hp} {tg e e2 : Expr} {te te2 : WE} {p pos tpos : Pos} {elts : List Expr} {kk : Nat}
theorem di_seq (he : DE X B e te) : DI X B tg e (iDS te) := ⟨_, pi_seq he, fun σd S σ H R R' s q k => ⟨σd, S, _, s, q, fun x S1 v H1 t1 s1 r1 q1 => by
  cases x with
  | tup ds =>
    simp only [Rp] at r1
    obtain ⟨a, vs, rfl, hq, rs⟩ := r1
    exact ⟨a, rfl, .inr ⟨⟨vs, hq⟩, k _ _ _ _ _ t1 s1 (itok_tup s1 hq rs) q1⟩⟩
  | scr ns =>
    simp only [Rp] at r1
    obtain ⟨a, rfl, hq⟩ := r1
    exact ⟨a, rfl, .inl ⟨⟨_, hq.sq⟩, k _ _ _ _ _ t1 s1 (itok_ro s1 hq (rps_ints ns)) q1⟩⟩
  | ref a =>
    rw [r1.ref]
    obtain ⟨ds, eo, q1⟩ := q1
    obtain ⟨vs, hq, rs⟩ := s1 a _ eo
    exact ⟨a, rfl, .inl ⟨⟨vs, SqL.of hq⟩, k _ _ _ _ _ t1 s1 (itok_list hq eo rs) q1⟩⟩
  | _ => exact q1.elim⟩⟩
theorem di_enum (he : DE X B e te) (hm : X.mg "enumerate" = none) (hg : Gl X "enumerate" := by rfl) (hs : starEach [e] X.env = [(false, eval e X.env)] := by rfl) : DI X B (.Tuple elts kk tpos) (.Call (.Name "enumerate" p) [e] [] pos) (iDEnum te) :=
  ⟨_, pi_enumA hg hm (da_cons he da_nil (by rw [hs]; rfl)) hs, fun σd S σ H R R' s q k => ⟨σd, S, fun ds S1 => match ds with
    | [x] => seqW x S1 fun ds G S2 => R (numbered 0 ds) G S2
    | _ => False, s, q, fun ds S1 vs H1 t1 s1 r1 q1 => by
  match ds, q1, r1 with
  | [x], q1, r1 =>
  obtain ⟨v, rfl, r2⟩ := r1.one
  cases x with
  | tup ds =>
    simp only [Rp] at r2
    obtain ⟨a, vs, rfl, hq, rs⟩ := r2
    exact ⟨a, rfl, .inr ⟨⟨vs, hq⟩, k _ _ _ _ _ t1 s1 (itok_enumT s1 hq rs) q1⟩⟩
  | scr ns =>
    simp only [Rp] at r2
    obtain ⟨a, rfl, hq⟩ := r2
    exact ⟨a, rfl, .inl ⟨⟨_, hq.sq⟩, k _ _ _ _ _ t1 s1 (itok_enumR s1 hq (rps_ints ns)) q1⟩⟩
  | ref a =>
    rw [r2.ref]
    obtain ⟨ds, eo, q1⟩ := q1
    obtain ⟨vs, hq, rs⟩ := s1 a _ eo
    exact ⟨a, rfl, .inl ⟨⟨vs, SqL.of hq⟩, k _ _ _ _ _ t1 s1 (itok_enumL hq eo rs) q1⟩⟩
  | _ => exact q1.elim⟩⟩
theorem di_range1 (he : DE X B e te) (hm : X.mg "range" = none) (hg : Gl X "range" := by rfl) (hs : starEach [e] X.env = [(false, eval e X.env)] := by rfl) : DI X B tg (.Call (.Name "range" p) [e] [] pos) (iDRange1 te) :=
  ⟨_, pi_range1 hg hm (da_cons he da_nil (by rw [hs]; rfl)) hs, fun σd S σ H R R' s q k => ⟨σd, S, one (rgK1 R), s, q, fun ds S1 vs H1 t1 s1 r1 q1 => by
  match ds, q1, r1 with
  | [x], q1, r1 =>
  obtain ⟨v, rfl, r2⟩ := r1.one
  cases x with
  | int j =>
    rw [r2.int]
    exact ⟨j, rfl, q1.1.1, q1.1.2, k _ _ _ _ _ t1 s1 itok_range q1.2⟩
  | _ => exact q1.elim⟩⟩
theorem di_range2 (he : DE X B e te) (he2 : DE X B e2 te2) (hm : X.mg "range" = none) (hg : Gl X "range" := by rfl) (hs : starEach [e, e2] X.env = [(false, eval e X.env), (false, eval e2 X.env)] := by rfl) (hs2 : starEach [e2] X.env = [(false, eval e2 X.env)] := by rfl) :
    DI X B tg (.Call (.Name "range" p) [e, e2] [] pos) (iDRange2 te te2) :=
  ⟨_, pi_range2 hg hm (da_cons he (da_cons he2 da_nil (by rw [hs2]; rfl)) (by rw [hs, hs2])) hs hs2, fun σd S σ H R R' s q k => ⟨σd, S, two (rgK2 R), s, q, fun ds S1 vs H1 t1 s1 r1 q1 => by
  match ds, q1, r1 with
  | [x, y], q1, r1 =>
  obtain ⟨v, u, rfl, r2, r3⟩ := r1.two
  cases x with
  | int i =>
    cases y with
    | int j =>
      rw [r2.int, r3.int]
      exact ⟨i, j, rfl, q1.1, k _ _ _ _ _ t1 s1 itok_range q1.2⟩
    | _ => exact q1.elim
  | _ => cases y <;> exact q1.elim⟩⟩
end
end DL

set_option maxRecDepth 100000
/-! Lists and tuples: +, *, slices, stars, conversions, methods, stores; comprehensions; the module's names. -/
namespace DL
open PySem PySem.Spec PyProof.Rows L2

theorem SimS.newL {K : Ev} {S : Sto} {H : Hp} (s : SimS K S H) {p : Addr} {ds : List D} {vs : List V} (hp : H p = none) (h : ∀ H', Mo K H H' → Rps K H' ds vs) : SimS K (sput S p (.lst ds)) (upd H p (.lst vs)) :=
  s.new (u := .lst ds) hp fun H' m e => ⟨vs, e, h H' m⟩
theorem SimS.putL {K : Ev} {S : Sto} {H : Hp} (s : SimS K S H) {p : Addr} {ds : List D} {vs : List V} {w : Ob} (hp : S p = some w) (h : ∀ H', Mo K H H' → Rps K H' ds vs) : SimS K (sput S p (.lst ds)) (upd H p (.lst vs)) :=
  s.put (u := .lst ds) hp fun H' m e => ⟨vs, e, h H' m⟩
/-! ### a + b, a * k -/
abbrev rdAddA : RD := fun x y S Q => match x, y with
  | .int i, .int j => Q (.int (i + j)) S
  | .tup a, .tup b => a.length + b.length ≤ sizeLine ∧ Q (.tup (a ++ b)) S
  | .ref a, .ref b => ∃ xs ys, S a = some (.lst xs) ∧ S b = some (.lst ys) ∧ xs.length + ys.length ≤ sizeLine ∧ ∀ p, S p = none → Q (.ref p) (sput S p (.lst (xs ++ ys)))
  | _, _ => False
abbrev rdMulA : RD := fun x y S Q => match x, y with
  | .int i, .int j => CMulW i j ∧ Q (.int (i * j)) S
  | .tup a, .int k => (a ≠ [] ∧ 2 ≤ k ∧ k ≤ 1000 ∧ a.length ≤ 1000) ∧ Q (.tup (List.replicate k.toNat a).flatten) S
  | .ref a, .int k => ∃ xs, S a = some (.lst xs) ∧ (-(2 ^ 63) ≤ k ∧ k < 2 ^ 63 ∧ xs.length * k.toNat ≤ sizeLine) ∧ ∀ p, S p = none → Q (.ref p) (sput S p (.lst (List.replicate k.toNat xs).flatten))
  | _, _ => False
section
variable {K : Ev}
theorem opd_addA : OpD K (fun x y H Q => rI0 (fun i j => .int (i + j)) x y H Q ∨ (rCatA K.k x y H Q ∨ rCat x y H Q)) rdAddA := fun x y v u S H Q Q' s rx ry q k => by
  cases x with
  | int i =>
    cases y with
    | int j =>
      rw [rx.int, ry.int]
      exact .inl ⟨i, j, rfl, rfl, k _ S _ H (Step.refl S H) s (by simp only [Rp]) q⟩
    | _ => exact q.elim
  | tup ds =>
    cases y with
    | tup es =>
      have hx := rx
      have hy := ry
      simp only [Rp] at rx ry
      obtain ⟨a, xs, rfl, ha, ra⟩ := rx
      obtain ⟨b, ys, rfl, hb, rb⟩ := ry
      refine .inr (.inl ⟨a, b, xs, ys, rfl, rfl, ha, hb, by rw [← ra.length, ← rb.length]; exact q.1, fun e => ?_, fun e e2 => ?_, fun e e2 p hp => ?_⟩)
      · have z : ds = [] := List.length_eq_zero_iff.mp (by rw [ra.length, e]; rfl)
        subst z
        exact k _ S _ H (Step.refl S H) s hy q.2
      · have z : es = [] := List.length_eq_zero_iff.mp (by rw [rb.length, e2]; rfl)
        subst z
        exact k _ S _ H (Step.refl S H) s hx (by have := q.2; rw [List.append_nil] at this; exact this)
      · refine k _ S _ _ (Step.fresh s hp) (s.fresh hp) ?_ q.2
        simp only [Rp]
        exact ⟨p, _, rfl, SqT.of upd_same, ((Step.fresh s hp).rps s ra).append ((Step.fresh s hp).rps s rb)⟩
    | _ => exact q.elim
  | ref a =>
    cases y with
    | ref b =>
      rw [rx.ref, ry.ref]
      obtain ⟨xs, ys, e1, e2, q⟩ := q
      obtain ⟨vs, ha, ra⟩ := s a _ e1
      obtain ⟨us, hb, rb⟩ := s b _ e2
      exact .inr (.inr ⟨a, b, vs, us, rfl, rfl, ha, hb, by rw [← ra.length, ← rb.length]; exact q.1, fun p hp => k _ _ _ _ (Step.new s hp) (s.newL hp fun H' m => (ra.mono m).append (rb.mono m)) (by simp only [Rp]) (q.2 p (s.off hp))⟩)
    | _ => exact q.elim
  | _ => exact q.elim
theorem Rps.rep {H : Hp} {ds : List D} {vs : List V} (r : Rps K H ds vs) : ∀ n : Nat, Rps K H (List.replicate n ds).flatten (List.replicate n vs).flatten
  | 0 => Rps.nil
  | n + 1 => by
    rw [List.replicate_succ, List.replicate_succ, List.flatten_cons, List.flatten_cons]
    exact r.append (Rps.rep r n)
theorem opd_mulA : OpD K (fun x y H Q => rI CMulW (fun i j => .int (i * j)) x y H Q ∨ (rRepT K.k x y H Q ∨ rRep x y H Q)) rdMulA := fun x y v u S H Q Q' s rx ry q k => by
  cases y with
  | int j =>
    rw [ry.int]
    cases x with
    | int i =>
      rw [rx.int]
      exact .inl ⟨i, j, rfl, rfl, q.1, k _ S _ H (Step.refl S H) s (by simp only [Rp]) q.2⟩
    | tup ds =>
      simp only [Rp] at rx
      obtain ⟨a, xs, rfl, ha, ra⟩ := rx
      refine .inr (.inl ⟨a, j, xs, rfl, rfl, ha, fun e => q.1.1 ?_, q.1.2.1, q.1.2.2.1, by rw [← ra.length]; exact q.1.2.2.2, fun p hp => ?_⟩)
      · exact List.length_eq_zero_iff.mp (by rw [ra.length, e]; rfl)
      · refine k _ S _ _ (Step.fresh s hp) (s.fresh hp) ?_ q.2
        simp only [Rp]
        exact ⟨p, _, rfl, SqT.of upd_same, (((Step.fresh s hp).rps s ra).rep _)⟩
    | ref a =>
      rw [rx.ref]
      obtain ⟨xs, e1, q⟩ := q
      obtain ⟨vs, ha, ra⟩ := s a _ e1
      exact .inr (.inr ⟨a, j, vs, rfl, rfl, ha, q.1.1, q.1.2.1, by rw [← ra.length]; exact q.1.2.2, fun p hp => k _ _ _ _ (Step.new s hp) (s.newL hp fun H' m => (ra.mono m).rep _) (by simp only [Rp]) (q.2 p (s.off hp))⟩)
    | _ => exact q.elim
  | _ => cases x <;> exact q.elim
end
section
variable {X : Cx} {B : Sto × Hp} {pos : Pos} {a b c e : Expr} {es : List Expr} {ta tb tc te : WE} {t : WA}
theorem de_addA (ha : DE X B a ta) (hb : DE X B b tb) : DE X B (.BinOp a .Add b pos) (dOp rdAddA ta tb) := de_op (op_add.or (op_catA.or op_cat)) (opd_addA (K := ev X)) ha hb
theorem de_mulA (ha : DE X B a ta) (hb : DE X B b tb) : DE X B (.BinOp a .Mult b pos) (dOp rdMulA ta tb) := de_op (op_mulW.or (op_repT.or op_rep)) (opd_mulA (K := ev X)) ha hb

/-! ### slices -/
def cutD (ds : List D) (lo hi : Option Int) : List D := (ds.drop (HT.sIx ds.length 0 lo)).take (HT.sIx ds.length ds.length hi - HT.sIx ds.length 0 lo)
theorem Rps.cut {K : Ev} {H : Hp} {ds : List D} {vs : List V} (r : Rps K H ds vs) (lo hi : Option Int) : Rps K H (cutD ds lo hi) (cutV vs lo hi) := by
  unfold cutD cutV
  rw [r.length]
  exact (r.drop _).take _
abbrev WO := DS → Sto → (Option Int → Sto → Prop) → Prop
def kI (Q : Option Int → Sto → Prop) : DK := fun d S => match d with
  | .int i => Q (some i) S
  | _ => False
def oNo : WO := fun _ S Q => Q none S
def oSome (t : WE) : WO := fun σ S Q => t σ S (kI Q)
def liftO (K : Ev) (B : Sto × Hp) (t : WO) : TO := fun σ H Q => ∃ σd S Qd, Sim K B σd S σ H ∧ t σd S Qd ∧ ∀ o S' H', Step S H S' H' → SimS K S' H' → Qd o S' → Q o H'
def DO (X : Cx) (B : Sto × Hp) (e : Option Expr) (t : WO) : Prop := PO X e (liftO (ev X) B t)
theorem do_none : DO X B none oNo := ⟨fun pins s σ H Q I ⟨σd, S, Qd, sm, q, k⟩ => po_none.run pins s σ H Q I (k _ S H (Step.refl S H) sm.s q)⟩
theorem do_some (h : DE X B e te) : DO X B (some e) (oSome te) := ⟨fun pins s σ H Q I ⟨σd, S, Qd, sm, q, k⟩ => (po_some h).run pins s σ H Q I ⟨σd, S, _, sm, q, fun d S1 v H1 t1 s1 r1 q1 => by
  cases d with
  | int i => exact ⟨i, r1.int, k _ _ _ t1 s1 q1⟩
  | _ => exact q1.elim⟩⟩
abbrev rdSl : D → Option Int → Option Int → Sto → DK → Prop := fun x lo hi S Q => match x with
  | .tup ds => Q (.tup (cutD ds lo hi)) S
  | .scr ns => ∀ p, S p = none → Q (.ref p) (sput S p (.lst (cutD (ns.map D.int) lo hi)))
  | .ref a => ∃ ds, S a = some (.lst ds) ∧ ∀ p, S p = none → Q (.ref p) (sput S p (.lst (cutD ds lo hi)))
  | _ => False
def dSl (te : WE) (tl th : WO) : WE := fun σ S Q => te σ S fun x S1 => tl σ S1 fun l S2 => th σ S2 fun u S3 => rdSl x l u S3 Q
theorem cut_whole {xs : List V} {lo hi : Option Int} (h : HT.sIx xs.length 0 lo = 0 ∧ HT.sIx xs.length xs.length hi = xs.length) : cutV xs lo hi = xs := by
  unfold cutV
  rw [h.1, h.2, List.drop_zero, Nat.sub_zero, List.take_length]
theorem de_slice {lo hi : Option Expr} {tl th : WO} {p2 : Pos} (he : DE X B e te) (hl : DO X B lo tl) (hu : DO X B hi th) : DE X B (.Subscript e (.Slice lo hi none p2) pos) (dSl te tl th) :=
  PE.imp (pe_slice (sl_list.or sl_tupA) he hl hu) fun σ H Q ⟨σd, S, Qd, s, q, k⟩ => ⟨σd, S, _, s, q, fun x S1 v H1 t1 s1 r1 q1 => ⟨σd, S1, _, s.step t1 s1, q1, fun l S2 H2 t2 s2 q2 => ⟨σd, S2, _, (s.step t1 s1).step t2 s2, q2, fun u S3 H3 t3 s3 q3 => by
    have r3 := t3.rp s2 (t2.rp s1 r1)
    have t13 := (t1.trans t2).trans t3
    cases x with
    | tup ds =>
      have hr := r3
      simp only [Rp] at r3
      obtain ⟨a, vs, rfl, hq, rs⟩ := r3
      refine .inr ⟨a, vs, rfl, hq, fun w => k _ _ _ _ t13 s3 ?_ q3, fun _ p hp => k _ _ _ _ (t13.trans (Step.fresh s3 hp)) (s3.fresh hp) ?_ q3⟩
      · simp only [Rp]
        exact ⟨a, vs, rfl, hq, by have := rs.cut l u; rw [cut_whole w] at this; exact this⟩
      · simp only [Rp]
        exact ⟨p, _, rfl, SqT.of upd_same, (Step.fresh s3 hp).rps s3 (rs.cut l u)⟩
    | scr ns =>
      simp only [Rp] at r3
      obtain ⟨a, rfl, hq⟩ := r3
      exact .inl ⟨a, _, rfl, hq.sq, fun p hp => k _ _ _ _ (t13.trans (Step.new s3 hp)) (s3.newL hp fun H' m => ((rps_ints ns).cut l u)) (by simp only [Rp]) (q3 p (s3.off hp))⟩
    | ref a =>
      rw [r3.ref]
      obtain ⟨ds, e1, q3⟩ := q3
      obtain ⟨vs, hq, rs⟩ := s3 a _ e1
      exact .inl ⟨a, _, rfl, SqL.of hq, fun p hp => k _ _ _ _ (t13.trans (Step.new s3 hp)) (s3.newL hp fun H' m => ((rs.mono m).cut l u)) (by simp only [Rp]) (q3 p (s3.off hp))⟩
    | _ => exact q3.elim⟩⟩⟩

/-! ### stars in displays -/
def elemsOf (S : Sto) : D → Option (List D)
  | .tup ds => some ds
  | .scr ns => some (ns.map D.int)
  | .ref a => match S a with
    | some (.lst ds) => some ds
    | _ => none
  | _ => none
theorem elems_ok {K : Ev} {S : Sto} {H : Hp} (s : SimS K S H) {x : D} {v : V} {ds : List D} (r : Rp K H x v) (h : elemsOf S x = some ds) : ∃ a vs, v = .ref a ∧ (SqT K.k H a vs ∨ SqL K.k H a vs) ∧ Rps K H ds vs := by
  cases x <;> simp only [Rp] at r <;> simp only [elemsOf] at h
  case tup es =>
    cases h
    obtain ⟨a, vs, rfl, hq, rs⟩ := r
    exact ⟨a, vs, rfl, .inl hq, rs⟩
  case scr ns =>
    cases h
    obtain ⟨a, rfl, hq⟩ := r
    exact ⟨a, _, rfl, .inr hq.sq, rps_ints ns⟩
  case ref a =>
    subst r
    split at h
    · rename_i es e1
      cases h
      obtain ⟨vs, hq, rs⟩ := s a _ e1
      exact ⟨a, vs, rfl, .inr (SqL.of hq), rs⟩
    · cases h
  all_goals cases h
def aStar (t : WE) (r : WA) : WA := fun σ S Q => t σ S fun d S1 => ∃ es, elemsOf S1 d = some es ∧ r σ S1 fun ds S2 => Q (es ++ ds) S2
theorem da_star {p : Pos} (ha : DE X B e te) (hr : DA X B es t) (hs : starEach (.Starred e p :: es) X.env = (true, eval e X.env) :: starEach es X.env := by rfl) : DA X B (.Starred e p :: es) (aStar te t) :=
  PA.imp (StX.pa_star ha hr hs) fun σ H Q ⟨σd, S, Qd, s, q, k⟩ => ⟨σd, S, _, s, q, fun d S1 v H1 t1 s1 r1 q1 => by
    obtain ⟨ds, e, q1⟩ := q1
    obtain ⟨a, vs, rfl, hq, rs⟩ := elems_ok s1 r1 e
    exact ⟨a, vs, rfl, hq, σd, S1, _, s.step t1 s1, q1, fun es S2 us H2 t2 s2 r2 q2 => k _ _ _ _ (t1.trans t2) s2 ((t2.rps s1 rs).append r2) q2⟩⟩

/-! ### list(x), tuple(x), all, any, sorted of ints -/
abbrev rdList : RB := fun ds S Q => match ds with
  | [x] => ∃ es, elemsOf S x = some es ∧ ∀ p, S p = none → Q (.ref p) (sput S p (.lst es))
  | _ => False
abbrev rdTuple : RB := fun ds S Q => match ds with
  | [x] => ∃ es, elemsOf S x = some es ∧ Q (.tup es) S
  | _ => False
def boolsOf : List D → Option (List Bool)
  | [] => some []
  | .bl b :: r => match boolsOf r with
    | some bs => some (b :: bs)
    | none => none
  | _ :: _ => none
def intsOf : List D → Option (List Int)
  | [] => some []
  | .int i :: r => match intsOf r with
    | some is => some (i :: is)
    | none => none
  | _ :: _ => none
abbrev rdAll : RB := fun ds S Q => match ds with
  | [.ref a] => ∃ es bs, S a = some (.lst es) ∧ boolsOf es = some bs ∧ Q (.bl (bs.all id)) S
  | _ => False
abbrev rdAny : RB := fun ds S Q => match ds with
  | [.ref a] => ∃ es bs, S a = some (.lst es) ∧ boolsOf es = some bs ∧ Q (.bl (bs.any id)) S
  | _ => False
abbrev rdSorted : RB := fun ds S Q => match ds with
  | [.ref a] => ∃ es is, S a = some (.lst es) ∧ intsOf es = some is ∧ ∀ p, S p = none → Q (.ref p) (sput S p (.lst ((is.mergeSort (· ≤ ·)).map D.int)))
  | _ => False
theorem bools_ok {K : Ev} {H : Hp} : ∀ {ds : List D} {vs : List V} {bs : List Bool}, Rps K H ds vs → boolsOf ds = some bs → vs = bs.map V.bl
  | [], _, _, r, e => by cases e; exact r.nilEq
  | d :: ds, _, _, r, e => by
    simp only [Rps] at r
    obtain ⟨v, vr, rfl, r1, r2⟩ := r
    cases d <;> simp only [boolsOf] at e
    case bl b =>
      split at e
      · rename_i bs e1
        cases e
        rw [r1.bl, bools_ok r2 e1]
        rfl
      · cases e
    all_goals cases e
theorem ints_ok {K : Ev} {H : Hp} : ∀ {ds : List D} {vs : List V} {bs : List Int}, Rps K H ds vs → intsOf ds = some bs → vs = bs.map V.int
  | [], _, _, r, e => by cases e; exact r.nilEq
  | d :: ds, _, _, r, e => by
    simp only [Rps] at r
    obtain ⟨v, vr, rfl, r1, r2⟩ := r
    cases d <;> simp only [intsOf] at e
    case int b =>
      split at e
      · rename_i bs e1
        cases e
        rw [r1.int, ints_ok r2 e1]
        rfl
      · cases e
    all_goals cases e
theorem boolsOf_map : ∀ bs : List Bool, boolsOf (bs.map D.bl) = some bs
  | [] => rfl
  | b :: bs => by simp only [List.map_cons, boolsOf, boolsOf_map bs]
theorem intsOf_map : ∀ bs : List Int, intsOf (bs.map D.int) = some bs
  | [] => rfl
  | b :: bs => by simp only [List.map_cons, intsOf, intsOf_map bs]
section
variable {K : Ev}
theorem bd_list : BD K (fun xs H Q => ∃ p ys, xs = [.ref p] ∧ (SqL K.k H p ys ∨ SqT K.k H p ys) ∧ ∀ l, H l = none → Q (.ref l) (upd H l (.lst ys))) rdList := fun ds vs S H Q Q' s r q k => by
  match ds, q, r with
  | [x], q, r =>
    obtain ⟨v, rfl, r1⟩ := r.one
    obtain ⟨es, e, q⟩ := q
    obtain ⟨a, us, rfl, hq, rs⟩ := elems_ok s r1 e
    exact ⟨a, us, rfl, hq.symm, fun p hp => k _ _ _ _ (Step.new s hp) (s.newL hp fun H' m => rs.mono m) (by simp only [Rp]) (q p (s.off hp))⟩
theorem bd_tuple : BD K (fun xs H Q => ∃ p ys, xs = [.ref p] ∧ ((SqL K.k H p ys ∧ ∀ l, H l = none → Q (.ref l) (upd H l (.tup ys))) ∨ (SqT K.k H p ys ∧ Q (.ref p) H))) rdTuple := fun ds vs S H Q Q' s r q k => by
  match ds, q, r with
  | [x], q, r =>
    obtain ⟨v, rfl, r1⟩ := r.one
    obtain ⟨es, e, q⟩ := q
    obtain ⟨a, us, rfl, hq, rs⟩ := elems_ok s r1 e
    refine ⟨a, us, rfl, ?_⟩
    rcases hq with hq | hq
    · refine .inr ⟨hq, k _ S _ H (Step.refl S H) s ?_ q⟩
      simp only [Rp]
      exact ⟨a, us, rfl, hq, rs⟩
    · refine .inl ⟨hq, fun p hp => k _ S _ _ (Step.fresh s hp) (s.fresh hp) ?_ q⟩
      simp only [Rp]
      exact ⟨p, _, rfl, SqT.of upd_same, (Step.fresh s hp).rps s rs⟩
theorem bd_all : BD K (rAll K.k) rdAll := fun ds vs S H Q Q' s r q k => by
  match ds, q, r with
  | [], q, _ => exact q.elim
  | x :: _ :: _, q, _ => cases x <;> exact q.elim
  | [x], q, r =>
    obtain ⟨v, rfl, r1⟩ := r.one
    cases x with
    | ref a =>
      rw [r1.ref]
      obtain ⟨es, bs, e1, e2, q⟩ := q
      obtain ⟨us, hq, rs⟩ := s a _ e1
      rw [bools_ok rs e2] at hq
      exact ⟨a, bs, rfl, SqL.of hq, k _ S _ H (Step.refl S H) s (by simp only [Rp]) q⟩
    | _ => exact q.elim
theorem bd_any : BD K (rAny K.k) rdAny := fun ds vs S H Q Q' s r q k => by
  match ds, q, r with
  | [], q, _ => exact q.elim
  | x :: _ :: _, q, _ => cases x <;> exact q.elim
  | [x], q, r =>
    obtain ⟨v, rfl, r1⟩ := r.one
    cases x with
    | ref a =>
      rw [r1.ref]
      obtain ⟨es, bs, e1, e2, q⟩ := q
      obtain ⟨us, hq, rs⟩ := s a _ e1
      rw [bools_ok rs e2] at hq
      exact ⟨a, bs, rfl, SqL.of hq, k _ S _ H (Step.refl S H) s (by simp only [Rp]) q⟩
    | _ => exact q.elim
theorem sort_one {ns is : List Int} (h1 : ns.Perm is) (h2 : ns.Pairwise (· ≤ ·)) : ns = is.mergeSort (· ≤ ·) := by
  have p2 : (is.mergeSort (· ≤ ·)).Perm is := List.mergeSort_perm _ _
  have s2 : (is.mergeSort (· ≤ ·)).Pairwise (· ≤ ·) := by
    have := List.pairwise_mergeSort (le := fun a b : Int => decide (a ≤ b)) (by intro a b c; simp; omega) (by intro a b; simp; omega) is
    exact this.imp fun h => by simpa using h
  exact List.Perm.eq_of_pairwise (fun a b _ _ x y => Int.le_antisymm x y) h2 s2 (h1.trans p2.symm)
theorem bd_sorted : BD K (rSortedI K.k) rdSorted := fun ds vs S H Q Q' s r q k => by
  match ds, q, r with
  | [], q, _ => exact q.elim
  | x :: _ :: _, q, _ => cases x <;> exact q.elim
  | [x], q, r =>
    obtain ⟨v, rfl, r1⟩ := r.one
    cases x with
    | ref a =>
      rw [r1.ref]
      obtain ⟨es, is, e1, e2, q⟩ := q
      obtain ⟨us, hq, rs⟩ := s a _ e1
      rw [ints_ok rs e2] at hq
      refine ⟨a, is, rfl, SqL.of hq, fun ns p h1 h2 hp => ?_⟩
      rw [sort_one h1 h2]
      exact k _ _ _ _ (Step.new s hp) (s.newL hp fun H' m => rps_ints _) (by simp only [Rp]) (q p (s.off hp))
    | _ => exact q.elim
end

/-! ### methods of lists -/
abbrev RM := D → List D → Sto → DK → Prop
def isL (S : Sto) : D → Prop := fun x => match x with
  | .ref a => ∃ ds, S a = some (.lst ds)
  | _ => False
def dM (rd : RM) (to : WE) (t : WA) : WE := fun σ S Q => to σ S fun x S1 => isL S1 x ∧ t σ S1 fun ds S2 => rd x ds S2 Q
def MD (K : Ev) (r : V → List V → Hp → VK → Prop) (rd : RM) : Prop := ∀ (x : D) (v : V) (ds : List D) (vs : List V) (S : Sto) (H : Hp) (Q : DK) (Q' : VK), SimS K S H → Rp K H x v → Rps K H ds vs → rd x ds S Q →
  (∀ d S' w H', Step S H S' H' → SimS K S' H' → Rp K H' d w → Q d S' → Q' w H') → r v vs H Q'
theorem lst_ty {K : Ev} {S : Sto} {H : Hp} (s : SimS K S H) {x : D} {v : V} (r : Rp K H x v) (h : isL S x) : tyV K.k "list" v H := by
  cases x with
  | ref a =>
    rw [r.ref]
    obtain ⟨ds, e⟩ := h
    obtain ⟨vs, hq, _⟩ := s a _ e
    exact .inl ⟨rfl, vs, SqL.of hq⟩
  | _ => exact h.elim
theorem lift_M {r : V → List V → Hp → VK → Prop} {rd : RM} (hd : MD (ev X) r rd) {σ : L2.St} {H : Hp} {Q : VK} (h : liftE (ev X) B (dM rd te t) σ H Q) : tBM X.K "list" r (liftE (ev X) B te) (liftA (ev X) B t) σ H Q := by
  obtain ⟨σd, S, Qd, s, q, k⟩ := h
  exact ⟨σd, S, _, s, q, fun x S1 v H1 t1 s1 r1 q1 => ⟨lst_ty s1 r1 q1.1, σd, S1, _, s.step t1 s1, q1.2, fun ds S2 vs H2 t2 s2 r2 q2 => hd x v ds vs S2 H2 Qd Q s2 (t2.rp s1 r1) r2 q2 fun d S' w H' t3 => k d S' w H' ((t1.trans t2).trans t3)⟩⟩
theorem de_M {o : Expr} {name : Str} {id : String} {apos cpos : Pos} {r : V → List V → Hp → VK → Prop} {rd : RM} (slot : Slot "list" name id) (hty : typeOf (.builtin id) = pure (.type "method_descriptor")) (hm : MtR X id r) (hd : MD (ev X) r rd) (ho : DE X B o te) (ha : DA X B (e :: es) t)
    (hbase : attributeBase o name X.env (eval o X.env) = eval o X.env := by rfl)
    (hfew : ((backTo cpos (starEach (e :: es) X.env)).all (fun x => !x.1) && (backToKw cpos (keywordEach [] X.env)).all (fun x => x.1.isSome) && decide ((e :: es).length + ([] : List Keyword).length + (if ([] : List Keyword).isEmpty then 0 else 1) < 30)) = true := by rfl)
    (hline : (apos.endLine == cpos.line) = true := by rfl) (hs : starEach (e :: es) X.env = (false, eval e X.env) :: starEach es X.env := by rfl) (hplain : (backTo cpos (starEach es X.env)).any (·.1) = false := by rfl) :
    DE X B (.Call (.Attribute o name apos) (e :: es) [] cpos) (dM rd te t) := PE.imp (pe_bm PySem.F.plainAttrs_list slot hty hm ho ha hbase hfew hline hs hplain) fun _ _ _ h => lift_M hd h
abbrev rdAppend : RM := fun x ds S Q => match x, ds with
  | .ref a, [d] => ∃ xs, S a = some (.lst xs) ∧ xs.length < sizeLine ∧ Q .non (sput S a (.lst (xs ++ [d])))
  | _, _ => False
theorem md_append {K : Ev} : MD K rAppend rdAppend := fun x v ds vs S H Q Q' s rx r q k => by
  match x, ds, q, rx, r with
  | .ref a, [d], q, rx, r =>
    obtain ⟨w, rfl, r1⟩ := r.one
    rw [rx.ref]
    obtain ⟨xs, e, q⟩ := q
    obtain ⟨us, hq, rs⟩ := s a _ e
    exact ⟨a, us, w, rfl, rfl, hq, by rw [← rs.length]; exact q.1, k _ _ _ _ (Step.put e) (s.putL e fun H' m => (rs.mono m).append (Rps.nil.cons (r1.mono m))) (by simp only [Rp]) q.2⟩
theorem de_append {o : Expr} {apos cpos : Pos} (ho : DE X B o te) (ha : DE X B e tb) (hbase : attributeBase o "append" X.env (eval o X.env) = eval o X.env := by rfl)
    (hfew : ((backTo cpos (starEach [e] X.env)).all (fun x => !x.1) && (backToKw cpos (keywordEach [] X.env)).all (fun x => x.1.isSome) && decide ([e].length + ([] : List Keyword).length + (if ([] : List Keyword).isEmpty then 0 else 1) < 30)) = true := by rfl)
    (hline : (apos.endLine == cpos.line) = true := by rfl) (hs : starEach [e] X.env = (false, eval e X.env) :: starEach [] X.env := by rfl) (hplain : (backTo cpos (starEach [] X.env)).any (·.1) = false := by rfl) :
    DE X B (.Call (.Attribute o "append" apos) [e] [] cpos) (dM rdAppend te (aCons tb aNil)) := de_M PySem.F.slot_list_append PySem.F.type_list_append mt_append md_append ho (da_cons ha da_nil hs) hbase hfew hline hs hplain

/-! ### a[i] = v -/
abbrev RS := D → D → D → Sto → (Sto → Prop) → Prop
def SD (K : Ev) (r : V → V → V → Hp → (Hp → Prop) → Prop) (rd : RS) : Prop := ∀ (o i d : D) (ov iv v : V) (S : Sto) (H : Hp) (Q : Sto → Prop) (Q' : Hp → Prop), SimS K S H → Rp K H o ov → Rp K H i iv → Rp K H d v → rd o i d S Q →
  (∀ S' H', Step S H S' H' → SimS K S' H' → Q S' → Q' H') → r ov iv v H Q'
def gdSub (to ti : WE) (rd : RS) : WG := fun d σ S Q => to σ S fun o S1 => ti σ S1 fun i S2 => rd o i d S2 fun S3 => Q σ S3
abbrev rdSet : RS := fun o i d S Q => match o, i with
  | .ref a, .int k => ∃ xs j, S a = some (.lst xs) ∧ ixN xs.length k = some j ∧ Q (sput S a (.lst (xs.set j d)))
  | _, _ => False
theorem sd_set {K : Ev} : SD K rSetL rdSet := fun o i d ov iv v S H Q Q' s ro ri rv q k => by
  cases o with
  | ref a =>
    cases i with
    | int n =>
      rw [ro.ref, ri.int]
      obtain ⟨xs, j, e, e2, q⟩ := q
      obtain ⟨us, hq, rs⟩ := s a _ e
      exact ⟨a, us, n, j, rfl, rfl, hq, by rw [← rs.length]; exact e2, k _ _ (Step.put e) (s.putL e fun H' m => (Rps.set (rv.mono m) j (rs.mono m))) q⟩
    | _ => exact q.elim
  | _ => cases i <;> exact q.elim
/-- the target's reading, where the parts are data: they are evaluated behind the value -/
theorem ds_sub {o i : Expr} {p : Pos} {to ti : WE} {r : V → V → V → Hp → (Hp → Prop) → Prop} {rd : RS} (he : DE X B e te) (ho : DE X B o to) (hi : DE X B i ti) (hs : PSet X r) (hd : SD (ev X) r rd)
    (ha : ∀ v, assign (.Subscript o i p) X.env v = (do
      let ov ← holding [v] (eval o X.env)
      let iv ← holding [v, ov] (eval i X.env)
      standAt p
      holding [v, ov, iv] (setItem ov iv v)
      release [v, ov, iv] []) := by intro _; rfl)
    (h1 : swapsWithSole [.Subscript o i p] e pos.line X.env = pure false := by rfl) (h2 : swappedStores [.Subscript o i p] e X.env = pure none := by rfl)
    (h3 : (assignEach [.Subscript o i p] X.env).map (·.2) = [assign (.Subscript o i p) X.env] := by rfl) : DSt X B (.Assign [.Subscript o i p] e pos) (sAsg te (gdSub to ti rd)) :=
  PS.imp (ps_asg he (pg_sub ho hi hs ha) h1 h2 h3) fun D' σ H ⟨σd, S, Dd, s, q, k⟩ => ⟨σd, S, _, s, q, fun d S1 v H1 t1 s1 r1 q1 => ⟨σd, S1, _, s.step t1 s1, q1, fun x S2 ov H2 t2 s2 r2 q2 => ⟨σd, S2, _, (s.step t1 s1).step t2 s2, q2, fun y S3 iv H3 t3 s3 r3 q3 =>
    hd x y d ov iv v S3 H3 _ _ s3 (t3.rp s2 r2) r3 (t3.rp s2 (t2.rp s1 r1)) q3 fun S4 H4 t4 s4 q4 =>
      k.nx _ _ _ _ (((t1.trans t2).trans t3).trans t4) s4 ((((s.v.step t1 s.s).step t2 s1).step t3 s2).step t4 s3) q4⟩⟩⟩

/-! ### list comprehensions -/
theorem de_lc {elt tg iter : Expr} {ifs : List Expr} {scope : Scope} {own : List (Str × Nat)} {wi : WI} {g : TG} {gd : WG} {tt : WT} {W : WD} {k : Nat} (c : OkD X B W k) (hN : X.N.Nodup) (hi : DI X B tg iter wi) (ok : BlkOk X.N X.env.scope scope own)
    (hg : ∀ (s : Shared) (H : Hp) (C : Addr) (cl : List (Str × Addr)) (fp : List Addr), PG (X.blk s H scope (compEnvC scope cl C X.env) fp) tg g) (hk : GOk (ev X) (own.map (·.2)) g gd)
    (ht : ∀ (s : Shared) (H : Hp) (C : Addr) (cl : List (Str × Addr)) (fp : List Addr), DTs (X.blk s H scope (compEnvC scope cl C X.env) fp) B ifs tt)
    (he : ∀ (s : Shared) (H : Hp) (C : Addr) (cl : List (Str × Addr)) (fp : List Addr), DE (X.blk s H scope (compEnvC scope cl C X.env) fp) B elt te) (hs : ∀ x, foldedSetIterable iter X.env x = pure x := by intro _; rfl) :
    DE X B (.ListComp elt [⟨tg, iter, ifs, 0⟩] scope pos) (dLc wi gd tt te (own.map (·.2))) := by
  obtain ⟨w, pi, hw⟩ := hi.ex
  exact PE.imp (pe_lc (tt := liftT (ev X) B tt) (te := liftE (ev X) B te) c.calm hN pi ok hg ht he hs) fun σ H Q h => lift_lc hk hw h
theorem ds_setLc {i : Nat} {y : Str} {py : Pos} {elt tg iter : Expr} {ifs : List Expr} {scope : Scope} {own : List (Str × Nat)} {spos : Pos} {wi : WI} {g : TG} {gd : WG} {tt : WT} {W : WD} {k : Nat} (c : OkD X B W k) (hN : X.N.Nodup) (hi : DI X B tg iter wi) (ok : BlkOk X.N X.env.scope scope own)
    (hg : ∀ (s : Shared) (H : Hp) (C : Addr) (cl : List (Str × Addr)) (fp : List Addr), PG (X.blk s H scope (compEnvC scope cl C X.env) fp) tg g) (hk : GOk (ev X) (own.map (·.2)) g gd)
    (ht : ∀ (s : Shared) (H : Hp) (C : Addr) (cl : List (Str × Addr)) (fp : List Addr), DTs (X.blk s H scope (compEnvC scope cl C X.env) fp) B ifs tt)
    (he : ∀ (s : Shared) (H : Hp) (C : Addr) (cl : List (Str × Addr)) (fp : List Addr), DE (X.blk s H scope (compEnvC scope cl C X.env) fp) B elt te) (hy : X.N[i]? = some y := by rfl) (hyl : X.env.scope.names.lookup y = some .local := by rfl)
    (hsw : swapsWith (.ListComp elt [⟨tg, iter, ifs, 0⟩] scope pos) (some (.Name y py)) spos.line X.env = pure true := by exact sw_true rfl rfl rfl (by decide +kernel)) (hs : ∀ x, foldedSetIterable iter X.env x = pure x := by intro _; rfl) :
    DSt X B (.Assign [.Name y py] (.ListComp elt [⟨tg, iter, ifs, 0⟩] scope pos) spos) (sAsg (dLc wi gd tt te (own.map (·.2))) (gdName i)) := by
  obtain ⟨w, pi, hw⟩ := hi.ex
  refine PS.imp (ps_setLc (tt := liftT (ev X) B tt) (te := liftE (ev X) B te) c.calm hN hy hyl hsw pi ok hg ht he hs) fun D' σ H ⟨σd, S, Dd, s, q, k⟩ => ?_
  exact lift_lc hk hw ⟨σd, S, _, s, q, fun d S1 v H1 t1 s1 r1 q1 => k.nx _ _ _ _ t1 s1 ((s.v.step t1 s.s).set r1 i) q1⟩

/-! ### the module's names -/
/-- the module's name x holds the datum d -/
def GlobD (K : Ev) (mg : Str → Option Value) (x : Str) (d : D) : Prop := ∃ u v, mg x = some u ∧ RelV v u ∧ ∀ H, Rp K H d v
theorem de_glob {x : Str} {p : Pos} {d : D} (h : GlobD (ev X) X.mg x d) (hg : Gl X x := by rfl) (hd : (x == ("__debug__" : Str)) = false := by decide) : DE X B (.Name x p) (dC d) := by
  obtain ⟨u, v, h1, h2, h3⟩ := h
  exact liftC h3 (pe_glob hg h1 h2 hd)
/-- the def at the name x, its row, its parameters -/
def DefAt (K : PySem.W.Frag) (mg : Str → Option Value) (x : Str) (st : Stmt) (ps : List Str) : Prop := ∃ f fd, Fun K x x st f fd ∧ Binds K fd ps [] ∧ mg x = some (.ref f)
end
end DL

set_option maxRecDepth 100000
/-! A def of the module, its reading its promise. -/
namespace DL
open PySem PySem.Spec PyProof.Rows L2

section
variable {P : Program} {w : World} {K : PySem.W.Frag} {mg : Str → Option Value} {base : Heap} {x : Str} {st : Stmt} {N ps : List Str} {k : Nat} {sp : SpD}
theorem fnD_at (d : DefAt K mg x st ps) (S : FnScope N ps (defScope st)) (len : ∀ ds S Q E, sp ds S Q E → ds.length = ps.length)
    (hbody : ∀ (f : Addr) (cdv : Value) (A : Around) (outer : List Env) (s : Shared) (H : Hp) (S0 : Sto) (E : XD), OkD (cxOf (CX P w) P w K mg base N x (defScope st) f cdv A outer s H (EL ⟨K, P, w⟩ mg S0 H E)) (S0, H) (fun C e _ S => E C e S) k →
      ∃ t, DSs (cxOf (CX P w) P w K mg base N x (defScope st) f cdv A outer s H (EL ⟨K, P, w⟩ mg S0 H E)) (S0, H) (defBody st) t ∧ ∀ ds Q, sp ds S0 Q E → t (endsD Q) (startD N ds) S0) : FnD P w K mg base (k + 1) x sp := by
  obtain ⟨f, fd, F, bd, gx⟩ := d
  exact fnD_of F bd S gx len fun cdv A outer s H S0 E c => hbody f cdv A outer s H S0 E c
end
/-- what a reading promises of n arguments -/
def spOf (n : Nat) (N : List Str) (r : XD → WS) : SpD := fun ds S Q E => ds.length = n ∧ r E (endsD Q) (startD N ds) S
theorem boot_f_len : bootBuiltins "len" = some (.builtin "len") := by rfl
theorem boot_f_abs : bootBuiltins "abs" = some (.builtin "abs") := by rfl
theorem boot_f_all : bootBuiltins "all" = some (.builtin "all") := by rfl
theorem boot_f_any : bootBuiltins "any" = some (.builtin "any") := by rfl
theorem boot_f_max : bootBuiltins "max" = some (.builtin "max") := by rfl
theorem boot_f_min : bootBuiltins "min" = some (.builtin "min") := by rfl
theorem boot_f_sum : bootBuiltins "sum" = some (.builtin "sum") := by rfl
theorem boot_f_sorted : bootBuiltins "sorted" = some (.builtin "sorted") := by rfl
theorem boot_ty_int : bootBuiltins "int" = some (.type "int") := by rfl
theorem boot_ty_bool : bootBuiltins "bool" = some (.type "bool") := by rfl
theorem boot_ty_list : bootBuiltins "list" = some (.type "list") := by rfl
theorem boot_ty_tuple : bootBuiltins "tuple" = some (.type "tuple") := by rfl
theorem boot_ty_str : bootBuiltins "str" = some (.type "str") := by rfl
end DL
namespace DL
/-- the wish of a body: the slots are forgotten -/
abbrev lW (E : XD) : WD := fun C e _ S => E C e S
end DL

set_option maxRecDepth 100000
/-! Dicts whose keys are tuples. -/
namespace DL
open PySem PySem.Spec PyProof.Rows L2

/-! ### keys -/
theorem rpN {K : Ev} {H : Hp} {v : V} : Rp K H .non v ↔ v = .non := by simp only [Rp]
section
variable {X : Cx} {pins : List (Addr × Obj)} {σ : L2.St} {H : Hp} {s : Shared}
mutual
theorem key_is (I : Inv X pins σ H s) : ∀ {d : D} {v : V} {u : Value} {k : NestedKey}, Rp (ev X) H d v → RelV v u → toKey d = some k → NestedIs s.heap k u
  | .non, v, u, k, r, rv, e => by
    simp only [Rp] at r
    simp only [toKey] at e
    subst r; cases e; cases rv; exact .none
  | .bl b, v, u, k, r, rv, e => by
    simp only [Rp] at r
    simp only [toKey] at e
    subst r; cases e; cases rv; exact .bool rfl
  | .int i, v, u, k, r, rv, e => by
    simp only [Rp] at r
    simp only [toKey] at e
    subst r; cases e; obtain ⟨t, rfl⟩ := rv; exact .int i t
  | .str x, v, u, k, r, rv, e => by
    simp only [Rp] at r
    simp only [toKey] at e
    subst r; cases e; obtain ⟨t, rfl⟩ := rv; exact .text x t
  | .ref a, v, u, k, r, rv, e => by simp only [toKey] at e; cases e
  | .scr ns, v, u, k, r, rv, e => by simp only [toKey] at e; cases e
  | .tup ds, v, u, k, r, rv, e => by
    simp only [Rp] at r
    simp only [toKey] at e
    obtain ⟨a, vs, rfl, hq, rs⟩ := r
    cases rv
    obtain ⟨its, ri, ⟨o, ho, hc, n, hd⟩, hz⟩ := I.tuple hq
    cases e1 : toKeys ds with
    | none => rw [e1] at e; cases e
    | some ks =>
      rw [e1] at e
      cases e
      exact .tup ho hc hd (by simpa using keys_are I rs ri e1)
theorem keys_are (I : Inv X pins σ H s) : ∀ {ds : List D} {vs : List V} {us : List Value} {ks : List NestedKey}, Rps (ev X) H ds vs → Vals vs us → toKeys ds = some ks → NestedAll s.heap ks us
  | [], vs, us, ks, r, rv, e => by
    simp only [toKeys] at e
    cases e
    rw [r.nilEq] at rv
    cases rv
    exact .nil
  | d :: ds, vs, us, ks, r, rv, e => by
    simp only [Rps] at r
    obtain ⟨v, vr, rfl, r1, r2⟩ := r
    cases rv with
    | cons h1 h2 =>
      simp only [toKeys] at e
      cases e1 : toKey d with
      | none => rw [e1] at e; cases e
      | some k =>
        cases e2 : toKeys ds with
        | none => rw [e1, e2] at e; cases e
        | some ks =>
          rw [e1, e2] at e
          cases e
          exact .cons (key_is I r1 h1 e1) (keys_are I r2 h2 e2)
end
theorem keyD_is (I : Inv X pins σ H s) {d : D} {b : Addr} {k : NestedKey} (r : Rp (ev X) H d (.ref b)) (e : keyD d = some k) : (nestedKind X.prog X.w).is s.heap k b := by
  cases d with
  | tup ds =>
    have e0 : (match toKeys ds with | some ks => if (NestedKey.tup ks).depth ≤ 8 then some (NestedKey.tup ks) else none | none => none) = some k := e
    cases e1 : toKeys ds with
    | none => rw [e1] at e0; cases e0
    | some ks =>
      rw [e1] at e0
      replace e0 : (if (NestedKey.tup ks).depth ≤ 8 then some (NestedKey.tup ks) else none) = some k := e0
      by_cases h : (NestedKey.tup ks).depth ≤ 8
      · rw [if_pos h] at e0
        cases e0
        exact ⟨key_is I r rfl (by simp only [toKey, e1]), h⟩
      · rw [if_neg h] at e0
        cases e0
  | _ => cases e
/-- the dict at a in the heap -/
theorem dn_heap (I : Inv X pins σ H s) {a : Addr} {kvs : List (D × D)} {xs : List (NestedKey × Addr × V)} (e : H a = some (dNH X.prog X.w a xs)) (r : Paired (KvR (ev X) H) kvs xs) (nd : (xs.map (·.1)).Nodup) :
    (a == sysModules) = false ∧ xs.length ≤ sizeLine ∧ ∃ us : List (NestedKey × Addr × Value), Paired (fun p q => p.1 = q.1 ∧ p.2.1 = q.2.1 ∧ RelV p.2.2 q.2.2) xs us ∧ s.heap.DictOfH (nestedKind X.prog X.w) a us := by
  obtain ⟨⟨h1, h2, o, es, ep, us, h3, h4, h5, h6, h7⟩, _⟩ := (show ObjOk X.prog X.w H s.heap a (dNH X.prog X.w a xs) from I.hok a _ e)
  have km : ∀ {xs : List (NestedKey × Addr × V)} {us : List (NestedKey × Addr × Value)}, Paired (fun p q => p.1 = q.1 ∧ p.2.1 = q.2.1 ∧ RelV p.2.2 q.2.2) xs us → xs.map (·.1) = us.map (·.1) := by
    intro xs us z
    induction z with
    | nil => rfl
    | cons h t ih => simp only [List.map_cons, ih, h.1]
  have ks : ∀ {kvs : List (D × D)} {xs : List (NestedKey × Addr × V)} {us : List (NestedKey × Addr × Value)}, Paired (KvR (ev X) H) kvs xs → Paired (fun p q => p.1 = q.1 ∧ p.2.1 = q.2.1 ∧ RelV p.2.2 q.2.2) xs us → ∀ x ∈ us, (nestedKind X.prog X.w).is s.heap x.1 x.2.1 := by
    intro kvs xs us z
    induction z generalizing us with
    | nil => intro y; cases y; intro x hx; simp at hx
    | cons h t ih =>
      intro y
      cases y with
      | cons y1 y2 =>
        intro x hx
        rcases List.mem_cons.mp hx with rfl | hx
        · rw [← y1.1, ← y1.2.1]
          exact keyD_is I h.2.1 h.1
        · exact ih y2 x hx
  exact ⟨h1, h2, us, h7, o, es, ep, h3, h4, h5, h6, ks r h7, by rw [← km h7]; exact nd⟩
theorem dnH_ok {P : Program} {w : World} {H' : Hp} {h' : Heap} {a : Addr} {xs : List (NestedKey × Addr × V)} {us : List (NestedKey × Addr × Value)} (h1 : (a == sysModules) = false) (h2 : xs.length ≤ sizeLine)
    (r : Paired (fun p q => p.1 = q.1 ∧ p.2.1 = q.2.1 ∧ RelV p.2.2 q.2.2) xs us) (d : ∃ o es ep, h'.get? a = some o ∧ o.ExactDict ∧ o.data = .dict es ep ∧ es.toList = us.map (entryOfKey (nestedKind P w))) : ObjOk P w H' h' a (dNH P w a xs) := by
  obtain ⟨o, es, ep, h3, h4, h5, h6⟩ := d
  exact ⟨⟨h1, h2, o, es, ep, us, h3, h4, h5, h6, r⟩, ⟨o, h3⟩, fun g1 g2 ⟨q1, q2, o, es, ep, us, q3, q4⟩ k => ⟨q1, q2, o, es, ep, us, k _ q3, q4⟩⟩
end

/-! ### looked up, put -/
def getN (kvs : List (D × D)) (k : NestedKey) : Option D := match kvs with
  | [] => none
  | p :: r => if keyD p.1 = some k then some p.2 else getN r k
def putN (kvs : List (D × D)) (kd : D) (k : NestedKey) (d : D) : List (D × D) := match kvs with
  | [] => [(kd, d)]
  | p :: r => if keyD p.1 = some k then (p.1, d) :: r else p :: putN r kd k d
section
variable {K : Ev} {H : Hp}
theorem atKey_nil {k : NestedKey} : atKey ([] : List (NestedKey × Addr × Value)) k = none := rfl
theorem atKey_cons {k : NestedKey} {x : NestedKey × Addr × Value} {us} : atKey (x :: us) k = if x.1 = k then some x.2 else atKey us k := by
  unfold atKey
  by_cases h : x.1 = k
  · simp [List.find?_cons, h]
  · simp [List.find?_cons, h]
abbrev UsR : NestedKey × Addr × V → NestedKey × Addr × Value → Prop := fun p q => p.1 = q.1 ∧ p.2.1 = q.2.1 ∧ RelV p.2.2 q.2.2
theorem getN_at {k : NestedKey} : ∀ {kvs : List (D × D)} {xs : List (NestedKey × Addr × V)} {us : List (NestedKey × Addr × Value)}, Paired (KvR K H) kvs xs → Paired UsR xs us →
    (getN kvs k = none ∧ atKey us k = none) ∨ ∃ d v b u, getN kvs k = some d ∧ atKey us k = some (b, u) ∧ Rp K H d v ∧ RelV v u
  | _, _, _, .nil, .nil => .inl ⟨rfl, rfl⟩
  | _, _, _, .cons (a := p) (b := q) h t, .cons (b := w) h2 t2 => by
    rw [atKey_cons]
    unfold getN
    have e : keyD p.1 = some w.1 := by rw [h.1, h2.1]
    by_cases hk : w.1 = k
    · rw [if_pos hk, if_pos (by rw [e, hk])]
      exact .inr ⟨p.2, q.2.2, w.2.1, w.2.2, rfl, rfl, h.2.2, h2.2.2⟩
    · rw [if_neg hk, if_neg (by rw [e]; intro z; exact hk (Option.some.inj z))]
      exact getN_at t t2
theorem storedH_nil {k : NestedKey} {b : Addr} {u : Value} : storedH [] k b u = [(k, b, u)] := rfl
theorem storedH_cons_hit {k : NestedKey} {b : Addr} {u : Value} {x : NestedKey × Addr × Value} {us} (h : x.1 = k) (nd : k ∉ us.map (·.1)) : storedH (x :: us) k b u = (x.1, x.2.1, u) :: us := by
  unfold storedH
  rw [atKey_cons, if_pos h]
  simp only [Option.isSome_some, if_true, List.map_cons]
  have e : us.map (putAt k u) = us := by
    conv => rhs; rw [← List.map_id us]
    refine List.map_congr_left fun y hy => ?_
    unfold putAt
    rw [if_neg]
    · rfl
    · intro z
      exact nd (List.mem_map.mpr ⟨y, hy, z⟩)
  rw [e]
  unfold putAt
  rw [if_pos h]
theorem storedH_cons_miss {k : NestedKey} {b : Addr} {u : Value} {x : NestedKey × Addr × Value} {us} (h : x.1 ≠ k) : storedH (x :: us) k b u = x :: storedH us k b u := by
  unfold storedH
  rw [atKey_cons, if_neg h]
  by_cases c : (atKey us k).isSome = true
  · rw [if_pos c, if_pos c, List.map_cons]
    unfold putAt
    rw [if_neg h]
  · rw [if_neg c, if_neg c, List.cons_append]
theorem putN_at {kd d : D} {k : NestedKey} {b : Addr} {v : V} {u : Value} (hk : keyD kd = some k) (rk : Rp K H kd (.ref b)) (rd : Rp K H d v) (ru : RelV v u) :
    ∀ {kvs : List (D × D)} {xs : List (NestedKey × Addr × V)} {us : List (NestedKey × Addr × Value)}, Paired (KvR K H) kvs xs → Paired UsR xs us → (xs.map (·.1)).Nodup →
      ∃ ys, Paired (KvR K H) (putN kvs kd k d) ys ∧ Paired UsR ys (storedH us k b u) ∧ (ys.map (·.1)).Nodup ∧ (∀ j ∈ ys.map (·.1), j = k ∨ j ∈ xs.map (·.1)) ∧ ys.length ≤ xs.length + 1
  | _, _, _, .nil, .nil, _ => ⟨[(k, b, v)], .cons ⟨hk, rk, rd⟩ .nil, .cons ⟨rfl, rfl, ru⟩ .nil, by simp, fun j hj => .inl (by simpa using hj), by simp⟩
  | _, _, _, .cons (a := p) (b := q) (l₂ := xs) h t, .cons (b := w) (l₂ := us) h2 t2, nd => by
    have e : keyD p.1 = some q.1 := h.1
    have km : ∀ {xs : List (NestedKey × Addr × V)} {us : List (NestedKey × Addr × Value)}, Paired UsR xs us → xs.map (·.1) = us.map (·.1) := by
      intro xs us z
      induction z with
      | nil => rfl
      | cons h t ih => simp only [List.map_cons, ih, h.1]
    rw [List.map_cons, List.nodup_cons] at nd
    unfold putN
    by_cases hq : q.1 = k
    · rw [if_pos (by rw [e, hq]), storedH_cons_hit (by rw [← h2.1]; exact hq) (by rw [← km t2, ← hq]; exact nd.1)]
      refine ⟨(q.1, q.2.1, v) :: xs, .cons ⟨h.1, h.2.1, rd⟩ t, .cons ⟨h2.1, h2.2.1, ru⟩ t2, ?_, fun j hj => .inr (by simpa using hj), by simp⟩
      rw [List.map_cons, List.nodup_cons]
      exact nd
    · rw [if_neg (by rw [e]; intro z; exact hq (Option.some.inj z)), storedH_cons_miss (by rw [← h2.1]; exact hq)]
      obtain ⟨ys, h3, h4, h5, h6, h7⟩ := putN_at hk rk rd ru t t2 nd.2
      refine ⟨q :: ys, .cons h h3, .cons h2 h4, ?_, fun j hj => ?_, by simp only [List.length_cons]; omega⟩
      · rw [List.map_cons, List.nodup_cons]
        refine ⟨fun z => ?_, h5⟩
        rcases h6 _ z with z | z
        · exact hq z
        · exact nd.1 z
      · rw [List.map_cons] at hj ⊢
        rcases List.mem_cons.mp hj with z | z
        · exact .inr (by rw [z]; exact List.mem_cons_self ..)
        · rcases h6 _ z with z | z
          · exact .inl z
          · exact .inr (List.mem_cons_of_mem _ z)
end

/-! ### the operations -/
def rDgetN (K : Ev) : R2 := fun x y H Q => ∃ a b kd k kvs xs d, x = .ref a ∧ y = .ref b ∧ Rp K H kd (.ref b) ∧ keyD kd = some k ∧ H a = some (dNH K.p K.w a xs) ∧ Paired (KvR K H) kvs xs ∧ (xs.map (·.1)).Nodup ∧ getN kvs k = some d ∧ (∀ u, Rp K H d u → Q u H)
def rDinN (K : Ev) (neg : Bool) : R2 := fun x y H Q => ∃ a b kd k kvs xs, y = .ref a ∧ x = .ref b ∧ Rp K H kd (.ref b) ∧ keyD kd = some k ∧ H a = some (dNH K.p K.w a xs) ∧ Paired (KvR K H) kvs xs ∧ (xs.map (·.1)).Nodup ∧
  Q (.bl (if neg then !(getN kvs k).isSome else (getN kvs k).isSome)) H
section
variable {X : Cx}
theorem nroom {A : Around} (h : A.units + 64 < cLine) : (nestedKind X.prog X.w).room A.in1 := by
  show A.units + 1 + 8 < cLine
  omega
theorem ix_dictN (hu : X.A.units + 64 < cLine) : IxR X (rDgetN (ev X)) := by
  intro value slice pins s σ H x y v u Q I rx ry h hs
  obtain ⟨a, b, kd, k, kvs, xs, d, rfl, rfl, rk, hk, e, r, nd, hg, q⟩ := h
  cases rx
  cases ry
  obtain ⟨h1, h2, us, ru, hD⟩ := dn_heap I e r nd
  have hT : s.TypeIs (.ref a) "dict" := hD.typeIs
  rcases getN_at r ru (k := k) with ⟨z, _⟩ | ⟨d', v', b', u', g1, g2, g3, g4⟩
  · rw [z] at hg; cases hg
  · rw [hg] at g1
    cases g1
    unfold subscriptTail
    refine wpAny_bind ?_
    rw [getitemInPython_of_ne hT.not_modules]
    refine wpAny_bind (wpAny_specialOf hT PySem.F.slot_dict_getitem.lookup ?_)
    have fin : wpAny (model X.prog X.w) X.A (subscripted slice false (.ref a) (.ref b)) (fun r s₃ => wpAny (model X.prog X.w) X.A (letTemporaryGo value (.ref a) r >>= fun _ => pure r) (EP X pins σ Q) X.xe s₃) X.xe s := by
      rw [hs]
      refine wpAny_operating (wpAny_getItem_heap (nroom (X := X) hu) (keyD_is I rk hk) hD g2 (wpAny_bind (wpAny_letTemporaryGo (wpAny_pure ⟨v', H, I.tok _, g4, q v' g3⟩))))
    first
      | exact wpAny_pure (wpAny_bind fin)
      | exact wpAny_bind (wpAny_pure (wpAny_bind fin))
      | exact wpAny_bind fin
theorem op_inN (hu : X.A.units + 64 < cLine) : OpR X (compareOp .In) (rDinN (ev X) false) := by
  intro pins s σ H x y v u Q I rx ry h
  obtain ⟨a, b, kd, k, kvs, xs, rfl, rfl, rk, hk, e, r, nd, q⟩ := h
  cases rx
  cases ry
  obtain ⟨h1, h2, us, ru, hD⟩ := dn_heap I e r nd
  have es : (atKey us k).isSome = (getN kvs k).isSome := by
    rcases getN_at r ru (k := k) with ⟨z, z2⟩ | ⟨d', v', b', u', g1, g2, g3, g4⟩
    · rw [z, z2]; rfl
    · rw [g1, g2]; rfl
  exact wpAny_in_heap (nroom (X := X) hu) (keyD_is I rk hk) h1 hD ⟨.bl _, H, I.tok _, rfl, by rw [es]; exact q⟩
theorem op_notInN (hu : X.A.units + 64 < cLine) : OpR X (compareOp .NotIn) (rDinN (ev X) true) := by
  intro pins s σ H x y v u Q I rx ry h
  obtain ⟨a, b, kd, k, kvs, xs, rfl, rfl, rk, hk, e, r, nd, q⟩ := h
  cases rx
  cases ry
  obtain ⟨h1, h2, us, ru, hD⟩ := dn_heap I e r nd
  have es : (atKey us k).isSome = (getN kvs k).isSome := by
    rcases getN_at r ru (k := k) with ⟨z, z2⟩ | ⟨d', v', b', u', g1, g2, g3, g4⟩
    · rw [z, z2]; rfl
    · rw [g1, g2]; rfl
  show wpAny _ _ (do return Value.bool (!(← contains (.ref a) (.ref b)))) _ _ s
  exact wpAny_bind (wpAny_contains_heap (nroom (X := X) hu) (keyD_is I rk hk) h1 hD (wpAny_pure ⟨.bl _, H, I.tok _, rfl, by rw [es]; exact q⟩))
def rDputN (K : Ev) : V → V → V → Hp → (Hp → Prop) → Prop := fun o i v H Q => ∃ a b kd k d kvs xs, o = .ref a ∧ i = .ref b ∧ Rp K H kd (.ref b) ∧ keyD kd = some k ∧ Rp K H d v ∧ H a = some (dNH K.p K.w a xs) ∧ Paired (KvR K H) kvs xs ∧ (xs.map (·.1)).Nodup ∧ kvs.length < sizeLine ∧
  ∀ ys, Paired (KvR K H) (putN kvs kd k d) ys → (ys.map (·.1)).Nodup → Q (upd H a (dNH K.p K.w a ys))
theorem set_dictN (hu : X.A.units + 64 < cLine) : PSet X (rDputN (ev X)) := by
  intro pins s σ H o i v ov iv u Q I ro ri rv h
  obtain ⟨a, b, kd, k, d, kvs, xs, rfl, rfl, rk, hk, rd, e, r, nd, hl, q⟩ := h
  cases ro
  cases ri
  obtain ⟨h1, h2, us, ru, hD⟩ := dn_heap I e r nd
  obtain ⟨ys, g1, g2, g3, _, g5⟩ := putN_at hk rk rd rv r ru nd
  have hz : us.length ≤ sizeLine := by rw [← Paired.length ru]; exact h2
  have hy : ys.length ≤ sizeLine := by
    have := Paired.length r
    omega
  refine wpAny_setItem_heap (hsz := hz) (nroom (X := X) hu) (keyD_is I rk hk) hD fun h' dd' hs => ?_
  obtain ⟨o, es, ep, q1, q2, q3, q4, _⟩ := dd'
  refine ⟨_, d_write (ob := dNH X.prog X.w a ys) I (by rw [e]; exact True.intro) hs ⟨o, q1⟩ (dnH_ok h1 hy g2 ⟨o, es, ep, q1, q2, q3, q4⟩), q ys g1 g3⟩
end
end DL

set_option maxRecDepth 100000
/-! Dicts walked: locked for good when they are walked. -/
namespace DL
open PySem PySem.Spec PyProof.Rows L2

/-- what the object o at d, a dict, holds -/
structure DEnt (d : Addr) (o : Obj) (es : Array DictEntry) (ep : Nat) (ws : List (V × V)) : Prop where
  exact : o.ExactDict
  dat : o.data = .dict es ep
  ns : (d == sysModules) = false
  sz : es.size = ws.length
  lin : ws.length ≤ sizeLine
  ent : ∀ (i : Nat) (k v : V), ws[i]? = some (k, v) → ∃ en, es[i]? = some en ∧ RelV k en.key ∧ RelV v en.val
def Fz (H : Hp) (d : Addr) (o : Obj) : Prop := ∃ u, H d = some (.frz o u)
def ItdI (d : Addr) (o : Obj) (ws : List (V × V)) : It :=
  ⟨fun i H => Fz H d o ∧ i < ws.length, fun i H x H' => ∃ T k v, ws[i]? = some (k, v) ∧ x = .ref T ∧ H T = none ∧ H' = upd H T (.tup [k, v]), fun i H => Fz H d o ∧ ws.length ≤ i⟩
def ItdK (d : Addr) (o : Obj) (ws : List (V × V)) : It :=
  ⟨fun i H => Fz H d o ∧ i < ws.length, fun i H x H' => H' = H ∧ ∃ v, ws[i]? = some (x, v), fun i H => Fz H d o ∧ ws.length ≤ i⟩
def ItdV (d : Addr) (o : Obj) (ws : List (V × V)) : It :=
  ⟨fun i H => Fz H d o ∧ i < ws.length, fun i H x H' => H' = H ∧ ∃ k, ws[i]? = some (k, x), fun i H => Fz H d o ∧ ws.length ≤ i⟩
theorem fz_raw {X : Cx} {pins : List (Addr × Obj)} {σ : L2.St} {H : Hp} {s : Shared} {d : Addr} {o : Obj} {es : Array DictEntry} {ep : Nat} {ws : List (V × V)} (I : Inv X pins σ H s) (D : DEnt d o es ep ws) (h : Fz H d o) : s.heap.DictRaw d es ep :=
  let ⟨_, e⟩ := h
  ⟨o, (I.hok d _ e).1, D.exact, D.dat⟩
section
variable {P : Program} {w : World} {K : PySem.W.Frag} {tg : Expr} {d : Addr} {o : Obj} {es : Array DictEntry} {ep : Nat} {ws : List (V × V)}
theorem DEnt.at (D : DEnt d o es ep ws) {i : Nat} (hi : i < ws.length) : ∃ k v, ws[i]? = some (k, v) ∧ ∃ h : i < es.size, RelV k es[i].key ∧ RelV v es[i].val := by
  have h : i < es.size := by rw [D.sz]; exact hi
  obtain ⟨⟨k, v⟩, e⟩ : ∃ p, ws[i]? = some p := ⟨ws[i], List.getElem?_eq_getElem hi⟩
  obtain ⟨en, e1, r1, r2⟩ := D.ent i k v e
  rw [Array.getElem?_eq_getElem h] at e1
  cases e1
  exact ⟨k, v, e, h, r1, r2⟩
theorem turn_ditems {elts : List Expr} {kk : Nat} {tpos : Pos} (it : Addr) (D : DEnt d o es ep ws) :
    Turn P w K (.Tuple elts kk tpos) (ItdI d o ws) [it] it (fun i h => ∃ ok ov, IsItemIter h it d i es.size ep ok ov) where
  mem := by simp
  obj := fun i h st b hb => by
    have e : b = it := by simpa using hb
    subst e
    obtain ⟨ok, ov, e⟩ := st
    exact ⟨_, e, fun v z => nomatch z⟩
  keep := fun i h h' st k => let ⟨ok, ov, e⟩ := st; ⟨ok, ov, k it (by simp) _ e⟩
  item := by
    intro X hP hw hK hc i pins s σ H E I hf st hg
    subst hP hw hK
    obtain ⟨hd, hi⟩ := hg
    obtain ⟨k, v, hkv, hlt, rk, rv⟩ := D.at hi
    obtain ⟨ok, ov, he⟩ := st
    have hlt2 : it < s.heap.objs.size := Heap.lt_size he
    refine wpAny_pyNext_items_item_raw he (fz_raw I D hd) hlt fun h' ho hT hz hk => ?_
    refine ⟨_, rfl, wpAny_letOwnedTupleGo_items (s := { s with heap := h' }) ho fun h'' he' sb => ?_⟩
    have hT2 : h''.get? s.heap.objs.size = some { cls := .type "tuple", data := .seq #[es[i].key, es[i].val] } := (sb.2 _ (Nat.ne_of_gt hlt2)).trans hT
    have new : ObjOk X.prog X.w (upd H s.heap.objs.size (.tup [k, v])) h'' s.heap.objs.size (.tup [k, v]) :=
      ⟨by show 2 ≤ sizeLine; decide, [es[i].key, es[i].val], .cons rk (.cons rv .nil), ⟨_, hT2, rfl, _, rfl⟩⟩
    have I1 : Inv X pins σ (upd H s.heap.objs.size (.tup [k, v])) { s with heap := h'' } :=
      I.turnedNew (t' := s.toks) (ch := [it]) (fun b ob hb e => (sb.2 b (by simpa using hb)).trans (hk b ob (by simpa using hb) e)) hf (Nat.le_refl _) new
    refine ⟨.ref s.heap.objs.size, _, I1, rfl, ⟨_, k, v, hkv, rfl, I.hok.fresh (Nat.le_refl _), rfl⟩, ⟨_, _, he'⟩, fun b hb => ?_⟩
    have e : b = it := by simpa using hb
    rw [e, upd_ne (Nat.ne_of_lt hlt2)]
    exact (hf it (by simp)).1
  done := by
    intro X hP hw hK hc i pins s σ H E I hf st hg
    subst hP hw hK
    obtain ⟨hd, hi⟩ := hg
    obtain ⟨f0, f1, f2, f3, f4, f5⟩ := hf it (by simp)
    obtain ⟨ok, ov, he⟩ := st
    exact wpAny_pyNext_items_end_raw (I.ok.hd hc) he (fz_raw I D hd) (by rw [D.sz]; exact hi) fun h' eb => ⟨rfl, I.turned (t' := s.toks) (fun b ob hb e => eb b ob hb e) f0 f1 f3 f4 f5⟩
  self := fun A i s Q E st h => let ⟨_, _, e⟩ := st; PySem.W.kcp_self e h
theorem turn_dkeys (it : Addr) (D : DEnt d o es ep ws) : Turn P w K tg (ItdK d o ws) [it] it (fun i h => h.IsKeyIter it d i es.size ep) where
  mem := by simp
  obj := fun i h st b hb => by
    have e : b = it := by simpa using hb
    subst e
    obtain ⟨oi, e, c, dd⟩ := st
    exact ⟨oi, e, fun v z => by rw [dd] at z; cases z⟩
  keep := fun i h h' st k => st.at fun oi e => k it (by simp) oi e
  item := by
    intro X hP hw hK hc i pins s σ H E I hf st hg
    subst hP hw hK
    obtain ⟨hd, hi⟩ := hg
    obtain ⟨f0, f1, f2, f3, f4, f5⟩ := hf it (by simp)
    obtain ⟨k, v, hkv, hlt, rk, rv⟩ := D.at hi
    refine wpAny_pyNext_keys_item_raw st (fz_raw I D hd) hlt fun h' st' sb => ?_
    have I1 : Inv X pins σ H { s with heap := h' } := I.turned (t' := s.toks) (fun b ob hb e => (sb.2 b hb).trans e) f0 f1 f3 f4 f5
    obtain ⟨oi, e, c, dd⟩ := id st'
    exact ⟨_, rfl, go_of (s := { s with heap := h' }) e c dd (by decide) ⟨k, H, I1, rk, ⟨rfl, v, hkv⟩, st', fun b hb => (hf b hb).1⟩⟩
  done := by
    intro X hP hw hK hc i pins s σ H E I hf st hg
    subst hP hw hK
    obtain ⟨hd, hi⟩ := hg
    obtain ⟨f0, f1, f2, f3, f4, f5⟩ := hf it (by simp)
    exact wpAny_pyNext_keys_end_raw (I.ok.hd hc) st (fz_raw I D hd) (by rw [D.sz]; exact hi) fun h' eb => ⟨rfl, I.turned (t' := s.toks) (fun b ob hb e => eb b ob hb e) f0 f1 f3 f4 f5⟩
  self := fun A i s Q E st h => by
    refine wpAny_pyIter_slot st.typeIs F.slot_dict_keyiterator_iter (wpAny_call_entry F.slot_dict_keyiterator_iter st.typeIs F.entry_dict_keyiterator_iter ?_ (F.args_dict_keyiterator_iter_1 _))
    show wpAny _ _ (ret (.ref it)) _ _ s
    exact wpAny_pure ⟨_, rfl, "dict_keyiterator", _, st.typeIs, F.slot_dict_keyiterator_next.lookup, h⟩
theorem turn_dvals (it : Addr) (D : DEnt d o es ep ws) : Turn P w K tg (ItdV d o ws) [it] it (fun i h => h.IsValIter it d i es.size ep) where
  mem := by simp
  obj := fun i h st b hb => by
    have e : b = it := by simpa using hb
    subst e
    obtain ⟨oi, e, c, dd⟩ := st
    exact ⟨oi, e, fun v z => by rw [dd] at z; cases z⟩
  keep := fun i h h' st k => st.at fun oi e => k it (by simp) oi e
  item := by
    intro X hP hw hK hc i pins s σ H E I hf st hg
    subst hP hw hK
    obtain ⟨hd, hi⟩ := hg
    obtain ⟨f0, f1, f2, f3, f4, f5⟩ := hf it (by simp)
    obtain ⟨k, v, hkv, hlt, rk, rv⟩ := D.at hi
    refine wpAny_pyNext_values_item_raw st (fz_raw I D hd) hlt fun h' st' sb => ?_
    have I1 : Inv X pins σ H { s with heap := h' } := I.turned (t' := s.toks) (fun b ob hb e => (sb.2 b hb).trans e) f0 f1 f3 f4 f5
    obtain ⟨oi, e, c, dd⟩ := id st'
    exact ⟨_, rfl, go_of (s := { s with heap := h' }) e c dd (by decide) ⟨v, H, I1, rv, ⟨rfl, k, hkv⟩, st', fun b hb => (hf b hb).1⟩⟩
  done := by
    intro X hP hw hK hc i pins s σ H E I hf st hg
    subst hP hw hK
    obtain ⟨hd, hi⟩ := hg
    obtain ⟨f0, f1, f2, f3, f4, f5⟩ := hf it (by simp)
    exact wpAny_pyNext_values_end_raw (I.ok.hd hc) st (fz_raw I D hd) (by rw [D.sz]; exact hi) fun h' eb => ⟨rfl, I.turned (t' := s.toks) (fun b ob hb e => eb b ob hb e) f0 f1 f3 f4 f5⟩
  self := fun A i s Q E st h => wpAny_pyIter_valiter st h
end

/-! ### a datum that is a dict, as pairs; it is locked -/
def kD : Key → D
  | .inl i => .int i
  | .inr x => .str x
def pairsD (S : Sto) : D → Option (Addr × List (D × D))
  | .ref a => match S a with
    | some (.dN kvs) => some (a, kvs)
    | some (.dK kvs) => some (a, kvs.map fun p => (kD p.1, p.2))
    | _ => none
  | _ => none
def sdel (S : Sto) (a : Addr) : Sto := fun b => if b = a then none else S b
theorem sdel_ne {S : Sto} {a b : Addr} (h : b ≠ a) : sdel S a b = S b := if_neg h
theorem sdel_same {S : Sto} {a : Addr} : sdel S a a = none := if_pos rfl
abbrev KwR (K : Ev) (H : Hp) (p : D × D) (q : V × V) : Prop := Rp K H p.1 q.1 ∧ Rp K H p.2 q.2
section
variable {K : Ev} {S : Sto} {H : Hp}
theorem SimS.lock (s : SimS K S H) {a : Addr} {o : Obj} {u : HO} {ob : Ob} (e : S a = some ob) : Step S H (sdel S a) (upd H a (.frz o u)) ∧ Mo K H (upd H a (.frz o u)) ∧ SimS K (sdel S a) (upd H a (.frz o u)) := by
  have t : Step S H (sdel S a) (upd H a (.frz o u)) := fun b x hb n => by
    have ne : b ≠ a := fun z => by rw [z, e] at n; cases n
    exact ⟨by rw [upd_ne ne]; exact hb, by rw [sdel_ne ne]; exact n⟩
  refine ⟨t, t.mo s, fun b x hb => ?_⟩
  by_cases h : b = a
  · rw [h, sdel_same] at hb
    cases hb
  · rw [sdel_ne h] at hb
    exact RpO.mono (upd_ne h) (t.mo s) (s b x hb)
end
section
variable {X : Cx} {pins : List (Addr × Obj)} {σ : L2.St} {H : Hp} {s : Shared} {S : Sto}
theorem rp_kD {K : Ev} {H : Hp} (k : Key) : Rp K H (kD k) (kV k) := by
  cases k with
  | inl i =>
    show Rp K H (.int i) (.int i)
    simp only [Rp]
  | inr x =>
    show Rp K H (.str x) (.str x)
    simp only [Rp]
theorem rps_pairs : ∀ {kvs : List (Key × D)} {ws : List (Key × V)}, ws.map (·.1) = kvs.map (·.1) → Rps (ev X) H (kvs.map (·.2)) (ws.map (·.2)) → Paired (KwR (ev X) H) (kvs.map fun p => (kD p.1, p.2)) (ws.map fun p => (kV p.1, p.2))
  | [], [], _, _ => .nil
  | [], _ :: _, e, _ => by simp at e
  | _ :: _, [], e, _ => by simp at e
  | p :: kvs, q :: ws, e, r => by
    simp only [List.map_cons, List.cons.injEq] at e
    simp only [List.map_cons, Rps] at r
    obtain ⟨v, vr, e2, r1, r2⟩ := r
    simp only [List.cons.injEq] at e2
    obtain ⟨rfl, rfl⟩ := e2
    refine .cons ⟨?_, r1⟩ (rps_pairs e.2 r2)
    show Rp (ev X) H (kD p.1) (kV q.1)
    rw [e.1]
    exact rp_kD p.1
theorem pairs_get {P : Program} {w : World} : ∀ {es : List DictEntry} {kvs : List (Key × Value)} {i : Nat} {k : Key} {u : Value}, Pairs (mixKind P w) es kvs → kvs[i]? = some (k, u) → ∃ en, es[i]? = some en ∧ (mixKind P w).is k en.key = true ∧ en.val = u
  | _, _, _, _, _, .nil, h => by simp at h
  | _, _, 0, _, _, .cons (e := e) h1 h2 t, h => by
    simp only [List.getElem?_cons_zero, Option.some.injEq] at h
    rw [h] at h1 h2
    exact ⟨e, rfl, h1, h2⟩
  | _, _, i + 1, _, _, .cons h1 h2 t, h => by
    obtain ⟨en, g⟩ := pairs_get (i := i) t (by simpa using h)
    exact ⟨en, by simpa using g⟩
/-- a dict locked: what it holds then -/
theorem dict_lock (I : Inv X pins σ H s) (sm : SimS (ev X) S H) {x : D} {a : Addr} {kvs : List (D × D)} (h : pairsD S x = some (a, kvs)) :
    x = .ref a ∧ ∃ (o : Obj) (u : HO) (es : Array DictEntry) (ep : Nat) (ws : List (V × V)), Inv X pins σ (upd H a (.frz o u)) s ∧ DEnt a o es ep ws ∧ Paired (KwR (ev X) H) kvs ws ∧ ∃ ob, S a = some ob := by
  cases x with
  | ref b =>
    replace h : (match S b with | some (.dN kvs) => some (b, kvs) | some (.dK kvs) => some (b, kvs.map fun p => (kD p.1, p.2)) | _ => none) = some (a, kvs) := h
    split at h
    · rename_i kvs' e
      cases h
      obtain ⟨xs, e1, r, nd⟩ := sm a _ e
      have mu : Mut (some (dNH X.prog X.w a xs)) := True.intro
      obtain ⟨o, I1⟩ := I.lock e1 mu
      obtain ⟨g1, ⟨h1, h2, o', es, ep, us, h3, h4, h5, h6, h7⟩, _⟩ := (show s.heap.get? a = some o ∧ ObjOk X.prog X.w (upd H a (.frz o (dNH X.prog X.w a xs))) s.heap a (dNH X.prog X.w a xs) from I1.hok a _ upd_same)
      rw [g1] at h3
      cases h3
      have hl : es.size = xs.length := by
        have := congrArg List.length h6
        rw [Array.length_toList, List.length_map] at this
        rw [this, Paired.length h7]
      refine ⟨rfl, o, _, es, ep, xs.map (fun y => (V.ref y.2.1, y.2.2)), I1, ⟨h4, h5, h1, by rw [hl, List.length_map], by rw [List.length_map]; exact h2, fun i k v hi => ?_⟩, ?_, _, e⟩
      · rw [List.getElem?_map] at hi
        cases hx : xs[i]? with
        | none => rw [hx] at hi; cases hi
        | some y =>
          rw [hx] at hi
          simp only [Option.map_some, Option.some.injEq, Prod.mk.injEq] at hi
          obtain ⟨z, hz, k1, k2, k3⟩ := paired_get h7 hx
          have q : es[i]? = some (entryOfKey (nestedKind X.prog X.w) z) := by
            rw [← Array.getElem?_toList, h6, List.getElem?_map, hz]
            rfl
          refine ⟨_, q, ?_, ?_⟩
          · rw [← hi.1]
            show RelV (V.ref y.2.1) (Value.ref z.2.1)
            rw [k2]
            rfl
          · rw [← hi.2]
            exact k3
      · have mk : ∀ {kvs : List (D × D)} {xs : List (NestedKey × Addr × V)}, Paired (KvR (ev X) H) kvs xs → Paired (KwR (ev X) H) kvs (xs.map fun y => (V.ref y.2.1, y.2.2)) := by
          intro kvs xs z
          induction z with
          | nil => exact .nil
          | cons q t ih => exact .cons ⟨q.2.1, q.2.2⟩ ih
        exact mk r
    · rename_i kvs' e
      cases h
      obtain ⟨ws, e1, ek, r⟩ := sm a _ e
      have mu : Mut (some (HO.dK ws)) := True.intro
      obtain ⟨o, I1⟩ := I.lock e1 mu
      obtain ⟨hs, hgd, hx, es, ep, vs, hdt, hsz, kv, hm⟩ := I1.frzK (d := a) (o := o) (kvs := ws) upd_same
      have hz : ws.length ≤ sizeLine := (dk_of I.hok e1).1
      refine ⟨rfl, o, _, es, ep, ws.map (fun y => (kV y.1, y.2)), I1, ⟨hx, hdt, hs, by rw [hsz, List.length_map], by rw [List.length_map]; exact hz, fun i k v hi => ?_⟩, rps_pairs ek r, _, e⟩
      rw [List.getElem?_map] at hi
      cases hy : ws[i]? with
      | none => rw [hy] at hi; cases hi
      | some y =>
        rw [hy] at hi
        simp only [Option.map_some, Option.some.injEq, Prod.mk.injEq] at hi
        obtain ⟨vv, hv, rr⟩ := kv_get kv hy
        obtain ⟨o2, es2, q1, q2, q3, q4, q5, q6⟩ := hm
        rw [hgd] at q1
        cases q1
        obtain ⟨hes, _⟩ := dict_ep hdt q3
        subst hes
        obtain ⟨en, g1, g2, g3⟩ := pairs_get q5 hv
        refine ⟨en, by rw [← Array.getElem?_toList]; exact g1, ?_, ?_⟩
        · rw [← hi.1]
          exact relV_key (show keyIs y.1 en.key = true from g2)
        · rw [← hi.2, g3]
          exact rr
    · cases h
  | _ => cases h
end

/-! ### the walks over data -/
def iDItems (t : WE) : WI := fun σ S R => t σ S fun x S1 => ∃ a kvs, pairsD S1 x = some (a, kvs) ∧ R (kvs.map fun p => .tup [p.1, p.2]) (fun _ => True) (sdel S1 a)
def iDKeys (t : WE) : WI := fun σ S R => t σ S fun x S1 => ∃ a kvs, pairsD S1 x = some (a, kvs) ∧ R (kvs.map fun p => p.1) (fun _ => True) (sdel S1 a)
section
variable {K : Ev} {S S' : Sto} {H H' : Hp} {d : Addr} {o : Obj} {u : HO} {ws : List (V × V)} {kvs : List (D × D)}
theorem fz_step (s : SimS K S H) (h : H d = some (.frz o u)) (t : Step S H S' H') : Fz H' d o := ⟨u, (t d _ h (s.frzNone h)).1⟩
theorem kw_get {i : Nat} {p : D × D} (r : Paired (KwR K H) kvs ws) (h : kvs[i]? = some p) : ∃ q, ws[i]? = some q ∧ Rp K H p.1 q.1 ∧ Rp K H p.2 q.2 := by
  obtain ⟨q, h1, h2, h3⟩ := paired_get r h
  exact ⟨q, h1, h2, h3⟩
theorem itok_items (s0 : SimS K S H) (h : H d = some (.frz o u)) (r : Paired (KwR K H) kvs ws) : ItOk K S H (ItdI d o ws) (kvs.map fun p => .tup [p.1, p.2]) (fun _ => True) := by
  have hl := Paired.length r
  refine ⟨fun i x S' H' hi t s g => ?_, fun S' H' t s g => ⟨fz_step s0 h t, by rw [List.length_map]; omega⟩⟩
  rw [List.getElem?_map] at hi
  cases hp : kvs[i]? with
  | none => rw [hp] at hi; cases hi
  | some p =>
    rw [hp] at hi
    cases hi
    obtain ⟨q, h1, h2, h3⟩ := kw_get r hp
    refine ⟨⟨fz_step s0 h t, (List.getElem?_eq_some_iff.mp h1).1⟩, fun y H'' z => ?_⟩
    obtain ⟨T, k, v, g1, rfl, g3, rfl⟩ := z
    rw [h1] at g1
    cases g1
    refine ⟨Step.fresh s g3, s.fresh g3, ?_⟩
    have m := (Step.fresh (o := .tup [k, v]) s g3)
    simp only [Rp]
    exact ⟨T, [k, v], rfl, SqT.of upd_same, ((Rps.nil.cons (m.rp s (t.rp s0 h3))).cons (m.rp s (t.rp s0 h2)))⟩
theorem itok_keys (s0 : SimS K S H) (h : H d = some (.frz o u)) (r : Paired (KwR K H) kvs ws) : ItOk K S H (ItdK d o ws) (kvs.map fun p => p.1) (fun _ => True) := by
  have hl := Paired.length r
  refine ⟨fun i x S' H' hi t s g => ?_, fun S' H' t s g => ⟨fz_step s0 h t, by rw [List.length_map]; omega⟩⟩
  rw [List.getElem?_map] at hi
  cases hp : kvs[i]? with
  | none => rw [hp] at hi; cases hi
  | some p =>
    rw [hp] at hi
    cases hi
    obtain ⟨q, h1, h2, h3⟩ := kw_get r hp
    refine ⟨⟨fz_step s0 h t, (List.getElem?_eq_some_iff.mp h1).1⟩, fun y H'' z => ?_⟩
    obtain ⟨rfl, v, g1⟩ := z
    rw [h1] at g1
    cases g1
    exact ⟨Step.refl _ _, s, t.rp s0 h2⟩
theorem KwR.mono (m : Mo K H H') (r : Paired (KwR K H) kvs ws) : Paired (KwR K H') kvs ws := Paired.mapP r fun _ _ z => ⟨z.1.mono m, z.2.mono m⟩
end
section
variable {X : Cx} {B : Sto × Hp} {pos : Pos} {e : Expr} {te : WE}
/-- a walk's reading from the data's side alone -/
def tiL (X : Cx) (B : Sto × Hp) (wi : WI) : TI := fun σ H R => ∃ σd S Rd, Sim (ev X) B σd S σ H ∧ wi σd S Rd ∧ ∀ J its G S' H', Step S H S' H' → SimS (ev X) S' H' → ItOk (ev X) S' H' J its G → Rd its G S' → R J H'
theorem di_of {tg iter : Expr} {wi : WI} (h : PI X tg iter (tiL X B wi)) : DI X B tg iter wi := ⟨_, h, fun σd S σ H R R' sm q k => ⟨σd, S, R, sm, q, k⟩⟩
theorem noDict_of {h : Heap} {d : Addr} {es : Array DictEntry} {ep : Nat} (x : h.DictRaw d es ep) : ∀ b, Value.ref d = .ref b → ∃ ob, h.get? b = some ob ∧ ob.dict = none := fun b e => by
  injection e with e
  subst e
  exact let ⟨o, ho, hc, _⟩ := x; ⟨o, ho, hc.2.1⟩
theorem raw_push {h : Heap} {d : Addr} {es : Array DictEntry} {ep : Nat} (x : h.DictRaw d es ep) (o : Obj) : (h.push o).DictRaw d es ep := x.at fun o e => Heap.get?_push_of_some _ e
theorem di_items {elts : List Expr} {kk : Nat} {tpos apos cpos : Pos} (he : DE X B e te) (hbase : attributeBase e "items" X.env (eval e X.env) = eval e X.env := by rfl) (hline : (apos.endLine == cpos.line) = true := by rfl) :
    DI X B (.Tuple elts kk tpos) (.Call (.Attribute e "items" apos) [] [] cpos) (iDItems te) := by
  refine di_of ⟨fun pins s σ H R I ⟨σd, S, Rd, sm, q, k⟩ => ?_⟩
  refine wpAny_Call_method (T := "dict") (id := "dict.items") hbase rfl hline F.plainAttrs_dict F.slot_dict_items F.type_dict_items (thn (he.run pins s σ H (QL (ev X) S H _) I ⟨σd, S, _, sm, q, fun x S1 v H1 t1 s1 r1 q1 => ⟨x, S1, t1, s1, r1, q1⟩⟩) fun u s1 ⟨v, H1, I1, rv, x, S1, t1, sm1, r1, q1⟩ => ?_)
  obtain ⟨d, kvs, hp, q1⟩ := q1
  · skip
    obtain ⟨rfl, o, u', es, ep, ws, J1, D, kw, ob, eo⟩ := dict_lock I1 sm1 hp
    obtain rfl := r1.ref
    obtain rfl : u = Value.ref d := rv
    obtain ⟨t2, m2, sm2⟩ := sm1.lock (o := o) (u := u') eo
    have fz : Fz (upd H1 d (.frz o u')) d o := ⟨u', upd_same⟩
    have hm := fz_raw J1 D fz
    refine ⟨hm.typeIs, noDict_of hm, ?_⟩
    have I2 : Inv X pins σ (upd H1 d (.frz o u')) { s1 with heap := s1.heap.push { cls := .type "dict_items", data := .fields #[.ref d] } } := J1.kept (t' := s1.toks) fun b ob q => Heap.get?_push_of_some _ q
    have fin : wpAny (model X.prog X.w) X.A (pyIter (.ref s1.heap.objs.size)) (PIE X pins σ (.Tuple elts kk tpos) R) X.xe { s1 with heap := s1.heap.push { cls := .type "dict_items", data := .fields #[.ref d] } } :=
      wpAny_pyIter_items_raw (d := d) ⟨_, Heap.get?_push_size _ rfl, rfl, rfl⟩ (raw_push hm _) (pi_one (tk := s1.toks) I2 _ (turn_ditems _ D) ⟨.none, .none, Heap.get?_push_size _ rfl⟩
        (k _ _ _ _ _ (t1.trans t2) sm2 (itok_items sm2 upd_same (KwR.mono m2 kw)) q1))
    show wpAny _ _ (callWith cpos (.builtin "dict.items") [.ref d] [] []) _ X.xe s1
    exact method_meetsIn F.slot_dict_items F.entry_dict_items rfl (PySem.evalArgs_none ⟨rfl, hm.typeIs, F.args_dict_items_1 _, _, meets_dict_items_raw d D.ns, ⟨es, ep, hm⟩, fin⟩)
theorem di_keys {tg : Expr} (he : DE X B e te) : DI X B tg e (iDKeys te) := by
  refine di_of ⟨fun pins s σ H R I ⟨σd, S, Rd, sm, q, k⟩ => ?_⟩
  refine thn (he.run pins s σ H (QL (ev X) S H _) I ⟨σd, S, _, sm, q, fun x S1 v H1 t1 s1 r1 q1 => ⟨x, S1, t1, s1, r1, q1⟩⟩) fun u s1 ⟨v, H1, I1, rv, x, S1, t1, sm1, r1, q1⟩ => ?_
  obtain ⟨d, kvs, hp, q1⟩ := q1
  · skip
    obtain ⟨rfl, o, u', es, ep, ws, J1, D, kw, ob, eo⟩ := dict_lock I1 sm1 hp
    obtain rfl := r1.ref
    obtain rfl : u = Value.ref d := rv
    obtain ⟨t2, m2, sm2⟩ := sm1.lock (o := o) (u := u') eo
    have fz : Fz (upd H1 d (.frz o u')) d o := ⟨u', upd_same⟩
    have hm := fz_raw J1 D fz
    exact wpAny_pyIter_dict_raw D.ns hm (pi_one (tk := s1.toks) J1 _ (turn_dkeys _ D) ⟨_, Heap.get?_push_size _ rfl, rfl, rfl⟩ (k _ _ _ _ _ (t1.trans t2) sm2 (itok_keys sm2 upd_same (KwR.mono m2 kw)) q1))
end
end DL

set_option maxRecDepth 100000
/-! sorted of data; list(d.values()). -/
namespace DL
open PySem PySem.Spec PySem.W PySem.Calls PyProof.Rows L2

/-- a builtin's reading from the data's side alone -/
def rOfD (K : Ev) (rd : RB) : List V → Hp → VK → Prop := fun vs H Q => ∃ ds S Qd, SimS K S H ∧ Rps K H ds vs ∧ rd ds S Qd ∧ ∀ d S' w H', Step S H S' H' → SimS K S' H' → Rp K H' d w → Qd d S' → Q w H'
theorem bd_ofD {K : Ev} {rd : RB} : BD K (rOfD K rd) rd := fun ds vs S H Q Q' s r q k => ⟨ds, S, Q, s, r, q, k⟩

theorem keyLt'_gen (x y : Value) : PyProof.Rows.keyLt' PyProof.Rows.general' x y = PyProof.Rows.oneLt' false x y := rfl
/-- one value, or none, can be sorted -/
theorem sortsAt_one {prog : Program} {w : World} {A : Around} {s : Shared} {vs : List Value} {ds : List PyData} (e : EachIs (fun v d => ∃ as, Reads s.heap v d as) vs ds) (hal : AllAlike ds) (hl : vs.length ≤ 1) (hn : ∀ d ∈ ds, d ≠ .none) (hu : ∀ d, d ∈ ds → A.units + d.depth < cLine) :
    SortsAt prog w A s (dataKind s.heap ds) vs := by
  refine ⟨fun v hv => ?_, PyProof.Rows.general', ?_, fun h2 => absurd h2 (by omega)⟩
  · obtain ⟨d, hd, as, r⟩ := e.left v hv
    exact ⟨_, dataKind_some hal hd r⟩
  · intro E x y a b Q ha hb hq
    obtain ⟨d, as, hd, ra, rfl⟩ := dataKind_inv ha
    obtain ⟨d', as', hd', rb, rfl⟩ := dataKind_inv hb
    rw [keyLt'_gen]
    exact oneLt_alike (fun z => nomatch z) ra rb (hal d hd d' hd') (hn d hd) (Nat.lt_of_le_of_lt (Nat.add_le_add_left (Nat.min_le_left _ _) _) (hu d hd)) hq
def sortOk (ps : List PyData) : Prop := AllAlike ps ∧ (Sortable ps ∨ (ps.length ≤ 1 ∧ ∀ d ∈ ps, d ≠ .none))
def encD (S : Sto) (d : D) : PyData := (pd S 20 d).getD .none
def sortD (S : Sto) (ds : List D) : List D := ds.mergeSort (dataLe false (encD S))
/-- the items of what is sorted -/
def sItems (S : Sto) (x : D) : Option (List D) := match pairsD S x with
  | some (_, kvs) => some (kvs.map fun p => p.1)
  | none => match x with
    | .ref a => match S a with
      | some (.lst ds) => some ds
      | _ => none
    | .tup ds => some ds
    | _ => none
abbrev rdSortA : RB := fun ds S Q => match ds with
  | [x] => ∃ es, sItems S x = some es ∧ (∀ e ∈ es, (pd S 20 e).isSome = true) ∧ sortOk (es.map (encD S)) ∧ ∀ p, S p = none → Q (.ref p) (sput S p (.lst (sortD S es)))
  | _ => False
section
variable {X : Cx} {pins : List (Addr × Obj)} {σ : L2.St} {H : Hp} {s : Shared} {S : Sto}
theorem each_of {H : Hp} : ∀ {ds : List D} {vs : List V} {us : List Value}, Rps (ev X) H ds vs → Vals vs us → EachIs (fun u d => ∃ v, RelV v u ∧ Rp (ev X) H d v) us ds
  | [], _, _, r, rv => by
    rw [r.nilEq] at rv
    cases rv
    exact .nil
  | d :: ds, _, _, r, rv => by
    simp only [Rps] at r
    obtain ⟨v, vr, rfl, r1, r2⟩ := r
    cases rv with
    | cons h1 h2 => exact .cons ⟨v, h1, r1⟩ (each_of r2 h2)
theorem of_each {H : Hp} : ∀ {ds : List D} {us : List Value}, EachIs (fun u d => ∃ v, RelV v u ∧ Rp (ev X) H d v) us ds → ∃ vs, Rps (ev X) H ds vs ∧ Vals vs us
  | _, _, .nil => ⟨[], Rps.nil, .nil⟩
  | _, _, .cons ⟨v, h1, h2⟩ t => by
    obtain ⟨vs, r1, r2⟩ := of_each t
    exact ⟨v :: vs, r1.cons h2, .cons h1 r2⟩
theorem each_reads (I : Inv X pins σ H s) (sm : SimS (ev X) S H) : ∀ {ds : List D} {us : List Value}, EachIs (fun u d => ∃ v, RelV v u ∧ Rp (ev X) H d v) us ds → (∀ e ∈ ds, (pd S 20 e).isSome = true) → EachIs (fun u d => ∃ as, Reads s.heap u (encD S d) as) us ds
  | _, _, .nil, _ => .nil
  | _, _, .cons (b := d) ⟨v, h1, h2⟩ t, hp => by
    refine .cons ?_ (each_reads I sm t fun e he => hp e (List.mem_cons_of_mem _ he))
    obtain ⟨p, e⟩ := Option.isSome_iff_exists.mp (hp d (List.mem_cons_self ..))
    obtain ⟨as, r⟩ := Dp.reads I p v _ (pd_dp sm _ _ _ _ h2 e) h1
    refine ⟨as, ?_⟩
    unfold encD
    rw [e]
    exact r
theorem enc_depth (e : D) (h : (pd S 20 e).isSome = true) : (encD S e).depth ≤ 20 := by
  obtain ⟨p, q⟩ := Option.isSome_iff_exists.mp h
  unfold encD
  rw [q]
  exact (pd_lay 20 e p q).2
/-- a new list stands, nothing else has changed -/
theorem new_list (I : Inv X pins σ H s) (sm : SimS (ev X) S H) {h' : Heap} {tk : Nat} {p : Addr} {ds : List D} {us : List Value} {c : Nat} (hp : s.heap.objs.size ≤ p) (k : ∀ b o, s.heap.get? b = some o → h'.get? b = some o)
    (ho : h'.get? p = some { cls := .type "list", data := .seq us.toArray c }) (e : EachIs (fun u d => ∃ v, RelV v u ∧ Rp (ev X) H d v) us ds) (hl : ds.length ≤ sizeLine) {Qd : DK} {Q : VK} (q : ∀ p, S p = none → Qd (.ref p) (sput S p (.lst ds)))
    (kk : ∀ d S' w H', Step S H S' H' → SimS (ev X) S' H' → Rp (ev X) H' d w → Qd d S' → Q w H') : EP X pins σ Q (.ref p) { s with heap := h', toks := tk } := by
  obtain ⟨vs, r1, r2⟩ := of_each e
  have hn := I.hok.fresh hp
  have I1 : Inv X pins σ (upd H p (.lst vs)) { s with heap := h', toks := tk } := I.laid k hp ⟨by rw [← r1.length]; exact hl, us, c, r2, ho⟩
  exact ⟨.ref p, _, I1, rfl, kk _ _ _ _ (Step.new (u := .lst ds) sm hn) (sm.newL hn fun H' m => r1.mono m) (by simp only [Rp]) (q p (sm.off hn))⟩
theorem sItems_cases {x : D} {es : List D} (h : sItems S x = some es) : (∃ a kvs, pairsD S x = some (a, kvs) ∧ es = kvs.map fun p => p.1) ∨ (∃ a, x = .ref a ∧ S a = some (.lst es)) ∨ x = .tup es := by
  unfold sItems at h
  split at h
  · rename_i kvs e
    cases h
    exact .inl ⟨_, kvs, e, rfl⟩
  · split at h
    · rename_i a _
      split at h
      · rename_i ds e
        cases h
        exact .inr (.inl ⟨a, rfl, e⟩)
      · cases h
    · cases h
      exact .inr (.inr rfl)
    · cases h
/-- the new list sorted in its place -/
theorem sort_at {A : Around} {E : Value → Shared → Prop} {l : Addr} {its : List Value} {es : List D} {n : Nat} {Q : Value → Shared → Prop} (hu : A.units + 40 < cLine) (hl : s.heap.get? l = some (seqObj "list" its.toArray n)) (hL : es.length ≤ sizeLine)
    (e1 : EachIs (fun u d => ∃ v, RelV v u ∧ Rp (ev X) H d v) its es) (e2 : EachIs (fun u d => ∃ as, Reads s.heap u (encD S d) as ∧ l ∉ as) its es) (h1 : ∀ e ∈ es, (pd S 20 e).isSome = true) (h2 : sortOk (es.map (encD S)))
    (hq : ∀ out c h', h'.get? l = some (seqObj "list" (List.toArray out) c) → (∀ b o, b ≠ l → s.heap.get? b = some o → h'.get? b = some o) → EachIs (fun u d => ∃ v, RelV v u ∧ Rp (ev X) H d v) out (sortD S es) → Q .none { s with heap := h' }) :
    wpAny (model X.prog X.w) A (call (.builtin "list.sort") [.ref l]) Q E s := by
  have old : ∀ out b o, b ≠ l → s.heap.get? b = some o → (sortedHeap s.heap l its (List.toArray out)).get? b = some o := fun out b o hb e => by rw [sortedHeap_old hb (Heap.lt_size e)]; exact e
  obtain ⟨ha, hk | ⟨h3, h4⟩⟩ := h2
  · refine list_sort_data (bs := es) (enc := encD S) hl e1 e2 ha hk hL (fun b hb => by have := enc_depth (S := S) b (h1 b hb); omega) fun out ho eo => ?_
    obtain ⟨c, hc'⟩ := sortedHeap_at (out := List.toArray out) hl
    exact hq out c _ hc' (old out) eo
  · have er' : EachIs (fun v b => ∃ as, Reads (sortingHeap s.heap l its) v (encD S b) as) its es := each_keepBut (h' := sortingHeap s.heap l its) (fun _ _ hb q => sortingHeap_old hb q) (fun o q => by rw [hl] at q; rw [← Option.some.inj q]) ha e2
    have e3 := each_map (R := fun v d => ∃ as, Reads (sortingHeap s.heap l its) v d as) (encD S) er'
    have hlen : its.length = es.length := e1.length
    have so : SortsAt X.prog X.w A.in1 { s with heap := sortingHeap s.heap l its } (dataKind (sortingHeap s.heap l its) (es.map (encD S))) its :=
      sortsAt_one (s := { s with heap := sortingHeap s.heap l its }) e3 ha (by rw [hlen]; simpa using h3) h4 fun d hd => by
        obtain ⟨b, hb, rfl⟩ := List.mem_map.mp hd
        have := enc_depth (S := S) b (h1 b hb)
        show A.units + 1 + _ < _
        omega
    refine wpAny_call_entry slot_list_sort ⟨_, hl, rfl⟩ entry_list_sort (list_sort_vals hl so (by rw [hlen]; exact hL) ⟨.none, rfl, ?_⟩) (args_list_sort _)
    obtain ⟨c, hc'⟩ := sortedHeap_at (out := List.toArray (sortVals (dataKind (sortingHeap s.heap l its) (es.map (encD S))) false its its)) hl
    exact hq _ c _ hc' (old _) (sortVals_data false e1 er' ha)
/-- the raw dict as a source of its keys, its values -/
theorem src_keys {P : Program} {w : World} {d : Addr} {es : Array DictEntry} {ep : Nat} (lo : (d == sysModules) = false) : KdlSrc P w "dict" d d es.size (fun i v => ∃ hi : i < es.size, v = es[i].key) (fun h => h.DictRaw d es ep) where
  type := fun _ hm => hm.typeIs
  there := fun _ hm => let ⟨_, e, _⟩ := hm; ⟨Heap.lt_size e, Heap.lt_size e⟩
  keep := fun _ _ hm hk => hm.at fun o e => hk d (.inl rfl) o e
  notList := by decide
  notTuple := by decide
  hint := fun _ _ _ _ hm hq => kdl_hint_dict hm.typeIs hq
  iter := fun _ _ hh hm => ⟨_, _, (fun _ _ hq => wpAny_pyIter_dict_raw lo hm hq), Walks.rawKeys hh _ d (let ⟨_, e, _⟩ := hm; Nat.ne_of_lt (Heap.lt_size e)) es ep, ⟨⟨_, Heap.get?_push_size _ rfl, rfl, rfl⟩, raw_push hm _⟩⟩
theorem src_vals {P : Program} {w : World} {r d : Addr} {es : Array DictEntry} {ep : Nat} : KdlSrc P w "dict_values" r d es.size (fun i v => ∃ hi : i < es.size, v = es[i].val) (fun h => h.IsValuesView r d ∧ h.DictRaw d es ep) where
  type := fun _ hm => hm.1.typeIs
  there := fun _ hm => ⟨let ⟨_, ho, _⟩ := hm.1; Heap.lt_size ho, let ⟨_, e, _⟩ := hm.2; Heap.lt_size e⟩
  keep := fun _ _ hm hk => ⟨let ⟨o, ho, x⟩ := hm.1; ⟨o, hk r (.inl rfl) o ho, x⟩, hm.2.at fun o e => hk d (.inr rfl) o e⟩
  notList := by decide
  notTuple := by decide
  hint := fun _ _ _ _ hm hq => kdl_hint_values hm.1.typeIs hq
  iter := fun _ _ hh hm => ⟨_, _, (fun _ _ hq => wpAny_pyIter_values_raw hm.1 hm.2 hq), Walks.rawValues hh _ d (let ⟨_, e, _⟩ := hm.2; Nat.ne_of_lt (Heap.lt_size e)) es ep, ⟨⟨_, Heap.get?_push_size _ rfl, rfl, rfl⟩, raw_push hm.2 _⟩⟩
theorem collect_src {prog : Program} {w : World} {A : Around} {E : Value → Shared → Prop} {T : String} {r d : Addr} {n : Nat} {P : Nat → Value → Prop} {OK : Heap → Prop} {R : List Value → Shared → Prop} (K : KdlSrc prog w T r d n P OK) (hh : A.handled = none) (hok : OK s.heap) (hn : n ≤ sizeLine)
    (h : ∀ (h' : Heap) (tk : Nat) (acc : Array Value), (∀ b o, s.heap.get? b = some o → h'.get? b = some o) → s.heap.objs.size < h'.objs.size → ItemsOf P acc n → R acc.toList { s with heap := h', toks := tk }) :
    wpAny (model prog w) A (collect (.ref r)) R E s := by
  obtain ⟨hr, hd⟩ := K.there _ hok
  unfold collect
  refine wpAny_bind (wpAny_runValue (codeAny_builtin entry_proto_collect' ?_))
  rw [Around.under_plainId PySem.F.plain_proto_collect _]
  show wpAny _ A.in1 (newList [] >>= fun l => again (.builtin "list.__iadd__" ⟨[l, .ref r], []⟩)) _ _ s
  refine wpAny_bind (wpAny_newObj_type ?_)
  refine wpAny_pure ⟨plainId_quiet PySem.F.plain_list_iadd _, codeAny_builtin entry_list_iadd' ?_⟩
  rw [Around.under_plainId PySem.F.plain_list_iadd _]
  have hS₁ : (s.heap.push { cls := .type "list", data := .seq ([] : List Value).toArray }).get? s.heap.objs.size = some { cls := .type "list", data := .seq #[] } := Heap.get?_push_size _ rfl
  show wpAny _ A.in1 (Builtin.List.listExtendWith (.ref s.heap.objs.size) (.ref r) (.ref s.heap.objs.size)) _ _ _
  have key := kdl_extend (prog := prog) (w := w) (A := A) (s := { s with heap := s.heap.push { cls := .type "list", data := .seq ([] : List Value).toArray } }) K hh (K.keep _ _ hok fun b _ o e => Heap.get?_push_of_some _ e)
    s.heap.objs.size (Nat.ne_of_gt hr) (Nat.ne_of_gt hd) (.ref s.heap.objs.size) 0 hS₁
    (R := fun (q : Result) (s' : Shared) => ∃ (h' : Heap) (tk : Nat) (acc' : Array Value) (c' : Nat), q = .ok (.ret (.ref s.heap.objs.size)) ∧ s' = { s with heap := h', toks := tk } ∧
      (∀ b o, s.heap.get? b = some o → h'.get? b = some o) ∧ h'.get? s.heap.objs.size = some { cls := .type "list", dict := none, data := .seq acc' c', slots := #[] } ∧ ItemsOf P acc' n)
    (fun h' tk acc' c' hk hS' hacc => ⟨h', tk, acc', c', rfl, rfl, fun b o e => hk b o (Nat.ne_of_lt (Heap.lt_size e)) (Heap.get?_push_of_some _ e), hS', hacc⟩) hn
  refine wpAny_mono key (fun fin s' x => ?_) fun e s' x => ?_
  · cases fin with
    | done f =>
      obtain ⟨h', tk, acc', c', e, rfl, hk, hS', hacc⟩ := x
      cases e
      show wpAny _ A (load s.heap.objs.size >>= _) _ _ _
      refine wpAny_bind (wpAny_load hS' ?_)
      refine wpAny_pure ?_
      exact h h' tk acc' hk (Heap.lt_size hS') hacc
    | again c₁ =>
      refine ⟨x.1, codeAny_mono x.2 fun q s₂ y => ?_⟩
      obtain ⟨h', tk, acc', c', rfl, rfl, hk, hS', hacc⟩ := y
      show wpAny _ A (load s.heap.objs.size >>= _) _ _ _
      refine wpAny_bind (wpAny_load hS' ?_)
      refine wpAny_pure ?_
      exact h h' tk acc' hk (Heap.lt_size hS') hacc
  · obtain ⟨_, _, _, _, e', _⟩ := x
    cases e'
/-- what a source has given, as data -/
theorem src_each {P : Nat → Value → Prop} {acc : Array Value} : ∀ {ds : List D} {vs : List V}, Rps (ev X) H ds vs → acc.toList.length = ds.length → (∀ (i : Nat) v u, vs[i]? = some v → acc.toList[i]? = some u → RelV v u) → EachIs (fun u d => ∃ v, RelV v u ∧ Rp (ev X) H d v) acc.toList ds := by
  generalize acc.toList = us
  intro ds
  induction ds generalizing us with
  | nil =>
    intro vs r hl _
    rw [List.length_eq_zero_iff.mp hl]
    exact .nil
  | cons d ds ih =>
    intro vs r hl hv
    simp only [Rps] at r
    obtain ⟨v, vr, rfl, r1, r2⟩ := r
    cases us with
    | nil => simp at hl
    | cons u us => exact .cons ⟨v, hv 0 v u rfl rfl, r1⟩ (ih us r2 (by simpa using hl) fun i v u h1 h2 => hv (i + 1) v u (by simpa using h1) (by simpa using h2))
theorem kw_fst : ∀ {kvs : List (D × D)} {ws : List (V × V)}, Paired (KwR (ev X) H) kvs ws → Rps (ev X) H (kvs.map fun p => p.1) (ws.map fun p => p.1)
  | _, _, .nil => Rps.nil
  | _, _, .cons h t => (kw_fst t).cons h.1
theorem kw_snd : ∀ {kvs : List (D × D)} {ws : List (V × V)}, Paired (KwR (ev X) H) kvs ws → Rps (ev X) H (kvs.map fun p => p.2) (ws.map fun p => p.2)
  | _, _, .nil => Rps.nil
  | _, _, .cons h t => (kw_snd t).cons h.2
theorem raw_of (I : Inv X pins σ H s) {d : Addr} {o : Obj} {u : HO} {es : Array DictEntry} {ep : Nat} {ws : List (V × V)} (J : Inv X pins σ (upd H d (.frz o u)) s) (D : DEnt d o es ep ws) : s.heap.DictRaw d es ep := fz_raw J D ⟨u, upd_same⟩
theorem cr_sortA (hc : X.calm = true) (hu : X.A.units + 64 < cLine) : CallR X (.builtin "sorted") (rOfD (ev X) rdSortA) := by
  intro pins s σ H vs us Q I rv h
  obtain ⟨ds, S, Qd, sm, rd, q, kk⟩ := h
  match ds, q, rd with
  | [], q, _ => exact q.elim
  | x :: _ :: _, q, _ => exact q.elim
  | [x], q, rd =>
    obtain ⟨v, rfl, r1⟩ := rd.one
    obtain ⟨u, rfl, ru⟩ := vals1 rv
    obtain ⟨es, hs, h1, h2, q⟩ := q
    · skip
      rcases sItems_cases hs with ⟨a, kvs, hp, rfl⟩ | ⟨a, rfl, eo⟩ | rfl
      · obtain ⟨rfl, o, u', ens, ep, ws, J, D, kw, ob, eo⟩ := dict_lock I sm hp
        obtain rfl := r1.ref
        obtain rfl : u = Value.ref a := ru
        have raw := raw_of I J D
        have hn : ens.size ≤ sizeLine := by rw [D.sz]; exact D.lin
        refine call_function_entry kind_sorted plain_sorted entry_sorted (args_sorted1 _) ?_
        unfold Builtin.«sorted»
        refine wpAny_bind (m := checkCount "sorted" 1 1 _) (wpAny_pure ?_)
        refine wpAny_bind (collect_src (A := X.A.in1) (src_keys D.ns) (I.ok.hd hc) raw hn fun h' tk acc hk hlt hacc => ?_)
        have hal : acc.toList.length = (kvs.map fun p => p.1).length := by
          rw [Array.length_toList, hacc.1, D.sz, List.length_map, Paired.length kw]
        have e1 : EachIs (fun u d => ∃ v, RelV v u ∧ Rp (ev X) H d v) acc.toList (kvs.map fun p => p.1) := src_each (P := fun _ _ => True) (kw_fst kw) hal fun i v u hv hu' => by
          rw [List.getElem?_map] at hv
          cases hw : ws[i]? with
          | none => rw [hw] at hv; cases hv
          | some wp =>
            rw [hw] at hv
            cases hv
            obtain ⟨en, g1, g2, g3⟩ := D.ent i wp.1 wp.2 hw
            obtain ⟨hi, e⟩ := hacc.2 i u (by rw [← Array.getElem?_toList]; exact hu')
            rw [Array.getElem?_eq_getElem hi] at g1
            cases g1
            rw [e]
            exact g2
        refine wpAny_bind (wpAny_newList ?_ (by rw [hal, List.length_map, Paired.length kw]; exact D.lin))
        have I1 : Inv X pins σ H { s with heap := h', toks := tk } := I.kept hk
        have hold : ∀ b o, h'.get? b = some o → (h'.push (seqObj "list" acc.toList.toArray 0)).get? b = some o := fun b o e => Heap.get?_push_of_some _ e
        have I2 : Inv X pins σ H { s with heap := h'.push (seqObj "list" acc.toList.toArray 0), toks := tk } := I1.kept (t' := tk) hold
        have e2 := each_reads I1 sm e1 h1
        refine wpAny_bind (wpAny_holding (wpAny_mono (sort_at (X := X) (H := H) (S := S) (A := X.A.in1) (s := { s with heap := h'.push (seqObj "list" acc.toList.toArray 0), toks := tk }) (l := h'.objs.size) (its := acc.toList)
          (Q := fun w s' => w = Value.none ∧ EP X pins σ Q (.ref h'.objs.size) s') (by show X.A.units + 1 + 40 < _; omega) (Heap.get?_push_size _ rfl) (by rw [List.length_map, Paired.length kw]; exact D.lin) e1
          (e2.mono fun u d ⟨as, r⟩ => ⟨as, PyProof.Rows.Reads.keeps hold r, fun z => by
            obtain ⟨o, g⟩ := PyProof.On.reads_mem_get r _ z
            exact absurd (Heap.lt_size g) (Nat.lt_irrefl _)⟩) h1 h2 fun out c h'' hl hk2 eo => ⟨rfl, ?_⟩) (fun w s' x => ?_) fun _ _ e => e))
        · refine new_list I sm (p := h'.objs.size) (Nat.le_of_lt hlt) (fun b o e => ?_) (tk := tk) hl eo (by rw [sortD, List.length_mergeSort, List.length_map, Paired.length kw]; exact D.lin) q kk
          have g := hk b o e
          exact hk2 b o (Nat.ne_of_lt (Heap.lt_size g)) (hold b o g)
        · obtain ⟨rfl, x⟩ := x
          exact wpAny_pure ⟨_, rfl, x⟩
      · obtain rfl := r1.ref
        obtain rfl : u = Value.ref a := ru
        obtain ⟨ws, hq, rs⟩ := sm a _ eo
        obtain ⟨its, ri, pl, hz⟩ := I.list (SqL.of hq)
        have e1 := each_of rs ri
        have e2 := each_reads I sm e1 h1
        have hL : es.length ≤ sizeLine := by rw [rs.length]; exact hz
        have fin : ∀ out : List Value, EachIs (fun u d => ∃ v, RelV v u ∧ Rp (ev X) H d v) out (sortD S es) → EP X pins σ Q (.ref (s.heap.objs.size + 1)) { s with heap := sortedAll s.heap its out.toArray } := fun out eo => by
          obtain ⟨c, hc'⟩ := sortedAll_at s.heap its out.toArray
          exact new_list I sm (Nat.le_succ _) (fun _ _ => sortedAll_old) (tk := s.toks) hc' eo (by rw [sortD, List.length_mergeSort]; exact hL) q kk
        obtain ⟨ha, h3 | ⟨h3, h4⟩⟩ := h2
        · exact sorted_data (bs := es) (enc := encD S) pl.isList e1 e2 ha h3 hL (fun b hb => by have := enc_depth (S := S) b (h1 b hb); omega) fun out _ eo => fin out eo
        · have er' : EachIs (fun v b => ∃ as, Reads (sortingHeap (copyHeap s.heap its) (s.heap.objs.size + 1) its) v (encD S b) as) its es := e2.mono fun _ _ ⟨as, r⟩ => ⟨as, PyProof.Rows.Reads.keeps (fun _ _ => sorting_copy_old) r⟩
          have e3 := each_map (R := fun v d => ∃ as, Reads (sortingHeap (copyHeap s.heap its) (s.heap.objs.size + 1) its) v d as) (encD S) er'
          have hlen : its.length = es.length := e1.length
          refine sorted_vals pl.isList (sortsAt_one (s := { s with heap := sortingHeap (copyHeap s.heap its) (s.heap.objs.size + 1) its }) e3 ha (by rw [hlen]; simpa using h3) h4 fun d hd => ?_) (by rw [hlen]; exact hL) (fin _ (sortVals_data false e1 er' ha))
          obtain ⟨b, hb, rfl⟩ := List.mem_map.mp hd
          have := enc_depth (S := S) b (h1 b hb)
          show X.A.units + 1 + 1 + _ < _
          omega
      · simp only [Rp] at r1
        obtain ⟨a, ws, rfl, hq, rs⟩ := r1
        obtain rfl : u = Value.ref a := ru
        obtain ⟨its, ri, ⟨o, ho, hcl, nn, hd⟩, hz⟩ := I.tuple hq
        have hL : es.length ≤ sizeLine := by rw [rs.length]; exact hz
        have e1 := each_of rs ri
        have hal : its.length = es.length := e1.length
        refine call_function_entry kind_sorted plain_sorted entry_sorted (args_sorted1 _) ?_
        unfold Builtin.«sorted»
        refine wpAny_bind (m := checkCount "sorted" 1 1 _) (wpAny_pure ?_)
        refine wpAny_bind (wpAny_collect_seq (A := X.A.in1) a (.inr rfl) ho hcl hd (fun h' hk => ?_) (by rw [List.size_toArray, hal]; exact hL))
        rw [List.toList_toArray]
        refine wpAny_bind (wpAny_newList ?_ (by rw [hal]; exact hL))
        have I1 : Inv X pins σ H { s with heap := h' } := I.kept (t' := s.toks) hk
        have hold : ∀ b o, h'.get? b = some o → (h'.push (seqObj "list" its.toArray 0)).get? b = some o := fun b o e => Heap.get?_push_of_some _ e
        have e2 := each_reads I1 sm e1 h1
        refine wpAny_bind (wpAny_holding (wpAny_mono (sort_at (X := X) (H := H) (S := S) (A := X.A.in1) (s := { s with heap := h'.push (seqObj "list" its.toArray 0) }) (l := h'.objs.size) (its := its)
          (Q := fun w s' => w = Value.none ∧ EP X pins σ Q (.ref h'.objs.size) s') (by show X.A.units + 1 + 40 < _; omega) (Heap.get?_push_size _ rfl) hL e1
          (e2.mono fun u d ⟨as, r⟩ => ⟨as, PyProof.Rows.Reads.keeps hold r, fun z => by
            obtain ⟨o, g⟩ := PyProof.On.reads_mem_get r _ z
            exact absurd (Heap.lt_size g) (Nat.lt_irrefl _)⟩) h1 h2 fun out c h'' hl hk2 eo => ⟨rfl, ?_⟩) (fun w s' x => ?_) fun _ _ e => e))
        · refine new_list I1 sm (p := h'.objs.size) (Nat.le_refl _) (fun b o e => hk2 b o (Nat.ne_of_lt (Heap.lt_size e)) (hold b o e)) (tk := s.toks) hl eo (by rw [sortD, List.length_mergeSort]; exact hL) q kk
        · obtain ⟨rfl, x⟩ := x
          exact wpAny_pure ⟨_, rfl, x⟩
end
end DL

set_option maxRecDepth 100000
/-! Dicts with keys by value; all of [], in, []= ; displays, comprehensions, list(d.values()), repr, ranges as lists. -/
namespace DL
open PySem PySem.Spec PySem.W PySem.Calls PyProof.Rows L2

/-! ### keys by value -/
def keyK : D → Option Key
  | .int i => some (.inl i)
  | .str x => some (.inr x)
  | _ => none
theorem keyK_kV {K : Ev} {H : Hp} {d : D} {k : Key} {v : V} (e : keyK d = some k) (r : Rp K H d v) : v = kV k := by
  cases d <;> simp only [keyK] at e
  case int i => cases e; exact r.int
  case str x => cases e; simp only [Rp] at r; exact r
  all_goals cases e
def getKd : List (Key × D) → Key → Option D
  | [], _ => none
  | p :: r, k => if p.1 = k then some p.2 else getKd r k
def putKd : List (Key × D) → Key → D → List (Key × D)
  | [], k, d => [(k, d)]
  | p :: r, k, d => if p.1 = k then (p.1, d) :: (r.map fun q => if q.1 = k then (q.1, d) else q) else p :: putKd r k d
abbrev KpR (K : Ev) (H : Hp) (p : Key × D) (q : Key × V) : Prop := p.1 = q.1 ∧ Rp K H p.2 q.2
section
variable {K : Ev} {H : Hp}
theorem kp_of : ∀ {kvs : List (Key × D)} {ws : List (Key × V)}, ws.map (·.1) = kvs.map (·.1) → Rps K H (kvs.map (·.2)) (ws.map (·.2)) → Paired (KpR K H) kvs ws
  | [], [], _, _ => .nil
  | [], _ :: _, e, _ => by simp at e
  | _ :: _, [], e, _ => by simp at e
  | p :: kvs, q :: ws, e, r => by
    simp only [List.map_cons, List.cons.injEq] at e
    simp only [List.map_cons, Rps] at r
    obtain ⟨v, vr, e2, r1, r2⟩ := r
    simp only [List.cons.injEq] at e2
    obtain ⟨rfl, rfl⟩ := e2
    exact .cons ⟨e.1.symm, r1⟩ (kp_of e.2 r2)
theorem of_kp : ∀ {kvs : List (Key × D)} {ws : List (Key × V)}, Paired (KpR K H) kvs ws → ws.map (·.1) = kvs.map (·.1) ∧ Rps K H (kvs.map (·.2)) (ws.map (·.2))
  | _, _, .nil => ⟨rfl, Rps.nil⟩
  | _, _, .cons h t => by
    obtain ⟨h1, h2⟩ := of_kp t
    exact ⟨by simp only [List.map_cons, h1, h.1], h2.cons h.2⟩
theorem kp_get {k : Key} : ∀ {kvs : List (Key × D)} {ws : List (Key × V)}, Paired (KpR K H) kvs ws → (getKd kvs k = none ∧ valV ws k = none) ∨ ∃ d v, getKd kvs k = some d ∧ valV ws k = some v ∧ Rp K H d v
  | _, _, .nil => .inl ⟨rfl, rfl⟩
  | _, _, .cons (a := p) (b := q) h t => by
    unfold getKd
    by_cases e : p.1 = k
    · rw [if_pos e, valV_pos (by rw [← h.1]; exact e)]
      exact .inr ⟨p.2, q.2, rfl, rfl, h.2⟩
    · rw [if_neg e, valV_neg (by rw [← h.1]; exact e)]
      exact kp_get t
theorem kp_map {k : Key} {d : D} {v : V} (r : Rp K H d v) : ∀ {kvs : List (Key × D)} {ws : List (Key × V)}, Paired (KpR K H) kvs ws → Paired (KpR K H) (kvs.map fun q => if q.1 = k then (q.1, d) else q) (ws.map fun q => if q.1 = k then (q.1, v) else q)
  | _, _, .nil => .nil
  | _, _, .cons (a := p) (b := q) h t => by
    refine .cons ?_ (kp_map r t)
    dsimp only
    by_cases e : p.1 = k
    · rw [if_pos e, if_pos (by rw [← h.1]; exact e)]
      exact ⟨h.1, r⟩
    · rw [if_neg e, if_neg (by rw [← h.1]; exact e)]
      exact h
theorem putK_nil {k : Key} {v : V} : putK [] k v = [(k, v)] := rfl
theorem putK_pos {p : Key × V} {r : List (Key × V)} {k : Key} {v : V} (e : p.1 = k) : putK (p :: r) k v = (p.1, v) :: r.map fun q => if q.1 = k then (q.1, v) else q := by
  unfold putK
  rw [List.any_cons, decide_eq_true e, Bool.true_or, if_pos rfl, List.map_cons, if_pos e]
theorem putK_neg {p : Key × V} {r : List (Key × V)} {k : Key} {v : V} (e : ¬ p.1 = k) : putK (p :: r) k v = p :: putK r k v := by
  unfold putK
  rw [List.any_cons, decide_eq_false e, Bool.false_or, List.map_cons, if_neg e]
  by_cases c : (r.any fun kv => decide (kv.1 = k)) = true
  · rw [if_pos c, if_pos c]
  · rw [if_neg c, if_neg c, List.cons_append]
theorem kp_put {k : Key} {d : D} {v : V} (r : Rp K H d v) : ∀ {kvs : List (Key × D)} {ws : List (Key × V)}, Paired (KpR K H) kvs ws → Paired (KpR K H) (putKd kvs k d) (putK ws k v)
  | _, _, .nil => .cons ⟨rfl, r⟩ .nil
  | _, _, .cons (a := p) (b := q) h t => by
    unfold putKd
    by_cases e : p.1 = k
    · rw [if_pos e, putK_pos (by rw [← h.1]; exact e)]
      exact .cons ⟨h.1, r⟩ (kp_map r t)
    · rw [if_neg e, putK_neg (by rw [← h.1]; exact e)]
      exact .cons h (kp_put r t)
theorem KpR.mono {H' : Hp} {kvs : List (Key × D)} {ws : List (Key × V)} (m : Mo K H H') (r : Paired (KpR K H) kvs ws) : Paired (KpR K H') kvs ws := Paired.mapP r fun _ _ z => ⟨z.1, z.2.mono m⟩
theorem rpO_dK {H : Hp} {a : Addr} {kvs : List (Key × D)} {ws : List (Key × V)} (e : H a = some (.dK ws)) (r : Paired (KpR K H) kvs ws) : RpO K H a (.dK kvs) :=
  let ⟨h1, h2⟩ := of_kp r
  ⟨ws, e, h1, h2⟩
theorem dK_of {S : Sto} (s : SimS K S H) {a : Addr} {kvs : List (Key × D)} (e : S a = some (.dK kvs)) : ∃ ws, H a = some (.dK ws) ∧ Paired (KpR K H) kvs ws := by
  obtain ⟨ws, h1, h2, h3⟩ := s a _ e
  exact ⟨ws, h1, kp_of h2 h3⟩
end

/-! ### a dict looked up -/
def dictAt (S : Sto) (x y : D) : Option (Option D) := match x with
  | .ref a => match S a with
    | some (.dN kvs) => match keyD y with
      | some k => some (getN kvs k)
      | none => none
    | some (.dK kvs) => match keyK y with
      | some k => some (getKd kvs k)
      | none => none
    | _ => none
  | _ => none
theorem dictAt_cases {S : Sto} {x y : D} {o : Option D} (h : dictAt S x y = some o) : ∃ a, x = .ref a ∧ ((∃ kvs k, S a = some (.dN kvs) ∧ keyD y = some k ∧ o = getN kvs k) ∨ ∃ kvs k, S a = some (.dK kvs) ∧ keyK y = some k ∧ o = getKd kvs k) := by
  cases x with
  | ref a =>
    replace h : (match S a with | some (.dN kvs) => (match keyD y with | some k => some (getN kvs k) | none => none) | some (.dK kvs) => (match keyK y with | some k => some (getKd kvs k) | none => none) | _ => none) = some o := h
    refine ⟨a, rfl, ?_⟩
    split at h
    · rename_i kvs e
      split at h
      · rename_i k e2
        cases h
        exact .inl ⟨kvs, k, e, e2, rfl⟩
      · cases h
    · rename_i kvs e
      split at h
      · rename_i k e2
        cases h
        exact .inr ⟨kvs, k, e, e2, rfl⟩
      · cases h
    · cases h
  | _ => cases h
/-- a tuple's datum stands at a place -/
theorem keyD_ref {K : Ev} {H : Hp} {d : D} {v : V} {k : NestedKey} (e : keyD d = some k) (r : Rp K H d v) : ∃ b, v = .ref b := by
  cases d with
  | tup ds =>
    simp only [Rp] at r
    obtain ⟨b, vs, rfl, _⟩ := r
    exact ⟨b, rfl⟩
  | _ => cases e
abbrev rdIxA : RD := fun x y S Q => match x with
  | .ref a => ∃ o, S a = some o ∧ match o with
    | .lst ds => (match y with
      | .int i => ∃ d, atI ds i = some d ∧ Q d S
      | _ => False)
    | .dN kvs => ∃ k d, keyD y = some k ∧ getN kvs k = some d ∧ Q d S
    | .dK kvs => ∃ k d, keyK y = some k ∧ getKd kvs k = some d ∧ Q d S
  | _ => rdIx x y S Q
abbrev rdInD : RD := fun x y S Q => match y with
  | .ref a => ∃ o, S a = some o ∧ match o with
    | .lst _ => rdIn x y S Q
    | .dN kvs => ∃ k, keyD x = some k ∧ Q (.bl (getN kvs k).isSome) S
    | .dK kvs => ∃ k, keyK x = some k ∧ Q (.bl (getKd kvs k).isSome) S
  | _ => rdIn x y S Q
abbrev rdNotInD : RD := fun x y S Q => match y with
  | .ref a => ∃ o, S a = some o ∧ match o with
    | .lst _ => rdNotIn x y S Q
    | .dN kvs => ∃ k, keyD x = some k ∧ Q (.bl (!(getN kvs k).isSome)) S
    | .dK kvs => ∃ k, keyK x = some k ∧ Q (.bl (!(getKd kvs k).isSome)) S
  | _ => rdNotIn x y S Q
abbrev rdSetA : RS := fun o i d S Q => match o with
  | .ref a => ∃ ob, S a = some ob ∧ match ob with
    | .lst xs => (match i with
      | .int k => ∃ j, ixN xs.length k = some j ∧ Q (sput S a (.lst (xs.set j d)))
      | _ => False)
    | .dN kvs => ∃ k, keyD i = some k ∧ kvs.length < sizeLine ∧ Q (sput S a (.dN (putN kvs i k d)))
    | .dK kvs => ∃ k, keyK i = some k ∧ kvs.length < sizeLine ∧ Q (sput S a (.dK (putKd kvs k d)))
  | _ => False
/-- the readings in terms of what is found -/
theorem ixA_cases {x y : D} {S : Sto} {Q : DK} (q : rdIxA x y S Q) : (∃ d, dictAt S x y = some (some d) ∧ Q d S) ∨ rdIx x y S Q := by
  cases x with
  | ref a =>
    obtain ⟨o, e, q⟩ := q
    cases o with
    | lst ds =>
      cases y with
      | int i =>
        obtain ⟨d, e2, q⟩ := q
        exact .inr ⟨ds, d, e, e2, q⟩
      | _ => exact q.elim
    | dN kvs =>
      obtain ⟨k, d, e2, e3, q⟩ := q
      refine .inl ⟨d, ?_, q⟩
      show (match S a with | some (.dN kvs) => (match keyD y with | some k => some (getN kvs k) | none => none) | some (.dK kvs) => (match keyK y with | some k => some (getKd kvs k) | none => none) | _ => none) = _
      rw [e]
      show (match keyD y with | some k => some (getN kvs k) | none => none) = _
      rw [e2]
      show some (getN kvs k) = _
      rw [e3]
    | dK kvs =>
      obtain ⟨k, d, e2, e3, q⟩ := q
      refine .inl ⟨d, ?_, q⟩
      show (match S a with | some (.dN kvs) => (match keyD y with | some k => some (getN kvs k) | none => none) | some (.dK kvs) => (match keyK y with | some k => some (getKd kvs k) | none => none) | _ => none) = _
      rw [e]
      show (match keyK y with | some k => some (getKd kvs k) | none => none) = _
      rw [e2]
      show some (getKd kvs k) = _
      rw [e3]
  | _ => exact .inr q
theorem inD_cases {x y : D} {S : Sto} {Q : DK} (q : rdInD x y S Q) : (∃ o, dictAt S y x = some o ∧ Q (.bl o.isSome) S) ∨ rdIn x y S Q := by
  cases y with
  | ref a =>
    obtain ⟨o, e, q⟩ := q
    cases o with
    | lst ds => exact .inr q
    | dN kvs =>
      obtain ⟨k, e2, q⟩ := q
      refine .inl ⟨_, ?_, q⟩
      show (match S a with | some (.dN kvs) => (match keyD x with | some k => some (getN kvs k) | none => none) | some (.dK kvs) => (match keyK x with | some k => some (getKd kvs k) | none => none) | _ => none) = _
      rw [e]
      show (match keyD x with | some k => some (getN kvs k) | none => none) = _
      rw [e2]
    | dK kvs =>
      obtain ⟨k, e2, q⟩ := q
      refine .inl ⟨_, ?_, q⟩
      show (match S a with | some (.dN kvs) => (match keyD x with | some k => some (getN kvs k) | none => none) | some (.dK kvs) => (match keyK x with | some k => some (getKd kvs k) | none => none) | _ => none) = _
      rw [e]
      show (match keyK x with | some k => some (getKd kvs k) | none => none) = _
      rw [e2]
  | _ => exact .inr q
theorem notInD_cases {x y : D} {S : Sto} {Q : DK} (q : rdNotInD x y S Q) : (∃ o, dictAt S y x = some o ∧ Q (.bl (!o.isSome)) S) ∨ rdNotIn x y S Q := by
  cases y with
  | ref a =>
    obtain ⟨o, e, q⟩ := q
    cases o with
    | lst ds => exact .inr q
    | dN kvs =>
      obtain ⟨k, e2, q⟩ := q
      refine .inl ⟨_, ?_, q⟩
      show (match S a with | some (.dN kvs) => (match keyD x with | some k => some (getN kvs k) | none => none) | some (.dK kvs) => (match keyK x with | some k => some (getKd kvs k) | none => none) | _ => none) = _
      rw [e]
      show (match keyD x with | some k => some (getN kvs k) | none => none) = _
      rw [e2]
    | dK kvs =>
      obtain ⟨k, e2, q⟩ := q
      refine .inl ⟨_, ?_, q⟩
      show (match S a with | some (.dN kvs) => (match keyD x with | some k => some (getN kvs k) | none => none) | some (.dK kvs) => (match keyK x with | some k => some (getKd kvs k) | none => none) | _ => none) = _
      rw [e]
      show (match keyK x with | some k => some (getKd kvs k) | none => none) = _
      rw [e2]
  | _ => exact .inr q
/-- the two-place readings from the data's side alone -/
def r2D (K : Ev) (rd : RD) : R2 := fun v u H Q => ∃ x y S Qd, SimS K S H ∧ Rp K H x v ∧ Rp K H y u ∧ rd x y S Qd ∧ ∀ d S' w H', Step S H S' H' → SimS K S' H' → Rp K H' d w → Qd d S' → Q w H'
theorem opd_r2D {K : Ev} {rd : RD} : OpD K (r2D K rd) rd := fun x y v u S H Q Q' s rx ry q k => ⟨x, y, S, Q, s, rx, ry, q, k⟩
section
variable {X : Cx}
theorem ix_all (hu : X.A.units + 64 < cLine) : IxR X (r2D (ev X) rdIxA) := by
  intro value slice pins s σ H v' u' v u Q I rv ru h hs
  obtain ⟨x, y, S, Qd, sm, rx, ry, q, kk⟩ := h
  rcases ixA_cases q with ⟨d, e, qd⟩ | q
  rotate_left
  · have h2 := ix_opd (K := ev X) (Q' := Q) sm rx ry q kk
    rcases h2 with h2 | h2
    · exact ix_list value slice pins s σ H v' u' v u Q I rv ru h2 hs
    · exact ix_tup value slice pins s σ H v' u' v u Q I rv ru h2 hs
  · obtain ⟨a, rfl, ⟨kvs, k, e1, e2, e3⟩ | ⟨kvs, k, e1, e2, e3⟩⟩ := dictAt_cases e
    · obtain ⟨xs, h1, h2, h3⟩ := sm a _ e1
      obtain rfl := rx.ref
      obtain ⟨b, rfl⟩ := keyD_ref e2 ry
      exact ix_dictN hu value slice pins s σ H _ _ v u Q I rv ru ⟨a, b, y, k, kvs, xs, d, rfl, rfl, ry, e2, h1, h2, h3, e3.symm, fun w rw' => kk d S w H (Step.refl S H) sm rw' qd⟩ hs
    · obtain ⟨ws, h1, h2⟩ := dK_of sm e1
      obtain rfl := rx.ref
      obtain rfl := keyK_kV e2 ry
      rcases kp_get h2 (k := k) with ⟨z, _⟩ | ⟨d', w, g1, g2, g3⟩
      · rw [z] at e3; cases e3
      · rw [g1] at e3
        cases e3
        obtain rfl : v = Value.ref a := rv
        have g : DGet H a (kV k) (some w) := by
          have := DGet.k (k := k) h1
          rw [g2] at this
          exact this
        have hT := dict_typeIs I g
        unfold subscriptTail
        refine wpAny_bind ?_
        rw [getitemInPython_of_ne hT.not_modules]
        refine wpAny_bind (wpAny_specialOf hT PySem.F.slot_dict_getitem.lookup ?_)
        have fin : wpAny (model X.prog X.w) X.A (subscripted slice false (.ref a) u) (fun r s₃ => wpAny (model X.prog X.w) X.A (letTemporaryGo value (.ref a) r >>= fun _ => pure r) (EP X pins σ Q) X.xe s₃) X.xe s := by
          rw [hs]
          exact wpAny_operating (d_getItem (by omega) I g ru fun w' s' I' rw' => wpAny_bind (wpAny_letTemporaryGo (wpAny_pure ⟨w, H, I', rw', kk d S w H (Step.refl S H) sm g3 qd⟩)))
        first
          | exact wpAny_pure (wpAny_bind fin)
          | exact wpAny_bind (wpAny_pure (wpAny_bind fin))
          | exact wpAny_bind fin
theorem op_inD (hu : X.A.units + 65 < cLine) : OpR X (compareOp .In) (r2D (ev X) rdInD) := by
  intro pins s σ H v' u' v u Q I rv ru h
  obtain ⟨x, y, S, Qd, sm, rx, ry, q, kk⟩ := h
  rcases inD_cases q with ⟨o, e, q⟩ | q
  rotate_left
  · exact op_inA hu pins s σ H v' u' v u Q I rv ru (opd_in (K := ev X) x y v' u' S H Qd Q sm rx ry q kk)
  · have fin : Q (.bl o.isSome) H := kk _ S _ H (Step.refl S H) sm (by simp only [Rp]) q
    obtain ⟨a, rfl, ⟨kvs, k, e1, e2, e3⟩ | ⟨kvs, k, e1, e2, e3⟩⟩ := dictAt_cases e
    · obtain ⟨xs, h1, h2, h3⟩ := sm a _ e1
      obtain rfl := ry.ref
      obtain ⟨b, rfl⟩ := keyD_ref e2 rx
      exact op_inN (by omega) pins s σ H _ _ v u Q I rv ru ⟨a, b, x, k, kvs, xs, rfl, rfl, rx, e2, h1, h2, h3, by rw [e3] at fin; exact fin⟩
    · obtain ⟨ws, h1, h2⟩ := dK_of sm e1
      obtain rfl := ry.ref
      obtain rfl := keyK_kV e2 rx
      obtain rfl : u = Value.ref a := ru
      have es : (valV ws k).isSome = o.isSome := by
        rw [e3]
        rcases kp_get h2 (k := k) with ⟨z, z2⟩ | ⟨d', w, g1, g2, g3⟩
        · rw [z, z2]; rfl
        · rw [g1, g2]; rfl
      exact d_in (by omega) I (DGet.k h1) rv fun s' I' => ⟨.bl _, H, I', rfl, by rw [es]; exact fin⟩
theorem op_notInD (hu : X.A.units + 65 < cLine) : OpR X (compareOp .NotIn) (r2D (ev X) rdNotInD) := by
  intro pins s σ H v' u' v u Q I rv ru h
  obtain ⟨x, y, S, Qd, sm, rx, ry, q, kk⟩ := h
  rcases notInD_cases q with ⟨o, e, q⟩ | q
  rotate_left
  · exact op_notInA hu pins s σ H v' u' v u Q I rv ru (opd_notIn (K := ev X) x y v' u' S H Qd Q sm rx ry q kk)
  · have fin : Q (.bl (!o.isSome)) H := kk _ S _ H (Step.refl S H) sm (by simp only [Rp]) q
    obtain ⟨a, rfl, ⟨kvs, k, e1, e2, e3⟩ | ⟨kvs, k, e1, e2, e3⟩⟩ := dictAt_cases e
    · obtain ⟨xs, h1, h2, h3⟩ := sm a _ e1
      obtain rfl := ry.ref
      obtain ⟨b, rfl⟩ := keyD_ref e2 rx
      exact op_notInN (by omega) pins s σ H _ _ v u Q I rv ru ⟨a, b, x, k, kvs, xs, rfl, rfl, rx, e2, h1, h2, h3, by rw [e3] at fin; exact fin⟩
    · obtain ⟨ws, h1, h2⟩ := dK_of sm e1
      obtain rfl := ry.ref
      obtain rfl := keyK_kV e2 rx
      obtain rfl : u = Value.ref a := ru
      have es : (valV ws k).isSome = o.isSome := by
        rw [e3]
        rcases kp_get h2 (k := k) with ⟨z, z2⟩ | ⟨d', w, g1, g2, g3⟩
        · rw [z, z2]; rfl
        · rw [g1, g2]; rfl
      exact d_notIn (by omega) I (DGet.k h1) rv fun s' I' => ⟨.bl _, H, I', rfl, by rw [es]; exact fin⟩
def rsD (K : Ev) (rd : RS) : V → V → V → Hp → (Hp → Prop) → Prop := fun ov iv v H Q => ∃ o i d S Qd, SimS K S H ∧ Rp K H o ov ∧ Rp K H i iv ∧ Rp K H d v ∧ rd o i d S Qd ∧ ∀ S' H', Step S H S' H' → SimS K S' H' → Qd S' → Q H'
theorem sd_rsD {K : Ev} {rd : RS} : SD K (rsD K rd) rd := fun o i d ov iv v S H Q Q' s ro ri rv q k => ⟨o, i, d, S, Q, s, ro, ri, rv, q, k⟩
theorem putN_len {kd d : D} {k : NestedKey} : ∀ {kvs : List (D × D)}, (putN kvs kd k d).length ≤ kvs.length + 1
  | [] => by simp [putN]
  | p :: r => by
    unfold putN
    have := putN_len (kd := kd) (d := d) (k := k) (kvs := r)
    split <;> simp only [List.length_cons] <;> omega
theorem set_all (hu : X.A.units + 64 < cLine) : PSet X (rsD (ev X) rdSetA) := by
  intro pins s σ H ov' iv' v' ov iv u Q I ro ri rv h
  obtain ⟨o, i, d, S, Qd, sm, r1, r2, r3, q, kk⟩ := h
  cases o with
  | ref a =>
    obtain ⟨ob, e, q⟩ := q
    cases ob with
    | dN kvs =>
      obtain ⟨k, e2, q⟩ := q
      obtain ⟨xs, h1, h2, h3⟩ := sm a _ e
      obtain rfl := r1.ref
      obtain ⟨b, rfl⟩ := keyD_ref e2 r2
      refine set_dictN hu pins s σ H _ _ _ ov iv u Q I ro ri rv ⟨a, b, i, k, d, kvs, xs, rfl, rfl, r2, e2, r3, h1, h2, h3, q.1, fun ys g1 g2 => ?_⟩
      have t : Step S H (sput S a (.dN (putN kvs i k d))) (upd H a (dNH X.prog X.w a ys)) := Step.put e
      exact kk _ _ t (sm.put e fun H' m he => ⟨ys, he, Paired.mapP g1 fun _ _ z => ⟨z.1, z.2.1.mono m, z.2.2.mono m⟩, g2⟩) q.2
    | dK kvs =>
      obtain ⟨k, e2, q⟩ := q
      obtain ⟨ws, h1, h2⟩ := dK_of sm e
      obtain rfl := r1.ref
      obtain rfl := keyK_kV e2 r2
      obtain rfl : ov = Value.ref a := ro
      have hl : ws.length < sizeLine := by
        have := Paired.length h2
        omega
      refine d_setItem (by omega) I (DPut.k h1 hl) ri rv fun s' I' => ⟨_, I', ?_⟩
      exact kk _ _ (Step.put e) (sm.put e fun H' m he => rpO_dK he (kp_put (r3.mono m) (KpR.mono m h2))) q.2
    | lst xs =>
      cases i with
      | int n =>
        obtain ⟨j, e2, q⟩ := q
        exact set_list pins s σ H _ _ _ ov iv u Q I ro ri rv (sd_set (K := ev X) (.ref a) (.int n) d _ _ _ S H Qd Q sm r1 r2 r3 ⟨xs, j, e, e2, q⟩ kk)
      | _ => exact q.elim
  | _ => exact q.elim
end
section
variable {X : Cx} {B : Sto × Hp} {pos : Pos} {a b e : Expr} {ta tb te : WE}
theorem de_ixA {W : WD} {k : Nat} (c : OkD X B W k) (ha : DE X B a ta) (hb : DE X B b tb) (hs : PlainIx b := by exact fun _ _ => rfl) : DE X B (.Subscript a b pos) (dOp rdIxA ta tb) :=
  PE.imp (pe_ix (ix_all c.u64) ha hb hs) fun σ H Q h => lift_op (opd_r2D (K := ev X)) h
end
end DL

set_option maxRecDepth 100000
namespace DL
open PySem PySem.Spec PySem.W PySem.Calls PyProof.Rows L2

/-! ### new dicts -/
def dNewD (o : Ob) : WE := fun σ S Q => ∀ p, S p = none → Q (.ref p) (sput S p o)
/-- one pair, its key a tuple -/
def dDict1 (tk tv : WE) : WE := fun σ S Q => ∀ p, S p = none → tk σ (sput S p (.dN [])) fun kd S1 => tv σ S1 fun d S2 => S2 p = some (.dN []) ∧ ∃ k, keyD kd = some k ∧ Q (.ref p) (sput S2 p (.dN [(kd, d)]))
section
variable {X : Cx} {B : Sto × Hp} {pos : Pos} {a b e : Expr} {ta tb te : WE}
theorem dn_empty {P : Program} {w : World} {H : Hp} (h : Heap) (hb : sysModules < h.objs.size) : ObjOk P w H (h.push { cls := .type "dict", data := .dict #[] }) h.objs.size (dNH P w h.objs.size []) :=
  dnH_ok (us := []) (beq_eq_false_iff_ne.mpr (Ne.symm (Nat.ne_of_lt hb))) (Nat.zero_le _) .nil ⟨_, #[], 0, Heap.get?_push_size _ rfl, ⟨rfl, rfl, rfl⟩, rfl, rfl⟩
theorem de_dictN0 : DE X B (.Dict [] [] pos) (dNewD (.dN [])) := ⟨fun pins s σ H Q I ⟨σd, S, Qd, sm, q, k⟩ => by
  have hn := I.hok.fresh (Nat.le_refl s.heap.objs.size)
  refine wpAny_Dict_empty ⟨.ref s.heap.objs.size, _, I.laid (a := s.heap.objs.size) (o := dNH X.prog X.w s.heap.objs.size []) (t' := s.toks) (fun _ _ q => Heap.get?_push_of_some _ q) (Nat.le_refl _) (dn_empty s.heap I.big), rfl, ?_⟩
  exact k _ _ _ _ (Step.new sm.s hn) (sm.s.new (u := .dN []) hn fun H' m e => ⟨[], e, .nil, List.nodup_nil⟩) (by simp only [Rp]) (q _ (sm.s.off hn))⟩
theorem de_dictK0 : DE X B (.Dict [] [] pos) (dNewD (.dK [])) := ⟨fun pins s σ H Q I ⟨σd, S, Qd, sm, q, k⟩ => by
  have hn := I.hok.fresh (Nat.le_refl s.heap.objs.size)
  refine wpAny_Dict_empty ⟨.ref s.heap.objs.size, _, I.laid (a := s.heap.objs.size) (o := .dK []) (t' := s.toks) (fun _ _ q => Heap.get?_push_of_some _ q) (Nat.le_refl _) (dk_empty s.heap I.big), rfl, ?_⟩
  exact k _ _ _ _ (Step.new sm.s hn) (sm.s.new (u := .dK []) hn fun H' m e => rpO_dK e .nil) (by simp only [Rp]) (q _ (sm.s.off hn))⟩
theorem de_dictN1 {W : WD} {k : Nat} (c : OkD X B W k) (ha : DE X B a ta) (hb : DE X B b tb) : DE X B (.Dict [some a] [b] pos) (dDict1 ta tb) := ⟨fun pins s σ H Q I ⟨σd, S, Qd, sm, q, kk⟩ => by
  have hn := I.hok.fresh (Nat.le_refl s.heap.objs.size)
  have I0 := I.laid (a := s.heap.objs.size) (o := dNH X.prog X.w s.heap.objs.size []) (h' := s.heap.push { cls := .type "dict", data := .dict #[] }) (t' := s.toks) (fun _ _ q => Heap.get?_push_of_some _ q) (Nat.le_refl _) (dn_empty s.heap I.big)
  have t0 : Step S H (sput S s.heap.objs.size (.dN [])) (upd H s.heap.objs.size (dNH X.prog X.w s.heap.objs.size [])) := Step.new sm.s hn
  have s0 : SimS (ev X) (sput S s.heap.objs.size (.dN [])) (upd H s.heap.objs.size (dNH X.prog X.w s.heap.objs.size [])) := sm.s.new (u := .dN []) hn fun H' m e => ⟨[], e, .nil, List.nodup_nil⟩
  have sm0 := sm.step t0 s0
  rw [arm_eval_Dict, zip_pairTrees [some a] [b] X.env pos rfl rfl, dictDisplay_pairs (pairTrees [some a] [b] X.env pos) (fun z => nomatch z) (by rw [pairTrees_length [some a] [b] X.env pos rfl rfl]; exact (by decide : 1 < 17))]
  refine wpAny_bind (wpAny_standAt (wpAny_bind (wpAny_subDictH (knd := nestedKind X.prog X.w) (Q := fun d s' => wpAny (model X.prog X.w) X.A (pure (Value.ref d)) (EP X pins σ Q) X.xe s') (by have := c.u64; show X.A.units + 8 < cLine; omega) (by rw [pairTrees_length [some a] [b] X.env pos rfl rfl]; exact (by decide : 1 ≤ 15))
    (pairTrees_cons_walk (thn (ha.run pins _ σ _ (QL (ev X) _ _ _) I0 ⟨σd, _, _, sm0, q _ (sm.s.off hn), fun x S1 v H1 t1 s1 r1 q1 => ⟨x, S1, t1, s1, r1, q1⟩⟩) fun u s1 ⟨v, H1, I1, rv, x, S1, t1, sm1, r1, q1⟩ =>
      thn (hb.run pins s1 σ H1 (QL (ev X) S1 H1 _) I1 ⟨σd, S1, _, sm0.step t1 sm1, q1, fun y S2 v2 H2 t2 s2 r2 q2 => ⟨y, S2, t2, s2, r2, q2⟩⟩) fun u2 s2 ⟨v2, H2, I2, rv2, y, S2, t2, sm2, r2, q2⟩ => pairTrees_nil_walk ?_)))))
  obtain ⟨eS, q2⟩ := q2
  obtain ⟨k, ek, q2⟩ := q2
  · have r1' := t2.rp sm1 r1
    obtain ⟨b', rfl⟩ := keyD_ref ek r1'
    obtain rfl : u = Value.ref b' := rv
    obtain ⟨xs, h1, h2, h3⟩ := sm2 _ _ eS
    cases h2
    obtain ⟨g1, g2, us, g3, hD⟩ := dn_heap I2 h1 .nil h3
    cases g3
    refine ⟨[(k, b', u2)], ⟨rfl, rfl, keyD_is I2 r1' ek, trivial⟩, hD, fun h' tk hD' sb => wpAny_pure ?_⟩
    obtain ⟨o, es, ep, w1, w2, w3, w4, _⟩ := hD'
    have t3 : Step S2 H2 (sput S2 s.heap.objs.size (.dN [(x, y)])) (upd H2 s.heap.objs.size (dNH X.prog X.w s.heap.objs.size [(k, b', v2)])) := Step.put eS
    have mu : Mut (H2 s.heap.objs.size) := by rw [h1]; exact True.intro
    refine ⟨.ref s.heap.objs.size, _, d_write (t' := tk) (ob := dNH X.prog X.w s.heap.objs.size [(k, b', v2)]) I2 mu sb ⟨o, w1⟩ (dnH_ok g1 (by simp; decide) (us := [(k, b', u2)]) (.cons ⟨rfl, rfl, rv2⟩ .nil) ⟨o, es, ep, w1, w2, w3, w4⟩), rfl, ?_⟩
    refine kk _ _ _ _ (((t0.trans t1).trans t2).trans t3) (sm2.put eS fun H' m he => ⟨_, he, .cons ⟨ek, r1'.mono m, r2.mono m⟩ .nil, by simp⟩) (by simp only [Rp]) q2⟩
end

/-! ### list(d.values()) -/
def dLvals (te : WE) : WE := fun σ S Q => te σ S fun x S1 => ∃ a kvs, pairsD S1 x = some (a, kvs) ∧ ∀ p, S1 p = none → Q (.ref p) (sput S1 p (.lst (kvs.map fun p => p.2)))
section
variable {X : Cx} {B : Sto × Hp} {pos cpos apos p : Pos} {e : Expr} {te : WE}
theorem de_lvals {W : WD} {k : Nat} (c : OkD X B W k) (hm : X.mg "list" = none) (he : DE X B e te) (hg : Gl X "list" := by rfl) (hbase : attributeBase e "values" X.env (eval e X.env) = eval e X.env := by rfl) (hline : (apos.endLine == cpos.line) = true := by rfl)
    (hs : starEach [.Call (.Attribute e "values" apos) [] [] cpos] X.env = (false, eval (.Call (.Attribute e "values" apos) [] [] cpos) X.env) :: starEach [] X.env := by rfl) (hpl : (backTo pos (starEach [] X.env)).any (·.1) = false := by rfl) :
    DE X B (.Call (.Name "list" p) [.Call (.Attribute e "values" apos) [] [] cpos] [] pos) (dLvals te) := by
  refine ⟨fun pins s σ H Q I ⟨σd, S, Qd, sm, q, kk⟩ => ?_⟩
  refine wpAny_Call_Name_kw (ld_blt I hg hm PyProof.Rows.boot_list ?_ (by decide) (by decide))
  have hx : PE X (.Call (.Attribute e "values" apos) [] [] cpos) (fun σ H Q => ∃ σd S Qd, Sim (ev X) B σd S σ H ∧ te σd S Qd ∧ ∀ x S1 v H1, Step S H S1 H1 → SimS (ev X) S1 H1 → Rp (ev X) H1 x v → Qd x S1 → ∃ d kvs, pairsD S1 x = some (d, kvs) ∧ ∀ r, H1 r = none →
      Q (.ref r) (upd H1 r (.ext fun h => h.IsValuesView r d))) := by
    refine ⟨fun pins s σ H Q I ⟨σd, S, Qd, sm, q, kk⟩ => ?_⟩
    refine wpAny_Call_method (T := "dict") (id := "dict.values") hbase rfl hline F.plainAttrs_dict F.slot_dict_values F.type_dict_values (thn (he.run pins s σ H (QL (ev X) S H _) I ⟨σd, S, _, sm, q, fun x S1 v H1 t1 s1 r1 q1 => ⟨x, S1, t1, s1, r1, q1⟩⟩) fun u s1 ⟨v, H1, I1, rv, x, S1, t1, sm1, r1, q1⟩ => ?_)
    obtain ⟨d, kvs, hp, q3⟩ := kk x S1 v H1 t1 sm1 r1 q1
    obtain ⟨rfl, o, u', es, ep, ws, J, D, kw, ob, eo⟩ := dict_lock I1 sm1 hp
    obtain rfl := r1.ref
    obtain rfl : u = Value.ref d := rv
    have hmr := raw_of I1 J D
    refine ⟨hmr.typeIs, noDict_of hmr, ?_⟩
    have fin : EP X pins σ Q (.ref s1.heap.objs.size) { s1 with heap := s1.heap.push { cls := .type "dict_values", data := .fields #[.ref d] } } := by
      refine ⟨.ref s1.heap.objs.size, _, I1.laid (t' := s1.toks) (a := s1.heap.objs.size) (o := .ext fun h => h.IsValuesView s1.heap.objs.size d) (fun b ob q => Heap.get?_push_of_some _ q) (Nat.le_refl _)
        ⟨⟨_, Heap.get?_push_size _ rfl, rfl, rfl⟩, ⟨_, Heap.get?_push_size _ rfl⟩, fun h1 h2 ⟨o, g, r⟩ k => ⟨o, k o g, r⟩⟩, rfl, q3 _ (I1.hok.fresh (Nat.le_refl _))⟩
    show wpAny _ _ (callWith cpos (.builtin "dict.values") [.ref d] [] []) _ X.xe s1
    exact method_meetsIn F.slot_dict_values F.entry_dict_values rfl (PySem.evalArgs_none ⟨rfl, hmr.typeIs, F.args_dict_values_1 _, _, meets_dict_values_raw d D.ns, ⟨es, ep, hmr⟩, fin⟩)
  have hargs := PA.run (pa_cons hx pa_nil hs) pos pins s σ H (fun vs H2 => ∃ x S1 H1 v d kvs r, Step S H S1 H1 ∧ SimS (ev X) S1 H1 ∧ Rp (ev X) H1 x v ∧ pairsD S1 x = some (d, kvs) ∧ (∀ p, S1 p = none → Qd (.ref p) (sput S1 p (.lst (kvs.map fun p => p.2)))) ∧ vs = [V.ref r] ∧ H1 r = none ∧ H2 = upd H1 r (.ext fun h => h.IsValuesView r d)) I
    ⟨σd, S, _, sm, q, fun x S1 v H1 t1 s1 r1 q1 => by
      obtain ⟨d, kvs, hp, q1⟩ := q1
      exact ⟨d, kvs, hp, fun r hr => ⟨x, S1, H1, v, d, kvs, r, t1, s1, r1, hp, q1, rfl, hr, rfl⟩⟩⟩
  refine PyProof.Rows.callWith_type1 (thn hargs fun us s1 ⟨vs, H2, I2, rvs, x, S1, H1, v, d, kvs, r, t1, sm1, r1, hp, q1, ev', hr, eH⟩ => ?_) hs hpl
  subst ev' eH
  obtain ⟨u, rfl, ru⟩ := vals1 rvs
  obtain rfl : u = Value.ref r := ru
  have t2 : Step S1 H1 S1 (upd H1 r (.ext fun h => h.IsValuesView r d)) := Step.fresh sm1 hr
  have sm2 := sm1.fresh (o := .ext fun h => h.IsValuesView r d) hr
  obtain ⟨rfl, o, u', es, ep, ws, J, D, kw, ob, eo⟩ := dict_lock I2 sm2 hp
  have hmr := raw_of I2 J D
  have hv : s1.heap.IsValuesView r d := (show ObjOk X.prog X.w _ s1.heap r (.ext fun h => h.IsValuesView r d) from I2.hok r _ upd_same).1
  have hn : es.size ≤ sizeLine := by rw [D.sz]; exact D.lin
  refine kdl_call (src_vals (r := r) (d := d)) (I.ok.hd c.calm) ⟨hv, hmr⟩ hn fun h' tk acc c' hk hl hacc => ?_
  have hal : acc.toList.length = (kvs.map fun p => p.2).length := by
    rw [Array.length_toList, hacc.1, D.sz, List.length_map, Paired.length kw]
  have e1 : EachIs (fun u y => ∃ v, RelV v u ∧ Rp (ev X) (upd H1 r (.ext fun h => h.IsValuesView r d)) y v) acc.toList (kvs.map fun p => p.2) := src_each (P := fun _ _ => True) (kw_snd kw) hal fun i v u hv hu' => by
    rw [List.getElem?_map] at hv
    cases hw : ws[i]? with
    | none => rw [hw] at hv; cases hv
    | some wp =>
      rw [hw] at hv
      cases hv
      obtain ⟨en, g1, g2, g3⟩ := D.ent i wp.1 wp.2 hw
      obtain ⟨hi, e⟩ := hacc.2 i u (by rw [← Array.getElem?_toList]; exact hu')
      rw [Array.getElem?_eq_getElem hi] at g1
      cases g1
      rw [e]
      exact g3
  exact new_list I2 sm2 (Nat.le_refl _) hk (tk := tk) (by rw [Array.toArray_toList]; exact hl) e1 (by rw [List.length_map, Paired.length kw]; exact D.lin) q1 fun d S' w H' t3 => kk d S' w H' ((t1.trans t2).trans t3)
end
end DL

set_option maxRecDepth 100000
namespace DL
open PySem PySem.Spec PySem.W PySem.Calls PyProof.Rows L2

/-! ### list(range(n)), tuple(range(n)) -/
def rgOk (n : Int) : Prop := -(2 ^ 62) ≤ n ∧ n ≤ 16777216
def dListRg (t : WE) : WE := fun σ S Q => t σ S fun x S1 => match x with
  | .int n => rgOk n ∧ ∀ p, S1 p = none → Q (.ref p) (sput S1 p (.lst (rangeD 0 n.toNat)))
  | _ => False
def dTupleRg (t : WE) : WE := fun σ S Q => t σ S fun x S1 => match x with
  | .int n => rgOk n ∧ Q (.tup (rangeD 0 n.toNat)) S1
  | _ => False
theorem rps_range {K : Ev} {H : Hp} (n : Int) : Rps K H (rangeD 0 n.toNat) (rgV 0 n) := by
  unfold rangeD rgV
  rw [show (n - 0).toNat = n.toNat by congr 1; omega]
  generalize n.toNat = m
  have : ∀ l : List Nat, Rps K H (l.map fun (i : Nat) => DL.D.int (0 + (i : Int))) (l.map fun (i : Nat) => V.int (0 + (i : Int))) := fun l => by
    induction l with
    | nil => exact Rps.nil
    | cons i l ih => exact ih.cons (by simp only [Rp])
  exact this _
section
variable {X : Cx} {B : Sto × Hp} {pos p p2 pos2 : Pos} {a e : Expr} {te : WE} {W : WD} {k : Nat}
theorem de_listRg (c : OkD X B W k) (hl : X.mg "list" = none) (hr : X.mg "range" = none) (he : DE X B e te) (hg : Gl X "list" := by rfl) (hg2 : Gl X "range" := by rfl)
    (na : starEach [.Call (.Name "range" p2) [e] [] pos2] X.env = (false, eval (.Call (.Name "range" p2) [e] [] pos2) X.env) :: starEach [] X.env := by rfl) (na2 : starEach [e] X.env = (false, eval e X.env) :: starEach [] X.env := by rfl) :
    DE X B (.Call (.Name "list" p) [.Call (.Name "range" p2) [e] [] pos2] [] pos) (dListRg te) :=
  PE.imp (pe_listRg c.calm hg hl (prg_1 hg2 hr he na2) na) fun σ H Q ⟨σd, S, Qd, sm, q, kk⟩ => ⟨σd, S, _, sm, q, fun x S1 v H1 t1 s1 r1 q1 => by
    cases x with
    | int n =>
      obtain ⟨hn, q1⟩ := q1
      have e1 : (n - 0).toNat = n.toNat := by congr 1; omega
      refine ⟨n, r1.int, ⟨by decide, by decide, hn.1, by have := hn.2; omega, by have := hn.2; omega⟩, fun q hq => ?_⟩
      exact kk _ _ _ _ (t1.trans (Step.new s1 hq)) (s1.newL hq fun H' m => rps_range n) (by simp only [Rp]) (q1 q (s1.off hq))
    | _ => exact q1.elim⟩
theorem de_tupleRg (c : OkD X B W k) (hl : X.mg "tuple" = none) (hr : X.mg "range" = none) (he : DE X B e te) (hg : Gl X "tuple" := by rfl) (hg2 : Gl X "range" := by rfl)
    (na : starEach [.Call (.Name "range" p2) [e] [] pos2] X.env = (false, eval (.Call (.Name "range" p2) [e] [] pos2) X.env) :: starEach [] X.env := by rfl) (na2 : starEach [e] X.env = (false, eval e X.env) :: starEach [] X.env := by rfl) :
    DE X B (.Call (.Name "tuple" p) [.Call (.Name "range" p2) [e] [] pos2] [] pos) (dTupleRg te) :=
  PE.imp (pe_tupRg c.calm hg hl (prg_1 hg2 hr he na2) na) fun σ H Q ⟨σd, S, Qd, sm, q, kk⟩ => ⟨σd, S, _, sm, q, fun x S1 v H1 t1 s1 r1 q1 => by
    cases x with
    | int n =>
      obtain ⟨hn, q1⟩ := q1
      refine ⟨n, r1.int, ⟨by decide, by decide, hn.1, by have := hn.2; omega, by have := hn.2; omega⟩, fun q hq => ?_⟩
      refine kk _ _ _ _ (t1.trans (Step.fresh s1 hq)) (s1.fresh hq) ?_ q1
      simp only [Rp]
      exact ⟨q, _, rfl, SqT.of upd_same, rps_range n⟩
    | _ => exact q1.elim⟩

/-! ### repr -/
def isSeqD (S : Sto) : D → Bool
  | .tup _ => true
  | .ref a => match S a with
    | some (.lst _) => true
    | _ => false
  | _ => false
abbrev rdRepr : RB := fun ds S Q => match ds with
  | [x] => ∃ p, pd S 20 x = some p ∧ isSeqD S x = true ∧ p.showable = true ∧ p.hasDict = false ∧ p.shown.length ≤ sizeLine ∧ Q (.str p.shown) S
  | _ => False
theorem boot_f_repr : bootBuiltins "repr" = some (.builtin "repr") := by rfl
theorem cr_repr (hg : X.A.guards = some []) (hu : X.A.units + 64 < cLine) : CallR X (.builtin "repr") (rOfD (ev X) rdRepr) := by
  intro pins s σ H vs us Q I rv h
  obtain ⟨ds, S, Qd, sm, rd, q, kk⟩ := h
  match ds, q, rd with
  | [], q, _ => exact q.elim
  | x :: _ :: _, q, _ => exact q.elim
  | [x], q, rd =>
    obtain ⟨v, rfl, r1⟩ := rd.one
    obtain ⟨u, rfl, ru⟩ := vals1 rv
    obtain ⟨p, hp, h0, h1, h2, h3, q⟩ := q
    · skip
      have hd := pd_dp sm _ _ _ _ r1 hp
      obtain ⟨as, r⟩ := Dp.reads I p v u hd ru
      have hdep := (pd_lay 20 x p hp).2
      have hv : ∃ a, u = Value.ref a := by
        cases x with
        | tup ds =>
          simp only [Rp] at r1
          obtain ⟨a, _, rfl, _⟩ := r1
          exact ⟨a, ru⟩
        | ref a =>
          obtain rfl := r1.ref
          exact ⟨a, ru⟩
        | _ => cases h0
      obtain ⟨a, rfl⟩ := hv
      refine repr_of_reads' (h₀ := s.heap) r h1 (fun z => by rw [h2] at z; cases z) hg (by omega) (fun _ _ e => e) (fun h' u tk hk => ?_) h3
      exact ⟨.str p.shown, H, I.kept hk, ⟨u, rfl⟩, kk _ S _ H (Step.refl S H) sm (by simp only [Rp]) q⟩
/-- this is never reached -/
def sNever : WS := fun _ _ _ => False
theorem ds_never {st : Stmt} : DSt X B st sNever := ⟨fun pins s σ H D I ⟨σd, S, Dd, sm, q, k⟩ => q.elim⟩
end

/-! ### dict comprehensions, keys by value -/
def dcW (G : Sto → Prop) (g : WG) (tt : WT) (tk tv : WE) (σ : DS) (R : List (Key × D) → Sto → Prop) : List D → List (Key × D) → Sto → Prop
  | [], acc, S => G S ∧ R acc S
  | d :: r, acc, S => G S ∧ g d σ S fun σ2 S2 => tt σ2 S2 fun b S3 => br b (tk σ2 S3 fun y S4 => tv σ2 S4 fun z S5 => ∃ k, keyK y = some k ∧ acc.length < sizeLine ∧ dcW G g tt tk tv σ R r (putKd acc k z) S5) (dcW G g tt tk tv σ R r acc S3)
theorem dcW_G {G : Sto → Prop} {g : WG} {tt : WT} {tk tv : WE} {σ : DS} {R : List (Key × D) → Sto → Prop} {its : List D} {acc : List (Key × D)} {S : Sto} (h : dcW G g tt tk tv σ R its acc S) : G S := by
  cases its <;> exact h.1
def dDc (wi : WI) (g : WG) (tt : WT) (tk tv : WE) (vs : List Nat) : WE := fun σ S Q => wi σ S fun its G S1 => dcW G g tt tk tv (wipeD σ vs) (fun acc S2 => ∀ p, S2 p = none → Q (.ref p) (sput S2 p (.dK acc))) its [] S1
/-- the dict that is being made, at a place that the store does not know, has grown -/
theorem SimS.scratchK {K : Ev} {S : Sto} {H : Hp} (s : SimS K S H) {p : Addr} {ys zs : List (Key × V)} (hs : S p = none) (hp : H p = some (.dK ys)) : Mo K H (upd H p (.dK zs)) ∧ SimS K S (upd H p (.dK zs)) := by
  have m : Mo K H (upd H p (.dK zs)) := by
    refine ⟨fun a xs q => ?_, fun a xs q => ?_⟩
    · rcases q with q | q
      · have ne : a ≠ p := fun z => by
          subst z
          rcases q with q | ⟨o, q⟩ <;> (rw [hp] at q; cases q)
        rcases q with q | ⟨o, q⟩
        · exact .inl (.inl (by rw [upd_ne ne]; exact q))
        · exact .inl (.inr ⟨o, by rw [upd_ne ne]; exact q⟩)
      · exact .inr q
    · rcases q with ⟨o, q⟩ | q
      · have ne : a ≠ p := fun z => by
          rw [z, hp] at q
          cases q
        exact .inl ⟨o, by rw [upd_ne ne]; exact q⟩
      · exact .inr q
  refine ⟨m, fun a o e => ?_⟩
  have ne : a ≠ p := fun z => by rw [z, hs] at e; cases e
  exact RpO.mono (upd_ne ne) m (s a o e)
section
variable {X : Cx} {B : Sto × Hp} {pos : Pos} {wi : WI} {vs : List Nat} {g : TG} {gd : WG} {tt : WT} {tk tv : WE}
theorem lift_dc {w : TI} (hk : GOk (ev X) vs g gd)
    (hw : ∀ (σd : DS) (S : Sto) (σ : L2.St) (H : Hp) (R : List D → (Sto → Prop) → Sto → Prop) (R' : It → Hp → Prop), Sim (ev X) B σd S σ H → wi σd S R →
      (∀ J its G S' H', Step S H S' H' → SimS (ev X) S' H' → ItOk (ev X) S' H' J its G → R its G S' → R' J H') → w σ H R')
    {σ : L2.St} {H : Hp} {Q : VK} (h : liftE (ev X) B (dDc wi gd tt tk tv vs) σ H Q) : tDc w g (liftT (ev X) B tt) (liftE (ev X) B tk) (liftE (ev X) B tv) vs σ H Q := by
  obtain ⟨σd, S, Qd, s, q, k⟩ := h
  refine hw σd S σ H _ _ s q fun J its G S1 H1 t1 s1 io q1 => ?_
  intro L hL
  have nL : S1 L = none := s1.off hL
  have v1 : SimV (ev X) H1 (wipeD σd vs) (wipe σ vs) := (s.v.step t1 s.s).wipe vs
  refine ⟨fun i m H' => m = its.length - i ∧ i ≤ its.length ∧ ∃ S' acc vacc, H' L = some (.dK vacc) ∧ Paired (KpR (ev X) H') acc vacc ∧ S' L = none ∧ SimS (ev X) S' H' ∧ Step S1 H1 S' H' ∧
      dcW G gd tt tk tv (wipeD σd vs) (fun acc S2 => ∀ p, S2 p = none → Qd (.ref p) (sput S2 p (.dK acc))) (its.drop i) acc S',
    ⟨its.length, rfl, Nat.zero_le _, S1, [], [], upd_same, .nil, nL, s1.fresh hL, Step.fresh s1 hL, q1⟩, ?_⟩
  rintro i m H' ⟨rfl, hi, S', acc, vacc, hD, rD, nD, s', t', q'⟩
  have hG := dcW_G q'
  by_cases hlt : i < its.length
  · obtain ⟨hgo, hyl⟩ := io.go i its[i] S' H' (by simp [hlt]) t' s' hG
    rw [List.drop_eq_getElem_cons hlt] at q'
    refine .inr ⟨hgo, fun H2 => ∃ m', m' < its.length - i ∧ m' = its.length - (i + 1) ∧ i + 1 ≤ its.length ∧ ∃ S' acc vacc, H2 L = some (.dK vacc) ∧ Paired (KpR (ev X) H2) acc vacc ∧ S' L = none ∧ SimS (ev X) S' H2 ∧ Step S1 H1 S' H2 ∧
        dcW G gd tt tk tv (wipeD σd vs) (fun acc S2 => ∀ p, S2 p = none → Qd (.ref p) (sput S2 p (.dK acc))) (its.drop (i + 1)) acc S', fun H2 z => z, fun x H2 y => ?_⟩
    obtain ⟨t2, s2, r2⟩ := hyl x H2 y
    refine hk.run its[i] x (wipeD σd vs) S' (wipe σ vs) H2 _ _ ((v1.step t' s1).step t2 s') s2 r2 q'.2 fun σ3 S3 σ'' H3 t3 s3 v3 w3 q3 => ?_
    have b3 : Step B.1 B.2 S3 H3 := (((s.b.trans t1).trans t').trans t2).trans t3
    refine ⟨by rw [w3]; exact wipe_wipe, σ3, S3, _, ⟨v3, s3, b3⟩, q3, fun b S4 H4 t4 s4 q4 => ?_⟩
    have t24 := (t2.trans t3).trans t4
    have d4 := t24 L _ hD nD
    have r4 := KpR.mono (t24.mo s') rD
    cases b with
    | false =>
      refine iteF ?_
      exact ⟨its.length - (i + 1), by omega, rfl, hlt, S4, acc, vacc, d4.1, r4, d4.2, s4, t'.trans t24, q4⟩
    | true =>
      refine iteT ?_
      refine ⟨σ3, S4, _, ⟨v3.step t4 s3, s4, b3.trans t4⟩, q4, fun y S5 v H5 t5 s5 r5 q5 => ?_⟩
      refine ⟨σ3, S5, _, ⟨(v3.step t4 s3).step t5 s4, s5, (b3.trans t4).trans t5⟩, q5, fun z S6 u H6 t6 s6 r6 q6 => ?_⟩
      obtain ⟨kk, ek, q6⟩ := q6
      · skip
        have t56 := t5.trans t6
        have d6 := t56 L _ d4.1 d4.2
        have r6' := KpR.mono (t56.mo s4) r4
        obtain ⟨mm, s7⟩ := s6.scratchK (zs := putK vacc kk u) d6.2 d6.1
        have t7 : Step S1 H1 S6 (upd H6 L (.dK (putK vacc kk u))) := fun a o ha na => by
          have z := ((t'.trans t24).trans t56) a o ha na
          have ne : a ≠ L := fun e => by rw [e, hL] at ha; cases ha
          exact ⟨by rw [upd_ne ne]; exact z.1, z.2⟩
        refine ⟨vacc, kk, keyK_kV ek r5, d6.1, by rw [← Paired.length r6']; exact q6.1, its.length - (i + 1), by omega, rfl, hlt, S6, putKd acc kk z, putK vacc kk u, upd_same, ?_, d6.2, s7, t7, q6.2⟩
        exact kp_put (r6.mono mm) (KpR.mono mm r6')
  · have e : i = its.length := by omega
    subst e
    rw [List.drop_length] at q'
    refine .inl ⟨io.stop S' H' t' s' hG, k (.ref L) (sput S' L (.dK acc)) _ _ (fun a o ha na => ?_) (fun a o e => ?_) (by simp only [Rp]) (q'.2 L nD)⟩
    · have z1 := t1 a o ha na
      have z := t' a o z1.1 z1.2
      have ne : a ≠ L := fun e => by rw [e, hL] at z1; cases z1.1
      exact ⟨z.1, by rw [sput_ne ne]; exact z.2⟩
    · by_cases h : a = L
      · subst h
        rw [sput_same] at e
        cases e
        exact rpO_dK hD rD
      · rw [sput_ne h] at e
        exact s' a o e
theorem de_dc {kx vx tg iter : Expr} {ifs : List Expr} {scope : Scope} {own : List (Str × Nat)} {W : WD} {k : Nat} (c : OkD X B W k) (hN : X.N.Nodup) (hi : DI X B tg iter wi) (ok : BlkOk X.N X.env.scope scope own)
    (hg : ∀ (s : Shared) (H : Hp) (C : Addr) (cl : List (Str × Addr)) (fp : List Addr), PG (X.blk s H scope (compEnvC scope cl C X.env) fp) tg g) (hk : GOk (ev X) (own.map (·.2)) g gd)
    (ht : ∀ (s : Shared) (H : Hp) (C : Addr) (cl : List (Str × Addr)) (fp : List Addr), DTs (X.blk s H scope (compEnvC scope cl C X.env) fp) B ifs tt)
    (hkx : ∀ (s : Shared) (H : Hp) (C : Addr) (cl : List (Str × Addr)) (fp : List Addr), DE (X.blk s H scope (compEnvC scope cl C X.env) fp) B kx tk)
    (he : ∀ (s : Shared) (H : Hp) (C : Addr) (cl : List (Str × Addr)) (fp : List Addr), DE (X.blk s H scope (compEnvC scope cl C X.env) fp) B vx tv) (hs : ∀ x, foldedSetIterable iter X.env x = pure x := by intro _; rfl) :
    DE X B (.DictComp kx vx [⟨tg, iter, ifs, 0⟩] scope pos) (dDc wi gd tt tk tv (own.map (·.2))) := by
  obtain ⟨w, pi, hw⟩ := hi.ex
  exact PE.imp (pe_dc (tt := liftT (ev X) B tt) (tk := liftE (ev X) B tk) (tv := liftE (ev X) B tv) c.calm hN pi ok hg ht hkx he hs) fun σ H Q h => lift_dc hk hw h
end
/-! ### == and != , texts beside the rest -/
abbrev rdEqX : RD := fun x y S Q => match x, y with
  | .str a, .str b => Q (.bl (a == b)) S
  | _, _ => rdEq x y S Q
abbrev rdNeX : RD := fun x y S Q => match x, y with
  | .str a, .str b => Q (.bl (!(a == b))) S
  | _, _ => rdNe x y S Q
def isStr : D → Option Str
  | .str a => some a
  | _ => none
theorem eqX_cases {x y : D} {S : Sto} {Q : DK} (q : rdEqX x y S Q) : (∃ a b, x = .str a ∧ y = .str b ∧ Q (.bl (a == b)) S) ∨ rdEq x y S Q := by
  cases x with
  | str a =>
    cases y with
    | str b => exact .inl ⟨a, b, rfl, rfl, q⟩
    | _ => exact .inr q
  | _ => exact .inr q
theorem neX_cases {x y : D} {S : Sto} {Q : DK} (q : rdNeX x y S Q) : (∃ a b, x = .str a ∧ y = .str b ∧ Q (.bl (!(a == b))) S) ∨ rdNe x y S Q := by
  cases x with
  | str a =>
    cases y with
    | str b => exact .inl ⟨a, b, rfl, rfl, q⟩
    | _ => exact .inr q
  | _ => exact .inr q
section
variable {X : Cx}
theorem op_eqX (hu : X.A.units + 64 < cLine) : OpR X (compareOp .Eq) (r2D (ev X) rdEqX) := by
  intro pins s σ H v' u' v u Q I rv ru h
  obtain ⟨x, y, S, Qd, sm, rx, ry, q, kk⟩ := h
  rcases eqX_cases q with ⟨a, b, rfl, rfl, qq⟩ | qq
  · have ex : v' = .str a := by simpa only [Rp] using rx
    have ey : u' = .str b := by simpa only [Rp] using ry
    subst ex ey
    exact L2.op_eq pins s σ H _ _ v u Q I rv ru ⟨rfl, kk _ S _ H (Step.refl S H) sm (by simp only [Rp]; rw [dec_str]) qq⟩
  · exact op_eqD hu pins s σ H v' u' v u Q I rv ru (opd_eq (K := ev X) x y v' u' S H Qd Q sm rx ry qq kk)
theorem op_neX (hu : X.A.units + 64 < cLine) : OpR X (compareOp .NotEq) (r2D (ev X) rdNeX) := by
  intro pins s σ H v' u' v u Q I rv ru h
  obtain ⟨x, y, S, Qd, sm, rx, ry, q, kk⟩ := h
  rcases neX_cases q with ⟨a, b, rfl, rfl, qq⟩ | qq
  · have ex : v' = .str a := by simpa only [Rp] using rx
    have ey : u' = .str b := by simpa only [Rp] using ry
    subst ex ey
    exact L2.op_ne pins s σ H _ _ v u Q I rv ru ⟨rfl, kk _ S _ H (Step.refl S H) sm (by simp only [Rp]; rw [dec_str]) qq⟩
  · exact op_neD hu pins s σ H v' u' v u Q I rv ru (opd_ne (K := ev X) x y v' u' S H Qd Q sm rx ry qq kk)
end
end DL

set_option maxRecDepth 100000
namespace LW
open PySem PySem.Spec PyProof.Rows L2 DL
abbrev G_NOUGHT : D := .tup [.int 0, .int 1]
abbrev G_WHOLE : D := .tup [.int 1, .int 1]
abbrev G_MOST_TASKS : D := .int 8
abbrev N_is_integer : List Str := ["value"]
def r_is_integer (E : XD) : WS := (sRet (dAndV (dIsi "int" (dVar 0)) (dNotV (dIsi "bool" (dVar 0)))))
def sp_is_integer : SpD := spOf 1 N_is_integer r_is_integer
abbrev N_divisor_of : List Str := ["one", "other"]
def r_divisor_of (E : XD) : WS := (sSeq (sPar 0 1 (aCons (dB rdAbs (aCons (dVar 0) aNil)) (aCons (dB rdAbs (aCons (dVar 1) aNil)) aNil)))
    (sSeq (sWhile (dTest (dOp rdNeX (dVar 1) (dC (.int 0)))) (sPar 0 1 (aCons (dVar 1) (aCons (dOp rdMod (dVar 0) (dVar 1)) aNil))))
    (sRet (dVar 0))))
def sp_divisor_of : SpD := spOf 2 N_divisor_of r_divisor_of
abbrev N_is_fraction : List Str := ["value"]
def r_is_fraction (E : XD) : WS := (sSeq (sIf (dOr (dNot (dTest (dIsi "tuple" (dVar 0)))) (dOr (dTest (dOp rdNeX (dB rdLen (aCons (dVar 0) aNil)) (dC (.int 2)))) (dOr (dNot (dTest (dCall sp_is_integer (lW E) (aCons (dOp rdIxA (dVar 0) (dC (.int 0))) aNil)))) (dNot (dTest (dCall sp_is_integer (lW E) (aCons (dOp rdIxA (dVar 0) (dC (.int 1))) aNil))))))) (sRet (dC (.bl false))) sNext)
    (sRet (dAndV (dOp rdGt (dOp rdIxA (dVar 0) (dC (.int 1))) (dC (.int 0))) (dOp rdEqX (dCall sp_divisor_of (lW E) (aCons (dOp rdIxA (dVar 0) (dC (.int 0))) (aCons (dOp rdIxA (dVar 0) (dC (.int 1))) aNil))) (dC (.int 1))))))
def sp_is_fraction : SpD := spOf 1 N_is_fraction r_is_fraction
abbrev N_lowest : List Str := ["top", "bottom", "shared"]
def r_lowest (E : XD) : WS := (sSeq (sAsg (dCall sp_divisor_of (lW E) (aCons (dVar 0) (aCons (dVar 1) aNil))) (gdName 2))
    (sSeq (sIf (dTest (dOp rdLt (dVar 1) (dC (.int 0)))) (sAsg (dOp rdSub (dC (.int 0)) (dVar 2)) (gdName 2)) sNext)
    (sRet (dTup (aCons (dOp rdDivX (dVar 0) (dVar 2)) (aCons (dOp rdDivX (dVar 1) (dVar 2)) aNil))))))
def sp_lowest : SpD := spOf 2 N_lowest r_lowest
abbrev N_add : List Str := ["one", "other"]
def r_add (E : XD) : WS := (sRet (dCall sp_lowest (lW E) (aCons (dOp rdAddA (dOp rdMulA (dOp rdIxA (dVar 0) (dC (.int 0))) (dOp rdIxA (dVar 1) (dC (.int 1)))) (dOp rdMulA (dOp rdIxA (dVar 1) (dC (.int 0))) (dOp rdIxA (dVar 0) (dC (.int 1))))) (aCons (dOp rdMulA (dOp rdIxA (dVar 0) (dC (.int 1))) (dOp rdIxA (dVar 1) (dC (.int 1)))) aNil))))
def sp_add : SpD := spOf 2 N_add r_add
abbrev N_less : List Str := ["one", "other"]
def r_less (E : XD) : WS := (sRet (dCall sp_lowest (lW E) (aCons (dOp rdSub (dOp rdMulA (dOp rdIxA (dVar 0) (dC (.int 0))) (dOp rdIxA (dVar 1) (dC (.int 1)))) (dOp rdMulA (dOp rdIxA (dVar 1) (dC (.int 0))) (dOp rdIxA (dVar 0) (dC (.int 1))))) (aCons (dOp rdMulA (dOp rdIxA (dVar 0) (dC (.int 1))) (dOp rdIxA (dVar 1) (dC (.int 1)))) aNil))))
def sp_less : SpD := spOf 2 N_less r_less
abbrev N_mul : List Str := ["one", "other"]
def r_mul (E : XD) : WS := (sRet (dCall sp_lowest (lW E) (aCons (dOp rdMulA (dOp rdIxA (dVar 0) (dC (.int 0))) (dOp rdIxA (dVar 1) (dC (.int 0)))) (aCons (dOp rdMulA (dOp rdIxA (dVar 0) (dC (.int 1))) (dOp rdIxA (dVar 1) (dC (.int 1)))) aNil))))
def sp_mul : SpD := spOf 2 N_mul r_mul
abbrev N_order_of : List Str := ["one", "other", "gap"]
def r_order_of (E : XD) : WS := (sSeq (sAsg (dOp rdSub (dOp rdMulA (dOp rdIxA (dVar 0) (dC (.int 0))) (dOp rdIxA (dVar 1) (dC (.int 1)))) (dOp rdMulA (dOp rdIxA (dVar 1) (dC (.int 0))) (dOp rdIxA (dVar 0) (dC (.int 1))))) (gdName 2))
    (sRet (dOp rdSub (dB rdInt (aCons (dOp rdGt (dVar 2) (dC (.int 0))) aNil)) (dB rdInt (aCons (dOp rdLt (dVar 2) (dC (.int 0))) aNil)))))
def sp_order_of : SpD := spOf 2 N_order_of r_order_of
abbrev N_is_parent : List Str := ["value", "number"]
def r_is_parent (E : XD) : WS := (sRet (dOrV (dOp rdIsN (dVar 0) (dC .non)) (dAndV (dCall sp_is_integer (lW E) (aCons (dVar 0) aNil)) (dChain rdLe rdLt (dC (.int 0)) (dVar 0) (dVar 1)))))
def sp_is_parent : SpD := spOf 2 N_is_parent r_is_parent
abbrev N_is_factor : List Str := ["value"]
def r_is_factor (E : XD) : WS := (sRet (dAndV (dCall sp_is_fraction (lW E) (aCons (dVar 0) aNil)) (dOp rdGe (dOp rdIxA (dVar 0) (dC (.int 0))) (dC (.int 0)))))
def sp_is_factor : SpD := spOf 1 N_is_factor r_is_factor
abbrev N_is_task : List Str := ["value", "number"]
def r_is_task (E : XD) : WS := (sSeq (sIf (dOr (dNot (dTest (dIsi "tuple" (dVar 0)))) (dTest (dOp rdNeX (dB rdLen (aCons (dVar 0) aNil)) (dC (.int 3))))) (sRet (dC (.bl false))) sNext)
    (sRet (dAndV (dCall sp_is_parent (lW E) (aCons (dOp rdIxA (dVar 0) (dC (.int 0))) (aCons (dVar 1) aNil))) (dAndV (dCall sp_is_fraction (lW E) (aCons (dOp rdIxA (dVar 0) (dC (.int 1))) aNil)) (dCall sp_is_factor (lW E) (aCons (dOp rdIxA (dVar 0) (dC (.int 2))) aNil))))))
def sp_is_task : SpD := spOf 2 N_is_task r_is_task
abbrev N_is_forest : List Str := ["value", "number", "task"]
def r_is_forest (E : XD) : WS := (sSeq (sIf (dOr (dNot (dTest (dIsi "tuple" (dVar 0)))) (dNot (dTest (dChain rdLe rdLe (dC (.int 1)) (dB rdLen (aCons (dVar 0) aNil)) (dC G_MOST_TASKS))))) (sRet (dC (.bl false))) sNext)
    (sRet (dB rdAll (aCons (dLc (iDEnum (dVar 0)) (gdTup 2 (gdCons (gdName 1) (gdCons (gdName 2) gdNil))) dYes (dCall sp_is_task WF (aCons (dVar 2) (aCons (dVar 1) aNil))) [1, 2]) aNil))))
def sp_is_forest : SpD := spOf 1 N_is_forest r_is_forest
abbrev N_need_forest : List Str := ["value"]
def r_need_forest (E : XD) : WS := (sIf (dNot (dTest (dCall sp_is_forest (lW E) (aCons (dVar 0) aNil)))) sNever sNext)
def sp_need_forest : SpD := spOf 1 N_need_forest r_need_forest
abbrev N_is_order : List Str := ["forest", "value", "places", "place", "number", "task"]
def r_is_order (E : XD) : WS := (sSeq (sDrop (dCall sp_need_forest (lW E) (aCons (dVar 0) aNil)))
    (sSeq (sIf (dOr (dNot (dTest (dIsi "list" (dVar 1)))) (dNot (dTest (dB rdAll (aCons (dLc (iDS (dVar 1)) (gdName 4) dYes (dCall sp_is_integer WF (aCons (dVar 4) aNil)) [4]) aNil))))) (sRet (dC (.bl false))) sNext)
    (sSeq (sIf (dTest (dOp rdNeX (dB rdSorted (aCons (dVar 1) aNil)) (dListRg (dB rdLen (aCons (dVar 0) aNil))))) (sRet (dC (.bl false))) sNext)
    (sSeq (sAsg (dDc (iDEnum (dVar 1)) (gdTup 2 (gdCons (gdName 3) (gdCons (gdName 4) gdNil))) dYes (dVar 4) (dVar 3) [3, 4]) (gdName 2))
    (sRet (dB rdAll (aCons (dLc (iDEnum (dVar 0)) (gdTup 2 (gdCons (gdName 4) (gdCons (gdName 5) gdNil))) dYes (dOrV (dOp rdIsN (dOp rdIxA (dVar 5) (dC (.int 0))) (dC .non)) (dOp rdLt (dOp rdIxA (dVar 2) (dOp rdIxA (dVar 5) (dC (.int 0)))) (dOp rdIxA (dVar 2) (dVar 4)))) [4, 5]) aNil)))))))
def sp_is_order : SpD := spOf 2 N_is_order r_is_order
abbrev N_run_of : List Str := ["forest", "numbers", "paid", "weight", "number"]
def r_run_of (E : XD) : WS := (sSeq (sPar 2 3 (aCons (dC G_NOUGHT) (aCons (dC G_WHOLE) aNil)))
    (sSeq (sFor (iDS (dVar 1)) (gdName 4) (sSeq (sAsg (dCall sp_add (lW E) (aCons (dVar 2) (aCons (dCall sp_mul (lW E) (aCons (dVar 3) (aCons (dOp rdIxA (dOp rdIxA (dVar 0) (dVar 4)) (dC (.int 1))) aNil))) aNil))) (gdName 2))
    (sAsg (dCall sp_mul (lW E) (aCons (dVar 3) (aCons (dOp rdIxA (dOp rdIxA (dVar 0) (dVar 4)) (dC (.int 2))) aNil))) (gdName 3))))
    (sRet (dTup (aCons (dTup (aCons (dVar 2) (aCons (dCall sp_less (lW E) (aCons (dC G_WHOLE) (aCons (dVar 3) aNil))) aNil))) (aCons (dVar 3) aNil))))))
def sp_run_of : SpD := spOf 2 N_run_of r_run_of
abbrev N_order_worth : List Str := ["forest", "order"]
def r_order_worth (E : XD) : WS := (sSeq (sIf (dNot (dTest (dCall sp_is_order (lW E) (aCons (dVar 0) (aCons (dVar 1) aNil))))) sNever sNext)
    (sRet (dOp rdIxA (dOp rdIxA (dCall sp_run_of (lW E) (aCons (dVar 0) (aCons (dVar 1) aNil))) (dC (.int 0))) (dC (.int 0)))))
def sp_order_worth : SpD := spOf 2 N_order_worth r_order_worth
abbrev N_best_of : List Str := ["forest", "newest", "lap", "further", "done", "worth", "weight", "order", "number", "parent", "pay", "factor", "key", "paid"]
def r_best_of (E : XD) : WS := (sSeq (sAsg (dDict1 (dTup aNil) (dTup (aCons (dC G_NOUGHT) (aCons (dC G_WHOLE) (aCons (dLst aNil) aNil))))) (gdName 1))
    (sSeq (sFor (iDRange1 (dB rdLen (aCons (dVar 0) aNil))) (gdName 2) (sSeq (sAsg (dNewD (.dN [])) (gdName 3))
    (sSeq (sFor (iDItems (dVar 1)) (gdTup 2 (gdCons (gdName 4) (gdCons (gdTup 3 (gdCons (gdName 5) (gdCons (gdName 6) (gdCons (gdName 7) gdNil)))) gdNil))) (sFor (iDEnum (dVar 0)) (gdTup 2 (gdCons (gdName 8) (gdCons (gdTup 3 (gdCons (gdName 9) (gdCons (gdName 10) (gdCons (gdName 11) gdNil)))) gdNil))) (sIf (dAnd (dTest (dOp rdNotInD (dVar 8) (dVar 4))) (dOr (dTest (dOp rdIsN (dVar 9) (dC .non))) (dTest (dOp rdInD (dVar 9) (dVar 4))))) (sSeq (sPar 12 13 (aCons (dB rdTuple (aCons (dB rdSorted (aCons (dLst (aStar (dVar 4) (aCons (dVar 8) aNil))) aNil)) aNil)) (aCons (dCall sp_add (lW E) (aCons (dVar 5) (aCons (dCall sp_mul (lW E) (aCons (dVar 6) (aCons (dVar 10) aNil))) aNil))) aNil)))
    (sIf (dOr (dTest (dOp rdNotInD (dVar 12) (dVar 3))) (dTest (dOp rdGt (dCall sp_order_of (lW E) (aCons (dVar 13) (aCons (dOp rdIxA (dOp rdIxA (dVar 3) (dVar 12)) (dC (.int 0))) aNil))) (dC (.int 0))))) (sAsg (dTup (aCons (dVar 13) (aCons (dCall sp_mul (lW E) (aCons (dVar 6) (aCons (dVar 11) aNil))) (aCons (dLst (aStar (dVar 7) (aCons (dVar 8) aNil))) aNil)))) (gdSub (dVar 3) (dVar 12) rdSetA)) sNext)) sNext)))
    (sAsg (dVar 3) (gdName 1)))))
    (sRet (dOp rdIxA (dLvals (dVar 1)) (dC (.int 0))))))
def sp_best_of : SpD := spOf 1 N_best_of r_best_of
abbrev N_best_worth : List Str := ["forest"]
def r_best_worth (E : XD) : WS := (sSeq (sDrop (dCall sp_need_forest (lW E) (aCons (dVar 0) aNil)))
    (sRet (dOp rdIxA (dCall sp_best_of (lW E) (aCons (dVar 0) aNil)) (dC (.int 0)))))
def sp_best_worth : SpD := spOf 1 N_best_worth r_best_worth
abbrev N_best_order : List Str := ["forest"]
def r_best_order (E : XD) : WS := (sSeq (sDrop (dCall sp_need_forest (lW E) (aCons (dVar 0) aNil)))
    (sRet (dOp rdIxA (dCall sp_best_of (lW E) (aCons (dVar 0) aNil)) (dC (.int 2)))))
def sp_best_order : SpD := spOf 1 N_best_order r_best_order
abbrev N__law_pen : List Str := ["_law_script"]
def r__law_pen (E : XD) : WS := (sRet (dLst (aCons (dB rdList (aCons (dSl (dVar 0) oNo (oSome (dC (.int 60)))) aNil)) (aCons (dC (.int 0)) (aCons (dC (.int 0)) aNil)))))
def sp__law_pen : SpD := spOf 1 N__law_pen r__law_pen
abbrev N__law_next : List Str := ["_law_pen_here", "_law_index", "_law_cell_here", "_law_some", "_law_more", "_law_high"]
def r__law_next (E : XD) : WS := (sSeq (sAsg (dOp rdIxA (dVar 0) (dC (.int 1))) (gdName 1))
    (sSeq (sAsg (dOp rdAddA (dVar 1) (dC (.int 1))) (gdSub (dVar 0) (dC (.int 1)) rdSetA))
    (sSeq (sAsg (dOp rdAddA (dOp rdMulA (dVar 1) (dC (.int 1051))) (dC (.int 53))) (gdName 2))
    (sSeq (sIf (dTest (dOp rdNeX (dOp rdIxA (dVar 0) (dC (.int 0))) (dLst aNil))) (sAsg (dOp rdIxA (dOp rdIxA (dVar 0) (dC (.int 0))) (dOp rdMod (dB rdInt (aCons (dVar 1) aNil)) (dB rdLen (aCons (dOp rdIxA (dVar 0) (dC (.int 0))) aNil)))) (gdName 2)) sNext)
    (sSeq (sIf (dAnd (dTest (dOp rdLt (dVar 1) (dB rdLen (aCons (dOp rdIxA (dVar 0) (dC (.int 0))) aNil)))) (dTest (dOp rdGe (dVar 2) (dOp rdPow (dC (.int 10)) (dC (.int 18)))))) (sRet (dVar 2)) sNext)
    (sSeq (sAsg (dOp rdMod (dB rdInt (aCons (dOp rdAddA (dOp rdAddA (dOp rdMod (dB rdInt (aCons (dVar 2) aNil)) (dC (.int 2147483587))) (dOp rdMulA (dVar 1) (dC (.int 30103)))) (dC (.int 79))) aNil)) (dC (.int 2147483587))) (gdName 3))
    (sSeq (sAsg (dOp rdMod (dB rdInt (aCons (dOp rdAddA (dOp rdAddA (dOp rdMulA (dVar 3) (dVar 3)) (dOp rdMulA (dVar 1) (dC (.int 70039)))) (dC (.int 61))) aNil)) (dC (.int 2147483563))) (gdName 4))
    (sSeq (sAsg (dOp rdMod (dB rdInt (aCons (dOp rdAddA (dOp rdAddA (dOp rdMulA (dVar 4) (dVar 4)) (dVar 3)) (dOp rdMulA (dOp rdMulA (dVar 1) (dVar 1)) (dC (.int 37)))) aNil)) (dC (.int 2147483549))) (gdName 5))
    (sRet (dOp rdAddA (dOp rdMulA (dOp rdAddA (dOp rdMulA (dVar 5) (dC (.int 2147483587))) (dVar 4)) (dC (.int 2147483563))) (dVar 3)))))))))))
def sp__law_next : SpD := spOf 1 N__law_next r__law_next
abbrev N__law_draw : List Str := ["_law_pen_here", "_law_under", "_law_digit"]
def r__law_draw (E : XD) : WS := (sSeq (sIf (dTest (dOp rdLt (dOp rdIxA (dVar 0) (dC (.int 2))) (dVar 1))) (sAsg (dCall sp__law_next (lW E) (aCons (dVar 0) aNil)) (gdSub (dVar 0) (dC (.int 2)) rdSetA)) sNext)
    (sSeq (sAsg (dOp rdMod (dB rdInt (aCons (dOp rdIxA (dVar 0) (dC (.int 2))) aNil)) (dVar 1)) (gdName 2))
    (sSeq (sAsg (dOp rdDiv (dOp rdIxA (dVar 0) (dC (.int 2))) (dVar 1)) (gdSub (dVar 0) (dC (.int 2)) rdSetA))
    (sRet (dVar 2)))))
def sp__law_draw : SpD := spOf 2 N__law_draw r__law_draw
abbrev N__law_low : List Str := ["_law_top", "_law_bottom", "_law_one", "_law_other"]
def r__law_low (E : XD) : WS := (sSeq (sPar 2 3 (aCons (dB rdAbs (aCons (dVar 0) aNil)) (aCons (dVar 1) aNil)))
    (sSeq (sWhile (dTest (dOp rdNeX (dVar 3) (dC (.int 0)))) (sPar 2 3 (aCons (dVar 3) (aCons (dOp rdMod (dVar 2) (dVar 3)) aNil))))
    (sRet (dTup (aCons (dOp rdDiv (dVar 0) (dVar 2)) (aCons (dOp rdDiv (dVar 1) (dVar 2)) aNil))))))
def sp__law_low : SpD := spOf 2 N__law_low r__law_low
abbrev N__law_add : List Str := ["_law_one", "_law_other"]
def r__law_add (E : XD) : WS := (sRet (dCall sp__law_low (lW E) (aCons (dOp rdAddA (dOp rdMulA (dOp rdIxA (dVar 0) (dC (.int 0))) (dOp rdIxA (dVar 1) (dC (.int 1)))) (dOp rdMulA (dOp rdIxA (dVar 1) (dC (.int 0))) (dOp rdIxA (dVar 0) (dC (.int 1))))) (aCons (dOp rdMulA (dOp rdIxA (dVar 0) (dC (.int 1))) (dOp rdIxA (dVar 1) (dC (.int 1)))) aNil))))
def sp__law_add : SpD := spOf 2 N__law_add r__law_add
abbrev N__law_mul : List Str := ["_law_one", "_law_other"]
def r__law_mul (E : XD) : WS := (sRet (dCall sp__law_low (lW E) (aCons (dOp rdMulA (dOp rdIxA (dVar 0) (dC (.int 0))) (dOp rdIxA (dVar 1) (dC (.int 0)))) (aCons (dOp rdMulA (dOp rdIxA (dVar 0) (dC (.int 1))) (dOp rdIxA (dVar 1) (dC (.int 1)))) aNil))))
def sp__law_mul : SpD := spOf 2 N__law_mul r__law_mul
abbrev N__law_less : List Str := ["_law_one", "_law_other"]
def r__law_less (E : XD) : WS := (sRet (dOp rdLt (dOp rdMulA (dOp rdIxA (dVar 0) (dC (.int 0))) (dOp rdIxA (dVar 1) (dC (.int 1)))) (dOp rdMulA (dOp rdIxA (dVar 1) (dC (.int 0))) (dOp rdIxA (dVar 0) (dC (.int 1))))))
def sp__law_less : SpD := spOf 2 N__law_less r__law_less
abbrev N__law_most : List Str := ["_law_some", "_law_found", "_law_one"]
def r__law_most (E : XD) : WS := (sSeq (sAsg (dOp rdIxA (dVar 0) (dC (.int 0))) (gdName 1))
    (sSeq (sFor (iDS (dVar 0)) (gdName 2) (sAsg (dIf (dTest (dCall sp__law_less (lW E) (aCons (dVar 1) (aCons (dVar 2) aNil)))) (dVar 2) (dVar 1)) (gdName 1)))
    (sRet (dVar 1))))
def sp__law_most : SpD := spOf 1 N__law_most r__law_most
abbrev N__law_pay : List Str := ["_law_pen_here"]
def r__law_pay (E : XD) : WS := (sRet (dOp rdIxA (dLst (aCons (dTup (aCons (dC (.int 0)) (aCons (dC (.int 1)) aNil))) (aCons (dTup (aCons (dC (.int 1)) (aCons (dC (.int 1)) aNil))) (aCons (dTup (aCons (dNeg (dC (.int 1))) (aCons (dC (.int 1)) aNil))) (aCons (dTup (aCons (dC (.int 4)) (aCons (dC (.int 1)) aNil))) (aCons (dTup (aCons (dC (.int 1)) (aCons (dC (.int 2)) aNil))) (aCons (dTup (aCons (dNeg (dC (.int 3))) (aCons (dC (.int 2)) aNil))) (aCons (dTup (aCons (dC (.int 2)) (aCons (dC (.int 3)) aNil))) (aCons (dTup (aCons (dNeg (dC (.int 5))) (aCons (dC (.int 1)) aNil))) (aCons (dTup (aCons (dOp rdPow (dC (.int 10)) (dC (.int 11))) (aCons (dC (.int 7)) aNil))) aNil)))))))))) (dCall sp__law_draw (lW E) (aCons (dVar 0) (aCons (dC (.int 9)) aNil)))))
def sp__law_pay : SpD := spOf 1 N__law_pay r__law_pay
abbrev N__law_factor : List Str := ["_law_pen_here"]
def r__law_factor (E : XD) : WS := (sRet (dOp rdIxA (dLst (aCons (dTup (aCons (dC (.int 1)) (aCons (dC (.int 2)) aNil))) (aCons (dTup (aCons (dC (.int 1)) (aCons (dC (.int 3)) aNil))) (aCons (dTup (aCons (dC (.int 1)) (aCons (dC (.int 1)) aNil))) (aCons (dTup (aCons (dC (.int 2)) (aCons (dC (.int 1)) aNil))) (aCons (dTup (aCons (dC (.int 0)) (aCons (dC (.int 1)) aNil))) (aCons (dTup (aCons (dC (.int 3)) (aCons (dC (.int 4)) aNil))) (aCons (dTup (aCons (dC (.int 9)) (aCons (dC (.int 10)) aNil))) (aCons (dTup (aCons (dC (.int 3)) (aCons (dC (.int 1)) aNil))) aNil))))))))) (dCall sp__law_draw (lW E) (aCons (dVar 0) (aCons (dC (.int 8)) aNil)))))
def sp__law_factor : SpD := spOf 1 N__law_factor r__law_factor
abbrev N__law_forest : List Str := ["_law_pen_here", "_law_most_here", "_law_found", "_law_number", "_law_road", "_law_parent"]
def r__law_forest (E : XD) : WS := (sSeq (sAsg (dLst aNil) (gdName 2))
    (sSeq (sFor (iDRange1 (dOp rdAddA (dC (.int 1)) (dCall sp__law_draw (lW E) (aCons (dVar 0) (aCons (dVar 1) aNil))))) (gdName 3) (sSeq (sAsg (dCall sp__law_draw (lW E) (aCons (dVar 0) (aCons (dC (.int 4)) aNil))) (gdName 4))
    (sSeq (sAsg (dIf (dOr (dTest (dOp rdEqX (dVar 3) (dC (.int 0)))) (dTest (dOp rdEqX (dVar 4) (dC (.int 0))))) (dC .non) (dOp rdIxA (dLst (aCons (dOp rdSub (dVar 3) (dC (.int 1))) (aCons (dC (.int 0)) (aCons (dCall sp__law_draw (lW E) (aCons (dVar 0) (aCons (dVar 3) aNil))) aNil)))) (dOp rdSub (dVar 4) (dC (.int 1))))) (gdName 5))
    (sDrop (dM rdAppend (dVar 2) (aCons (dTup (aCons (dVar 5) (aCons (dCall sp__law_pay (lW E) (aCons (dVar 0) aNil)) (aCons (dCall sp__law_factor (lW E) (aCons (dVar 0) aNil)) aNil)))) aNil))))))
    (sRet (dB rdTuple (aCons (dVar 2) aNil)))))
def sp__law_forest : SpD := spOf 2 N__law_forest r__law_forest
abbrev N__law_orders : List Str := ["_law_forest_here", "_law_found", "_law_lap", "_law_longer", "_law_order", "_law_number", "_law_parent"]
def r__law_orders (E : XD) : WS := (sSeq (sAsg (dLst (aCons (dLst aNil) aNil)) (gdName 1))
    (sSeq (sFor (iDRange1 (dB rdLen (aCons (dVar 0) aNil))) (gdName 2) (sSeq (sAsg (dLst aNil) (gdName 3))
    (sSeq (sFor (iDS (dVar 1)) (gdName 4) (sFor (iDRange1 (dB rdLen (aCons (dVar 0) aNil))) (gdName 5) (sSeq (sAsg (dOp rdIxA (dOp rdIxA (dVar 0) (dVar 5)) (dC (.int 0))) (gdName 6))
    (sIf (dAnd (dTest (dOp rdNotInD (dVar 5) (dVar 4))) (dOr (dTest (dOp rdIsN (dVar 6) (dC .non))) (dTest (dOp rdInD (dVar 6) (dVar 4))))) (sDrop (dM rdAppend (dVar 3) (aCons (dOp rdAddA (dVar 4) (dLst (aCons (dVar 5) aNil))) aNil))) sNext))))
    (sAsg (dVar 3) (gdName 1)))))
    (sRet (dVar 1))))
def sp__law_orders : SpD := spOf 1 N__law_orders r__law_orders
abbrev N__law_run : List Str := ["_law_forest_here", "_law_order", "_law_paid", "_law_weight", "_law_number"]
def r__law_run (E : XD) : WS := (sSeq (sAsg (dTup (aCons (dTup (aCons (dC (.int 0)) (aCons (dC (.int 1)) aNil))) (aCons (dTup (aCons (dC (.int 1)) (aCons (dC (.int 1)) aNil))) aNil))) (gdTup 2 (gdCons (gdName 2) (gdCons (gdName 3) gdNil))))
    (sSeq (sFor (iDS (dVar 1)) (gdName 4) (sSeq (sAsg (dCall sp__law_add (lW E) (aCons (dVar 2) (aCons (dCall sp__law_mul (lW E) (aCons (dVar 3) (aCons (dOp rdIxA (dOp rdIxA (dVar 0) (dVar 4)) (dC (.int 1))) aNil))) aNil))) (gdName 2))
    (sAsg (dCall sp__law_mul (lW E) (aCons (dVar 3) (aCons (dOp rdIxA (dOp rdIxA (dVar 0) (dVar 4)) (dC (.int 2))) aNil))) (gdName 3))))
    (sRet (dTup (aCons (dVar 2) (aCons (dVar 3) aNil))))))
def sp__law_run : SpD := spOf 2 N__law_run r__law_run
abbrev N__law_by_sets : List Str := ["_law_forest_here", "_law_found", "_law_lap", "_law_later", "_law_done", "_law_paid", "_law_weight", "_law_number", "_law_parent", "_law_pay_here", "_law_factor_here", "_law_key", "_law_more"]
def r__law_by_sets (E : XD) : WS := (sSeq (sAsg (dDict1 (dTup aNil) (dTup (aCons (dTup (aCons (dC (.int 0)) (aCons (dC (.int 1)) aNil))) (aCons (dTup (aCons (dC (.int 1)) (aCons (dC (.int 1)) aNil))) aNil)))) (gdName 1))
    (sSeq (sFor (iDRange1 (dB rdLen (aCons (dVar 0) aNil))) (gdName 2) (sSeq (sAsg (dNewD (.dN [])) (gdName 3))
    (sSeq (sFor (iDS (dB rdSortA (aCons (dVar 1) aNil))) (gdName 4) (sSeq (sAsg (dOp rdIxA (dVar 1) (dVar 4)) (gdTup 2 (gdCons (gdName 5) (gdCons (gdName 6) gdNil))))
    (sFor (iDEnum (dVar 0)) (gdTup 2 (gdCons (gdName 7) (gdCons (gdTup 3 (gdCons (gdName 8) (gdCons (gdName 9) (gdCons (gdName 10) gdNil)))) gdNil))) (sIf (dAnd (dTest (dOp rdNotInD (dVar 7) (dVar 4))) (dOr (dTest (dOp rdIsN (dVar 8) (dC .non))) (dTest (dOp rdInD (dVar 8) (dVar 4))))) (sSeq (sPar 11 12 (aCons (dB rdTuple (aCons (dB rdSortA (aCons (dOp rdAddA (dVar 4) (dTup (aCons (dVar 7) aNil))) aNil)) aNil)) (aCons (dCall sp__law_add (lW E) (aCons (dVar 5) (aCons (dCall sp__law_mul (lW E) (aCons (dVar 6) (aCons (dVar 9) aNil))) aNil))) aNil)))
    (sIf (dOr (dTest (dOp rdNotInD (dVar 11) (dVar 3))) (dTest (dCall sp__law_less (lW E) (aCons (dOp rdIxA (dOp rdIxA (dVar 3) (dVar 11)) (dC (.int 0))) (aCons (dVar 12) aNil))))) (sAsg (dTup (aCons (dVar 12) (aCons (dCall sp__law_mul (lW E) (aCons (dVar 6) (aCons (dVar 10) aNil))) aNil))) (gdSub (dVar 3) (dVar 11) rdSetA)) sNext)) sNext))))
    (sAsg (dVar 3) (gdName 1)))))
    (sRet (dOp rdIxA (dOp rdIxA (dVar 1) (dTupleRg (dB rdLen (aCons (dVar 0) aNil)))) (dC (.int 0))))))
def sp__law_by_sets : SpD := spOf 1 N__law_by_sets r__law_by_sets
abbrev N_law : List Str := ["_law_script", "_law_pen_here", "_law_half", "_law_lone_six", "_law_great", "_law_lap", "_law_forest_here", "_law_kept", "_law_orders_here", "_law_most_here", "_law_again", "_law_found", "_law_lone", "_law_k", "_law_order"]
def r_law (E : XD) : WS := (sSeq (sAsg (dCall sp__law_pen (lW E) (aCons (dVar 0) aNil)) (gdName 1))
    (sSeq (sAsg (dTup (aCons (dC (.int 1)) (aCons (dC (.int 2)) aNil))) (gdName 2))
    (sSeq (sAsg (dOp rdAddA (dTup (aCons (dTup (aCons (dC .non) (aCons (dTup (aCons (dNeg (dC (.int 2))) (aCons (dC (.int 1)) aNil))) (aCons (dTup (aCons (dC (.int 1)) (aCons (dC (.int 1)) aNil))) aNil)))) (aCons (dTup (aCons (dC .non) (aCons (dTup (aCons (dC (.int 2)) (aCons (dC (.int 1)) aNil))) (aCons (dTup (aCons (dC (.int 1)) (aCons (dC (.int 1)) aNil))) aNil)))) (aCons (dTup (aCons (dC .non) (aCons (dTup (aCons (dC (.int 0)) (aCons (dC (.int 1)) aNil))) (aCons (dVar 2) aNil)))) aNil)))) (dOp rdMulA (dTup (aCons (dTup (aCons (dC .non) (aCons (dTup (aCons (dC (.int 0)) (aCons (dC (.int 1)) aNil))) (aCons (dTup (aCons (dC (.int 1)) (aCons (dC (.int 1)) aNil))) aNil)))) aNil)) (dC (.int 3)))) (gdName 3))
    (sSeq (sIf (dOr (dTest (dOp rdNeX (dCall sp_best_worth (lW E) (aCons (dVar 3) aNil)) (dTup (aCons (dC (.int 1)) (aCons (dC (.int 1)) aNil))))) (dTest (dOp rdNeX (dCall sp_order_worth (lW E) (aCons (dVar 3) (aCons (dCall sp_best_order (lW E) (aCons (dVar 3) aNil)) aNil))) (dTup (aCons (dC (.int 1)) (aCons (dC (.int 1)) aNil)))))) (sRet (dC (.bl false))) sNext)
    (sSeq (sAsg (dCall sp__law_forest (lW E) (aCons (dVar 1) (aCons (dC (.int 8)) aNil))) (gdName 4))
    (sSeq (sIf (dOr (dTest (dOp rdNeX (dCall sp_best_worth (lW E) (aCons (dVar 4) aNil)) (dCall sp__law_by_sets (lW E) (aCons (dVar 4) aNil)))) (dTest (dOp rdNeX (dCall sp_order_worth (lW E) (aCons (dVar 4) (aCons (dCall sp_best_order (lW E) (aCons (dVar 4) aNil)) aNil))) (dCall sp_best_worth (lW E) (aCons (dVar 4) aNil))))) (sRet (dC (.bl false))) sNext)
    (sSeq (sFor (iDRange1 (dC (.int 4))) (gdName 5) (sSeq (sAsg (dCall sp__law_forest (lW E) (aCons (dVar 1) (aCons (dC (.int 5)) aNil))) (gdName 6))
    (sSeq (sPar 7 8 (aCons (dB rdRepr (aCons (dVar 6) aNil)) (aCons (dCall sp__law_orders (lW E) (aCons (dVar 6) aNil)) aNil)))
    (sSeq (sAsg (dCall sp__law_most (lW E) (aCons (dLc (iDS (dVar 8)) (gdName 14) dYes (dOp rdIxA (dCall sp__law_run WF (aCons (dVar 6) (aCons (dVar 14) aNil))) (dC (.int 0))) [14]) aNil)) (gdName 9))
    (sSeq (sFor (iDRange1 (dC (.int 2))) (gdName 10) (sSeq (sAsg (dCall sp_best_order (lW E) (aCons (dVar 6) aNil)) (gdName 11))
    (sSeq (sIf (dOr (dNot (dTest (dIsi "list" (dVar 11)))) (dOr (dTest (dOp rdNotInD (dVar 11) (dVar 8))) (dTest (dOp rdNeX (dCall sp_best_worth (lW E) (aCons (dVar 6) aNil)) (dVar 9))))) (sRet (dC (.bl false))) sNext)
    (sSeq (sIf (dOr (dTest (dOp rdNeX (dOp rdIxA (dCall sp__law_run (lW E) (aCons (dVar 6) (aCons (dVar 11) aNil))) (dC (.int 0))) (dVar 9))) (dOr (dTest (dOp rdNeX (dCall sp_order_worth (lW E) (aCons (dVar 6) (aCons (dVar 11) aNil))) (dVar 9))) (dNot (dTest (dCall sp_is_order (lW E) (aCons (dVar 6) (aCons (dVar 11) aNil))))))) (sRet (dC (.bl false))) sNext)
    (sDrop (dM rdAppend (dVar 11) (aCons (dC .non) aNil)))))))
    (sIf (dTest (dOp rdNeX (dB rdRepr (aCons (dVar 6) aNil)) (dVar 7))) (sRet (dC (.bl false))) sNext))))))
    (sSeq (sAsg (dB rdTuple (aCons (dLc (iDRange1 (dC (.int 8))) (gdName 13) dYes (dTup (aCons (dC .non) (aCons (dTup (aCons (dVar 13) (aCons (dC (.int 1)) aNil))) (aCons (dTup (aCons (dC (.int 1)) (aCons (dC (.int 2)) aNil))) aNil)))) [13]) aNil)) (gdName 12))
    (sRet (dOp rdEqX (dCall sp_best_order (lW E) (aCons (dVar 12) aNil)) (dLst (aCons (dC (.int 7)) (aCons (dC (.int 6)) (aCons (dC (.int 5)) (aCons (dC (.int 4)) (aCons (dC (.int 3)) (aCons (dC (.int 2)) (aCons (dC (.int 1)) (aCons (dC (.int 0)) aNil)))))))))))))))))))
def sp_law : SpD := spOf 1 N_law r_law
end LW
set_option maxRecDepth 100000
set_option maxHeartbeats 0
namespace LW
open PySem PySem.Spec PyProof.Rows L2 DL
def top (i : Nat) : Stmt := PySem.Challenge.pw_onenumber_k54_best_orders.main.body.getD i (.Pass ⟨0, 0, 0, 0⟩)
section
variable {P : Program} {w : World} {K : PySem.W.Frag} {mg : Str → Option Value} {base : Heap}
abbrev s_is_integer : Stmt := top 7
theorem sc_is_integer : FnScope N_is_integer ["value"] (defScope s_is_integer) := ⟨rfl, rfl, rfl, by decide +kernel, rfl, by decide +kernel, by decide +kernel⟩
theorem ok_is_integer (d : DefAt K mg "is_integer" s_is_integer ["value"]) (m_bool : mg "bool" = none) (m_int : mg "int" = none) (m_isinstance : mg "isinstance" = none) : FnD P w K mg base 1 "is_integer" sp_is_integer :=
  fnD_at d sc_is_integer (fun _ _ _ _ h => h.1) fun f cdv A outer s H S0 E c => ⟨r_is_integer E, (dss_one (ds_ret (de_and (de_isi (T := "int") (dv 0) m_isinstance m_int boot_ty_int (by decide)) (de_one (de_not (de_isi (T := "bool") (dv 0) m_isinstance m_bool boot_ty_bool (by decide))))))), fun ds Q h => h.2⟩

abbrev s_divisor_of : Stmt := top 8
theorem sc_divisor_of : FnScope N_divisor_of ["one", "other"] (defScope s_divisor_of) := ⟨rfl, rfl, rfl, by decide +kernel, rfl, by decide +kernel, by decide +kernel⟩
theorem ok_divisor_of (d : DefAt K mg "divisor_of" s_divisor_of ["one", "other"]) (m_abs : mg "abs" = none) : FnD P w K mg base 1 "divisor_of" sp_divisor_of :=
  fnD_at d sc_divisor_of (fun _ _ _ _ h => h.1) fun f cdv A outer s H S0 E c => ⟨r_divisor_of E, (dss_cons (ds_par (i := 0) (j := 1) c.calm sc_divisor_of.nd (da_cons (de_B call_abs (bd_abs (K := ev _)) m_abs boot_f_abs (da_cons (dv 0) da_nil)) (da_cons (de_B call_abs (bd_abs (K := ev _)) m_abs boot_f_abs (da_cons (dv 1) da_nil)) da_nil)))
    (dss_cons (ds_while c.own (dt_cmp (DL.op_neX c.u64) (opd_r2D (K := ev _)) (dv 1) de_int) (dss_one (ds_par (i := 0) (j := 1) c.calm sc_divisor_of.nd (da_cons (dv 1) (da_cons (de_mod (dv 0) (dv 1)) da_nil)))))
    (dss_one (ds_ret (dv 0))))), fun ds Q h => h.2⟩

abbrev s_is_fraction : Stmt := top 9
theorem sc_is_fraction : FnScope N_is_fraction ["value"] (defScope s_is_fraction) := ⟨rfl, rfl, rfl, by decide +kernel, rfl, by decide +kernel, by decide +kernel⟩
theorem ok_is_fraction (d : DefAt K mg "is_fraction" s_is_fraction ["value"]) (F_divisor_of : FnD P w K mg base 1 "divisor_of" sp_divisor_of) (F_is_integer : FnD P w K mg base 1 "is_integer" sp_is_integer) (m_isinstance : mg "isinstance" = none) (m_len : mg "len" = none) (m_tuple : mg "tuple" = none) : FnD P w K mg base 2 "is_fraction" sp_is_fraction :=
  fnD_at d sc_is_fraction (fun _ _ _ _ h => h.1) fun f cdv A outer s H S0 E c => ⟨r_is_fraction E, (dss_cons (ds_if (DW.dt (dw_or (dt_not (dt_val (de_isi (T := "tuple") (dv 0) m_isinstance m_tuple boot_ty_tuple (by decide)))) (dw_or (dt_cmp (DL.op_neX c.u64) (opd_r2D (K := ev _)) (de_B call_len_seq (bd_len (K := ev _)) m_len boot_f_len (da_cons (dv 0) da_nil)) de_int) (dw_or (dt_not (dt_val (de_call F_is_integer c (da_cons (de_ixA c (dv 0) de_int) da_nil)))) (dw_or1 (dt_not (dt_val (de_call F_is_integer c (da_cons (de_ixA c (dv 0) de_int) da_nil))))))))) (dss_one (ds_ret de_bl)) dss_nil)
    (dss_one (ds_ret (de_and (de_cmp op_gt (opd_cmp (K := ev _)) (de_ixA c (dv 0) de_int) de_int) (de_one (de_cmp (DL.op_eqX c.u64) (opd_r2D (K := ev _)) (de_call F_divisor_of c (da_cons (de_ixA c (dv 0) de_int) (da_cons (de_ixA c (dv 0) de_int) da_nil))) de_int)))))), fun ds Q h => h.2⟩

abbrev s_lowest : Stmt := top 10
theorem sc_lowest : FnScope N_lowest ["top", "bottom"] (defScope s_lowest) := ⟨rfl, rfl, rfl, by decide +kernel, rfl, by decide +kernel, by decide +kernel⟩
theorem ok_lowest (d : DefAt K mg "lowest" s_lowest ["top", "bottom"]) (F_divisor_of : FnD P w K mg base 1 "divisor_of" sp_divisor_of) : FnD P w K mg base 2 "lowest" sp_lowest :=
  fnD_at d sc_lowest (fun _ _ _ _ h => h.1) fun f cdv A outer s H S0 E c => ⟨r_lowest E, (dss_cons (ds_set (i := 2) sc_lowest.nd (de_call F_divisor_of c (da_cons (dv 0) (da_cons (dv 1) da_nil))))
    (dss_cons (ds_if (dt_cmp op_lt (opd_cmp (K := ev _)) (dv 1) de_int) (dss_one (ds_set (i := 2) sc_lowest.nd (de_sub de_int (dv 2)))) dss_nil)
    (dss_one (ds_ret (de_tup (da_cons (de_divX (dv 0) (dv 2)) (da_cons (de_divX (dv 1) (dv 2)) da_nil))))))), fun ds Q h => h.2⟩

abbrev s_add : Stmt := top 11
theorem sc_add : FnScope N_add ["one", "other"] (defScope s_add) := ⟨rfl, rfl, rfl, by decide +kernel, rfl, by decide +kernel, by decide +kernel⟩
theorem ok_add (d : DefAt K mg "add" s_add ["one", "other"]) (F_lowest : FnD P w K mg base 2 "lowest" sp_lowest) : FnD P w K mg base 3 "add" sp_add :=
  fnD_at d sc_add (fun _ _ _ _ h => h.1) fun f cdv A outer s H S0 E c => ⟨r_add E, (dss_one (ds_ret (de_call F_lowest c (da_cons (de_addA (de_mulA (de_ixA c (dv 0) de_int) (de_ixA c (dv 1) de_int)) (de_mulA (de_ixA c (dv 1) de_int) (de_ixA c (dv 0) de_int))) (da_cons (de_mulA (de_ixA c (dv 0) de_int) (de_ixA c (dv 1) de_int)) da_nil))))), fun ds Q h => h.2⟩

abbrev s_less : Stmt := top 12
theorem sc_less : FnScope N_less ["one", "other"] (defScope s_less) := ⟨rfl, rfl, rfl, by decide +kernel, rfl, by decide +kernel, by decide +kernel⟩
theorem ok_less (d : DefAt K mg "less" s_less ["one", "other"]) (F_lowest : FnD P w K mg base 2 "lowest" sp_lowest) : FnD P w K mg base 3 "less" sp_less :=
  fnD_at d sc_less (fun _ _ _ _ h => h.1) fun f cdv A outer s H S0 E c => ⟨r_less E, (dss_one (ds_ret (de_call F_lowest c (da_cons (de_sub (de_mulA (de_ixA c (dv 0) de_int) (de_ixA c (dv 1) de_int)) (de_mulA (de_ixA c (dv 1) de_int) (de_ixA c (dv 0) de_int))) (da_cons (de_mulA (de_ixA c (dv 0) de_int) (de_ixA c (dv 1) de_int)) da_nil))))), fun ds Q h => h.2⟩

abbrev s_mul : Stmt := top 13
theorem sc_mul : FnScope N_mul ["one", "other"] (defScope s_mul) := ⟨rfl, rfl, rfl, by decide +kernel, rfl, by decide +kernel, by decide +kernel⟩
theorem ok_mul (d : DefAt K mg "mul" s_mul ["one", "other"]) (F_lowest : FnD P w K mg base 2 "lowest" sp_lowest) : FnD P w K mg base 3 "mul" sp_mul :=
  fnD_at d sc_mul (fun _ _ _ _ h => h.1) fun f cdv A outer s H S0 E c => ⟨r_mul E, (dss_one (ds_ret (de_call F_lowest c (da_cons (de_mulA (de_ixA c (dv 0) de_int) (de_ixA c (dv 1) de_int)) (da_cons (de_mulA (de_ixA c (dv 0) de_int) (de_ixA c (dv 1) de_int)) da_nil))))), fun ds Q h => h.2⟩

abbrev s_order_of : Stmt := top 14
theorem sc_order_of : FnScope N_order_of ["one", "other"] (defScope s_order_of) := ⟨rfl, rfl, rfl, by decide +kernel, rfl, by decide +kernel, by decide +kernel⟩
theorem ok_order_of (d : DefAt K mg "order_of" s_order_of ["one", "other"]) (m_int : mg "int" = none) : FnD P w K mg base 1 "order_of" sp_order_of :=
  fnD_at d sc_order_of (fun _ _ _ _ h => h.1) fun f cdv A outer s H S0 E c => ⟨r_order_of E, (dss_cons (ds_set (i := 2) sc_order_of.nd (de_sub (de_mulA (de_ixA c (dv 0) de_int) (de_ixA c (dv 1) de_int)) (de_mulA (de_ixA c (dv 1) de_int) (de_ixA c (dv 0) de_int))))
    (dss_one (ds_ret (de_sub (de_BT call_int1 (bd_int (K := ev _)) m_int boot_ty_int (da_cons (de_cmp op_gt (opd_cmp (K := ev _)) (dv 2) de_int) da_nil)) (de_BT call_int1 (bd_int (K := ev _)) m_int boot_ty_int (da_cons (de_cmp op_lt (opd_cmp (K := ev _)) (dv 2) de_int) da_nil)))))), fun ds Q h => h.2⟩

abbrev s_is_parent : Stmt := top 17
theorem sc_is_parent : FnScope N_is_parent ["value", "number"] (defScope s_is_parent) := ⟨rfl, rfl, rfl, by decide +kernel, rfl, by decide +kernel, by decide +kernel⟩
theorem ok_is_parent (d : DefAt K mg "is_parent" s_is_parent ["value", "number"]) (F_is_integer : FnD P w K mg base 1 "is_integer" sp_is_integer) : FnD P w K mg base 2 "is_parent" sp_is_parent :=
  fnD_at d sc_is_parent (fun _ _ _ _ h => h.1) fun f cdv A outer s H S0 E c => ⟨r_is_parent E, (dss_one (ds_ret (de_or (de_cmp op_isN (opd_isN (K := ev _)) (dv 0) de_non) (de_one (de_and (de_call F_is_integer c (da_cons (dv 0) da_nil)) (de_one (de_chain op_le (opd_cmp (K := ev _)) op_lt (opd_cmp (K := ev _)) de_int (dv 0) (dv 1)))))))), fun ds Q h => h.2⟩

abbrev s_is_factor : Stmt := top 18
theorem sc_is_factor : FnScope N_is_factor ["value"] (defScope s_is_factor) := ⟨rfl, rfl, rfl, by decide +kernel, rfl, by decide +kernel, by decide +kernel⟩
theorem ok_is_factor (d : DefAt K mg "is_factor" s_is_factor ["value"]) (F_is_fraction : FnD P w K mg base 2 "is_fraction" sp_is_fraction) : FnD P w K mg base 3 "is_factor" sp_is_factor :=
  fnD_at d sc_is_factor (fun _ _ _ _ h => h.1) fun f cdv A outer s H S0 E c => ⟨r_is_factor E, (dss_one (ds_ret (de_and (de_call F_is_fraction c (da_cons (dv 0) da_nil)) (de_one (de_cmp op_ge (opd_cmp (K := ev _)) (de_ixA c (dv 0) de_int) de_int))))), fun ds Q h => h.2⟩

abbrev s_is_task : Stmt := top 19
theorem sc_is_task : FnScope N_is_task ["value", "number"] (defScope s_is_task) := ⟨rfl, rfl, rfl, by decide +kernel, rfl, by decide +kernel, by decide +kernel⟩
theorem ok_is_task (d : DefAt K mg "is_task" s_is_task ["value", "number"]) (F_is_factor : FnD P w K mg base 3 "is_factor" sp_is_factor) (F_is_fraction : FnD P w K mg base 3 "is_fraction" sp_is_fraction) (F_is_parent : FnD P w K mg base 3 "is_parent" sp_is_parent) (m_isinstance : mg "isinstance" = none) (m_len : mg "len" = none) (m_tuple : mg "tuple" = none) : FnD P w K mg base 4 "is_task" sp_is_task :=
  fnD_at d sc_is_task (fun _ _ _ _ h => h.1) fun f cdv A outer s H S0 E c => ⟨r_is_task E, (dss_cons (ds_if (DW.dt (dw_or (dt_not (dt_val (de_isi (T := "tuple") (dv 0) m_isinstance m_tuple boot_ty_tuple (by decide)))) (dw_or1 (dt_cmp (DL.op_neX c.u64) (opd_r2D (K := ev _)) (de_B call_len_seq (bd_len (K := ev _)) m_len boot_f_len (da_cons (dv 0) da_nil)) de_int)))) (dss_one (ds_ret de_bl)) dss_nil)
    (dss_one (ds_ret (de_and (de_call F_is_parent c (da_cons (de_ixA c (dv 0) de_int) (da_cons (dv 1) da_nil))) (de_and (de_call F_is_fraction c (da_cons (de_ixA c (dv 0) de_int) da_nil)) (de_one (de_call F_is_factor c (da_cons (de_ixA c (dv 0) de_int) da_nil)))))))), fun ds Q h => h.2⟩

abbrev s_is_forest : Stmt := top 20
theorem sc_is_forest : FnScope N_is_forest ["value"] (defScope s_is_forest) := ⟨rfl, rfl, rfl, by decide +kernel, rfl, by decide +kernel, by decide +kernel⟩
theorem ok_is_forest (d : DefAt K mg "is_forest" s_is_forest ["value"]) (F_is_task : FnD P w K mg base 4 "is_task" sp_is_task) (m_all : mg "all" = none) (m_enumerate : mg "enumerate" = none) (m_isinstance : mg "isinstance" = none) (m_len : mg "len" = none) (m_tuple : mg "tuple" = none) (g_MOST_TASKS : GlobD ⟨K, P, w⟩ mg "MOST_TASKS" G_MOST_TASKS) : FnD P w K mg base 5 "is_forest" sp_is_forest :=
  fnD_at d sc_is_forest (fun _ _ _ _ h => h.1) fun f cdv A outer s H S0 E c => ⟨r_is_forest E, (dss_cons (ds_if (DW.dt (dw_or (dt_not (dt_val (de_isi (T := "tuple") (dv 0) m_isinstance m_tuple boot_ty_tuple (by decide)))) (dw_or1 (dt_not (dt_chain op_le (opd_cmp (K := ev _)) op_le (opd_cmp (K := ev _)) de_int (de_B call_len_seq (bd_len (K := ev _)) m_len boot_f_len (da_cons (dv 0) da_nil)) (de_glob g_MOST_TASKS)))))) (dss_one (ds_ret de_bl)) dss_nil)
    (dss_one (ds_ret (de_B (cr_all c.calm) (bd_all (K := ev _)) m_all boot_f_all (da_cons (de_lc c sc_is_forest.nd (di_enum (dv 0) m_enumerate) (blkOk_by (own := [("number", 1), ("task", 2)]) (N := N_is_forest) (sc := defScope s_is_forest) (by decide +kernel)) (fun s1 H1 C1 cl1 fp1 => (pg_tup (c.blk s1 H1 _ _ fp1).calm (pgs_cons (pg_name (i := 1) sc_is_forest.nd rfl (by first | exact Or.inl rfl | exact Or.inr rfl)) (pgs_cons (pg_name (i := 2) sc_is_forest.nd rfl (by first | exact Or.inl rfl | exact Or.inr rfl)) pgs_nil)))) (gok_tup (gsok_cons (gok_name (by decide)) (gsok_cons (gok_name (by decide)) gsok_nil))) (fun s1 H1 C1 cl1 fp1 => dts_nil) (fun s1 H1 C1 cl1 fp1 => (de_call F_is_task (c.blk s1 H1 _ _ fp1) (da_cons (dv 2) (da_cons (dv 1) da_nil))))) da_nil))))), fun ds Q h => h.2⟩

abbrev s_need_forest : Stmt := top 21
theorem sc_need_forest : FnScope N_need_forest ["value"] (defScope s_need_forest) := ⟨rfl, rfl, rfl, by decide +kernel, rfl, by decide +kernel, by decide +kernel⟩
theorem ok_need_forest (d : DefAt K mg "need_forest" s_need_forest ["value"]) (F_is_forest : FnD P w K mg base 5 "is_forest" sp_is_forest) : FnD P w K mg base 6 "need_forest" sp_need_forest :=
  fnD_at d sc_need_forest (fun _ _ _ _ h => h.1) fun f cdv A outer s H S0 E c => ⟨r_need_forest E, (dss_one (ds_if (dt_not (dt_val (de_call F_is_forest c (da_cons (dv 0) da_nil)))) (dss_one ds_never) dss_nil)), fun ds Q h => h.2⟩

abbrev s_is_order : Stmt := top 22
theorem sc_is_order : FnScope N_is_order ["forest", "value"] (defScope s_is_order) := ⟨rfl, rfl, rfl, by decide +kernel, rfl, by decide +kernel, by decide +kernel⟩
theorem ok_is_order (d : DefAt K mg "is_order" s_is_order ["forest", "value"]) (F_is_integer : FnD P w K mg base 6 "is_integer" sp_is_integer) (F_need_forest : FnD P w K mg base 6 "need_forest" sp_need_forest) (m_all : mg "all" = none) (m_enumerate : mg "enumerate" = none) (m_isinstance : mg "isinstance" = none) (m_len : mg "len" = none) (m_list : mg "list" = none) (m_range : mg "range" = none) (m_sorted : mg "sorted" = none) : FnD P w K mg base 7 "is_order" sp_is_order :=
  fnD_at d sc_is_order (fun _ _ _ _ h => h.1) fun f cdv A outer s H S0 E c => ⟨r_is_order E, (dss_cons (ds_expr (de_call F_need_forest c (da_cons (dv 0) da_nil)))
    (dss_cons (ds_if (DW.dt (dw_or (dt_not (dt_val (de_isi (T := "list") (dv 1) m_isinstance m_list boot_ty_list (by decide)))) (dw_or1 (dt_not (dt_val (de_B (cr_all c.calm) (bd_all (K := ev _)) m_all boot_f_all (da_cons (de_lc c sc_is_order.nd (di_seq (dv 1)) (blkOk_by (own := [("number", 4)]) (N := N_is_order) (sc := defScope s_is_order) (by decide +kernel)) (fun s3 H3 C3 cl3 fp3 => (pg_name (i := 4) sc_is_order.nd rfl (by first | exact Or.inl rfl | exact Or.inr rfl))) (gok_name (by decide)) (fun s3 H3 C3 cl3 fp3 => dts_nil) (fun s3 H3 C3 cl3 fp3 => (de_call F_is_integer (c.blk s3 H3 _ _ fp3) (da_cons (dv 4) da_nil)))) da_nil))))))) (dss_one (ds_ret de_bl)) dss_nil)
    (dss_cons (ds_if (dt_cmp (DL.op_neX c.u64) (opd_r2D (K := ev _)) (de_B cr_sortedI (bd_sorted (K := ev _)) m_sorted boot_f_sorted (da_cons (dv 1) da_nil)) (de_listRg c m_list m_range (de_B call_len_seq (bd_len (K := ev _)) m_len boot_f_len (da_cons (dv 0) da_nil)))) (dss_one (ds_ret de_bl)) dss_nil)
    (dss_cons (ds_set (i := 2) sc_is_order.nd (de_dc c sc_is_order.nd (di_enum (dv 1) m_enumerate) (blkOk_by (own := [("place", 3), ("number", 4)]) (N := N_is_order) (sc := defScope s_is_order) (by decide +kernel)) (fun s2 H2 C2 cl2 fp2 => (pg_tup (c.blk s2 H2 _ _ fp2).calm (pgs_cons (pg_name (i := 3) sc_is_order.nd rfl (by first | exact Or.inl rfl | exact Or.inr rfl)) (pgs_cons (pg_name (i := 4) sc_is_order.nd rfl (by first | exact Or.inl rfl | exact Or.inr rfl)) pgs_nil)))) (gok_tup (gsok_cons (gok_name (by decide)) (gsok_cons (gok_name (by decide)) gsok_nil))) (fun s2 H2 C2 cl2 fp2 => dts_nil) (fun s2 H2 C2 cl2 fp2 => (dv 4)) (fun s2 H2 C2 cl2 fp2 => (dv 3))))
    (dss_one (ds_ret (de_B (cr_all c.calm) (bd_all (K := ev _)) m_all boot_f_all (da_cons (de_lc c sc_is_order.nd (di_enum (dv 0) m_enumerate) (blkOk_by (own := [("number", 4), ("task", 5)]) (N := N_is_order) (sc := defScope s_is_order) (by decide +kernel)) (fun s1 H1 C1 cl1 fp1 => (pg_tup (c.blk s1 H1 _ _ fp1).calm (pgs_cons (pg_name (i := 4) sc_is_order.nd rfl (by first | exact Or.inl rfl | exact Or.inr rfl)) (pgs_cons (pg_name (i := 5) sc_is_order.nd rfl (by first | exact Or.inl rfl | exact Or.inr rfl)) pgs_nil)))) (gok_tup (gsok_cons (gok_name (by decide)) (gsok_cons (gok_name (by decide)) gsok_nil))) (fun s1 H1 C1 cl1 fp1 => dts_nil) (fun s1 H1 C1 cl1 fp1 => (de_or (de_cmp op_isN (opd_isN (K := ev _)) (de_ixA (c.blk s1 H1 _ _ fp1) (dv 5) de_int) de_non) (de_one (de_cmp op_lt (opd_cmp (K := ev _)) (de_ixA (c.blk s1 H1 _ _ fp1) (dv 2) (de_ixA (c.blk s1 H1 _ _ fp1) (dv 5) de_int)) (de_ixA (c.blk s1 H1 _ _ fp1) (dv 2) (dv 4))))))) da_nil)))))))), fun ds Q h => h.2⟩

abbrev s_run_of : Stmt := top 24
theorem sc_run_of : FnScope N_run_of ["forest", "numbers"] (defScope s_run_of) := ⟨rfl, rfl, rfl, by decide +kernel, rfl, by decide +kernel, by decide +kernel⟩
theorem ok_run_of (d : DefAt K mg "run_of" s_run_of ["forest", "numbers"]) (F_add : FnD P w K mg base 3 "add" sp_add) (F_less : FnD P w K mg base 3 "less" sp_less) (F_mul : FnD P w K mg base 3 "mul" sp_mul) (g_NOUGHT : GlobD ⟨K, P, w⟩ mg "NOUGHT" G_NOUGHT) (g_WHOLE : GlobD ⟨K, P, w⟩ mg "WHOLE" G_WHOLE) : FnD P w K mg base 4 "run_of" sp_run_of :=
  fnD_at d sc_run_of (fun _ _ _ _ h => h.1) fun f cdv A outer s H S0 E c => ⟨r_run_of E, (dss_cons (ds_par (i := 2) (j := 3) c.calm sc_run_of.nd (da_cons (de_glob g_NOUGHT) (da_cons (de_glob g_WHOLE) da_nil)))
    (dss_cons (ds_for (vs := [4]) c.own c.calm (di_seq (dv 1)) (pg_name (i := 4) sc_run_of.nd rfl (by first | exact Or.inl rfl | exact Or.inr rfl)) (gok_name (by decide)) (dss_cons (ds_set (i := 2) sc_run_of.nd (de_call F_add c (da_cons (dv 2) (da_cons (de_call F_mul c (da_cons (dv 3) (da_cons (de_ixA c (de_ixA c (dv 0) (dv 4)) de_int) da_nil))) da_nil))))
    (dss_one (ds_set (i := 3) sc_run_of.nd (de_call F_mul c (da_cons (dv 3) (da_cons (de_ixA c (de_ixA c (dv 0) (dv 4)) de_int) da_nil)))))))
    (dss_one (ds_ret (de_tup (da_cons (de_tup (da_cons (dv 2) (da_cons (de_call F_less c (da_cons (de_glob g_WHOLE) (da_cons (dv 3) da_nil))) da_nil))) (da_cons (dv 3) da_nil))))))), fun ds Q h => h.2⟩

abbrev s_order_worth : Stmt := top 23
theorem sc_order_worth : FnScope N_order_worth ["forest", "order"] (defScope s_order_worth) := ⟨rfl, rfl, rfl, by decide +kernel, rfl, by decide +kernel, by decide +kernel⟩
theorem ok_order_worth (d : DefAt K mg "order_worth" s_order_worth ["forest", "order"]) (F_is_order : FnD P w K mg base 7 "is_order" sp_is_order) (F_run_of : FnD P w K mg base 7 "run_of" sp_run_of) : FnD P w K mg base 8 "order_worth" sp_order_worth :=
  fnD_at d sc_order_worth (fun _ _ _ _ h => h.1) fun f cdv A outer s H S0 E c => ⟨r_order_worth E, (dss_cons (ds_if (dt_not (dt_val (de_call F_is_order c (da_cons (dv 0) (da_cons (dv 1) da_nil))))) (dss_one ds_never) dss_nil)
    (dss_one (ds_ret (de_ixA c (de_ixA c (de_call F_run_of c (da_cons (dv 0) (da_cons (dv 1) da_nil))) de_int) de_int)))), fun ds Q h => h.2⟩

abbrev s_best_of : Stmt := top 25
theorem sc_best_of : FnScope N_best_of ["forest"] (defScope s_best_of) := ⟨rfl, rfl, rfl, by decide +kernel, rfl, by decide +kernel, by decide +kernel⟩
theorem ok_best_of (d : DefAt K mg "best_of" s_best_of ["forest"]) (F_add : FnD P w K mg base 3 "add" sp_add) (F_mul : FnD P w K mg base 3 "mul" sp_mul) (F_order_of : FnD P w K mg base 3 "order_of" sp_order_of) (m_enumerate : mg "enumerate" = none) (m_len : mg "len" = none) (m_list : mg "list" = none) (m_range : mg "range" = none) (m_sorted : mg "sorted" = none) (m_tuple : mg "tuple" = none) (g_NOUGHT : GlobD ⟨K, P, w⟩ mg "NOUGHT" G_NOUGHT) (g_WHOLE : GlobD ⟨K, P, w⟩ mg "WHOLE" G_WHOLE) : FnD P w K mg base 4 "best_of" sp_best_of :=
  fnD_at d sc_best_of (fun _ _ _ _ h => h.1) fun f cdv A outer s H S0 E c => ⟨r_best_of E, (dss_cons (ds_set (i := 1) sc_best_of.nd (de_dictN1 c (de_tup da_nil) (de_tup (da_cons (de_glob g_NOUGHT) (da_cons (de_glob g_WHOLE) (da_cons (de_lst da_nil) da_nil))))))
    (dss_cons (ds_for (vs := [2]) c.own c.calm (di_range1 (de_B call_len_seq (bd_len (K := ev _)) m_len boot_f_len (da_cons (dv 0) da_nil)) m_range) (pg_name (i := 2) sc_best_of.nd rfl (by first | exact Or.inl rfl | exact Or.inr rfl)) (gok_name (by decide)) (dss_cons (ds_set (i := 3) sc_best_of.nd de_dictN0)
    (dss_cons (ds_for (vs := [4, 5, 6, 7]) c.own c.calm (di_items (dv 1)) (pg_tup c.calm (pgs_cons (pg_name (i := 4) sc_best_of.nd rfl (by first | exact Or.inl rfl | exact Or.inr rfl)) (pgs_cons (pg_tup c.calm (pgs_cons (pg_name (i := 5) sc_best_of.nd rfl (by first | exact Or.inl rfl | exact Or.inr rfl)) (pgs_cons (pg_name (i := 6) sc_best_of.nd rfl (by first | exact Or.inl rfl | exact Or.inr rfl)) (pgs_cons (pg_name (i := 7) sc_best_of.nd rfl (by first | exact Or.inl rfl | exact Or.inr rfl)) pgs_nil)))) pgs_nil))) (gok_tup (gsok_cons (gok_name (by decide)) (gsok_cons (gok_tup (gsok_cons (gok_name (by decide)) (gsok_cons (gok_name (by decide)) (gsok_cons (gok_name (by decide)) gsok_nil)))) gsok_nil))) (dss_one (ds_for (vs := [8, 9, 10, 11]) c.own c.calm (di_enum (dv 0) m_enumerate) (pg_tup c.calm (pgs_cons (pg_name (i := 8) sc_best_of.nd rfl (by first | exact Or.inl rfl | exact Or.inr rfl)) (pgs_cons (pg_tup c.calm (pgs_cons (pg_name (i := 9) sc_best_of.nd rfl (by first | exact Or.inl rfl | exact Or.inr rfl)) (pgs_cons (pg_name (i := 10) sc_best_of.nd rfl (by first | exact Or.inl rfl | exact Or.inr rfl)) (pgs_cons (pg_name (i := 11) sc_best_of.nd rfl (by first | exact Or.inl rfl | exact Or.inr rfl)) pgs_nil)))) pgs_nil))) (gok_tup (gsok_cons (gok_name (by decide)) (gsok_cons (gok_tup (gsok_cons (gok_name (by decide)) (gsok_cons (gok_name (by decide)) (gsok_cons (gok_name (by decide)) gsok_nil)))) gsok_nil))) (dss_one (ds_if (DW.dt (dw_and (dt_cmp (DL.op_notInD c.u65) (opd_r2D (K := ev _)) (dv 8) (dv 4)) (dw_and1 (DW.dt (dw_or (dt_cmp op_isN (opd_isN (K := ev _)) (dv 9) de_non) (dw_or1 (dt_cmp (DL.op_inD c.u65) (opd_r2D (K := ev _)) (dv 9) (dv 4)))))))) (dss_cons (ds_par (i := 12) (j := 13) c.calm sc_best_of.nd (da_cons (de_BT call_tuple_of (bd_tuple (K := ev _)) m_tuple boot_ty_tuple (da_cons (de_B cr_sortedI (bd_sorted (K := ev _)) m_sorted boot_f_sorted (da_cons (de_lst (da_star (dv 4) (da_cons (dv 8) da_nil))) da_nil)) da_nil)) (da_cons (de_call F_add c (da_cons (dv 5) (da_cons (de_call F_mul c (da_cons (dv 6) (da_cons (dv 10) da_nil))) da_nil))) da_nil)))
    (dss_one (ds_if (DW.dt (dw_or (dt_cmp (DL.op_notInD c.u65) (opd_r2D (K := ev _)) (dv 12) (dv 3)) (dw_or1 (dt_cmp op_gt (opd_cmp (K := ev _)) (de_call F_order_of c (da_cons (dv 13) (da_cons (de_ixA c (de_ixA c (dv 3) (dv 12)) de_int) da_nil))) de_int)))) (dss_one (ds_sub (de_tup (da_cons (dv 13) (da_cons (de_call F_mul c (da_cons (dv 6) (da_cons (dv 11) da_nil))) (da_cons (de_lst (da_star (dv 7) (da_cons (dv 8) da_nil))) da_nil)))) (dv 3) (dv 12) (set_all c.u64) (sd_rsD (K := ev _)))) dss_nil))) dss_nil)))))
    (dss_one (ds_set (i := 1) sc_best_of.nd (dv 3))))))
    (dss_one (ds_ret (de_ixA c (de_lvals c m_list (dv 1)) de_int))))), fun ds Q h => h.2⟩

abbrev s_best_worth : Stmt := top 26
theorem sc_best_worth : FnScope N_best_worth ["forest"] (defScope s_best_worth) := ⟨rfl, rfl, rfl, by decide +kernel, rfl, by decide +kernel, by decide +kernel⟩
theorem ok_best_worth (d : DefAt K mg "best_worth" s_best_worth ["forest"]) (F_best_of : FnD P w K mg base 6 "best_of" sp_best_of) (F_need_forest : FnD P w K mg base 6 "need_forest" sp_need_forest) : FnD P w K mg base 7 "best_worth" sp_best_worth :=
  fnD_at d sc_best_worth (fun _ _ _ _ h => h.1) fun f cdv A outer s H S0 E c => ⟨r_best_worth E, (dss_cons (ds_expr (de_call F_need_forest c (da_cons (dv 0) da_nil)))
    (dss_one (ds_ret (de_ixA c (de_call F_best_of c (da_cons (dv 0) da_nil)) de_int)))), fun ds Q h => h.2⟩

abbrev s_best_order : Stmt := top 27
theorem sc_best_order : FnScope N_best_order ["forest"] (defScope s_best_order) := ⟨rfl, rfl, rfl, by decide +kernel, rfl, by decide +kernel, by decide +kernel⟩
theorem ok_best_order (d : DefAt K mg "best_order" s_best_order ["forest"]) (F_best_of : FnD P w K mg base 6 "best_of" sp_best_of) (F_need_forest : FnD P w K mg base 6 "need_forest" sp_need_forest) : FnD P w K mg base 7 "best_order" sp_best_order :=
  fnD_at d sc_best_order (fun _ _ _ _ h => h.1) fun f cdv A outer s H S0 E c => ⟨r_best_order E, (dss_cons (ds_expr (de_call F_need_forest c (da_cons (dv 0) da_nil)))
    (dss_one (ds_ret (de_ixA c (de_call F_best_of c (da_cons (dv 0) da_nil)) de_int)))), fun ds Q h => h.2⟩

abbrev s__law_pen : Stmt := top 29
theorem sc__law_pen : FnScope N__law_pen ["_law_script"] (defScope s__law_pen) := ⟨rfl, rfl, rfl, by decide +kernel, rfl, by decide +kernel, by decide +kernel⟩
theorem ok__law_pen (d : DefAt K mg "_law_pen" s__law_pen ["_law_script"]) (m_list : mg "list" = none) : FnD P w K mg base 1 "_law_pen" sp__law_pen :=
  fnD_at d sc__law_pen (fun _ _ _ _ h => h.1) fun f cdv A outer s H S0 E c => ⟨r__law_pen E, (dss_one (ds_ret (de_lst (da_cons (de_BT call_list_of (bd_list (K := ev _)) m_list boot_ty_list (da_cons (de_slice (dv 0) do_none (do_some de_int)) da_nil)) (da_cons de_int (da_cons de_int da_nil)))))), fun ds Q h => h.2⟩

abbrev s__law_next : Stmt := top 30
theorem sc__law_next : FnScope N__law_next ["_law_pen_here"] (defScope s__law_next) := ⟨rfl, rfl, rfl, by decide +kernel, rfl, by decide +kernel, by decide +kernel⟩
theorem ok__law_next (d : DefAt K mg "_law_next" s__law_next ["_law_pen_here"]) (m_int : mg "int" = none) (m_len : mg "len" = none) : FnD P w K mg base 1 "_law_next" sp__law_next :=
  fnD_at d sc__law_next (fun _ _ _ _ h => h.1) fun f cdv A outer s H S0 E c => ⟨r__law_next E, (dss_cons (ds_set (i := 1) sc__law_next.nd (de_ixA c (dv 0) de_int))
    (dss_cons (ds_sub (de_addA (dv 1) de_int) (dv 0) de_int (set_all c.u64) (sd_rsD (K := ev _)))
    (dss_cons (ds_set (i := 2) sc__law_next.nd (de_addA (de_mulA (dv 1) de_int) de_int))
    (dss_cons (ds_if (dt_cmp (DL.op_neX c.u64) (opd_r2D (K := ev _)) (de_ixA c (dv 0) de_int) (de_lst da_nil)) (dss_one (ds_set (i := 2) sc__law_next.nd (de_ixA c (de_ixA c (dv 0) de_int) (de_mod (de_BT call_int1 (bd_int (K := ev _)) m_int boot_ty_int (da_cons (dv 1) da_nil)) (de_B call_len_seq (bd_len (K := ev _)) m_len boot_f_len (da_cons (de_ixA c (dv 0) de_int) da_nil)))))) dss_nil)
    (dss_cons (ds_if (DW.dt (dw_and (dt_cmp op_lt (opd_cmp (K := ev _)) (dv 1) (de_B call_len_seq (bd_len (K := ev _)) m_len boot_f_len (da_cons (de_ixA c (dv 0) de_int) da_nil))) (dw_and1 (dt_cmp op_ge (opd_cmp (K := ev _)) (dv 2) (de_pow de_int de_int))))) (dss_one (ds_ret (dv 2))) dss_nil)
    (dss_cons (ds_set (i := 3) sc__law_next.nd (de_mod (de_BT call_int1 (bd_int (K := ev _)) m_int boot_ty_int (da_cons (de_addA (de_addA (de_mod (de_BT call_int1 (bd_int (K := ev _)) m_int boot_ty_int (da_cons (dv 2) da_nil)) de_int) (de_mulA (dv 1) de_int)) de_int) da_nil)) de_int))
    (dss_cons (ds_set (i := 4) sc__law_next.nd (de_mod (de_BT call_int1 (bd_int (K := ev _)) m_int boot_ty_int (da_cons (de_addA (de_addA (de_mulA (dv 3) (dv 3)) (de_mulA (dv 1) de_int)) de_int) da_nil)) de_int))
    (dss_cons (ds_set (i := 5) sc__law_next.nd (de_mod (de_BT call_int1 (bd_int (K := ev _)) m_int boot_ty_int (da_cons (de_addA (de_addA (de_mulA (dv 4) (dv 4)) (dv 3)) (de_mulA (de_mulA (dv 1) (dv 1)) de_int)) da_nil)) de_int))
    (dss_one (ds_ret (de_addA (de_mulA (de_addA (de_mulA (dv 5) de_int) (dv 4)) de_int) (dv 3)))))))))))), fun ds Q h => h.2⟩

abbrev s__law_draw : Stmt := top 31
theorem sc__law_draw : FnScope N__law_draw ["_law_pen_here", "_law_under"] (defScope s__law_draw) := ⟨rfl, rfl, rfl, by decide +kernel, rfl, by decide +kernel, by decide +kernel⟩
theorem ok__law_draw (d : DefAt K mg "_law_draw" s__law_draw ["_law_pen_here", "_law_under"]) (F__law_next : FnD P w K mg base 1 "_law_next" sp__law_next) (m_int : mg "int" = none) : FnD P w K mg base 2 "_law_draw" sp__law_draw :=
  fnD_at d sc__law_draw (fun _ _ _ _ h => h.1) fun f cdv A outer s H S0 E c => ⟨r__law_draw E, (dss_cons (ds_if (dt_cmp op_lt (opd_cmp (K := ev _)) (de_ixA c (dv 0) de_int) (dv 1)) (dss_one (ds_sub (de_call F__law_next c (da_cons (dv 0) da_nil)) (dv 0) de_int (set_all c.u64) (sd_rsD (K := ev _)))) dss_nil)
    (dss_cons (ds_set (i := 2) sc__law_draw.nd (de_mod (de_BT call_int1 (bd_int (K := ev _)) m_int boot_ty_int (da_cons (de_ixA c (dv 0) de_int) da_nil)) (dv 1)))
    (dss_cons (ds_sub (de_div (de_ixA c (dv 0) de_int) (dv 1)) (dv 0) de_int (set_all c.u64) (sd_rsD (K := ev _)))
    (dss_one (ds_ret (dv 2)))))), fun ds Q h => h.2⟩

abbrev s__law_low : Stmt := top 32
theorem sc__law_low : FnScope N__law_low ["_law_top", "_law_bottom"] (defScope s__law_low) := ⟨rfl, rfl, rfl, by decide +kernel, rfl, by decide +kernel, by decide +kernel⟩
theorem ok__law_low (d : DefAt K mg "_law_low" s__law_low ["_law_top", "_law_bottom"]) (m_abs : mg "abs" = none) : FnD P w K mg base 1 "_law_low" sp__law_low :=
  fnD_at d sc__law_low (fun _ _ _ _ h => h.1) fun f cdv A outer s H S0 E c => ⟨r__law_low E, (dss_cons (ds_par (i := 2) (j := 3) c.calm sc__law_low.nd (da_cons (de_B call_abs (bd_abs (K := ev _)) m_abs boot_f_abs (da_cons (dv 0) da_nil)) (da_cons (dv 1) da_nil)))
    (dss_cons (ds_while c.own (dt_cmp (DL.op_neX c.u64) (opd_r2D (K := ev _)) (dv 3) de_int) (dss_one (ds_par (i := 2) (j := 3) c.calm sc__law_low.nd (da_cons (dv 3) (da_cons (de_mod (dv 2) (dv 3)) da_nil)))))
    (dss_one (ds_ret (de_tup (da_cons (de_div (dv 0) (dv 2)) (da_cons (de_div (dv 1) (dv 2)) da_nil))))))), fun ds Q h => h.2⟩

abbrev s__law_add : Stmt := top 33
theorem sc__law_add : FnScope N__law_add ["_law_one", "_law_other"] (defScope s__law_add) := ⟨rfl, rfl, rfl, by decide +kernel, rfl, by decide +kernel, by decide +kernel⟩
theorem ok__law_add (d : DefAt K mg "_law_add" s__law_add ["_law_one", "_law_other"]) (F__law_low : FnD P w K mg base 1 "_law_low" sp__law_low) : FnD P w K mg base 2 "_law_add" sp__law_add :=
  fnD_at d sc__law_add (fun _ _ _ _ h => h.1) fun f cdv A outer s H S0 E c => ⟨r__law_add E, (dss_one (ds_ret (de_call F__law_low c (da_cons (de_addA (de_mulA (de_ixA c (dv 0) de_int) (de_ixA c (dv 1) de_int)) (de_mulA (de_ixA c (dv 1) de_int) (de_ixA c (dv 0) de_int))) (da_cons (de_mulA (de_ixA c (dv 0) de_int) (de_ixA c (dv 1) de_int)) da_nil))))), fun ds Q h => h.2⟩

abbrev s__law_mul : Stmt := top 34
theorem sc__law_mul : FnScope N__law_mul ["_law_one", "_law_other"] (defScope s__law_mul) := ⟨rfl, rfl, rfl, by decide +kernel, rfl, by decide +kernel, by decide +kernel⟩
theorem ok__law_mul (d : DefAt K mg "_law_mul" s__law_mul ["_law_one", "_law_other"]) (F__law_low : FnD P w K mg base 1 "_law_low" sp__law_low) : FnD P w K mg base 2 "_law_mul" sp__law_mul :=
  fnD_at d sc__law_mul (fun _ _ _ _ h => h.1) fun f cdv A outer s H S0 E c => ⟨r__law_mul E, (dss_one (ds_ret (de_call F__law_low c (da_cons (de_mulA (de_ixA c (dv 0) de_int) (de_ixA c (dv 1) de_int)) (da_cons (de_mulA (de_ixA c (dv 0) de_int) (de_ixA c (dv 1) de_int)) da_nil))))), fun ds Q h => h.2⟩

abbrev s__law_less : Stmt := top 35
theorem sc__law_less : FnScope N__law_less ["_law_one", "_law_other"] (defScope s__law_less) := ⟨rfl, rfl, rfl, by decide +kernel, rfl, by decide +kernel, by decide +kernel⟩
theorem ok__law_less (d : DefAt K mg "_law_less" s__law_less ["_law_one", "_law_other"]) : FnD P w K mg base 1 "_law_less" sp__law_less :=
  fnD_at d sc__law_less (fun _ _ _ _ h => h.1) fun f cdv A outer s H S0 E c => ⟨r__law_less E, (dss_one (ds_ret (de_cmp op_lt (opd_cmp (K := ev _)) (de_mulA (de_ixA c (dv 0) de_int) (de_ixA c (dv 1) de_int)) (de_mulA (de_ixA c (dv 1) de_int) (de_ixA c (dv 0) de_int))))), fun ds Q h => h.2⟩

abbrev s__law_most : Stmt := top 36
theorem sc__law_most : FnScope N__law_most ["_law_some"] (defScope s__law_most) := ⟨rfl, rfl, rfl, by decide +kernel, rfl, by decide +kernel, by decide +kernel⟩
theorem ok__law_most (d : DefAt K mg "_law_most" s__law_most ["_law_some"]) (F__law_less : FnD P w K mg base 1 "_law_less" sp__law_less) : FnD P w K mg base 2 "_law_most" sp__law_most :=
  fnD_at d sc__law_most (fun _ _ _ _ h => h.1) fun f cdv A outer s H S0 E c => ⟨r__law_most E, (dss_cons (ds_set (i := 1) sc__law_most.nd (de_ixA c (dv 0) de_int))
    (dss_cons (ds_for (vs := [2]) c.own c.calm (di_seq (dv 0)) (pg_name (i := 2) sc__law_most.nd rfl (by first | exact Or.inl rfl | exact Or.inr rfl)) (gok_name (by decide)) (dss_one (ds_set (i := 1) sc__law_most.nd (de_if (dt_val (de_call F__law_less c (da_cons (dv 1) (da_cons (dv 2) da_nil)))) (dv 2) (dv 1)))))
    (dss_one (ds_ret (dv 1))))), fun ds Q h => h.2⟩

abbrev s__law_pay : Stmt := top 37
theorem sc__law_pay : FnScope N__law_pay ["_law_pen_here"] (defScope s__law_pay) := ⟨rfl, rfl, rfl, by decide +kernel, rfl, by decide +kernel, by decide +kernel⟩
theorem ok__law_pay (d : DefAt K mg "_law_pay" s__law_pay ["_law_pen_here"]) (F__law_draw : FnD P w K mg base 2 "_law_draw" sp__law_draw) : FnD P w K mg base 3 "_law_pay" sp__law_pay :=
  fnD_at d sc__law_pay (fun _ _ _ _ h => h.1) fun f cdv A outer s H S0 E c => ⟨r__law_pay E, (dss_one (ds_ret (de_ixA c (de_lst (da_cons (de_tup (da_cons de_int (da_cons de_int da_nil))) (da_cons (de_tup (da_cons de_int (da_cons de_int da_nil))) (da_cons (de_tup (da_cons (de_neg de_int) (da_cons de_int da_nil))) (da_cons (de_tup (da_cons de_int (da_cons de_int da_nil))) (da_cons (de_tup (da_cons de_int (da_cons de_int da_nil))) (da_cons (de_tup (da_cons (de_neg de_int) (da_cons de_int da_nil))) (da_cons (de_tup (da_cons de_int (da_cons de_int da_nil))) (da_cons (de_tup (da_cons (de_neg de_int) (da_cons de_int da_nil))) (da_cons (de_tup (da_cons (de_pow de_int de_int) (da_cons de_int da_nil))) da_nil)))))))))) (de_call F__law_draw c (da_cons (dv 0) (da_cons de_int da_nil)))))), fun ds Q h => h.2⟩

abbrev s__law_factor : Stmt := top 38
theorem sc__law_factor : FnScope N__law_factor ["_law_pen_here"] (defScope s__law_factor) := ⟨rfl, rfl, rfl, by decide +kernel, rfl, by decide +kernel, by decide +kernel⟩
theorem ok__law_factor (d : DefAt K mg "_law_factor" s__law_factor ["_law_pen_here"]) (F__law_draw : FnD P w K mg base 2 "_law_draw" sp__law_draw) : FnD P w K mg base 3 "_law_factor" sp__law_factor :=
  fnD_at d sc__law_factor (fun _ _ _ _ h => h.1) fun f cdv A outer s H S0 E c => ⟨r__law_factor E, (dss_one (ds_ret (de_ixA c (de_lst (da_cons (de_tup (da_cons de_int (da_cons de_int da_nil))) (da_cons (de_tup (da_cons de_int (da_cons de_int da_nil))) (da_cons (de_tup (da_cons de_int (da_cons de_int da_nil))) (da_cons (de_tup (da_cons de_int (da_cons de_int da_nil))) (da_cons (de_tup (da_cons de_int (da_cons de_int da_nil))) (da_cons (de_tup (da_cons de_int (da_cons de_int da_nil))) (da_cons (de_tup (da_cons de_int (da_cons de_int da_nil))) (da_cons (de_tup (da_cons de_int (da_cons de_int da_nil))) da_nil))))))))) (de_call F__law_draw c (da_cons (dv 0) (da_cons de_int da_nil)))))), fun ds Q h => h.2⟩

abbrev s__law_forest : Stmt := top 39
theorem sc__law_forest : FnScope N__law_forest ["_law_pen_here", "_law_most_here"] (defScope s__law_forest) := ⟨rfl, rfl, rfl, by decide +kernel, rfl, by decide +kernel, by decide +kernel⟩
theorem ok__law_forest (d : DefAt K mg "_law_forest" s__law_forest ["_law_pen_here", "_law_most_here"]) (F__law_draw : FnD P w K mg base 3 "_law_draw" sp__law_draw) (F__law_factor : FnD P w K mg base 3 "_law_factor" sp__law_factor) (F__law_pay : FnD P w K mg base 3 "_law_pay" sp__law_pay) (m_range : mg "range" = none) (m_tuple : mg "tuple" = none) : FnD P w K mg base 4 "_law_forest" sp__law_forest :=
  fnD_at d sc__law_forest (fun _ _ _ _ h => h.1) fun f cdv A outer s H S0 E c => ⟨r__law_forest E, (dss_cons (ds_set (i := 2) sc__law_forest.nd (de_lst da_nil))
    (dss_cons (ds_for (vs := [3]) c.own c.calm (di_range1 (de_addA de_int (de_call F__law_draw c (da_cons (dv 0) (da_cons (dv 1) da_nil)))) m_range) (pg_name (i := 3) sc__law_forest.nd rfl (by first | exact Or.inl rfl | exact Or.inr rfl)) (gok_name (by decide)) (dss_cons (ds_set (i := 4) sc__law_forest.nd (de_call F__law_draw c (da_cons (dv 0) (da_cons de_int da_nil))))
    (dss_cons (ds_set (i := 5) sc__law_forest.nd (de_if (DW.dt (dw_or (dt_cmp (DL.op_eqX c.u64) (opd_r2D (K := ev _)) (dv 3) de_int) (dw_or1 (dt_cmp (DL.op_eqX c.u64) (opd_r2D (K := ev _)) (dv 4) de_int)))) de_non (de_ixA c (de_lst (da_cons (de_sub (dv 3) de_int) (da_cons de_int (da_cons (de_call F__law_draw c (da_cons (dv 0) (da_cons (dv 3) da_nil))) da_nil)))) (de_sub (dv 4) de_int))))
    (dss_one (ds_expr (de_append (dv 2) (de_tup (da_cons (dv 5) (da_cons (de_call F__law_pay c (da_cons (dv 0) da_nil)) (da_cons (de_call F__law_factor c (da_cons (dv 0) da_nil)) da_nil))))))))))
    (dss_one (ds_ret (de_BT call_tuple_of (bd_tuple (K := ev _)) m_tuple boot_ty_tuple (da_cons (dv 2) da_nil)))))), fun ds Q h => h.2⟩

abbrev s__law_orders : Stmt := top 40
theorem sc__law_orders : FnScope N__law_orders ["_law_forest_here"] (defScope s__law_orders) := ⟨rfl, rfl, rfl, by decide +kernel, rfl, by decide +kernel, by decide +kernel⟩
theorem ok__law_orders (d : DefAt K mg "_law_orders" s__law_orders ["_law_forest_here"]) (m_len : mg "len" = none) (m_range : mg "range" = none) : FnD P w K mg base 1 "_law_orders" sp__law_orders :=
  fnD_at d sc__law_orders (fun _ _ _ _ h => h.1) fun f cdv A outer s H S0 E c => ⟨r__law_orders E, (dss_cons (ds_set (i := 1) sc__law_orders.nd (de_lst (da_cons (de_lst da_nil) da_nil)))
    (dss_cons (ds_for (vs := [2]) c.own c.calm (di_range1 (de_B call_len_seq (bd_len (K := ev _)) m_len boot_f_len (da_cons (dv 0) da_nil)) m_range) (pg_name (i := 2) sc__law_orders.nd rfl (by first | exact Or.inl rfl | exact Or.inr rfl)) (gok_name (by decide)) (dss_cons (ds_set (i := 3) sc__law_orders.nd (de_lst da_nil))
    (dss_cons (ds_for (vs := [4]) c.own c.calm (di_seq (dv 1)) (pg_name (i := 4) sc__law_orders.nd rfl (by first | exact Or.inl rfl | exact Or.inr rfl)) (gok_name (by decide)) (dss_one (ds_for (vs := [5]) c.own c.calm (di_range1 (de_B call_len_seq (bd_len (K := ev _)) m_len boot_f_len (da_cons (dv 0) da_nil)) m_range) (pg_name (i := 5) sc__law_orders.nd rfl (by first | exact Or.inl rfl | exact Or.inr rfl)) (gok_name (by decide)) (dss_cons (ds_set (i := 6) sc__law_orders.nd (de_ixA c (de_ixA c (dv 0) (dv 5)) de_int))
    (dss_one (ds_if (DW.dt (dw_and (dt_cmp (DL.op_notInD c.u65) (opd_r2D (K := ev _)) (dv 5) (dv 4)) (dw_and1 (DW.dt (dw_or (dt_cmp op_isN (opd_isN (K := ev _)) (dv 6) de_non) (dw_or1 (dt_cmp (DL.op_inD c.u65) (opd_r2D (K := ev _)) (dv 6) (dv 4)))))))) (dss_one (ds_expr (de_append (dv 3) (de_addA (dv 4) (de_lst (da_cons (dv 5) da_nil)))))) dss_nil))))))
    (dss_one (ds_set (i := 1) sc__law_orders.nd (dv 3))))))
    (dss_one (ds_ret (dv 1))))), fun ds Q h => h.2⟩

abbrev s__law_run : Stmt := top 41
theorem sc__law_run : FnScope N__law_run ["_law_forest_here", "_law_order"] (defScope s__law_run) := ⟨rfl, rfl, rfl, by decide +kernel, rfl, by decide +kernel, by decide +kernel⟩
theorem ok__law_run (d : DefAt K mg "_law_run" s__law_run ["_law_forest_here", "_law_order"]) (F__law_add : FnD P w K mg base 2 "_law_add" sp__law_add) (F__law_mul : FnD P w K mg base 2 "_law_mul" sp__law_mul) : FnD P w K mg base 3 "_law_run" sp__law_run :=
  fnD_at d sc__law_run (fun _ _ _ _ h => h.1) fun f cdv A outer s H S0 E c => ⟨r__law_run E, (dss_cons (ds_asg (vs := [2, 3]) (de_tup (da_cons (de_tup (da_cons de_int (da_cons de_int da_nil))) (da_cons (de_tup (da_cons de_int (da_cons de_int da_nil))) da_nil))) (pg_tup c.calm (pgs_cons (pg_name (i := 2) sc__law_run.nd rfl (by first | exact Or.inl rfl | exact Or.inr rfl)) (pgs_cons (pg_name (i := 3) sc__law_run.nd rfl (by first | exact Or.inl rfl | exact Or.inr rfl)) pgs_nil))) (gok_tup (gsok_cons (gok_name (by decide)) (gsok_cons (gok_name (by decide)) gsok_nil))))
    (dss_cons (ds_for (vs := [4]) c.own c.calm (di_seq (dv 1)) (pg_name (i := 4) sc__law_run.nd rfl (by first | exact Or.inl rfl | exact Or.inr rfl)) (gok_name (by decide)) (dss_cons (ds_set (i := 2) sc__law_run.nd (de_call F__law_add c (da_cons (dv 2) (da_cons (de_call F__law_mul c (da_cons (dv 3) (da_cons (de_ixA c (de_ixA c (dv 0) (dv 4)) de_int) da_nil))) da_nil))))
    (dss_one (ds_set (i := 3) sc__law_run.nd (de_call F__law_mul c (da_cons (dv 3) (da_cons (de_ixA c (de_ixA c (dv 0) (dv 4)) de_int) da_nil)))))))
    (dss_one (ds_ret (de_tup (da_cons (dv 2) (da_cons (dv 3) da_nil))))))), fun ds Q h => h.2⟩

abbrev s__law_by_sets : Stmt := top 42
theorem sc__law_by_sets : FnScope N__law_by_sets ["_law_forest_here"] (defScope s__law_by_sets) := ⟨rfl, rfl, rfl, by decide +kernel, rfl, by decide +kernel, by decide +kernel⟩
theorem ok__law_by_sets (d : DefAt K mg "_law_by_sets" s__law_by_sets ["_law_forest_here"]) (F__law_add : FnD P w K mg base 2 "_law_add" sp__law_add) (F__law_less : FnD P w K mg base 2 "_law_less" sp__law_less) (F__law_mul : FnD P w K mg base 2 "_law_mul" sp__law_mul) (m_enumerate : mg "enumerate" = none) (m_len : mg "len" = none) (m_range : mg "range" = none) (m_sorted : mg "sorted" = none) (m_tuple : mg "tuple" = none) : FnD P w K mg base 3 "_law_by_sets" sp__law_by_sets :=
  fnD_at d sc__law_by_sets (fun _ _ _ _ h => h.1) fun f cdv A outer s H S0 E c => ⟨r__law_by_sets E, (dss_cons (ds_set (i := 1) sc__law_by_sets.nd (de_dictN1 c (de_tup da_nil) (de_tup (da_cons (de_tup (da_cons de_int (da_cons de_int da_nil))) (da_cons (de_tup (da_cons de_int (da_cons de_int da_nil))) da_nil)))))
    (dss_cons (ds_for (vs := [2]) c.own c.calm (di_range1 (de_B call_len_seq (bd_len (K := ev _)) m_len boot_f_len (da_cons (dv 0) da_nil)) m_range) (pg_name (i := 2) sc__law_by_sets.nd rfl (by first | exact Or.inl rfl | exact Or.inr rfl)) (gok_name (by decide)) (dss_cons (ds_set (i := 3) sc__law_by_sets.nd de_dictN0)
    (dss_cons (ds_for (vs := [4]) c.own c.calm (di_seq (de_B (cr_sortA c.calm c.u64) (bd_ofD (K := ev _)) m_sorted boot_f_sorted (da_cons (dv 1) da_nil))) (pg_name (i := 4) sc__law_by_sets.nd rfl (by first | exact Or.inl rfl | exact Or.inr rfl)) (gok_name (by decide)) (dss_cons (ds_asg (vs := [5, 6]) (de_ixA c (dv 1) (dv 4)) (pg_tup c.calm (pgs_cons (pg_name (i := 5) sc__law_by_sets.nd rfl (by first | exact Or.inl rfl | exact Or.inr rfl)) (pgs_cons (pg_name (i := 6) sc__law_by_sets.nd rfl (by first | exact Or.inl rfl | exact Or.inr rfl)) pgs_nil))) (gok_tup (gsok_cons (gok_name (by decide)) (gsok_cons (gok_name (by decide)) gsok_nil))))
    (dss_one (ds_for (vs := [7, 8, 9, 10]) c.own c.calm (di_enum (dv 0) m_enumerate) (pg_tup c.calm (pgs_cons (pg_name (i := 7) sc__law_by_sets.nd rfl (by first | exact Or.inl rfl | exact Or.inr rfl)) (pgs_cons (pg_tup c.calm (pgs_cons (pg_name (i := 8) sc__law_by_sets.nd rfl (by first | exact Or.inl rfl | exact Or.inr rfl)) (pgs_cons (pg_name (i := 9) sc__law_by_sets.nd rfl (by first | exact Or.inl rfl | exact Or.inr rfl)) (pgs_cons (pg_name (i := 10) sc__law_by_sets.nd rfl (by first | exact Or.inl rfl | exact Or.inr rfl)) pgs_nil)))) pgs_nil))) (gok_tup (gsok_cons (gok_name (by decide)) (gsok_cons (gok_tup (gsok_cons (gok_name (by decide)) (gsok_cons (gok_name (by decide)) (gsok_cons (gok_name (by decide)) gsok_nil)))) gsok_nil))) (dss_one (ds_if (DW.dt (dw_and (dt_cmp (DL.op_notInD c.u65) (opd_r2D (K := ev _)) (dv 7) (dv 4)) (dw_and1 (DW.dt (dw_or (dt_cmp op_isN (opd_isN (K := ev _)) (dv 8) de_non) (dw_or1 (dt_cmp (DL.op_inD c.u65) (opd_r2D (K := ev _)) (dv 8) (dv 4)))))))) (dss_cons (ds_par (i := 11) (j := 12) c.calm sc__law_by_sets.nd (da_cons (de_BT call_tuple_of (bd_tuple (K := ev _)) m_tuple boot_ty_tuple (da_cons (de_B (cr_sortA c.calm c.u64) (bd_ofD (K := ev _)) m_sorted boot_f_sorted (da_cons (de_addA (dv 4) (de_tup (da_cons (dv 7) da_nil))) da_nil)) da_nil)) (da_cons (de_call F__law_add c (da_cons (dv 5) (da_cons (de_call F__law_mul c (da_cons (dv 6) (da_cons (dv 9) da_nil))) da_nil))) da_nil)))
    (dss_one (ds_if (DW.dt (dw_or (dt_cmp (DL.op_notInD c.u65) (opd_r2D (K := ev _)) (dv 11) (dv 3)) (dw_or1 (dt_val (de_call F__law_less c (da_cons (de_ixA c (de_ixA c (dv 3) (dv 11)) de_int) (da_cons (dv 12) da_nil))))))) (dss_one (ds_sub (de_tup (da_cons (dv 12) (da_cons (de_call F__law_mul c (da_cons (dv 6) (da_cons (dv 10) da_nil))) da_nil))) (dv 3) (dv 11) (set_all c.u64) (sd_rsD (K := ev _)))) dss_nil))) dss_nil))))))
    (dss_one (ds_set (i := 1) sc__law_by_sets.nd (dv 3))))))
    (dss_one (ds_ret (de_ixA c (de_ixA c (dv 1) (de_tupleRg c m_tuple m_range (de_B call_len_seq (bd_len (K := ev _)) m_len boot_f_len (da_cons (dv 0) da_nil)))) de_int))))), fun ds Q h => h.2⟩

abbrev s_law : Stmt := top 43
theorem sc_law : FnScope N_law ["_law_script"] (defScope s_law) := ⟨rfl, rfl, rfl, by decide +kernel, rfl, by decide +kernel, by decide +kernel⟩
theorem ok_law (d : DefAt K mg "law" s_law ["_law_script"]) (F__law_by_sets : FnD P w K mg base 8 "_law_by_sets" sp__law_by_sets) (F__law_forest : FnD P w K mg base 8 "_law_forest" sp__law_forest) (F__law_most : FnD P w K mg base 8 "_law_most" sp__law_most) (F__law_orders : FnD P w K mg base 8 "_law_orders" sp__law_orders) (F__law_pen : FnD P w K mg base 8 "_law_pen" sp__law_pen) (F__law_run : FnD P w K mg base 8 "_law_run" sp__law_run) (F_best_order : FnD P w K mg base 8 "best_order" sp_best_order) (F_best_worth : FnD P w K mg base 8 "best_worth" sp_best_worth) (F_is_order : FnD P w K mg base 8 "is_order" sp_is_order) (F_order_worth : FnD P w K mg base 8 "order_worth" sp_order_worth) (m_isinstance : mg "isinstance" = none) (m_list : mg "list" = none) (m_range : mg "range" = none) (m_repr : mg "repr" = none) (m_tuple : mg "tuple" = none) : FnD P w K mg base 9 "law" sp_law :=
  fnD_at d sc_law (fun _ _ _ _ h => h.1) fun f cdv A outer s H S0 E c => ⟨r_law E, (dss_cons (ds_set (i := 1) sc_law.nd (de_call F__law_pen c (da_cons (dv 0) da_nil)))
    (dss_cons (ds_set (i := 2) sc_law.nd (de_tup (da_cons de_int (da_cons de_int da_nil))))
    (dss_cons (ds_set (i := 3) sc_law.nd (de_addA (de_tup (da_cons (de_tup (da_cons de_non (da_cons (de_tup (da_cons (de_neg de_int) (da_cons de_int da_nil))) (da_cons (de_tup (da_cons de_int (da_cons de_int da_nil))) da_nil)))) (da_cons (de_tup (da_cons de_non (da_cons (de_tup (da_cons de_int (da_cons de_int da_nil))) (da_cons (de_tup (da_cons de_int (da_cons de_int da_nil))) da_nil)))) (da_cons (de_tup (da_cons de_non (da_cons (de_tup (da_cons de_int (da_cons de_int da_nil))) (da_cons (dv 2) da_nil)))) da_nil)))) (de_mulA (de_tup (da_cons (de_tup (da_cons de_non (da_cons (de_tup (da_cons de_int (da_cons de_int da_nil))) (da_cons (de_tup (da_cons de_int (da_cons de_int da_nil))) da_nil)))) da_nil)) de_int)))
    (dss_cons (ds_if (DW.dt (dw_or (dt_cmp (DL.op_neX c.u64) (opd_r2D (K := ev _)) (de_call F_best_worth c (da_cons (dv 3) da_nil)) (de_tup (da_cons de_int (da_cons de_int da_nil)))) (dw_or1 (dt_cmp (DL.op_neX c.u64) (opd_r2D (K := ev _)) (de_call F_order_worth c (da_cons (dv 3) (da_cons (de_call F_best_order c (da_cons (dv 3) da_nil)) da_nil))) (de_tup (da_cons de_int (da_cons de_int da_nil))))))) (dss_one (ds_ret de_bl)) dss_nil)
    (dss_cons (ds_set (i := 4) sc_law.nd (de_call F__law_forest c (da_cons (dv 1) (da_cons de_int da_nil))))
    (dss_cons (ds_if (DW.dt (dw_or (dt_cmp (DL.op_neX c.u64) (opd_r2D (K := ev _)) (de_call F_best_worth c (da_cons (dv 4) da_nil)) (de_call F__law_by_sets c (da_cons (dv 4) da_nil))) (dw_or1 (dt_cmp (DL.op_neX c.u64) (opd_r2D (K := ev _)) (de_call F_order_worth c (da_cons (dv 4) (da_cons (de_call F_best_order c (da_cons (dv 4) da_nil)) da_nil))) (de_call F_best_worth c (da_cons (dv 4) da_nil)))))) (dss_one (ds_ret de_bl)) dss_nil)
    (dss_cons (ds_for (vs := [5]) c.own c.calm (di_range1 de_int m_range) (pg_name (i := 5) sc_law.nd rfl (by first | exact Or.inl rfl | exact Or.inr rfl)) (gok_name (by decide)) (dss_cons (ds_set (i := 6) sc_law.nd (de_call F__law_forest c (da_cons (dv 1) (da_cons de_int da_nil))))
    (dss_cons (ds_par (i := 7) (j := 8) c.calm sc_law.nd (da_cons (de_B (cr_repr c.guard c.u64) (bd_ofD (K := ev _)) m_repr boot_f_repr (da_cons (dv 6) da_nil)) (da_cons (de_call F__law_orders c (da_cons (dv 6) da_nil)) da_nil)))
    (dss_cons (ds_set (i := 9) sc_law.nd (de_call F__law_most c (da_cons (de_lc c sc_law.nd (di_seq (dv 8)) (blkOk_by (own := [("_law_order", 14)]) (N := N_law) (sc := defScope s_law) (by decide +kernel)) (fun s2 H2 C2 cl2 fp2 => (pg_name (i := 14) sc_law.nd rfl (by first | exact Or.inl rfl | exact Or.inr rfl))) (gok_name (by decide)) (fun s2 H2 C2 cl2 fp2 => dts_nil) (fun s2 H2 C2 cl2 fp2 => (de_ixA (c.blk s2 H2 _ _ fp2) (de_call F__law_run (c.blk s2 H2 _ _ fp2) (da_cons (dv 6) (da_cons (dv 14) da_nil))) de_int))) da_nil)))
    (dss_cons (ds_for (vs := [10]) c.own c.calm (di_range1 de_int m_range) (pg_name (i := 10) sc_law.nd rfl (by first | exact Or.inl rfl | exact Or.inr rfl)) (gok_name (by decide)) (dss_cons (ds_set (i := 11) sc_law.nd (de_call F_best_order c (da_cons (dv 6) da_nil)))
    (dss_cons (ds_if (DW.dt (dw_or (dt_not (dt_val (de_isi (T := "list") (dv 11) m_isinstance m_list boot_ty_list (by decide)))) (dw_or (dt_cmp (DL.op_notInD c.u65) (opd_r2D (K := ev _)) (dv 11) (dv 8)) (dw_or1 (dt_cmp (DL.op_neX c.u64) (opd_r2D (K := ev _)) (de_call F_best_worth c (da_cons (dv 6) da_nil)) (dv 9)))))) (dss_one (ds_ret de_bl)) dss_nil)
    (dss_cons (ds_if (DW.dt (dw_or (dt_cmp (DL.op_neX c.u64) (opd_r2D (K := ev _)) (de_ixA c (de_call F__law_run c (da_cons (dv 6) (da_cons (dv 11) da_nil))) de_int) (dv 9)) (dw_or (dt_cmp (DL.op_neX c.u64) (opd_r2D (K := ev _)) (de_call F_order_worth c (da_cons (dv 6) (da_cons (dv 11) da_nil))) (dv 9)) (dw_or1 (dt_not (dt_val (de_call F_is_order c (da_cons (dv 6) (da_cons (dv 11) da_nil))))))))) (dss_one (ds_ret de_bl)) dss_nil)
    (dss_one (ds_expr (de_append (dv 11) de_non)))))))
    (dss_one (ds_if (dt_cmp (DL.op_neX c.u64) (opd_r2D (K := ev _)) (de_B (cr_repr c.guard c.u64) (bd_ofD (K := ev _)) m_repr boot_f_repr (da_cons (dv 6) da_nil)) (dv 7)) (dss_one (ds_ret de_bl)) dss_nil)))))))
    (dss_cons (ds_set (i := 12) sc_law.nd (de_BT call_tuple_of (bd_tuple (K := ev _)) m_tuple boot_ty_tuple (da_cons (de_lc c sc_law.nd (di_range1 de_int m_range) (blkOk_by (own := [("_law_k", 13)]) (N := N_law) (sc := defScope s_law) (by decide +kernel)) (fun s1 H1 C1 cl1 fp1 => (pg_name (i := 13) sc_law.nd rfl (by first | exact Or.inl rfl | exact Or.inr rfl))) (gok_name (by decide)) (fun s1 H1 C1 cl1 fp1 => dts_nil) (fun s1 H1 C1 cl1 fp1 => (de_tup (da_cons de_non (da_cons (de_tup (da_cons (dv 13) (da_cons de_int da_nil))) (da_cons (de_tup (da_cons de_int (da_cons de_int da_nil))) da_nil)))))) da_nil)))
    (dss_one (ds_ret (de_cmp (DL.op_eqX c.u64) (opd_r2D (K := ev _)) (de_call F_best_order c (da_cons (dv 12) da_nil)) (de_lst (da_cons de_int (da_cons de_int (da_cons de_int (da_cons de_int (da_cons de_int (da_cons de_int (da_cons de_int (da_cons de_int da_nil)))))))))))))))))))), fun ds Q h => h.2⟩

end
end LW
set_option maxRecDepth 100000
namespace LW
open PySem PySem.Spec PyProof.Rows L2 DL

/-! ### fractions -/
def fr (q : Rat) : D := .tup [.int q.num, .int q.den]
theorem pd_int {S : Sto} {i : Int} : pd S 20 (.int i) = some (.int i) := rfl
theorem pd_tup2 {S : Sto} {i j : Int} : pd S 20 (.tup [.int i, .int j]) = some (.tuple [.int i, .int j]) := rfl
theorem eqv_int {i j : Int} : PyData.eqv (.int i) (.int j) = (i == j) := rfl
theorem g_divisor_of {a b : Int} {S : Sto} {Q : DK} {E : XD} (h : Q (.int (Int.gcd a b)) S) : sp_divisor_of [.int a, .int b] S Q E := by
  refine ⟨rfl, ?_⟩
  refine ⟨fun m σ S' => S' = S ∧ ∃ x y : Nat, m = y ∧ σ = [some (.int x), some (.int y)] ∧ Nat.gcd x y = Int.gcd a b, ⟨b.natAbs, rfl, a.natAbs, b.natAbs, rfl, ?_, rfl⟩, ?_⟩
  · have : ∀ i : Int, (if i < 0 then -i else i) = (i.natAbs : Int) := fun i => by split <;> omega
    show [some (D.int (if a < 0 then -a else a)), some (D.int (if b < 0 then -b else b))] = _
    rw [this, this]
  · rintro y σ S' ⟨rfl, x, _, rfl, rfl, hg⟩
    refine ⟨_, _, rfl, rfl, ?_⟩
    show br (!((y : Int) == 0)) _ _
    refine br_split (fun c => ?_) (fun c => ?_)
    · have hy : 0 < y := by
        rcases Nat.eq_zero_or_pos y with e | e
        · subst e; simp at c
        · exact e
      refine ⟨by show (0 : Int) < (y : Int); omega, ?_⟩
      refine ⟨x % y, Nat.mod_lt _ hy, rfl, y, x % y, rfl, ?_, ?_⟩
      · show [some (D.int (y : Int)), some (D.int ((x : Int) % (y : Int)))] = _
        rw [← Int.natCast_emod]
      · rw [← hg, Nat.gcd_comm x y, Nat.gcd_comm y (x % y)]
        exact (Nat.gcd_rec y x).symm
    · have hy : y = 0 := by simpa using c
      subst hy
      rw [Nat.gcd_zero_right] at hg
      show Q (.int (x : Int)) S'
      rw [hg]
      exact h
/-- top / bottom, in lowest terms -/
theorem low_num {n d : Int} (hd : d ≠ 0) {g : Int} (hg : g = if d < 0 then -(Int.gcd n d : Int) else Int.gcd n d) : (Rat.divInt n d).num = n.fdiv g ∧ ((Rat.divInt n d).den : Int) = d.fdiv g := by
  have h1 := Rat.num_divInt n d
  have h2 := Rat.den_divInt n d
  rw [if_neg hd] at h2
  have hG : (Int.gcd n d : Int) ∣ n := Int.gcd_dvd_left ..
  have hG2 : (Int.gcd n d : Int) ∣ d := Int.gcd_dvd_right ..
  have hp : (0 : Int) ≤ (Int.gcd n d : Int) := Int.natCast_nonneg _
  have hne : (Int.gcd n d : Int) ≠ 0 := by
    have := Int.gcd_pos_of_ne_zero_right n hd
    omega
  rw [Int.gcd_comm d n] at h1 h2
  by_cases c : d < 0
  · rw [if_pos c] at hg
    subst hg
    rw [Int.fdiv_neg hne, if_pos hG, Int.fdiv_neg hne, if_pos hG2, Int.fdiv_eq_ediv_of_nonneg _ hp, Int.fdiv_eq_ediv_of_nonneg _ hp]
    rw [h1, h2, Int.sign_eq_neg_one_of_neg c]
    refine ⟨?_, ?_⟩
    · rw [Int.neg_one_mul, Int.neg_ediv_of_dvd hG]
    · rw [← Int.neg_ediv_of_dvd hG2]
      have e : (d.natAbs : Int) = -d := by omega
      rw [Int.natCast_ediv, e]
  · rw [if_neg c] at hg
    subst hg
    have c2 : 0 < d := by omega
    rw [Int.fdiv_eq_ediv_of_nonneg _ hp, Int.fdiv_eq_ediv_of_nonneg _ hp, h1, h2, Int.sign_eq_one_of_pos c2, Int.one_mul]
    have e : (d.natAbs : Int) = d := by omega
    exact ⟨rfl, by rw [Int.natCast_ediv, e]⟩
theorem g_lowest {n d : Int} {S : Sto} {Q : DK} {E : XD} (hd : d ≠ 0) (hs : d.natAbs < 2 ^ 9000) (h : Q (fr (Rat.divInt n d)) S) : sp_lowest [.int n, .int d] S Q E := by
  refine ⟨rfl, ?_⟩
  have hgp : 0 < Int.gcd n d := Int.gcd_pos_of_ne_zero_right n hd
  have hgl : Int.gcd n d ≤ d.natAbs := Int.gcd_le_natAbs_right _ hd
  have fin : ∀ g : Int, g = (if d < 0 then -(Int.gcd n d : Int) else Int.gcd n d) → CDivX n g ∧ CDivX d g ∧ 2 ≤ sizeLine ∧ Q (.tup [.int (n.fdiv g), .int (d.fdiv g)]) S := fun g hg => by
    obtain ⟨h1, h2⟩ := low_num hd hg
    have hc : CDivX n g := by
      have ga : g.natAbs = Int.gcd n d := by rw [hg]; split <;> simp
      refine ⟨fun z => ?_, ?_⟩
      · rw [z] at ga; simp at ga; omega
      · rw [ga]
        exact (Nat.log2_lt (by omega)).mpr (Nat.lt_of_le_of_lt hgl hs)
    refine ⟨hc, hc, by decide, ?_⟩
    rw [← h1, ← h2]
    exact h
  refine g_divisor_of ?_
  show br (decide (d < 0)) _ _
  refine br_split (fun c => ?_) (fun c => ?_)
  · have c' : d < 0 := of_decide_eq_true c
    exact fin (0 - (Int.gcd n d : Int)) (by rw [if_pos c']; omega)
  · have c' : ¬ d < 0 := of_decide_eq_false c
    exact fin _ (by rw [if_neg c'])
/-! ### sizes -/
def Sz (k : Nat) (q : Rat) : Prop := q.num.natAbs < 2 ^ k ∧ q.den < 2 ^ k
theorem Sz.mono {j k : Nat} {q : Rat} (h : Sz j q) (hk : j ≤ k) : Sz k q := ⟨Nat.lt_of_lt_of_le h.1 (Nat.pow_le_pow_right (by decide) hk), Nat.lt_of_lt_of_le h.2 (Nat.pow_le_pow_right (by decide) hk)⟩
theorem num_div_le (n d : Int) (hd : d ≠ 0) : (Rat.divInt n d).num.natAbs ≤ n.natAbs ∧ (Rat.divInt n d).den ≤ d.natAbs := by
  rw [Rat.num_divInt, Rat.den_divInt, if_neg hd]
  refine ⟨?_, Nat.div_le_self _ _⟩
  refine Nat.le_trans (Int.natAbs_ediv_le_natAbs _ _) ?_
  rw [Int.natAbs_mul]
  refine Nat.le_trans (Nat.mul_le_mul_right _ (show d.sign.natAbs ≤ 1 from ?_)) (by omega)
  rw [Int.natAbs_sign]
  split <;> omega
theorem den_pos (q : Rat) : (0 : Int) < (q.den : Int) := by
  have := q.den_pos
  omega
theorem den_ne (q : Rat) : (q.den : Int) ≠ 0 := Int.ne_of_gt (den_pos q)
theorem add_div (a b : Rat) : Rat.divInt (a.num * b.den + b.num * a.den) (a.den * b.den) = a + b := by
  have := Rat.divInt_add_divInt a.num b.num (den_ne a) (den_ne b)
  rw [Rat.num_divInt_den, Rat.num_divInt_den] at this
  exact this.symm
theorem sub_div (a b : Rat) : Rat.divInt (a.num * b.den - b.num * a.den) (a.den * b.den) = a - b := by
  have := Rat.divInt_sub_divInt a.num b.num (den_ne a) (den_ne b)
  rw [Rat.num_divInt_den, Rat.num_divInt_den] at this
  exact this.symm
theorem mul_div (a b : Rat) : Rat.divInt (a.num * b.num) (a.den * b.den) = a * b := by
  have := Rat.divInt_mul_divInt a.num b.num (d₁ := a.den) (d₂ := b.den)
  rw [Rat.num_divInt_den, Rat.num_divInt_den] at this
  exact this.symm
theorem nn_mul {a b j k : Nat} (h : a < 2 ^ j) (h' : b < 2 ^ k) : a * b < 2 ^ (j + k) := by
  rw [Nat.pow_add]
  have hj : 0 < 2 ^ j := Nat.pow_pos (by decide)
  exact Nat.mul_lt_mul_of_lt_of_le h (Nat.le_of_lt h') (Nat.pow_pos (by decide))
theorem sz_mul {a b : Rat} {j k : Nat} (h : Sz j a) (h' : Sz k b) : Sz (j + k) (a * b) := by
  rw [← mul_div]
  have hn : ((a.den : Int) * b.den) ≠ 0 := Int.mul_ne_zero (den_ne a) (den_ne b)
  obtain ⟨h1, h2⟩ := num_div_le (a.num * b.num) (a.den * b.den) hn
  rw [Int.natAbs_mul] at h1 h2
  exact ⟨Nat.lt_of_le_of_lt h1 (nn_mul h.1 h'.1), Nat.lt_of_le_of_lt h2 (nn_mul h.2 h'.2)⟩
theorem sz_of_add {a b : Rat} {j k : Nat} (h : Sz j a) (h' : Sz k b) (n : Int) (hn0 : n.natAbs ≤ (a.num * b.den).natAbs + (b.num * a.den).natAbs) : Sz (j + k + 1) (Rat.divInt n (a.den * b.den)) := by
  have hn : ((a.den : Int) * b.den) ≠ 0 := Int.mul_ne_zero (den_ne a) (den_ne b)
  obtain ⟨h1, h2⟩ := num_div_le n (a.den * b.den) hn
  rw [Int.natAbs_mul] at h2
  rw [Int.natAbs_mul, Int.natAbs_mul] at hn0
  have e1 : a.num.natAbs * (b.den : Int).natAbs < 2 ^ (j + k) := nn_mul h.1 (by simpa using h'.2)
  have e2 : b.num.natAbs * (a.den : Int).natAbs < 2 ^ (j + k) := by
    rw [Nat.add_comm j k]
    exact nn_mul h'.1 (by simpa using h.2)
  have e3 : (a.den : Int).natAbs * (b.den : Int).natAbs < 2 ^ (j + k) := nn_mul (by simpa using h.2) (by simpa using h'.2)
  have e4 : 2 ^ (j + k + 1) = 2 ^ (j + k) + 2 ^ (j + k) := by rw [Nat.pow_succ]; omega
  exact ⟨by omega, by omega⟩
theorem sz_add {a b : Rat} {j k : Nat} (h : Sz j a) (h' : Sz k b) : Sz (j + k + 1) (a + b) := by
  rw [← add_div]
  exact sz_of_add h h' _ (Int.natAbs_add_le _ _)
theorem sz_sub {a b : Rat} {j k : Nat} (h : Sz j a) (h' : Sz k b) : Sz (j + k + 1) (a - b) := by
  rw [← sub_div]
  exact sz_of_add h h' _ (Int.natAbs_sub_le _ _)
theorem log_lt {n k : Nat} (h : n < 2 ^ k) : n.log2 < k + 1 := by
  by_cases e : n = 0
  · subst e
    show Nat.log2 0 < k + 1
    rw [Nat.log2_zero]
    omega
  · have := (Nat.log2_lt e).mpr h
    omega
theorem cmul {i j : Int} {m n : Nat} (h : i.natAbs < 2 ^ m) (h' : j.natAbs < 2 ^ n) (hk : m + n ≤ 900000) : CMulW i j := by
  have a := log_lt h
  have b := log_lt h'
  show i.natAbs.log2 + j.natAbs.log2 < 1000000
  omega
section
variable {a b : Rat} {j k : Nat} {S : Sto} {Q : DK} {E : XD}
theorem Sz.dn (h : Sz k a) : (a.den : Int).natAbs < 2 ^ k := by simpa using h.2
theorem den_lt (h : Sz j a) (h' : Sz k b) (hk : j + k ≤ 9000) : ((a.den : Int) * b.den).natAbs < 2 ^ 9000 := by
  rw [Int.natAbs_mul]
  exact Nat.lt_of_lt_of_le (nn_mul h.dn h'.dn) (Nat.pow_le_pow_right (by decide) hk)
theorem den2_ne : ((a.den : Int) * b.den) ≠ 0 := Int.mul_ne_zero (den_ne a) (den_ne b)
theorem g_add (h : Sz j a) (h' : Sz k b) (hk : j + k ≤ 9000) (q : Q (fr (a + b)) S) : sp_add [fr a, fr b] S Q E := by
  refine ⟨rfl, _, rfl, _, rfl, cmul h.1 h'.dn (by omega), _, rfl, _, rfl, cmul h'.1 h.dn (by omega), _, rfl, _, rfl, cmul h.dn h'.dn (by omega), ?_⟩
  refine g_lowest den2_ne (den_lt h h' hk) ?_
  rw [add_div]
  exact q
theorem g_less (h : Sz j a) (h' : Sz k b) (hk : j + k ≤ 9000) (q : Q (fr (a - b)) S) : sp_less [fr a, fr b] S Q E := by
  refine ⟨rfl, _, rfl, _, rfl, cmul h.1 h'.dn (by omega), _, rfl, _, rfl, cmul h'.1 h.dn (by omega), _, rfl, _, rfl, cmul h.dn h'.dn (by omega), ?_⟩
  refine g_lowest den2_ne (den_lt h h' hk) ?_
  rw [sub_div]
  exact q
theorem g_mul (h : Sz j a) (h' : Sz k b) (hk : j + k ≤ 9000) (q : Q (fr (a * b)) S) : sp_mul [fr a, fr b] S Q E := by
  refine ⟨rfl, _, rfl, _, rfl, cmul h.1 h'.1 (by omega), _, rfl, _, rfl, cmul h.dn h'.dn (by omega), ?_⟩
  refine g_lowest den2_ne (den_lt h h' hk) ?_
  rw [mul_div]
  exact q
theorem gap_lt : a.num * b.den - b.num * a.den > 0 ↔ b < a := by
  rw [Rat.lt_iff]
  omega
theorem gap_gt : a.num * b.den - b.num * a.den < 0 ↔ a < b := by
  rw [Rat.lt_iff]
  omega
def ordR (a b : Rat) : Int := (if b < a then 1 else 0) - (if a < b then 1 else 0)
theorem g_order_of (h : Sz j a) (h' : Sz k b) (hk : j + k ≤ 900000) (q : Q (.int (ordR a b)) S) : sp_order_of [fr a, fr b] S Q E := by
  refine ⟨rfl, _, rfl, _, rfl, cmul h.1 h'.dn (by omega), _, rfl, _, rfl, cmul h'.1 h.dn (by omega), ?_⟩
  show Q (.int ((if decide (0 < a.num * b.den - b.num * a.den) = true then 1 else 0) - (if decide (a.num * b.den - b.num * a.den < 0) = true then 1 else 0))) S
  unfold ordR at q
  have e1 : (decide (0 < a.num * (b.den : Int) - b.num * a.den) = true) ↔ b < a := by rw [decide_eq_true_iff]; exact gap_lt
  have e2 : (decide (a.num * (b.den : Int) - b.num * a.den < 0) = true) ↔ a < b := by rw [decide_eq_true_iff]; exact gap_gt
  simp only [e1, e2]
  exact q
theorem ordR_pos : (decide (0 < ordR a b)) = decide (b < a) := by
  unfold ordR
  by_cases h : b < a
  · have : ¬ a < b := by grind
    simp [h, this]
  · by_cases h2 : a < b
    · simp [h, h2]
    · simp [h, h2]
theorem ordR_neg : (decide (ordR a b < 0)) = decide (a < b) := by
  unfold ordR
  by_cases h : a < b
  · have : ¬ b < a := by grind
    simp [h, this]
  · by_cases h2 : b < a
    · simp [h, h2]
    · simp [h, h2]
end
end LW

set_option maxRecDepth 100000
namespace LW
open PySem PySem.Spec PyProof.Rows L2 DL

/-! ### readings of the store -/
theorem pdAll_ints (S : Sto) (n : Nat) : ∀ is : List Int, pdAll (pd S n) (is.map D.int) = some (is.map PyData.int)
  | [] => rfl
  | i :: is => by
    have e : pd S n (.int i) = some (.int i) := by cases n <;> rfl
    show (match pd S n (.int i), pdAll (pd S n) (is.map D.int) with | some p, some ps => some (p :: ps) | _, _ => none) = _
    rw [e, pdAll_ints S n is]
    rfl
theorem pd_lst {S : Sto} {a : Addr} {ds : List D} {ps : List PyData} (h : S a = some (.lst ds)) (hp : pdAll (pd S 19) ds = some ps) : pd S 20 (.ref a) = some (.list ps) := by
  show (match S a with | some (.lst ds) => (match pdAll (pd S 19) ds with | some ps => some (PyData.list ps) | none => none) | _ => none) = _
  rw [h]
  show (match pdAll (pd S 19) ds with | some ps => some (PyData.list ps) | none => none) = _
  rw [hp]
/-- only new things have come -/
def Fr (S S' : Sto) : Prop := ∀ a, S a ≠ none → S' a = S a
/-- .. and p has changed -/
def FrP (p : Addr) (S S' : Sto) : Prop := ∀ a, a ≠ p → S a ≠ none → S' a = S a
theorem Fr.refl (S : Sto) : Fr S S := fun _ _ => rfl
theorem Fr.trans {S S1 S2 : Sto} (h : Fr S S1) (h' : Fr S1 S2) : Fr S S2 := fun a n => (h' a (by rw [h a n]; exact n)).trans (h a n)
theorem Fr.put {S : Sto} {p : Addr} {o : Ob} (h : S p = none) : Fr S (sput S p o) := fun a n => sput_ne fun e => n (e ▸ h)
theorem Fr.at {S S' : Sto} {a : Addr} {o : Ob} (f : Fr S S') (h : S a = some o) : S' a = some o := (f a (by rw [h]; exact fun z => nomatch z)).trans h
theorem FrP.at {S S' : Sto} {a p : Addr} {o : Ob} (f : FrP p S S') (h : S a = some o) (n : a ≠ p) : S' a = some o := (f a n (by rw [h]; exact fun z => nomatch z)).trans h
theorem Fr.p {S S' : Sto} {p : Addr} (f : Fr S S') : FrP p S S' := fun a _ n => f a n
theorem FrP.refl (p : Addr) (S : Sto) : FrP p S S := fun _ _ _ => rfl
theorem FrP.trans {p : Addr} {S S1 S2 : Sto} (h : FrP p S S1) (h' : FrP p S1 S2) : FrP p S S2 := fun a e n => (h' a e (by rw [h a e n]; exact n)).trans (h a e n)
theorem FrP.put {S : Sto} {p : Addr} {o : Ob} : FrP p S (sput S p o) := fun a e _ => sput_ne e
theorem ne_at {S : Sto} {a b : Addr} {o : Ob} (h : S a = some o) (h' : S b = none) : a ≠ b := fun e => by rw [e, h'] at h; cases h

/-! ### the pen -/
structure Pen (S : Sto) (p c : Addr) (cells : List Int) (i : Int) : Prop where
  ne : p ≠ c
  at_ : ∃ v : Int, S p = some (.lst [.ref c, .int i, .int v])
  cs : S c = some (.lst (cells.map D.int))
  lo : 0 ≤ i
  ln : cells.length ≤ 60
theorem Pen.fr {S S' : Sto} {p c : Addr} {cells : List Int} {i : Int} (x : Pen S p c cells i) (f : Fr S S') : Pen S' p c cells i :=
  let ⟨v, h⟩ := x.at_
  ⟨x.ne, ⟨v, f.at h⟩, f.at x.cs, x.lo, x.ln⟩
theorem small {i : Int} {k : Nat} (h0 : 0 ≤ i) (h : i < 2 ^ k) : i.natAbs < 2 ^ k := by
  have e : ((i.natAbs : Nat) : Int) = i := by omega
  have : ((i.natAbs : Nat) : Int) < ((2 ^ k : Nat) : Int) := by rw [e]; simpa using h
  exact Int.ofNat_lt.mp this
theorem cm {i j : Int} {m n : Nat} (h0 : 0 ≤ i) (h : i < 2 ^ m) (h0' : 0 ≤ j) (h' : j < 2 ^ n) (hk : m + n ≤ 900000) : CMulW i j := cmul (small h0 h) (small h0' h') hk
theorem lt_of_mod {a m k : Int} (h : 0 < m) (hm : m ≤ k) : 0 ≤ a % m ∧ a % m < k := ⟨Int.emod_nonneg _ (by omega), Int.lt_of_lt_of_le (Int.emod_lt_of_pos _ h) hm⟩
def nx1 (cell i : Int) : Int := (cell % 2147483587 + i * 30103 + 79) % 2147483587
def nx2 (cell i : Int) : Int := (nx1 cell i * nx1 cell i + i * 70039 + 61) % 2147483563
def nx3 (cell i : Int) : Int := (nx2 cell i * nx2 cell i + nx1 cell i + i * i * 37) % 2147483549
theorem nx1_ok (cell i : Int) : 0 ≤ nx1 cell i ∧ nx1 cell i < 2 ^ 32 := lt_of_mod (by decide) (by decide)
theorem nx2_ok (cell i : Int) : 0 ≤ nx2 cell i ∧ nx2 cell i < 2 ^ 32 := lt_of_mod (by decide) (by decide)
theorem nx3_ok (cell i : Int) : 0 ≤ nx3 cell i ∧ nx3 cell i < 2 ^ 32 := lt_of_mod (by decide) (by decide)
def next_tail (E : XD) : WS := (sSeq (sIf (dAnd (dTest (dOp rdLt (dVar 1) (dB rdLen (aCons (dOp rdIxA (dVar 0) (dC (.int 0))) aNil)))) (dTest (dOp rdGe (dVar 2) (dOp rdPow (dC (.int 10)) (dC (.int 18)))))) (sRet (dVar 2)) sNext)
    (sSeq (sAsg (dOp rdMod (dB rdInt (aCons (dOp rdAddA (dOp rdAddA (dOp rdMod (dB rdInt (aCons (dVar 2) aNil)) (dC (.int 2147483587))) (dOp rdMulA (dVar 1) (dC (.int 30103)))) (dC (.int 79))) aNil)) (dC (.int 2147483587))) (gdName 3))
    (sSeq (sAsg (dOp rdMod (dB rdInt (aCons (dOp rdAddA (dOp rdAddA (dOp rdMulA (dVar 3) (dVar 3)) (dOp rdMulA (dVar 1) (dC (.int 70039)))) (dC (.int 61))) aNil)) (dC (.int 2147483563))) (gdName 4))
    (sSeq (sAsg (dOp rdMod (dB rdInt (aCons (dOp rdAddA (dOp rdAddA (dOp rdMulA (dVar 4) (dVar 4)) (dVar 3)) (dOp rdMulA (dOp rdMulA (dVar 1) (dVar 1)) (dC (.int 37)))) aNil)) (dC (.int 2147483549))) (gdName 5))
    (sRet (dOp rdAddA (dOp rdMulA (dOp rdAddA (dOp rdMulA (dVar 5) (dC (.int 2147483587))) (dVar 4)) (dC (.int 2147483563))) (dVar 3)))))))
theorem g_next_tail {S : Sto} {p c : Addr} {cells : List Int} {i cell : Int} {Q : DK} {E : XD} (hp : ∃ v : Int, S p = some (.lst [.ref c, .int (i + 1), .int v])) (hc : S c = some (.lst (cells.map D.int))) (lo : 0 ≤ i) (hi : i < 2 ^ 60)
    (q : ∀ w : Int, Q (.int w) S) : next_tail E (endsD Q) [some (.ref p), some (.int i), some (.int cell), none, none, none] S := by
  obtain ⟨v, hp⟩ := hp
  have hlen : lenOf S (.ref c) = some (cells.map D.int).length := by
    show (match S c with | some (.lst ds) => some ds.length | _ => none) = _
    rw [hc]
  refine ⟨_, hp, _, rfl, _, hlen, ?_⟩
  have fin : (sSeq (sAsg (dOp rdMod (dB rdInt (aCons (dOp rdAddA (dOp rdAddA (dOp rdMod (dB rdInt (aCons (dVar 2) aNil)) (dC (.int 2147483587))) (dOp rdMulA (dVar 1) (dC (.int 30103)))) (dC (.int 79))) aNil)) (dC (.int 2147483587))) (gdName 3))
    (sSeq (sAsg (dOp rdMod (dB rdInt (aCons (dOp rdAddA (dOp rdAddA (dOp rdMulA (dVar 3) (dVar 3)) (dOp rdMulA (dVar 1) (dC (.int 70039)))) (dC (.int 61))) aNil)) (dC (.int 2147483563))) (gdName 4))
    (sSeq (sAsg (dOp rdMod (dB rdInt (aCons (dOp rdAddA (dOp rdAddA (dOp rdMulA (dVar 4) (dVar 4)) (dVar 3)) (dOp rdMulA (dOp rdMulA (dVar 1) (dVar 1)) (dC (.int 37)))) aNil)) (dC (.int 2147483549))) (gdName 5))
    (sRet (dOp rdAddA (dOp rdMulA (dOp rdAddA (dOp rdMulA (dVar 5) (dC (.int 2147483587))) (dVar 4)) (dC (.int 2147483563))) (dVar 3)))))) (endsD Q) [some (.ref p), some (.int i), some (.int cell), none, none, none] S := by
    obtain ⟨a0, a1⟩ := nx1_ok cell i
    obtain ⟨b0, b1⟩ := nx2_ok cell i
    obtain ⟨e0, e1⟩ := nx3_ok cell i
    have c1 : (0 : Int) < 2147483587 := by decide
    have c2 : (0 : Int) < 2147483563 := by decide
    have c3 : (0 : Int) < 2147483549 := by decide
    have m1 : ∀ k : Int, 0 ≤ k → k < 2 ^ 60 → CMulW i k := fun k h1 h2 => cm (m := 60) (n := 60) lo hi h1 h2 (by decide)
    have ii : CMulW (i * i) 37 := cmul (m := 120) (n := 60) (by rw [Int.natAbs_mul]; exact nn_mul (small lo hi) (small lo hi)) (by decide) (by decide)
    have l1 : CMulW (nx1 cell i) (nx1 cell i) := cm (m := 32) (n := 32) a0 a1 a0 a1 (by decide)
    have l2 : CMulW (nx2 cell i) (nx2 cell i) := cm (m := 32) (n := 32) b0 b1 b0 b1 (by decide)
    have l3 : CMulW (nx3 cell i) 2147483587 := cm (m := 32) (n := 60) e0 e1 (by decide) (by decide) (by decide)
    have l4 : CMulW (nx3 cell i * 2147483587 + nx2 cell i) 2147483563 := by
      refine cmul (m := 200) (n := 60) (small (k := 200) (by omega) ?_) (by decide) (by decide)
      have : (2 : Int) ^ 200 = 2 ^ 100 * 2 ^ 100 := by decide
      omega
    refine ⟨c1, m1 _ (by decide) (by decide), c1, l1, m1 _ (by decide) (by decide), c2, l2, m1 _ lo hi, ii, c3, l3, l4, q _⟩
  refine br_split (fun c1 => ?_) (fun c1 => fin)
  refine ⟨⟨by decide, by decide, by decide⟩, ?_⟩
  exact br_split (fun c2 => q _) (fun c2 => fin)
theorem g_next {S : Sto} {p c : Addr} {cells : List Int} {i : Int} {Q : DK} {E : XD} (P : Pen S p c cells i) (hi : i < 2 ^ 60) (q : ∀ (v w : Int) S', S' p = some (.lst [.ref c, .int (i + 1), .int v]) → FrP p S S' → Q (.int w) S') : sp__law_next [.ref p] S Q E := by
  obtain ⟨ne, ⟨v, hp⟩, hc, lo, ln⟩ := P
  refine ⟨rfl, ?_⟩
  refine ⟨_, hp, _, rfl, _, hp, _, rfl, ?_⟩
  have hp' : sput S p (.lst [.ref c, .int (i + 1), .int v]) p = some (.lst [.ref c, .int (i + 1), .int v]) := sput_same
  have hc' : sput S p (.lst [.ref c, .int (i + 1), .int v]) c = some (.lst (cells.map D.int)) := by rw [sput_ne (Ne.symm ne)]; exact hc
  refine ⟨cm (m := 60) (n := 60) lo hi (by decide) (by decide) (by decide), ?_⟩
  refine ⟨_, hp', _, rfl, by decide, fun p2 h2 => ?_⟩
  have f2 : Fr (sput S p (.lst [.ref c, .int (i + 1), .int v])) (sput (sput S p (.lst [.ref c, .int (i + 1), .int v])) p2 (.lst [])) := Fr.put h2
  have ff : FrP p S (sput (sput S p (.lst [.ref c, .int (i + 1), .int v])) p2 (.lst [])) := FrP.put.trans f2.p
  have hp2 := f2.at hp'
  have hc2 := f2.at hc'
  have hn2 : sput (sput S p (.lst [.ref c, .int (i + 1), .int v])) p2 (.lst []) p2 = some (.lst []) := sput_same
  refine ⟨_, _, pd_lst hc2 (pdAll_ints _ _ _), pd_lst hn2 rfl, ?_⟩
  refine br_split (fun c1 => ?_) (fun c1 => ?_)
  · have hl2 : lenOf (sput (sput S p (.lst [.ref c, .int (i + 1), .int v])) p2 (.lst [])) (.ref c) = some (cells.map D.int).length := by
      show (match sput (sput S p (.lst [.ref c, .int (i + 1), .int v])) p2 (.lst []) c with | some (.lst ds) => some ds.length | _ => none) = _
      rw [hc2]
    refine ⟨_, hp2, _, rfl, _, hp2, _, rfl, _, hl2, ?_⟩
    have hcl : 0 < cells.length := by
      cases cells with
      | nil => exact absurd c1 (by decide)
      | cons _ _ => simp
    have hlen : (cells.map D.int).length = cells.length := List.length_map ..
    refine ⟨by rw [hlen]; omega, ?_⟩
    have hm0 := Int.emod_nonneg i (b := ((cells.map D.int).length : Int)) (by rw [hlen]; omega)
    have hm1 := Int.emod_lt_of_pos i (b := ((cells.map D.int).length : Int)) (by rw [hlen]; omega)
    have hx : ∃ x : Int, atI (cells.map D.int) (i % ((cells.map D.int).length : Int)) = some (.int x) := by
      have hj : (i % ((cells.map D.int).length : Int)).toNat < cells.length := by omega
      refine ⟨cells[(i % ((cells.map D.int).length : Int)).toNat], ?_⟩
      have e : i % ((cells.map D.int).length : Int) = ((i % ((cells.map D.int).length : Int)).toNat : Int) := by omega
      have h := atI_nat (xs := cells.map D.int) (j := (i % ((cells.map D.int).length : Int)).toNat) (v := D.int (cells[(i % ((cells.map D.int).length : Int)).toNat])) (by rw [List.getElem?_map, List.getElem?_eq_getElem hj]; rfl)
      rw [← e] at h
      exact h
    obtain ⟨x, hx⟩ := hx
    refine ⟨_, hc2, _, hx, ?_⟩
    exact g_next_tail (E := E) ⟨v, hp2⟩ hc2 lo hi fun w => q v w _ hp2 ff
  · exact g_next_tail (E := E) ⟨v, hp2⟩ hc2 lo hi fun w => q v w _ hp2 ff
theorem g_draw {S : Sto} {p c : Addr} {cells : List Int} {i u : Int} {Q : DK} {E : XD} (P : Pen S p c cells i) (hi : i < 2 ^ 60) (hu : 0 < u) (hu2 : u < 2 ^ 60)
    (q : ∀ (d j : Int) S', 0 ≤ d → d < u → Pen S' p c cells j → j ≤ i + 1 → FrP p S S' → Q (.int d) S') : sp__law_draw [.ref p, .int u] S Q E := by
  obtain ⟨v, hp⟩ := P.at_
  have hlu : u.natAbs.log2 < 9000 := by
    have := log_lt (small (Int.le_of_lt hu) hu2)
    omega
  refine ⟨rfl, ?_⟩
  have fin : ∀ (w j : Int) S1, S1 p = some (.lst [.ref c, .int j, .int w]) → S1 c = some (.lst (cells.map D.int)) → 0 ≤ j → j ≤ i + 1 → FrP p S S1 → (sSeq (sAsg (dOp rdMod (dB rdInt (aCons (dOp rdIxA (dVar 0) (dC (.int 2))) aNil)) (dVar 1)) (gdName 2))
    (sSeq (sAsg (dOp rdDiv (dOp rdIxA (dVar 0) (dC (.int 2))) (dVar 1)) (gdSub (dVar 0) (dC (.int 2)) rdSetA))
    (sRet (dVar 2)))) (endsD Q) [some (.ref p), some (.int u), none] S1 := fun w j S1 h1 h2 h3 h4 h5 => by
    refine ⟨_, h1, _, rfl, hu, _, h1, _, rfl, ⟨hu, hlu⟩, _, h1, _, rfl, ?_⟩
    refine q _ j _ (Int.emod_nonneg _ (by omega)) (Int.emod_lt_of_pos _ hu) ⟨P.ne, ⟨_, sput_same⟩, ?_, h3, P.ln⟩ h4 (h5.trans FrP.put)
    rw [sput_ne (Ne.symm P.ne)]
    exact h2
  refine ⟨_, hp, _, rfl, ?_⟩
  refine br_split (fun c1 => ?_) (fun c1 => ?_)
  · refine g_next P hi fun v' w S1 h1 h2 => ?_
    refine ⟨_, h1, _, rfl, ?_⟩
    refine fin w (i + 1) _ sput_same ?_ (by have := P.lo; omega) (by omega) (h2.trans FrP.put)
    rw [sput_ne (Ne.symm P.ne)]
    exact h2.at P.cs (Ne.symm P.ne)
  · exact fin v i S hp P.cs P.lo (by omega) (FrP.refl _ _)
theorem g_pen {ns : List Int} {S : Sto} {Q : DK} {E : XD} (q : ∀ p c S', Pen S' p c (ns.take 60) 0 → Fr S S' → Q (.ref p) S') : sp__law_pen [.scr ns] S Q E := by
  refine ⟨rfl, ?_⟩
  intro p1 h1
  have e1 : cutD (ns.map D.int) none (some 60) = (ns.take 60).map D.int := by
    unfold DL.cutD
    have h0 : HT.sIx (ns.map D.int).length 0 none = 0 := rfl
    rw [h0, List.drop_zero, Nat.sub_zero]
    have h1 : HT.sIx (ns.map D.int).length (ns.map D.int).length (some 60) = min 60 (ns.map D.int).length := by
      exact HT.sIx_nat _ _ 60
    rw [h1, ← List.map_take, List.length_map]
    by_cases h : 60 ≤ ns.length
    · rw [Nat.min_eq_left h]
    · rw [Nat.min_eq_right (by omega), List.take_of_length_le (Nat.le_refl _), List.take_of_length_le (by omega)]
  have hs : sput S p1 (.lst (cutD (ns.map D.int) none (some 60))) p1 = some (.lst ((ns.take 60).map D.int)) := by rw [sput_same, e1]
  have f1 : Fr S (sput S p1 (.lst (cutD (ns.map D.int) none (some 60)))) := Fr.put h1
  refine ⟨_, show elemsOf _ (.ref p1) = some ((ns.take 60).map D.int) from ?_, fun p2 h2 => ⟨by show 3 ≤ sizeLine; decide, fun p3 h3 => ?_⟩⟩
  · show (match sput S p1 _ p1 with | some (.lst ds) => some ds | _ => none) = _
    rw [hs]
  · refine q p3 p2 _ ⟨?_, ⟨0, sput_same⟩, ?_, Int.le_refl _, by rw [List.length_take]; omega⟩ ((f1.trans (Fr.put h2)).trans (Fr.put h3))
    · intro e
      rw [e, sput_same] at h3
      cases h3
    · exact (Fr.put h3).at sput_same
end LW

set_option maxRecDepth 100000
namespace LW
open PySem PySem.Spec PyProof.Rows L2 DL

/-! ### loops -/
theorem for_inv {G : Sto → Prop} {g : WG} {tb : WS} {De : DEnds} {its : List D} (I : Nat → DS → Sto → Prop) (hG : ∀ i σ S, I i σ S → G S)
    (step : ∀ i d σ S (N : DS → Sto → Prop), its[i]? = some d → I i σ S → (∀ σ S, I (i + 1) σ S → N σ S) → g d σ S fun σ1 S1 => tb { De with nx := N, ct := N, bk := De.nx } σ1 S1)
    (done : ∀ σ S, I its.length σ S → De.nx σ S) {σ : DS} {S : Sto} (h : I 0 σ S) : forW G g tb De its σ S := by
  have key : ∀ (r : List D) (i : Nat), its.drop i = r → i ≤ its.length → ∀ σ S, I i σ S → forW G g tb De r σ S := by
    intro r
    induction r with
    | nil =>
      intro i hd hi σ S h
      have : i = its.length := by
        have := congrArg List.length hd
        simp at this
        omega
      subst this
      exact ⟨hG _ _ _ h, done _ _ h⟩
    | cons d r ih =>
      intro i hd hi σ S h
      have hlt : i < its.length := by
        have := congrArg List.length hd
        simp at this
        omega
      rw [List.drop_eq_getElem_cons hlt] at hd
      injection hd with h1 h2
      exact ⟨hG _ _ _ h, step i d σ S _ (by rw [← h1]; exact List.getElem?_eq_getElem hlt) h fun σ' S' h' => ih (i + 1) h2 hlt σ' S' h'⟩
  exact key its 0 rfl (Nat.zero_le _) σ S h
theorem lc_inv {G : Sto → Prop} {g : WG} {tt : WT} {te : WE} {σ : DS} {R : List D → Sto → Prop} {its : List D} (I : Nat → List D → Sto → Prop) (hG : ∀ i a S, I i a S → G S)
    (step : ∀ i d acc S (N : List D → Sto → Prop), its[i]? = some d → I i acc S → (∀ a S, I (i + 1) a S → N a S) → g d σ S fun σ2 S2 => tt σ2 S2 fun b S3 => br b (te σ2 S3 fun y S4 => acc.length < sizeLine ∧ N (acc ++ [y]) S4) (N acc S3))
    (done : ∀ a S, I its.length a S → R a S) {S : Sto} (h : I 0 [] S) : lcW G g tt te σ R its [] S := by
  have key : ∀ (r : List D) (i : Nat), its.drop i = r → i ≤ its.length → ∀ a S, I i a S → lcW G g tt te σ R r a S := by
    intro r
    induction r with
    | nil =>
      intro i hd hi a S h
      have : i = its.length := by
        have := congrArg List.length hd
        simp at this
        omega
      subst this
      exact ⟨hG _ _ _ h, done _ _ h⟩
    | cons d r ih =>
      intro i hd hi a S h
      have hlt : i < its.length := by
        have := congrArg List.length hd
        simp at this
        omega
      rw [List.drop_eq_getElem_cons hlt] at hd
      injection hd with h1 h2
      exact ⟨hG _ _ _ h, step i d a S _ (by rw [← h1]; exact List.getElem?_eq_getElem hlt) h fun a' S' h' => ih (i + 1) h2 hlt a' S' h'⟩
  exact key its 0 rfl (Nat.zero_le _) [] S h
/-- a comprehension without a test whose element is a pure function of the item -/
theorem lc_map {G : Sto → Prop} {g : WG} {te : WE} {σ : DS} {R : List D → Sto → Prop} {its : List D} (f : Nat → D → D) (hl : its.length ≤ 16000000) {S : Sto} (hG : G S)
    (step : ∀ i d (N : D → Sto → Prop), its[i]? = some d → N (f i d) S → g d σ S fun σ2 S2 => te σ2 S2 N)
    (done : R (its.mapIdx f) S) : lcW G g dYes te σ R its [] S := by
  refine lc_inv (fun i a S' => S' = S ∧ a = (its.take i).mapIdx f ∧ i ≤ its.length) (fun i a S' h => h.1 ▸ hG) (fun i d acc S' N hi ⟨e, ha, hl'⟩ hN => ?_) (fun a S' ⟨e, ha, _⟩ => ?_) ⟨rfl, rfl, Nat.zero_le _⟩
  · subst e
    have hlt : i < its.length := (List.getElem?_eq_some_iff.mp hi).1
    refine step i d _ hi ⟨?_, hN _ _ ⟨rfl, ?_, hlt⟩⟩
    · rw [ha, List.length_mapIdx, List.length_take]
      show _ < 16777216
      omega
    · rw [ha, List.take_succ, hi, List.mapIdx_append, List.length_take, Nat.min_eq_left hl']
      simp
  · subst e
    rw [ha, List.take_length]
    exact done

/-! ### whether a datum is a whole number, a fraction -/
section
variable {S : Sto} {Q : DK} {E : XD}
theorem br_t {b : Bool} {p q : Prop} (h : b = true) (k : p) : br b p q := by
  subst h
  exact k
theorem br_f {b : Bool} {p q : Prop} (h : b = false) (k : q) : br b p q := by
  subst h
  exact k
theorem g_is_integer_int {i : Int} (q : Q (.bl true) S) : sp_is_integer [.int i] S Q E := by
  refine ⟨rfl, _, rfl, _, rfl, ?_⟩
  exact q
theorem g_is_fraction_fr {x : Rat} (q : Q (.bl true) S) : sp_is_fraction [fr x] S Q E := by
  refine ⟨rfl, _, rfl, _, rfl, _, _, rfl, rfl, _, rfl, ?_⟩
  refine g_is_integer_int ?_
  refine ⟨_, rfl, ?_⟩
  refine g_is_integer_int ?_
  refine ⟨_, rfl, ?_⟩
  show br (decide ((0 : Int) < (x.den : Int))) _ _
  refine br_t (decide_eq_true (den_pos x)) ?_
  refine ⟨_, rfl, _, rfl, g_divisor_of ?_⟩
  refine ⟨_, _, rfl, rfl, ?_⟩
  have e : Int.gcd x.num (x.den : Int) = 1 := by
    have := x.reduced
    simpa [Int.gcd, Nat.Coprime] using this
  show Q (.bl (((Int.gcd x.num (x.den : Int) : Nat) : Int) == 1)) S
  rw [e]
  exact q
end
/-! ### forests -/
structure Tk where
  par : Option Nat
  pay : Rat
  fac : Rat
def parD : Option Nat → D
  | none => .non
  | some p => .int p
def tkD (t : Tk) : D := .tup [parD t.par, fr t.pay, fr t.fac]
def foD (F : List Tk) : D := .tup (F.map tkD)
structure OkF (F : List Tk) : Prop where
  l1 : 1 ≤ F.length
  l8 : F.length ≤ 8
  par : ∀ (i : Nat) (t : Tk), F[i]? = some t → ∀ p, t.par = some p → p < i
  sz : ∀ t ∈ F, Sz 40 t.pay ∧ Sz 40 t.fac
  nn : ∀ t ∈ F, 0 ≤ t.fac
section
variable {S : Sto} {Q : DK} {E : XD}
theorem g_is_parent {o : Option Nat} {n : Nat} (h : ∀ p, o = some p → p < n) (q : Q (.bl true) S) : sp_is_parent [parD o, .int n] S Q E := by
  cases o with
  | none => exact ⟨rfl, q⟩
  | some p =>
    have hp := h p rfl
    refine ⟨rfl, ?_⟩
    refine g_is_integer_int ?_
    have e : decide ((p : Int) < (n : Int)) = true := decide_eq_true (by omega)
    show Q (.bl (decide ((p : Int) < (n : Int)))) S
    rw [e]
    exact q
theorem g_is_factor {x : Rat} (h : 0 ≤ x) (q : Q (.bl true) S) : sp_is_factor [fr x] S Q E := by
  refine ⟨rfl, ?_⟩
  refine g_is_fraction_fr ?_
  refine ⟨_, rfl, ?_⟩
  have e : decide ((0 : Int) ≤ x.num) = true := decide_eq_true (Rat.num_nonneg.mpr h)
  show Q (.bl (decide ((0 : Int) ≤ x.num))) S
  rw [e]
  exact q
theorem g_is_task {t : Tk} {n : Nat} (hp : ∀ p, t.par = some p → p < n) (hn : 0 ≤ t.fac) (q : Q (.bl true) S) : sp_is_task [tkD t, .int n] S Q E := by
  refine ⟨rfl, _, rfl, _, rfl, _, _, rfl, rfl, _, rfl, ?_⟩
  refine g_is_parent hp ?_
  refine ⟨_, rfl, ?_⟩
  refine g_is_fraction_fr ?_
  refine ⟨_, rfl, ?_⟩
  exact g_is_factor hn q
theorem numberedEq : ∀ (ds : List D) (i : Nat), DL.numbered i ds = ds.mapIdx fun j d => .tup [.int ((i + j : Nat) : Int), d]
  | [], _ => rfl
  | d :: ds, i => by
    rw [List.mapIdx_cons, DL.numbered, numberedEq ds (i + 1)]
    congr 1
    congr 1
    funext j d
    rw [show i + 1 + j = i + (j + 1) by omega]
theorem g_is_forest {F : List Tk} (h : OkF F) (q : ∀ S', Fr S S' → Q (.bl true) S') : sp_is_forest [foD F] S Q E := by
  refine ⟨rfl, _, rfl, _, rfl, ?_⟩
  have hl : (F.map tkD).length = F.length := List.length_map ..
  show br (decide ((1 : Int) ≤ ((F.map tkD).length : Int))) _ _
  refine br_t (decide_eq_true (by rw [hl]; have := h.l1; omega)) ?_
  show br (!decide (((F.map tkD).length : Int) ≤ 8)) _ _
  refine br_f (by rw [decide_eq_true (by rw [hl]; have := h.l8; omega)]; rfl) ?_
  refine lc_map (fun _ _ => .bl true) (by rw [DL.numbered_length, hl]; have := h.l8; omega) trivial (fun i d N hi hN => ?_) ?_
  · obtain ⟨x, h1, rfl⟩ := DL.numbered_get hi
    rw [List.getElem?_map] at h1
    cases ht : F[i]? with
    | none => rw [ht] at h1; cases h1
    | some t =>
      rw [ht] at h1
      cases h1
      refine ⟨rfl, ?_⟩
      rw [Nat.zero_add]
      exact g_is_task (h.par i t ht) (h.nn t (List.mem_of_getElem? ht)) hN
  · intro p hp
    have hb : boolsOf ((DL.numbered 0 (F.map tkD)).mapIdx fun _ _ => D.bl true) = some (List.replicate F.length true) := by
      have e : ((DL.numbered 0 (F.map tkD)).mapIdx fun _ _ => D.bl true) = (List.replicate F.length true).map D.bl := by
        refine List.ext_getElem (by simp [DL.numbered_length]) fun i h1 h2 => ?_
        simp
      rw [e, boolsOf_map]
    refine ⟨_, _, sput_same, hb, ?_⟩
    have e : (List.replicate F.length true).all id = true := by simp
    show Q (.bl ((List.replicate F.length true).all id)) _
    rw [e]
    exact q _ (Fr.put hp)
theorem g_need_forest {F : List Tk} (h : OkF F) (q : ∀ S', Fr S S' → Q .non S') : sp_need_forest [foD F] S Q E :=
  ⟨rfl, g_is_forest h fun S' f => q S' f⟩
end
end LW

set_option maxRecDepth 100000
namespace LW
open PySem PySem.Spec PyProof.Rows L2 DL

/-! ### orders of a forest, in plain Lean -/
def parOf (F : List Tk) (x : Nat) : Option Nat := (F[x]?).bind Tk.par
def canAdd (F : List Tk) (l : List Nat) (x : Nat) : Bool := decide (x < F.length) && (!l.contains x && (match parOf F x with
  | none => true
  | some p => l.contains p))
inductive Pre (F : List Tk) : List Nat → Prop
  | nil : Pre F []
  | snoc {l : List Nat} {x : Nat} : Pre F l → canAdd F l x = true → Pre F (l ++ [x])
def stepR (F : List Tk) (s : Rat × Rat) (x : Nat) : Rat × Rat := match F[x]? with
  | some t => (s.1 + s.2 * t.pay, s.2 * t.fac)
  | none => s
def runL (F : List Tk) (l : List Nat) : Rat × Rat := l.foldl (stepR F) (0, 1)
theorem runL_snoc (F : List Tk) (l : List Nat) (x : Nat) : runL F (l ++ [x]) = stepR F (runL F l) x := by
  unfold runL
  rw [List.foldl_append]
  rfl
def facOf (F : List Tk) (x : Nat) : Rat := match F[x]? with
  | some t => t.fac
  | none => 1
def payOf (F : List Tk) (x : Nat) : Rat := match F[x]? with
  | some t => t.pay
  | none => 0
theorem stepR_2 (F : List Tk) (s : Rat × Rat) (x : Nat) : (stepR F s x).2 = s.2 * facOf F x := by
  unfold stepR facOf
  split
  · rfl
  · rw [Rat.mul_one]
theorem stepR_1 (F : List Tk) (s : Rat × Rat) (x : Nat) : (stepR F s x).1 = s.1 + s.2 * payOf F x := by
  unfold stepR payOf
  split
  · rfl
  · rw [Rat.mul_zero, Rat.add_zero]
theorem fold_2 (F : List Tk) : ∀ (l : List Nat) (s : Rat × Rat), (l.foldl (stepR F) s).2 = s.2 * (l.map (facOf F)).foldr (· * ·) 1
  | [], s => by simp
  | x :: l, s => by
    rw [List.foldl_cons, fold_2 F l, stepR_2, List.map_cons, List.foldr_cons, Rat.mul_assoc]
theorem wt_perm {F : List Tk} {l l' : List Nat} (h : l.Perm l') : (runL F l).2 = (runL F l').2 := by
  unfold runL
  rw [fold_2, fold_2]
  congr 1
  have h2 := h.map (facOf F)
  generalize l.map (facOf F) = a at *
  generalize l'.map (facOf F) = b at *
  induction h2 with
  | nil => rfl
  | cons x h ih => simp only [List.foldr_cons, ih]
  | swap x y l => simp only [List.foldr_cons, ← Rat.mul_assoc, Rat.mul_comm y x]
  | trans _ _ h1 h2 => exact h1.trans h2
theorem canAdd_perm {F : List Tk} {l l' : List Nat} (h : l.Perm l') (x : Nat) : canAdd F l x = canAdd F l' x := by
  have e : ∀ y, l.contains y = l'.contains y := fun y => by
    rw [Bool.eq_iff_iff, List.contains_iff_mem, List.contains_iff_mem]
    exact h.mem_iff
  unfold canAdd
  rw [e]
  cases parOf F x with
  | none => rfl
  | some p =>
    dsimp only
    rw [e]
theorem Pre.nodup {F : List Tk} {l : List Nat} (h : Pre F l) : l.Nodup := by
  induction h with
  | nil => exact List.nodup_nil
  | snoc h c ih =>
    rename_i l x
    have hx : x ∉ l := by
      unfold canAdd at c
      simp only [Bool.and_eq_true, Bool.not_eq_true'] at c
      intro hm
      have := List.contains_iff_mem.mpr hm
      rw [this] at c
      cases c.2.1
    rw [List.nodup_append]
    refine ⟨ih, by simp, ?_⟩
    intro a ha b hb
    simp at hb
    subst hb
    exact fun e => hx (e ▸ ha)
theorem Pre.lt {F : List Tk} {l : List Nat} (h : Pre F l) : ∀ x ∈ l, x < F.length := by
  induction h with
  | nil => intro x hx; simp at hx
  | snoc h c ih =>
    intro y hy
    rcases List.mem_append.mp hy with hy | hy
    · exact ih y hy
    · simp at hy
      subst hy
      unfold canAdd at c
      simp only [Bool.and_eq_true, decide_eq_true_eq] at c
      exact c.1
theorem Pre.last {F : List Tk} {l : List Nat} {k : Nat} (h : Pre F l) (hl : l.length = k + 1) : ∃ m x, l = m ++ [x] ∧ Pre F m ∧ canAdd F m x = true ∧ m.length = k := by
  cases h with
  | nil => simp at hl
  | snoc h c => exact ⟨_, _, rfl, h, c, by simpa using hl⟩
/-- the order 0, 1, .. is one -/
theorem pre_range {F : List Tk} (h : ∀ (i : Nat) (t : Tk), F[i]? = some t → ∀ p, t.par = some p → p < i) : ∀ k, k ≤ F.length → Pre F (List.range k)
  | 0, _ => .nil
  | k + 1, hk => by
    rw [List.range_succ]
    refine .snoc (pre_range h k (by omega)) ?_
    unfold canAdd
    rw [decide_eq_true (by omega : k < F.length), Bool.true_and]
    have h1 : (List.range k).contains k = false := by simp
    rw [h1, Bool.not_false, Bool.true_and]
    unfold parOf
    have hlt : k < F.length := by omega
    rw [List.getElem?_eq_getElem hlt]
    show (match F[k].par with | none => true | some p => (List.range k).contains p) = true
    cases hp : F[k].par with
    | none => rfl
    | some p =>
      have := h k F[k] (List.getElem?_eq_getElem hlt) p hp
      simp [this]
theorem nodup_le {α : Type} [BEq α] [LawfulBEq α] : ∀ (l m : List α), l.Nodup → (∀ x ∈ l, x ∈ m) → l.length ≤ m.length
  | [], _, _, _ => Nat.zero_le _
  | x :: l, m, h, hs => by
    obtain ⟨h1, h2⟩ := List.nodup_cons.mp h
    have hx := hs x (List.mem_cons_self ..)
    have := nodup_le l (m.erase x) h2 fun y hy => (List.mem_erase_of_ne (fun e => h1 (by rw [← e]; exact hy))).mpr (hs y (List.mem_cons_of_mem _ hy))
    rw [List.length_erase_of_mem hx] at this
    have := List.length_pos_of_mem hx
    simp only [List.length_cons]
    omega
/-- a whole order is one of all the numbers -/
theorem Pre.perm {F : List Tk} {l : List Nat} (h : Pre F l) (hl : l.length = F.length) : l.Perm (List.range F.length) := by
  refine (List.perm_ext_iff_of_nodup h.nodup List.nodup_range).mpr fun x => ⟨fun hx => by simpa using h.lt x hx, fun hx => ?_⟩
  by_cases hm : x ∈ l
  · exact hm
  · have h2 : (x :: l).Nodup := List.nodup_cons.mpr ⟨hm, h.nodup⟩
    have := nodup_le (x :: l) (List.range F.length) h2 fun y hy => by
      rcases List.mem_cons.mp hy with e | hy
      · rw [e]; exact hx
      · simpa using h.lt y hy
    simp at this
    omega

/-! ### keys -/
def natD (n : Nat) : D := .int n
def keyI (l : List Nat) : List Int := (l.map Int.ofNat).mergeSort (· ≤ ·)
def keyT (l : List Nat) : D := .tup ((keyI l).map D.int)
theorem keyI_perm (l : List Nat) : (keyI l).Perm (l.map Int.ofNat) := List.mergeSort_perm _ _
theorem srt_pair (l : List Int) : (l.mergeSort (· ≤ ·)).Pairwise (· ≤ ·) := by
  have := List.pairwise_mergeSort (le := fun a b : Int => decide (a ≤ b)) (by intro a b c; simp; omega) (by intro a b; simp; omega) l
  exact this.imp fun h => by simpa using h
theorem srt_uniq {a b : List Int} (p : a.Perm b) (ha : a.Pairwise (· ≤ ·)) (hb : b.Pairwise (· ≤ ·)) : a = b := List.Perm.eq_of_pairwise (fun _ _ _ _ x y => Int.le_antisymm x y) ha hb p
theorem keyI_eq {l l' : List Nat} : keyI l = keyI l' ↔ l.Perm l' := by
  refine ⟨fun h => ?_, fun h => ?_⟩
  · have := ((keyI_perm l).symm.trans (h ▸ keyI_perm l'))
    have h2 := this.map Int.toNat
    rw [List.map_map, List.map_map] at h2
    have e : ∀ l : List Nat, l.map (Int.toNat ∘ Int.ofNat) = l := fun l => by
      conv => rhs; rw [← List.map_id l]
      rfl
    rwa [e, e] at h2
  · exact srt_uniq ((keyI_perm l).trans ((h.map _).trans (keyI_perm l').symm)) (srt_pair _) (srt_pair _)
/-- behind one more number -/
theorem keyI_snoc (l : List Nat) (x : Nat) : (keyI l ++ [(x : Int)]).mergeSort (· ≤ ·) = keyI (l ++ [x]) := by
  refine srt_uniq (((List.mergeSort_perm _ _).trans ?_).trans (keyI_perm _).symm) (srt_pair _) (srt_pair _)
  rw [List.map_append]
  exact (keyI_perm l).append_right _
def nk (is : List Int) : NestedKey := .tup (is.map .num)
theorem toKeys_ints : ∀ is : List Int, toKeys (is.map D.int) = some (is.map NestedKey.num)
  | [] => rfl
  | i :: is => by
    simp only [List.map_cons, toKeys, toKey, toKeys_ints is]
theorem depth_nums : ∀ is : List Int, NestedKey.depthAll (is.map NestedKey.num) = 0
  | [] => by simp [NestedKey.depthAll]
  | i :: is => by simp [NestedKey.depthAll, NestedKey.depth, depth_nums is]
theorem keyD_ints (is : List Int) : keyD (.tup (is.map D.int)) = some (nk is) := by
  show (match toKeys (is.map D.int) with | some ks => if (NestedKey.tup ks).depth ≤ 8 then some (NestedKey.tup ks) else none | none => none) = _
  rw [toKeys_ints]
  show (if (NestedKey.tup (is.map NestedKey.num)).depth ≤ 8 then _ else _) = _
  rw [if_pos (by simp [NestedKey.depth, depth_nums])]
  rfl
theorem nk_inj {a b : List Int} (h : nk a = nk b) : a = b := by
  unfold nk at h
  injection h with h
  have : ∀ {a b : List Int}, a.map NestedKey.num = b.map NestedKey.num → a = b := by
    intro a
    induction a with
    | nil => intro b h; cases b with | nil => rfl | cons _ _ => simp at h
    | cons x a ih =>
      intro b h
      cases b with
      | nil => simp at h
      | cons y b =>
        simp only [List.map_cons, List.cons.injEq, NestedKey.num.injEq] at h
        rw [h.1, ih h.2]
  exact this h
end LW

set_option maxRecDepth 100000
namespace LW
open PySem PySem.Spec PyProof.Rows L2 DL

/-! ### the best orders by their sets, in plain Lean -/
section
variable {α : Type} {F : List Tk}
def putF : List (List Nat × α) → List Nat × α → List (List Nat × α)
  | [], e => [e]
  | f :: r, e => if keyI f.1 = keyI e.1 then e :: r else f :: putF r e
def findF : List (List Nat × α) → List Int → Option (List Nat × α)
  | [], _ => none
  | f :: r, k => if keyI f.1 = k then some f else findF r k
structure Tab (F : List Tk) (k : Nat) (fs : List (List Nat × α)) : Prop where
  pre : ∀ f ∈ fs, Pre F f.1 ∧ f.1.length = k
  nd : (fs.map fun f => keyI f.1).Nodup
def Has (F : List Tk) (fs : List (List Nat × α)) (l : List Nat) : Prop := ∃ f ∈ fs, keyI f.1 = keyI l ∧ (runL F l).1 ≤ (runL F f.1).1
structure Lv (F : List Tk) (k : Nat) (es : List (List Nat × α)) : Prop where
  tab : Tab F k es
  all : ∀ l, Pre F l → l.length = k → Has F es l
theorem putF_mem {fs : List (List Nat × α)} {e f : List Nat × α} (h : f ∈ putF fs e) : f = e ∨ f ∈ fs := by
  induction fs with
  | nil => exact .inl (by simpa [putF] using h)
  | cons g r ih =>
    unfold putF at h
    split at h
    · rcases List.mem_cons.mp h with h | h
      · exact .inl h
      · exact .inr (List.mem_cons_of_mem _ h)
    · rcases List.mem_cons.mp h with h | h
      · exact .inr (by rw [h]; exact List.mem_cons_self ..)
      · rcases ih h with h | h
        · exact .inl h
        · exact .inr (List.mem_cons_of_mem _ h)
theorem putF_self {fs : List (List Nat × α)} {e : List Nat × α} : e ∈ putF fs e := by
  induction fs with
  | nil => simp [putF]
  | cons g r ih =>
    unfold putF
    split
    · exact List.mem_cons_self ..
    · exact List.mem_cons_of_mem _ ih
theorem putF_old {fs : List (List Nat × α)} {e f : List Nat × α} (h : f ∈ fs) : f ∈ putF fs e ∨ keyI f.1 = keyI e.1 := by
  induction fs with
  | nil => simp at h
  | cons g r ih =>
    unfold putF
    rcases List.mem_cons.mp h with h | h
    · subst h
      split
      · rename_i c
        exact .inr c
      · exact .inl (List.mem_cons_self ..)
    · split
      · exact .inl (List.mem_cons_of_mem _ h)
      · rcases ih h with h | h
        · exact .inl (List.mem_cons_of_mem _ h)
        · exact .inr h
theorem putF_keys {fs : List (List Nat × α)} {e : List Nat × α} (nd : (fs.map fun f => keyI f.1).Nodup) : ((putF fs e).map fun f => keyI f.1).Nodup := by
  induction fs with
  | nil => simp [putF]
  | cons g r ih =>
    rw [List.map_cons, List.nodup_cons] at nd
    unfold putF
    split
    · rename_i c
      rw [List.map_cons, List.nodup_cons, ← c]
      exact nd
    · rename_i c
      rw [List.map_cons, List.nodup_cons]
      refine ⟨fun h => ?_, ih nd.2⟩
      obtain ⟨f, hf, he⟩ := List.mem_map.mp h
      rcases putF_mem hf with h | h
      · rw [h] at he
        exact c he.symm
      · exact nd.1 (List.mem_map.mpr ⟨f, h, he⟩)
theorem putF_length {fs : List (List Nat × α)} {e : List Nat × α} : (putF fs e).length ≤ fs.length + 1 := by
  induction fs with
  | nil => simp [putF]
  | cons g r ih =>
    unfold putF
    split <;> simp only [List.length_cons] <;> omega
theorem Tab.put {k : Nat} {fs : List (List Nat × α)} {e : List Nat × α} (t : Tab F k fs) (h : Pre F e.1 ∧ e.1.length = k) : Tab F k (putF fs e) :=
  ⟨fun f hf => (putF_mem hf).elim (fun q => q ▸ h) (t.pre f), putF_keys t.nd⟩
theorem Has.put {fs : List (List Nat × α)} {e : List Nat × α} {l : List Nat} (h : Has F fs l) (better : ∀ f ∈ fs, keyI f.1 = keyI e.1 → (runL F f.1).1 ≤ (runL F e.1).1) : Has F (putF fs e) l := by
  obtain ⟨f, hf, h1, h2⟩ := h
  rcases putF_old (e := e) hf with q | q
  · exact ⟨f, q, h1, h2⟩
  · exact ⟨e, putF_self, q.symm.trans h1, Rat.le_trans h2 (better f hf q)⟩
theorem has_self {fs : List (List Nat × α)} {e : List Nat × α} : Has F (putF fs e) e.1 := ⟨e, putF_self, rfl, Rat.le_refl⟩
theorem findF_some {fs : List (List Nat × α)} {k : List Int} {f : List Nat × α} (h : findF fs k = some f) : f ∈ fs ∧ keyI f.1 = k := by
  induction fs with
  | nil => cases h
  | cons g r ih =>
    unfold findF at h
    split at h
    · rename_i c
      cases h
      exact ⟨List.mem_cons_self .., c⟩
    · obtain ⟨h1, h2⟩ := ih h
      exact ⟨List.mem_cons_of_mem _ h1, h2⟩
theorem findF_none {fs : List (List Nat × α)} {k : List Int} (h : findF fs k = none) : ∀ f ∈ fs, keyI f.1 ≠ k := by
  induction fs with
  | nil => intro f hf; simp at hf
  | cons g r ih =>
    unfold findF at h
    split at h
    · cases h
    · rename_i c
      intro f hf
      rcases List.mem_cons.mp hf with q | q
      · rw [q]; exact c
      · exact ih h f q
theorem findF_only {fs : List (List Nat × α)} {k : List Int} {f : List Nat × α} (nd : (fs.map fun f => keyI f.1).Nodup) (h : findF fs k = some f) : ∀ g ∈ fs, keyI g.1 = k → g = f := by
  induction fs with
  | nil => cases h
  | cons a r ih =>
    rw [List.map_cons, List.nodup_cons] at nd
    unfold findF at h
    intro g hg hk
    split at h
    · rename_i c
      cases h
      rcases List.mem_cons.mp hg with q | q
      · exact q
      · exact absurd (List.mem_map.mpr ⟨g, q, hk.trans c.symm⟩) nd.1
    · rename_i c
      rcases List.mem_cons.mp hg with q | q
      · exact absurd (q ▸ hk) c
      · exact ih nd.2 h g q hk
theorem run_le {l m : List Nat} (hk : keyI l = keyI m) (h : (runL F m).1 ≤ (runL F l).1) (x : Nat) : (runL F (m ++ [x])).1 ≤ (runL F (l ++ [x])).1 := by
  rw [runL_snoc, runL_snoc, stepR_1, stepR_1, wt_perm (keyI_eq.mp hk)]
  exact Rat.add_le_add_right.mpr h
theorem Has.step {es fs : List (List Nat × α)} {l : List Nat} {x : Nat} (h : Has F es l) (hn : ∀ e ∈ es, canAdd F e.1 x = true → Has F fs (e.1 ++ [x])) (hc : canAdd F l x = true) : Has F fs (l ++ [x]) := by
  obtain ⟨e, he, h1, h2⟩ := h
  obtain ⟨f, hf, h3, h4⟩ := hn e he (by rw [canAdd_perm (keyI_eq.mp h1)]; exact hc)
  refine ⟨f, hf, h3.trans (keyI_eq.mpr ((keyI_eq.mp h1).append_right _)), Rat.le_trans (run_le h1 h2 x) h4⟩
theorem Lv.next {k : Nat} {es fs : List (List Nat × α)} (h : Lv F k es) (t : Tab F (k + 1) fs) (hn : ∀ e ∈ es, ∀ x, x < F.length → canAdd F e.1 x = true → Has F fs (e.1 ++ [x])) : Lv F (k + 1) fs :=
  ⟨t, fun l hp hl => by
    obtain ⟨m, x, rfl, h1, h2, h3⟩ := hp.last hl
    have hx : x < F.length := by
      unfold canAdd at h2
      simp only [Bool.and_eq_true, decide_eq_true_eq] at h2
      exact h2.1
    exact (h.all m h1 h3).step (fun e he hc => hn e he x hx hc) h2⟩
theorem lv_start {a : α} : Lv F 0 [(([] : List Nat), a)] := by
  refine ⟨⟨fun f hf => ?_, by simp⟩, fun l hp hl => ⟨_, List.mem_cons_self .., ?_, ?_⟩⟩
  · have : f = ([], a) := by simpa using hf
    subst this
    exact ⟨.nil, rfl⟩
  · rw [List.length_eq_zero_iff.mp hl]
  · rw [List.length_eq_zero_iff.mp hl]
    exact Rat.le_refl
structure Best (F : List Tk) (l : List Nat) : Prop where
  pre : Pre F l
  len : l.length = F.length
  top : ∀ m, Pre F m → m.length = F.length → (runL F m).1 ≤ (runL F l).1
theorem Best.uniq {l m : List Nat} (h : Best F l) (h' : Best F m) : (runL F l).1 = (runL F m).1 := Rat.le_antisymm (h'.top l h.pre h.len) (h.top m h'.pre h'.len)
theorem Lv.end_ (ok : OkF F) {es : List (List Nat × α)} (h : Lv F F.length es) : ∃ e, es = [e] ∧ Best F e.1 := by
  obtain ⟨f, hf, h1, h2⟩ := h.all _ (pre_range ok.par F.length (Nat.le_refl _)) List.length_range
  have one : ∀ g ∈ es, keyI g.1 = keyI f.1 := fun g hg => keyI_eq.mpr (((h.tab.pre g hg).1.perm (h.tab.pre g hg).2).trans ((h.tab.pre f hf).1.perm (h.tab.pre f hf).2).symm)
  have hes : es = [f] := by
    have nd := h.tab.nd
    cases es with
    | nil => simp at hf
    | cons a r =>
      cases r with
      | nil =>
        have : f = a := by simpa using hf
        rw [this]
      | cons b r =>
        exfalso
        rw [List.map_cons, List.nodup_cons] at nd
        refine nd.1 (List.mem_map.mpr ⟨b, List.mem_cons_self .., ?_⟩)
        rw [one a (List.mem_cons_self ..), one b (List.mem_cons_of_mem _ (List.mem_cons_self ..))]
  refine ⟨f, hes, (h.tab.pre f hf).1, (h.tab.pre f hf).2, fun m hm hl => ?_⟩
  obtain ⟨g, hg, _, h4⟩ := h.all m hm hl
  rw [hes] at hg
  have : g = f := by simpa using hg
  rw [this] at h4
  exact h4
end

/-! ### the tables as data -/
section
variable {α : Type} (val : List Nat × α → D)
def entT (f : List Nat × α) : D × D := (keyT f.1, val f)
theorem keyD_T (l : List Nat) : keyD (keyT l) = some (nk (keyI l)) := keyD_ints _
theorem getN_ent (fs : List (List Nat × α)) (k : List Int) : getN (fs.map (entT val)) (nk k) = (findF fs k).map val := by
  induction fs with
  | nil => rfl
  | cons f r ih =>
    rw [List.map_cons]
    unfold getN findF
    by_cases h : keyI f.1 = k
    · rw [if_pos h, if_pos (by show keyD (keyT f.1) = _; rw [keyD_T, h])]
      rfl
    · rw [if_neg h, if_neg (by show ¬ keyD (keyT f.1) = _; rw [keyD_T]; exact fun z => h (nk_inj (Option.some.inj z)))]
      exact ih
theorem putN_ent (fs : List (List Nat × α)) (e : List Nat × α) : putN (fs.map (entT val)) (keyT e.1) (nk (keyI e.1)) (val e) = (putF fs e).map (entT val) := by
  induction fs with
  | nil => rfl
  | cons f r ih =>
    rw [List.map_cons]
    unfold putN putF
    by_cases h : keyI f.1 = keyI e.1
    · rw [if_pos h, if_pos (by show keyD (keyT f.1) = _; rw [keyD_T, h]), List.map_cons]
      congr 1
      show (keyT f.1, val e) = (keyT e.1, val e)
      unfold keyT
      rw [h]
    · rw [if_neg h, if_neg (by show ¬ keyD (keyT f.1) = _; rw [keyD_T]; exact fun z => h (nk_inj (Option.some.inj z))), List.map_cons, ih]
end
end LW

set_option maxRecDepth 100000
namespace LW
open PySem PySem.Spec PyProof.Rows L2 DL

theorem sz0 : Sz 1 0 := by unfold Sz; decide
theorem sz1 : Sz 1 1 := by unfold Sz; decide
theorem run_sz {F : List Tk} (h : OkF F) (l : List Nat) : Sz (1 + 400 * l.length) (runL F l).1 ∧ Sz (1 + 40 * l.length) (runL F l).2 ∨ 9 ≤ l.length := by
  suffices key : ∀ r : List Nat, r.length ≤ 8 → Sz (1 + 400 * r.length) (runL F r.reverse).1 ∧ Sz (1 + 40 * r.length) (runL F r.reverse).2 by
    by_cases hl : l.length ≤ 8
    · have := key l.reverse (by simpa using hl)
      rw [List.reverse_reverse, List.length_reverse] at this
      exact .inl this
    · exact .inr (by omega)
  intro r
  induction r with
  | nil => intro _; exact ⟨sz0, sz1⟩
  | cons x r ih =>
    intro hl
    simp only [List.length_cons] at hl
    obtain ⟨h1, h2⟩ := ih (by omega)
    rw [List.reverse_cons, runL_snoc]
    unfold stepR
    cases ht : F[x]? with
    | none => exact ⟨h1.mono (by simp only [List.length_cons]; omega), h2.mono (by simp only [List.length_cons]; omega)⟩
    | some t =>
      obtain ⟨s1, s2⟩ := h.sz t (List.mem_of_getElem? ht)
      refine ⟨(sz_add h1 (sz_mul h2 s1)).mono ?_, (sz_mul h2 s2).mono ?_⟩
      · simp only [List.length_cons]; omega
      · simp only [List.length_cons]; omega
theorem run_sz8 {F : List Tk} (h : OkF F) {l : List Nat} (hl : l.length ≤ 8) : Sz 3300 (runL F l).1 ∧ Sz 400 (runL F l).2 := by
  rcases run_sz h l with q | q
  · exact ⟨q.1.mono (by omega), q.2.mono (by omega)⟩
  · omega
theorem at_fo {F : List Tk} {x : Nat} {t : Tk} (h : F[x]? = some t) : atI (F.map tkD) (x : Int) = some (tkD t) := atI_nat (by rw [List.getElem?_map, h]; rfl)
theorem run_take {F : List Tk} {l : List Nat} {i x : Nat} {t : Tk} (hi : l[i]? = some x) (ht : F[x]? = some t) : runL F (l.take (i + 1)) = ((runL F (l.take i)).1 + (runL F (l.take i)).2 * t.pay, (runL F (l.take i)).2 * t.fac) := by
  rw [List.take_succ, hi]
  show runL F (l.take i ++ [x]) = _
  rw [runL_snoc]
  unfold stepR
  rw [ht]
theorem nat_get {l : List Nat} {i : Nat} {d : D} (h : (l.map natD)[i]? = some d) : ∃ x, l[i]? = some x ∧ d = natD x := by
  rw [List.getElem?_map] at h
  cases hx : l[i]? with
  | none => rw [hx] at h; cases h
  | some x =>
    rw [hx] at h
    cases h
    exact ⟨x, rfl, rfl⟩
section
variable {S : Sto} {Q : DK} {E : XD} {F : List Tk} {l : List Nat} {a : Addr}
theorem g_run_of (h : OkF F) (hl : l.length ≤ 8) (hx : ∀ x ∈ l, x < F.length) (hS : S a = some (.lst (l.map natD)))
    (q : Q (.tup [.tup [fr (runL F l).1, fr (1 - (runL F l).2)], fr (runL F l).2]) S) : sp_run_of [foD F, .ref a] S Q E := by
  refine ⟨rfl, _, hS, ?_⟩
  refine for_inv (fun i σ S' => S' = S ∧ ∃ x4, σ = [some (foD F), some (.ref a), some (fr (runL F (l.take i)).1), some (fr (runL F (l.take i)).2), x4]) (fun i σ S' h => h.1 ▸ hS) (fun i d σ S' N hi ⟨e, x4, hσ⟩ hN => ?_) (fun σ S' ⟨e, x4, hσ⟩ => ?_) ⟨rfl, _, rfl⟩
  · subst e hσ
    obtain ⟨x, hx1, rfl⟩ := nat_get hi
    have hxm := List.mem_of_getElem? hx1
    have hlt := hx x hxm
    obtain ⟨t, ht⟩ : ∃ t, F[x]? = some t := ⟨F[x], List.getElem?_eq_getElem hlt⟩
    obtain ⟨s1, s2⟩ := h.sz t (List.mem_of_getElem? ht)
    obtain ⟨z1, z2⟩ := run_sz8 h (l := l.take i) (by rw [List.length_take]; omega)
    refine ⟨_, at_fo ht, _, rfl, ?_⟩
    refine g_mul z2 s1 (by omega) ?_
    refine g_add z1 (sz_mul z2 s1) (by omega) ?_
    refine ⟨_, at_fo ht, _, rfl, ?_⟩
    refine g_mul z2 s2 (by omega) ?_
    refine hN _ _ ⟨rfl, some (natD x), ?_⟩
    rw [run_take hx1 ht]
    rfl
  · subst e hσ
    rw [List.length_map, List.take_length]
    obtain ⟨z1, z2⟩ := run_sz8 h hl
    refine g_less sz1 z2 (by omega) ?_
    exact ⟨by show 2 ≤ sizeLine; decide, by show 2 ≤ sizeLine; decide, q⟩
end
/-! ### is_order of a whole order -/
theorem Pre.before {F : List Tk} {l : List Nat} (h : Pre F l) : ∀ (i x p : Nat), l[i]? = some x → parOf F x = some p → ∃ j, j < i ∧ l[j]? = some p := by
  induction h with
  | nil => intro i x p hi; simp at hi
  | snoc h c ih =>
    rename_i l y
    intro i x p hi hp
    by_cases hlt : i < l.length
    · rw [List.getElem?_append_left hlt] at hi
      obtain ⟨j, hj, e⟩ := ih i x p hi hp
      exact ⟨j, hj, by rw [List.getElem?_append_left (by omega)]; exact e⟩
    · have hil : i = l.length := by
        have := (List.getElem?_eq_some_iff.mp hi).1
        simp at this
        omega
      subst hil
      rw [List.getElem?_append_right (Nat.le_refl _), Nat.sub_self] at hi
      have hxy : y = x := by simpa using hi
      subst hxy
      unfold canAdd at c
      rw [hp] at c
      simp only [Bool.and_eq_true, List.contains_iff_mem] at c
      obtain ⟨j, hj, e⟩ := List.getElem_of_mem c.2.2
      exact ⟨j, hj, by rw [List.getElem?_append_left hj, List.getElem?_eq_getElem hj, e]⟩
def plK (l : List Nat) : List (Key × D) := l.mapIdx fun i (x : Nat) => (Sum.inl (x : Int), D.int i)
theorem plK_snoc (l : List Nat) (x : Nat) : plK (l ++ [x]) = plK l ++ [(Sum.inl (x : Int), D.int l.length)] := by
  unfold plK
  rw [List.mapIdx_append]
  simp
theorem putKd_new {kvs : List (Key × D)} {k : Key} {d : D} (h : k ∉ kvs.map (·.1)) : putKd kvs k d = kvs ++ [(k, d)] := by
  induction kvs with
  | nil => rfl
  | cons p r ih =>
    simp only [List.map_cons, List.mem_cons, not_or] at h
    unfold putKd
    rw [if_neg (Ne.symm h.1), ih h.2, List.cons_append]
theorem plK_keys (l : List Nat) : (plK l).map (·.1) = l.map fun (x : Nat) => (Sum.inl (x : Int) : Key) := by
  unfold plK
  refine List.ext_getElem (by simp) fun i h1 h2 => by simp
theorem getKd_pl : ∀ (l : List Nat) (n : Nat) (i x : Nat), l.Nodup → l[i]? = some x → getKd (l.mapIdx fun i (x : Nat) => ((Sum.inl (x : Int) : Key), D.int ((n + i : Nat) : Int))) (Sum.inl (x : Int)) = some (.int ((n + i : Nat) : Int))
  | [], _, _, _, _, h => by simp at h
  | y :: l, n, 0, x, _, h => by
    have : y = x := by simpa using h
    subst this
    rw [List.mapIdx_cons]
    unfold getKd
    rw [if_pos rfl]
  | y :: l, n, i + 1, x, nd, h => by
    obtain ⟨h1, h2⟩ := List.nodup_cons.mp nd
    have hx : l[i]? = some x := by simpa using h
    rw [List.mapIdx_cons]
    unfold getKd
    rw [if_neg (fun e => h1 (by
      have : (y : Int) = (x : Int) := Sum.inl.inj e
      have : y = x := by omega
      rw [this]
      exact List.mem_of_getElem? hx))]
    have := getKd_pl l (n + 1) i x h2 hx
    rw [show n + 1 + i = n + (i + 1) by omega] at this
    rw [← this]
    congr 2
    funext j z
    rw [show n + 1 + j = n + (j + 1) by omega]
theorem getKd_plK {l : List Nat} {i x : Nat} (nd : l.Nodup) (h : l[i]? = some x) : getKd (plK l) (Sum.inl (x : Int)) = some (.int (i : Int)) := by
  have := getKd_pl l 0 i x nd h
  simp only [Nat.zero_add] at this
  exact this
theorem dc_inv {G : Sto → Prop} {g : WG} {tt : WT} {tk tv : WE} {σ : DS} {R : List (Key × D) → Sto → Prop} {its : List D} (I : Nat → List (Key × D) → Sto → Prop) (hG : ∀ i a S, I i a S → G S)
    (step : ∀ i d acc S (N : List (Key × D) → Sto → Prop), its[i]? = some d → I i acc S → (∀ a S, I (i + 1) a S → N a S) → g d σ S fun σ2 S2 => tt σ2 S2 fun b S3 => br b (tk σ2 S3 fun y S4 => tv σ2 S4 fun z S5 => ∃ k, keyK y = some k ∧ acc.length < sizeLine ∧ N (putKd acc k z) S5) (N acc S3))
    (done : ∀ a S, I its.length a S → R a S) {S : Sto} (h : I 0 [] S) : dcW G g tt tk tv σ R its [] S := by
  have key : ∀ (r : List D) (i : Nat), its.drop i = r → i ≤ its.length → ∀ a S, I i a S → dcW G g tt tk tv σ R r a S := by
    intro r
    induction r with
    | nil =>
      intro i hd hi a S h
      have : i = its.length := by
        have := congrArg List.length hd
        simp at this
        omega
      subst this
      exact ⟨hG _ _ _ h, done _ _ h⟩
    | cons d r ih =>
      intro i hd hi a S h
      have hlt : i < its.length := by
        have := congrArg List.length hd
        simp at this
        omega
      rw [List.drop_eq_getElem_cons hlt] at hd
      injection hd with h1 h2
      exact ⟨hG _ _ _ h, step i d a S _ (by rw [← h1]; exact List.getElem?_eq_getElem hlt) h fun a' S' h' => ih (i + 1) h2 hlt a' S' h'⟩
  exact key its 0 rfl (Nat.zero_le _) [] S h
theorem bools_true {n : Nat} {ds : List D} (h : ds = List.replicate n (.bl true)) : boolsOf ds = some (List.replicate n true) ∧ (List.replicate n true).all id = true := by
  subst h
  refine ⟨?_, by simp⟩
  have : List.replicate n (D.bl true) = (List.replicate n true).map D.bl := by simp
  rw [this, boolsOf_map]
theorem mapIdx_const {ds : List D} {d : D} : (ds.mapIdx fun _ _ => d) = List.replicate ds.length d := by
  refine List.ext_getElem (by simp) fun i h1 h2 => by simp
theorem intsOf_nat (l : List Nat) : intsOf (l.map natD) = some (l.map Int.ofNat) := by
  have : l.map natD = (l.map Int.ofNat).map D.int := by
    rw [List.map_map]
    rfl
  rw [this, intsOf_map]
theorem keyI_range (n : Nat) : keyI (List.range n) = (List.range n).map Int.ofNat := by
  refine srt_uniq (keyI_perm _) (srt_pair _) ?_
  rw [List.pairwise_map]
  exact List.pairwise_lt_range.imp fun h => by
    show Int.ofNat _ ≤ Int.ofNat _
    exact Int.ofNat_le.mpr (Nat.le_of_lt h)
theorem rangeD_eq (n : Nat) : rangeD 0 n = ((List.range n).map Int.ofNat).map D.int := by
  unfold rangeD
  rw [List.map_map]
  refine List.map_congr_left fun i _ => ?_
  show D.int (0 + (i : Int)) = D.int (i : Int)
  rw [Int.zero_add]
theorem eqv_ints (a b : List Int) : PyData.eqv (.list (a.map PyData.int)) (.list (b.map PyData.int)) = decide (a = b) := PySem.W.ked_eqvAll a b
section
variable {S : Sto} {Q : DK} {E : XD} {F : List Tk} {l : List Nat} {a : Addr}
theorem ty_lst {S : Sto} {a : Addr} {ds : List D} (h : S a = some (.lst ds)) : tyOf S (.ref a) = some "list" := by
  simp only [tyOf, h]
theorem g_is_order (h : OkF F) (hp : Pre F l) (hl : l.length = F.length) (hS : S a = some (.lst (l.map natD))) (q : ∀ S', Fr S S' → Q (.bl true) S') : sp_is_order [foD F, .ref a] S Q E := by
  have hl8 : l.length ≤ 8 := by rw [hl]; exact h.l8
  refine ⟨rfl, g_need_forest h fun S1 f1 => ?_⟩
  have h1 := f1.at hS
  refine ⟨_, ty_lst h1, ?_⟩
  refine ⟨_, h1, lc_map (fun _ _ => .bl true) (by rw [List.length_map]; omega) h1 (fun i d N hi hN => ?_) fun p2 hp2 => ?_⟩
  · obtain ⟨x, _, rfl⟩ := nat_get hi
    exact g_is_integer_int hN
  have f2 := f1.trans (Fr.put (o := .lst ((l.map natD).mapIdx fun _ _ => D.bl true)) hp2)
  obtain ⟨b1, b2⟩ := bools_true (mapIdx_const (ds := l.map natD) (d := .bl true))
  refine ⟨_, _, sput_same, b1, ?_⟩
  refine br_f (b := !(List.replicate (l.map natD).length true).all id) (by rw [b2]; rfl) ?_
  have h2 := f2.at hS
  have hlF : (F.map tkD).length = F.length := List.length_map ..
  refine ⟨_, _, h2, intsOf_nat l, fun p3 hp3 => ⟨_, rfl, ⟨by omega, by rw [hlF]; have := h.l8; omega⟩, fun p4 hp4 => ?_⟩⟩
  have f3 := f2.trans (Fr.put (o := .lst (((l.map Int.ofNat).mergeSort (· ≤ ·)).map D.int)) hp3)
  have f4 := f3.trans (Fr.put (o := .lst (rangeD 0 ((F.map tkD).length : Int).toNat)) hp4)
  have e3 := (Fr.put (o := .lst (rangeD 0 ((F.map tkD).length : Int).toNat)) hp4).at (sput_same (S := sput S1 p2 (.lst ((l.map natD).mapIdx fun _ _ => D.bl true))) (a := p3) (o := .lst (((l.map Int.ofNat).mergeSort (· ≤ ·)).map D.int)))
  refine ⟨_, _, pd_lst e3 (pdAll_ints _ _ _), pd_lst sput_same (by rw [rangeD_eq]; exact pdAll_ints _ _ _), ?_⟩
  have ek : keyI l = ((List.range ((F.map tkD).length : Int).toNat).map Int.ofNat) := by
    rw [← keyI_range, hlF, Int.toNat_natCast]
    exact keyI_eq.mpr (hp.perm hl)
  refine br_f (b := !PyData.eqv (.list ((keyI l).map PyData.int)) (.list (((List.range ((F.map tkD).length : Int).toNat).map Int.ofNat).map PyData.int))) (by rw [eqv_ints, decide_eq_true ek]; rfl) ?_
  have h4 := f4.at hS
  refine ⟨_, h4, dc_inv (fun i acc S' => S' = _ ∧ acc = plK (l.take i) ∧ i ≤ l.length) (fun i acc S' h => h.1 ▸ h4) (fun i d acc S' N hi ⟨e, ha, hil⟩ hN => ?_) (fun acc S' ⟨e, ha, _⟩ => ?_) ⟨rfl, rfl, Nat.zero_le _⟩⟩
  · subst e
    obtain ⟨y, hy, rfl⟩ := DL.numbered_get hi
    obtain ⟨x, hx, rfl⟩ := nat_get hy
    have hlt : i < l.length := (List.getElem?_eq_some_iff.mp hx).1
    refine ⟨rfl, _, rfl, ?_, hN _ _ ⟨rfl, ?_, hlt⟩⟩
    · rw [ha]
      unfold plK
      rw [List.length_mapIdx, List.length_take]
      show _ < 16777216
      omega
    · rw [ha, List.take_succ, hx]
      show putKd (plK (l.take i)) (Sum.inl (x : Int)) (D.int ((0 + i : Nat) : Int)) = plK (l.take i ++ [x])
      rw [putKd_new, plK_snoc, List.length_take, Nat.min_eq_left (by omega), Nat.zero_add]
      rw [plK_keys]
      intro hm
      obtain ⟨z, hz, he⟩ := List.mem_map.mp hm
      have ezx : z = x := by
        have := Sum.inl.inj he
        omega
      subst ezx
      have nd := hp.nodup
      obtain ⟨k, hk, hkz⟩ := List.getElem_of_mem hz
      rw [List.length_take] at hk
      rw [List.getElem_take] at hkz
      have h5 : l[k]? = l[i]? := by rw [hx, List.getElem?_eq_getElem (by omega), hkz]
      have := (List.getElem?_inj (by omega) nd).mp h5
      omega
  · subst e
    have hln : (DL.numbered 0 (l.map natD)).length = l.length := by rw [DL.numbered_length, List.length_map]
    rw [hln, List.take_length] at ha
    subst ha
    intro p5 hp5
    have f5 := f4.trans (Fr.put (o := .dK (plK l)) hp5)
    refine lc_map (fun _ _ => .bl true) (by rw [DL.numbered_length, hlF]; have := h.l8; omega) trivial (fun i d N hi hN => ?_) fun p6 hp6 => ?_
    · obtain ⟨y, hy, rfl⟩ := DL.numbered_get hi
      rw [List.getElem?_map] at hy
      cases ht : F[i]? with
      | none => rw [ht] at hy; cases hy
      | some t =>
        rw [ht] at hy
        cases hy
        obtain ⟨o, pay, fac⟩ := t
        refine ⟨rfl, _, rfl, ?_⟩
        cases o with
        | none =>
          exact hN
        | some p =>
          have hin : i ∈ l := (hp.perm hl).mem_iff.mpr (by simpa using (List.getElem?_eq_some_iff.mp ht).1)
          obtain ⟨k, hk⟩ := List.mem_iff_getElem?.mp hin
          obtain ⟨j, hj, hjp⟩ := hp.before k i p hk (by unfold parOf; rw [ht]; rfl)
          refine ⟨_, rfl, _, sput_same, _, _, rfl, getKd_plK hp.nodup hjp, ?_⟩
          refine ⟨_, sput_same, _, _, rfl, (show getKd (plK l) (Sum.inl ((0 + i : Nat) : Int)) = some (.int (k : Int)) from by rw [Nat.zero_add]; exact getKd_plK hp.nodup hk), ?_⟩
          have e : decide ((j : Int) < (k : Int)) = true := decide_eq_true (by omega)
          show N (.bl (decide ((j : Int) < (k : Int)))) _
          rw [e]
          exact hN
    · obtain ⟨c1, c2⟩ := bools_true (mapIdx_const (ds := DL.numbered 0 (F.map tkD)) (d := .bl true))
      refine ⟨_, _, sput_same, c1, ?_⟩
      show Q (.bl ((List.replicate (DL.numbered 0 (F.map tkD)).length true).all id)) _
      rw [c2]
      exact q _ (f5.trans (Fr.put hp6))
end
end LW

set_option maxRecDepth 100000
namespace LW
open PySem PySem.Spec PyProof.Rows L2 DL

def valB (F : List Tk) (f : List Nat × Addr) : D := .tup [fr (runL F f.1).1, fr (runL F f.1).2, .ref f.2]
def OrdS (S : Sto) (f : List Nat × Addr) : Prop := S f.2 = some (.lst (f.1.map natD))
theorem any_ints (is : List Int) (x : Int) : ((is.map PyData.int).any fun z => PyData.eqv z (.int x)) = is.contains x := by
  induction is with
  | nil => rfl
  | cons i is ih =>
    rw [List.map_cons, List.any_cons, ih, List.contains_cons]
    congr 1
    show (i == x) = (x == i)
    exact BEq.comm
theorem pd_ints {S : Sto} (is : List Int) : pd S 20 (.tup (is.map D.int)) = some (.tuple (is.map PyData.int)) := by
  show (match pdAll (pd S 19) (is.map D.int) with | some ps => some (PyData.tuple ps) | none => none) = _
  rw [pdAll_ints]
theorem keyI_has (l : List Nat) (x : Nat) : (keyI l).contains (x : Int) = l.contains x := by
  rw [Bool.eq_iff_iff, List.contains_iff_mem, List.contains_iff_mem, (keyI_perm l).mem_iff, List.mem_map]
  refine ⟨fun ⟨y, hy, e⟩ => ?_, fun h => ⟨x, h, rfl⟩⟩
  have : y = x := by
    have : (y : Int) = (x : Int) := e
    omega
  rw [← this]
  exact hy
theorem keyT_snoc (l : List Nat) (x : Nat) : D.tup (((keyI l ++ [(x : Int)]).mergeSort (· ≤ ·)).map D.int) = keyT (l ++ [x]) := by
  unfold keyT
  rw [keyI_snoc]
theorem elems_lst {S : Sto} {a : Addr} {ds : List D} (h : S a = some (.lst ds)) : elemsOf S (.ref a) = some ds := by
  simp only [elemsOf, h]
theorem pairs_dN {S : Sto} {a : Addr} {kvs : List (D × D)} (h : S a = some (.dN kvs)) : pairsD S (.ref a) = some (a, kvs) := by
  simp only [pairsD, h]
/-- what has been done of a level: the pairs below (i, j) -/
structure Part {α : Type} (F : List Tk) (k : Nat) (es fs : List (List Nat × α)) (i j : Nat) : Prop where
  tab : Tab F (k + 1) fs
  len : fs.length ≤ i * F.length + j
  has : ∀ (a x : Nat) (e : List Nat × α), (a < i ∨ (a = i ∧ x < j)) → x < F.length → es[a]? = some e → canAdd F e.1 x = true → Has F fs (e.1 ++ [x])
section
variable {α : Type} {F : List Tk} {k i j : Nat} {es fs : List (List Nat × α)}
theorem Part.skip (h : Part F k es fs i j) (hn : ∀ e, es[i]? = some e → canAdd F e.1 j = false) : Part F k es fs i (j + 1) :=
  ⟨h.tab, by have := h.len; omega, fun a x e hx hl he hc => by
    rcases hx with hx | ⟨rfl, hx⟩
    · exact h.has a x e (.inl hx) hl he hc
    · by_cases hj : x < j
      · exact h.has a x e (.inr ⟨rfl, hj⟩) hl he hc
      · have : x = j := by omega
        subst this
        rw [hn e he] at hc
        cases hc⟩
theorem Part.keep (h : Part F k es fs i j) {e : List Nat × α} (he : es[i]? = some e) (hh : Has F fs (e.1 ++ [j])) : Part F k es fs i (j + 1) :=
  ⟨h.tab, by have := h.len; omega, fun a x e' hx hl he' hc => by
    rcases hx with hx | ⟨rfl, hx⟩
    · exact h.has a x e' (.inl hx) hl he' hc
    · by_cases hj : x < j
      · exact h.has a x e' (.inr ⟨rfl, hj⟩) hl he' hc
      · have : x = j := by omega
        subst this
        rw [he] at he'
        cases he'
        exact hh⟩
theorem Part.put (h : Part F k es fs i j) {e f : List Nat × α} (he : es[i]? = some e) (ef : f.1 = e.1 ++ [j]) (hp : Pre F f.1 ∧ f.1.length = k + 1) (better : ∀ g ∈ fs, keyI g.1 = keyI f.1 → (runL F g.1).1 ≤ (runL F f.1).1) : Part F k es (putF fs f) i (j + 1) :=
  ⟨h.tab.put hp, by have := h.len; have := putF_length (fs := fs) (e := f); omega, fun a x e' hx hl he' hc => by
    rcases hx with hx | ⟨rfl, hx⟩
    · exact (h.has a x e' (.inl hx) hl he' hc).put better
    · by_cases hj : x < j
      · exact (h.has a x e' (.inr ⟨rfl, hj⟩) hl he' hc).put better
      · have : x = j := by omega
        subst this
        rw [he] at he'
        cases he'
        rw [← ef]
        exact has_self⟩
theorem Part.row (h : Part F k es fs i F.length) : Part F k es fs (i + 1) 0 :=
  ⟨h.tab, by have := h.len; rw [Nat.succ_mul]; omega, fun a x e hx hl he hc => by
    rcases hx with hx | ⟨_, hx⟩
    · by_cases ha : a < i
      · exact h.has a x e (.inl ha) hl he hc
      · have : a = i := by omega
        subst this
        exact h.has a x e (.inr ⟨rfl, hl⟩) hl he hc
    · omega⟩
theorem Part.zero : Part F k es ([] : List (List Nat × α)) 0 0 := ⟨⟨fun f hf => by simp at hf, by simp⟩, by simp, fun a x e hx => by omega⟩
theorem Part.all (h : Part F k es fs es.length 0) (L : Lv F k es) : Lv F (k + 1) fs := L.next h.tab fun e he x hx hc => by
  obtain ⟨a, ha, e2⟩ := List.getElem_of_mem he
  exact h.has a x e (.inl ha) hx (by rw [List.getElem?_eq_getElem ha, e2]) hc
end
section
variable {S : Sto} {Q : DK} {E : XD} {F : List Tk}
theorem canAdd_iff {l : List Nat} {j : Nat} {t : Tk} (ht : F[j]? = some t) : canAdd F l j = (!(keyI l).contains (j : Int) && (match t.par with | none => true | some p => (keyI l).contains (p : Int))) := by
  unfold canAdd parOf
  rw [ht, keyI_has, decide_eq_true (List.getElem?_eq_some_iff.mp ht).1, Bool.true_and]
  show (!l.contains j && (match t.par with | none => true | some p => l.contains p)) = _
  cases t.par with
  | none => rfl
  | some p =>
    dsimp only
    rw [keyI_has]
/-- the state of the innermost loop of best_of -/
structure InB (F : List Tk) (S0 : Sto) (k : Nat) (es : List (List Nat × Addr)) (fu : Addr) (i j : Nat) (fs : List (List Nat × Addr)) (S : Sto) : Prop where
  part : Part F k es fs i j
  at_ : S fu = some (.dN (fs.map (entT (valB F))))
  ne : S0 fu = none
  fo : ∀ f ∈ fs, OrdS S f ∧ S0 f.2 = none
  eo : ∀ f ∈ es, OrdS S f ∧ S0 f.2 = none
  fr : Fr S0 S
theorem InB.skip {S0 : Sto} {k : Nat} {es : List (List Nat × Addr)} {fu : Addr} {i j : Nat} {fs : List (List Nat × Addr)} {S S' : Sto} (h : InB F S0 k es fu i j fs S) (f : Fr S S') {i' j' : Nat} (p : Part F k es fs i' j') : InB F S0 k es fu i' j' fs S' :=
  ⟨p, f.at h.at_, h.ne, fun g hg => ⟨f.at (h.fo g hg).1, (h.fo g hg).2⟩, fun g hg => ⟨f.at (h.eo g hg).1, (h.eo g hg).2⟩, h.fr.trans f⟩
theorem InB.put {S0 : Sto} {k : Nat} {es : List (List Nat × Addr)} {fu : Addr} {i j : Nat} {fs : List (List Nat × Addr)} {S S' : Sto} (h : InB F S0 k es fu i j fs S) (f : Fr S S') {i' j' : Nat} {e : List Nat × Addr} (p : Part F k es (putF fs e) i' j')
    (he : OrdS S' e) (he0 : S0 e.2 = none) : InB F S0 k es fu i' j' (putF fs e) (sput S' fu (.dN ((putF fs e).map (entT (valB F))))) := by
  have hf := f.at h.at_
  have ne : ∀ g : List Nat × Addr, OrdS S' g → g.2 ≠ fu := fun g hg z => by
    unfold OrdS at hg
    rw [z, hf] at hg
    cases hg
  have keep : ∀ g : List Nat × Addr, OrdS S' g → OrdS (sput S' fu (.dN ((putF fs e).map (entT (valB F))))) g := fun g hg => by
    unfold OrdS
    rw [sput_ne (ne g hg)]
    exact hg
  refine ⟨p, sput_same, h.ne, fun g hg => ?_, fun g hg => ⟨keep g (f.at (h.eo g hg).1), (h.eo g hg).2⟩, fun a n => ?_⟩
  · rcases putF_mem hg with rfl | hg
    · exact ⟨keep _ he, he0⟩
    · exact ⟨keep g (f.at (h.fo g hg).1), (h.fo g hg).2⟩
  · rw [sput_ne (fun z => n (by rw [z]; exact h.ne))]
    exact (h.fr.trans f) a n
theorem g_best_add {S0 : Sto} {k : Nat} {es : List (List Nat × Addr)} {fu : Addr} {i j : Nat} {fs : List (List Nat × Addr)} {S : Sto} {N : DS → Sto → Prop} {De : DEnds} {e : List Nat × Addr} {nw : Addr} {x2 x9 x12 x13 : Option D} {par : Option Nat} {pay fac : Rat}
    (ok : OkF F) (hk : k + 1 ≤ F.length) (hes : es.length ≤ 8 ^ k) (L : Lv F k es) (h : InB F S0 k es fu i j fs S) (he : es[i]? = some e) (ht : F[j]? = some ⟨par, pay, fac⟩) (hc : canAdd F e.1 j = true)
    (hN : ∀ fs' S' y8 y9 y10 y11 y12 y13, InB F S0 k es fu i (j + 1) fs' S' → N [some (foD F), some (.ref nw), x2, some (.ref fu), some (keyT e.1), some (fr (runL F e.1).1), some (fr (runL F e.1).2), some (.ref e.2), y8, y9, y10, y11, y12, y13] S') :
      (sSeq (sPar 12 13 (aCons (dB rdTuple (aCons (dB rdSorted (aCons (dLst (aStar (dVar 4) (aCons (dVar 8) aNil))) aNil)) aNil)) (aCons (dCall sp_add (lW E) (aCons (dVar 5) (aCons (dCall sp_mul (lW E) (aCons (dVar 6) (aCons (dVar 10) aNil))) aNil))) aNil)))
    (sIf (dOr (dTest (dOp rdNotInD (dVar 12) (dVar 3))) (dTest (dOp rdGt (dCall sp_order_of (lW E) (aCons (dVar 13) (aCons (dOp rdIxA (dOp rdIxA (dVar 3) (dVar 12)) (dC (.int 0))) aNil))) (dC (.int 0))))) (sAsg (dTup (aCons (dVar 13) (aCons (dCall sp_mul (lW E) (aCons (dVar 6) (aCons (dVar 11) aNil))) (aCons (dLst (aStar (dVar 7) (aCons (dVar 8) aNil))) aNil)))) (gdSub (dVar 3) (dVar 12) rdSetA)) sNext))
        { De with nx := N, ct := N, bk := De.nx } [some (foD F), some (.ref nw), x2, some (.ref fu), some (keyT e.1), some (fr (runL F e.1).1), some (fr (runL F e.1).2), some (.ref e.2), some (.int j), x9, some (fr pay), some (fr fac), x12, x13] S := by
  have hj : j < F.length := (List.getElem?_eq_some_iff.mp ht).1
  have hi : i < es.length := (List.getElem?_eq_some_iff.mp he).1
  have hem := List.mem_of_getElem? he
  obtain ⟨pe, le⟩ := L.tab.pre e hem
  have l8 := ok.l8
  obtain ⟨z1, z2⟩ := run_sz8 ok (l := e.1) (by omega)
  obtain ⟨s1, s2⟩ := ok.sz _ (List.mem_of_getElem? ht)
  have pn : Pre F (e.1 ++ [j]) := .snoc pe hc
  have ln : (e.1 ++ [j]).length = k + 1 := by simp [le]
  have r1 : (runL F (e.1 ++ [j])).1 = (runL F e.1).1 + (runL F e.1).2 * pay := by rw [runL_snoc]; unfold stepR; rw [ht]
  have r2 : (runL F (e.1 ++ [j])).2 = (runL F e.1).2 * fac := by rw [runL_snoc]; unfold stepR; rw [ht]
  have hkl : ((keyI e.1).map D.int).length ≤ 8 := by rw [List.length_map, (keyI_perm e.1).length_eq, List.length_map]; omega
  have e1 : (keyI e.1).map D.int ++ [D.int (j : Int)] = (keyI e.1 ++ [(j : Int)]).map D.int := by rw [List.map_append]; rfl
  refine ⟨_, rfl, by rw [List.length_append]; show _ + 1 ≤ 16777216; omega, fun p1 hp1 => ?_⟩
  refine ⟨_, _, sput_same, show intsOf ((keyI e.1).map D.int ++ [D.int (j : Int)]) = some (keyI e.1 ++ [(j : Int)]) from by rw [e1, intsOf_map], fun p2 hp2 => ?_⟩
  refine ⟨_, elems_lst sput_same, ?_⟩
  rw [keyT_snoc]
  have f2 : Fr S _ := (Fr.put (o := .lst ((keyI e.1).map D.int ++ [D.int (j : Int)])) hp1).trans (Fr.put (o := .lst (((keyI e.1 ++ [(j : Int)]).mergeSort (· ≤ ·)).map D.int)) hp2)
  refine g_mul z2 s1 (by omega) ?_
  refine g_add z1 (sz_mul z2 s1) (by omega) ?_
  rw [← r1]
  generalize sput (sput S p1 (.lst ((keyI e.1).map D.int ++ [D.int (j : Int)]))) p2 (.lst (((keyI e.1 ++ [(j : Int)]).mergeSort (· ≤ ·)).map D.int)) = S2 at f2 ⊢
  have hfu := f2.at h.at_
  have hlen : fs.length < sizeLine := by
    have h1 := h.part.len
    have h2 : i * F.length + j < 8 ^ 8 := by
      have a1 : i * F.length + j < (i + 1) * F.length := by rw [Nat.succ_mul]; omega
      have a2 : (i + 1) * F.length ≤ 8 ^ k * 8 := Nat.mul_le_mul (by omega) l8
      have a3 : 8 ^ k * 8 ≤ 8 ^ 8 := by
        rw [← Nat.pow_succ]
        exact Nat.pow_le_pow_right (by decide) (by omega)
      omega
    have h3 : (8 : Nat) ^ 8 = sizeLine := by decide
    omega
  refine ⟨_, hfu, _, keyD_T _, ?_⟩
  rw [getN_ent]
  cases hf : findF fs (keyI (e.1 ++ [j])) with
  | none =>
    have better : ∀ g ∈ fs, keyI g.1 = keyI (e.1 ++ [j]) → (runL F g.1).1 ≤ (runL F (e.1 ++ [j])).1 := fun g hg hk => absurd hk (findF_none hf g hg)
    refine g_mul z2 s2 (by omega) ?_
    rw [← r2]
    refine ⟨_, elems_lst (f2.at (h.eo e hem).1), by rw [List.length_append, List.length_map]; show _ + 1 ≤ 16777216; omega, fun p3 hp3 => ⟨by show 3 ≤ sizeLine; decide, ?_⟩⟩
    have f3 := f2.trans (Fr.put (o := .lst (e.1.map natD ++ [D.int (j : Int)])) hp3)
    refine ⟨_, f3.at h.at_, _, keyD_T _, by rw [List.length_map]; exact hlen, ?_⟩
    have hp0 : S0 p3 = none := by
      cases hz : S0 p3 with
      | none => rfl
      | some o =>
        have := (h.fr.trans f2).at hz
        rw [hp3] at this
        cases this
    have key := h.put f3 (e := (e.1 ++ [j], p3)) (h.part.put he rfl ⟨pn, ln⟩ better) (by unfold OrdS; rw [sput_same, List.map_append]; rfl) hp0
    have pe2 := putN_ent (valB F) fs (e.1 ++ [j], p3)
    show N _ (sput _ fu (.dN (putN (fs.map (entT (valB F))) (keyT (e.1 ++ [j])) (nk (keyI (e.1 ++ [j]))) (valB F (e.1 ++ [j], p3)))))
    rw [pe2]
    exact hN _ _ _ _ _ _ _ _ key
  | some g =>
    obtain ⟨g1, g2⟩ := findF_some hf
    obtain ⟨pg, lg⟩ := h.part.tab.pre g g1
    obtain ⟨y1, y2⟩ := run_sz8 ok (l := g.1) (by omega)
    obtain ⟨w1, w2⟩ := run_sz8 ok (l := e.1 ++ [j]) (by omega)
    refine ⟨_, hfu, _, _, keyD_T _, (by rw [getN_ent, hf]; rfl : getN (fs.map (entT (valB F))) (nk (keyI (e.1 ++ [j]))) = some (valB F g)), _, rfl, ?_⟩
    refine g_order_of w1 y1 (by omega) ?_
    refine br_split (b := decide (0 < ordR (runL F (e.1 ++ [j])).1 (runL F g.1).1)) (fun c => ?_) (fun c => ?_)
    · rw [ordR_pos] at c
      have c' := of_decide_eq_true c
      have better : ∀ g ∈ fs, keyI g.1 = keyI (e.1 ++ [j]) → (runL F g.1).1 ≤ (runL F (e.1 ++ [j])).1 := fun g' hg' hk' => by
        rw [findF_only h.part.tab.nd hf g' hg' hk']
        exact Rat.le_of_lt c'
      refine g_mul z2 s2 (by omega) ?_
      rw [← r2]
      refine ⟨_, elems_lst (f2.at (h.eo e hem).1), by rw [List.length_append, List.length_map]; show _ + 1 ≤ 16777216; omega, fun p3 hp3 => ⟨by show 3 ≤ sizeLine; decide, ?_⟩⟩
      have f3 := f2.trans (Fr.put (o := .lst (e.1.map natD ++ [D.int (j : Int)])) hp3)
      refine ⟨_, f3.at h.at_, _, keyD_T _, by rw [List.length_map]; exact hlen, ?_⟩
      have hp0 : S0 p3 = none := by
        cases hz : S0 p3 with
        | none => rfl
        | some o =>
          have := (h.fr.trans f2).at hz
          rw [hp3] at this
          cases this
      have key := h.put f3 (e := (e.1 ++ [j], p3)) (h.part.put he rfl ⟨pn, ln⟩ better) (by unfold OrdS; rw [sput_same, List.map_append]; rfl) hp0
      have pe2 := putN_ent (valB F) fs (e.1 ++ [j], p3)
      show N _ (sput _ fu (.dN (putN (fs.map (entT (valB F))) (keyT (e.1 ++ [j])) (nk (keyI (e.1 ++ [j]))) (valB F (e.1 ++ [j], p3)))))
      rw [pe2]
      exact hN _ _ _ _ _ _ _ _ key
    · rw [ordR_pos] at c
      have c' := of_decide_eq_false c
      exact hN fs S2 _ _ _ _ _ _ (h.skip f2 (h.part.keep he ⟨g, g1, g2, Rat.not_lt.mp c'⟩))
theorem g_best_in {S0 : Sto} {k : Nat} {es : List (List Nat × Addr)} {fu : Addr} {i j : Nat} {fs : List (List Nat × Addr)} {S : Sto} {N : DS → Sto → Prop} {De : DEnds} {e : List Nat × Addr} {t : Tk} {nw : Addr} {x2 x8 x9 x10 x11 x12 x13 : Option D}
    (ok : OkF F) (hk : k + 1 ≤ F.length) (hes : es.length ≤ 8 ^ k) (L : Lv F k es) (h : InB F S0 k es fu i j fs S) (he : es[i]? = some e) (ht : F[j]? = some t)
    (hN : ∀ fs' S' y8 y9 y10 y11 y12 y13, InB F S0 k es fu i (j + 1) fs' S' → N [some (foD F), some (.ref nw), x2, some (.ref fu), some (keyT e.1), some (fr (runL F e.1).1), some (fr (runL F e.1).2), some (.ref e.2), y8, y9, y10, y11, y12, y13] S') :
    (gdTup 2 (gdCons (gdName 8) (gdCons (gdTup 3 (gdCons (gdName 9) (gdCons (gdName 10) (gdCons (gdName 11) gdNil)))) gdNil))) (.tup [.int j, tkD t])
      [some (foD F), some (.ref nw), x2, some (.ref fu), some (keyT e.1), some (fr (runL F e.1).1), some (fr (runL F e.1).2), some (.ref e.2), x8, x9, x10, x11, x12, x13] S fun σ1 S1 =>
      (sIf (dAnd (dTest (dOp rdNotInD (dVar 8) (dVar 4))) (dOr (dTest (dOp rdIsN (dVar 9) (dC .non))) (dTest (dOp rdInD (dVar 9) (dVar 4))))) (sSeq (sPar 12 13 (aCons (dB rdTuple (aCons (dB rdSorted (aCons (dLst (aStar (dVar 4) (aCons (dVar 8) aNil))) aNil)) aNil)) (aCons (dCall sp_add (lW E) (aCons (dVar 5) (aCons (dCall sp_mul (lW E) (aCons (dVar 6) (aCons (dVar 10) aNil))) aNil))) aNil)))
    (sIf (dOr (dTest (dOp rdNotInD (dVar 12) (dVar 3))) (dTest (dOp rdGt (dCall sp_order_of (lW E) (aCons (dVar 13) (aCons (dOp rdIxA (dOp rdIxA (dVar 3) (dVar 12)) (dC (.int 0))) aNil))) (dC (.int 0))))) (sAsg (dTup (aCons (dVar 13) (aCons (dCall sp_mul (lW E) (aCons (dVar 6) (aCons (dVar 11) aNil))) (aCons (dLst (aStar (dVar 7) (aCons (dVar 8) aNil))) aNil)))) (gdSub (dVar 3) (dVar 12) rdSetA)) sNext)) sNext)
        { De with nx := N, ct := N, bk := De.nx } σ1 S1 := by
  have hj : j < F.length := (List.getElem?_eq_some_iff.mp ht).1
  have hi : i < es.length := (List.getElem?_eq_some_iff.mp he).1
  have hem := List.mem_of_getElem? he
  obtain ⟨pe, le⟩ := L.tab.pre e hem
  have l8 := ok.l8
  obtain ⟨z1, z2⟩ := run_sz8 ok (l := e.1) (by omega)
  obtain ⟨s1, s2⟩ := ok.sz t (List.mem_of_getElem? ht)
  have hc := canAdd_iff (l := e.1) ht
  have skip : canAdd F e.1 j = false → InB F S0 k es fu i (j + 1) fs S := fun hf => h.skip (Fr.refl S) (h.part.skip fun e' he' => by rw [he] at he'; cases he'; exact hf)
  obtain ⟨par, pay, fac⟩ := t
  refine ⟨rfl, rfl, ?_⟩
  refine ⟨_, _, rfl, congrArg itemsP (pd_ints _), ?_⟩
  rw [any_ints]
  cases hk1 : (keyI e.1).contains (j : Int) with
  | true =>
    rw [hk1] at hc
    exact hN fs S _ _ _ _ _ _ (skip hc)
  | false =>
    rw [hk1, Bool.not_false, Bool.true_and] at hc
    cases par with
    | none => exact g_best_add ok hk hes L h he ht hc hN
    | some p =>
      refine ⟨_, _, rfl, congrArg itemsP (pd_ints _), ?_⟩
      rw [any_ints]
      cases hk2 : (keyI e.1).contains (p : Int) with
      | true => exact g_best_add ok hk hes L h he ht (hc.trans hk2) hN
      | false => exact hN fs S _ _ _ _ _ _ (skip (hc.trans hk2))
end
end LW

set_option maxRecDepth 100000
namespace LW
open PySem PySem.Spec PyProof.Rows L2 DL

section
variable {S : Sto} {Q : DK} {E : XD} {F : List Tk}
theorem Fr.sdel {S0 S : Sto} {a : Addr} (f : Fr S0 S) (h : S0 a = none) : Fr S0 (sdel S a) := fun b n => by
  rw [sdel_ne (fun z => n (by rw [z]; exact h))]
  exact f b n
theorem num_get {F : List Tk} {j : Nat} {d : D} (h : (DL.numbered 0 (F.map tkD))[j]? = some d) : ∃ t, F[j]? = some t ∧ d = .tup [.int j, tkD t] := by
  obtain ⟨y, hy, rfl⟩ := DL.numbered_get h
  rw [List.getElem?_map] at hy
  cases ht : F[j]? with
  | none => rw [ht] at hy; cases hy
  | some t =>
    rw [ht] at hy
    cases hy
    exact ⟨t, rfl, by rw [Nat.zero_add]⟩
/-- the state between the levels of best_of -/
structure OutB (F : List Tk) (S0 : Sto) (k : Nat) (nw : Addr) (es : List (List Nat × Addr)) (S : Sto) : Prop where
  lv : Lv F k es
  len : es.length ≤ 8 ^ k
  at_ : S nw = some (.dN (es.map (entT (valB F))))
  ne : S0 nw = none
  eo : ∀ f ∈ es, OrdS S f ∧ S0 f.2 = none
  fr : Fr S0 S
theorem Part.len8 {α : Type} {k : Nat} {es fs : List (List Nat × α)} (ok : OkF F) (h : Part F k es fs es.length 0) (hl : es.length ≤ 8 ^ k) : fs.length ≤ 8 ^ (k + 1) := by
  have h1 := h.len
  have h2 : es.length * F.length ≤ 8 ^ k * 8 := Nat.mul_le_mul hl ok.l8
  rw [Nat.pow_succ]
  omega
theorem none_of {S0 S : Sto} {p : Addr} (f : Fr S0 S) (h : S p = none) : S0 p = none := by
  cases hz : S0 p with
  | none => rfl
  | some o =>
    have := f.at hz
    rw [h] at this
    cases this
theorem g_best_of (ok : OkF F) (q : ∀ l a S', Best F l → Fr S S' → S a = none → S' a = some (.lst (l.map natD)) → Q (.tup [fr (runL F l).1, fr (runL F l).2, .ref a]) S') : sp_best_of [foD F] S Q E := by
  have hlF : (F.map tkD).length = F.length := List.length_map ..
  have l8 := ok.l8
  refine ⟨rfl, fun p1 hp1 => ?_⟩
  refine ⟨by decide, by decide, fun p2 hp2 => ?_⟩
  have hA : (sput (sput S p1 (.dN [])) p2 (.lst [])) p1 = some (.dN []) := (Fr.put hp2).at sput_same
  have hB : (sput (sput S p1 (.dN [])) p2 (.lst [])) p2 = some (.lst []) := sput_same
  have hp2' : S p2 = none := none_of (Fr.put hp1) hp2
  have ne12 : p2 ≠ p1 := fun z => by rw [z, sput_same] at hp2; cases hp2
  refine ⟨by show 3 ≤ sizeLine; decide, hA, _, keyD_ints [], ?_⟩
  have f0 : Fr S (sput (sput S p1 (.dN [])) p2 (.lst [])) := (Fr.put hp1).trans (Fr.put hp2)
  have ek : keyT [] = .tup [] := by
    unfold keyT keyI
    rw [List.map_nil, List.mergeSort_nil, List.map_nil]
  have O0 : OutB F S 0 p1 [(([] : List Nat), p2)] (sput (sput (sput S p1 (.dN [])) p2 (.lst [])) p1 (.dN [(.tup [], .tup [G_NOUGHT, G_WHOLE, .ref p2])])) := by
    refine ⟨lv_start, by simp, ?_, hp1, fun f hf => ?_, fun a n => ?_⟩
    · rw [sput_same, List.map_cons, List.map_nil]
      unfold entT
      rw [ek]
      rfl
    · have : f = ([], p2) := by simpa using hf
      subst this
      refine ⟨?_, hp2'⟩
      show sput _ p1 _ p2 = _
      rw [sput_ne ne12]
      exact hB
    · rw [sput_ne (fun z => n (by rw [z]; exact hp1))]
      exact f0 a n
  refine ⟨_, rfl, ⟨by omega, by rw [hlF]; omega⟩, ?_⟩
  refine for_inv (fun k σ S' => k ≤ F.length ∧ ∃ nw es x2 x3 x4 x5 x6 x7 x8 x9 x10 x11 x12 x13, σ = [some (foD F), some (.ref nw), x2, x3, x4, x5, x6, x7, x8, x9, x10, x11, x12, x13] ∧ OutB F S k nw es S') (fun _ _ _ _ => trivial) ?_ ?_ ⟨Nat.zero_le _, p1, _, _, _, _, _, _, _, _, _, _, _, _, _, rfl, O0⟩
  · rintro k d σ S1 N hi ⟨hk, nw, es, x2, x3, x4, x5, x6, x7, x8, x9, x10, x11, x12, x13, rfl, O⟩ hN
    have hk1 : k + 1 ≤ F.length := by
      have := (List.getElem?_eq_some_iff.mp hi).1
      simp [rangeD, hlF] at this
      omega
    intro fu hfu
    have fF : Fr S1 (sput S1 fu (.dN [])) := Fr.put hfu
    have hnw := fF.at O.at_
    have hfu0 : S fu = none := none_of O.fr hfu
    have nfu : fu ≠ nw := fun z => by rw [z, O.at_] at hfu; cases hfu
    refine ⟨_, _, pairs_dN hnw, ?_⟩
    have I0 : InB F S k es fu 0 0 [] (sdel (sput S1 fu (.dN [])) nw) := by
      refine ⟨Part.zero, ?_, hfu0, fun f hf => by simp at hf, fun f hf => ?_, (O.fr.trans fF).sdel O.ne⟩
      · rw [sdel_ne nfu, sput_same]
        rfl
      · obtain ⟨h1, h2⟩ := O.eo f hf
        refine ⟨?_, h2⟩
        unfold OrdS at h1 ⊢
        rw [sdel_ne (fun z => by rw [z, O.at_] at h1; cases h1)]
        exact fF.at h1
    refine for_inv (fun i σ S' => ∃ fs y2 y4 y5 y6 y7 y8 y9 y10 y11 y12 y13, σ = [some (foD F), some (.ref nw), y2, some (.ref fu), y4, y5, y6, y7, y8, y9, y10, y11, y12, y13] ∧ InB F S k es fu i 0 fs S') (fun _ _ _ _ => trivial) ?_ ?_ ⟨[], _, _, _, _, _, _, _, _, _, _, _, rfl, I0⟩
    · rintro i d σ S2 N2 hi2 ⟨fs, y2, y4, y5, y6, y7, y8, y9, y10, y11, y12, y13, rfl, I⟩ hN2
      obtain ⟨e, he, rfl⟩ : ∃ e, es[i]? = some e ∧ d = .tup [keyT e.1, valB F e] := by
        rw [List.map_map, List.getElem?_map] at hi2
        cases he : es[i]? with
        | none => rw [he] at hi2; cases hi2
        | some e =>
          rw [he] at hi2
          cases hi2
          exact ⟨e, rfl, rfl⟩
      refine ⟨rfl, rfl, ?_⟩
      refine for_inv (fun j σ S' => ∃ fs z8 z9 z10 z11 z12 z13, σ = [some (foD F), some (.ref nw), y2, some (.ref fu), some (keyT e.1), some (fr (runL F e.1).1), some (fr (runL F e.1).2), some (.ref e.2), z8, z9, z10, z11, z12, z13] ∧ InB F S k es fu i j fs S') (fun _ _ _ _ => trivial) ?_ ?_ ⟨fs, _, _, _, _, _, _, rfl, I⟩
      · rintro j d σ S3 N3 hi3 ⟨fs, z8, z9, z10, z11, z12, z13, rfl, I⟩ hN3
        obtain ⟨t, ht, rfl⟩ := num_get hi3
        exact g_best_in ok hk1 O.len O.lv I he ht fun fs' S' a8 a9 a10 a11 a12 a13 I' => hN3 _ _ ⟨fs', _, _, _, _, _, _, rfl, I'⟩
      · rintro σ S3 ⟨fs, z8, z9, z10, z11, z12, z13, rfl, I⟩
        rw [DL.numbered_length, hlF] at I
        exact hN2 _ _ ⟨fs, _, _, _, _, _, _, _, _, _, _, _, rfl, I.skip (Fr.refl _) I.part.row⟩
    · rintro σ S2 ⟨fs, y2, y4, y5, y6, y7, y8, y9, y10, y11, y12, y13, rfl, I⟩
      rw [List.length_map, List.length_map] at I
      exact hN _ _ ⟨hk1, fu, fs, _, _, _, _, _, _, _, _, _, _, _, _, rfl, ⟨I.part.all O.lv, I.part.len8 ok O.len, I.at_, I.ne, I.fo, I.fr⟩⟩
  · rintro σ S1 ⟨hk, nw, es, x2, x3, x4, x5, x6, x7, x8, x9, x10, x11, x12, x13, rfl, O⟩
    have hn : (rangeD 0 ((F.map tkD).length : Int).toNat).length = F.length := by simp [rangeD]
    rw [hn] at O
    obtain ⟨e, rfl, B⟩ := O.lv.end_ ok
    refine ⟨_, _, pairs_dN O.at_, fun p3 hp3 => ⟨_, sput_same, _, rfl, ?_⟩⟩
    obtain ⟨h1, h2⟩ := O.eo e (List.mem_cons_self ..)
    exact q e.1 e.2 _ B (O.fr.trans (Fr.put hp3)) h2 ((Fr.put hp3).at h1)
theorem g_best_worth (ok : OkF F) (q : ∀ l S', Best F l → Fr S S' → Q (fr (runL F l).1) S') : sp_best_worth [foD F] S Q E := by
  refine ⟨rfl, g_need_forest ok fun S1 f1 => ?_⟩
  refine g_best_of ok fun l a S2 B f2 _ _ => ⟨_, rfl, q l S2 B (f1.trans f2)⟩
theorem g_best_order (ok : OkF F) (q : ∀ l a S', Best F l → Fr S S' → S a = none → S' a = some (.lst (l.map natD)) → Q (.ref a) S') : sp_best_order [foD F] S Q E := by
  refine ⟨rfl, g_need_forest ok fun S1 f1 => ?_⟩
  refine g_best_of ok fun l a S2 B f2 h1 h2 => ⟨_, rfl, q l a S2 B (f1.trans f2) (none_of f1 h1) h2⟩
theorem g_order_worth {l : List Nat} {a : Addr} (ok : OkF F) (hp : Pre F l) (hl : l.length = F.length) (hS : S a = some (.lst (l.map natD))) (q : ∀ S', Fr S S' → Q (fr (runL F l).1) S') : sp_order_worth [foD F, .ref a] S Q E := by
  refine ⟨rfl, g_is_order ok hp hl hS fun S1 f1 => ?_⟩
  refine g_run_of ok (by rw [hl]; exact ok.l8) (fun x hx => hp.lt x hx) (f1.at hS) ?_
  exact ⟨_, rfl, _, rfl, q S1 f1⟩
end
end LW

set_option maxRecDepth 100000
namespace LW
open PySem PySem.Spec PyProof.Rows L2 DL

section
variable {S : Sto} {Q : DK} {E : XD} {a b : Rat} {j k : Nat}
theorem g__law_low {n d : Int} (hd : 0 < d) (hs : d.natAbs < 2 ^ 9000) (h : Q (fr (Rat.divInt n d)) S) : sp__law_low [.int n, .int d] S Q E := by
  refine ⟨rfl, ?_⟩
  refine ⟨fun m σ S' => S' = S ∧ ∃ x y : Nat, m = y ∧ σ = [some (.int n), some (.int d), some (.int x), some (.int y)] ∧ Nat.gcd x y = Int.gcd n d, ⟨d.natAbs, rfl, n.natAbs, d.natAbs, rfl, ?_, rfl⟩, ?_⟩
  · have h1 : (if n < 0 then -n else n) = (n.natAbs : Int) := by split <;> omega
    have h2 : (d.natAbs : Int) = d := by omega
    show [some (D.int n), some (D.int d), some (D.int (if n < 0 then -n else n)), some (D.int d)] = _
    rw [h1, h2]
  · rintro y σ S' ⟨rfl, x, _, rfl, rfl, hg⟩
    refine ⟨_, _, rfl, rfl, ?_⟩
    show br (!((y : Int) == 0)) _ _
    refine br_split (fun c => ?_) (fun c => ?_)
    · have hy : 0 < y := by
        rcases Nat.eq_zero_or_pos y with e | e
        · subst e; simp at c
        · exact e
      refine ⟨by show (0 : Int) < (y : Int); omega, ?_⟩
      refine ⟨x % y, Nat.mod_lt _ hy, rfl, y, x % y, rfl, ?_, ?_⟩
      · show [some (D.int n), some (D.int d), some (D.int (y : Int)), some (D.int ((x : Int) % (y : Int)))] = _
        rw [← Int.natCast_emod]
      · rw [← hg, Nat.gcd_comm x y, Nat.gcd_comm y (x % y)]
        exact (Nat.gcd_rec y x).symm
    · have hy : y = 0 := by simpa using c
      subst hy
      rw [Nat.gcd_zero_right] at hg
      subst hg
      have hdn : d ≠ 0 := by omega
      have hgp : 0 < Int.gcd n d := Int.gcd_pos_of_ne_zero_right n hdn
      have hgl : Int.gcd n d ≤ d.natAbs := Int.gcd_le_natAbs_right _ hdn
      obtain ⟨h1, h2⟩ := low_num (n := n) hdn (g := (Int.gcd n d : Int)) (by rw [if_neg (by omega)])
      have hc : ∀ z : Int, CDivW z (Int.gcd n d : Int) := fun z => ⟨by omega, by
        show (Int.gcd n d : Int).natAbs.log2 < 9000
        rw [Int.natAbs_natCast]
        exact (Nat.log2_lt (by omega)).mpr (Nat.lt_of_le_of_lt hgl hs)⟩
      rw [Int.fdiv_eq_ediv_of_nonneg _ (by omega)] at h1 h2
      refine ⟨hc _, hc _, by show 2 ≤ sizeLine; decide, ?_⟩
      show Q (.tup [.int (n / (Int.gcd n d : Int)), .int (d / (Int.gcd n d : Int))]) S'
      rw [← h1, ← h2]
      exact h
theorem den2_pos : 0 < ((a.den : Int) * b.den) := Int.mul_pos (den_pos a) (den_pos b)
theorem g__law_add (h : Sz j a) (h' : Sz k b) (hk : j + k ≤ 9000) (q : Q (fr (a + b)) S) : sp__law_add [fr a, fr b] S Q E := by
  refine ⟨rfl, _, rfl, _, rfl, cmul h.1 h'.dn (by omega), _, rfl, _, rfl, cmul h'.1 h.dn (by omega), _, rfl, _, rfl, cmul h.dn h'.dn (by omega), ?_⟩
  refine g__law_low den2_pos (den_lt h h' hk) ?_
  rw [add_div]
  exact q
theorem g__law_mul (h : Sz j a) (h' : Sz k b) (hk : j + k ≤ 9000) (q : Q (fr (a * b)) S) : sp__law_mul [fr a, fr b] S Q E := by
  refine ⟨rfl, _, rfl, _, rfl, cmul h.1 h'.1 (by omega), _, rfl, _, rfl, cmul h.dn h'.dn (by omega), ?_⟩
  refine g__law_low den2_pos (den_lt h h' hk) ?_
  rw [mul_div]
  exact q
theorem g__law_less (h : Sz j a) (h' : Sz k b) (hk : j + k ≤ 9000) (q : Q (.bl (decide (a < b))) S) : sp__law_less [fr a, fr b] S Q E := by
  refine ⟨rfl, _, rfl, _, rfl, cmul h.1 h'.dn (by omega), _, rfl, _, rfl, cmul h'.1 h.dn (by omega), ?_⟩
  show Q (.bl (decide (a.num * b.den < b.num * a.den))) S
  have e : decide (a.num * (b.den : Int) < b.num * a.den) = decide (a < b) := by
    rw [decide_eq_decide]
    exact (Rat.lt_iff a b).symm
  rw [e]
  exact q
/-- the greatest of some -/
def IsMax (qs : List Rat) (m : Rat) : Prop := m ∈ qs ∧ ∀ x ∈ qs, x ≤ m
theorem IsMax.uniq {qs : List Rat} {m n : Rat} (h : IsMax qs m) (h' : IsMax qs n) : m = n := Rat.le_antisymm (h'.2 _ h.1) (h.2 _ h'.1)
theorem g__law_most {p : Addr} {qs : List Rat} (hS : S p = some (.lst (qs.map fr))) (hne : qs ≠ []) (hz : ∀ x ∈ qs, Sz 4000 x) (q : ∀ m, IsMax qs m → Q (fr m) S) : sp__law_most [.ref p] S Q E := by
  cases qs with
  | nil => exact absurd rfl hne
  | cons q0 qs =>
    refine ⟨rfl, _, hS, fr q0, atI_nat (xs := (q0 :: qs).map fr) (j := 0) rfl, _, hS, ?_⟩
    refine for_inv (fun i σ S' => S' = S ∧ ∃ m x2, σ = [some (.ref p), some (fr m), x2] ∧ m ∈ (q0 :: qs) ∧ ∀ x ∈ (q0 :: qs).take i, x ≤ m) (fun i σ S' h => h.1 ▸ hS) ?_ ?_ ⟨rfl, q0, _, rfl, List.mem_cons_self .., fun x hx => by simp at hx⟩
    · rintro i d σ S' N hi ⟨rfl, m, x2, rfl, hm, hx⟩ hN
      rw [List.getElem?_map] at hi
      cases hq : (q0 :: qs)[i]? with
      | none => rw [hq] at hi; cases hi
      | some y =>
        rw [hq] at hi
        cases hi
        have hy := List.mem_of_getElem? hq
        refine g__law_less (hz m hm) (hz y hy) (by omega) ?_
        have tk : (q0 :: qs).take (i + 1) = (q0 :: qs).take i ++ [y] := by
          rw [List.take_succ, hq]
          rfl
        refine br_split (b := decide (m < y)) (fun c => ?_) (fun c => ?_)
        · have c' := of_decide_eq_true c
          refine hN _ _ ⟨rfl, y, _, rfl, hy, fun x hx' => ?_⟩
          rw [tk] at hx'
          rcases List.mem_append.mp hx' with h | h
          · exact Rat.le_trans (hx x h) (Rat.le_of_lt c')
          · have : x = y := by simpa using h
            rw [this]
            exact Rat.le_refl
        · have c' := of_decide_eq_false c
          refine hN _ _ ⟨rfl, m, _, rfl, hm, fun x hx' => ?_⟩
          rw [tk] at hx'
          rcases List.mem_append.mp hx' with h | h
          · exact hx x h
          · have : x = y := by simpa using h
            rw [this]
            exact Rat.not_lt.mp c'
    · rintro σ S' ⟨rfl, m, x2, rfl, hm, hx⟩
      rw [List.length_map, List.take_length] at hx
      exact q m ⟨hm, hx⟩
end
end LW

set_option maxRecDepth 100000
namespace LW
open PySem PySem.Spec PyProof.Rows L2 DL

def mk (n : Int) (d : Nat) (h1 : d ≠ 0 := by decide) (h2 : n.natAbs.Coprime d := by decide) : Rat := ⟨n, d, h1, h2⟩
def paysL : List Rat := [mk 0 1, mk 1 1, mk (-1) 1, mk 4 1, mk 1 2, mk (-3) 2, mk 2 3, mk (-5) 1, mk 100000000000 7]
def facsL : List Rat := [mk 1 2, mk 1 3, mk 1 1, mk 2 1, mk 0 1, mk 3 4, mk 9 10, mk 3 1]
/-- small enough to be shown in thirteen letters -/
def Sh (q : Rat) : Prop := q.num.natAbs < 10 ^ 12 ∧ q.den < 10 ^ 12
theorem pays_ok : ∀ x ∈ paysL, Sz 40 x ∧ Sh x := by
  unfold Sz Sh paysL
  decide
theorem facs_ok : ∀ x ∈ facsL, (Sz 40 x ∧ Sh x) ∧ 0 ≤ x := by
  unfold Sz Sh facsL
  decide
theorem at_tab {l : List Rat} {d : Int} (h0 : 0 ≤ d) (h1 : d < l.length) : ∃ x ∈ l, atI (l.map fr) d = some (fr x) := by
  have hj : d.toNat < l.length := by omega
  refine ⟨l[d.toNat], List.getElem_mem hj, ?_⟩
  have e : d = (d.toNat : Int) := by omega
  have h := atI_nat (xs := l.map fr) (j := d.toNat) (v := fr l[d.toNat]) (by rw [List.getElem?_map, List.getElem?_eq_getElem hj]; rfl)
  rwa [← e] at h
section
variable {S : Sto} {Q : DK} {E : XD} {p c : Addr} {cells : List Int} {i : Int}
theorem pen_ne (P : Pen S p c cells i) {x : Addr} (h : S x = none) : x ≠ p ∧ x ≠ c := by
  obtain ⟨v, hp⟩ := P.at_
  refine ⟨fun z => ?_, fun z => ?_⟩
  · rw [z, hp] at h
    cases h
  · rw [z, P.cs] at h
    cases h
theorem g__law_pay (P : Pen S p c cells i) (hi : i < 2 ^ 60) (q : ∀ x j S', x ∈ paysL → Pen S' p c cells j → j ≤ i + 1 → FrP p S S' → Q (fr x) S') : sp__law_pay [.ref p] S Q E := by
  have s2 : (2 : Nat) ≤ sizeLine := by decide
  refine ⟨rfl, s2, s2, s2, s2, s2, s2, s2, s2, ⟨by decide, by decide, by decide⟩, s2, by show 9 ≤ sizeLine; decide, fun a ha => ?_⟩
  obtain ⟨np, nc⟩ := pen_ne P ha
  refine g_draw (P.fr (Fr.put ha)) hi (by decide) (by decide) fun d j S' d0 d1 P' hj f => ?_
  obtain ⟨x, hx, ht⟩ := at_tab (l := paysL) d0 d1
  exact ⟨_, f.at sput_same np, _, ht, q x j S' hx P' hj ((Fr.put ha).p.trans f)⟩
theorem g__law_factor (P : Pen S p c cells i) (hi : i < 2 ^ 60) (q : ∀ x j S', x ∈ facsL → Pen S' p c cells j → j ≤ i + 1 → FrP p S S' → Q (fr x) S') : sp__law_factor [.ref p] S Q E := by
  have s2 : (2 : Nat) ≤ sizeLine := by decide
  refine ⟨rfl, s2, s2, s2, s2, s2, s2, s2, s2, by show 8 ≤ sizeLine; decide, fun a ha => ?_⟩
  obtain ⟨np, nc⟩ := pen_ne P ha
  refine g_draw (P.fr (Fr.put ha)) hi (by decide) (by decide) fun d j S' d0 d1 P' hj f => ?_
  obtain ⟨x, hx, ht⟩ := at_tab (l := facsL) d0 d1
  exact ⟨_, f.at sput_same np, _, ht, q x j S' hx P' hj ((Fr.put ha).p.trans f)⟩
/-- a part of a forest that is drawn -/
structure OkP (ts : List Tk) : Prop where
  par : ∀ (i : Nat) (t : Tk), ts[i]? = some t → ∀ p, t.par = some p → p < i
  ok : ∀ t ∈ ts, (Sz 40 t.pay ∧ Sz 40 t.fac) ∧ (Sh t.pay ∧ Sh t.fac) ∧ 0 ≤ t.fac
def ShF (F : List Tk) : Prop := ∀ t ∈ F, Sh t.pay ∧ Sh t.fac
theorem OkP.okF {F : List Tk} (h : OkP F) (h1 : 1 ≤ F.length) (h8 : F.length ≤ 8) : OkF F := ⟨h1, h8, h.par, fun t ht => (h.ok t ht).1, fun t ht => (h.ok t ht).2.2⟩
theorem OkP.snoc {ts : List Tk} {t : Tk} (h : OkP ts) (hp : ∀ p, t.par = some p → p < ts.length) (ht : (Sz 40 t.pay ∧ Sz 40 t.fac) ∧ (Sh t.pay ∧ Sh t.fac) ∧ 0 ≤ t.fac) : OkP (ts ++ [t]) := by
  refine ⟨fun i u hu p hup => ?_, fun u hu => ?_⟩
  · by_cases hlt : i < ts.length
    · rw [List.getElem?_append_left hlt] at hu
      exact h.par i u hu p hup
    · have hil : i = ts.length := by
        have := (List.getElem?_eq_some_iff.mp hu).1
        simp at this
        omega
      subst hil
      rw [List.getElem?_append_right (Nat.le_refl _), Nat.sub_self] at hu
      have : t = u := by simpa using hu
      subst this
      exact hp p hup
  · rcases List.mem_append.mp hu with hu | hu
    · exact h.ok u hu
    · have : u = t := by simpa using hu
      rw [this]
      exact ht
theorem range_get {lo : Int} {n k : Nat} {d : D} (h : (rangeD lo n)[k]? = some d) : k < n ∧ d = .int (lo + (k : Int)) := by
  unfold rangeD at h
  rw [List.getElem?_map] at h
  cases hk : (List.range n)[k]? with
  | none => rw [hk] at h; cases h
  | some x =>
    rw [hk] at h
    cases h
    have hlt : k < n := by
      have := (List.getElem?_eq_some_iff.mp hk).1
      simpa using this
    rw [List.getElem?_range hlt] at hk
    cases hk
    exact ⟨hlt, rfl⟩
theorem g_forest_tail {De : DEnds} {most : D} {fd : Addr} {x3 x4 : Option D} {o : Option Nat} {ts : List Tk} {j : Int} (P : Pen S p c cells j) (hj : j < 2 ^ 59) (np : fd ≠ p) (nc : fd ≠ c) (hfd : S fd = some (.lst (ts.map tkD))) (hl : ts.length ≤ 100)
    (hN : ∀ x y j' S', x ∈ paysL → y ∈ facsL → S' fd = some (.lst ((ts ++ [Tk.mk o x y]).map tkD)) → Pen S' p c cells j' → j' ≤ j + 2 → (∀ a, a ≠ p → a ≠ fd → S a ≠ none → S' a = S a) → De.nx [some (.ref p), some most, some (.ref fd), x3, x4, some (parD o)] S') :
    (sDrop (dM rdAppend (dVar 2) (aCons (dTup (aCons (dVar 5) (aCons (dCall sp__law_pay (lW E) (aCons (dVar 0) aNil)) (aCons (dCall sp__law_factor (lW E) (aCons (dVar 0) aNil)) aNil)))) aNil))) De [some (.ref p), some most, some (.ref fd), x3, x4, some (parD o)] S := by
  refine ⟨⟨_, hfd⟩, ?_⟩
  refine g__law_pay P (by omega) fun x j1 S1 hx P1 h1 f1 => ?_
  refine g__law_factor P1 (by omega) fun y j2 S2 hy P2 h2 f2 => ?_
  have hf := (f1.trans f2).at hfd np
  refine ⟨by show 3 ≤ sizeLine; decide, _, hf, by rw [List.length_map]; show _ < 16777216; omega, ?_⟩
  refine hN x y j2 _ hx hy (by rw [sput_same, List.map_append]; rfl) ?_ (by omega) fun a a1 a2 a3 => ?_
  · obtain ⟨v, hp⟩ := P2.at_
    refine ⟨P2.ne, ⟨v, ?_⟩, ?_, P2.lo, P2.ln⟩
    · rw [sput_ne (Ne.symm np)]
      exact hp
    · rw [sput_ne (Ne.symm nc)]
      exact P2.cs
  · rw [sput_ne a2]
    exact (f1.trans f2) a a1 a3
theorem g__law_forest {most : Int} (P : Pen S p c cells i) (hi : i < 2 ^ 58) (hm : 0 < most) (hm8 : most ≤ 8)
    (q : ∀ F j S', OkF F → ShF F → (F.length : Int) ≤ most → Pen S' p c cells j → j ≤ i + 40 → FrP p S S' → Q (foD F) S') : sp__law_forest [.ref p, .int most] S Q E := by
  refine ⟨rfl, by decide, fun fd hfd => ?_⟩
  obtain ⟨np, nc⟩ := pen_ne P hfd
  refine g_draw (P.fr (Fr.put hfd)) (by omega) hm (by omega) fun n j0 S0 n0 n1 P0 hj0 f0 => ?_
  have h0 := f0.at (sput_same (S := S) (a := fd) (o := .lst [])) np
  have ff0 : FrP p S S0 := (Fr.put hfd).p.trans f0
  have e1 : ((1 + n).toNat : Int) = 1 + n := by omega
  refine ⟨⟨by omega, by omega⟩, ?_⟩
  refine for_inv (fun k σ S' => ∃ ts x3 x4 x5 j, σ = [some (.ref p), some (.int most), some (.ref fd), x3, x4, x5] ∧ OkP ts ∧ ts.length = k ∧ S' fd = some (.lst (ts.map tkD)) ∧ Pen S' p c cells j ∧ j ≤ i + 1 + 4 * k ∧ FrP p S S') (fun _ _ _ _ => trivial) ?_ ?_
    ⟨[], _, _, _, j0, rfl, ⟨fun i t h => by simp at h, fun t h => by simp at h⟩, rfl, h0, P0, by omega, ff0⟩
  · rintro k d σ S1 N hi1 ⟨ts, x3, x4, x5, j, rfl, ok, hl, hfd1, P1, hj, f1⟩ hN
    obtain ⟨hk, rfl⟩ := range_get hi1
    have hk8 : k < 8 := by omega
    refine g_draw P1 (by omega) (by decide) (by decide) fun r j2 S2 r0 r1 P2 hj2 f2 => ?_
    have hfd2 := f2.at hfd1 np
    have hfr2 : FrP p S S2 := f1.trans f2
    have fin : ∀ {x y : Rat} {j' : Int} {S3 S' : Sto} {o : Option Nat} {y3 y4 y5 : Option D}, FrP p S S3 → (∀ p, o = some p → p < k) → x ∈ paysL → y ∈ facsL → S' fd = some (.lst ((ts ++ [Tk.mk o x y]).map tkD)) → Pen S' p c cells j' → j' ≤ j + 4 → (∀ a, a ≠ p → a ≠ fd → S3 a ≠ none → S' a = S3 a) →
        N [some (.ref p), some (.int most), some (.ref fd), y3, y4, y5] S' := fun {x y j' S3 S' o y3 y4 y5} hf3 ho hx hy h1 h2 h3 h4 => by
      obtain ⟨a1, a2⟩ := pays_ok x hx
      obtain ⟨⟨b1, b2⟩, b3⟩ := facs_ok y hy
      refine hN _ _ ⟨_, _, _, _, j', rfl, ok.snoc (t := Tk.mk o x y) (fun p hp => by rw [hl]; exact ho p hp) ⟨⟨a1, b1⟩, ⟨a2, b2⟩, b3⟩, by simp [hl], h1, h2, by omega, fun a np' na => ?_⟩
      have e := hf3 a np' na
      rw [← e]
      exact h4 a np' (fun z => na (by rw [z]; exact hfd)) (by rw [e]; exact na)
    refine ⟨_, _, rfl, rfl, ?_⟩
    refine br_split (b := ((0 : Int) + (k : Int)) == 0) (fun c1 => ?_) (fun c1 => ?_)
    · exact g_forest_tail (o := none) P2 (by omega) np nc hfd2 (by omega) fun x y j' S' hx hy h1 h2 h3 h4 => fin (o := none) hfr2 (fun p hp => by cases hp) hx hy h1 h2 (by omega) h4
    refine ⟨_, _, rfl, rfl, ?_⟩
    refine br_split (b := r == 0) (fun c2 => ?_) (fun c2 => ?_)
    · exact g_forest_tail (o := none) P2 (by omega) np nc hfd2 (by omega) fun x y j' S' hx hy h1 h2 h3 h4 => fin (o := none) hfr2 (fun p hp => by cases hp) hx hy h1 h2 (by omega) h4
    have hk0 : 0 < k := by
      rcases Nat.eq_zero_or_pos k with e | e
      · subst e; simp at c1
      · exact e
    have hr0 : r ≠ 0 := by
      intro e
      subst e
      simp at c2
    refine g_draw P2 (by omega) (by omega) (by omega) fun y j3 S3 y0 y1 P3 hj3 f3 => ⟨by show 3 ≤ sizeLine; decide, fun pl hpl => ?_⟩
    obtain ⟨z, hz0, hz⟩ : ∃ z : Nat, z < k ∧ atI [D.int (0 + (k : Int) - 1), D.int 0, D.int y] (r - 1) = some (D.int (z : Int)) := by
      have : r = 1 ∨ r = 2 ∨ r = 3 := by omega
      rcases this with rfl | rfl | rfl
      · refine ⟨k - 1, by omega, ?_⟩
        show some (D.int (0 + (k : Int) - 1)) = _
        rw [show (0 + (k : Int) - 1) = ((k - 1 : Nat) : Int) by omega]
      · exact ⟨0, hk0, rfl⟩
      · refine ⟨y.toNat, by omega, ?_⟩
        have : ((y.toNat : Nat) : Int) = y := by omega
        rw [this]
        rfl
    refine ⟨_, sput_same, _, hz, ?_⟩
    have fl := Fr.put (o := .lst [D.int (0 + (k : Int) - 1), D.int 0, D.int y]) hpl
    exact g_forest_tail (o := some z) (P3.fr fl) (by omega) np nc (fl.at (f3.at hfd2 np)) (by omega) fun x y j' S' hx hy h1 h2 h3 h4 => fin (o := some z) ((hfr2.trans f3).trans fl.p) (fun p hp => by cases hp; exact hz0) hx hy h1 h2 (by omega) h4
  · rintro σ S1 ⟨ts, x3, x4, x5, j, rfl, ok, hl, hfd1, P1, hj, f1⟩
    have hn : (rangeD 0 (1 + n).toNat).length = (1 + n).toNat := by simp [rangeD]
    rw [hn] at hl hj
    exact ⟨_, elems_lst hfd1, q ts j S1 (ok.okF (by omega) (by omega)) (fun t ht => (ok.ok t ht).2.1) (by omega) P1 (by omega) f1⟩
end
end LW

set_option maxRecDepth 100000
namespace LW
open PySem PySem.Spec PyProof.Rows L2 DL

section
variable {S : Sto} {Q : DK} {E : XD} {F : List Tk}
theorem g__law_run {l : List Nat} {a : Addr} (h : OkF F) (hl : l.length ≤ 8) (hx : ∀ x ∈ l, x < F.length) (hS : S a = some (.lst (l.map natD)))
    (q : Q (.tup [fr (runL F l).1, fr (runL F l).2]) S) : sp__law_run [foD F, .ref a] S Q E := by
  have s2 : (2 : Nat) ≤ sizeLine := by decide
  refine ⟨rfl, s2, s2, s2, rfl, _, hS, ?_⟩
  refine for_inv (fun i σ S' => S' = S ∧ ∃ x4, σ = [some (foD F), some (.ref a), some (fr (runL F (l.take i)).1), some (fr (runL F (l.take i)).2), x4]) (fun i σ S' h => h.1 ▸ hS) (fun i d σ S' N hi ⟨e, x4, hσ⟩ hN => ?_) (fun σ S' ⟨e, x4, hσ⟩ => ?_) ⟨rfl, _, rfl⟩
  · subst e hσ
    obtain ⟨x, hx1, rfl⟩ := nat_get hi
    have hxm := List.mem_of_getElem? hx1
    have hlt := hx x hxm
    obtain ⟨t, ht⟩ : ∃ t, F[x]? = some t := ⟨F[x], List.getElem?_eq_getElem hlt⟩
    obtain ⟨s1, s2⟩ := h.sz t (List.mem_of_getElem? ht)
    obtain ⟨z1, z2⟩ := run_sz8 h (l := l.take i) (by rw [List.length_take]; omega)
    refine ⟨_, at_fo ht, _, rfl, ?_⟩
    refine g__law_mul z2 s1 (by omega) ?_
    refine g__law_add z1 (sz_mul z2 s1) (by omega) ?_
    refine ⟨_, at_fo ht, _, rfl, ?_⟩
    refine g__law_mul z2 s2 (by omega) ?_
    refine hN _ _ ⟨rfl, some (natD x), ?_⟩
    rw [run_take hx1 ht]
    rfl
  · subst e hσ
    rw [List.length_map, List.take_length]
    exact ⟨s2, q⟩
/-- the orders of k numbers, told as lists -/
structure OL (F : List Tk) (S0 : Sto) (k : Nat) (A : Addr) (os : List (List Nat × Addr)) (S : Sto) : Prop where
  pre : ∀ o ∈ os, Pre F o.1 ∧ o.1.length = k
  all : ∀ l, Pre F l → l.length = k → ∃ o ∈ os, o.1 = l
  len : os.length ≤ 8 ^ k
  at_ : S A = some (.lst (os.map fun o => .ref o.2))
  ne : S0 A = none
  eo : ∀ o ∈ os, OrdS S o ∧ S0 o.2 = none
  fr : Fr S0 S
structure OI (F : List Tk) (S0 : Sto) (k : Nat) (A B : Addr) (os ns : List (List Nat × Addr)) (i j : Nat) (S : Sto) : Prop where
  pre : ∀ o ∈ ns, Pre F o.1 ∧ o.1.length = k + 1
  len : ns.length ≤ i * F.length + j
  atA : S A = some (.lst (os.map fun o => .ref o.2))
  atB : S B = some (.lst (ns.map fun o => .ref o.2))
  ne : S0 B = none
  ab : A ≠ B
  eo : ∀ o ∈ os, OrdS S o ∧ S0 o.2 = none ∧ o.2 ≠ B
  en : ∀ o ∈ ns, OrdS S o ∧ S0 o.2 = none ∧ o.2 ≠ B
  fr : Fr S0 S
  has : ∀ (a x : Nat) (e : List Nat × Addr), (a < i ∨ (a = i ∧ x < j)) → x < F.length → os[a]? = some e → canAdd F e.1 x = true → ∃ o ∈ ns, o.1 = e.1 ++ [x]
section
variable {S0 : Sto} {k : Nat} {A B : Addr} {os ns : List (List Nat × Addr)} {i j : Nat}
theorem OI.skip (h : OI F S0 k A B os ns i j S) (hn : ∀ e, os[i]? = some e → canAdd F e.1 j = false) : OI F S0 k A B os ns i (j + 1) S :=
  { h with
    len := by have := h.len; omega
    has := fun a x e hx hl he hc => by
      rcases hx with hx | ⟨rfl, hx⟩
      · exact h.has a x e (.inl hx) hl he hc
      · by_cases hj : x < j
        · exact h.has a x e (.inr ⟨rfl, hj⟩) hl he hc
        · have : x = j := by omega
          subst this
          rw [hn e he] at hc
          cases hc }
theorem OI.row (h : OI F S0 k A B os ns i F.length S) : OI F S0 k A B os ns (i + 1) 0 S :=
  { h with
    len := by have := h.len; rw [Nat.succ_mul]; omega
    has := fun a x e hx hl he hc => by
      rcases hx with hx | ⟨_, hx⟩
      · by_cases ha : a < i
        · exact h.has a x e (.inl ha) hl he hc
        · have : a = i := by omega
          subst this
          exact h.has a x e (.inr ⟨rfl, hl⟩) hl he hc
      · omega }
theorem OI.add {S' : Sto} (h : OI F S0 k A B os ns i j S) (f : Fr S S') {e : List Nat × Addr} {p : Addr} (he : os[i]? = some e) (hp : Pre F (e.1 ++ [j]) ∧ (e.1 ++ [j]).length = k + 1) (ho : OrdS S' (e.1 ++ [j], p)) (h0 : S0 p = none) (hpB : p ≠ B) :
    OI F S0 k A B os (ns ++ [(e.1 ++ [j], p)]) i (j + 1) (sput S' B (.lst ((ns.map fun o => .ref o.2) ++ [.ref p]))) := by
  have keep : ∀ g : List Nat × Addr, g.2 ≠ B → OrdS S' g → OrdS (sput S' B (.lst ((ns.map fun o => .ref o.2) ++ [.ref p]))) g := fun g hg hs => by
    unfold OrdS
    rw [sput_ne hg]
    exact hs
  refine ⟨fun o hm => ?_, ?_, ?_, ?_, h.ne, h.ab, fun o hm => ?_, fun o hm => ?_, fun a n => ?_, fun a x e' hx hl he' hc => ?_⟩
  · rcases List.mem_append.mp hm with hm | hm
    · exact h.pre o hm
    · have : o = (e.1 ++ [j], p) := by simpa using hm
      subst this
      exact hp
  · have := h.len
    simp only [List.length_append, List.length_cons, List.length_nil]
    omega
  · rw [sput_ne h.ab]
    exact f.at h.atA
  · rw [sput_same, List.map_append]
    rfl
  · obtain ⟨h1, h2, h3⟩ := h.eo o hm
    exact ⟨keep o h3 (f.at h1), h2, h3⟩
  · rcases List.mem_append.mp hm with hm | hm
    · obtain ⟨h1, h2, h3⟩ := h.en o hm
      exact ⟨keep o h3 (f.at h1), h2, h3⟩
    · have : o = (e.1 ++ [j], p) := by simpa using hm
      subst this
      exact ⟨keep _ hpB ho, h0, hpB⟩
  · rw [sput_ne (fun z => n (by rw [z]; exact h.ne))]
    exact (h.fr.trans f) a n
  · rcases hx with hx | ⟨rfl, hx⟩
    · obtain ⟨o, h1, h2⟩ := h.has a x e' (.inl hx) hl he' hc
      exact ⟨o, List.mem_append_left _ h1, h2⟩
    · by_cases hj : x < j
      · obtain ⟨o, h1, h2⟩ := h.has a x e' (.inr ⟨rfl, hj⟩) hl he' hc
        exact ⟨o, List.mem_append_left _ h1, h2⟩
      · have : x = j := by omega
        subst this
        rw [he] at he'
        cases he'
        exact ⟨_, List.mem_append_right _ (List.mem_cons_self ..), rfl⟩
theorem OI.all (h : OI F S0 k A B os ns os.length 0 S) (ok : OkF F) (L : OL F S0 k A os S) : OL F S0 (k + 1) B ns S :=
  ⟨h.pre, fun l hp hl => by
    obtain ⟨m, x, rfl, h1, h2, h3⟩ := hp.last hl
    have hx : x < F.length := by
      unfold canAdd at h2
      simp only [Bool.and_eq_true, decide_eq_true_eq] at h2
      exact h2.1
    obtain ⟨o, ho, rfl⟩ := L.all m h1 h3
    obtain ⟨a, ha, e2⟩ := List.getElem_of_mem ho
    exact h.has a x o (.inl ha) hx (by rw [List.getElem?_eq_getElem ha, e2]) h2, by
    have h1 := h.len
    have h2 : os.length * F.length ≤ 8 ^ k * 8 := Nat.mul_le_mul L.len ok.l8
    rw [Nat.pow_succ]
    omega, h.atB, h.ne, fun o ho => ⟨(h.en o ho).1, (h.en o ho).2.1⟩, h.fr⟩
end
end
end LW

set_option maxRecDepth 100000
namespace LW
open PySem PySem.Spec PyProof.Rows L2 DL

section
variable {S : Sto} {Q : DK} {E : XD} {F : List Tk}
theorem any_nat (l : List Nat) (x : Nat) : ((l.map fun (n : Nat) => PyData.int (n : Int)).any fun z => PyData.eqv z (.int (x : Int))) = l.contains x := by
  have := any_ints (l.map Int.ofNat) (x : Int)
  rw [List.map_map] at this
  refine Eq.trans this ?_
  rw [Bool.eq_iff_iff, List.contains_iff_mem, List.contains_iff_mem, List.mem_map]
  refine ⟨fun ⟨y, hy, e⟩ => ?_, fun h => ⟨x, h, rfl⟩⟩
  have : y = x := by
    have : (y : Int) = (x : Int) := e
    omega
  rw [← this]
  exact hy
theorem pd_ord {S : Sto} {f : List Nat × Addr} (h : OrdS S f) : pd S 20 (.ref f.2) = some (.list (f.1.map fun (n : Nat) => PyData.int (n : Int))) := by
  refine pd_lst h ?_
  have := pdAll_ints S 19 (f.1.map Int.ofNat)
  rw [List.map_map, List.map_map] at this
  exact this
theorem canAdd_nat {l : List Nat} {j : Nat} {t : Tk} (ht : F[j]? = some t) : canAdd F l j = (!l.contains j && (match t.par with | none => true | some p => l.contains p)) := by
  unfold canAdd parOf
  rw [ht, decide_eq_true (List.getElem?_eq_some_iff.mp ht).1, Bool.true_and]
  rfl
theorem g_orders_add {S0 : Sto} {k : Nat} {A B : Addr} {os ns : List (List Nat × Addr)} {i j : Nat} {De : DEnds} {e : List Nat × Addr} {x2 x6 : Option D}
    (ok : OkF F) (hk : k + 1 ≤ F.length) (L : os.length ≤ 8 ^ k) (pe : Pre F e.1 ∧ e.1.length = k) (h : OI F S0 k A B os ns i j S) (he : os[i]? = some e) (hj : j < F.length) (hc : canAdd F e.1 j = true)
    (hN : ∀ ns' S', OI F S0 k A B os ns' i (j + 1) S' → De.nx [some (foD F), some (.ref A), x2, some (.ref B), some (.ref e.2), some (.int j), x6] S') :
    (sDrop (dM rdAppend (dVar 3) (aCons (dOp rdAddA (dVar 4) (dLst (aCons (dVar 5) aNil))) aNil))) De [some (foD F), some (.ref A), x2, some (.ref B), some (.ref e.2), some (.int j), x6] S := by
  have hem := List.mem_of_getElem? he
  have hi : i < os.length := (List.getElem?_eq_some_iff.mp he).1
  obtain ⟨he1, he2, he3⟩ := h.eo e hem
  have l8 := ok.l8
  refine ⟨⟨_, h.atB⟩, by show 1 ≤ sizeLine; decide, fun p1 hp1 => ?_⟩
  have f1 : Fr S _ := Fr.put (o := .lst [D.int (j : Int)]) hp1
  refine ⟨_, _, f1.at he1, sput_same, by rw [List.length_map]; show _ + 1 ≤ 16777216; omega, fun p2 hp2 => ?_⟩
  have f2 := f1.trans (Fr.put (o := .lst (e.1.map natD ++ [D.int (j : Int)])) hp2)
  have hlen : (ns.map fun o => D.ref o.2).length < sizeLine := by
    rw [List.length_map]
    have h1 := h.len
    have a1 : i * F.length + j < (i + 1) * F.length := by rw [Nat.succ_mul]; omega
    have a2 : (i + 1) * F.length ≤ 8 ^ k * 8 := Nat.mul_le_mul (by omega) l8
    have a3 : 8 ^ k * 8 ≤ 8 ^ 8 := by
      rw [← Nat.pow_succ]
      exact Nat.pow_le_pow_right (by decide) (by omega)
    have h3 : (8 : Nat) ^ 8 = sizeLine := by decide
    omega
  refine ⟨_, f2.at h.atB, hlen, ?_⟩
  have hp2B : p2 ≠ B := fun z => by
    have hb := f1.at h.atB
    rw [← z, hp2] at hb
    cases hb
  refine hN _ _ (h.add f2 he ⟨.snoc pe.1 hc, by simp [pe.2]⟩ ?_ (none_of h.fr (none_of f1 hp2)) hp2B)
  unfold OrdS
  rw [sput_same, List.map_append]
  rfl
theorem g__law_orders (ok : OkF F) (q : ∀ os A S', OL F S F.length A os S' → Q (.ref A) S') : sp__law_orders [foD F] S Q E := by
  have hlF : (F.map tkD).length = F.length := List.length_map ..
  have l8 := ok.l8
  refine ⟨rfl, by decide, fun p1 hp1 => ⟨by show 1 ≤ sizeLine; decide, fun A hA => ?_⟩⟩
  have hp1' : (sput (sput S p1 (.lst [])) A (.lst [.ref p1])) p1 = some (.lst []) := (Fr.put hA).at sput_same
  have O0 : OL F S 0 A [(([] : List Nat), p1)] (sput (sput S p1 (.lst [])) A (.lst [.ref p1])) := by
    refine ⟨fun o ho => ?_, fun l hp hl => ⟨_, List.mem_cons_self .., (List.length_eq_zero_iff.mp hl).symm⟩, by simp, sput_same, none_of (Fr.put hp1) hA, fun o ho => ?_, (Fr.put hp1).trans (Fr.put hA)⟩
    · have : o = ([], p1) := by simpa using ho
      subst this
      exact ⟨.nil, rfl⟩
    · have : o = ([], p1) := by simpa using ho
      subst this
      exact ⟨hp1', hp1⟩
  refine ⟨_, rfl, ⟨by omega, by rw [hlF]; omega⟩, ?_⟩
  refine for_inv (fun k σ S' => k ≤ F.length ∧ ∃ A os x2 x3 x4 x5 x6, σ = [some (foD F), some (.ref A), x2, x3, x4, x5, x6] ∧ OL F S k A os S') (fun _ _ _ _ => trivial) ?_ ?_ ⟨Nat.zero_le _, A, _, _, _, _, _, _, rfl, O0⟩
  · rintro k d σ S1 N hi ⟨hk, A, os, x2, x3, x4, x5, x6, rfl, O⟩ hN
    have hk1 : k + 1 ≤ F.length := by
      have := (List.getElem?_eq_some_iff.mp hi).1
      simp [rangeD, hlF] at this
      omega
    refine ⟨by decide, fun B hB => ?_⟩
    have fB : Fr S1 (sput S1 B (.lst [])) := Fr.put hB
    have hA1 := fB.at O.at_
    have I0 : OI F S k A B os [] 0 0 (sput S1 B (.lst [])) := by
      refine ⟨fun o ho => by simp at ho, by simp, hA1, sput_same, none_of O.fr hB, fun z => by have hh := O.at_; rw [z, hB] at hh; exact absurd hh (by simp), fun o ho => ?_, fun o ho => by simp at ho, O.fr.trans fB, fun a x e hx => by omega⟩
      obtain ⟨h1, h2⟩ := O.eo o ho
      exact ⟨fB.at h1, h2, fun z => by unfold OrdS at h1; rw [z, hB] at h1; cases h1⟩
    refine ⟨_, hA1, ?_⟩
    refine for_inv (fun i σ S' => ∃ ns y2 y4 y5 y6, σ = [some (foD F), some (.ref A), y2, some (.ref B), y4, y5, y6] ∧ OI F S k A B os ns i 0 S') (fun i σ S' ⟨_, _, _, _, _, _, h⟩ => h.atA) ?_ ?_ ⟨[], _, _, _, _, rfl, I0⟩
    · rintro i d σ S2 N2 hi2 ⟨ns, y2, y4, y5, y6, rfl, I⟩ hN2
      obtain ⟨e, he, rfl⟩ : ∃ e, os[i]? = some e ∧ d = .ref e.2 := by
        rw [List.getElem?_map] at hi2
        cases he : os[i]? with
        | none => rw [he] at hi2; cases hi2
        | some e =>
          rw [he] at hi2
          cases hi2
          exact ⟨e, rfl, rfl⟩
      have hem := List.mem_of_getElem? he
      refine ⟨_, rfl, ⟨by omega, by rw [hlF]; omega⟩, ?_⟩
      refine for_inv (fun j σ S' => ∃ ns z5 z6, σ = [some (foD F), some (.ref A), y2, some (.ref B), some (.ref e.2), z5, z6] ∧ OI F S k A B os ns i j S') (fun _ _ _ _ => trivial) ?_ ?_ ⟨ns, _, _, rfl, I⟩
      · rintro j d σ S3 N3 hi3 ⟨ns, z5, z6, rfl, I⟩ hN3
        obtain ⟨hj, rfl⟩ := range_get hi3
        rw [hlF, Int.toNat_natCast] at hj
        rw [Int.zero_add]
        obtain ⟨t, ht⟩ : ∃ t, F[j]? = some t := ⟨F[j], List.getElem?_eq_getElem hj⟩
        have hc := canAdd_nat (l := e.1) ht
        have hpd := pd_ord (I.eo e hem).1
        obtain ⟨par, pay, fac⟩ := t
        have skip : canAdd F e.1 j = false → OI F S k A B os ns i (j + 1) S3 := fun hf => I.skip fun e' he' => by rw [he] at he'; cases he'; exact hf
        refine ⟨_, at_fo ht, _, rfl, ?_⟩
        refine ⟨_, (I.eo e hem).1, _, _, rfl, congrArg itemsP hpd, ?_⟩
        rw [any_nat]
        cases hk1' : e.1.contains j with
        | true =>
          rw [hk1'] at hc
          exact hN3 _ _ ⟨ns, _, _, rfl, skip hc⟩
        | false =>
          rw [hk1', Bool.not_false, Bool.true_and] at hc
          cases par with
          | none => exact g_orders_add ok hk1 O.len (O.pre e hem) I he hj hc fun ns' S' I' => hN3 _ _ ⟨ns', _, _, rfl, I'⟩
          | some p =>
            refine ⟨_, (I.eo e hem).1, _, _, rfl, congrArg itemsP hpd, ?_⟩
            rw [any_nat]
            cases hk2 : e.1.contains p with
            | true => exact g_orders_add ok hk1 O.len (O.pre e hem) I he hj (hc.trans hk2) fun ns' S' I' => hN3 _ _ ⟨ns', _, _, rfl, I'⟩
            | false => exact hN3 _ _ ⟨ns, _, _, rfl, skip (hc.trans hk2)⟩
      · rintro σ S3 ⟨ns, z5, z6, rfl, I⟩
        have hn : (rangeD 0 ((F.map tkD).length : Int).toNat).length = F.length := by simp [rangeD]
        rw [hn] at I
        exact hN2 _ _ ⟨ns, _, _, _, _, rfl, I.row⟩
    · rintro σ S2 ⟨ns, y2, y4, y5, y6, rfl, I⟩
      rw [List.length_map] at I
      refine hN _ _ ⟨hk1, B, ns, _, _, _, _, _, rfl, I.all ok ⟨O.pre, O.all, O.len, I.atA, O.ne, fun o ho => ⟨(I.eo o ho).1, (I.eo o ho).2.1⟩, I.fr⟩⟩
  · rintro σ S1 ⟨hk, A, os, x2, x3, x4, x5, x6, rfl, O⟩
    have hn : (rangeD 0 ((F.map tkD).length : Int).toNat).length = F.length := by simp [rangeD]
    rw [hn] at O
    exact q os A S1 O
end
end LW

set_option maxRecDepth 100000
namespace LW
open PySem PySem.Spec PyProof.Rows L2 DL

theorem perm_map_inv {α β : Type} {f : α → β} {a b : List β} (h : a.Perm b) : ∀ {l : List α}, a = l.map f → ∃ m, l.Perm m ∧ b = m.map f := by
  induction h with
  | nil =>
    intro l e
    exact ⟨l, .refl _, e⟩
  | cons x h ih =>
    intro l e
    cases l with
    | nil => simp at e
    | cons y l =>
      simp only [List.map_cons, List.cons.injEq] at e
      obtain ⟨m, h1, h2⟩ := ih e.2
      exact ⟨y :: m, h1.cons y, by rw [List.map_cons, h2, e.1]⟩
  | swap x y l' =>
    intro l e
    match l, e with
    | [], e => simp at e
    | [_], e => simp at e
    | a :: b :: l, e =>
      simp only [List.map_cons, List.cons.injEq] at e
      exact ⟨b :: a :: l, .swap b a l, by rw [List.map_cons, List.map_cons, e.1, e.2.1, e.2.2]⟩
  | trans _ _ h1 h2 =>
    intro l e
    obtain ⟨m, p1, e1⟩ := h1 e
    obtain ⟨m2, p2, e2⟩ := h2 e1
    exact ⟨m2, p1.trans p2, e2⟩
section
variable {α : Type} {F : List Tk} {k : Nat} {es es' : List (List Nat × α)}
theorem Lv.perm (h : Lv F k es) (p : es.Perm es') : Lv F k es' :=
  ⟨⟨fun f hf => h.tab.pre f (p.mem_iff.mpr hf), (p.map _).nodup_iff.mp h.tab.nd⟩, fun l h1 h2 =>
    let ⟨f, hf, q⟩ := h.all l h1 h2
    ⟨f, p.mem_iff.mp hf, q⟩⟩
theorem findF_mem {fs : List (List Nat × α)} (nd : (fs.map fun f => keyI f.1).Nodup) {e : List Nat × α} (he : e ∈ fs) : findF fs (keyI e.1) = some e := by
  cases h : findF fs (keyI e.1) with
  | none => exact absurd rfl (findF_none h e he)
  | some g =>
    rw [findF_only nd h e he rfl]
end
/-! ### sorted -/
theorem alike_ints : ∀ a b : List Int, PySem.W.alikeAll (a.map PyData.int) (b.map PyData.int) = true
  | [], _ => by simp [PySem.W.alikeAll]
  | _ :: _, [] => by simp [PySem.W.alikeAll]
  | x :: a, y :: b => by
    simp only [List.map_cons, PySem.W.alikeAll, PySem.W.alike, alike_ints a b, Bool.and_self]
theorem enc_int {S : Sto} (i : Int) : DL.encD S (.int i) = .int i := rfl
theorem enc_ints {S : Sto} (is : List Int) : DL.encD S (.tup (is.map D.int)) = .tuple (is.map PyData.int) := by
  unfold DL.encD
  rw [pd_ints]
  rfl
theorem sort_ints {S : Sto} (is : List Int) : sortD S (is.map D.int) = (is.mergeSort (· ≤ ·)).map D.int := by
  unfold sortD
  refine (List.map_mergeSort fun a _ b _ => ?_).symm
  rw [PySem.W.dataLe_eq]
  show decide (a ≤ b) = (!PySem.W.dataLt (.int b) (.int a))
  rw [PySem.W.dataLt_int]
  by_cases h : a ≤ b
  · rw [decide_eq_true h, decide_eq_false (by omega)]
    rfl
  · rw [decide_eq_false h, decide_eq_true (by omega)]
    rfl
theorem sortOk_ints {S : Sto} (is : List Int) : (∀ e ∈ is.map D.int, (pd S 20 e).isSome = true) ∧ sortOk ((is.map D.int).map (DL.encD S)) := by
  refine ⟨fun e he => ?_, fun d hd d' hd' => ?_, .inl (.inr fun d hd => ?_)⟩
  · obtain ⟨i, _, rfl⟩ := List.mem_map.mp he
    rfl
  · rw [List.map_map] at hd hd'
    obtain ⟨i, _, rfl⟩ := List.mem_map.mp hd
    obtain ⟨j, _, rfl⟩ := List.mem_map.mp hd'
    simp [enc_int, PySem.W.alike]
  · rw [List.map_map] at hd
    obtain ⟨i, _, rfl⟩ := List.mem_map.mp hd
    exact ⟨by simp [enc_int], fun xs => by simp [enc_int]⟩
theorem sortOk_keys {S : Sto} {α : Type} {F : List Tk} {k : Nat} {es : List (List Nat × α)} (t : Tab F k es) : (∀ e ∈ es.map fun e => keyT e.1, (pd S 20 e).isSome = true) ∧ sortOk ((es.map fun e => keyT e.1).map (DL.encD S)) := by
  have enc : ∀ e ∈ es, DL.encD S (keyT e.1) = .tuple ((keyI e.1).map PyData.int) := fun e _ => enc_ints _
  refine ⟨fun e he => ?_, fun d hd d' hd' => ?_, ?_⟩
  · obtain ⟨i, _, rfl⟩ := List.mem_map.mp he
    show (pd S 20 (.tup ((keyI i.1).map D.int))).isSome = true
    rw [pd_ints]
    rfl
  · rw [List.map_map] at hd hd'
    obtain ⟨i, hi, rfl⟩ := List.mem_map.mp hd
    obtain ⟨j, hj, rfl⟩ := List.mem_map.mp hd'
    show PySem.W.alike (DL.encD S (keyT i.1)) (DL.encD S (keyT j.1)) = true
    rw [enc i hi, enc j hj]
    simp only [PySem.W.alike]
    exact alike_ints _ _
  · by_cases hk : k = 0
    · subst hk
      refine .inr ⟨?_, fun d hd => ?_⟩
      · rw [List.length_map, List.length_map]
        have h0 : ∀ e ∈ es, keyI e.1 = keyI [] := fun e he => by rw [List.length_eq_zero_iff.mp (t.pre e he).2]
        have nd := t.nd
        match es, h0, nd with
        | [], _, _ => simp
        | [_], _, _ => simp
        | a :: b :: r, h0, nd =>
          rw [List.map_cons, List.nodup_cons] at nd
          exact absurd (List.mem_map.mpr ⟨b, List.mem_cons_self .., (h0 b (by simp)).trans (h0 a (by simp)).symm⟩) nd.1
      · rw [List.map_map] at hd
        obtain ⟨i, hi, rfl⟩ := List.mem_map.mp hd
        show DL.encD S (keyT i.1) ≠ _
        rw [enc i hi]
        simp
    · refine .inl (.inl fun d hd => ?_)
      rw [List.map_map] at hd
      obtain ⟨i, hi, rfl⟩ := List.mem_map.mp hd
      show ∃ x r, DL.encD S (keyT i.1) = _
      rw [enc i hi]
      have hl : (keyI i.1).length = k := by rw [(keyI_perm i.1).length_eq, List.length_map, (t.pre i hi).2]
      cases hx : keyI i.1 with
      | nil => rw [hx] at hl; simp at hl; omega
      | cons x r => exact ⟨_, _, rfl⟩
theorem sort_keys {S : Sto} {α : Type} (es : List (List Nat × α)) : ∃ es', es.Perm es' ∧ sortD S (es.map fun e => keyT e.1) = es'.map fun e => keyT e.1 := by
  have h : (es.map fun e => keyT e.1).Perm (sortD S (es.map fun e => keyT e.1)) := (List.mergeSort_perm _ _).symm
  exact perm_map_inv h rfl
end LW

set_option maxRecDepth 100000
namespace LW
open PySem PySem.Spec PyProof.Rows L2 DL

def valU (F : List Tk) (f : List Nat × Unit) : D := .tup [fr (runL F f.1).1, fr (runL F f.1).2]
abbrev LU := List (List Nat × Unit)
structure InU (F : List Tk) (S0 : Sto) (k : Nat) (es0 es : LU) (nw la sl : Addr) (i j : Nat) (fs : LU) (S : Sto) : Prop where
  part : Part F k es fs i j
  at_ : S la = some (.dN (fs.map (entT (valU F))))
  ne : S0 la = none
  nw_ : S nw = some (.dN (es0.map (entT (valU F))))
  sl_ : S sl = some (.lst (es.map fun e => keyT e.1))
  n1 : nw ≠ la
  fr : Fr S0 S
section
variable {S : Sto} {Q : DK} {E : XD} {F : List Tk} {S0 : Sto} {k : Nat} {es0 es fs : LU} {nw la sl : Addr} {i j : Nat}
theorem InU.skip {S' : Sto} (h : InU F S0 k es0 es nw la sl i j fs S) (f : Fr S S') {i' j' : Nat} (p : Part F k es fs i' j') : InU F S0 k es0 es nw la sl i' j' fs S' :=
  ⟨p, f.at h.at_, h.ne, f.at h.nw_, f.at h.sl_, h.n1, h.fr.trans f⟩
theorem InU.put {S' : Sto} (h : InU F S0 k es0 es nw la sl i j fs S) (f : Fr S S') {i' j' : Nat} {e : List Nat × Unit} (p : Part F k es (putF fs e) i' j') : InU F S0 k es0 es nw la sl i' j' (putF fs e) (sput S' la (.dN ((putF fs e).map (entT (valU F))))) := by
  have n2 : sl ≠ la := fun z => by
    have := h.at_
    rw [← z, h.sl_] at this
    cases this
  refine ⟨p, sput_same, h.ne, ?_, ?_, h.n1, fun a n => ?_⟩
  · rw [sput_ne h.n1]
    exact f.at h.nw_
  · rw [sput_ne n2]
    exact f.at h.sl_
  · rw [sput_ne (fun z => n (by rw [z]; exact h.ne))]
    exact (h.fr.trans f) a n
theorem g_sets_add {De : DEnds} {e : List Nat × Unit} {x2 x8 x11 x12 : Option D} {par : Option Nat} {pay fac : Rat}
    (ok : OkF F) (hk : k + 1 ≤ F.length) (hes : es.length ≤ 8 ^ k) (L : Lv F k es) (h : InU F S0 k es0 es nw la sl i j fs S) (he : es[i]? = some e) (ht : F[j]? = some ⟨par, pay, fac⟩) (hc : canAdd F e.1 j = true)
    (hN : ∀ fs' S' y11 y12, InU F S0 k es0 es nw la sl i (j + 1) fs' S' → De.nx [some (foD F), some (.ref nw), x2, some (.ref la), some (keyT e.1), some (fr (runL F e.1).1), some (fr (runL F e.1).2), some (.int j), x8, some (fr pay), some (fr fac), y11, y12] S') :
    (sSeq (sPar 11 12 (aCons (dB rdTuple (aCons (dB rdSortA (aCons (dOp rdAddA (dVar 4) (dTup (aCons (dVar 7) aNil))) aNil)) aNil)) (aCons (dCall sp__law_add (lW E) (aCons (dVar 5) (aCons (dCall sp__law_mul (lW E) (aCons (dVar 6) (aCons (dVar 9) aNil))) aNil))) aNil)))
    (sIf (dOr (dTest (dOp rdNotInD (dVar 11) (dVar 3))) (dTest (dCall sp__law_less (lW E) (aCons (dOp rdIxA (dOp rdIxA (dVar 3) (dVar 11)) (dC (.int 0))) (aCons (dVar 12) aNil))))) (sAsg (dTup (aCons (dVar 12) (aCons (dCall sp__law_mul (lW E) (aCons (dVar 6) (aCons (dVar 10) aNil))) aNil))) (gdSub (dVar 3) (dVar 11) rdSetA)) sNext))
      De [some (foD F), some (.ref nw), x2, some (.ref la), some (keyT e.1), some (fr (runL F e.1).1), some (fr (runL F e.1).2), some (.int j), x8, some (fr pay), some (fr fac), x11, x12] S := by
  have hj : j < F.length := (List.getElem?_eq_some_iff.mp ht).1
  have hi : i < es.length := (List.getElem?_eq_some_iff.mp he).1
  have hem := List.mem_of_getElem? he
  obtain ⟨pe, le⟩ := L.tab.pre e hem
  have l8 := ok.l8
  obtain ⟨z1, z2⟩ := run_sz8 ok (l := e.1) (by omega)
  obtain ⟨s1, s2⟩ := ok.sz _ (List.mem_of_getElem? ht)
  have pn : Pre F (e.1 ++ [j]) := .snoc pe hc
  have ln : (e.1 ++ [j]).length = k + 1 := by simp [le]
  have r1 : (runL F (e.1 ++ [j])).1 = (runL F e.1).1 + (runL F e.1).2 * pay := by rw [runL_snoc]; unfold stepR; rw [ht]
  have r2 : (runL F (e.1 ++ [j])).2 = (runL F e.1).2 * fac := by rw [runL_snoc]; unfold stepR; rw [ht]
  have hkl : ((keyI e.1).map D.int).length ≤ 8 := by rw [List.length_map, (keyI_perm e.1).length_eq, List.length_map]; omega
  have e1 : (keyI e.1).map D.int ++ [D.int (j : Int)] = (keyI e.1 ++ [(j : Int)]).map D.int := by rw [List.map_append]; rfl
  refine ⟨by show 1 ≤ sizeLine; decide, by show _ + 1 ≤ 16777216; omega, ?_⟩
  obtain ⟨k1, k2⟩ := sortOk_ints (S := S) (keyI e.1 ++ [(j : Int)])
  rw [← e1] at k1 k2
  refine ⟨_, rfl, k1, k2, fun p2 hp2 => ?_⟩
  refine ⟨_, elems_lst sput_same, ?_⟩
  rw [e1, sort_ints, keyT_snoc]
  have f2 : Fr S _ := (Fr.put (o := .lst (((keyI e.1 ++ [(j : Int)]).mergeSort (· ≤ ·)).map D.int)) hp2)
  refine g__law_mul z2 s1 (by omega) ?_
  refine g__law_add z1 (sz_mul z2 s1) (by omega) ?_
  rw [← r1]
  generalize sput S p2 (.lst (((keyI e.1 ++ [(j : Int)]).mergeSort (· ≤ ·)).map D.int)) = S2 at f2 ⊢
  have hfu := f2.at h.at_
  have hlen : fs.length < sizeLine := by
    have h1 := h.part.len
    have h2 : i * F.length + j < 8 ^ 8 := by
      have a1 : i * F.length + j < (i + 1) * F.length := by rw [Nat.succ_mul]; omega
      have a2 : (i + 1) * F.length ≤ 8 ^ k * 8 := Nat.mul_le_mul (by omega) l8
      have a3 : 8 ^ k * 8 ≤ 8 ^ 8 := by
        rw [← Nat.pow_succ]
        exact Nat.pow_le_pow_right (by decide) (by omega)
      omega
    have h3 : (8 : Nat) ^ 8 = sizeLine := by decide
    omega
  refine ⟨_, hfu, _, keyD_T _, ?_⟩
  rw [getN_ent]
  cases hf : findF fs (keyI (e.1 ++ [j])) with
  | none =>
    have better : ∀ g ∈ fs, keyI g.1 = keyI (e.1 ++ [j]) → (runL F g.1).1 ≤ (runL F (e.1 ++ [j])).1 := fun g hg hk => absurd hk (findF_none hf g hg)
    refine g__law_mul z2 s2 (by omega) ?_
    rw [← r2]
    refine ⟨by show 2 ≤ sizeLine; decide, ?_⟩
    refine ⟨_, hfu, _, keyD_T _, by rw [List.length_map]; exact hlen, ?_⟩
    have key := h.put f2 (e := (e.1 ++ [j], ())) (h.part.put he rfl ⟨pn, ln⟩ better)
    have pe2 := putN_ent (valU F) fs (e.1 ++ [j], ())
    show De.nx _ (sput _ la (.dN (putN (fs.map (entT (valU F))) (keyT (e.1 ++ [j])) (nk (keyI (e.1 ++ [j]))) (valU F (e.1 ++ [j], ())))))
    rw [pe2]
    exact hN _ _ _ _ key
  | some g =>
    obtain ⟨g1, g2⟩ := findF_some hf
    obtain ⟨pg, lg⟩ := h.part.tab.pre g g1
    obtain ⟨y1, y2⟩ := run_sz8 ok (l := g.1) (by omega)
    obtain ⟨w1, w2⟩ := run_sz8 ok (l := e.1 ++ [j]) (by omega)
    refine ⟨_, hfu, _, _, keyD_T _, (by rw [getN_ent, hf]; rfl : getN (fs.map (entT (valU F))) (nk (keyI (e.1 ++ [j]))) = some (valU F g)), _, rfl, ?_⟩
    refine g__law_less y1 w1 (by omega) ?_
    refine br_split (b := decide ((runL F g.1).1 < (runL F (e.1 ++ [j])).1)) (fun c => ?_) (fun c => ?_)
    · have c' := of_decide_eq_true c
      have better : ∀ g ∈ fs, keyI g.1 = keyI (e.1 ++ [j]) → (runL F g.1).1 ≤ (runL F (e.1 ++ [j])).1 := fun g' hg' hk' => by
        rw [findF_only h.part.tab.nd hf g' hg' hk']
        exact Rat.le_of_lt c'
      refine g__law_mul z2 s2 (by omega) ?_
      rw [← r2]
      refine ⟨by show 2 ≤ sizeLine; decide, ?_⟩
      refine ⟨_, hfu, _, keyD_T _, by rw [List.length_map]; exact hlen, ?_⟩
      have key := h.put f2 (e := (e.1 ++ [j], ())) (h.part.put he rfl ⟨pn, ln⟩ better)
      have pe2 := putN_ent (valU F) fs (e.1 ++ [j], ())
      show De.nx _ (sput _ la (.dN (putN (fs.map (entT (valU F))) (keyT (e.1 ++ [j])) (nk (keyI (e.1 ++ [j]))) (valU F (e.1 ++ [j], ())))))
      rw [pe2]
      exact hN _ _ _ _ key
    · have c' := of_decide_eq_false c
      exact hN fs S2 _ _ (h.skip f2 (h.part.keep he ⟨g, g1, g2, Rat.not_lt.mp c'⟩))
end
end LW

set_option maxRecDepth 100000
namespace LW
open PySem PySem.Spec PyProof.Rows L2 DL

section
variable {S : Sto} {Q : DK} {E : XD} {F : List Tk}
structure OutU (F : List Tk) (S0 : Sto) (k : Nat) (nw : Addr) (es : LU) (S : Sto) : Prop where
  lv : Lv F k es
  len : es.length ≤ 8 ^ k
  at_ : S nw = some (.dN (es.map (entT (valU F))))
  ne : S0 nw = none
  fr : Fr S0 S
theorem g__law_by_sets (ok : OkF F) (q : ∀ l S', Best F l → Fr S S' → Q (fr (runL F l).1) S') : sp__law_by_sets [foD F] S Q E := by
  have hlF : (F.map tkD).length = F.length := List.length_map ..
  have l8 := ok.l8
  have s2 : (2 : Nat) ≤ sizeLine := by decide
  refine ⟨rfl, fun p1 hp1 => ?_⟩
  refine ⟨by decide, s2, s2, s2, sput_same, _, keyD_ints [], ?_⟩
  have ek : keyT [] = .tup [] := by
    unfold keyT keyI
    rw [List.map_nil, List.mergeSort_nil, List.map_nil]
  have O0 : OutU F S 0 p1 [(([] : List Nat), ())] (sput (sput S p1 (.dN [])) p1 (.dN [(.tup [], .tup [.tup [.int 0, .int 1], .tup [.int 1, .int 1]])])) := by
    refine ⟨lv_start, by simp, ?_, hp1, fun a n => ?_⟩
    · rw [sput_same, List.map_cons, List.map_nil]
      unfold entT
      rw [ek]
      rfl
    · rw [sput_ne (fun z => n (by rw [z]; exact hp1)), sput_ne (fun z => n (by rw [z]; exact hp1))]
  refine ⟨_, rfl, ⟨by omega, by rw [hlF]; omega⟩, ?_⟩
  refine for_inv (fun k σ S' => k ≤ F.length ∧ ∃ nw es x2 x3 x4 x5 x6 x7 x8 x9 x10 x11 x12, σ = [some (foD F), some (.ref nw), x2, x3, x4, x5, x6, x7, x8, x9, x10, x11, x12] ∧ OutU F S k nw es S') (fun _ _ _ _ => trivial) ?_ ?_ ⟨Nat.zero_le _, p1, _, _, _, _, _, _, _, _, _, _, _, _, rfl, O0⟩
  · rintro k d σ S1 N hi ⟨hk, nw, es0, x2, x3, x4, x5, x6, x7, x8, x9, x10, x11, x12, rfl, O⟩ hN
    have hk1 : k + 1 ≤ F.length := by
      have := (List.getElem?_eq_some_iff.mp hi).1
      simp [rangeD, hlF] at this
      omega
    intro la hla
    have fF : Fr S1 (sput S1 la (.dN [])) := Fr.put hla
    have hnw := fF.at O.at_
    have nla : nw ≠ la := fun z => by rw [← z, O.at_] at hla; cases hla
    have hkeys : (es0.map (entT (valU F))).map (fun p => p.1) = es0.map fun e => keyT e.1 := by
      rw [List.map_map]
      rfl
    obtain ⟨k1, k2⟩ := sortOk_keys (S := sput S1 la (.dN [])) O.lv.tab
    have hsi : sItems (sput S1 la (.dN [])) (.ref nw) = some (es0.map fun e => keyT e.1) := by
      unfold sItems
      rw [pairs_dN hnw]
      exact congrArg some hkeys
    refine ⟨_, hsi, k1, k2, fun sl hsl => ?_⟩
    obtain ⟨es, pm, hes⟩ := sort_keys (S := sput S1 la (.dN [])) es0
    rw [hes]
    have fS := fF.trans (Fr.put (o := .lst (es.map fun e => keyT e.1)) hsl)
    have L := O.lv.perm pm
    have I0 : InU F S k es0 es nw la sl 0 0 [] (sput (sput S1 la (.dN [])) sl (.lst (es.map fun e => keyT e.1))) :=
      ⟨Part.zero, (Fr.put hsl).at sput_same, none_of O.fr hla, fS.at O.at_, sput_same, nla, O.fr.trans fS⟩
    refine ⟨_, sput_same, ?_⟩
    refine for_inv (fun i σ S' => ∃ fs y2 y4 y5 y6 y7 y8 y9 y10 y11 y12, σ = [some (foD F), some (.ref nw), y2, some (.ref la), y4, y5, y6, y7, y8, y9, y10, y11, y12] ∧ InU F S k es0 es nw la sl i 0 fs S') (fun i σ S' ⟨_, _, _, _, _, _, _, _, _, _, _, _, h⟩ => h.sl_) ?_ ?_ ⟨[], _, _, _, _, _, _, _, _, _, _, rfl, I0⟩
    · rintro i d σ S2 N2 hi2 ⟨fs, y2, y4, y5, y6, y7, y8, y9, y10, y11, y12, rfl, I⟩ hN2
      obtain ⟨e, he, rfl⟩ : ∃ e, es[i]? = some e ∧ d = keyT e.1 := by
        rw [List.getElem?_map] at hi2
        cases he : es[i]? with
        | none => rw [he] at hi2; cases hi2
        | some e =>
          rw [he] at hi2
          cases hi2
          exact ⟨e, rfl, rfl⟩
      have hem := List.mem_of_getElem? he
      have hem0 := pm.mem_iff.mpr hem
      have hg : getN (es0.map (entT (valU F))) (nk (keyI e.1)) = some (valU F e) := by
        rw [getN_ent, findF_mem O.lv.tab.nd hem0]
        rfl
      refine ⟨_, I.nw_, _, _, keyD_T _, hg, rfl, ?_⟩
      refine for_inv (fun j σ S' => ∃ fs z7 z8 z9 z10 z11 z12, σ = [some (foD F), some (.ref nw), y2, some (.ref la), some (keyT e.1), some (fr (runL F e.1).1), some (fr (runL F e.1).2), z7, z8, z9, z10, z11, z12] ∧ InU F S k es0 es nw la sl i j fs S') (fun _ _ _ _ => trivial) ?_ ?_ ⟨fs, _, _, _, _, _, _, rfl, I⟩
      · rintro j d σ S3 N3 hi3 ⟨fs, z7, z8, z9, z10, z11, z12, rfl, I⟩ hN3
        obtain ⟨t, ht, rfl⟩ := num_get hi3
        have hc := canAdd_iff (l := e.1) ht
        have skip : canAdd F e.1 j = false → InU F S k es0 es nw la sl i (j + 1) fs S3 := fun hf => I.skip (Fr.refl S3) (I.part.skip fun e' he' => by rw [he] at he'; cases he'; exact hf)
        obtain ⟨par, pay, fac⟩ := t
        refine ⟨rfl, rfl, ?_⟩
        refine ⟨_, _, rfl, congrArg itemsP (pd_ints _), ?_⟩
        rw [any_ints]
        cases hk1' : (keyI e.1).contains (j : Int) with
        | true =>
          rw [hk1'] at hc
          exact hN3 _ _ ⟨fs, _, _, _, _, _, _, rfl, skip hc⟩
        | false =>
          rw [hk1', Bool.not_false, Bool.true_and] at hc
          cases par with
          | none => exact g_sets_add ok hk1 (by rw [← pm.length_eq]; exact O.len) L I he ht hc fun fs' S' a11 a12 I' => hN3 _ _ ⟨fs', _, _, _, _, _, _, rfl, I'⟩
          | some p =>
            refine ⟨_, _, rfl, congrArg itemsP (pd_ints _), ?_⟩
            rw [any_ints]
            cases hk2 : (keyI e.1).contains (p : Int) with
            | true => exact g_sets_add ok hk1 (by rw [← pm.length_eq]; exact O.len) L I he ht (hc.trans hk2) fun fs' S' a11 a12 I' => hN3 _ _ ⟨fs', _, _, _, _, _, _, rfl, I'⟩
            | false => exact hN3 _ _ ⟨fs, _, _, _, _, _, _, rfl, skip (hc.trans hk2)⟩
      · rintro σ S3 ⟨fs, z7, z8, z9, z10, z11, z12, rfl, I⟩
        rw [DL.numbered_length, hlF] at I
        exact hN2 _ _ ⟨fs, _, _, _, _, _, _, _, _, _, _, rfl, I.skip (Fr.refl _) I.part.row⟩
    · rintro σ S2 ⟨fs, y2, y4, y5, y6, y7, y8, y9, y10, y11, y12, rfl, I⟩
      rw [List.length_map] at I
      exact hN _ _ ⟨hk1, la, fs, _, _, _, _, _, _, _, _, _, _, _, rfl, ⟨I.part.all L, I.part.len8 ok (by rw [← pm.length_eq]; exact O.len), I.at_, I.ne, I.fr⟩⟩
  · rintro σ S1 ⟨hk, nw, es, x2, x3, x4, x5, x6, x7, x8, x9, x10, x11, x12, rfl, O⟩
    have hn : (rangeD 0 ((F.map tkD).length : Int).toNat).length = F.length := by simp [rangeD]
    rw [hn] at O
    obtain ⟨e, rfl, B⟩ := O.lv.end_ ok
    have hke : keyI e.1 = (List.range ((F.map tkD).length : Int).toNat).map Int.ofNat := by
      rw [← keyI_range, hlF, Int.toNat_natCast]
      exact keyI_eq.mpr (B.pre.perm B.len)
    have hg : getN ([e].map (entT (valU F))) (nk ((List.range ((F.map tkD).length : Int).toNat).map Int.ofNat)) = some (valU F e) := by
      rw [getN_ent, ← hke, findF_mem O.lv.tab.nd (List.mem_cons_self ..)]
      rfl
    refine ⟨_, rfl, ⟨by omega, by rw [hlF]; omega⟩, ?_⟩
    rw [rangeD_eq]
    exact ⟨_, O.at_, _, _, keyD_ints _, hg, _, rfl, q e.1 S1 B O.fr⟩
end
end LW

set_option maxRecDepth 100000
namespace LW
open PySem PySem.Spec PyProof.Rows L2 DL

/-! ### the two forests that the law writes out -/
def F6 : List Tk := [⟨none, mk (-2) 1, mk 1 1⟩, ⟨none, mk 2 1, mk 1 1⟩, ⟨none, mk 0 1, mk 1 2⟩, ⟨none, mk 0 1, mk 1 1⟩, ⟨none, mk 0 1, mk 1 1⟩, ⟨none, mk 0 1, mk 1 1⟩]
def natR (k : Nat) : Rat := ⟨(k : Int), 1, by decide, by simp [Nat.Coprime]⟩
def F8 : List Tk := (List.range 8).map fun (k : Nat) => ⟨none, natR k, mk 1 2⟩
def allP (F : List Tk) : Nat → List (List Nat)
  | 0 => [[]]
  | k + 1 => (allP F k).flatMap fun l => ((List.range F.length).filter fun x => canAdd F l x).map fun x => l ++ [x]
theorem mem_allP {F : List Tk} : ∀ {k : Nat} {l : List Nat}, Pre F l → l.length = k → l ∈ allP F k
  | 0, l, _, h => by rw [List.length_eq_zero_iff.mp h]; simp [allP]
  | k + 1, l, hp, h => by
    obtain ⟨m, x, rfl, h1, h2, h3⟩ := hp.last h
    unfold allP
    refine List.mem_flatMap.mpr ⟨m, mem_allP h1 h3, List.mem_map.mpr ⟨x, List.mem_filter.mpr ⟨?_, h2⟩, rfl⟩⟩
    unfold canAdd at h2
    simp only [Bool.and_eq_true, decide_eq_true_eq] at h2
    simpa using h2.1
theorem f6_le : ∀ l ∈ allP F6 6, (runL F6 l).1 ≤ 1 := by decide +kernel
theorem f6_ok : OkF F6 := by
  refine ⟨by decide, by decide, fun i t hi p hp => ?_, ?_, ?_⟩
  · have ht := List.mem_of_getElem? hi
    have : ∀ t ∈ F6, t.par = none := by
      intro t ht
      simp only [F6, List.mem_cons, List.not_mem_nil, or_false] at ht
      rcases ht with rfl | rfl | rfl | rfl | rfl | rfl <;> rfl
    rw [this t ht] at hp
    cases hp
  · unfold Sz F6
    decide
  · unfold F6
    decide
theorem f6_best {l : List Nat} (h : Best F6 l) : (runL F6 l).1 = 1 := by
  have h1 : (runL F6 l).1 ≤ 1 := f6_le l (mem_allP h.pre h.len)
  have hp : Pre F6 [1, 2, 0, 3, 4, 5] := .snoc (l := [1, 2, 0, 3, 4]) (.snoc (l := [1, 2, 0, 3]) (.snoc (l := [1, 2, 0]) (.snoc (l := [1, 2]) (.snoc (l := [1]) (.snoc (l := []) .nil (by decide)) (by decide)) (by decide)) (by decide)) (by decide)) (by decide)
  have h2 := h.top _ hp (by decide)
  have h3 : (runL F6 [1, 2, 0, 3, 4, 5]).1 = 1 := by decide +kernel
  rw [h3] at h2
  exact Rat.le_antisymm h1 h2
theorem f8_get {k : Nat} (h : k < 8) : F8[k]? = some ⟨none, natR k, mk 1 2⟩ := by
  unfold F8
  rw [List.getElem?_map, List.getElem?_range h]
  rfl
theorem f8_par : ∀ t ∈ F8, t.par = none := by
  intro t ht
  unfold F8 at ht
  obtain ⟨k, _, rfl⟩ := List.mem_map.mp ht
  rfl
theorem f8_len : F8.length = 8 := by unfold F8; simp
theorem f8_ok : OkF F8 := by
  refine ⟨by rw [f8_len]; decide, by rw [f8_len]; decide, fun i t hi p hp => ?_, fun t ht => ?_, fun t ht => ?_⟩
  · rw [f8_par t (List.mem_of_getElem? hi)] at hp
    cases hp
  · unfold F8 at ht
    obtain ⟨k, hk, rfl⟩ := List.mem_map.mp ht
    have : k < 8 := by simpa using hk
    refine ⟨⟨?_, ?_⟩, ?_⟩
    · show (k : Int).natAbs < 2 ^ 40
      have : (2 : Nat) ^ 40 = 1099511627776 := by decide
      omega
    · show (1 : Nat) < 2 ^ 40
      decide
    · show Sz 40 (mk 1 2)
      unfold Sz
      decide
  · unfold F8 at ht
    obtain ⟨k, hk, rfl⟩ := List.mem_map.mp ht
    show (0 : Rat) ≤ mk 1 2
    decide
theorem f8_add {l : List Nat} {x : Nat} (h : x < 8) : canAdd F8 l x = !l.contains x := by
  unfold canAdd parOf
  rw [f8_len, decide_eq_true h, Bool.true_and, f8_get h]
  show (!l.contains x && true) = _
  rw [Bool.and_true]
theorem f8_pre : ∀ (r : List Nat), r.Nodup → (∀ x ∈ r, x < 8) → Pre F8 r.reverse
  | [], _, _ => .nil
  | x :: r, nd, h => by
    obtain ⟨h1, h2⟩ := List.nodup_cons.mp nd
    rw [List.reverse_cons]
    refine .snoc (f8_pre r h2 fun y hy => h y (List.mem_cons_of_mem _ hy)) ?_
    rw [f8_add (h x (List.mem_cons_self ..))]
    have : r.reverse.contains x = false := by
      rw [Bool.eq_false_iff]
      intro z
      exact h1 (by simpa using z)
    rw [this]
    rfl
theorem f8_step {s : Rat × Rat} {x : Nat} (h : x < 8) : stepR F8 s x = (s.1 + s.2 * natR x, s.2 * mk 1 2) := by
  unfold stepR
  rw [f8_get h]
theorem fold_shift (F : List Tk) : ∀ (l : List Nat) (a b w : Rat), (l.foldl (stepR F) (a, w)).1 - a = (l.foldl (stepR F) (b, w)).1 - b
  | [], a, b, w => by
    show a - a = b - b
    grind
  | x :: l, a, b, w => by
    have e : ∀ a : Rat, stepR F (a, w) x = (a + w * payOf F x, w * facOf F x) := fun a => Prod.ext (stepR_1 F _ x) (stepR_2 F _ x)
    rw [List.foldl_cons, List.foldl_cons, e, e]
    have := fold_shift F l (a + w * payOf F x) (b + w * payOf F x) (w * facOf F x)
    grind
theorem natR_lt {x y : Nat} (h : x < y) : natR x < natR y := by
  rw [Rat.lt_iff]
  show (x : Int) * 1 < (y : Int) * 1
  omega
theorem f8_wt : ∀ (l : List Nat) (s : Rat × Rat), 0 < s.2 → (∀ x ∈ l, x < 8) → 0 < (l.foldl (stepR F8) s).2
  | [], s, h, _ => h
  | x :: l, s, h, hx => by
    rw [List.foldl_cons, f8_step (hx x (List.mem_cons_self ..))]
    exact f8_wt l _ (Rat.mul_pos h (by decide)) fun y hy => hx y (List.mem_cons_of_mem _ hy)
theorem f8_desc {a b : List Nat} {x y : Nat} (h : Best F8 (a ++ x :: y :: b)) : y < x := by
  have nd := h.pre.nodup
  have hlt : ∀ z ∈ a ++ x :: y :: b, z < 8 := fun z hz => by have := h.pre.lt z hz; rw [f8_len] at this; exact this
  have hx : x < 8 := hlt x (by simp)
  have hy : y < 8 := hlt y (by simp)
  have pm : (a ++ y :: x :: b).Perm (a ++ x :: y :: b) := (List.Perm.swap x y b).append_left a
  rcases Nat.lt_trichotomy y x with q | q | q
  · exact q
  · subst q
    rw [List.nodup_append] at nd
    exact absurd (List.mem_cons_self ..) (List.nodup_cons.mp nd.2.1).1
  · exfalso
    have p2 : Pre F8 (a ++ y :: x :: b) := by
      have := f8_pre (a ++ y :: x :: b).reverse ((List.reverse_perm _).nodup_iff.mpr (pm.nodup_iff.mpr nd)) fun z hz => hlt z (pm.mem_iff.mp (List.mem_reverse.mp hz))
      rwa [List.reverse_reverse] at this
    have t := h.top _ p2 (by rw [pm.length_eq]; exact h.len)
    unfold runL at t
    rw [List.foldl_append, List.foldl_append, List.foldl_cons, List.foldl_cons, List.foldl_cons, List.foldl_cons] at t
    have hw := f8_wt a (0, 1) (by decide) fun z hz => hlt z (List.mem_append_left _ hz)
    generalize a.foldl (stepR F8) (0, 1) = s at *
    rw [f8_step hx, f8_step hy, f8_step hx, f8_step hy] at t
    dsimp only at t
    have sh := fold_shift F8 b (s.1 + s.2 * natR y + s.2 * mk 1 2 * natR x) (s.1 + s.2 * natR x + s.2 * mk 1 2 * natR y) (s.2 * mk 1 2 * mk 1 2)
    have hxy := natR_lt q
    have hd : 0 < s.2 * (natR y - natR x) := Rat.mul_pos hw (by grind)
    have hm : mk 1 2 = (1 : Rat) / 2 := by decide +kernel
    rw [hm] at t sh
    grind
theorem f8_best {l : List Nat} (h : Best F8 l) : l = [7, 6, 5, 4, 3, 2, 1, 0] := by
  have hd : ∀ (a b : List Nat) (x y : Nat), l = a ++ x :: y :: b → y < x := fun a b x y e => f8_desc (a := a) (b := b) (by rw [← e]; exact h)
  have pw : ∀ (r a : List Nat), l = a ++ r → r.Pairwise (fun x y => y < x) := by
    intro r
    induction r with
    | nil => intro a _; exact List.Pairwise.nil
    | cons x r ih =>
      intro a e
      have h1 := ih (a ++ [x]) (by rw [e]; simp)
      refine List.pairwise_cons.mpr ⟨fun y hy => ?_, h1⟩
      cases r with
      | nil => simp at hy
      | cons z r =>
        have h2 := hd a r x z e
        rcases List.mem_cons.mp hy with rfl | hy
        · exact h2
        · exact Nat.lt_trans ((List.pairwise_cons.mp h1).1 y hy) h2
  have p1 := pw l [] rfl
  have pm : l.Perm [7, 6, 5, 4, 3, 2, 1, 0] := by
    have := h.pre.perm h.len
    rw [f8_len] at this
    exact this.trans (by decide)
  exact List.Perm.eq_of_pairwise (le := fun x y => y < x) (fun a b _ _ x y => absurd (Nat.lt_trans x y) (Nat.lt_irrefl _)) p1 (by decide) pm
end LW

set_option maxRecDepth 100000
namespace LW
open PySem PySem.Spec PyProof.Rows L2 DL
def parP : Option Nat → PyData
  | none => .none
  | some p => .int p
def frP (q : Rat) : PyData := .tuple [.int q.num, .int q.den]
def tkP (t : Tk) : PyData := .tuple [parP t.par, frP t.pay, frP t.fac]
def foP (F : List Tk) : PyData := .tuple (F.map tkP)
theorem pd_fo {S : Sto} (F : List Tk) : pd S 20 (foD F) = some (foP F) := by
  have h1 : ∀ t : Tk, pd S 19 (tkD t) = some (tkP t) := fun t => by
    obtain ⟨o, a, b⟩ := t
    cases o <;> rfl
  have h2 : ∀ F : List Tk, pdAll (pd S 19) (F.map tkD) = some (F.map tkP) := fun F => by
    induction F with
    | nil => rfl
    | cons t F ih =>
      show (match pd S 19 (tkD t), pdAll (pd S 19) (F.map tkD) with | some p, some ps => some (p :: ps) | _, _ => none) = _
      rw [h1, ih]
      rfl
  show (match pdAll (pd S 19) (F.map tkD) with | some ps => some (PyData.tuple ps) | none => none) = _
  rw [h2]
  rfl
theorem sh_int {i : Int} (h : i.natAbs < 10 ^ 12) : (PyData.int i).showable = true ∧ (PyData.int i).intsShort 13 = true ∧ (PyData.int i).weight ≤ 41 := by
  have hl : i.natAbs.log2 < 41 := log_lt (k := 40) (Nat.lt_trans h (by decide))
  refine ⟨?_, ?_, ?_⟩
  · show decide (i.natAbs.log2 < 1920) = true
    exact decide_eq_true (by omega)
  · show decide ((PyData.shown (.int i)).length ≤ 13) = true
    exact decide_eq_true (PyData.shown_int_le h)
  · show (if i == 0 then 0 else i.natAbs.log2 + 1) ≤ 41
    split <;> omega
theorem sh_fr {q : Rat} (h : Sh q) : (frP q).showable = true ∧ (frP q).hasDict = false ∧ (frP q).intsShort 13 = true ∧ (frP q).weight ≤ 84 ∧ (frP q).canLay0 = true := by
  obtain ⟨a1, a2, a3⟩ := sh_int (i := q.num) h.1
  obtain ⟨b1, b2, b3⟩ := sh_int (i := (q.den : Int)) (by simpa using h.2)
  unfold frP
  refine ⟨?_, ?_, ?_, ?_, ?_⟩
  · simp only [PyData.showable, PyData.showableAll, Bool.and_eq_true] at a1 b1 ⊢
    exact ⟨a1, b1, trivial⟩
  · simp [PyData.hasDict, PyData.hasDictAll]
  · simp only [PyData.intsShort, PyData.intsShortAll, Bool.and_eq_true] at a2 b2 ⊢
    exact ⟨a2, b2, trivial⟩
  · simp only [PyData.weight, PyData.weightAll] at a3 b3 ⊢
    omega
  · simp [PyData.canLay0, PyData.canLayAll0]
theorem sh_tk {t : Tk} {n : Nat} (hp : ∀ p, t.par = some p → p < 8) (h1 : Sh t.pay) (h2 : Sh t.fac) : (tkP t).showable = true ∧ (tkP t).hasDict = false ∧ (tkP t).intsShort 13 = true ∧ (tkP t).weight ≤ 220 ∧ (tkP t).canLay0 = true := by
  obtain ⟨a1, a2, a3, a4, a5⟩ := sh_fr h1
  obtain ⟨b1, b2, b3, b4, b5⟩ := sh_fr h2
  have hpp : (parP t.par).showable = true ∧ (parP t.par).hasDict = false ∧ (parP t.par).intsShort 13 = true ∧ (parP t.par).weight ≤ 41 ∧ (parP t.par).canLay0 = true := by
    cases hpar : t.par with
    | none => exact ⟨rfl, rfl, rfl, by simp [parP, PyData.weight], by simp [parP, PyData.canLay0]⟩
    | some p =>
      have := hp p hpar
      obtain ⟨c1, c2, c3⟩ := sh_int (i := (p : Int)) (by simp; omega)
      exact ⟨c1, by simp [parP, PyData.hasDict], c2, c3, by simp [parP, PyData.canLay0]⟩
  obtain ⟨c1, c2, c3, c4, c5⟩ := hpp
  unfold tkP
  refine ⟨?_, ?_, ?_, ?_, ?_⟩
  · simp only [PyData.showable, PyData.showableAll, a1, b1, c1, Bool.and_self]
  · simp only [PyData.hasDict, PyData.hasDictAll, a2, b2, c2, Bool.or_self]
  · simp only [PyData.intsShort, PyData.intsShortAll, a3, b3, c3, Bool.and_self]
  · simp only [PyData.weight, PyData.weightAll]
    omega
  · simp only [PyData.canLay0, PyData.canLayAll0, a5, b5, c5, Bool.and_self]
theorem sh_fo {F : List Tk} (ok : OkF F) (sh : ShF F) : (foP F).showable = true ∧ (foP F).hasDict = false ∧ (foP F).shown.length ≤ sizeLine := by
  have key : ∀ G : List Tk, (∀ t ∈ G, (∀ p, t.par = some p → p < 8) ∧ Sh t.pay ∧ Sh t.fac) →
      PyData.showableAll (G.map tkP) = true ∧ PyData.hasDictAll (G.map tkP) = false ∧ PyData.intsShortAll 13 (G.map tkP) = true ∧ PyData.weightAll (G.map tkP) ≤ 221 * G.length ∧ PyData.canLayAll0 (G.map tkP) = true := by
    intro G
    induction G with
    | nil => intro _; simp [PyData.showableAll, PyData.hasDictAll, PyData.intsShortAll, PyData.weightAll, PyData.canLayAll0]
    | cons t G ih =>
      intro h
      obtain ⟨h1, h2, h3⟩ := h t (List.mem_cons_self ..)
      obtain ⟨a1, a2, a3, a4, a5⟩ := sh_tk (n := 0) h1 h2 h3
      obtain ⟨b1, b2, b3, b4, b5⟩ := ih fun u hu => h u (List.mem_cons_of_mem _ hu)
      simp only [List.map_cons, PyData.showableAll, PyData.hasDictAll, PyData.intsShortAll, PyData.weightAll, PyData.canLayAll0, a1, a2, a3, a5, b1, b2, b3, b5, Bool.and_self, Bool.or_self, List.length_cons, true_and, and_true]
      omega
  obtain ⟨a1, a2, a3, a4, a5⟩ := key F fun t ht => by
    obtain ⟨i, hi, e⟩ := List.getElem_of_mem ht
    refine ⟨fun p hp => ?_, sh t ht⟩
    have := ok.par i t (by rw [List.getElem?_eq_getElem hi, e]) p hp
    have := ok.l8
    omega
  have hl8 := ok.l8
  have hd : (foP F).depth ≤ 20 := (pd_lay (S := fun _ => none) 20 _ _ (pd_fo F)).2
  refine ⟨by simp only [foP, PyData.showable]; exact a1, by simp only [foP, PyData.hasDict]; exact a2, ?_⟩
  refine PyData.shown_fits_of_layable0 (B := 13) (by decide) (by decide) ?_ (by simp only [foP, PyData.intsShort]; exact a3)
  unfold PyData.layable0
  have h1 : (foP F).canLay0 = true := by simp only [foP, PyData.canLay0]; exact a5
  have h2 : (foP F).weight ≤ 2 ^ 20 := by
    have : (2 : Nat) ^ 20 = 1048576 := by decide
    simp only [foP, PyData.weight]
    omega
  rw [h1, decide_eq_true (by omega : (foP F).depth ≤ 64), decide_eq_true h2]
  rfl
end LW

set_option maxRecDepth 100000
namespace LW
open PySem PySem.Spec PyProof.Rows L2 DL

theorem eqv_tup2 (a b c d : Int) : PyData.eqv (.tuple [.int a, .int b]) (.tuple [.int c, .int d]) = (a == c && (b == d && true)) := rfl
theorem eqv_fr (x y : Rat) : PyData.eqv (.tuple [.int x.num, .int x.den]) (.tuple [.int y.num, .int y.den]) = decide (x = y) := by
  rw [eqv_tup2, Bool.eq_iff_iff]
  simp only [Bool.and_true, Bool.and_eq_true, beq_iff_eq, decide_eq_true_eq]
  refine ⟨fun ⟨h1, h2⟩ => Rat.ext h1 (by omega), fun h => by rw [h]; exact ⟨rfl, rfl⟩⟩
theorem pd_fr {S : Sto} (x : Rat) : pd S 20 (fr x) = some (.tuple [.int x.num, .int x.den]) := rfl
theorem ne_fr {x y : Rat} (h : x = y) : (!PyData.eqv (.tuple [.int x.num, .int x.den]) (.tuple [.int y.num, .int y.den])) = false := by
  rw [eqv_fr, decide_eq_true h]
  rfl
theorem Pen.keep {S S' : Sto} {p c : Addr} {cells : List Int} {i : Int} (x : Pen S p c cells i) (f : Fr S S') : Pen S' p c cells i := x.fr f
theorem OL.keep {F : List Tk} {S0 S S' : Sto} {k : Nat} {A : Addr} {os : List (List Nat × Addr)} (h : OL F S0 k A os S) (f : Fr S S') : OL F S0 k A os S' :=
  ⟨h.pre, h.all, h.len, f.at h.at_, h.ne, fun o ho => ⟨f.at (h.eo o ho).1, (h.eo o ho).2⟩, h.fr.trans f⟩
theorem pd_orders {S : Sto} {A : Addr} {os : List (List Nat × Addr)} (h : S A = some (.lst (os.map fun o => .ref o.2))) (ho : ∀ o ∈ os, OrdS S o) : pd S 20 (.ref A) = some (.list (os.map fun o => .list (o.1.map fun (n : Nat) => PyData.int (n : Int)))) := by
  refine pd_lst h ?_
  have one : ∀ o : List Nat × Addr, OrdS S o → pd S 19 (.ref o.2) = some (.list (o.1.map fun (n : Nat) => PyData.int (n : Int))) := fun o h => by
    show (match S o.2 with | some (.lst ds) => (match pdAll (pd S 18) ds with | some ps => some (PyData.list ps) | none => none) | _ => none) = _
    rw [h]
    have := pdAll_ints S 18 (o.1.map Int.ofNat)
    rw [List.map_map, List.map_map] at this
    show (match pdAll (pd S 18) (o.1.map natD) with | some ps => some (PyData.list ps) | none => none) = _
    have e : pdAll (pd S 18) (o.1.map natD) = some (o.1.map fun (n : Nat) => PyData.int (n : Int)) := this
    rw [e]
  clear h
  induction os with
  | nil => rfl
  | cons o os ih =>
    show (match pd S 19 (.ref o.2), pdAll (pd S 19) (os.map fun o => .ref o.2) with | some p, some ps => some (p :: ps) | _, _ => none) = _
    rw [one o (ho o (List.mem_cons_self ..)), ih fun x hx => ho x (List.mem_cons_of_mem _ hx)]
    rfl
theorem eqv_nats (a b : List Nat) : PyData.eqv (.list (a.map fun (n : Nat) => PyData.int (n : Int))) (.list (b.map fun (n : Nat) => PyData.int (n : Int))) = decide (a = b) := by
  have := eqv_ints (a.map Int.ofNat) (b.map Int.ofNat)
  rw [List.map_map, List.map_map] at this
  refine Eq.trans this ?_
  rw [decide_eq_decide]
  refine ⟨fun h => ?_, fun h => by rw [h]⟩
  have h2 := congrArg (List.map Int.toNat) h
  rw [List.map_map, List.map_map] at h2
  have e : ∀ l : List Nat, l.map (Int.toNat ∘ Int.ofNat) = l := fun l => by
    conv => rhs; rw [← List.map_id l]
    rfl
  rwa [e, e] at h2
theorem orders_has {os : List (List Nat × Addr)} {l : List Nat} (h : ∃ o ∈ os, o.1 = l) : (!(os.map fun o => PyData.list (o.1.map fun (n : Nat) => PyData.int (n : Int))).any fun z => PyData.eqv z (.list (l.map fun (n : Nat) => PyData.int (n : Int)))) = false := by
  obtain ⟨o, ho, rfl⟩ := h
  have : ((os.map fun o => PyData.list (o.1.map fun (n : Nat) => PyData.int (n : Int))).any fun z => PyData.eqv z (.list (o.1.map fun (n : Nat) => PyData.int (n : Int)))) = true := by
    rw [List.any_eq_true]
    exact ⟨_, List.mem_map.mpr ⟨o, ho, rfl⟩, by rw [eqv_nats]; simp⟩
  rw [this]
  rfl
theorem best_max {F : List Tk} {S0 S : Sto} {A : Addr} {os : List (List Nat × Addr)} {l : List Nat} {m : Rat} (O : OL F S0 F.length A os S) (B : Best F l) (h : IsMax (os.map fun o => (runL F o.1).1) m) : (runL F l).1 = m := by
  obtain ⟨h1, h2⟩ := h
  obtain ⟨o, ho, e⟩ := List.mem_map.mp h1
  obtain ⟨p1, p2⟩ := O.pre o ho
  refine Rat.le_antisymm ?_ ?_
  · obtain ⟨o', ho', e'⟩ := O.all l B.pre B.len
    rw [← e']
    exact h2 _ (List.mem_map.mpr ⟨o', ho', rfl⟩)
  · rw [← e]
    exact B.top _ p1 p2
section
variable {S : Sto} {E : XD} {F : List Tk}
theorem law_ok {ns : List Int} : sp_law [.scr ns] S (fun d _ => d = .bl true) E := by
  have s2 : (2 : Nat) ≤ sizeLine := by decide
  have s3 : (3 : Nat) ≤ sizeLine := by decide
  have s1 : (1 : Nat) ≤ sizeLine := by decide
  refine ⟨rfl, g_pen fun p c S1 P f1 => ?_⟩
  refine ⟨s2, s2, s2, s3, s2, s2, s3, s2, s3, s3, s2, s2, s3, s1, ⟨(fun z => by cases z), by decide, by decide, by decide⟩, by decide, ?_⟩
  refine g_best_worth (F := F6) f6_ok fun l S2 B f2 => ?_
  rw [f6_best B]
  refine ⟨s2, _, _, rfl, rfl, ?_⟩
  refine g_best_order (F := F6) f6_ok fun l a S3 B f3 n3 h3 => ?_
  refine g_order_worth (F := F6) f6_ok B.pre B.len h3 fun S4 f4 => ?_
  rw [f6_best B]
  refine ⟨s2, _, _, rfl, rfl, ?_⟩
  have P4 := P.fr ((f2.trans f3).trans f4)
  refine g__law_forest P4 (by decide) (by decide) (by decide) fun F j S5 ok sh hl P5 hj f5 => ?_
  refine g_best_worth ok fun l1 S6 B1 f6 => ?_
  refine g__law_by_sets ok fun l2 S7 B2 f7 => ?_
  refine ⟨_, _, pd_fr _, pd_fr _, ?_⟩
  refine br_f (ne_fr (B1.uniq B2)) ?_
  refine g_best_order ok fun l3 a S8 B3 f8 n8 h8 => ?_
  refine g_order_worth ok B3.pre B3.len h8 fun S9 f9 => ?_
  refine g_best_worth ok fun l4 S10 B4 f10 => ?_
  refine ⟨_, _, pd_fr _, pd_fr _, ?_⟩
  refine br_f (ne_fr (B3.uniq B4)) ?_
  have P10 := P5.fr ((((f6.trans f7).trans f8).trans f9).trans f10)
  refine ⟨⟨by decide, by decide⟩, ?_⟩
  refine for_inv (fun k σ S' => ∃ x2 x3 x4 x5 x6 x7 x8 x9 x10 x11 x12 x13 x14 i, σ = [some (.scr ns), some (.ref p), x2, x3, x4, x5, x6, x7, x8, x9, x10, x11, x12, x13, x14] ∧ Pen S' p c (ns.take 60) i ∧ i ≤ 40 + 40 * k) (fun _ _ _ _ => trivial) ?_ ?_
    ⟨_, _, _, _, _, _, _, _, _, _, _, _, _, j, rfl, P10, by omega⟩
  · rintro k d σ T1 N hi ⟨x2, x3, x4, x5, x6, x7, x8, x9, x10, x11, x12, x13, x14, i, rfl, PT, hi2⟩ hN
    have hk : k < 4 := (range_get hi).1
    refine g__law_forest PT (by omega) (by decide) (by decide) fun F j S5 ok sh hl P5 hj f5 => ?_
    have l8 := ok.l8
    obtain ⟨r1, r2, r3⟩ := sh_fo ok sh
    refine ⟨_, pd_fo F, rfl, r1, r2, r3, ?_⟩
    refine g__law_orders ok fun os A T2 O => ?_
    have P2 := P5.fr O.fr
    have hF5 : F.length ≤ 5 := by omega
    have hos : os.length ≤ 8 ^ 5 := Nat.le_trans O.len (Nat.pow_le_pow_right (by decide) hF5)
    have hos2 : os.length ≤ 16000000 := Nat.le_trans hos (by decide)
    refine ⟨_, O.at_, lc_map (fun i d => match os[i]? with | some o => fr (runL F o.1).1 | none => d) (by rw [List.length_map]; exact hos2) O.at_ (fun i d M hi hM => ?_) fun p2 hp2 => ?_⟩
    · rw [List.getElem?_map] at hi
      cases ho : os[i]? with
      | none => rw [ho] at hi; cases hi
      | some o =>
        rw [ho] at hi hM
        cases hi
        have hom := List.mem_of_getElem? ho
        obtain ⟨q1, q2⟩ := O.pre o hom
        exact g__law_run ok (by omega) (fun x hx => q1.lt x hx) (O.eo o hom).1 ⟨_, rfl, hM⟩
    have em : ((os.map fun o => D.ref o.2).mapIdx fun i d => match os[i]? with | some o => fr (runL F o.1).1 | none => d) = (os.map fun o => (runL F o.1).1).map fr := by
      refine List.ext_getElem (by simp) fun i h1 h2 => ?_
      have hi : i < os.length := by simpa using h2
      simp [List.getElem?_eq_getElem hi]
    rw [em]
    have fr2 : Fr T2 _ := Fr.put (o := .lst ((os.map fun o => (runL F o.1).1).map fr)) hp2
    have O2 := O.keep fr2
    have P3 := P2.fr fr2
    have hne : (os.map fun o => (runL F o.1).1) ≠ [] := by
      obtain ⟨o, ho, _⟩ := O.all _ (pre_range ok.par F.length (Nat.le_refl _)) List.length_range
      cases os with
      | nil => simp at ho
      | cons _ _ => simp
    refine g__law_most sput_same hne (fun x hx => ?_) fun m hm => ?_
    · obtain ⟨o, ho, rfl⟩ := List.mem_map.mp hx
      obtain ⟨q1, q2⟩ := O.pre o ho
      exact (run_sz8 ok (l := o.1) (by omega)).1.mono (by decide)
    generalize sput T2 p2 (.lst ((os.map fun o => (runL F o.1).1).map fr)) = T3 at fr2 O2 P3 ⊢
    refine ⟨⟨by decide, by decide⟩, ?_⟩
    refine for_inv (fun kk σ S' => ∃ y2 y3 y4 y5 y10 y11 y12 y13 y14, σ = [some (.scr ns), some (.ref p), y2, y3, y4, y5, some (foD F), some (.str (foP F).shown), some (.ref A), some (fr m), y10, y11, y12, y13, y14] ∧ Pen S' p c (ns.take 60) j ∧ OL F S5 F.length A os S') (fun _ _ _ _ => trivial) ?_ ?_
      ⟨_, _, _, _, _, _, _, _, _, rfl, P3, O2⟩
    · rintro kk d σ U1 N2 hi3 ⟨y2, y3, y4, y5, y10, y11, y12, y13, y14, rfl, PU, OU⟩ hN2
      refine g_best_order ok fun l a U2 B f2 n2 h2 => ?_
      refine ⟨_, ty_lst h2, ?_⟩
      have OU2 := OU.keep f2
      have hin : ∃ o ∈ os, o.1 = l := OU.all l B.pre B.len
      have bm : (runL F l).1 = m := best_max OU B hm
      refine ⟨_, OU2.at_, _, _, pd_ord (f := (l, a)) h2, congrArg itemsP (pd_orders OU2.at_ fun o ho => (OU2.eo o ho).1), ?_⟩
      refine br_f (orders_has hin) ?_
      refine g_best_worth ok fun l2 U3 B2 f3 => ?_
      refine ⟨_, _, pd_fr _, pd_fr _, ?_⟩
      refine br_f (ne_fr (best_max OU B2 hm)) ?_
      have h3 := f3.at h2
      have ll : l.length ≤ 8 := by rw [B.len]; exact l8
      refine g__law_run ok ll (fun x hx => B.pre.lt x hx) h3 ?_
      refine ⟨_, rfl, _, _, pd_fr _, pd_fr _, ?_⟩
      refine br_f (ne_fr bm) ?_
      refine g_order_worth ok B.pre B.len h3 fun U4 f4 => ?_
      refine ⟨_, _, pd_fr _, pd_fr _, ?_⟩
      refine br_f (ne_fr bm) ?_
      have h4 := f4.at h3
      refine g_is_order ok B.pre B.len h4 fun U5 f5 => ?_
      have h5 := f5.at h4
      refine ⟨⟨_, h5⟩, _, h5, by rw [List.length_map]; show _ < 16777216; omega, ?_⟩
      have fa : Fr U1 (sput U5 a (.lst (l.map natD ++ [.non]))) := fun b nb => by
        rw [sput_ne (fun z => nb (by rw [z]; exact n2))]
        exact (((f2.trans f3).trans f4).trans f5) b nb
      exact hN2 _ _ ⟨_, _, _, _, _, _, _, _, _, rfl, PU.fr fa, OU.keep fa⟩
    · rintro σ U1 ⟨y2, y3, y4, y5, y10, y11, y12, y13, y14, rfl, PU, OU⟩
      refine ⟨_, pd_fo F, rfl, r1, r2, r3, ?_⟩
      refine br_f (b := !((foP F).shown == (foP F).shown)) (by simp) ?_
      exact hN _ _ ⟨_, _, _, _, _, _, _, _, _, _, _, _, _, j, rfl, PU, by omega⟩
  · rintro σ T1 ⟨x2, x3, x4, x5, x6, x7, x8, x9, x10, x11, x12, x13, x14, i, rfl, PT, hi2⟩
    refine ⟨⟨by decide, by decide⟩, ?_⟩
    refine lc_map (fun _ d => match d with
      | .int k => .tup [.non, .tup [.int k, .int 1], .tup [.int 1, .int 2]]
      | _ => .non) (by decide) trivial (fun i d N hi hN => ?_) fun p2 hp2 => ?_
    · obtain ⟨_, rfl⟩ := range_get hi
      exact ⟨s2, s2, s3, hN⟩
    · refine ⟨_, elems_lst sput_same, ?_⟩
      refine g_best_order (F := F8) f8_ok fun l a S3 B f3 n3 h3 => ?_
      rw [f8_best B] at h3
      refine ⟨by show 8 ≤ sizeLine; decide, fun p3 hp3 => ⟨_, _, pd_lst ((Fr.put hp3).at h3) rfl, pd_lst sput_same rfl, rfl⟩⟩
end
end LW

set_option maxRecDepth 100000
set_option maxHeartbeats 0
namespace LW
open PySem PySem.Spec PyProof.Rows L2 DL
theorem glob_tup2 {P : Program} {K : PySem.W.Frag} {w : World} {h : Heap} {mg : Str → Option Value} (X : K.In h) (G : h.Ns mainGlobals mg) {x : Str} {a : Addr} {i j : Int} {t u : Tok} {dd : Option Addr} {n : Nat} {sl : Array (Option Value)}
    (e : PySem.W.nsIn K mainGlobals x = some (some (.ref a))) (l : K.lookup a = some ⟨.type "tuple", dd, .seq #[.int i t, .int j u] n, sl⟩) : GlobD ⟨K, P, w⟩ mg x (.tup [.int i, .int j]) := by
  refine ⟨.ref a, .ref a, PySem.W.mg_of X G e, rfl, fun H => ?_⟩
  simp only [Rp]
  refine ⟨a, [.int i, .int j], rfl, .inr ⟨_, _, n, l, rfl, rfl, by show 2 ≤ sizeLine; decide, .cons ⟨t, rfl⟩ (.cons ⟨u, rfl⟩ .nil)⟩, ?_⟩
  exact (Rps.nil.cons (by simp only [Rp])).cons (by simp only [Rp])
theorem glob_int {P : Program} {K : PySem.W.Frag} {w : World} {h : Heap} {mg : Str → Option Value} (X : K.In h) (G : h.Ns mainGlobals mg) {x : Str} {i : Int} {t : Tok}
    (e : PySem.W.nsIn K mainGlobals x = some (some (.int i t))) : GlobD ⟨K, P, w⟩ mg x (.int i) := ⟨.int i t, .int i, PySem.W.mg_of X G e, ⟨t, rfl⟩, fun H => by simp only [Rp]⟩
theorem at_is_integer {K : PySem.W.Frag} {h : Heap} {mg : Str → Option Value} (X : K.In h) (G : h.Ns mainGlobals mg) {f : Addr} {od an : Option Addr} {sl : Array (Option Value)} {oc kV dc pm cd ct : Value}
    (a : PySem.W.nsIn K mainGlobals "is_integer" = some (some (.ref f))) (l : K.lookup f = some ⟨oc, od, .func (PySem.W.fnOf "is_integer" "is_integer" (defArgs s_is_integer) (defBody s_is_integer) (defScope s_is_integer) .none kV dc pm an cd ct), sl⟩) (c : PySem.W.codeIn K cd "is_integer" = true) (k : PySem.W.keepIn K (.ref f) = true) :
    DefAt K mg "is_integer" s_is_integer ["value"] := ⟨f, _, fun_mk (st := s_is_integer) l c k, (fun_mk (st := s_is_integer) l c k).binds (ps := ["value"]) fun _ _ _ _ _ _ us hl => match us, hl with | [_], _ => rfl, PySem.W.mg_of X G a⟩
theorem at_divisor_of {K : PySem.W.Frag} {h : Heap} {mg : Str → Option Value} (X : K.In h) (G : h.Ns mainGlobals mg) {f : Addr} {od an : Option Addr} {sl : Array (Option Value)} {oc kV dc pm cd ct : Value}
    (a : PySem.W.nsIn K mainGlobals "divisor_of" = some (some (.ref f))) (l : K.lookup f = some ⟨oc, od, .func (PySem.W.fnOf "divisor_of" "divisor_of" (defArgs s_divisor_of) (defBody s_divisor_of) (defScope s_divisor_of) .none kV dc pm an cd ct), sl⟩) (c : PySem.W.codeIn K cd "divisor_of" = true) (k : PySem.W.keepIn K (.ref f) = true) :
    DefAt K mg "divisor_of" s_divisor_of ["one", "other"] := ⟨f, _, fun_mk (st := s_divisor_of) l c k, (fun_mk (st := s_divisor_of) l c k).binds (ps := ["one", "other"]) fun _ _ _ _ _ _ us hl => match us, hl with | [_, _], _ => rfl, PySem.W.mg_of X G a⟩
theorem at_is_fraction {K : PySem.W.Frag} {h : Heap} {mg : Str → Option Value} (X : K.In h) (G : h.Ns mainGlobals mg) {f : Addr} {od an : Option Addr} {sl : Array (Option Value)} {oc kV dc pm cd ct : Value}
    (a : PySem.W.nsIn K mainGlobals "is_fraction" = some (some (.ref f))) (l : K.lookup f = some ⟨oc, od, .func (PySem.W.fnOf "is_fraction" "is_fraction" (defArgs s_is_fraction) (defBody s_is_fraction) (defScope s_is_fraction) .none kV dc pm an cd ct), sl⟩) (c : PySem.W.codeIn K cd "is_fraction" = true) (k : PySem.W.keepIn K (.ref f) = true) :
    DefAt K mg "is_fraction" s_is_fraction ["value"] := ⟨f, _, fun_mk (st := s_is_fraction) l c k, (fun_mk (st := s_is_fraction) l c k).binds (ps := ["value"]) fun _ _ _ _ _ _ us hl => match us, hl with | [_], _ => rfl, PySem.W.mg_of X G a⟩
theorem at_lowest {K : PySem.W.Frag} {h : Heap} {mg : Str → Option Value} (X : K.In h) (G : h.Ns mainGlobals mg) {f : Addr} {od an : Option Addr} {sl : Array (Option Value)} {oc kV dc pm cd ct : Value}
    (a : PySem.W.nsIn K mainGlobals "lowest" = some (some (.ref f))) (l : K.lookup f = some ⟨oc, od, .func (PySem.W.fnOf "lowest" "lowest" (defArgs s_lowest) (defBody s_lowest) (defScope s_lowest) .none kV dc pm an cd ct), sl⟩) (c : PySem.W.codeIn K cd "lowest" = true) (k : PySem.W.keepIn K (.ref f) = true) :
    DefAt K mg "lowest" s_lowest ["top", "bottom"] := ⟨f, _, fun_mk (st := s_lowest) l c k, (fun_mk (st := s_lowest) l c k).binds (ps := ["top", "bottom"]) fun _ _ _ _ _ _ us hl => match us, hl with | [_, _], _ => rfl, PySem.W.mg_of X G a⟩
theorem at_add {K : PySem.W.Frag} {h : Heap} {mg : Str → Option Value} (X : K.In h) (G : h.Ns mainGlobals mg) {f : Addr} {od an : Option Addr} {sl : Array (Option Value)} {oc kV dc pm cd ct : Value}
    (a : PySem.W.nsIn K mainGlobals "add" = some (some (.ref f))) (l : K.lookup f = some ⟨oc, od, .func (PySem.W.fnOf "add" "add" (defArgs s_add) (defBody s_add) (defScope s_add) .none kV dc pm an cd ct), sl⟩) (c : PySem.W.codeIn K cd "add" = true) (k : PySem.W.keepIn K (.ref f) = true) :
    DefAt K mg "add" s_add ["one", "other"] := ⟨f, _, fun_mk (st := s_add) l c k, (fun_mk (st := s_add) l c k).binds (ps := ["one", "other"]) fun _ _ _ _ _ _ us hl => match us, hl with | [_, _], _ => rfl, PySem.W.mg_of X G a⟩
theorem at_less {K : PySem.W.Frag} {h : Heap} {mg : Str → Option Value} (X : K.In h) (G : h.Ns mainGlobals mg) {f : Addr} {od an : Option Addr} {sl : Array (Option Value)} {oc kV dc pm cd ct : Value}
    (a : PySem.W.nsIn K mainGlobals "less" = some (some (.ref f))) (l : K.lookup f = some ⟨oc, od, .func (PySem.W.fnOf "less" "less" (defArgs s_less) (defBody s_less) (defScope s_less) .none kV dc pm an cd ct), sl⟩) (c : PySem.W.codeIn K cd "less" = true) (k : PySem.W.keepIn K (.ref f) = true) :
    DefAt K mg "less" s_less ["one", "other"] := ⟨f, _, fun_mk (st := s_less) l c k, (fun_mk (st := s_less) l c k).binds (ps := ["one", "other"]) fun _ _ _ _ _ _ us hl => match us, hl with | [_, _], _ => rfl, PySem.W.mg_of X G a⟩
theorem at_mul {K : PySem.W.Frag} {h : Heap} {mg : Str → Option Value} (X : K.In h) (G : h.Ns mainGlobals mg) {f : Addr} {od an : Option Addr} {sl : Array (Option Value)} {oc kV dc pm cd ct : Value}
    (a : PySem.W.nsIn K mainGlobals "mul" = some (some (.ref f))) (l : K.lookup f = some ⟨oc, od, .func (PySem.W.fnOf "mul" "mul" (defArgs s_mul) (defBody s_mul) (defScope s_mul) .none kV dc pm an cd ct), sl⟩) (c : PySem.W.codeIn K cd "mul" = true) (k : PySem.W.keepIn K (.ref f) = true) :
    DefAt K mg "mul" s_mul ["one", "other"] := ⟨f, _, fun_mk (st := s_mul) l c k, (fun_mk (st := s_mul) l c k).binds (ps := ["one", "other"]) fun _ _ _ _ _ _ us hl => match us, hl with | [_, _], _ => rfl, PySem.W.mg_of X G a⟩
theorem at_order_of {K : PySem.W.Frag} {h : Heap} {mg : Str → Option Value} (X : K.In h) (G : h.Ns mainGlobals mg) {f : Addr} {od an : Option Addr} {sl : Array (Option Value)} {oc kV dc pm cd ct : Value}
    (a : PySem.W.nsIn K mainGlobals "order_of" = some (some (.ref f))) (l : K.lookup f = some ⟨oc, od, .func (PySem.W.fnOf "order_of" "order_of" (defArgs s_order_of) (defBody s_order_of) (defScope s_order_of) .none kV dc pm an cd ct), sl⟩) (c : PySem.W.codeIn K cd "order_of" = true) (k : PySem.W.keepIn K (.ref f) = true) :
    DefAt K mg "order_of" s_order_of ["one", "other"] := ⟨f, _, fun_mk (st := s_order_of) l c k, (fun_mk (st := s_order_of) l c k).binds (ps := ["one", "other"]) fun _ _ _ _ _ _ us hl => match us, hl with | [_, _], _ => rfl, PySem.W.mg_of X G a⟩
theorem at_is_parent {K : PySem.W.Frag} {h : Heap} {mg : Str → Option Value} (X : K.In h) (G : h.Ns mainGlobals mg) {f : Addr} {od an : Option Addr} {sl : Array (Option Value)} {oc kV dc pm cd ct : Value}
    (a : PySem.W.nsIn K mainGlobals "is_parent" = some (some (.ref f))) (l : K.lookup f = some ⟨oc, od, .func (PySem.W.fnOf "is_parent" "is_parent" (defArgs s_is_parent) (defBody s_is_parent) (defScope s_is_parent) .none kV dc pm an cd ct), sl⟩) (c : PySem.W.codeIn K cd "is_parent" = true) (k : PySem.W.keepIn K (.ref f) = true) :
    DefAt K mg "is_parent" s_is_parent ["value", "number"] := ⟨f, _, fun_mk (st := s_is_parent) l c k, (fun_mk (st := s_is_parent) l c k).binds (ps := ["value", "number"]) fun _ _ _ _ _ _ us hl => match us, hl with | [_, _], _ => rfl, PySem.W.mg_of X G a⟩
theorem at_is_factor {K : PySem.W.Frag} {h : Heap} {mg : Str → Option Value} (X : K.In h) (G : h.Ns mainGlobals mg) {f : Addr} {od an : Option Addr} {sl : Array (Option Value)} {oc kV dc pm cd ct : Value}
    (a : PySem.W.nsIn K mainGlobals "is_factor" = some (some (.ref f))) (l : K.lookup f = some ⟨oc, od, .func (PySem.W.fnOf "is_factor" "is_factor" (defArgs s_is_factor) (defBody s_is_factor) (defScope s_is_factor) .none kV dc pm an cd ct), sl⟩) (c : PySem.W.codeIn K cd "is_factor" = true) (k : PySem.W.keepIn K (.ref f) = true) :
    DefAt K mg "is_factor" s_is_factor ["value"] := ⟨f, _, fun_mk (st := s_is_factor) l c k, (fun_mk (st := s_is_factor) l c k).binds (ps := ["value"]) fun _ _ _ _ _ _ us hl => match us, hl with | [_], _ => rfl, PySem.W.mg_of X G a⟩
theorem at_is_task {K : PySem.W.Frag} {h : Heap} {mg : Str → Option Value} (X : K.In h) (G : h.Ns mainGlobals mg) {f : Addr} {od an : Option Addr} {sl : Array (Option Value)} {oc kV dc pm cd ct : Value}
    (a : PySem.W.nsIn K mainGlobals "is_task" = some (some (.ref f))) (l : K.lookup f = some ⟨oc, od, .func (PySem.W.fnOf "is_task" "is_task" (defArgs s_is_task) (defBody s_is_task) (defScope s_is_task) .none kV dc pm an cd ct), sl⟩) (c : PySem.W.codeIn K cd "is_task" = true) (k : PySem.W.keepIn K (.ref f) = true) :
    DefAt K mg "is_task" s_is_task ["value", "number"] := ⟨f, _, fun_mk (st := s_is_task) l c k, (fun_mk (st := s_is_task) l c k).binds (ps := ["value", "number"]) fun _ _ _ _ _ _ us hl => match us, hl with | [_, _], _ => rfl, PySem.W.mg_of X G a⟩
theorem at_is_forest {K : PySem.W.Frag} {h : Heap} {mg : Str → Option Value} (X : K.In h) (G : h.Ns mainGlobals mg) {f : Addr} {od an : Option Addr} {sl : Array (Option Value)} {oc kV dc pm cd ct : Value}
    (a : PySem.W.nsIn K mainGlobals "is_forest" = some (some (.ref f))) (l : K.lookup f = some ⟨oc, od, .func (PySem.W.fnOf "is_forest" "is_forest" (defArgs s_is_forest) (defBody s_is_forest) (defScope s_is_forest) .none kV dc pm an cd ct), sl⟩) (c : PySem.W.codeIn K cd "is_forest" = true) (k : PySem.W.keepIn K (.ref f) = true) :
    DefAt K mg "is_forest" s_is_forest ["value"] := ⟨f, _, fun_mk (st := s_is_forest) l c k, (fun_mk (st := s_is_forest) l c k).binds (ps := ["value"]) fun _ _ _ _ _ _ us hl => match us, hl with | [_], _ => rfl, PySem.W.mg_of X G a⟩
theorem at_need_forest {K : PySem.W.Frag} {h : Heap} {mg : Str → Option Value} (X : K.In h) (G : h.Ns mainGlobals mg) {f : Addr} {od an : Option Addr} {sl : Array (Option Value)} {oc kV dc pm cd ct : Value}
    (a : PySem.W.nsIn K mainGlobals "need_forest" = some (some (.ref f))) (l : K.lookup f = some ⟨oc, od, .func (PySem.W.fnOf "need_forest" "need_forest" (defArgs s_need_forest) (defBody s_need_forest) (defScope s_need_forest) .none kV dc pm an cd ct), sl⟩) (c : PySem.W.codeIn K cd "need_forest" = true) (k : PySem.W.keepIn K (.ref f) = true) :
    DefAt K mg "need_forest" s_need_forest ["value"] := ⟨f, _, fun_mk (st := s_need_forest) l c k, (fun_mk (st := s_need_forest) l c k).binds (ps := ["value"]) fun _ _ _ _ _ _ us hl => match us, hl with | [_], _ => rfl, PySem.W.mg_of X G a⟩
theorem at_is_order {K : PySem.W.Frag} {h : Heap} {mg : Str → Option Value} (X : K.In h) (G : h.Ns mainGlobals mg) {f : Addr} {od an : Option Addr} {sl : Array (Option Value)} {oc kV dc pm cd ct : Value}
    (a : PySem.W.nsIn K mainGlobals "is_order" = some (some (.ref f))) (l : K.lookup f = some ⟨oc, od, .func (PySem.W.fnOf "is_order" "is_order" (defArgs s_is_order) (defBody s_is_order) (defScope s_is_order) .none kV dc pm an cd ct), sl⟩) (c : PySem.W.codeIn K cd "is_order" = true) (k : PySem.W.keepIn K (.ref f) = true) :
    DefAt K mg "is_order" s_is_order ["forest", "value"] := ⟨f, _, fun_mk (st := s_is_order) l c k, (fun_mk (st := s_is_order) l c k).binds (ps := ["forest", "value"]) fun _ _ _ _ _ _ us hl => match us, hl with | [_, _], _ => rfl, PySem.W.mg_of X G a⟩
theorem at_run_of {K : PySem.W.Frag} {h : Heap} {mg : Str → Option Value} (X : K.In h) (G : h.Ns mainGlobals mg) {f : Addr} {od an : Option Addr} {sl : Array (Option Value)} {oc kV dc pm cd ct : Value}
    (a : PySem.W.nsIn K mainGlobals "run_of" = some (some (.ref f))) (l : K.lookup f = some ⟨oc, od, .func (PySem.W.fnOf "run_of" "run_of" (defArgs s_run_of) (defBody s_run_of) (defScope s_run_of) .none kV dc pm an cd ct), sl⟩) (c : PySem.W.codeIn K cd "run_of" = true) (k : PySem.W.keepIn K (.ref f) = true) :
    DefAt K mg "run_of" s_run_of ["forest", "numbers"] := ⟨f, _, fun_mk (st := s_run_of) l c k, (fun_mk (st := s_run_of) l c k).binds (ps := ["forest", "numbers"]) fun _ _ _ _ _ _ us hl => match us, hl with | [_, _], _ => rfl, PySem.W.mg_of X G a⟩
theorem at_order_worth {K : PySem.W.Frag} {h : Heap} {mg : Str → Option Value} (X : K.In h) (G : h.Ns mainGlobals mg) {f : Addr} {od an : Option Addr} {sl : Array (Option Value)} {oc kV dc pm cd ct : Value}
    (a : PySem.W.nsIn K mainGlobals "order_worth" = some (some (.ref f))) (l : K.lookup f = some ⟨oc, od, .func (PySem.W.fnOf "order_worth" "order_worth" (defArgs s_order_worth) (defBody s_order_worth) (defScope s_order_worth) .none kV dc pm an cd ct), sl⟩) (c : PySem.W.codeIn K cd "order_worth" = true) (k : PySem.W.keepIn K (.ref f) = true) :
    DefAt K mg "order_worth" s_order_worth ["forest", "order"] := ⟨f, _, fun_mk (st := s_order_worth) l c k, (fun_mk (st := s_order_worth) l c k).binds (ps := ["forest", "order"]) fun _ _ _ _ _ _ us hl => match us, hl with | [_, _], _ => rfl, PySem.W.mg_of X G a⟩
theorem at_best_of {K : PySem.W.Frag} {h : Heap} {mg : Str → Option Value} (X : K.In h) (G : h.Ns mainGlobals mg) {f : Addr} {od an : Option Addr} {sl : Array (Option Value)} {oc kV dc pm cd ct : Value}
    (a : PySem.W.nsIn K mainGlobals "best_of" = some (some (.ref f))) (l : K.lookup f = some ⟨oc, od, .func (PySem.W.fnOf "best_of" "best_of" (defArgs s_best_of) (defBody s_best_of) (defScope s_best_of) .none kV dc pm an cd ct), sl⟩) (c : PySem.W.codeIn K cd "best_of" = true) (k : PySem.W.keepIn K (.ref f) = true) :
    DefAt K mg "best_of" s_best_of ["forest"] := ⟨f, _, fun_mk (st := s_best_of) l c k, (fun_mk (st := s_best_of) l c k).binds (ps := ["forest"]) fun _ _ _ _ _ _ us hl => match us, hl with | [_], _ => rfl, PySem.W.mg_of X G a⟩
theorem at_best_worth {K : PySem.W.Frag} {h : Heap} {mg : Str → Option Value} (X : K.In h) (G : h.Ns mainGlobals mg) {f : Addr} {od an : Option Addr} {sl : Array (Option Value)} {oc kV dc pm cd ct : Value}
    (a : PySem.W.nsIn K mainGlobals "best_worth" = some (some (.ref f))) (l : K.lookup f = some ⟨oc, od, .func (PySem.W.fnOf "best_worth" "best_worth" (defArgs s_best_worth) (defBody s_best_worth) (defScope s_best_worth) .none kV dc pm an cd ct), sl⟩) (c : PySem.W.codeIn K cd "best_worth" = true) (k : PySem.W.keepIn K (.ref f) = true) :
    DefAt K mg "best_worth" s_best_worth ["forest"] := ⟨f, _, fun_mk (st := s_best_worth) l c k, (fun_mk (st := s_best_worth) l c k).binds (ps := ["forest"]) fun _ _ _ _ _ _ us hl => match us, hl with | [_], _ => rfl, PySem.W.mg_of X G a⟩
theorem at_best_order {K : PySem.W.Frag} {h : Heap} {mg : Str → Option Value} (X : K.In h) (G : h.Ns mainGlobals mg) {f : Addr} {od an : Option Addr} {sl : Array (Option Value)} {oc kV dc pm cd ct : Value}
    (a : PySem.W.nsIn K mainGlobals "best_order" = some (some (.ref f))) (l : K.lookup f = some ⟨oc, od, .func (PySem.W.fnOf "best_order" "best_order" (defArgs s_best_order) (defBody s_best_order) (defScope s_best_order) .none kV dc pm an cd ct), sl⟩) (c : PySem.W.codeIn K cd "best_order" = true) (k : PySem.W.keepIn K (.ref f) = true) :
    DefAt K mg "best_order" s_best_order ["forest"] := ⟨f, _, fun_mk (st := s_best_order) l c k, (fun_mk (st := s_best_order) l c k).binds (ps := ["forest"]) fun _ _ _ _ _ _ us hl => match us, hl with | [_], _ => rfl, PySem.W.mg_of X G a⟩
theorem at__law_pen {K : PySem.W.Frag} {h : Heap} {mg : Str → Option Value} (X : K.In h) (G : h.Ns mainGlobals mg) {f : Addr} {od an : Option Addr} {sl : Array (Option Value)} {oc kV dc pm cd ct : Value}
    (a : PySem.W.nsIn K mainGlobals "_law_pen" = some (some (.ref f))) (l : K.lookup f = some ⟨oc, od, .func (PySem.W.fnOf "_law_pen" "_law_pen" (defArgs s__law_pen) (defBody s__law_pen) (defScope s__law_pen) .none kV dc pm an cd ct), sl⟩) (c : PySem.W.codeIn K cd "_law_pen" = true) (k : PySem.W.keepIn K (.ref f) = true) :
    DefAt K mg "_law_pen" s__law_pen ["_law_script"] := ⟨f, _, fun_mk (st := s__law_pen) l c k, (fun_mk (st := s__law_pen) l c k).binds (ps := ["_law_script"]) fun _ _ _ _ _ _ us hl => match us, hl with | [_], _ => rfl, PySem.W.mg_of X G a⟩
theorem at__law_next {K : PySem.W.Frag} {h : Heap} {mg : Str → Option Value} (X : K.In h) (G : h.Ns mainGlobals mg) {f : Addr} {od an : Option Addr} {sl : Array (Option Value)} {oc kV dc pm cd ct : Value}
    (a : PySem.W.nsIn K mainGlobals "_law_next" = some (some (.ref f))) (l : K.lookup f = some ⟨oc, od, .func (PySem.W.fnOf "_law_next" "_law_next" (defArgs s__law_next) (defBody s__law_next) (defScope s__law_next) .none kV dc pm an cd ct), sl⟩) (c : PySem.W.codeIn K cd "_law_next" = true) (k : PySem.W.keepIn K (.ref f) = true) :
    DefAt K mg "_law_next" s__law_next ["_law_pen_here"] := ⟨f, _, fun_mk (st := s__law_next) l c k, (fun_mk (st := s__law_next) l c k).binds (ps := ["_law_pen_here"]) fun _ _ _ _ _ _ us hl => match us, hl with | [_], _ => rfl, PySem.W.mg_of X G a⟩
theorem at__law_draw {K : PySem.W.Frag} {h : Heap} {mg : Str → Option Value} (X : K.In h) (G : h.Ns mainGlobals mg) {f : Addr} {od an : Option Addr} {sl : Array (Option Value)} {oc kV dc pm cd ct : Value}
    (a : PySem.W.nsIn K mainGlobals "_law_draw" = some (some (.ref f))) (l : K.lookup f = some ⟨oc, od, .func (PySem.W.fnOf "_law_draw" "_law_draw" (defArgs s__law_draw) (defBody s__law_draw) (defScope s__law_draw) .none kV dc pm an cd ct), sl⟩) (c : PySem.W.codeIn K cd "_law_draw" = true) (k : PySem.W.keepIn K (.ref f) = true) :
    DefAt K mg "_law_draw" s__law_draw ["_law_pen_here", "_law_under"] := ⟨f, _, fun_mk (st := s__law_draw) l c k, (fun_mk (st := s__law_draw) l c k).binds (ps := ["_law_pen_here", "_law_under"]) fun _ _ _ _ _ _ us hl => match us, hl with | [_, _], _ => rfl, PySem.W.mg_of X G a⟩
theorem at__law_low {K : PySem.W.Frag} {h : Heap} {mg : Str → Option Value} (X : K.In h) (G : h.Ns mainGlobals mg) {f : Addr} {od an : Option Addr} {sl : Array (Option Value)} {oc kV dc pm cd ct : Value}
    (a : PySem.W.nsIn K mainGlobals "_law_low" = some (some (.ref f))) (l : K.lookup f = some ⟨oc, od, .func (PySem.W.fnOf "_law_low" "_law_low" (defArgs s__law_low) (defBody s__law_low) (defScope s__law_low) .none kV dc pm an cd ct), sl⟩) (c : PySem.W.codeIn K cd "_law_low" = true) (k : PySem.W.keepIn K (.ref f) = true) :
    DefAt K mg "_law_low" s__law_low ["_law_top", "_law_bottom"] := ⟨f, _, fun_mk (st := s__law_low) l c k, (fun_mk (st := s__law_low) l c k).binds (ps := ["_law_top", "_law_bottom"]) fun _ _ _ _ _ _ us hl => match us, hl with | [_, _], _ => rfl, PySem.W.mg_of X G a⟩
theorem at__law_add {K : PySem.W.Frag} {h : Heap} {mg : Str → Option Value} (X : K.In h) (G : h.Ns mainGlobals mg) {f : Addr} {od an : Option Addr} {sl : Array (Option Value)} {oc kV dc pm cd ct : Value}
    (a : PySem.W.nsIn K mainGlobals "_law_add" = some (some (.ref f))) (l : K.lookup f = some ⟨oc, od, .func (PySem.W.fnOf "_law_add" "_law_add" (defArgs s__law_add) (defBody s__law_add) (defScope s__law_add) .none kV dc pm an cd ct), sl⟩) (c : PySem.W.codeIn K cd "_law_add" = true) (k : PySem.W.keepIn K (.ref f) = true) :
    DefAt K mg "_law_add" s__law_add ["_law_one", "_law_other"] := ⟨f, _, fun_mk (st := s__law_add) l c k, (fun_mk (st := s__law_add) l c k).binds (ps := ["_law_one", "_law_other"]) fun _ _ _ _ _ _ us hl => match us, hl with | [_, _], _ => rfl, PySem.W.mg_of X G a⟩
theorem at__law_mul {K : PySem.W.Frag} {h : Heap} {mg : Str → Option Value} (X : K.In h) (G : h.Ns mainGlobals mg) {f : Addr} {od an : Option Addr} {sl : Array (Option Value)} {oc kV dc pm cd ct : Value}
    (a : PySem.W.nsIn K mainGlobals "_law_mul" = some (some (.ref f))) (l : K.lookup f = some ⟨oc, od, .func (PySem.W.fnOf "_law_mul" "_law_mul" (defArgs s__law_mul) (defBody s__law_mul) (defScope s__law_mul) .none kV dc pm an cd ct), sl⟩) (c : PySem.W.codeIn K cd "_law_mul" = true) (k : PySem.W.keepIn K (.ref f) = true) :
    DefAt K mg "_law_mul" s__law_mul ["_law_one", "_law_other"] := ⟨f, _, fun_mk (st := s__law_mul) l c k, (fun_mk (st := s__law_mul) l c k).binds (ps := ["_law_one", "_law_other"]) fun _ _ _ _ _ _ us hl => match us, hl with | [_, _], _ => rfl, PySem.W.mg_of X G a⟩
theorem at__law_less {K : PySem.W.Frag} {h : Heap} {mg : Str → Option Value} (X : K.In h) (G : h.Ns mainGlobals mg) {f : Addr} {od an : Option Addr} {sl : Array (Option Value)} {oc kV dc pm cd ct : Value}
    (a : PySem.W.nsIn K mainGlobals "_law_less" = some (some (.ref f))) (l : K.lookup f = some ⟨oc, od, .func (PySem.W.fnOf "_law_less" "_law_less" (defArgs s__law_less) (defBody s__law_less) (defScope s__law_less) .none kV dc pm an cd ct), sl⟩) (c : PySem.W.codeIn K cd "_law_less" = true) (k : PySem.W.keepIn K (.ref f) = true) :
    DefAt K mg "_law_less" s__law_less ["_law_one", "_law_other"] := ⟨f, _, fun_mk (st := s__law_less) l c k, (fun_mk (st := s__law_less) l c k).binds (ps := ["_law_one", "_law_other"]) fun _ _ _ _ _ _ us hl => match us, hl with | [_, _], _ => rfl, PySem.W.mg_of X G a⟩
theorem at__law_most {K : PySem.W.Frag} {h : Heap} {mg : Str → Option Value} (X : K.In h) (G : h.Ns mainGlobals mg) {f : Addr} {od an : Option Addr} {sl : Array (Option Value)} {oc kV dc pm cd ct : Value}
    (a : PySem.W.nsIn K mainGlobals "_law_most" = some (some (.ref f))) (l : K.lookup f = some ⟨oc, od, .func (PySem.W.fnOf "_law_most" "_law_most" (defArgs s__law_most) (defBody s__law_most) (defScope s__law_most) .none kV dc pm an cd ct), sl⟩) (c : PySem.W.codeIn K cd "_law_most" = true) (k : PySem.W.keepIn K (.ref f) = true) :
    DefAt K mg "_law_most" s__law_most ["_law_some"] := ⟨f, _, fun_mk (st := s__law_most) l c k, (fun_mk (st := s__law_most) l c k).binds (ps := ["_law_some"]) fun _ _ _ _ _ _ us hl => match us, hl with | [_], _ => rfl, PySem.W.mg_of X G a⟩
theorem at__law_pay {K : PySem.W.Frag} {h : Heap} {mg : Str → Option Value} (X : K.In h) (G : h.Ns mainGlobals mg) {f : Addr} {od an : Option Addr} {sl : Array (Option Value)} {oc kV dc pm cd ct : Value}
    (a : PySem.W.nsIn K mainGlobals "_law_pay" = some (some (.ref f))) (l : K.lookup f = some ⟨oc, od, .func (PySem.W.fnOf "_law_pay" "_law_pay" (defArgs s__law_pay) (defBody s__law_pay) (defScope s__law_pay) .none kV dc pm an cd ct), sl⟩) (c : PySem.W.codeIn K cd "_law_pay" = true) (k : PySem.W.keepIn K (.ref f) = true) :
    DefAt K mg "_law_pay" s__law_pay ["_law_pen_here"] := ⟨f, _, fun_mk (st := s__law_pay) l c k, (fun_mk (st := s__law_pay) l c k).binds (ps := ["_law_pen_here"]) fun _ _ _ _ _ _ us hl => match us, hl with | [_], _ => rfl, PySem.W.mg_of X G a⟩
theorem at__law_factor {K : PySem.W.Frag} {h : Heap} {mg : Str → Option Value} (X : K.In h) (G : h.Ns mainGlobals mg) {f : Addr} {od an : Option Addr} {sl : Array (Option Value)} {oc kV dc pm cd ct : Value}
    (a : PySem.W.nsIn K mainGlobals "_law_factor" = some (some (.ref f))) (l : K.lookup f = some ⟨oc, od, .func (PySem.W.fnOf "_law_factor" "_law_factor" (defArgs s__law_factor) (defBody s__law_factor) (defScope s__law_factor) .none kV dc pm an cd ct), sl⟩) (c : PySem.W.codeIn K cd "_law_factor" = true) (k : PySem.W.keepIn K (.ref f) = true) :
    DefAt K mg "_law_factor" s__law_factor ["_law_pen_here"] := ⟨f, _, fun_mk (st := s__law_factor) l c k, (fun_mk (st := s__law_factor) l c k).binds (ps := ["_law_pen_here"]) fun _ _ _ _ _ _ us hl => match us, hl with | [_], _ => rfl, PySem.W.mg_of X G a⟩
theorem at__law_forest {K : PySem.W.Frag} {h : Heap} {mg : Str → Option Value} (X : K.In h) (G : h.Ns mainGlobals mg) {f : Addr} {od an : Option Addr} {sl : Array (Option Value)} {oc kV dc pm cd ct : Value}
    (a : PySem.W.nsIn K mainGlobals "_law_forest" = some (some (.ref f))) (l : K.lookup f = some ⟨oc, od, .func (PySem.W.fnOf "_law_forest" "_law_forest" (defArgs s__law_forest) (defBody s__law_forest) (defScope s__law_forest) .none kV dc pm an cd ct), sl⟩) (c : PySem.W.codeIn K cd "_law_forest" = true) (k : PySem.W.keepIn K (.ref f) = true) :
    DefAt K mg "_law_forest" s__law_forest ["_law_pen_here", "_law_most_here"] := ⟨f, _, fun_mk (st := s__law_forest) l c k, (fun_mk (st := s__law_forest) l c k).binds (ps := ["_law_pen_here", "_law_most_here"]) fun _ _ _ _ _ _ us hl => match us, hl with | [_, _], _ => rfl, PySem.W.mg_of X G a⟩
theorem at__law_orders {K : PySem.W.Frag} {h : Heap} {mg : Str → Option Value} (X : K.In h) (G : h.Ns mainGlobals mg) {f : Addr} {od an : Option Addr} {sl : Array (Option Value)} {oc kV dc pm cd ct : Value}
    (a : PySem.W.nsIn K mainGlobals "_law_orders" = some (some (.ref f))) (l : K.lookup f = some ⟨oc, od, .func (PySem.W.fnOf "_law_orders" "_law_orders" (defArgs s__law_orders) (defBody s__law_orders) (defScope s__law_orders) .none kV dc pm an cd ct), sl⟩) (c : PySem.W.codeIn K cd "_law_orders" = true) (k : PySem.W.keepIn K (.ref f) = true) :
    DefAt K mg "_law_orders" s__law_orders ["_law_forest_here"] := ⟨f, _, fun_mk (st := s__law_orders) l c k, (fun_mk (st := s__law_orders) l c k).binds (ps := ["_law_forest_here"]) fun _ _ _ _ _ _ us hl => match us, hl with | [_], _ => rfl, PySem.W.mg_of X G a⟩
theorem at__law_run {K : PySem.W.Frag} {h : Heap} {mg : Str → Option Value} (X : K.In h) (G : h.Ns mainGlobals mg) {f : Addr} {od an : Option Addr} {sl : Array (Option Value)} {oc kV dc pm cd ct : Value}
    (a : PySem.W.nsIn K mainGlobals "_law_run" = some (some (.ref f))) (l : K.lookup f = some ⟨oc, od, .func (PySem.W.fnOf "_law_run" "_law_run" (defArgs s__law_run) (defBody s__law_run) (defScope s__law_run) .none kV dc pm an cd ct), sl⟩) (c : PySem.W.codeIn K cd "_law_run" = true) (k : PySem.W.keepIn K (.ref f) = true) :
    DefAt K mg "_law_run" s__law_run ["_law_forest_here", "_law_order"] := ⟨f, _, fun_mk (st := s__law_run) l c k, (fun_mk (st := s__law_run) l c k).binds (ps := ["_law_forest_here", "_law_order"]) fun _ _ _ _ _ _ us hl => match us, hl with | [_, _], _ => rfl, PySem.W.mg_of X G a⟩
theorem at__law_by_sets {K : PySem.W.Frag} {h : Heap} {mg : Str → Option Value} (X : K.In h) (G : h.Ns mainGlobals mg) {f : Addr} {od an : Option Addr} {sl : Array (Option Value)} {oc kV dc pm cd ct : Value}
    (a : PySem.W.nsIn K mainGlobals "_law_by_sets" = some (some (.ref f))) (l : K.lookup f = some ⟨oc, od, .func (PySem.W.fnOf "_law_by_sets" "_law_by_sets" (defArgs s__law_by_sets) (defBody s__law_by_sets) (defScope s__law_by_sets) .none kV dc pm an cd ct), sl⟩) (c : PySem.W.codeIn K cd "_law_by_sets" = true) (k : PySem.W.keepIn K (.ref f) = true) :
    DefAt K mg "_law_by_sets" s__law_by_sets ["_law_forest_here"] := ⟨f, _, fun_mk (st := s__law_by_sets) l c k, (fun_mk (st := s__law_by_sets) l c k).binds (ps := ["_law_forest_here"]) fun _ _ _ _ _ _ us hl => match us, hl with | [_], _ => rfl, PySem.W.mg_of X G a⟩
theorem at_law {K : PySem.W.Frag} {h : Heap} {mg : Str → Option Value} (X : K.In h) (G : h.Ns mainGlobals mg) {f : Addr} {od an : Option Addr} {sl : Array (Option Value)} {oc kV dc pm cd ct : Value}
    (a : PySem.W.nsIn K mainGlobals "law" = some (some (.ref f))) (l : K.lookup f = some ⟨oc, od, .func (PySem.W.fnOf "law" "law" (defArgs s_law) (defBody s_law) (defScope s_law) .none kV dc pm an cd ct), sl⟩) (c : PySem.W.codeIn K cd "law" = true) (k : PySem.W.keepIn K (.ref f) = true) :
    DefAt K mg "law" s_law ["_law_script"] := ⟨f, _, fun_mk (st := s_law) l c k, (fun_mk (st := s_law) l c k).binds (ps := ["_law_script"]) fun _ _ _ _ _ _ us hl => match us, hl with | [_], _ => rfl, PySem.W.mg_of X G a⟩
theorem all_ok {P : Program} {w : World} {K : PySem.W.Frag} {mg : Str → Option Value} {base : Heap} (d_is_integer : DefAt K mg "is_integer" s_is_integer ["value"]) (d_divisor_of : DefAt K mg "divisor_of" s_divisor_of ["one", "other"]) (d_is_fraction : DefAt K mg "is_fraction" s_is_fraction ["value"]) (d_lowest : DefAt K mg "lowest" s_lowest ["top", "bottom"]) (d_add : DefAt K mg "add" s_add ["one", "other"]) (d_less : DefAt K mg "less" s_less ["one", "other"]) (d_mul : DefAt K mg "mul" s_mul ["one", "other"]) (d_order_of : DefAt K mg "order_of" s_order_of ["one", "other"]) (d_is_parent : DefAt K mg "is_parent" s_is_parent ["value", "number"]) (d_is_factor : DefAt K mg "is_factor" s_is_factor ["value"]) (d_is_task : DefAt K mg "is_task" s_is_task ["value", "number"]) (d_is_forest : DefAt K mg "is_forest" s_is_forest ["value"]) (d_need_forest : DefAt K mg "need_forest" s_need_forest ["value"]) (d_is_order : DefAt K mg "is_order" s_is_order ["forest", "value"]) (d_run_of : DefAt K mg "run_of" s_run_of ["forest", "numbers"]) (d_order_worth : DefAt K mg "order_worth" s_order_worth ["forest", "order"]) (d_best_of : DefAt K mg "best_of" s_best_of ["forest"]) (d_best_worth : DefAt K mg "best_worth" s_best_worth ["forest"]) (d_best_order : DefAt K mg "best_order" s_best_order ["forest"]) (d__law_pen : DefAt K mg "_law_pen" s__law_pen ["_law_script"]) (d__law_next : DefAt K mg "_law_next" s__law_next ["_law_pen_here"]) (d__law_draw : DefAt K mg "_law_draw" s__law_draw ["_law_pen_here", "_law_under"]) (d__law_low : DefAt K mg "_law_low" s__law_low ["_law_top", "_law_bottom"]) (d__law_add : DefAt K mg "_law_add" s__law_add ["_law_one", "_law_other"]) (d__law_mul : DefAt K mg "_law_mul" s__law_mul ["_law_one", "_law_other"]) (d__law_less : DefAt K mg "_law_less" s__law_less ["_law_one", "_law_other"]) (d__law_most : DefAt K mg "_law_most" s__law_most ["_law_some"]) (d__law_pay : DefAt K mg "_law_pay" s__law_pay ["_law_pen_here"]) (d__law_factor : DefAt K mg "_law_factor" s__law_factor ["_law_pen_here"]) (d__law_forest : DefAt K mg "_law_forest" s__law_forest ["_law_pen_here", "_law_most_here"]) (d__law_orders : DefAt K mg "_law_orders" s__law_orders ["_law_forest_here"]) (d__law_run : DefAt K mg "_law_run" s__law_run ["_law_forest_here", "_law_order"]) (d__law_by_sets : DefAt K mg "_law_by_sets" s__law_by_sets ["_law_forest_here"]) (d_law : DefAt K mg "law" s_law ["_law_script"]) (m_abs : mg "abs" = none) (m_all : mg "all" = none) (m_bool : mg "bool" = none) (m_enumerate : mg "enumerate" = none) (m_int : mg "int" = none) (m_isinstance : mg "isinstance" = none) (m_len : mg "len" = none) (m_list : mg "list" = none) (m_range : mg "range" = none) (m_repr : mg "repr" = none) (m_sorted : mg "sorted" = none) (m_tuple : mg "tuple" = none) (g_MOST_TASKS : GlobD ⟨K, P, w⟩ mg "MOST_TASKS" G_MOST_TASKS) (g_NOUGHT : GlobD ⟨K, P, w⟩ mg "NOUGHT" G_NOUGHT) (g_WHOLE : GlobD ⟨K, P, w⟩ mg "WHOLE" G_WHOLE) : FnD P w K mg base 9 "law" sp_law := by
  have F_is_integer : FnD P w K mg base 1 "is_integer" sp_is_integer := ok_is_integer d_is_integer m_bool m_int m_isinstance
  have F_divisor_of : FnD P w K mg base 1 "divisor_of" sp_divisor_of := ok_divisor_of d_divisor_of m_abs
  have F_is_fraction : FnD P w K mg base 2 "is_fraction" sp_is_fraction := ok_is_fraction d_is_fraction (F_divisor_of.mono (by decide)) (F_is_integer.mono (by decide)) m_isinstance m_len m_tuple
  have F_lowest : FnD P w K mg base 2 "lowest" sp_lowest := ok_lowest d_lowest (F_divisor_of.mono (by decide))
  have F_add : FnD P w K mg base 3 "add" sp_add := ok_add d_add (F_lowest.mono (by decide))
  have F_less : FnD P w K mg base 3 "less" sp_less := ok_less d_less (F_lowest.mono (by decide))
  have F_mul : FnD P w K mg base 3 "mul" sp_mul := ok_mul d_mul (F_lowest.mono (by decide))
  have F_order_of : FnD P w K mg base 1 "order_of" sp_order_of := ok_order_of d_order_of m_int
  have F_is_parent : FnD P w K mg base 2 "is_parent" sp_is_parent := ok_is_parent d_is_parent (F_is_integer.mono (by decide))
  have F_is_factor : FnD P w K mg base 3 "is_factor" sp_is_factor := ok_is_factor d_is_factor (F_is_fraction.mono (by decide))
  have F_is_task : FnD P w K mg base 4 "is_task" sp_is_task := ok_is_task d_is_task (F_is_factor.mono (by decide)) (F_is_fraction.mono (by decide)) (F_is_parent.mono (by decide)) m_isinstance m_len m_tuple
  have F_is_forest : FnD P w K mg base 5 "is_forest" sp_is_forest := ok_is_forest d_is_forest (F_is_task.mono (by decide)) m_all m_enumerate m_isinstance m_len m_tuple g_MOST_TASKS
  have F_need_forest : FnD P w K mg base 6 "need_forest" sp_need_forest := ok_need_forest d_need_forest (F_is_forest.mono (by decide))
  have F_is_order : FnD P w K mg base 7 "is_order" sp_is_order := ok_is_order d_is_order (F_is_integer.mono (by decide)) (F_need_forest.mono (by decide)) m_all m_enumerate m_isinstance m_len m_list m_range m_sorted
  have F_run_of : FnD P w K mg base 4 "run_of" sp_run_of := ok_run_of d_run_of (F_add.mono (by decide)) (F_less.mono (by decide)) (F_mul.mono (by decide)) g_NOUGHT g_WHOLE
  have F_order_worth : FnD P w K mg base 8 "order_worth" sp_order_worth := ok_order_worth d_order_worth (F_is_order.mono (by decide)) (F_run_of.mono (by decide))
  have F_best_of : FnD P w K mg base 4 "best_of" sp_best_of := ok_best_of d_best_of (F_add.mono (by decide)) (F_mul.mono (by decide)) (F_order_of.mono (by decide)) m_enumerate m_len m_list m_range m_sorted m_tuple g_NOUGHT g_WHOLE
  have F_best_worth : FnD P w K mg base 7 "best_worth" sp_best_worth := ok_best_worth d_best_worth (F_best_of.mono (by decide)) (F_need_forest.mono (by decide))
  have F_best_order : FnD P w K mg base 7 "best_order" sp_best_order := ok_best_order d_best_order (F_best_of.mono (by decide)) (F_need_forest.mono (by decide))
  have F__law_pen : FnD P w K mg base 1 "_law_pen" sp__law_pen := ok__law_pen d__law_pen m_list
  have F__law_next : FnD P w K mg base 1 "_law_next" sp__law_next := ok__law_next d__law_next m_int m_len
  have F__law_draw : FnD P w K mg base 2 "_law_draw" sp__law_draw := ok__law_draw d__law_draw (F__law_next.mono (by decide)) m_int
  have F__law_low : FnD P w K mg base 1 "_law_low" sp__law_low := ok__law_low d__law_low m_abs
  have F__law_add : FnD P w K mg base 2 "_law_add" sp__law_add := ok__law_add d__law_add (F__law_low.mono (by decide))
  have F__law_mul : FnD P w K mg base 2 "_law_mul" sp__law_mul := ok__law_mul d__law_mul (F__law_low.mono (by decide))
  have F__law_less : FnD P w K mg base 1 "_law_less" sp__law_less := ok__law_less d__law_less
  have F__law_most : FnD P w K mg base 2 "_law_most" sp__law_most := ok__law_most d__law_most (F__law_less.mono (by decide))
  have F__law_pay : FnD P w K mg base 3 "_law_pay" sp__law_pay := ok__law_pay d__law_pay (F__law_draw.mono (by decide))
  have F__law_factor : FnD P w K mg base 3 "_law_factor" sp__law_factor := ok__law_factor d__law_factor (F__law_draw.mono (by decide))
  have F__law_forest : FnD P w K mg base 4 "_law_forest" sp__law_forest := ok__law_forest d__law_forest (F__law_draw.mono (by decide)) (F__law_factor.mono (by decide)) (F__law_pay.mono (by decide)) m_range m_tuple
  have F__law_orders : FnD P w K mg base 1 "_law_orders" sp__law_orders := ok__law_orders d__law_orders m_len m_range
  have F__law_run : FnD P w K mg base 3 "_law_run" sp__law_run := ok__law_run d__law_run (F__law_add.mono (by decide)) (F__law_mul.mono (by decide))
  have F__law_by_sets : FnD P w K mg base 3 "_law_by_sets" sp__law_by_sets := ok__law_by_sets d__law_by_sets (F__law_add.mono (by decide)) (F__law_less.mono (by decide)) (F__law_mul.mono (by decide)) m_enumerate m_len m_range m_sorted m_tuple
  have F_law : FnD P w K mg base 9 "law" sp_law := ok_law d_law (F__law_by_sets.mono (by decide)) (F__law_forest.mono (by decide)) (F__law_most.mono (by decide)) (F__law_orders.mono (by decide)) (F__law_pen.mono (by decide)) (F__law_run.mono (by decide)) (F_best_order.mono (by decide)) (F_best_worth.mono (by decide)) (F_is_order.mono (by decide)) (F_order_worth.mono (by decide)) m_isinstance m_list m_range m_repr m_tuple
  exact F_law
end LW
open PySem PySem.W PyProof.Rows
set_option maxRecDepth 100000 in
set_option maxHeartbeats 0 in
theorem PySem.Challenge.cw_onenumber_k54_best_orders_holds : PySem.Challenge.rw_onenumber_k54_best_orders.Holds := by
  w_on; o_law; k_head; (case hw => w_witness2)
  k_fill
  refine DL.walkD (l := PySem.Challenge.rw_onenumber_k54_best_orders) (n := 63) (k := 9) (sp := LW.sp_law) rfl (by decide) rfl ⟨rfl, by decide, by decide⟩ ?F (fun ns S _ _ => LW.law_ok)
  case F =>
    intro w mg fa h Y G hmg
    have KX := PySem.W.kIn_of Y
    refine ⟨_, KX, fun base _ _ => ?_⟩
    refine' LW.all_ok (LW.at_is_integer KX G ?a0 ?l0 ?c0 ?k0) (LW.at_divisor_of KX G ?a1 ?l1 ?c1 ?k1) (LW.at_is_fraction KX G ?a2 ?l2 ?c2 ?k2) (LW.at_lowest KX G ?a3 ?l3 ?c3 ?k3) (LW.at_add KX G ?a4 ?l4 ?c4 ?k4) (LW.at_less KX G ?a5 ?l5 ?c5 ?k5) (LW.at_mul KX G ?a6 ?l6 ?c6 ?k6) (LW.at_order_of KX G ?a7 ?l7 ?c7 ?k7) (LW.at_is_parent KX G ?a8 ?l8 ?c8 ?k8) (LW.at_is_factor KX G ?a9 ?l9 ?c9 ?k9) (LW.at_is_task KX G ?a10 ?l10 ?c10 ?k10) (LW.at_is_forest KX G ?a11 ?l11 ?c11 ?k11) (LW.at_need_forest KX G ?a12 ?l12 ?c12 ?k12) (LW.at_is_order KX G ?a13 ?l13 ?c13 ?k13) (LW.at_run_of KX G ?a14 ?l14 ?c14 ?k14) (LW.at_order_worth KX G ?a15 ?l15 ?c15 ?k15) (LW.at_best_of KX G ?a16 ?l16 ?c16 ?k16) (LW.at_best_worth KX G ?a17 ?l17 ?c17 ?k17) (LW.at_best_order KX G ?a18 ?l18 ?c18 ?k18) (LW.at__law_pen KX G ?a19 ?l19 ?c19 ?k19) (LW.at__law_next KX G ?a20 ?l20 ?c20 ?k20) (LW.at__law_draw KX G ?a21 ?l21 ?c21 ?k21) (LW.at__law_low KX G ?a22 ?l22 ?c22 ?k22) (LW.at__law_add KX G ?a23 ?l23 ?c23 ?k23) (LW.at__law_mul KX G ?a24 ?l24 ?c24 ?k24) (LW.at__law_less KX G ?a25 ?l25 ?c25 ?k25) (LW.at__law_most KX G ?a26 ?l26 ?c26 ?k26) (LW.at__law_pay KX G ?a27 ?l27 ?c27 ?k27) (LW.at__law_factor KX G ?a28 ?l28 ?c28 ?k28) (LW.at__law_forest KX G ?a29 ?l29 ?c29 ?k29) (LW.at__law_orders KX G ?a30 ?l30 ?c30 ?k30) (LW.at__law_run KX G ?a31 ?l31 ?c31 ?k31) (LW.at__law_by_sets KX G ?a32 ?l32 ?c32 ?k32) (LW.at_law KX G ?a33 ?l33 ?c33 ?k33) (PySem.W.mg_none_of KX G ?z0) (PySem.W.mg_none_of KX G ?z1) (PySem.W.mg_none_of KX G ?z2) (PySem.W.mg_none_of KX G ?z3) (PySem.W.mg_none_of KX G ?z4) (PySem.W.mg_none_of KX G ?z5) (PySem.W.mg_none_of KX G ?z6) (PySem.W.mg_none_of KX G ?z7) (PySem.W.mg_none_of KX G ?z8) (PySem.W.mg_none_of KX G ?z9) (PySem.W.mg_none_of KX G ?z10) (PySem.W.mg_none_of KX G ?z11) (LW.glob_int KX G ?ga0) (LW.glob_tup2 KX G ?ga1 ?gl1) (LW.glob_tup2 KX G ?ga2 ?gl2)
    (case a0 => k_is)
    (case l0 => k_is)
    (case c0 => k_is)
    (case k0 => k_is)
    (case a1 => k_is)
    (case l1 => k_is)
    (case c1 => k_is)
    (case k1 => k_is)
    (case a2 => k_is)
    (case l2 => k_is)
    (case c2 => k_is)
    (case k2 => k_is)
    (case a3 => k_is)
    (case l3 => k_is)
    (case c3 => k_is)
    (case k3 => k_is)
    (case a4 => k_is)
    (case l4 => k_is)
    (case c4 => k_is)
    (case k4 => k_is)
    (case a5 => k_is)
    (case l5 => k_is)
    (case c5 => k_is)
    (case k5 => k_is)
    (case a6 => k_is)
    (case l6 => k_is)
    (case c6 => k_is)
    (case k6 => k_is)
    (case a7 => k_is)
    (case l7 => k_is)
    (case c7 => k_is)
    (case k7 => k_is)
    (case a8 => k_is)
    (case l8 => k_is)
    (case c8 => k_is)
    (case k8 => k_is)
    (case a9 => k_is)
    (case l9 => k_is)
    (case c9 => k_is)
    (case k9 => k_is)
    (case a10 => k_is)
    (case l10 => k_is)
    (case c10 => k_is)
    (case k10 => k_is)
    (case a11 => k_is)
    (case l11 => k_is)
    (case c11 => k_is)
    (case k11 => k_is)
    (case a12 => k_is)
    (case l12 => k_is)
    (case c12 => k_is)
    (case k12 => k_is)
    (case a13 => k_is)
    (case l13 => k_is)
    (case c13 => k_is)
    (case k13 => k_is)
    (case a14 => k_is)
    (case l14 => k_is)
    (case c14 => k_is)
    (case k14 => k_is)
    (case a15 => k_is)
    (case l15 => k_is)
    (case c15 => k_is)
    (case k15 => k_is)
    (case a16 => k_is)
    (case l16 => k_is)
    (case c16 => k_is)
    (case k16 => k_is)
    (case a17 => k_is)
    (case l17 => k_is)
    (case c17 => k_is)
    (case k17 => k_is)
    (case a18 => k_is)
    (case l18 => k_is)
    (case c18 => k_is)
    (case k18 => k_is)
    (case a19 => k_is)
    (case l19 => k_is)
    (case c19 => k_is)
    (case k19 => k_is)
    (case a20 => k_is)
    (case l20 => k_is)
    (case c20 => k_is)
    (case k20 => k_is)
    (case a21 => k_is)
    (case l21 => k_is)
    (case c21 => k_is)
    (case k21 => k_is)
    (case a22 => k_is)
    (case l22 => k_is)
    (case c22 => k_is)
    (case k22 => k_is)
    (case a23 => k_is)
    (case l23 => k_is)
    (case c23 => k_is)
    (case k23 => k_is)
    (case a24 => k_is)
    (case l24 => k_is)
    (case c24 => k_is)
    (case k24 => k_is)
    (case a25 => k_is)
    (case l25 => k_is)
    (case c25 => k_is)
    (case k25 => k_is)
    (case a26 => k_is)
    (case l26 => k_is)
    (case c26 => k_is)
    (case k26 => k_is)
    (case a27 => k_is)
    (case l27 => k_is)
    (case c27 => k_is)
    (case k27 => k_is)
    (case a28 => k_is)
    (case l28 => k_is)
    (case c28 => k_is)
    (case k28 => k_is)
    (case a29 => k_is)
    (case l29 => k_is)
    (case c29 => k_is)
    (case k29 => k_is)
    (case a30 => k_is)
    (case l30 => k_is)
    (case c30 => k_is)
    (case k30 => k_is)
    (case a31 => k_is)
    (case l31 => k_is)
    (case c31 => k_is)
    (case k31 => k_is)
    (case a32 => k_is)
    (case l32 => k_is)
    (case c32 => k_is)
    (case k32 => k_is)
    (case a33 => k_is)
    (case l33 => k_is)
    (case c33 => k_is)
    (case k33 => k_is)
    (case z0 => k_is)
    (case z1 => k_is)
    (case z2 => k_is)
    (case z3 => k_is)
    (case z4 => k_is)
    (case z5 => k_is)
    (case z6 => k_is)
    (case z7 => k_is)
    (case z8 => k_is)
    (case z9 => k_is)
    (case z10 => k_is)
    (case z11 => k_is)
    (case ga0 => k_is)
    (case ga1 => k_is)
    (case gl1 => k_is)
    (case ga2 => k_is)
    (case gl2 => k_is)
#print axioms PySem.Challenge.cw_onenumber_k54_best_orders_holds
