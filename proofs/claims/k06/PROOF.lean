import PyProof.Rows.All
import Wide.All
import OpenK.AllK
import Wide.FinOn
import HandS.ForMost
import HandS.ForExc
import HandS.Wide
import HandS.CallSlots
import HandS.Defaults
import HandS.Lambda
import HandS.IsInst
import HandS.Deep
import HandS.Style
import PyProof.StrOps2
import HandS.Star
import HandS.ExcIs
import HandS.ExcValue
import HandS.ExcOwn
import HandS.ExcField
import KE.KTryMore
import KE.KExcInit
import HandS.HeadHook2
import HandS.TupAny
import HandS.SetFor
import HandS.SortInts
import HandS.StrMore
import HandS.Zip
import KE.KIndexOf
import KE.GoesEnum
import KE.DataMinMax
import KE.KRevSl
import KE.GoesMore
import KE.GoesZip
import HandS.ReCall
import HandS.EndBits
import HandS.Head2
import KE.KNestM
import PyProof.StrLawsRepr
import PySem.Challenge.RW_cuspfloor_k06_errors_of_matrices
set_option Elab.async false
set_option linter.all false
set_option maxRecDepth 100000
namespace Tw
open PySem PySem.Spec PyProof.Rows L2

/-- a value that never changes, as a tree -/
inductive T where
  | non | bl (b : Bool) | int (i : Int) | str (x : Str) | ty (n : String) | glb (x : Str)
  | tup (xs : List T) | lst (xs : List T) | emp | scr (ns : List Int) | exc (c : Str) | exc1 (c f : Str) (x : T)

/-- what a name may hold: a tree, or the i-th changeable object -/
inductive W where
  | t (x : T) | ref (i : Nat) | tw (ws : List (T ⊕ Nat))
def W.ofS : T ⊕ Nat → W
  | .inl x => .t x
  | .inr i => .ref i

/-- a changeable object -/
inductive MO where
  | dead | lst (xs : List T) | dK (kvs : List (Key × T)) | dT (kvs : List (List Key × T))
def MO.live : MO → Bool
  | .dead => false
  | _ => true

abbrev Sto := List MO
abbrev Env := List (Option W)

/-- an exception's object, tracked -/
def exH (a : Addr) (cls : Value) (d : Option Addr) : HO := .ext fun h => ∃ oe vs, h.get? a = some oe ∧ Zc cls d oe ∧ oe.data = .fields vs

/-- a tuple known to have no dict of its own -/
def SqD (K : PySem.W.Frag) (H : Hp) (a : Addr) (xs : List V) : Prop :=
  (∃ o : Obj, o.dict = none ∧ H a = some (.frz o (.tup xs))) ∨
    ∃ (o : Obj) (its : Array Value) (n : Nat), o.dict = none ∧ K.lookup a = some o ∧ o.cls = .type "tuple" ∧ o.data = .seq its n ∧ its.size ≤ sizeLine ∧ Vals xs its.toList
abbrev tObj (us : List Value) : Obj := { cls := .type "tuple", data := .seq us.toArray }
section
variable (K : PySem.W.Frag) (mg : Str → Option Value) (F : Hp)
mutual
def RT : T → V → Prop
  | .non, v => v = .non
  | .bl b, v => v = .bl b
  | .int i, v => v = .int i
  | .str x, v => v = .str x
  | .ty n, v => v = .ty n
  | .glb x, v => ∃ a, v = .ref a ∧ mg x = some (.ref a)
  | .tup xs, v => ∃ a vs, v = .ref a ∧ SqD K F a vs ∧ RTs xs vs
  | .lst xs, v => ∃ a vs, v = .ref a ∧ F a = some (.lst vs) ∧ RTs xs vs
  | .emp, v => ∃ a, v = .ref a ∧ F a = some (.dK [])
  | .scr ns, v => ∃ a, v = .ref a ∧ SqL K F a (ns.map V.int)
  | .exc c, v => ∃ a C, v = .ref a ∧ mg c = some (.ref C) ∧ F a = some (exH a (.ref C) none)
  | .exc1 c f x, v => ∃ a C d y, v = .ref a ∧ mg c = some (.ref C) ∧ F a = some (exH a (.ref C) (some d)) ∧ F d = some (.xd [(f, y)]) ∧ RT x y
def RTs : List T → List V → Prop
  | [], vs => vs = []
  | x :: xs, vs => ∃ v r, vs = v :: r ∧ RT x v ∧ RTs xs r
end
end

/-- an exception as it is raised: its class, its dict -/
def RX (K : PySem.W.Frag) (mg : Str → Option Value) (F : Hp) : T → Value → Option Addr → Prop
  | .exc c, cls, d => ∃ C, cls = .ref C ∧ mg c = some (.ref C) ∧ d = none
  | .exc1 c f x, cls, d => ∃ C dd y, cls = .ref C ∧ mg c = some (.ref C) ∧ d = some dd ∧ F dd = some (.xd [(f, y)]) ∧ RT K mg F x y
  | _, _, _ => False

section
variable {K : PySem.W.Frag} {mg : Str → Option Value} {F F' : Hp}
theorem Same.sqT {H H' : Hp} {a : Addr} {xs : List V} (e : Same H H') (h : SqT K H a xs) : SqT K H' a xs := by
  rcases h with (h | ⟨o, h⟩) | h
  · exact .inl (.inl (e _ _ h))
  · exact .inl (.inr ⟨o, e _ _ h⟩)
  · exact .inr h
theorem SqD.t {H : Hp} {a : Addr} {xs : List V} (h : SqD K H a xs) : SqT K H a xs := by
  rcases h with ⟨o, _, h⟩ | ⟨o, its, n, _, h⟩
  · exact .inl (.inr ⟨o, h⟩)
  · exact .inr ⟨o, its, n, h⟩
theorem Same.seqD {H H' : Hp} {a : Addr} {xs : List V} (e : Same H H') (h : SqD K H a xs) : SqD K H' a xs := by
  rcases h with ⟨o, d, h⟩ | h
  · exact .inl ⟨o, d, e _ _ h⟩
  · exact .inr h
theorem Same.seqT {H H' : Hp} {a : Addr} {xs : List V} (e : Same H H') (h : SqD K H a xs) : SqT K H' a xs := Same.sqT e h.t
theorem SqD.of {H : Hp} {a : Addr} {o : Obj} {xs : List V} (d : o.dict = none) (h : H a = some (.frz o (.tup xs))) : SqD K H a xs := .inl ⟨o, d, h⟩
mutual
theorem RT.mono (s : Same F F') : ∀ (x : T) (v : V), RT K mg F x v → RT K mg F' x v
  | .non, v, h => by unfold RT at h ⊢; exact h
  | .bl b, v, h => by unfold RT at h ⊢; exact h
  | .int i, v, h => by unfold RT at h ⊢; exact h
  | .str x, v, h => by unfold RT at h ⊢; exact h
  | .ty n, v, h => by unfold RT at h ⊢; exact h
  | .glb x, v, h => by unfold RT at h ⊢; exact h
  | .tup xs, v, h => by
    unfold RT at h ⊢
    obtain ⟨a, vs, e, q, r⟩ := h
    exact ⟨a, vs, e, Same.seqD s q, RTs.mono s xs vs r⟩
  | .lst xs, v, h => by
    unfold RT at h ⊢
    obtain ⟨a, vs, e, q, r⟩ := h
    exact ⟨a, vs, e, s _ _ q, RTs.mono s xs vs r⟩
  | .scr ns, v, h => by
    unfold RT at h ⊢
    obtain ⟨a, e, q⟩ := h
    exact ⟨a, e, s.seq q⟩
  | .emp, v, h => by
    unfold RT at h ⊢
    obtain ⟨a, e, q⟩ := h
    exact ⟨a, e, s _ _ q⟩
  | .exc c, v, h => by
    unfold RT at h ⊢
    obtain ⟨a, C, e, q, z⟩ := h
    exact ⟨a, C, e, q, s _ _ z⟩
  | .exc1 c f x, v, h => by
    unfold RT at h ⊢
    obtain ⟨a, C, d, y, e, q, z, z2, r⟩ := h
    exact ⟨a, C, d, y, e, q, s _ _ z, s _ _ z2, RT.mono s x y r⟩
theorem RTs.mono (s : Same F F') : ∀ (xs : List T) (vs : List V), RTs K mg F xs vs → RTs K mg F' xs vs
  | [], vs, h => by unfold RTs at h ⊢; exact h
  | x :: xs, vs, h => by
    unfold RTs at h ⊢
    obtain ⟨v, r, e, h1, h2⟩ := h
    exact ⟨v, r, e, RT.mono s x v h1, RTs.mono s xs r h2⟩
end
theorem RX.mono (s : Same F F') : ∀ (x : T) (c : Value) (d : Option Addr), RX K mg F x c d → RX K mg F' x c d
  | .exc c, _, _, h => h
  | .exc1 c f x, _, _, h => by
    obtain ⟨C, dd, y, e, q, z, z2, r⟩ := h
    exact ⟨C, dd, y, e, q, z, s _ _ z2, RT.mono s x y r⟩
  | .non, _, _, h => h.elim
  | .bl _, _, _, h => h.elim
  | .int _, _, _, h => h.elim
  | .str _, _, _, h => h.elim
  | .ty _, _, _, h => h.elim
  | .glb _, _, _, h => h.elim
  | .tup _, _, _, h => h.elim
  | .lst _, _, _, h => h.elim
  | .emp, _, _, h => h.elim
  | .scr _, _, _, h => h.elim

theorem rts_nil {vs : List V} : RTs K mg F [] vs ↔ vs = [] := by rw [RTs]
theorem rts_cons {x : T} {xs : List T} {vs : List V} : RTs K mg F (x :: xs) vs ↔ ∃ v r, vs = v :: r ∧ RT K mg F x v ∧ RTs K mg F xs r := by rw [RTs]
theorem RTs.cons {x : T} {xs : List T} {v : V} {vs : List V} (h : RT K mg F x v) (r : RTs K mg F xs vs) : RTs K mg F (x :: xs) (v :: vs) := rts_cons.mpr ⟨v, vs, rfl, h, r⟩
theorem RTs.length : ∀ {xs : List T} {vs : List V}, RTs K mg F xs vs → vs.length = xs.length
  | [], vs, h => by rw [rts_nil.mp h]; rfl
  | x :: xs, vs, h => by
    obtain ⟨v, r, rfl, _, h2⟩ := rts_cons.mp h
    rw [List.length_cons, List.length_cons, RTs.length h2]
theorem RTs.append : ∀ {xs ys : List T} {vs ws : List V}, RTs K mg F xs vs → RTs K mg F ys ws → RTs K mg F (xs ++ ys) (vs ++ ws)
  | [], ys, vs, ws, h, h' => by rw [rts_nil.mp h]; exact h'
  | x :: xs, ys, vs, ws, h, h' => by
    obtain ⟨v, r, rfl, h1, h2⟩ := rts_cons.mp h
    exact RTs.cons h1 (RTs.append h2 h')
theorem RTs.get : ∀ {xs : List T} {vs : List V} {i : Nat} {x : T}, RTs K mg F xs vs → xs[i]? = some x → ∃ v, vs[i]? = some v ∧ RT K mg F x v
  | [], _, _, _, _, e => by simp at e
  | y :: xs, vs, i, x, h, e => by
    obtain ⟨v, r, rfl, h1, h2⟩ := rts_cons.mp h
    cases i with
    | zero =>
      have e' : y = x := by simpa using e
      subst e'
      exact ⟨v, rfl, h1⟩
    | succ i =>
      obtain ⟨u, e1, e2⟩ := RTs.get (i := i) h2 (by simpa using e)
      exact ⟨u, by simpa using e1, e2⟩
theorem RTs.set : ∀ {xs : List T} {vs : List V} {x : T} {v : V} (i : Nat), RT K mg F x v → RTs K mg F xs vs → RTs K mg F (xs.set i x) (vs.set i v)
  | [], vs, x, v, i, h, r => by
    have e := rts_nil.mp r
    subst e
    exact rts_nil.mpr rfl
  | y :: xs, vs, x, v, i, h, r => by
    obtain ⟨u, q, rfl, h1, h2⟩ := rts_cons.mp r
    cases i with
    | zero => exact RTs.cons h h2
    | succ i => exact RTs.cons h1 (RTs.set i h h2)
theorem RTs.take : ∀ {xs : List T} {vs : List V} (n : Nat), RTs K mg F xs vs → RTs K mg F (xs.take n) (vs.take n)
  | [], vs, n, r => by
    have e := rts_nil.mp r
    subst e
    rw [List.take_nil, List.take_nil]
    exact rts_nil.mpr rfl
  | y :: xs, vs, n, r => by
    obtain ⟨u, q, rfl, h1, h2⟩ := rts_cons.mp r
    cases n with
    | zero => exact rts_nil.mpr rfl
    | succ n => exact RTs.cons h1 (RTs.take n h2)
theorem RTs.drop : ∀ {xs : List T} {vs : List V} (n : Nat), RTs K mg F xs vs → RTs K mg F (xs.drop n) (vs.drop n)
  | [], vs, n, r => by
    have e := rts_nil.mp r
    subst e
    rw [List.drop_nil, List.drop_nil]
    exact rts_nil.mpr rfl
  | y :: xs, vs, n, r => by
    obtain ⟨u, q, rfl, h1, h2⟩ := rts_cons.mp r
    cases n with
    | zero => exact RTs.cons h1 h2
    | succ n => exact RTs.drop n h2
theorem RTs.of_get : ∀ {xs : List T} {vs : List V}, vs.length = xs.length → (∀ (i : Nat) (x : T) (v : V), xs[i]? = some x → vs[i]? = some v → RT K mg F x v) → RTs K mg F xs vs
  | [], vs, l, h => rts_nil.mpr (List.length_eq_zero_iff.mp l)
  | x :: xs, [], l, h => by simp at l
  | x :: xs, v :: vs, l, h => RTs.cons (h 0 x v rfl rfl) (RTs.of_get (by simpa using l) fun i y u e1 e2 => h (i + 1) y u (by simpa using e1) (by simpa using e2))
end

def RW0 (K : PySem.W.Frag) (mg : Str → Option Value) (μ : List Addr) (F : Hp) : T ⊕ Nat → V → Prop
  | .inl x, v => RT K mg F x v
  | .inr i, v => ∃ a, μ[i]? = some a ∧ v = .ref a
def RWl (K : PySem.W.Frag) (mg : Str → Option Value) (μ : List Addr) (F : Hp) : List (T ⊕ Nat) → List V → Prop
  | [], vs => vs = []
  | w :: ws, vs => ∃ v r, vs = v :: r ∧ RW0 K mg μ F w v ∧ RWl K mg μ F ws r
def RW (K : PySem.W.Frag) (mg : Str → Option Value) (μ : List Addr) (F : Hp) : W → V → Prop
  | .t x, v => RT K mg F x v
  | .ref i, v => ∃ a, μ[i]? = some a ∧ v = .ref a
  | .tw ws, v => ∃ a vs, v = .ref a ∧ SqD K F a vs ∧ RWl K mg μ F ws vs
def MOk (K : PySem.W.Frag) (mg : Str → Option Value) (F H : Hp) (a : Addr) : MO → Prop
  | .dead => True
  | .lst xs => ∃ vs, H a = some (.lst vs) ∧ RTs K mg F xs vs
  | .dK kvs => ∃ vs, H a = some (.dK vs) ∧ vs.map (·.1) = kvs.map (·.1) ∧ RTs K mg F (kvs.map (·.2)) (vs.map (·.2))
  | .dT kvs => ∃ vs, H a = some (.dT vs) ∧ vs.map (·.1) = kvs.map (·.1) ∧ RTs K mg F (kvs.map (·.2)) (vs.map (·.2))
/-- the tables of code objects: each code object of K has one, its lambdas bear the name -/
def tabsOf (K : PySem.W.Frag) : List (Addr × Str) := K.filterMap fun p => match p.2.cls, p.2.data with
  | .type "code", .fields vs => (match (vs[11]? : Option Value), (vs[1]? : Option Value) with
    | some (.ref P), some (.str n _) => some (P, n ++ ".<locals>." ++ "<lambda>")
    | _, _ => none)
  | _, _ => none
def TabF (F H : Hp) (P : Addr) (q : Str) : Prop := F P = none ∧ ∃ ps : Array Value, H P = some (.tbl ps) ∧ TriplesOk ps.toList ∧ ∀ (pos : Pos) (cv : Value), codeAmong pos ps.toList = some cv → ∃ c, cv = .ref c ∧ F c = some (LamX.CodeO c q)
structure Rel (K : PySem.W.Frag) (mg : Str → Option Value) (μ : List Addr) (F : Hp) (σ : L2.St) (H : Hp) (env : Env) (S : Sto) : Prop where
  len : μ.length = S.length
  sub : Same F H
  off : ∀ (i : Nat) (a : Addr) (m : MO), μ[i]? = some a → S[i]? = some m → m.live = true → F a = none
  inj : ∀ (i j : Nat) (a : Addr) (m n : MO), μ[i]? = some a → μ[j]? = some a → S[i]? = some m → S[j]? = some n → m.live = true → n.live = true → i = j
  sto : ∀ (i : Nat) (a : Addr) (m : MO), μ[i]? = some a → S[i]? = some m → MOk K mg F H a m
  elen : σ.length = env.length
  env : ∀ (i : Nat) (w : W), env[i]? = some (some w) → ∃ v, σ[i]? = some (some v) ∧ RW K mg μ F w v
  tab : ∀ p ∈ tabsOf K, TabF F H p.1 p.2
  ft : ∀ (b : Addr) (ps : Array Value), F b ≠ some (.tbl ps)
/-- more objects -/
structure Ext (μ : List Addr) (F : Hp) (μ' : List Addr) (F' : Hp) : Prop where
  pre : ∀ (i : Nat) (a : Addr), μ[i]? = some a → μ'[i]? = some a
  same : Same F F'
/-- new frozen objects alone -/
structure Step (F H F' H' : Hp) : Prop where
  f : Same F F'
  h : Same H H'
  sub : Same F' H'
  old : ∀ b, H b ≠ none → F' b = F b
  ft : (∀ (b : Addr) (ps : Array Value), F b ≠ some (.tbl ps)) → ∀ (b : Addr) (ps : Array Value), F' b ≠ some (.tbl ps)

section
variable {K : PySem.W.Frag} {mg : Str → Option Value} {μ μ' μ2 : List Addr} {F F' F2 H H' H2 : Hp} {σ : L2.St} {env : Env} {S : Sto}
theorem Ext.refl : Ext μ F μ F := ⟨fun _ _ h => h, Same.refl _⟩
theorem Ext.trans (a : Ext μ F μ' F') (b : Ext μ' F' μ2 F2) : Ext μ F μ2 F2 := ⟨fun i x h => b.pre i x (a.pre i x h), a.same.trans b.same⟩
theorem RW0.ext (e : Ext μ F μ' F') : ∀ {w : T ⊕ Nat} {v : V}, RW0 K mg μ F w v → RW0 K mg μ' F' w v
  | .inl x, v, h => RT.mono e.same x v h
  | .inr i, v, ⟨a, h, q⟩ => ⟨a, e.pre i a h, q⟩
theorem RWl.ext (e : Ext μ F μ' F') : ∀ {ws : List (T ⊕ Nat)} {vs : List V}, RWl K mg μ F ws vs → RWl K mg μ' F' ws vs
  | [], _, h => h
  | _ :: _, _, ⟨v, r, h1, h2, h3⟩ => ⟨v, r, h1, h2.ext e, RWl.ext e h3⟩
theorem RW.ext (e : Ext μ F μ' F') : ∀ {w : W} {v : V}, RW K mg μ F w v → RW K mg μ' F' w v
  | .t x, v, h => RT.mono e.same x v h
  | .ref i, v, ⟨a, h, q⟩ => ⟨a, e.pre i a h, q⟩
  | .tw ws, v, ⟨a, vs, h, q, r⟩ => ⟨a, vs, h, Same.seqD e.same q, r.ext e⟩
theorem Step.refl (s : Same F H) : Step F H F H := ⟨Same.refl _, Same.refl _, s, fun _ _ => rfl, fun h => h⟩
theorem Step.trans (a : Step F H F' H') (b : Step F' H' F2 H2) : Step F H F2 H2 := ⟨a.f.trans b.f, a.h.trans b.h, b.sub, (fun c hc => by
  rw [b.old c, a.old c hc]
  intro z
  cases q : H c with
  | none => exact hc q
  | some o =>
    rw [a.h c o q] at z
    cases z), fun h => b.ft (a.ft h)⟩
theorem TabF.step (s : Step F H F' H') {P : Addr} {q : Str} (t : TabF F H P q) : TabF F' H' P q := by
  obtain ⟨h0, ps, h1, h2, h3⟩ := t
  refine ⟨?_, ps, s.h _ _ h1, h2, fun pos cv hc => ?_⟩
  · rw [s.old P (by rw [h1]; simp)]
    exact h0
  · obtain ⟨c, e1, e2⟩ := h3 pos cv hc
    exact ⟨c, e1, s.f _ _ e2⟩
theorem TabF.at {P : Addr} {q : Str} (t : TabF F H P q) (p1 : F' P = F P) (p2 : H' P = H P) (sm : Same F F') : TabF F' H' P q := by
  obtain ⟨h0, ps, h1, h2, h3⟩ := t
  refine ⟨by rw [p1]; exact h0, ps, by rw [p2]; exact h1, h2, fun pos cv hc => ?_⟩
  obtain ⟨c, e1, e2⟩ := h3 pos cv hc
  exact ⟨c, e1, sm _ _ e2⟩
theorem TabF.ne {P a : Addr} {q : Str} (t : TabF F H P q) (h : ∀ ps, H a ≠ some (.tbl ps)) : P ≠ a := fun z => by
  obtain ⟨h0, ps, h1, h2, h3⟩ := t
  exact h ps (by rw [← z]; exact h1)
theorem Step.ext (s : Step F H F' H') : Ext μ F μ F' := ⟨fun _ _ h => h, s.f⟩
theorem MOk.step (s : Step F H F' H') {a : Addr} : ∀ {m : MO}, MOk K mg F H a m → MOk K mg F' H' a m
  | .dead, _ => trivial
  | .lst xs, ⟨vs, h, r⟩ => ⟨vs, s.h _ _ h, RTs.mono s.f _ _ r⟩
  | .dK kvs, ⟨vs, h, e, r⟩ => ⟨vs, s.h _ _ h, e, RTs.mono s.f _ _ r⟩
  | .dT kvs, ⟨vs, h, e, r⟩ => ⟨vs, s.h _ _ h, e, RTs.mono s.f _ _ r⟩
theorem MOk.there {a : Addr} : ∀ {m : MO}, MOk K mg F H a m → m.live = true → H a ≠ none
  | .dead, _, h => by cases h
  | .lst xs, ⟨vs, h, r⟩, _ => by rw [h]; simp
  | .dK kvs, ⟨vs, h, e, r⟩, _ => by rw [h]; simp
  | .dT kvs, ⟨vs, h, e, r⟩, _ => by rw [h]; simp
theorem MOk.ntbl {a : Addr} : ∀ {m : MO}, MOk K mg F H a m → m.live = true → ∀ ps, H a ≠ some (.tbl ps)
  | .dead, _, h => by cases h
  | .lst xs, ⟨vs, h, r⟩, _ => by rw [h]; simp
  | .dK kvs, ⟨vs, h, e, r⟩, _ => by rw [h]; simp
  | .dT kvs, ⟨vs, h, e, r⟩, _ => by rw [h]; simp
theorem Rel.step (R : Rel K mg μ F σ H env S) (s : Step F H F' H') : Rel K mg μ F' σ H' env S where
  tab := fun p hp => (R.tab p hp).step s
  ft := s.ft R.ft
  len := R.len
  sub := s.sub
  off := fun i a m h1 h2 h3 => by
    rw [s.old a (MOk.there (R.sto i a m h1 h2) h3)]
    exact R.off i a m h1 h2 h3
  inj := R.inj
  sto := fun i a m h1 h2 => (R.sto i a m h1 h2).step s
  elen := R.elen
  env := fun i w h => by
    obtain ⟨v, e, r⟩ := R.env i w h
    exact ⟨v, e, r.ext s.ext⟩
/-- a new frozen object -/
theorem Step.new {p : Addr} {o : HO} (s : Same F H) (hp : H p = none) (ho : ∀ ps, o ≠ .tbl ps := by intro ps h; first | cases h | (unfold exH at h; cases h) | exact absurd h (by simp)) : Step F H (upd F p o) (upd H p o) where
  ft := fun h b ps => by
    by_cases hb : b = p
    · rw [hb, upd_same]
      exact fun z => ho ps (Option.some.inj z)
    · rw [upd_ne hb]
      exact h b ps
  f := fun b u e => by
    have hb : b ≠ p := fun z => by
      rw [z] at e
      rw [s _ _ e] at hp
      cases hp
    rw [upd_ne hb]
    exact e
  h := fun b u e => by
    rw [upd_ne (ne_of_none e hp)]
    exact e
  sub := fun b u e => by
    by_cases hb : b = p
    · subst hb
      rw [upd_same] at e ⊢
      exact e
    · rw [upd_ne hb] at e ⊢
      exact s _ _ e
  old := fun b hb => by
    have ne : b ≠ p := fun z => hb (by rw [z]; exact hp)
    rw [upd_ne ne]
/-- a new changeable object -/
theorem Rel.newM {p : Addr} {o : HO} {m : MO} (R : Rel K mg μ F σ H env S) (hp : H p = none) (hm : MOk K mg F (upd H p o) p m) : Rel K mg (μ ++ [p]) F σ (upd H p o) env (S ++ [m]) := by
  have hF : F p = none := by
    cases q : F p with
    | none => rfl
    | some u =>
      rw [R.sub _ _ q] at hp
      cases hp
  have get : ∀ {i : Nat} {a : Addr} {n : MO}, (μ ++ [p])[i]? = some a → (S ++ [m])[i]? = some n → (μ[i]? = some a ∧ S[i]? = some n) ∨ (i = μ.length ∧ a = p ∧ n = m) := fun {i a n} h1 h2 => by
    have hl := R.len
    by_cases hi : i < μ.length
    · rw [List.getElem?_append_left hi] at h1
      rw [List.getElem?_append_left (by omega)] at h2
      exact .inl ⟨h1, h2⟩
    · have e : i = μ.length := by
        have := (List.getElem?_eq_some_iff.mp h1).1
        rw [List.length_append, List.length_singleton] at this
        omega
      subst e
      rw [List.getElem?_append_right (Nat.le_refl _), Nat.sub_self] at h1
      rw [List.getElem?_append_right (by omega), show μ.length - S.length = 0 by omega] at h2
      simp at h1 h2
      exact .inr ⟨rfl, h1.symm, h2.symm⟩
  have ne : ∀ {i : Nat} {a : Addr} {n : MO}, μ[i]? = some a → S[i]? = some n → n.live = true → a ≠ p := fun h1 h2 h3 z => by
    subst z
    exact MOk.there (R.sto _ _ _ h1 h2) h3 hp
  have same : Same H (upd H p o) := fun b u e => by
    rw [upd_ne (ne_of_none e hp)]
    exact e
  refine ⟨by rw [List.length_append, List.length_append, R.len]; rfl, R.sub.trans same, fun i a n h1 h2 h3 => ?_, fun i j a n n' h1 h1' h2 h2' h3 h3' => ?_, fun i a n h1 h2 => ?_, R.elen, fun i w h => ?_, fun q hq => ?_, R.ft⟩
  · rcases get h1 h2 with ⟨q1, q2⟩ | ⟨_, rfl, _⟩
    · exact R.off i a n q1 q2 h3
    · exact hF
  · rcases get h1 h2 with ⟨q1, q2⟩ | ⟨e1, e2, e3⟩
    · rcases get h1' h2' with ⟨q1', q2'⟩ | ⟨e1', e2', e3'⟩
      · exact R.inj i j a n n' q1 q1' q2 q2' h3 h3'
      · exact absurd e2' (ne q1 q2 h3)
    · rcases get h1' h2' with ⟨q1', q2'⟩ | ⟨e1', e2', e3'⟩
      · exact absurd e2 (ne q1' q2' h3')
      · rw [e1, e1']
  · rcases get h1 h2 with ⟨q1, q2⟩ | ⟨_, rfl, rfl⟩
    · have x := R.sto i a n q1 q2
      cases n with
      | dead => exact trivial
      | lst xs => obtain ⟨vs, h, r⟩ := x; exact ⟨vs, same _ _ h, r⟩
      | dK kvs => obtain ⟨vs, h, r⟩ := x; exact ⟨vs, same _ _ h, r⟩
      | dT kvs => obtain ⟨vs, h, r⟩ := x; exact ⟨vs, same _ _ h, r⟩
    · exact hm
  · obtain ⟨v, e, r⟩ := R.env i w h
    exact ⟨v, e, r.ext ⟨fun i a h => by rw [List.getElem?_append_left (List.getElem?_eq_some_iff.mp h).1]; exact h, Same.refl _⟩⟩
  · have t := R.tab q hq
    have ne := t.ne (a := p) (by rw [hp]; simp)
    exact t.at rfl (upd_ne ne) (Same.refl _)
theorem Ext.push {p : Addr} : Ext μ F (μ ++ [p]) F := ⟨fun i a h => by rw [List.getElem?_append_left (List.getElem?_eq_some_iff.mp h).1]; exact h, Same.refl _⟩
/-- a changeable object is changed -/
theorem Rel.put {i : Nat} {a : Addr} {m n : MO} {o : HO} (R : Rel K mg μ F σ H env S) (ha : μ[i]? = some a) (hS : S[i]? = some m) (hl : m.live = true) (hn : MOk K mg F (upd H a o) a n) : Rel K mg μ F σ (upd H a o) env (S.set i n) := by
  have hF := R.off i a m ha hS hl
  have hi : i < S.length := (List.getElem?_eq_some_iff.mp hS).1
  have get : ∀ {j : Nat} {b : Addr} {k : MO}, μ[j]? = some b → (S.set i n)[j]? = some k → (j ≠ i ∧ S[j]? = some k) ∨ (j = i ∧ b = a ∧ k = n) := fun {j b k} h1 h2 => by
    by_cases hj : j = i
    · subst hj
      rw [List.getElem?_set_self hi] at h2
      rw [ha] at h1
      cases h1
      cases h2
      exact .inr ⟨rfl, rfl, rfl⟩
    · rw [List.getElem?_set_ne (Ne.symm hj)] at h2
      exact .inl ⟨hj, h2⟩
  refine ⟨by rw [List.length_set]; exact R.len, fun b u e => ?_, fun j b k h1 h2 h3 => ?_, fun j j' b k k' h1 h1' h2 h2' h3 h3' => ?_, fun j b k h1 h2 => ?_, R.elen, R.env, fun q hq => (R.tab q hq).at rfl (upd_ne ((R.tab q hq).ne ((R.sto i a m ha hS).ntbl hl))) (Same.refl _), R.ft⟩
  · have hb : b ≠ a := fun z => by rw [z, hF] at e; cases e
    rw [upd_ne hb]
    exact R.sub _ _ e
  · rcases get h1 h2 with ⟨_, q⟩ | ⟨_, rfl, _⟩
    · exact R.off j b k h1 q h3
    · exact hF
  · rcases get h1 h2 with ⟨n1, q⟩ | ⟨e1, e2, e3⟩
    · rcases get h1' h2' with ⟨n1', q'⟩ | ⟨e1', e2', e3'⟩
      · exact R.inj j j' b k k' h1 h1' q q' h3 h3'
      · subst e2'
        exact absurd (R.inj j i b k m h1 ha q hS h3 hl) n1
    · rcases get h1' h2' with ⟨n1', q'⟩ | ⟨e1', e2', e3'⟩
      · subst e2
        exact absurd (R.inj j' i b k' m h1' ha q' hS h3' hl) n1'
      · rw [e1, e1']
  · rcases get h1 h2 with ⟨nj, q⟩ | ⟨_, rfl, rfl⟩
    · have x := R.sto j b k h1 q
      have hb : k.live = true → b ≠ a := fun hk z => nj (R.inj j i b k m h1 (by rw [z]; exact ha) q hS hk hl)
      cases k with
      | dead => exact trivial
      | lst xs => obtain ⟨vs, h, r⟩ := x; exact ⟨vs, by rw [upd_ne (hb rfl)]; exact h, r⟩
      | dK kvs => obtain ⟨vs, h, r⟩ := x; exact ⟨vs, by rw [upd_ne (hb rfl)]; exact h, r⟩
      | dT kvs => obtain ⟨vs, h, r⟩ := x; exact ⟨vs, by rw [upd_ne (hb rfl)]; exact h, r⟩
    · exact hn
/-- a changeable list becomes a tree for ever -/
theorem Rel.freeze {i j : Nat} {xs : List T} (R : Rel K mg μ F σ H env S) (hS : S[i]? = some (.lst xs)) (he : env[j]? = some (some (.ref i))) :
    ∃ F', Ext μ F μ F' ∧ Rel K mg μ F' σ H (env.set j (some (.t (.lst xs)))) (S.set i .dead) := by
  obtain ⟨v, e, a, ha, rfl⟩ := R.env j _ he
  obtain ⟨vs, hH, r⟩ := R.sto i a _ ha hS
  have hF := R.off i a _ ha hS rfl
  have hi : i < S.length := (List.getElem?_eq_some_iff.mp hS).1
  have sm : Same F (upd F a (.lst vs)) := fun b u q => by
    rw [upd_ne (ne_of_none q hF)]
    exact q
  have get : ∀ {k : Nat} {b : Addr} {m : MO}, (S.set i .dead)[k]? = some m → m.live = true → k ≠ i ∧ S[k]? = some m := fun {k b m} h1 h2 => by
    by_cases hk : k = i
    · subst hk
      rw [List.getElem?_set_self hi] at h1
      cases h1
      cases h2
    · rw [List.getElem?_set_ne (Ne.symm hk)] at h1
      exact ⟨hk, h1⟩
  refine ⟨upd F a (.lst vs), ⟨fun _ _ h => h, sm⟩, by rw [List.length_set]; exact R.len, fun b u q => ?_, fun k b m h1 h2 h3 => ?_, fun k k' b m m' h1 h1' h2 h2' h3 h3' => ?_, fun k b m h1 h2 => ?_, by rw [List.length_set]; exact R.elen, fun k w h => ?_, fun q hq => (R.tab q hq).at (upd_ne ((R.tab q hq).ne (a := a) (by rw [hH]; simp))) rfl sm, fun b ps => ?_⟩
  · by_cases hb : b = a
    · subst hb
      rw [upd_same] at q
      rw [hH]
      exact q
    · rw [upd_ne hb] at q
      exact R.sub _ _ q
  · obtain ⟨n1, q⟩ := get (b := b) h2 h3
    have hb : b ≠ a := fun z => n1 (R.inj k i b m _ h1 (by rw [z]; exact ha) q hS h3 rfl)
    rw [upd_ne hb]
    exact R.off k b m h1 q h3
  · exact R.inj k k' b m m' h1 h1' (get (b := b) h2 h3).2 (get (b := b) h2' h3').2 h3 h3'
  · cases m with
    | dead => exact trivial
    | lst ys =>
      obtain ⟨n1, q⟩ := get (b := b) h2 rfl
      obtain ⟨vs, h, r⟩ := R.sto k b _ h1 q
      exact ⟨vs, h, RTs.mono sm _ _ r⟩
    | dK ys =>
      obtain ⟨n1, q⟩ := get (b := b) h2 rfl
      obtain ⟨vs, h, e, r⟩ := R.sto k b _ h1 q
      exact ⟨vs, h, e, RTs.mono sm _ _ r⟩
    | dT ys =>
      obtain ⟨n1, q⟩ := get (b := b) h2 rfl
      obtain ⟨vs, h, e, r⟩ := R.sto k b _ h1 q
      exact ⟨vs, h, e, RTs.mono sm _ _ r⟩
  · by_cases hk : k = j
    · subst hk
      have hlt : k < env.length := (List.getElem?_eq_some_iff.mp he).1
      rw [List.getElem?_set_self hlt] at h
      cases h
      refine ⟨.ref a, e, ?_⟩
      show RT K mg _ (.lst xs) (.ref a)
      unfold RT
      exact ⟨a, vs, rfl, upd_same, RTs.mono sm _ _ r⟩
    · rw [List.getElem?_set_ne (Ne.symm hk)] at h
      obtain ⟨v, e, r⟩ := R.env k w h
      exact ⟨v, e, r.ext ⟨fun _ _ h => h, sm⟩⟩
  · by_cases hb : b = a
    · rw [hb, upd_same]
      simp
    · rw [upd_ne hb]
      exact R.ft b ps
/-- slots: another one holds w -/
theorem Rel.setE {j : Nat} {w : W} {v : V} (R : Rel K mg μ F σ H env S) (r : RW K mg μ F w v) : Rel K mg μ F (σ.set j (some v)) H (env.set j (some w)) S where
  len := R.len
  sub := R.sub
  off := R.off
  inj := R.inj
  sto := R.sto
  tab := R.tab
  ft := R.ft
  elen := by rw [List.length_set, List.length_set]; exact R.elen
  env := fun k z h => by
    have hk' := (List.getElem?_eq_some_iff.mp h).1
    rw [List.length_set] at hk'
    by_cases hk : k = j
    · subst hk
      rw [List.getElem?_set_self hk'] at h
      cases h
      exact ⟨v, by rw [List.getElem?_set_self (by rw [R.elen]; exact hk')], r⟩
    · rw [List.getElem?_set_ne (Ne.symm hk)] at h
      obtain ⟨u, e, q⟩ := R.env k z h
      exact ⟨u, by rw [List.getElem?_set_ne (Ne.symm hk)]; exact e, q⟩
/-- forgetting the newest objects -/
theorem Rel.cut (R : Rel K mg μ F σ H env S) (n : Nat) (he : ∀ (i : Nat) (w : W), env[i]? = some (some w) → ∃ v, σ[i]? = some (some v) ∧ RW K mg (μ.take n) F w v) : Rel K mg (μ.take n) F σ H env (S.take n) := by
  have g1 : ∀ {i : Nat} {a : Addr}, (μ.take n)[i]? = some a → μ[i]? = some a := fun {i a} h => by
    rw [List.getElem?_take] at h
    split at h
    · exact h
    · cases h
  have g2 : ∀ {i : Nat} {m : MO}, (S.take n)[i]? = some m → S[i]? = some m := fun {i m} h => by
    rw [List.getElem?_take] at h
    split at h
    · exact h
    · cases h
  exact ⟨by rw [List.length_take, List.length_take, R.len], R.sub, fun i a m h1 h2 => R.off i a m (g1 h1) (g2 h2), fun i j a m m' h1 h1' h2 h2' => R.inj i j a m m' (g1 h1) (g1 h1') (g2 h2) (g2 h2'), fun i a m h1 h2 => R.sto i a m (g1 h1) (g2 h2), R.elen, he, R.tab, R.ft⟩
/-- another frame over the same objects -/
theorem Rel.frame {σ' : L2.St} {env' : Env} (R : Rel K mg μ F σ H env S) (hl : σ'.length = env'.length) (he : ∀ (i : Nat) (w : W), env'[i]? = some (some w) → ∃ v, σ'[i]? = some (some v) ∧ RW K mg μ F w v) : Rel K mg μ F σ' H env' S :=
  ⟨R.len, R.sub, R.off, R.inj, R.sto, hl, he, R.tab, R.ft⟩
end
end Tw
set_option Elab.async false
set_option linter.all false
set_option maxRecDepth 100000
namespace Tw
open PySem PySem.Spec PyProof.Rows L2

/-- what may leave, and what else is known of the objects all the while -/
structure EW where
  w : L2.WX
  lk : List Addr → Hp → Prop := fun _ _ => True
  up : ∀ μ F μ' F', Ext μ F μ' F' → lk μ F → lk μ' F' := by exact fun _ _ _ _ _ h => h
abbrev WX := EW
abbrev PX := T → Env → Sto → Prop
abbrev KW := W → Sto → Prop
abbrev KWs := List W → Sto → Prop
abbrev WE := Env → Sto → PX → KW → Prop
abbrev WA := Env → Sto → PX → KWs → Prop

section
variable (K : PySem.W.Frag) (mg : Str → Option Value)
structure XOk (Ew : WX) (μ : List Addr) (F : Hp) (E : PX) : Prop where
  lk : Ew.lk μ F
  go : ∀ (x : T) (env : Env) (S : Sto) (μ' : List Addr) (F' : Hp) (cls : Value) (d : Option Addr) (σ : L2.St) (H : Hp),
  E x env S → Ext μ F μ' F' → Rel K mg μ' F' σ H env S → RX K mg F' x cls d → Ew.w cls d σ H
def RWs (μ : List Addr) (F : Hp) : List W → List V → Prop
  | [], vs => vs = []
  | w :: ws, vs => ∃ v r, vs = v :: r ∧ RW K mg μ F w v ∧ RWs μ F ws r
def rdE (Ew : WX) (w : WE) : TE := fun σ H Q => ∃ (μ : List Addr) (F : Hp) (env : Env) (S : Sto) (E : PX) (R : KW), Rel K mg μ F σ H env S ∧ w env S E R ∧ XOk K mg Ew μ F E ∧
  ∀ z S' μ' F' v H', R z S' → Ext μ F μ' F' → Rel K mg μ' F' σ H' env S' → RW K mg μ' F' z v → Q v H'
def rdA (Ew : WX) (w : WA) : TA := fun σ H Q => ∃ (μ : List Addr) (F : Hp) (env : Env) (S : Sto) (E : PX) (R : KWs), Rel K mg μ F σ H env S ∧ w env S E R ∧ XOk K mg Ew μ F E ∧
  ∀ zs S' μ' F' vs H', R zs S' → Ext μ F μ' F' → Rel K mg μ' F' σ H' env S' → RWs K mg μ' F' zs vs → Q vs H'
/-- as a test -/
def rdT (Ew : WX) (w : WE) : TT := fun σ H Q => ∃ (μ : List Addr) (F : Hp) (env : Env) (S : Sto) (E : PX) (R : Bool → Sto → Prop), Rel K mg μ F σ H env S ∧
  w env S E (fun z S' => ∃ b, z = .t (.bl b) ∧ R b S') ∧ XOk K mg Ew μ F E ∧
  ∀ b S' μ' F' H', R b S' → Ext μ F μ' F' → Rel K mg μ' F' σ H' env S' → Q b H'
end
abbrev SE (X : Cx) (Ew : WX) (e : Expr) (w : WE) : Prop := PE X e (rdE X.K X.mg Ew w)
abbrev SA (X : Cx) (Ew : WX) (es : List Expr) (w : WA) : Prop := PA X es (rdA X.K X.mg Ew w)
abbrev SC (X : Cx) (Ew : WX) (e : Expr) (w : WE) : Prop := PT X e (rdT X.K X.mg Ew w)

section
variable {K : PySem.W.Frag} {mg : Str → Option Value} {μ μ' : List Addr} {F F' H H' : Hp} {σ : L2.St} {env : Env} {S : Sto} {Ew : WX} {E : PX}
theorem XOk.ext (x : XOk K mg Ew μ F E) (e : Ext μ F μ' F') : XOk K mg Ew μ' F' E := ⟨Ew.up _ _ _ _ e x.lk, fun t en S1 μ1 F1 c d s1 H1 h e1 r q => x.go t en S1 μ1 F1 c d s1 H1 h (e.trans e1) r q⟩
theorem RWs.ext (e : Ext μ F μ' F') : ∀ {ws : List W} {vs : List V}, RWs K mg μ F ws vs → RWs K mg μ' F' ws vs
  | [], _, h => h
  | _ :: _, _, ⟨v, r, e1, h1, h2⟩ => ⟨v, r, e1, h1.ext e, RWs.ext e h2⟩
end
theorem RWs.len {K : PySem.W.Frag} {mg : Str → Option Value} {μ : List Addr} {F : Hp} : ∀ {ws : List W} {vs : List V}, RWs K mg μ F ws vs → vs.length = ws.length
  | [], vs, h => by rw [show vs = [] from h]; rfl
  | w :: ws, _, ⟨v, r, e, _, h⟩ => by rw [e, List.length_cons, List.length_cons, RWs.len h]
theorem RWl.toS {K : PySem.W.Frag} {mg : Str → Option Value} {μ : List Addr} {F : Hp} : ∀ {ws : List (T ⊕ Nat)} {vs : List V}, RWl K mg μ F ws vs → RWs K mg μ F (ws.map W.ofS) vs
  | [], _, h => h
  | .inl x :: _, _, ⟨v, r, h1, h2, h3⟩ => ⟨v, r, h1, h2, RWl.toS h3⟩
  | .inr i :: _, _, ⟨v, r, h1, h2, h3⟩ => ⟨v, r, h1, h2, RWl.toS h3⟩
theorem RTs.toS {K : PySem.W.Frag} {mg : Str → Option Value} {μ : List Addr} {F : Hp} : ∀ {ts : List T} {vs : List V}, RTs K mg F ts vs → RWs K mg μ F (ts.map W.t) vs
  | [], _, h => rts_nil.mp h
  | x :: xs, _, h => by
    obtain ⟨v, r, rfl, h1, h2⟩ := rts_cons.mp h
    exact ⟨v, r, rfl, h1, RTs.toS h2⟩
/-- an item of a tuple of anything -/
def sW : W → Option (T ⊕ Nat)
  | .t x => some (.inl x)
  | .ref i => some (.inr i)
  | .tw _ => none
def sWs : List W → Option (List (T ⊕ Nat))
  | [] => some []
  | w :: ws => match sW w, sWs ws with
    | some s, some ss => some (s :: ss)
    | _, _ => none
def swk (ws : List W) (k : List (T ⊕ Nat) → Prop) : Prop := match sWs ws with
  | some ss => k ss
  | none => False
theorem swk_of {ws : List W} {k : List (T ⊕ Nat) → Prop} (h : swk ws k) : ∃ ss, sWs ws = some ss ∧ k ss := by
  unfold swk at h
  split at h
  · rename_i ss e
    exact ⟨ss, e, h⟩
  · exact h.elim
theorem sWs_ok {K : PySem.W.Frag} {mg : Str → Option Value} {μ : List Addr} {F : Hp} : ∀ {ws : List W} {ss : List (T ⊕ Nat)} {vs : List V}, RWs K mg μ F ws vs → sWs ws = some ss → RWl K mg μ F ss vs
  | [], ss, vs, r, e => by
    cases e
    exact r
  | w :: ws, ss, vs, ⟨v, q, e1, r1, r2⟩, e => by
    unfold sWs at e
    split at e
    · rename_i s ss' h1 h2
      cases e
      refine ⟨v, q, e1, ?_, sWs_ok r2 h2⟩
      cases w with
      | t x => cases h1; exact r1
      | ref i => cases h1; exact r1
      | tw _ => cases h1
    · cases e
theorem PE.imp {X : Cx} {e : Expr} {t t' : TE} (h : PE X e t) (i : ∀ σ H Q, t' σ H Q → t σ H Q) : PE X e t' := ⟨fun pins s σ H Q I q => h.run pins s σ H Q I (i σ H Q q)⟩
theorem PT.imp {X : Cx} {e : Expr} {t t' : TT} (h : PT X e t) (i : ∀ σ H Q, t' σ H Q → t σ H Q) : PT X e t' := ⟨fun pins s σ H Q I q => h.run pins s σ H Q I (i σ H Q q)⟩
theorem PW.imp {X : Cx} {e : Expr} {t t' : TT} (h : PW X e t) (i : ∀ σ H Q, t' σ H Q → t σ H Q) : PW X e t' := ⟨fun wh pins s σ H Q I q => h.run wh pins s σ H Q I (i σ H Q q)⟩
theorem PA.imp {X : Cx} {es : List Expr} {t t' : TA} (h : PA X es t) (i : ∀ σ H Q, t' σ H Q → t σ H Q) : PA X es t' := ⟨fun pos pins s σ H Q I q => h.run pos pins s σ H Q I (i σ H Q q)⟩
theorem PS.imp {X : Cx} {e : Stmt} {t t' : TS} (h : PS X e t) (i : ∀ D σ H, t' D σ H → t D σ H) : PS X e t' := ⟨fun pins s σ H D I q => h.run pins s σ H D I (i D σ H q)⟩
theorem PSs.imp {X : Cx} {e : List Stmt} {t t' : TS} (h : PSs X e t) (i : ∀ D σ H, t' D σ H → t D σ H) : PSs X e t' := ⟨fun pins s σ H D I q => h.run pins s σ H D I (i D σ H q)⟩

def viewM : Option MO → Option T
  | some (.lst xs) => some (.lst xs)
  | some (.dK []) => some .emp
  | _ => none
def view (S : Sto) : W → Option T
  | .t x => some x
  | .ref i => viewM S[i]?
  | .tw _ => none
def views (S : Sto) : List W → Option (List T)
  | [] => some []
  | w :: ws => match view S w, views S ws with
    | some t, some ts => some (t :: ts)
    | _, _ => none
def vw (S : Sto) (ws : List W) (k : List T → Prop) : Prop := match views S ws with
  | some ts => k ts
  | none => False
/-- trees alone -/
def datas : List W → Option (List T)
  | [] => some []
  | .t x :: ws => match datas ws with
    | some ts => some (x :: ts)
    | none => none
  | _ :: _ => none
def dw (ws : List W) (k : List T → Prop) : Prop := match datas ws with
  | some ts => k ts
  | none => False
section
variable (K : PySem.W.Frag) (mg : Str → Option Value) (F H : Hp)
def RV : T → V → Prop
  | .lst xs, v => ∃ a vs, v = .ref a ∧ H a = some (.lst vs) ∧ RTs K mg F xs vs
  | .emp, v => ∃ a, v = .ref a ∧ H a = some (.dK [])
  | t, v => RT K mg F t v
def RVs : List T → List V → Prop
  | [], vs => vs = []
  | t :: ts, vs => ∃ v r, vs = v :: r ∧ RV K mg F H t v ∧ RVs ts r
end
section
variable {K : PySem.W.Frag} {mg : Str → Option Value} {μ μ' : List Addr} {F F' H H' : Hp} {σ : L2.St} {env : Env} {S : Sto}
theorem RV.of (s : Same F H) : ∀ {t : T} {v : V}, RT K mg F t v → RV K mg F H t v
  | .lst xs, v, h => by
    unfold RT at h
    obtain ⟨a, vs, e, q, r⟩ := h
    exact ⟨a, vs, e, s _ _ q, r⟩
  | .emp, v, h => by
    unfold RT at h
    obtain ⟨a, e, q⟩ := h
    exact ⟨a, e, s _ _ q⟩
  | .non, _, h => h
  | .bl _, _, h => h
  | .int _, _, h => h
  | .str _, _, h => h
  | .ty _, _, h => h
  | .glb _, _, h => h
  | .tup _, _, h => h
  | .scr _, _, h => h
  | .exc _, _, h => h
  | .exc1 _ _ _, _, h => h
theorem view_ok (R : Rel K mg μ F σ H env S) : ∀ {w : W} {t : T} {v : V}, RW K mg μ F w v → view S w = some t → RV K mg F H t v
  | .tw _, t, v, r, e => by cases e
  | .t x, t, v, r, e => by
    cases e
    exact RV.of R.sub r
  | .ref i, t, v, ⟨a, ha, ev⟩, e => by
    have e : viewM S[i]? = some t := e
    cases hS : S[i]? with
    | none =>
      rw [hS] at e
      cases e
    | some m =>
      rw [hS] at e
      have q := R.sto i a m ha hS
      cases m with
      | lst xs =>
        cases e
        obtain ⟨vs, q, r⟩ := q
        exact ⟨a, vs, ev, q, r⟩
      | dK kvs =>
        cases kvs with
        | nil =>
          cases e
          obtain ⟨vs, q, r, _⟩ := q
          have z : vs = [] := by
            cases vs with
            | nil => rfl
            | cons x y => cases r
          subst z
          exact ⟨a, ev, q⟩
        | cons x y => cases e
      | _ => cases e
theorem views_ok (R : Rel K mg μ F σ H env S) : ∀ {ws : List W} {ts : List T} {vs : List V}, RWs K mg μ F ws vs → views S ws = some ts → RVs K mg F H ts vs
  | [], ts, vs, r, e => by
    cases e
    exact r
  | w :: ws, ts, vs, ⟨v, q, e1, r1, r2⟩, e => by
    unfold views at e
    cases h1 : view S w with
    | none => rw [h1] at e; cases e
    | some t =>
      cases h2 : views S ws with
      | none => rw [h1, h2] at e; cases e
      | some ts' =>
        rw [h1, h2] at e
        cases e
        exact ⟨v, q, e1, view_ok R r1 h1, views_ok R r2 h2⟩
theorem datas_ok : ∀ {ws : List W} {ts : List T} {vs : List V}, RWs K mg μ F ws vs → datas ws = some ts → RTs K mg F ts vs
  | [], ts, vs, r, e => by
    cases e
    exact rts_nil.mpr r
  | .t x :: ws, ts, vs, ⟨v, q, e1, r1, r2⟩, e => by
    unfold datas at e
    split at e
    · rename_i ts' h1
      cases e
      exact rts_cons.mpr ⟨v, q, e1, r1, datas_ok r2 h1⟩
    · cases e
  | .ref _ :: ws, ts, vs, _, e => by cases e
  | .tw _ :: ws, ts, vs, _, e => by cases e
theorem vw_of {ws : List W} {k : List T → Prop} (h : vw S ws k) : ∃ ts, views S ws = some ts ∧ k ts := by
  unfold vw at h
  split at h
  · rename_i ts e
    exact ⟨ts, e, h⟩
  · exact h.elim
theorem dw_of {ws : List W} {k : List T → Prop} (h : dw ws k) : ∃ ts, datas ws = some ts ∧ k ts := by
  unfold dw at h
  split at h
  · rename_i ts e
    exact ⟨ts, e, h⟩
  · exact h.elim
end
/-- an operation whose answer is a tree: its reading by values -/
abbrev PO1 := List T → (T → Prop) → Prop
def rP (K : PySem.W.Frag) (mg : Str → Option Value) (g : PO1) : List V → Hp → VK → Prop := fun vs H Q => ∃ (F : Hp) (ts : List T) (R : T → Prop), Same F H ∧ RVs K mg F H ts vs ∧ g ts R ∧
  ∀ t F' H' v, R t → Step F H F' H' → RT K mg F' t v → Q v H'

def gE : Env → Nat → Option W
  | [], _ => none
  | x :: _, 0 => x
  | _ :: r, n + 1 => gE r n
theorem gE_iff {w : W} : ∀ {env : Env} {i : Nat}, gE env i = some w → env[i]? = some (some w)
  | [], _, h => by cases h
  | x :: r, 0, h => by
    have e : x = some w := h
    rw [e]
    rfl
  | x :: r, n + 1, h => by
    have q := gE_iff (env := r) (i := n) h
    simpa using q
def wSlot (i : Nat) : WE := fun env S _ R => match gE env i with
  | some w => R w S
  | none => False
def wC (t : T) : WE := fun _ S _ R => R (.t t) S
def wOp1 (g : PO1) (wa : WE) : WE := fun env S E R => wa env S E fun x S1 => vw S1 [x] fun ts => g ts fun t => R (.t t) S1
def wOp2 (g : PO1) (wa wb : WE) : WE := fun env S E R => wa env S E fun x S1 => wb env S1 E fun y S2 => vw S2 [x, y] fun ts => g ts fun t => R (.t t) S2
def wB (g : PO1) (wa : WA) : WE := fun env S E R => wa env S E fun ws S1 => vw S1 ws fun ts => g ts fun t => R (.t t) S1
def waNil : WA := fun _ S _ R => R [] S
def waCons (wa : WE) (wr : WA) : WA := fun env S E R => wa env S E fun x S1 => wr env S1 E fun xs S2 => R (x :: xs) S2
def wTup (wa : WA) : WE := fun env S E R => wa env S E fun ws S1 => dw ws fun ts => ts.length ≤ sizeLine ∧ R (.t (.tup ts)) S1
/-- a new list: for ever (m false), or changeable -/
def mkL (m : Bool) (xs : List T) (S : Sto) (R : KW) : Prop := match m with
  | true => R (.ref S.length) (S ++ [.lst xs])
  | false => R (.t (.lst xs)) S
def wLst (m : Bool) (wa : WA) : WE := fun env S E R => wa env S E fun ws S1 => dw ws fun ts => ts.length ≤ sizeLine ∧ mkL m ts S1 R
def wBlIf (c : Bool) (a b : Prop) : Prop := if c = true then a else b
def wAnd (wa wb : WE) : WE := fun env S E R => wa env S E fun x S1 => ∃ c, x = .t (.bl c) ∧ wBlIf c (wb env S1 E R) (R (.t (.bl false)) S1)
def wOr (wa wb : WE) : WE := fun env S E R => wa env S E fun x S1 => ∃ c, x = .t (.bl c) ∧ wBlIf c (R (.t (.bl true)) S1) (wb env S1 E R)
def wNot (wa : WE) : WE := fun env S E R => wa env S E fun x S1 => ∃ c, x = .t (.bl c) ∧ R (.t (.bl (!c))) S1
def wIte (wc wa wb : WE) : WE := fun env S E R => wc env S E fun x S1 => ∃ c, x = .t (.bl c) ∧ wBlIf c (wa env S1 E R) (wb env S1 E R)
/-- a op b op' c, both comparisons of trees -/
def wChn (g g' : PO1) (wa wb wc : WE) : WE := fun env S E R => wa env S E fun x S1 => wb env S1 E fun y S2 => vw S2 [x, y] fun ts => g ts fun t => ∃ k, t = .bl k ∧
  wBlIf k (wc env S2 E fun z S3 => vw S3 [y, z] fun ts => g' ts fun t => R (.t t) S3) (R (.t (.bl false)) S2)

section
variable {X : Cx} {Ew : WX} {a b c e : Expr} {es : List Expr} {wa wb wc : WE} {wA : WA} {pos : Pos} {g g' : PO1}
theorem SE.slot {i : Nat} {x : Str} (hN : X.N[i]? = some x) (hv : Vis X.env.scope x) (hd : (x == ("__debug__" : Str)) = false) (hcd : (x == ("__classdict__" : Str)) = false) : SE X Ew (.Name x pos) (wSlot i) :=
  PE.imp (pe_var hN hv hd hcd) fun σ H Q ⟨μ, F, env, S, E, R, rel, hw, xo, post⟩ => by
    unfold wSlot at hw
    split at hw
    · rename_i w hg
      obtain ⟨v, e, r⟩ := rel.env i w (gE_iff hg)
      exact ⟨v, e, post w S μ F v H hw Ext.refl rel r⟩
    · exact hw.elim
theorem SE.con {t : T} {v : V} (h : PE X e (tC v)) (r : ∀ F, RT X.K X.mg F t v) : SE X Ew e (wC t) :=
  PE.imp h fun σ H Q ⟨μ, F, env, S, E, R, rel, hw, xo, post⟩ => post (.t t) S μ F v H hw Ext.refl rel (r F)
theorem SA.nil : SA X Ew [] waNil :=
  PA.imp pa_nil fun σ H Q ⟨μ, F, env, S, E, R, rel, hw, xo, post⟩ => post [] S μ F [] H hw Ext.refl rel rfl
theorem SA.cons (ha : SE X Ew e wa) (hr : SA X Ew es wA) (hs : starEach (e :: es) X.env = (false, eval e X.env) :: starEach es X.env) : SA X Ew (e :: es) (waCons wa wA) :=
  PA.imp (pa_cons ha hr hs) fun σ H Q ⟨μ, F, env, S, E, R, rel, hw, xo, post⟩ =>
    ⟨μ, F, env, S, E, _, rel, hw, xo, fun z S1 μ1 F1 v H1 hz e1 r1 q1 => ⟨μ1, F1, env, S1, E, _, r1, hz, xo.ext e1, fun zs S2 μ2 F2 vs H2 hzs e2 r2 q2 =>
      post (z :: zs) S2 μ2 F2 (v :: vs) H2 hzs (e1.trans e2) r2 ⟨v, vs, rfl, q1.ext e2, q2⟩⟩⟩
theorem pe_tupD {X : Cx} {es : List Expr} {pos : Pos} {t : TA} {x1 : Nat} (h : PA X es t) : PE X (.Tuple es x1 pos) (fun σ H Q => t σ H fun xs H1 => xs.length ≤ sizeLine ∧ ∀ (p : Addr) (us : List Value), H1 p = none → Q (.ref p) (upd H1 p (.frz (tObj us) (.tup xs)))) := by
  refine ⟨fun pins s σ H Q I hq => wpAny_Tuple_spliced (thn (h.run pos pins s σ H _ I hq) fun us s1 ⟨xs, H1, I1, r, z, q⟩ => ⟨by rw [← r.length]; exact z, ?_⟩)⟩
  refine ⟨.ref s1.heap.objs.size, upd H1 s1.heap.objs.size (.frz (tObj us) (.tup xs)), I1.laid (t' := s1.toks) (fun b u e => Heap.get?_push_of_some _ e) (Nat.le_refl _) ?_, rfl, q _ us (I1.hok.fresh (Nat.le_refl _))⟩
  exact ⟨Heap.get?_push_size _ rfl, z, us, r, ⟨_, Heap.get?_push_size _ rfl, rfl, _, rfl⟩⟩
theorem SE.tup {x1} (h : SA X Ew es wA) : SE X Ew (.Tuple es x1 pos) (wTup wA) :=
  PE.imp (pe_tupD h) fun σ H Q ⟨μ, F, env, S, E, R, rel, hw, xo, post⟩ => by
    refine ⟨μ, F, env, S, E, _, rel, hw, xo, fun zs S1 μ1 F1 vs H1 hzs e1 r1 q1 => ?_⟩
    obtain ⟨ts, hd, hl, hR⟩ := dw_of hzs
    have rt := datas_ok q1 hd
    refine ⟨by rw [rt.length]; exact hl, fun p us hp => ?_⟩
    have st : Step F1 H1 (upd F1 p (.frz (tObj us) (.tup vs))) (upd H1 p (.frz (tObj us) (.tup vs))) := Step.new r1.sub hp
    refine post _ S1 μ1 _ _ _ hR (e1.trans st.ext) (r1.step st) ?_
    show RT X.K X.mg _ (.tup ts) (.ref p)
    unfold RT
    exact ⟨p, vs, rfl, SqD.of rfl upd_same, RTs.mono st.f _ _ rt⟩
/-- a new list lies at p -/
theorem mkL_ok {K : PySem.W.Frag} {mg : Str → Option Value} {μ : List Addr} {F H : Hp} {σ : L2.St} {env : Env} {S : Sto} {m : Bool} {ts : List T} {vs : List V} {p : Addr} {R : KW} {Q : VK} (rel : Rel K mg μ F σ H env S) (rt : RTs K mg F ts vs) (hp : H p = none) (h : mkL m ts S R)
    (post : ∀ z S' μ' F' v H', R z S' → Ext μ F μ' F' → Rel K mg μ' F' σ H' env S' → RW K mg μ' F' z v → Q v H') : Q (.ref p) (upd H p (.lst vs)) := by
  cases m with
  | false =>
    have st : Step F H (upd F p (.lst vs)) (upd H p (.lst vs)) := Step.new rel.sub hp
    refine post _ S μ _ _ _ h st.ext (rel.step st) ?_
    show RT K mg _ (.lst ts) (.ref p)
    unfold RT
    exact ⟨p, vs, rfl, upd_same, RTs.mono st.f _ _ rt⟩
  | true =>
    refine post _ _ (μ ++ [p]) F _ _ h Ext.push (rel.newM hp ⟨vs, upd_same, rt⟩) ⟨p, ?_, rfl⟩
    rw [← rel.len, List.getElem?_append_right (Nat.le_refl _), Nat.sub_self]
    rfl
theorem SE.lst {m : Bool} (h : SA X Ew es wA) : SE X Ew (.List es pos) (wLst m wA) :=
  PE.imp (pe_lst h) fun σ H Q ⟨μ, F, env, S, E, R, rel, hw, xo, post⟩ => by
    refine ⟨μ, F, env, S, E, _, rel, hw, xo, fun zs S1 μ1 F1 vs H1 hzs e1 r1 q1 => ?_⟩
    obtain ⟨ts, hd, hl, hR⟩ := dw_of hzs
    have rt := datas_ok q1 hd
    exact ⟨by rw [rt.length]; exact hl, fun p hp => mkL_ok r1 rt hp hR fun z S' μ' F' v H' hz e' r' q' => post z S' μ' F' v H' hz (e1.trans e') r' q'⟩
/-- an operation on two values -/
theorem op2_imp {K : PySem.W.Frag} {mg : Str → Option Value} {σ : L2.St} {H : Hp} {Q : VK} (h : rdE K mg Ew (wOp2 g wa wb) σ H Q) : tOp (fun x y => rP K mg g [x, y]) (rdE K mg Ew wa) (rdE K mg Ew wb) σ H Q := by
  obtain ⟨μ, F, env, S, E, R, rel, hw, xo, post⟩ := h
  refine ⟨μ, F, env, S, E, _, rel, hw, xo, fun x S1 μ1 F1 v H1 hx e1 r1 q1 => ⟨μ1, F1, env, S1, E, _, r1, hx, xo.ext e1, fun y S2 μ2 F2 u H2 hy e2 r2 q2 => ?_⟩⟩
  obtain ⟨ts, hv, hg⟩ := vw_of hy
  refine ⟨F2, ts, _, r2.sub, views_ok r2 (ws := [x, y]) (vs := [v, u]) ⟨v, [u], rfl, q1.ext e2, u, [], rfl, q2, rfl⟩ hv, hg, fun t F' H' w ht st rt => ?_⟩
  exact post (.t t) S2 μ2 F' w H' ht ((e1.trans e2).trans st.ext) (r2.step st) rt
theorem SE.bin {op : Operator} (ho : OpR X (binaryOp op) fun x y => rP X.K X.mg g [x, y]) (ha : SE X Ew a wa) (hb : SE X Ew b wb) : SE X Ew (.BinOp a op b pos) (wOp2 g wa wb) :=
  PE.imp (pe_op ho ha hb) fun σ H Q h => op2_imp h
theorem SE.cmp {op : CmpOp} (ho : OpR X (compareOp op) fun x y => rP X.K X.mg g [x, y]) (ha : SE X Ew a wa) (hb : SE X Ew b wb) (hm : behindInMarks op b = false) : SE X Ew (.Compare a [op] [b] pos) (wOp2 g wa wb) :=
  PE.imp (pe_cmpR ho ha hb hm) fun σ H Q h => op2_imp h
theorem SE.un {op : UnaryOp} (ho : UnR X (unaryOp op) fun x => rP X.K X.mg g [x]) (ha : SE X Ew a wa) : SE X Ew (.UnaryOp op a pos) (wOp1 g wa) :=
  PE.imp (pe_un ho ha) fun σ H Q ⟨μ, F, env, S, E, R, rel, hw, xo, post⟩ => by
    refine ⟨μ, F, env, S, E, _, rel, hw, xo, fun x S1 μ1 F1 v H1 hx e1 r1 q1 => ?_⟩
    obtain ⟨ts, hv, hg⟩ := vw_of hx
    exact ⟨F1, ts, _, r1.sub, views_ok r1 (ws := [x]) (vs := [v]) ⟨v, [], rfl, q1, rfl⟩ hv, hg, fun t F' H' w ht st rt => post (.t t) S1 μ1 F' w H' ht (e1.trans st.ext) (r1.step st) rt⟩
/-- a value as a test -/
theorem SC.val (h : SE X Ew e wa) (he : ∀ whole, isTrue e X.env whole = (do let v ← whole; standAt e.pos; holding [v] (truthy v))) : SC X Ew e wa :=
  PT.imp (pt_val h he) fun σ H Q ⟨μ, F, env, S, E, R, rel, hw, xo, post⟩ => by
    refine ⟨μ, F, env, S, E, _, rel, hw, xo, fun x S1 μ1 F1 v H1 hx e1 r1 q1 => ?_⟩
    obtain ⟨k, rfl, hR⟩ := hx
    have q : RT X.K X.mg F1 (.bl k) v := q1
    unfold RT at q
    exact ⟨k, q, post k S1 μ1 F1 H1 hR e1 r1⟩
theorem SC.cmp {op : CmpOp} (ho : OpR X (compareOp op) fun x y => rP X.K X.mg g [x, y]) (ha : SE X Ew a wa) (hb : SE X Ew b wb) (hm : behindInMarks op b = false) : SC X Ew (.Compare a [op] [b] pos) (wOp2 g wa wb) :=
  PT.imp (pt_cmpR ho ha hb hm) fun σ H Q ⟨μ, F, env, S, E, R, rel, hw, xo, post⟩ => by
    refine op2_imp (Q := fun x H' => ∃ k, x = .bl k ∧ Q k H') ⟨μ, F, env, S, E, _, rel, hw, xo, fun x S1 μ1 F1 v H1 hx e1 r1 q1 => ?_⟩
    obtain ⟨k, rfl, hR⟩ := hx
    have q : RT X.K X.mg F1 (.bl k) v := q1
    unfold RT at q
    exact ⟨k, q, post k S1 μ1 F1 H1 hR e1 r1⟩
theorem chn_imp {K : PySem.W.Frag} {mg : Str → Option Value} {σ : L2.St} {H : Hp} {Q : VK} (h : rdE K mg Ew (wChn g g' wa wb wc) σ H Q) :
    tChain (fun x y => rP K mg g [x, y]) (fun x y => rP K mg g' [x, y]) (rdE K mg Ew wa) (rdE K mg Ew wb) (rdE K mg Ew wc) σ H Q := by
  obtain ⟨μ, F, env, S, E, R, rel, hw, xo, post⟩ := h
  refine ⟨μ, F, env, S, E, _, rel, hw, xo, fun x S1 μ1 F1 v H1 hx e1 r1 q1 => ⟨μ1, F1, env, S1, E, _, r1, hx, xo.ext e1, fun y S2 μ2 F2 u H2 hy e2 r2 q2 => ?_⟩⟩
  obtain ⟨ts, hv, hg⟩ := vw_of hy
  refine ⟨F2, ts, _, r2.sub, views_ok r2 (ws := [x, y]) (vs := [v, u]) ⟨v, [u], rfl, q1.ext e2, u, [], rfl, q2, rfl⟩ hv, hg, fun t F' H' w ht st rt => ?_⟩
  obtain ⟨k, rfl, hk⟩ := ht
  have q : RT K mg F' (.bl k) w := rt
  unfold RT at q
  refine ⟨k, q, ?_⟩
  cases k with
  | false =>
    refine iteF (post _ S2 μ2 F' _ H' hk ((e1.trans e2).trans st.ext) (r2.step st) ?_)
    show RT K mg F' (.bl false) _
    unfold RT
    rfl
  | true =>
    refine iteT ⟨μ2, F', env, S2, E, _, r2.step st, hk, xo.ext ((e1.trans e2).trans st.ext), fun z S3 μ3 F3 w' H3 hz e3 r3 q3 => ?_⟩
    obtain ⟨ts', hv', hg'⟩ := vw_of hz
    refine ⟨F3, ts', _, r3.sub, views_ok r3 (ws := [y, z]) (vs := [u, w']) ⟨u, [w'], rfl, (q2.ext st.ext).ext e3, w', [], rfl, q3, rfl⟩ hv', hg', fun t F4 H4 x4 ht st4 rt4 => ?_⟩
    exact post (.t t) S3 μ3 F4 x4 H4 ht ((((e1.trans e2).trans st.ext).trans e3).trans st4.ext) (r3.step st4) rt4
theorem SE.chn {op op' : CmpOp} (ho : OpR X (compareOp op) fun x y => rP X.K X.mg g [x, y]) (ho' : OpR X (compareOp op') fun x y => rP X.K X.mg g' [x, y]) (ha : SE X Ew a wa) (hb : SE X Ew b wb) (hc : SE X Ew c wc) (hm : lastMarks [op, op'] [b, c] = false) :
    SE X Ew (.Compare a [op, op'] [b, c] pos) (wChn g g' wa wb wc) := PE.imp (pe_chain ho ho' ha hb hc hm) fun σ H Q h => chn_imp h
theorem SC.chn {op op' : CmpOp} (ho : OpR X (compareOp op) fun x y => rP X.K X.mg g [x, y]) (ho' : OpR X (compareOp op') fun x y => rP X.K X.mg g' [x, y]) (ha : SE X Ew a wa) (hb : SE X Ew b wb) (hc : SE X Ew c wc) (hm : lastMarks [op, op'] [b, c] = false) :
    SC X Ew (.Compare a [op, op'] [b, c] pos) (wChn g g' wa wb wc) := PT.imp (pt_chain ho ho' ha hb hc hm) fun σ H Q ⟨μ, F, env, S, E, R, rel, hw, xo, post⟩ => by
    refine chn_imp (Q := fun x H' => ∃ k, x = .bl k ∧ Q k H') ⟨μ, F, env, S, E, _, rel, hw, xo, fun x S1 μ1 F1 v H1 hx e1 r1 q1 => ?_⟩
    obtain ⟨k, rfl, hR⟩ := hx
    have q : RT X.K X.mg F1 (.bl k) v := q1
    unfold RT at q
    exact ⟨k, q, post k S1 μ1 F1 H1 hR e1 r1⟩
variable {rest : List Expr}
theorem SE.not (ha : SE X Ew a wa) : SE X Ew (.UnaryOp .Not a pos) (wNot wa) :=
  PE.imp (pe_not ha) fun σ H Q ⟨μ, F, env, S, E, R, rel, hw, xo, post⟩ => by
    refine ⟨μ, F, env, S, E, _, rel, hw, xo, fun x S1 μ1 F1 v H1 hx e1 r1 q1 => ?_⟩
    obtain ⟨k, rfl, hR⟩ := hx
    have q : RT X.K X.mg F1 (.bl k) v := q1
    unfold RT at q
    refine ⟨k, q, post _ S1 μ1 F1 _ H1 hR e1 r1 ?_⟩
    show RT X.K X.mg F1 (.bl (!k)) _
    unfold RT
    rfl
theorem SC.not (ha : SC X Ew a wa) : SC X Ew (.UnaryOp .Not a pos) (wNot wa) :=
  PT.imp (pt_not ha) fun σ H Q ⟨μ, F, env, S, E, R, rel, hw, xo, post⟩ => by
    refine ⟨μ, F, env, S, E, fun b S1 => R (!b) S1, rel, ?_, xo, fun k S1 μ1 F1 H1 hR e1 r1 => post (!k) S1 μ1 F1 H1 hR e1 r1⟩
    have hw' : wa env S E (fun x S1 => ∃ c, x = W.t (.bl c) ∧ ∃ b, W.t (T.bl (!c)) = .t (.bl b) ∧ R b S1) := hw
    have ef : (fun (x : W) (S1 : Sto) => ∃ c, x = W.t (.bl c) ∧ ∃ b, W.t (T.bl (!c)) = .t (.bl b) ∧ R b S1) = fun z S1 => ∃ b, z = W.t (.bl b) ∧ R (!b) S1 := by
      funext x S1
      apply propext
      constructor
      · rintro ⟨c, e, b, e2, h⟩
        cases e2
        exact ⟨c, e, h⟩
      · rintro ⟨c, e, h⟩
        exact ⟨c, e, _, rfl, h⟩
    rw [ef] at hw'
    exact hw'
theorem SE.one {op} {w : WE} (h : SE X Ew a w) : SE X Ew (.BoolOp op [a] pos) w := pe_one h
theorem SE.and (ha : SE X Ew a wa) (hb : SE X Ew (.BoolOp .And (b :: rest) pos) wb) : SE X Ew (.BoolOp .And (a :: b :: rest) pos) (wAnd wa wb) :=
  PE.imp (pe_and ha hb) fun σ H Q ⟨μ, F, env, S, E, R, rel, hw, xo, post⟩ => by
    refine ⟨μ, F, env, S, E, _, rel, hw, xo, fun x S1 μ1 F1 v H1 hx e1 r1 q1 => ?_⟩
    obtain ⟨k, rfl, hR⟩ := hx
    have q : RT X.K X.mg F1 (.bl k) v := q1
    unfold RT at q
    refine ⟨k, q, ?_⟩
    cases k with
    | true => exact iteT ⟨μ1, F1, env, S1, E, R, r1, hR, xo.ext e1, fun z S2 μ2 F2 u H2 hz e2 r2 q2 => post z S2 μ2 F2 u H2 hz (e1.trans e2) r2 q2⟩
    | false =>
      refine iteF (post _ S1 μ1 F1 _ H1 hR e1 r1 ?_)
      show RT X.K X.mg F1 (.bl false) _
      unfold RT
      rfl
theorem SE.or (ha : SE X Ew a wa) (hb : SE X Ew (.BoolOp .Or (b :: rest) pos) wb) : SE X Ew (.BoolOp .Or (a :: b :: rest) pos) (wOr wa wb) :=
  PE.imp (pe_or ha hb) fun σ H Q ⟨μ, F, env, S, E, R, rel, hw, xo, post⟩ => by
    refine ⟨μ, F, env, S, E, _, rel, hw, xo, fun x S1 μ1 F1 v H1 hx e1 r1 q1 => ?_⟩
    obtain ⟨k, rfl, hR⟩ := hx
    have q : RT X.K X.mg F1 (.bl k) v := q1
    unfold RT at q
    refine ⟨k, q, ?_⟩
    cases k with
    | false => exact iteF ⟨μ1, F1, env, S1, E, R, r1, hR, xo.ext e1, fun z S2 μ2 F2 u H2 hz e2 r2 q2 => post z S2 μ2 F2 u H2 hz (e1.trans e2) r2 q2⟩
    | true =>
      refine iteT (post _ S1 μ1 F1 _ H1 hR e1 r1 ?_)
      show RT X.K X.mg F1 (.bl true) _
      unfold RT
      rfl
abbrev SW (X : Cx) (Ew : WX) (e : Expr) (w : WE) : Prop := PW X e (rdT X.K X.mg Ew w)
theorem SW.and1 (ha : SC X Ew a wa) : SW X Ew (.BoolOp .And [a] pos) wa := pw_and1 ha
theorem SW.or1 (ha : SC X Ew a wa) : SW X Ew (.BoolOp .Or [a] pos) wa := pw_or1 ha
theorem SW.and (ha : SC X Ew a wa) (hb : SW X Ew (.BoolOp .And (b :: rest) pos) wb) : SW X Ew (.BoolOp .And (a :: b :: rest) pos) (wAnd wa wb) :=
  PW.imp (pw_and ha hb) fun σ H Q ⟨μ, F, env, S, E, R, rel, hw, xo, post⟩ => by
    refine ⟨μ, F, env, S, E, _, rel, hw, xo, fun k S1 μ1 F1 H1 hR e1 r1 => ?_⟩
    cases k with
    | true => exact iteT ⟨μ1, F1, env, S1, E, R, r1, hR, xo.ext e1, fun z S2 μ2 F2 H2 hz e2 r2 => post z S2 μ2 F2 H2 hz (e1.trans e2) r2⟩
    | false =>
      obtain ⟨b, e, h⟩ := (show ∃ b, W.t (.bl false) = .t (.bl b) ∧ R b S1 from hR)
      cases e
      exact iteF (post _ S1 μ1 F1 H1 h e1 r1)
theorem SW.or (ha : SC X Ew a wa) (hb : SW X Ew (.BoolOp .Or (b :: rest) pos) wb) : SW X Ew (.BoolOp .Or (a :: b :: rest) pos) (wOr wa wb) :=
  PW.imp (pw_or ha hb) fun σ H Q ⟨μ, F, env, S, E, R, rel, hw, xo, post⟩ => by
    refine ⟨μ, F, env, S, E, _, rel, hw, xo, fun k S1 μ1 F1 H1 hR e1 r1 => ?_⟩
    cases k with
    | false => exact iteF ⟨μ1, F1, env, S1, E, R, r1, hR, xo.ext e1, fun z S2 μ2 F2 H2 hz e2 r2 => post z S2 μ2 F2 H2 hz (e1.trans e2) r2⟩
    | true =>
      obtain ⟨b, e, h⟩ := (show ∃ b, W.t (.bl true) = .t (.bl b) ∧ R b S1 from hR)
      cases e
      exact iteT (post _ S1 μ1 F1 H1 h e1 r1)
theorem SE.ite (hc : SC X Ew c wc) (ha : SE X Ew a wa) (hb : SE X Ew b wb) : SE X Ew (.IfExp c a b pos) (wIte wc wa wb) :=
  PE.imp (pe_ifExp hc ha hb) fun σ H Q ⟨μ, F, env, S, E, R, rel, hw, xo, post⟩ => by
    refine ⟨μ, F, env, S, E, _, rel, hw, xo, fun k S1 μ1 F1 H1 hR e1 r1 => ?_⟩
    cases k with
    | true => exact iteT ⟨μ1, F1, env, S1, E, R, r1, hR, xo.ext e1, fun z S2 μ2 F2 u H2 hz e2 r2 q2 => post z S2 μ2 F2 u H2 hz (e1.trans e2) r2 q2⟩
    | false => exact iteF ⟨μ1, F1, env, S1, E, R, r1, hR, xo.ext e1, fun z S2 μ2 F2 u H2 hz e2 r2 q2 => post z S2 μ2 F2 u H2 hz (e1.trans e2) r2 q2⟩
theorem cb_imp {K : PySem.W.Frag} {mg : Str → Option Value} {σ : L2.St} {H : Hp} {Q : VK} (h : rdE K mg Ew (wB g wA) σ H Q) : tCB (rP K mg g) (rdA K mg Ew wA) σ H Q := by
  obtain ⟨μ, F, env, S, E, R, rel, hw, xo, post⟩ := h
  refine ⟨μ, F, env, S, E, _, rel, hw, xo, fun zs S1 μ1 F1 vs H1 hx e1 r1 q1 => ?_⟩
  obtain ⟨ts, hv, hg⟩ := vw_of hx
  exact ⟨F1, ts, _, r1.sub, views_ok r1 q1 hv, hg, fun t F' H' w ht st rt => post (.t t) S1 μ1 F' w H' ht (e1.trans st.ext) (r1.step st) rt⟩
variable {x : Str} {p : Pos} {id Ty : String}
theorem SE.callB (hc : CallR X (.builtin id) (rP X.K X.mg g)) (hg : Gl X x) (hm : X.mg x = none) (hv : bootBuiltins x = some (.builtin id)) (ha : SA X Ew (e :: es) wA) (hn : x ≠ "__name__") (hdb : (x == ("__debug__" : Str)) = false)
    (he : starEach (e :: es) X.env = (false, eval e X.env) :: starEach es X.env) (hpl : (backTo pos (starEach es X.env)).any (·.1) = false) : SE X Ew (.Call (.Name x p) (e :: es) [] pos) (wB g wA) :=
  PE.imp (pe_callB hc hg hm hv ha hn hdb he hpl) fun σ H Q h => cb_imp h
theorem SE.callTy (hc : CallR X (.type Ty) (rP X.K X.mg g)) (hg : Gl X x) (hm : X.mg x = none) (hv : bootBuiltins x = some (.type Ty)) (ha : SA X Ew (e :: es) wA) (hn : x ≠ "__name__") (hdb : (x == ("__debug__" : Str)) = false)
    (he : starEach (e :: es) X.env = (false, eval e X.env) :: starEach es X.env) (hpl : (backTo pos (starEach es X.env)).any (·.1) = false) : SE X Ew (.Call (.Name x p) (e :: es) [] pos) (wB g wA) :=
  PE.imp (pe_callTy hc hg hm hv ha hn hdb he hpl) fun σ H Q h => cb_imp h
theorem SE.ix (hr : IxR X fun x y => rP X.K X.mg g [x, y]) (ha : SE X Ew a wa) (hb : SE X Ew b wb) (hs : PlainIx b) : SE X Ew (.Subscript a b pos) (wOp2 g wa wb) :=
  PE.imp (pe_ix hr ha hb hs) fun σ H Q h => op2_imp h
end
end Tw
set_option Elab.async false
set_option linter.all false
set_option maxRecDepth 100000
namespace Tw
open PySem PySem.Spec PyProof.Rows L2

def g1 (f : T → (T → Prop) → Prop) : PO1 := fun ts k => match ts with
  | [a] => f a k
  | _ => False
def g2 (f : T → T → (T → Prop) → Prop) : PO1 := fun ts k => match ts with
  | [a, b] => f a b k
  | _ => False

mutual
def T.toD : T → Option PyData
  | .non => some .none
  | .bl b => some (.bool b)
  | .int i => some (.int i)
  | .str x => some (.str x)
  | .tup xs => (T.toDs xs).map .tuple
  | .lst xs => (T.toDs xs).map .list
  | .scr ns => some (.list (ns.map .int))
  | _ => none
def T.toDs : List T → Option (List PyData)
  | [] => some []
  | x :: xs => match T.toD x, T.toDs xs with
    | some d, some ds => some (d :: ds)
    | _, _ => none
end
/-- == of trees -/
def eqT : T → T → Option Bool
  | .str x, .str y => some (x == y)
  | a, b => match a.toD, b.toD with
    | some d, some e => if (SeqAt.shaped d && SeqAt.shaped e) = true then some (PyData.eqv d e) else none
    | _, _ => none
def okB (o : Option Bool) (k : T → Prop) : Prop := match o with
  | some b => k (.bl b)
  | none => False
def oEq : T → T → (T → Prop) → Prop := fun a b k => okB (eqT a b) k
def oNe : T → T → (T → Prop) → Prop := fun a b k => okB ((eqT a b).map (!·)) k
def oLt : T → T → (T → Prop) → Prop
  | .int i, .int j, k => k (.bl (decide (i < j)))
  | _, _, _ => False
def oLe : T → T → (T → Prop) → Prop
  | .int i, .int j, k => k (.bl (decide (i ≤ j)))
  | _, _, _ => False
def oGt : T → T → (T → Prop) → Prop
  | .int i, .int j, k => k (.bl (decide (j < i)))
  | _, _, _ => False
def oGe : T → T → (T → Prop) → Prop
  | .int i, .int j, k => k (.bl (decide (j ≤ i)))
  | _, _, _ => False
def T.isNon : T → Bool
  | .non => true
  | _ => false
def isT : T → T → Option Bool
  | a, .non => some a.isNon
  | .bl a, .bl b => some (decide (a = b))
  | _, _ => none
def oIs : T → T → (T → Prop) → Prop := fun a b k => okB (isT a b) k
def oIsNot : T → T → (T → Prop) → Prop := fun a b k => okB ((isT a b).map (!·)) k
def anyEq (d : PyData) (ds : List PyData) : Bool := ds.any fun y => PyData.eqv y d
def inT : T → T → Option Bool
  | .str x, .str y => some (!(Builtin.Str.occurrences y x 0 y.length 1).isEmpty)
  | a, .lst xs => match a.toD, T.toDs xs with
    | some d, some ds => if (SeqAt.shaped d && SeqAt.shaped (.list ds)) = true then some (anyEq d ds) else none
    | _, _ => none
  | a, .tup xs => match a.toD, T.toDs xs with
    | some d, some ds => if (SeqAt.shaped d && SeqAt.shaped (.tuple ds)) = true then some (anyEq d ds) else none
    | _, _ => none
  | _, _ => none
def oIn : T → T → (T → Prop) → Prop := fun a b k => okB (inT a b) k
def oNotIn : T → T → (T → Prop) → Prop := fun a b k => okB ((inT a b).map (!·)) k
def oAdd : T → T → (T → Prop) → Prop
  | .int i, .int j, k => k (.int (i + j))
  | .str a, .str b, k => a.length + b.length ≤ sizeLine ∧ k (.str (a ++ b))
  | .lst a, .lst b, k => a.length + b.length ≤ sizeLine ∧ k (.lst (a ++ b))
  | .tup a, .tup b, k => a ≠ [] ∧ a.length + b.length ≤ sizeLine ∧ k (.tup (a ++ b))
  | _, _, _ => False
def oSub : T → T → (T → Prop) → Prop
  | .int i, .int j, k => k (.int (i - j))
  | _, _, _ => False
def oMul : T → T → (T → Prop) → Prop
  | .int i, .int j, k => CMulW i j ∧ k (.int (i * j))
  | .lst a, .int j, k => -(2 ^ 63) ≤ j ∧ j < 2 ^ 63 ∧ a.length * j.toNat ≤ sizeLine ∧ k (.lst (List.replicate j.toNat a).flatten)
  | .str a, .int j, k => MulOk a j ∧ k (.str (Txt.mul a j))
  | _, _, _ => False
def oMod : T → T → (T → Prop) → Prop
  | .int i, .int j, k => 0 < j ∧ k (.int (i % j))
  | _, _, _ => False
def oDiv : T → T → (T → Prop) → Prop
  | .int i, .int j, k => CDivW i j ∧ k (.int (i / j))
  | _, _, _ => False
def oPow : T → T → (T → Prop) → Prop
  | .int i, .int j, k => CPow i j ∧ k (.int (i ^ j.toNat))
  | _, _, _ => False
def oNeg : T → (T → Prop) → Prop
  | .int i, k => k (.int (-i))
  | _, _ => False
def okT (o : Option T) (k : T → Prop) : Prop := match o with
  | some t => k t
  | none => False
def ixT : T → T → Option T
  | .lst xs, .int i => atI xs i
  | .tup xs, .int i => atI xs i
  | .scr ns, .int i => (atI ns i).map .int
  | .str z, .int i => if z.length ≤ sizeLine then (atI z.cps.toList i).map fun c => .str ⟨#[c]⟩ else none
  | _, _ => none
def oIx : T → T → (T → Prop) → Prop := fun a b k => okT (ixT a b) k
def lenT : T → Option Nat
  | .lst xs => some xs.length
  | .tup xs => some xs.length
  | .scr ns => some ns.length
  | .str z => if z.length ≤ sizeLine then some z.length else none
  | _ => none
def oLen : T → (T → Prop) → Prop := fun a k => match lenT a with
  | some n => k (.int n)
  | none => False
def oAbs : T → (T → Prop) → Prop
  | .int i, k => k (.int (if i < 0 then -i else i))
  | _, _ => False
def oMax : T → T → (T → Prop) → Prop
  | .int i, .int j, k => k (.int (if j > i then j else i))
  | _, _, _ => False
def oMin : T → T → (T → Prop) → Prop
  | .int i, .int j, k => k (.int (if j < i then j else i))
  | _, _, _ => False
def oTuple : T → (T → Prop) → Prop
  | .lst xs, k => k (.tup xs)
  | .tup xs, k => k (.tup xs)
  | _, _ => False
def T.toR : T → Option PyData
  | .emp => some (.dict [])
  | t => t.toD
def oRepr : T → (T → Prop) → Prop := fun a k => match a.toR with
  | some d => d.showable = true ∧ d.depth ≤ 64 ∧ d.shown.length ≤ sizeLine ∧ k (.str d.shown)
  | none => False
def oStr : T → (T → Prop) → Prop
  | .int i, k => i.natAbs.log2 < 1920 ∧ k (.str (toString i))
  | _, _ => False
inductive BT where
  | int | str | tuple | bool | list | dict
  deriving DecidableEq
def BT.name : BT → String
  | .int => "int" | .str => "str" | .tuple => "tuple" | .bool => "bool" | .list => "list" | .dict => "dict"
def T.tyN : T → Option String
  | .non => some "NoneType" | .bl _ => some "bool" | .int _ => some "int" | .str _ => some "str" | .tup _ => some "tuple" | .lst _ => some "list" | .scr _ => some "list" | .emp => some "dict"
  | _ => none
def isiT : T → BT → Option Bool
  | .bl _, .bool => some true | .bl _, .int => some true
  | .int _, .int => some true
  | .str _, .str => some true
  | .tup _, .tuple => some true
  | .lst _, .list => some true
  | .scr _, .list => some true
  | .emp, .dict => some true
  | .exc _, _ => none | .exc1 _ _ _, _ => none | .glb _, _ => none | .ty _, _ => none
  | _, _ => some false
def oIsi (b : BT) : T → (T → Prop) → Prop := fun a k => okB (isiT a b) k

section
variable {K : PySem.W.Frag} {mg : Str → Option Value} {F H : Hp} {v : V}
theorem rt_non : RT K mg F .non v ↔ v = .non := by rw [RT]
theorem rt_bl {b} : RT K mg F (.bl b) v ↔ v = .bl b := by rw [RT]
theorem rt_int {b} : RT K mg F (.int b) v ↔ v = .int b := by rw [RT]
theorem rt_str {b} : RT K mg F (.str b) v ↔ v = .str b := by rw [RT]
theorem rt_ty {b} : RT K mg F (.ty b) v ↔ v = .ty b := by rw [RT]
theorem rt_tup {xs} : RT K mg F (.tup xs) v ↔ ∃ a vs, v = .ref a ∧ SqD K F a vs ∧ RTs K mg F xs vs := by rw [RT]
theorem rt_lst {xs} : RT K mg F (.lst xs) v ↔ ∃ a vs, v = .ref a ∧ F a = some (.lst vs) ∧ RTs K mg F xs vs := by rw [RT]
theorem rt_scr {ns} : RT K mg F (.scr ns) v ↔ ∃ a, v = .ref a ∧ SqL K F a (ns.map V.int) := by rw [RT]
theorem rv_non : RV K mg F H .non v ↔ v = .non := by unfold RV; exact rt_non
theorem rv_bl {b} : RV K mg F H (.bl b) v ↔ v = .bl b := by unfold RV; exact rt_bl
theorem rv_int {b} : RV K mg F H (.int b) v ↔ v = .int b := by unfold RV; exact rt_int
theorem rv_str {b} : RV K mg F H (.str b) v ↔ v = .str b := by unfold RV; exact rt_str
theorem rv_ty {b} : RV K mg F H (.ty b) v ↔ v = .ty b := by unfold RV; exact rt_ty
theorem rv_tup {xs} : RV K mg F H (.tup xs) v ↔ ∃ a vs, v = .ref a ∧ SqD K F a vs ∧ RTs K mg F xs vs := by unfold RV; exact rt_tup
theorem rv_lst {xs} : RV K mg F H (.lst xs) v ↔ ∃ a vs, v = .ref a ∧ H a = some (.lst vs) ∧ RTs K mg F xs vs := by unfold RV; exact Iff.rfl
theorem rv_scr {ns} : RV K mg F H (.scr ns) v ↔ ∃ a, v = .ref a ∧ SqL K F a (ns.map V.int) := by unfold RV; exact rt_scr
theorem rv_emp : RV K mg F H .emp v ↔ ∃ a, v = .ref a ∧ H a = some (.dK []) := by unfold RV; exact Iff.rfl
theorem rvs2 {a b : T} {x y : V} (h : RVs K mg F H [a, b] [x, y]) : RV K mg F H a x ∧ RV K mg F H b y := by
  obtain ⟨v, r, e, h1, v2, r2, e2, h2, e3⟩ := h
  cases e
  cases e2
  exact ⟨h1, h2⟩
theorem rvs1 {a : T} {x : V} (h : RVs K mg F H [a] [x]) : RV K mg F H a x := by
  obtain ⟨v, r, e, h1, e3⟩ := h
  cases e
  exact h1
theorem rvs1' {a : T} {vs : List V} (h : RVs K mg F H [a] vs) : ∃ x, vs = [x] ∧ RV K mg F H a x := by
  obtain ⟨v, r, e, h1, e3⟩ := h
  cases e3
  exact ⟨v, e, h1⟩
theorem rvs2' {a b : T} {vs : List V} (h : RVs K mg F H [a, b] vs) : ∃ x y, vs = [x, y] ∧ RV K mg F H a x ∧ RV K mg F H b y := by
  obtain ⟨v, r, e, h1, v2, r2, e2, h2, e3⟩ := h
  cases e3
  cases e2
  exact ⟨v, v2, e, h1, h2⟩
theorem g1_of {f : T → (T → Prop) → Prop} {ts : List T} {R : T → Prop} (h : g1 f ts R) : ∃ a, ts = [a] ∧ f a R := by
  match ts, h with
  | [a], h => exact ⟨a, rfl, h⟩
theorem g2_of {f : T → T → (T → Prop) → Prop} {ts : List T} {R : T → Prop} (h : g2 f ts R) : ∃ a b, ts = [a, b] ∧ f a b R := by
  match ts, h with
  | [a, b], h => exact ⟨a, b, rfl, h⟩
theorem okB_of {o : Option Bool} {k : T → Prop} (h : okB o k) : ∃ b, o = some b ∧ k (.bl b) := by
  cases o with
  | none => exact h.elim
  | some b => exact ⟨b, rfl, h⟩
theorem okT_of {o : Option T} {k : T → Prop} (h : okT o k) : ∃ b, o = some b ∧ k b := by
  cases o with
  | none => exact h.elim
  | some b => exact ⟨b, rfl, h⟩
end

section
variable {X : Cx} {pins : List (Addr × Obj)} {σ : L2.St} {H : Hp} {s : Shared}
theorem ints_reads (h : Heap) : ∀ {ns : List Int} {us : List Value}, Vals (ns.map V.int) us → ReadsAll h us (ns.map PyData.int) []
  | [], us, r => by
    cases r
    exact .nil
  | n :: ns, us, r => by
    cases r with
    | cons r1 r2 =>
      obtain ⟨t, rfl⟩ := r1
      exact .cons (.int n t) (ints_reads h r2)
theorem lst_reads (I : Inv X pins σ H s) {a : Addr} {vs : List V} {ds : List PyData} (h : H a = some (.lst vs)) (r : ∀ its, Vals vs its → ∃ as, ReadsAll s.heap its ds as) : ∃ as, Reads s.heap (.ref a) (.list ds) as := by
  obtain ⟨z, its, n, rv, e⟩ := I.hok a _ h
  obtain ⟨as, hr⟩ := r its rv
  exact ⟨_, .list e rfl rfl (by simpa using hr)⟩
mutual
theorem RT.reads (I : Inv X pins σ H s) {F : Hp} (sm : Same F H) : ∀ (t : T) (v : V) (u : Value) (d : PyData), RT X.K X.mg F t v → RelV v u → t.toD = some d → ∃ as, Reads s.heap u d as
  | .non, v, u, d, r, q, e => by
    rw [rt_non] at r
    subst r
    unfold T.toD at e
    cases e
    cases q
    exact ⟨_, .none⟩
  | .bl b, v, u, d, r, q, e => by
    rw [rt_bl] at r
    subst r
    unfold T.toD at e
    cases e
    cases q
    exact ⟨_, .bool b⟩
  | .int i, v, u, d, r, q, e => by
    rw [rt_int] at r
    subst r
    unfold T.toD at e
    cases e
    obtain ⟨t, rfl⟩ := q
    exact ⟨_, .int i t⟩
  | .str i, v, u, d, r, q, e => by
    rw [rt_str] at r
    subst r
    unfold T.toD at e
    cases e
    obtain ⟨t, rfl⟩ := q
    exact ⟨_, .str i t⟩
  | .tup xs, v, u, d, r, q, e => by
    rw [rt_tup] at r
    obtain ⟨a, vs, rfl, hq, r⟩ := r
    cases q
    unfold T.toD at e
    cases hd : T.toDs xs with
    | none => rw [hd] at e; cases e
    | some ds =>
      rw [hd] at e
      cases e
      obtain ⟨its, rv, ⟨o, h1, h2, n, h3⟩, _⟩ := I.tuple (Same.seqT sm hq)
      obtain ⟨as, hr⟩ := RTs.reads I sm xs vs its ds r rv hd
      exact ⟨as, .tuple h1 h2 h3 (by simpa using hr)⟩
  | .lst xs, v, u, d, r, q, e => by
    rw [rt_lst] at r
    obtain ⟨a, vs, rfl, hq, r⟩ := r
    cases q
    unfold T.toD at e
    cases hd : T.toDs xs with
    | none => rw [hd] at e; cases e
    | some ds =>
      rw [hd] at e
      cases e
      exact lst_reads I (sm _ _ hq) (fun its rv => RTs.reads I sm xs vs its ds r rv hd)
  | .scr ns, v, u, d, r, q, e => by
    rw [rt_scr] at r
    obtain ⟨a, rfl, hq⟩ := r
    cases q
    unfold T.toD at e
    cases e
    obtain ⟨its, rv, ⟨o, n, h1, h2, h3, h4⟩, _⟩ := I.list (sm.seq hq)
    exact ⟨_, .list h1 h2 h4 (by simpa using ints_reads s.heap rv)⟩
  | .emp, v, u, d, r, q, e => by unfold T.toD at e; cases e
  | .ty _, v, u, d, r, q, e => by unfold T.toD at e; cases e
  | .glb _, v, u, d, r, q, e => by unfold T.toD at e; cases e
  | .exc _, v, u, d, r, q, e => by unfold T.toD at e; cases e
  | .exc1 _ _ _, v, u, d, r, q, e => by unfold T.toD at e; cases e
theorem RTs.reads (I : Inv X pins σ H s) {F : Hp} (sm : Same F H) : ∀ (ts : List T) (vs : List V) (us : List Value) (ds : List PyData), RTs X.K X.mg F ts vs → Vals vs us → T.toDs ts = some ds → ∃ as, ReadsAll s.heap us ds as
  | [], vs, us, ds, r, q, e => by
    rw [rts_nil] at r
    subst r
    unfold T.toDs at e
    cases e
    cases q
    exact ⟨_, .nil⟩
  | t :: ts, vs, us, ds, r, q, e => by
    rw [rts_cons] at r
    obtain ⟨v, vr, rfl, h1, h2⟩ := r
    unfold T.toDs at e
    cases e1 : T.toD t with
    | none => rw [e1] at e; cases e
    | some d =>
      cases e2 : T.toDs ts with
      | none => rw [e1, e2] at e; cases e
      | some dr =>
        rw [e1, e2] at e
        cases e
        cases q with
        | cons q1 q2 =>
          obtain ⟨as, z1⟩ := RT.reads I sm t v _ d h1 q1 e1
          obtain ⟨bs, z2⟩ := RTs.reads I sm ts vr _ dr h2 q2 e2
          exact ⟨as ++ bs, .cons z1 z2⟩
end
theorem RV.reads (I : Inv X pins σ H s) {F : Hp} (sm : Same F H) : ∀ {t : T} {v : V} {u : Value} {d : PyData}, RV X.K X.mg F H t v → RelV v u → t.toD = some d → ∃ as, Reads s.heap u d as
  | .lst xs, v, u, d, r, q, e => by
    rw [rv_lst] at r
    obtain ⟨a, vs, rfl, hq, r⟩ := r
    cases q
    unfold T.toD at e
    cases hd : T.toDs xs with
    | none => rw [hd] at e; cases e
    | some ds =>
      rw [hd] at e
      cases e
      exact lst_reads I hq (fun its rv => RTs.reads I sm xs vs its ds r rv hd)
  | .emp, v, u, d, r, q, e => by unfold T.toD at e; cases e
  | .non, v, u, d, r, q, e => RT.reads I sm _ v u d r q e
  | .bl _, v, u, d, r, q, e => RT.reads I sm _ v u d r q e
  | .int _, v, u, d, r, q, e => RT.reads I sm _ v u d r q e
  | .str _, v, u, d, r, q, e => RT.reads I sm _ v u d r q e
  | .ty _, v, u, d, r, q, e => RT.reads I sm _ v u d r q e
  | .glb _, v, u, d, r, q, e => RT.reads I sm _ v u d r q e
  | .tup _, v, u, d, r, q, e => RT.reads I sm _ v u d r q e
  | .scr _, v, u, d, r, q, e => RT.reads I sm _ v u d r q e
  | .exc _, v, u, d, r, q, e => RT.reads I sm _ v u d r q e
  | .exc1 _ _ _, v, u, d, r, q, e => RT.reads I sm _ v u d r q e
mutual
theorem toD_noDict : ∀ (t : T) (d : PyData), t.toD = some d → d.hasDict = false
  | .non, d, e => by unfold T.toD at e; cases e; rfl
  | .bl _, d, e => by unfold T.toD at e; cases e; rfl
  | .int _, d, e => by unfold T.toD at e; cases e; rfl
  | .str _, d, e => by unfold T.toD at e; cases e; rfl
  | .tup xs, d, e => by
    unfold T.toD at e
    cases hd : T.toDs xs with
    | none => rw [hd] at e; cases e
    | some ds =>
      rw [hd] at e
      cases e
      simpa [PyData.hasDict] using toDs_noDict xs ds hd
  | .lst xs, d, e => by
    unfold T.toD at e
    cases hd : T.toDs xs with
    | none => rw [hd] at e; cases e
    | some ds =>
      rw [hd] at e
      cases e
      simpa [PyData.hasDict] using toDs_noDict xs ds hd
  | .scr ns, d, e => by
    unfold T.toD at e
    cases e
    have z2 : ∀ ms : List Int, PyData.hasDictAll (ms.map PyData.int) = false := by
      intro ms
      induction ms with
      | nil => rfl
      | cons m ms ih => simp [PyData.hasDictAll, PyData.hasDict, ih]
    simpa [PyData.hasDict] using z2 ns
  | .emp, d, e => by unfold T.toD at e; cases e
  | .ty _, d, e => by unfold T.toD at e; cases e
  | .glb _, d, e => by unfold T.toD at e; cases e
  | .exc _, d, e => by unfold T.toD at e; cases e
  | .exc1 _ _ _, d, e => by unfold T.toD at e; cases e
theorem toDs_noDict : ∀ (ts : List T) (ds : List PyData), T.toDs ts = some ds → PyData.hasDictAll ds = false
  | [], ds, e => by unfold T.toDs at e; cases e; rfl
  | t :: ts, ds, e => by
    unfold T.toDs at e
    cases e1 : T.toD t with
    | none => rw [e1] at e; cases e
    | some d =>
      cases e2 : T.toDs ts with
      | none => rw [e1, e2] at e; cases e
      | some dr =>
        rw [e1, e2] at e
        cases e
        simp [PyData.hasDictAll, toD_noDict t d e1, toDs_noDict ts dr e2]
end
end

section
variable {X : Cx}
abbrev OpT (X : Cx) (f : Value → Value → Sem Value) (o : T → T → (T → Prop) → Prop) : Prop := OpR X f fun x y => rP X.K X.mg (g2 o) [x, y]
abbrev CallT (X : Cx) (c : Value) (g : PO1) : Prop := CallR X c (rP X.K X.mg g)
theorem opT_of {f : Value → Value → Sem Value} {o : T → T → (T → Prop) → Prop}
    (h : ∀ (pins : List (Addr × Obj)) (s : Shared) (σ : L2.St) (H : Hp) (x y : V) (v u : Value) (Q : VK) (F : Hp) (a b : T) (R : T → Prop), Inv X pins σ H s → RelV x v → RelV y u → Same F H → RV X.K X.mg F H a x → RV X.K X.mg F H b y → o a b R →
      (∀ t F' H' w, R t → Step F H F' H' → RT X.K X.mg F' t w → Q w H') → wpAny (model X.prog X.w) X.A (f v u) (EP X pins σ Q) X.xe s) : OpT X f o := by
  intro pins s σ H x y v u Q I rx ry ⟨F, ts, R, sm, rv, hg, post⟩
  obtain ⟨a, b, rfl, ho⟩ := g2_of hg
  obtain ⟨r1, r2⟩ := rvs2 rv
  exact h pins s σ H x y v u Q F a b R I rx ry sm r1 r2 ho post
/-- an answer that is no object -/
theorem flat_post {K : PySem.W.Frag} {mg : Str → Option Value} {F H : Hp} {R : T → Prop} {Q : VK} {t : T} {w : V} (sm : Same F H) (post : ∀ t F' H' w, R t → Step F H F' H' → RT K mg F' t w → Q w H') (h : R t) (r : RT K mg F t w) : Q w H := post t F H w h (Step.refl sm) r
theorem new_lst {K : PySem.W.Frag} {mg : Str → Option Value} {F H : Hp} {R : T → Prop} {Q : VK} {xs : List T} {vs : List V} {p : Addr} (sm : Same F H) (post : ∀ t F' H' w, R t → Step F H F' H' → RT K mg F' t w → Q w H') (h : R (.lst xs)) (r : RTs K mg F xs vs) (hp : H p = none) : Q (.ref p) (upd H p (.lst vs)) :=
  post (.lst xs) _ _ _ h (Step.new sm hp) (rt_lst.mpr ⟨p, vs, rfl, upd_same, RTs.mono (Step.new sm hp).f _ _ r⟩)
theorem new_tup {K : PySem.W.Frag} {mg : Str → Option Value} {F H : Hp} {R : T → Prop} {Q : VK} {xs : List T} {vs : List V} {p : Addr} {us : List Value} (sm : Same F H) (post : ∀ t F' H' w, R t → Step F H F' H' → RT K mg F' t w → Q w H') (h : R (.tup xs)) (r : RTs K mg F xs vs) (hp : H p = none) : Q (.ref p) (upd H p (.frz (tObj us) (.tup vs))) :=
  post (.tup xs) _ _ _ h (Step.new sm hp) (rt_tup.mpr ⟨p, vs, rfl, SqD.of rfl upd_same, RTs.mono (Step.new sm hp).f _ _ r⟩)
theorem RTs.nil_iff {K : PySem.W.Frag} {mg : Str → Option Value} {F : Hp} {xs : List T} {vs : List V} (r : RTs K mg F xs vs) : vs = [] ↔ xs = [] := by
  have l := r.length
  constructor
  · intro e; subst e; exact List.length_eq_zero_iff.mp (by simpa using l.symm)
  · intro e; subst e; exact List.length_eq_zero_iff.mp (by simpa using l)
/-- t + u, t not empty -/
def rCatD (K : PySem.W.Frag) : R2 := fun x y H Q => ∃ a b xs ys, x = .ref a ∧ y = .ref b ∧ SqT K H a xs ∧ SqT K H b ys ∧ xs ≠ [] ∧ xs.length + ys.length ≤ sizeLine ∧
  (ys = [] → Q (.ref a) H) ∧ (ys ≠ [] → ∀ (p : Addr) (us : List Value), H p = none → Q (.ref p) (upd H p (.frz (tObj us) (.tup (xs ++ ys)))))
theorem op_catD : OpR X (binaryOp .Add) (rCatD X.K) := by
  rintro pins s σ H x y v u Q I rx ry ⟨a, b, xs, ys, rfl, rfl, ha, hb, hx, hz, q1, q2⟩
  cases rx
  cases ry
  obtain ⟨its, r1, p1, _⟩ := I.tuple ha
  obtain ⟨its2, r2, p2, _⟩ := I.tuple hb
  refine HT.cat_tup p1 p2 (fun z => hx (r1.nil_iff.mp z)) (fun z => ⟨.ref a, H, I, rfl, q1 (r2.nil_iff.mp z)⟩) (fun z => ⟨.ref s.heap.objs.size, _, I.laid (t' := s.toks) (o := .frz (tObj (its ++ its2)) (.tup (xs ++ ys))) (fun b ob q => Heap.get?_push_of_some _ q) (Nat.le_refl _) ?_, rfl, q2 (fun w => z (r2.nil_iff.mpr w)) _ _ (I.hok.fresh (Nat.le_refl _))⟩) (by rw [← r1.length, ← r2.length]; exact hz)
  exact ⟨Heap.get?_push_size _ rfl, by rw [List.length_append]; exact hz, _, r1.append r2, IsTup.new _ _⟩
/-- tuple(xs) -/
theorem call_tupleD : CallR X (.type "tuple") (fun xs H Q => ∃ p ys, xs = [.ref p] ∧ ((SqL X.K H p ys ∧ ∀ (l : Addr) (us : List Value), H l = none → Q (.ref l) (upd H l (.frz (tObj us) (.tup ys)))) ∨ (SqT X.K H p ys ∧ Q (.ref p) H))) := by
  rintro pins s σ H xs us Q I r ⟨p, ys, rfl, h⟩
  obtain ⟨u, rfl, rx⟩ := vals1 r
  cases rx
  rcases h with ⟨hq, q⟩ | ⟨hq, q⟩
  · obtain ⟨its, r', pl, hz⟩ := I.list hq
    have hlen := r'.length
    refine call_tuple_list pl.isList (fun h' kp => ?_) (by simp only [List.size_toArray] <;> omega)
    have I1 : Inv X pins σ H { s with heap := h' } := I.kept (t' := s.toks) kp
    exact ⟨.ref h'.objs.size, _, I1.laid (t' := s.toks) (o := .frz (tObj its) (.tup ys)) (fun b o e => Heap.get?_push_of_some _ e) (Nat.le_refl _) ⟨Heap.get?_push_size _ rfl, hz, its, r', IsTup.new _ _⟩, rfl, q _ _ (I1.hok.fresh (Nat.le_refl _))⟩
  · obtain ⟨its, r', pl, hz⟩ := I.tuple hq
    exact call_tuple_same pl ⟨.ref p, H, I, rfl, q⟩
theorem op_addT : OpT X (binaryOp .Add) oAdd := opT_of fun pins s σ H x y v u Q F a b R I rx ry sm r1 r2 ho post => by
  unfold oAdd at ho
  split at ho
  · rw [rv_int] at r1 r2
    exact op_add pins s σ H x y v u Q I rx ry ⟨_, _, r1, r2, flat_post sm post ho (rt_int.mpr rfl)⟩
  · rw [rv_str] at r1 r2
    exact op_add_str pins s σ H x y v u Q I rx ry ⟨_, _, r1, r2, ho.1, flat_post sm post ho.2 (rt_str.mpr rfl)⟩
  · rw [rv_lst] at r1 r2
    obtain ⟨a1, vs1, rfl, h1, q1⟩ := r1
    obtain ⟨a2, vs2, rfl, h2, q2⟩ := r2
    exact op_cat pins s σ H _ _ v u Q I rx ry ⟨a1, a2, vs1, vs2, rfl, rfl, h1, h2, by rw [q1.length, q2.length]; exact ho.1, fun p hp => new_lst sm post ho.2 (q1.append q2) hp⟩
  · rw [rv_tup] at r1 r2
    obtain ⟨a1, vs1, rfl, h1, q1⟩ := r1
    obtain ⟨a2, vs2, rfl, h2, q2⟩ := r2
    obtain ⟨n1, n2, n3⟩ := ho
    refine op_catD pins s σ H _ _ v u Q I rx ry ⟨a1, a2, vs1, vs2, rfl, rfl, Same.seqT sm h1, Same.seqT sm h2, fun e => n1 (q1.nil_iff.mp e), by rw [q1.length, q2.length]; exact n2, fun e => ?_, fun e p us hp => new_tup sm post n3 (q1.append q2) hp⟩
    have e2 := q2.nil_iff.mp e
    subst e2
    rw [List.append_nil] at n3
    exact flat_post sm post n3 (rt_tup.mpr ⟨a1, vs1, rfl, h1, q1⟩)
  · exact ho.elim
theorem op_subT : OpT X (binaryOp .Sub) oSub := opT_of fun pins s σ H x y v u Q F a b R I rx ry sm r1 r2 ho post => by
  unfold oSub at ho
  split at ho
  · rw [rv_int] at r1 r2
    exact op_sub pins s σ H x y v u Q I rx ry ⟨_, _, r1, r2, flat_post sm post ho (rt_int.mpr rfl)⟩
  · exact ho.elim
theorem RTs.rep {K : PySem.W.Frag} {mg : Str → Option Value} {F : Hp} {xs : List T} {vs : List V} (r : RTs K mg F xs vs) : ∀ n, RTs K mg F (List.replicate n xs).flatten (List.replicate n vs).flatten
  | 0 => rts_nil.mpr rfl
  | n + 1 => by
    rw [List.replicate_succ, List.replicate_succ, List.flatten_cons, List.flatten_cons]
    exact r.append (RTs.rep r n)
theorem op_mulT : OpT X (binaryOp .Mult) oMul := opT_of fun pins s σ H x y v u Q F a b R I rx ry sm r1 r2 ho post => by
  unfold oMul at ho
  split at ho
  · rw [rv_int] at r1 r2
    exact op_mulW pins s σ H x y v u Q I rx ry ⟨_, _, r1, r2, ho.1, flat_post sm post ho.2 (rt_int.mpr rfl)⟩
  · rw [rv_lst] at r1
    rw [rv_int] at r2
    obtain ⟨a1, vs1, rfl, h1, q1⟩ := r1
    obtain ⟨n1, n2, n3, n4⟩ := ho
    exact op_rep pins s σ H _ _ v u Q I rx ry ⟨a1, _, vs1, rfl, r2, h1, n1, n2, by rw [q1.length]; exact n3, fun p hp => new_lst sm post n4 (q1.rep _) hp⟩
  · rw [rv_str] at r1
    rw [rv_int] at r2
    subst r1 r2
    obtain ⟨t, rfl⟩ := rx
    obtain ⟨u, rfl⟩ := ry
    exact PySem.SB.mul ho.1 fun t' k => ⟨.str _, H, I.tok k, ⟨t', rfl⟩, flat_post sm post ho.2 (rt_str.mpr rfl)⟩
  · exact ho.elim
theorem op_modT : OpT X (binaryOp .Mod) oMod := opT_of fun pins s σ H x y v u Q F a b R I rx ry sm r1 r2 ho post => by
  unfold oMod at ho
  split at ho
  · rw [rv_int] at r1 r2
    exact op_mod pins s σ H x y v u Q I rx ry ⟨_, _, r1, r2, ho.1, flat_post sm post ho.2 (rt_int.mpr rfl)⟩
  · exact ho.elim
theorem op_divT : OpT X (binaryOp .FloorDiv) oDiv := opT_of fun pins s σ H x y v u Q F a b R I rx ry sm r1 r2 ho post => by
  unfold oDiv at ho
  split at ho
  · rw [rv_int] at r1 r2
    exact op_fdivW pins s σ H x y v u Q I rx ry ⟨_, _, r1, r2, ho.1, flat_post sm post ho.2 (rt_int.mpr rfl)⟩
  · exact ho.elim
theorem op_powT : OpT X (binaryOp .Pow) oPow := opT_of fun pins s σ H x y v u Q F a b R I rx ry sm r1 r2 ho post => by
  unfold oPow at ho
  split at ho
  · rw [rv_int] at r1 r2
    exact op_pow pins s σ H x y v u Q I rx ry ⟨_, _, r1, r2, ho.1, flat_post sm post ho.2 (rt_int.mpr rfl)⟩
  · exact ho.elim
theorem un_negT : UnR X (unaryOp .USub) fun x => rP X.K X.mg (g1 oNeg) [x] := by
  intro pins s σ H x v Q I rx ⟨F, ts, R, sm, rv, hg, post⟩
  obtain ⟨a, rfl, ho⟩ := g1_of hg
  have r1 := rvs1 rv
  unfold oNeg at ho
  split at ho
  · rw [rv_int] at r1
    exact un_neg pins s σ H x v Q I rx ⟨_, r1, flat_post sm post ho (rt_int.mpr rfl)⟩
  · exact ho.elim
theorem eq_core {a b : T} {c : Bool} {pins : List (Addr × Obj)} {s : Shared} {σ : L2.St} {H : Hp} {x y : V} {v u : Value} {F : Hp} {Q Q' : VK} (hu : X.A.units + 64 < cLine) (I : Inv X pins σ H s) (rx : RelV x v) (ry : RelV y u) (sm : Same F H)
    (r1 : RV X.K X.mg F H a x) (r2 : RV X.K X.mg F H b y) (e : eqT a b = some c) (q : Q (.bl c) H) (q' : Q' (.bl (!c)) H) :
    wpAny (model X.prog X.w) X.A (compareOp .Eq v u) (EP X pins σ Q) X.xe s ∧ wpAny (model X.prog X.w) X.A (compareOp .NotEq v u) (EP X pins σ Q') X.xe s := by
  unfold eqT at e
  split at e
  · cases e
    rw [rv_str] at r1 r2
    subst r1 r2
    exact ⟨op_eq pins s σ H _ _ v u Q I rx ry ⟨rfl, by rw [dec_str]; exact q⟩, op_ne pins s σ H _ _ v u Q' I rx ry ⟨rfl, by rw [dec_str]; exact q'⟩⟩
  · cases hd : a.toD with
    | none => rw [hd] at e; cases e
    | some d =>
      cases he : b.toD with
      | none => rw [hd, he] at e; cases e
      | some d' =>
        rw [hd, he] at e
        dsimp only at e
        split at e
        · rename_i hs
          cases e
          rw [Bool.and_eq_true] at hs
          obtain ⟨as, z1⟩ := RV.reads I sm r1 rx hd
          obtain ⟨bs, z2⟩ := RV.reads I sm r2 ry he
          exact ⟨SeqAt.compareEq_shaped z1 z2 hs.1 hs.2 hu ⟨.bl _, H, I, rfl, q⟩, SeqAt.compareNe_shaped z1 z2 hs.1 hs.2 hu ⟨.bl _, H, I, rfl, q'⟩⟩
        · cases e
theorem map_not {o : Option Bool} {b : Bool} (h : o.map (!·) = some b) : o = some (!b) := by
  cases o with
  | none => cases h
  | some c =>
    have e : (!c) = b := Option.some.inj h
    rw [← e, Bool.not_not]
theorem op_eqT (hu : X.A.units + 64 < cLine) : OpT X (compareOp .Eq) oEq := opT_of fun pins s σ H x y v u Q F a b R I rx ry sm r1 r2 ho post => by
  obtain ⟨c, e, h⟩ := okB_of ho
  exact (eq_core (Q' := fun _ _ => True) hu I rx ry sm r1 r2 e (flat_post sm post h (rt_bl.mpr rfl)) trivial).1
theorem op_neT (hu : X.A.units + 64 < cLine) : OpT X (compareOp .NotEq) oNe := opT_of fun pins s σ H x y v u Q F a b R I rx ry sm r1 r2 ho post => by
  obtain ⟨c, e, h⟩ := okB_of ho
  refine (eq_core (Q := fun _ _ => True) hu I rx ry sm r1 r2 (map_not e) trivial ?_).2
  rw [Bool.not_not]
  exact flat_post sm post h (rt_bl.mpr rfl)
theorem op_ltT' : OpT X (compareOp .Lt) oLt := opT_of fun pins s σ H x y v u Q F a b R I rx ry sm r1 r2 ho post => by
  unfold oLt at ho
  split at ho
  · rw [rv_int] at r1 r2
    exact op_lt pins s σ H x y v u Q I rx ry ⟨_, _, r1, r2, flat_post sm post ho (rt_bl.mpr rfl)⟩
  · exact ho.elim
theorem op_leT' : OpT X (compareOp .LtE) oLe := opT_of fun pins s σ H x y v u Q F a b R I rx ry sm r1 r2 ho post => by
  unfold oLe at ho
  split at ho
  · rw [rv_int] at r1 r2
    exact op_le pins s σ H x y v u Q I rx ry ⟨_, _, r1, r2, flat_post sm post ho (rt_bl.mpr rfl)⟩
  · exact ho.elim
theorem op_gtT' : OpT X (compareOp .Gt) oGt := opT_of fun pins s σ H x y v u Q F a b R I rx ry sm r1 r2 ho post => by
  unfold oGt at ho
  split at ho
  · rw [rv_int] at r1 r2
    exact op_gt pins s σ H x y v u Q I rx ry ⟨_, _, r1, r2, flat_post sm post ho (rt_bl.mpr rfl)⟩
  · exact ho.elim
theorem op_geT' : OpT X (compareOp .GtE) oGe := opT_of fun pins s σ H x y v u Q F a b R I rx ry sm r1 r2 ho post => by
  unfold oGe at ho
  split at ho
  · rw [rv_int] at r1 r2
    exact op_ge pins s σ H x y v u Q I rx ry ⟨_, _, r1, r2, flat_post sm post ho (rt_bl.mpr rfl)⟩
  · exact ho.elim
theorem isNon_iff {K : PySem.W.Frag} {mg : Str → Option Value} {F H : Hp} {a : T} {x : V} (r : RV K mg F H a x) : decide (x = .non) = a.isNon := by
  cases a with
  | non => rw [rv_non] at r; subst r; rfl
  | bl b => rw [rv_bl] at r; subst r; rfl
  | int b => rw [rv_int] at r; subst r; rfl
  | str b => rw [rv_str] at r; subst r; rfl
  | ty b => rw [rv_ty] at r; subst r; rfl
  | glb y =>
    unfold RV RT at r
    obtain ⟨a, rfl, _⟩ := r
    rfl
  | tup xs => rw [rv_tup] at r; obtain ⟨a, _, rfl, _⟩ := r; rfl
  | lst xs => rw [rv_lst] at r; obtain ⟨a, _, rfl, _⟩ := r; rfl
  | scr xs => rw [rv_scr] at r; obtain ⟨a, rfl, _⟩ := r; rfl
  | emp => rw [rv_emp] at r; obtain ⟨a, rfl, _⟩ := r; rfl
  | exc c =>
    unfold RV RT at r
    obtain ⟨a, C, rfl, _⟩ := r
    rfl
  | exc1 c f t =>
    unfold RV RT at r
    obtain ⟨a, C, d, y, rfl, _⟩ := r
    rfl
theorem is_core {a b : T} {c : Bool} {pins : List (Addr × Obj)} {s : Shared} {σ : L2.St} {H : Hp} {x y : V} {v u : Value} {F : Hp} {Q Q' : VK} (I : Inv X pins σ H s) (rx : RelV x v) (ry : RelV y u)
    (r1 : RV X.K X.mg F H a x) (r2 : RV X.K X.mg F H b y) (e : isT a b = some c) (q : Q (.bl c) H) (q' : Q' (.bl (!c)) H) :
    wpAny (model X.prog X.w) X.A (compareOp .Is v u) (EP X pins σ Q) X.xe s ∧ wpAny (model X.prog X.w) X.A (compareOp .IsNot v u) (EP X pins σ Q') X.xe s := by
  unfold isT at e
  split at e
  · cases e
    rw [rv_non] at r2
    exact ⟨op_isN pins s σ H _ _ v u Q I rx ry ⟨r2, by rw [isNon_iff r1]; exact q⟩, op_notN pins s σ H _ _ v u Q' I rx ry ⟨r2, by rw [isNon_iff r1]; exact q'⟩⟩
  · cases e
    rw [rv_bl] at r1 r2
    exact ⟨op_isBl pins s σ H _ _ v u Q I rx ry ⟨_, _, r1, r2, q⟩, op_notBl pins s σ H _ _ v u Q' I rx ry ⟨_, _, r1, r2, q'⟩⟩
  · cases e
theorem op_isT : OpT X (compareOp .Is) oIs := opT_of fun pins s σ H x y v u Q F a b R I rx ry sm r1 r2 ho post => by
  obtain ⟨c, e, h⟩ := okB_of ho
  exact (is_core (Q' := fun _ _ => True) I rx ry r1 r2 e (flat_post sm post h (rt_bl.mpr rfl)) trivial).1
theorem op_isNotT : OpT X (compareOp .IsNot) oIsNot := opT_of fun pins s σ H x y v u Q F a b R I rx ry sm r1 r2 ho post => by
  obtain ⟨c, e, h⟩ := okB_of ho
  refine (is_core (Q := fun _ _ => True) I rx ry r1 r2 (map_not e) trivial ?_).2
  rw [Bool.not_not]
  exact flat_post sm post h (rt_bl.mpr rfl)
theorem in_core {a b : T} {c : Bool} {pins : List (Addr × Obj)} {s : Shared} {σ : L2.St} {H : Hp} {x y : V} {v u : Value} {F : Hp} {Q Q' : VK} (hu : X.A.units + 66 < cLine) (I : Inv X pins σ H s) (rx : RelV x v) (ry : RelV y u) (sm : Same F H)
    (r1 : RV X.K X.mg F H a x) (r2 : RV X.K X.mg F H b y) (e : inT a b = some c) (q : Q (.bl c) H) (q' : Q' (.bl (!c)) H) :
    wpAny (model X.prog X.w) X.A (compareOp .In v u) (EP X pins σ Q) X.xe s ∧ wpAny (model X.prog X.w) X.A (compareOp .NotIn v u) (EP X pins σ Q') X.xe s := by
  have room : ∀ {d : PyData} {n : Nat}, SeqAt.shaped d = true → X.A.units + 1 + min n d.depth < cLine := fun {d n} h => by
    have := SeqAt.depth_of_shaped h
    omega
  have key : ∀ {ds : List PyData} {d : PyData}, (SeqAt.shaped d && SeqAt.shaped (.list ds)) = true → PyData.canLayAll0 ds = true ∧ d.canLay0 = true ∧ X.A.units + 1 + min (PyData.depthAll ds) d.depth < cLine := fun {ds d} h => by
    rw [Bool.and_eq_true] at h
    exact ⟨by simpa [PyData.canLay0] using SeqAt.canLay_of_shaped h.2, SeqAt.canLay_of_shaped h.1, room h.1⟩
  have key2 : ∀ {ds : List PyData} {d : PyData}, (SeqAt.shaped d && SeqAt.shaped (.tuple ds)) = true → PyData.canLayAll0 ds = true ∧ d.canLay0 = true ∧ X.A.units + 1 + min (PyData.depthAll ds) d.depth < cLine := fun {ds d} h => by
    rw [Bool.and_eq_true] at h
    exact ⟨by simpa [PyData.canLay0] using SeqAt.canLay_of_shaped h.2, SeqAt.canLay_of_shaped h.1, room h.1⟩
  unfold inT at e
  split at e
  · cases e
    rw [rv_str] at r1 r2
    exact ⟨op_in_str pins s σ H _ _ v u Q I rx ry ⟨_, _, r1, r2, q⟩, op_notin_str pins s σ H _ _ v u Q' I rx ry ⟨_, _, r1, r2, q'⟩⟩
  · rename_i xs
    cases hd : a.toD with
    | none => rw [hd] at e; cases e
    | some d =>
      cases he : T.toDs xs with
      | none => rw [hd, he] at e; cases e
      | some ds =>
        rw [hd, he] at e
        dsimp only at e
        split at e
        · rename_i hs
          cases e
          obtain ⟨k1, k2, k3⟩ := key hs
          obtain ⟨as, z1⟩ := RV.reads I sm r1 rx hd
          obtain ⟨bs, z2⟩ := RV.reads (t := .lst xs) (d := .list ds) I sm r2 ry (by unfold T.toD; rw [he]; rfl)
          exact ⟨SeqAt.in_list_reads z2 z1 k1 k2 k3 ⟨.bl _, H, I, rfl, q⟩, SeqAt.notIn_list_reads z2 z1 k1 k2 k3 ⟨.bl _, H, I, rfl, q'⟩⟩
        · cases e
  · rename_i xs
    cases hd : a.toD with
    | none => rw [hd] at e; cases e
    | some d =>
      cases he : T.toDs xs with
      | none => rw [hd, he] at e; cases e
      | some ds =>
        rw [hd, he] at e
        dsimp only at e
        split at e
        · rename_i hs
          cases e
          obtain ⟨k1, k2, k3⟩ := key2 hs
          obtain ⟨as, z1⟩ := RV.reads I sm r1 rx hd
          obtain ⟨bs, z2⟩ := RV.reads (t := .tup xs) (d := .tuple ds) I sm r2 ry (by unfold T.toD; rw [he]; rfl)
          exact ⟨SeqAt.in_tuple_reads z2 z1 k1 k2 k3 ⟨.bl _, H, I, rfl, q⟩, SeqAt.notIn_tuple_reads z2 z1 k1 k2 k3 ⟨.bl _, H, I, rfl, q'⟩⟩
        · cases e
  · cases e
theorem op_inT (hu : X.A.units + 66 < cLine) : OpT X (compareOp .In) oIn := opT_of fun pins s σ H x y v u Q F a b R I rx ry sm r1 r2 ho post => by
  obtain ⟨c, e, h⟩ := okB_of ho
  exact (in_core (Q' := fun _ _ => True) hu I rx ry sm r1 r2 e (flat_post sm post h (rt_bl.mpr rfl)) trivial).1
theorem op_notInT (hu : X.A.units + 66 < cLine) : OpT X (compareOp .NotIn) oNotIn := opT_of fun pins s σ H x y v u Q F a b R I rx ry sm r1 r2 ho post => by
  obtain ⟨c, e, h⟩ := okB_of ho
  refine (in_core (Q := fun _ _ => True) hu I rx ry sm r1 r2 (map_not e) trivial ?_).2
  rw [Bool.not_not]
  exact flat_post sm post h (rt_bl.mpr rfl)
theorem RTs.atI {K : PySem.W.Frag} {mg : Str → Option Value} {F : Hp} {xs : List T} {vs : List V} {i : Int} {t : T} (r : RTs K mg F xs vs) (h : L2.atI xs i = some t) : ∃ v, L2.atI vs i = some v ∧ RT K mg F t v := by
  unfold L2.atI at h ⊢
  rw [r.length]
  cases e : ixN xs.length i with
  | none => rw [e] at h; cases h
  | some j =>
    rw [e] at h
    obtain ⟨v, e1, e2⟩ := RTs.get (i := j) r h
    exact ⟨v, e1, e2⟩
theorem atI_map {ns : List Int} {i : Int} {n : Int} (h : L2.atI ns i = some n) : L2.atI (ns.map V.int) i = some (.int n) := by
  unfold L2.atI at h ⊢
  rw [List.length_map]
  cases e : ixN ns.length i with
  | none => rw [e] at h; cases h
  | some j =>
    rw [e] at h
    have h' : ns[j]? = some n := h
    show (ns.map V.int)[j]? = _
    rw [List.getElem?_map, h']
    rfl
theorem ix_T : IxR X fun x y => rP X.K X.mg (g2 oIx) [x, y] := by
  intro value slice pins s σ H x y v u Q I rx ry h hsl
  obtain ⟨F, ts, R, sm, rv, hg, post⟩ := h
  obtain ⟨a, b, rfl, ho⟩ := g2_of hg
  obtain ⟨r1, r2⟩ := rvs2 rv
  obtain ⟨t, e, hR⟩ := okT_of ho
  unfold ixT at e
  split at e
  · rw [rv_lst] at r1
    rw [rv_int] at r2
    obtain ⟨p, vs, rfl, h1, q1⟩ := r1
    obtain ⟨w, e1, e2⟩ := q1.atI e
    exact ix_list value slice pins s σ H _ y v u Q I rx ry ⟨p, vs, _, w, rfl, r2, SqL.of h1, e1, flat_post sm post hR e2⟩ hsl
  · rw [rv_tup] at r1
    rw [rv_int] at r2
    obtain ⟨p, vs, rfl, h1, q1⟩ := r1
    obtain ⟨w, e1, e2⟩ := q1.atI e
    exact ix_tup value slice pins s σ H _ y v u Q I rx ry ⟨p, vs, _, w, rfl, r2, Same.seqT sm h1, e1, flat_post sm post hR e2⟩ hsl
  · rename_i ns i
    rw [rv_scr] at r1
    rw [rv_int] at r2
    obtain ⟨p, rfl, h1⟩ := r1
    cases hn : L2.atI ns i with
    | none => rw [hn] at e; cases e
    | some n =>
      rw [hn] at e
      cases e
      exact ix_list value slice pins s σ H _ y v u Q I rx ry ⟨p, _, _, .int n, rfl, r2, sm.seq h1, atI_map hn, flat_post sm post hR (rt_int.mpr rfl)⟩ hsl
  · rename_i z i
    rw [rv_str] at r1
    rw [rv_int] at r2
    split at e
    · rename_i hz
      cases hc : L2.atI z.cps.toList i with
      | none => rw [hc] at e; cases e
      | some c =>
        rw [hc] at e
        cases e
        exact ix_str value slice pins s σ H x y v u Q I rx ry ⟨z, i, c, r1, r2, hz, hc, flat_post sm post hR (rt_str.mpr rfl)⟩ hsl
    · cases e
  · cases e
theorem callT_of1 {c : Value} {o : T → (T → Prop) → Prop}
    (h : ∀ (pins : List (Addr × Obj)) (s : Shared) (σ : L2.St) (H : Hp) (x : V) (us : List Value) (Q : VK) (F : Hp) (a : T) (R : T → Prop), Inv X pins σ H s → Vals [x] us → Same F H → RV X.K X.mg F H a x → o a R →
      (∀ t F' H' w, R t → Step F H F' H' → RT X.K X.mg F' t w → Q w H') → wpAny (model X.prog X.w) X.A (call c us) (EP X pins σ Q) X.xe s) : CallT X c (g1 o) := by
  intro pins s σ H xs us Q I r ⟨F, ts, R, sm, rv, hg, post⟩
  obtain ⟨a, rfl, ho⟩ := g1_of hg
  obtain ⟨x, rfl, r1⟩ := rvs1' rv
  exact h pins s σ H x us Q F a R I r sm r1 ho post
theorem callT_of2 {c : Value} {o : T → T → (T → Prop) → Prop}
    (h : ∀ (pins : List (Addr × Obj)) (s : Shared) (σ : L2.St) (H : Hp) (x y : V) (us : List Value) (Q : VK) (F : Hp) (a b : T) (R : T → Prop), Inv X pins σ H s → Vals [x, y] us → Same F H → RV X.K X.mg F H a x → RV X.K X.mg F H b y → o a b R →
      (∀ t F' H' w, R t → Step F H F' H' → RT X.K X.mg F' t w → Q w H') → wpAny (model X.prog X.w) X.A (call c us) (EP X pins σ Q) X.xe s) : CallT X c (g2 o) := by
  intro pins s σ H xs us Q I r ⟨F, ts, R, sm, rv, hg, post⟩
  obtain ⟨a, b, rfl, ho⟩ := g2_of hg
  obtain ⟨x, y, rfl, r1, r2⟩ := rvs2' rv
  exact h pins s σ H x y us Q F a b R I r sm r1 r2 ho post
theorem call_lenT : CallT X (.builtin "len") (g1 oLen) := callT_of1 fun pins s σ H x us Q F a R I r sm r1 ho post => by
  unfold oLen at ho
  cases e : lenT a with
  | none => rw [e] at ho; exact ho.elim
  | some n =>
    rw [e] at ho
    refine call_len pins s σ H [x] us Q I r ⟨x, n, rfl, ?_, flat_post sm post ho (rt_int.mpr rfl)⟩
    unfold lenT at e
    split at e
    · rw [rv_lst] at r1
      obtain ⟨p, vs, rfl, h1, q1⟩ := r1
      cases e
      exact .inl ⟨vs, SqL.of h1, q1.length.symm⟩
    · rw [rv_tup] at r1
      obtain ⟨p, vs, rfl, h1, q1⟩ := r1
      cases e
      exact .inr ⟨vs, Same.seqT sm h1, q1.length.symm⟩
    · rw [rv_scr] at r1
      obtain ⟨p, rfl, h1⟩ := r1
      cases e
      exact .inl ⟨_, sm.seq h1, (List.length_map _).symm⟩
    · rw [rv_str] at r1
      subst r1
      split at e
      · rename_i hz
        cases e
        exact ⟨hz, rfl⟩
      · cases e
    · cases e
theorem call_absT : CallT X (.builtin "abs") (g1 oAbs) := callT_of1 fun pins s σ H x us Q F a R I r sm r1 ho post => by
  unfold oAbs at ho
  split at ho
  · rw [rv_int] at r1
    subst r1
    exact call_abs pins s σ H _ us Q I r ⟨_, rfl, flat_post sm post ho (rt_int.mpr rfl)⟩
  · exact ho.elim
theorem call_maxT (hc : X.calm = true) : CallT X (.builtin "max") (g2 oMax) := callT_of2 fun pins s σ H x y us Q F a b R I r sm r1 r2 ho post => by
  unfold oMax at ho
  split at ho
  · rw [rv_int] at r1 r2
    subst r1 r2
    exact call_max2 hc pins s σ H _ us Q I r ⟨_, _, rfl, flat_post sm post ho (rt_int.mpr rfl)⟩
  · exact ho.elim
theorem call_minT (hc : X.calm = true) : CallT X (.builtin "min") (g2 oMin) := callT_of2 fun pins s σ H x y us Q F a b R I r sm r1 r2 ho post => by
  unfold oMin at ho
  split at ho
  · rw [rv_int] at r1 r2
    subst r1 r2
    exact call_min2 hc pins s σ H _ us Q I r ⟨_, _, rfl, flat_post sm post ho (rt_int.mpr rfl)⟩
  · exact ho.elim
theorem call_tupleTT : CallT X (.type "tuple") (g1 oTuple) := callT_of1 fun pins s σ H x us Q F a R I r sm r1 ho post => by
  unfold oTuple at ho
  split at ho
  · rw [rv_lst] at r1
    obtain ⟨p, vs, rfl, h1, q1⟩ := r1
    exact call_tupleD pins s σ H _ us Q I r ⟨p, vs, rfl, .inl ⟨SqL.of h1, fun l us hl => new_tup sm post ho q1 hl⟩⟩
  · have r1' := r1
    rw [rv_tup] at r1
    obtain ⟨p, vs, rfl, h1, q1⟩ := r1
    exact call_tupleD pins s σ H _ us Q I r ⟨p, vs, rfl, .inr ⟨Same.seqT sm h1, flat_post sm post ho (rt_tup.mpr ⟨p, vs, rfl, h1, q1⟩)⟩⟩
  · exact ho.elim
theorem call_strT : CallT X (.type "str") (g1 oStr) := callT_of1 fun pins s σ H x us Q F a R I r sm r1 ho post => by
  unfold oStr at ho
  split at ho
  · rw [rv_int] at r1
    subst r1
    exact call_str_int pins s σ H _ us Q I r ⟨_, rfl, ho.1, flat_post sm post ho.2 (rt_str.mpr rfl)⟩
  · exact ho.elim
theorem call_reprT (hg : X.A.guards = some []) (hu : X.A.units + 80 < cLine) : CallT X (.builtin "repr") (g1 oRepr) := callT_of1 fun pins s σ H x us Q F a R I r sm r1 ho post => by
  unfold oRepr at ho
  cases e : a.toR with
  | none => rw [e] at ho; exact ho.elim
  | some d =>
    rw [e] at ho
    obtain ⟨hs, hdp, hz, hR⟩ := ho
    obtain ⟨u, rfl, rx⟩ := vals1 r
    have fin : ∀ h' w tk, (∀ b o, s.heap.get? b = some o → h'.get? b = some o) → EP X pins σ Q (.str d.shown w) { s with heap := h', toks := tk } := fun h' w tk k => ⟨.str d.shown, H, I.kept k, ⟨_, rfl⟩, flat_post sm post hR (rt_str.mpr rfl)⟩
    have rd : ∃ as, Reads s.heap u d as ∧ (d.hasDict = true → sysModules ∉ as) := by
      cases a with
      | emp =>
        cases e
        rw [rv_emp] at r1
        obtain ⟨p, rfl, h1⟩ := r1
        cases rx
        obtain ⟨_, hsys, vs, rk, o, es, ep, he, hx, hd, _, hp, _⟩ := (show ObjOk X.prog X.w H s.heap p (.dK []) from I.hok p _ h1)
        cases rk
        have e0 : es.toList = [] := List.length_eq_zero_iff.mp hp.length
        refine ⟨_, .dict (kvs := []) he hx.1 hd (by rw [e0]; exact .nil) (by rw [e0]; exact .nil), fun _ hm => ?_⟩
        rw [beq_eq_false_iff_ne] at hsys
        simp at hm
        exact hsys hm.symm
      | _ =>
        obtain ⟨as, z⟩ := RV.reads I sm r1 rx e
        exact ⟨as, z, PyData.noDict_hsm (toD_noDict _ _ e)⟩
    obtain ⟨as, z, hsm⟩ := rd
    cases z with
    | none => exact PySem.P.repr_of_none (fin s.heap _ _ fun _ _ h => h)
    | bool b => exact PySem.P.repr_of_bool (fin s.heap _ _ fun _ _ h => h)
    | int i t => exact PySem.P.repr_of_int (by simpa [PyData.showable] using hs) (fin s.heap _ _ fun _ _ h => h)
    | str i t => exact PySem.P.repr_of_str (fin s.heap _ _ fun _ _ h => h) hz
    | list h1 h2 h3 h4 => exact repr_of_reads' (.list h1 h2 h3 h4) hs hsm hg (by omega) (fun _ _ h => h) fin hz
    | tuple h1 h2 h3 h4 => exact repr_of_reads' (.tuple h1 h2 h3 h4) hs hsm hg (by omega) (fun _ _ h => h) fin hz
    | dict h1 h2 h3 h4 h5 => exact repr_of_reads' (.dict h1 h2 h3 h4 h5) hs hsm hg (by omega) (fun _ _ h => h) fin hz
theorem isi_kit : ∀ {t : T} {b : BT} {r : Bool} {n : String}, isiT t b = some r → t.tyN = some n → kitB n b.name = some r := by
  intro t b r n h e
  cases t <;> cases b <;> first
    | (cases e; cases h; decide +kernel)
    | cases e
theorem tyX_of {K : PySem.W.Frag} {mg : Str → Option Value} {F H : Hp} (sm : Same F H) : ∀ {t : T} {x : V} {n : String}, RV K mg F H t x → t.tyN = some n → TyX K H x (.type n)
  | .non, x, n, r, e => by rw [rv_non] at r; subst r; cases e; exact .base .non
  | .bl _, x, n, r, e => by rw [rv_bl] at r; subst r; cases e; exact .base (.bl _)
  | .int _, x, n, r, e => by rw [rv_int] at r; subst r; cases e; exact .base (.int _)
  | .str _, x, n, r, e => by rw [rv_str] at r; subst r; cases e; exact .base (.str _)
  | .tup _, x, n, r, e => by
    rw [rv_tup] at r
    obtain ⟨p, vs, rfl, h, _⟩ := r
    cases e
    rcases Same.seqT sm h with (h | ⟨o, h⟩) | ⟨o, its, m, h1, h2, _⟩
    · exact .base (.tup h)
    · exact .fTuple h
    · exact .kTuple h1 h2
  | .lst _, x, n, r, e => by
    rw [rv_lst] at r
    obtain ⟨p, vs, rfl, h, _⟩ := r
    cases e
    exact .base (.lst h)
  | .scr _, x, n, r, e => by
    rw [rv_scr] at r
    obtain ⟨p, rfl, h⟩ := r
    cases e
    rcases sm.seq h with (h | ⟨o, h⟩) | ⟨o, its, m, h1, h2, _⟩
    · exact .base (.lst h)
    · exact .base (.frz h)
    · exact .kList h1 h2
  | .emp, x, n, r, e => by
    rw [rv_emp] at r
    obtain ⟨p, rfl, h⟩ := r
    cases e
    exact .base (.dK h)
  | .ty _, _, _, _, e => by cases e
  | .glb _, _, _, _, e => by cases e
  | .exc _, _, _, _, e => by cases e
  | .exc1 _ _ _, _, _, _, e => by cases e
/-- isinstance(x, T), T built-in -/
def oIsi2 : T → T → (T → Prop) → Prop := fun a c k => match c with
  | .ty n => ∃ b : BT, n = b.name ∧ oIsi b a k
  | _ => False
theorem isi_tyN {t : T} {b : BT} {r : Bool} (h : isiT t b = some r) : ∃ n, t.tyN = some n := by
  cases t <;> first
    | exact ⟨_, rfl⟩
    | (cases b <;> cases h)
theorem call_isiTT : CallT X (.builtin "isinstance") (g2 oIsi2) := callT_of2 fun pins s σ H x y us Q F a c R I r sm r1 r2 ho post => by
  unfold oIsi2 at ho
  split at ho
  · rw [rv_ty] at r2
    subst r2
    obtain ⟨b, rfl, ho⟩ := ho
    obtain ⟨k, e, hR⟩ := okB_of ho
    obtain ⟨n, hn⟩ := isi_tyN e
    exact call_isi pins s σ H _ us Q I r ⟨x, _, _, _, k, rfl, .ty _, tyX_of sm r1 hn, kit_ty (isi_kit e hn), flat_post sm post hR (rt_bl.mpr rfl)⟩
  · exact ho.elim
end
end Tw
set_option Elab.async false
set_option linter.all false
set_option maxRecDepth 100000
namespace Tw
open PySem PySem.Spec PyProof.Rows L2

structure WD where
  nx : Env → Sto → Prop
  rt : W → Sto → Prop
  bk : Env → Sto → Prop := fun _ _ => False
  ct : Env → Sto → Prop := fun _ _ => False
abbrev WS := WD → PX → Env → Sto → Prop
structure DOk (K : PySem.W.Frag) (mg : Str → Option Value) (μ : List Addr) (F : Hp) (C : WD) (D : Ends) : Prop where
  nx : ∀ (env : Env) (S : Sto) (μ' : List Addr) (F' : Hp) (σ : L2.St) (H : Hp), C.nx env S → Ext μ F μ' F' → Rel K mg μ' F' σ H env S → D.nx σ H
  rt : ∀ (z : W) (S : Sto) (μ' : List Addr) (F' : Hp) (v : V) (σ : L2.St) (H : Hp) (env : Env), C.rt z S → Ext μ F μ' F' → Rel K mg μ' F' σ H env S → RW K mg μ' F' z v → D.rt v H
  bk : ∀ (env : Env) (S : Sto) (μ' : List Addr) (F' : Hp) (σ : L2.St) (H : Hp), C.bk env S → Ext μ F μ' F' → Rel K mg μ' F' σ H env S → D.bk σ H
  ct : ∀ (env : Env) (S : Sto) (μ' : List Addr) (F' : Hp) (σ : L2.St) (H : Hp), C.ct env S → Ext μ F μ' F' → Rel K mg μ' F' σ H env S → D.ct σ H
def rdS (K : PySem.W.Frag) (mg : Str → Option Value) (Ew : WX) (w : WS) : TS := fun D σ H => ∃ (μ : List Addr) (F : Hp) (env : Env) (S : Sto) (E : PX) (C : WD), Rel K mg μ F σ H env S ∧ w C E env S ∧ XOk K mg Ew μ F E ∧ DOk K mg μ F C D
abbrev SS (X : Cx) (Ew : WX) (st : Stmt) (w : WS) : Prop := PS X st (rdS X.K X.mg Ew w)
abbrev SB (X : Cx) (Ew : WX) (sts : List Stmt) (w : WS) : Prop := PSs X sts (rdS X.K X.mg Ew w)
theorem DOk.ext {K : PySem.W.Frag} {mg : Str → Option Value} {μ μ' : List Addr} {F F' : Hp} {C : WD} {D : Ends} (d : DOk K mg μ F C D) (e : Ext μ F μ' F') : DOk K mg μ' F' C D :=
  ⟨fun a b c f s h q x r => d.nx a b c f s h q (e.trans x) r, fun a b c f v s h en q x r => d.rt a b c f v s h en q (e.trans x) r, fun a b c f s h q x r => d.bk a b c f s h q (e.trans x) r, fun a b c f s h q x r => d.ct a b c f s h q (e.trans x) r⟩
/-- where the frame lies as it is, its slots at sl but -/
abbrev WG := W → Env → Sto → (Env → Prop) → Prop
def rdG (K : PySem.W.Frag) (mg : Str → Option Value) (sl : List Nat) (g : WG) : TG := fun v σ H Q => ∃ (μ : List Addr) (F : Hp) (env : Env) (S : Sto) (z : W) (R : Env → Prop), Rel K mg μ F σ H env S ∧ RW K mg μ F z v ∧ g z env S R ∧
  ∀ env' σ', R env' → Rel K mg μ F σ' H env' S → σ'.length = σ.length → (∀ (i : Nat), i ∉ sl → σ'[i]? = σ[i]?) → Q σ' H
abbrev WGs := List W → Env → Sto → (Env → Prop) → Prop
def rdGs (K : PySem.W.Frag) (mg : Str → Option Value) (sl : List Nat) (g : WGs) : TGs := fun vs σ H Q => ∃ (μ : List Addr) (F : Hp) (env : Env) (S : Sto) (ts : List W) (R : Env → Prop), Rel K mg μ F σ H env S ∧ RWs K mg μ F ts vs ∧ g ts env S R ∧
  ∀ env' σ', R env' → Rel K mg μ F σ' H env' S → σ'.length = σ.length → (∀ (i : Nat), i ∉ sl → σ'[i]? = σ[i]?) → Q σ' H
abbrev SG (X : Cx) (e : Expr) (sl : List Nat) (g : WG) : Prop := PG X e (rdG X.K X.mg sl g)
abbrev SGs (X : Cx) (es : List Expr) (sl : List Nat) (g : WGs) : Prop := PGs X es (rdGs X.K X.mg sl g)
theorem PG.imp {X : Cx} {e : Expr} {t t' : TG} (h : PG X e t) (i : ∀ v σ H Q, t' v σ H Q → t v σ H Q) : PG X e t' := ⟨fun pins s σ H v u Q I r q => h.run pins s σ H v u Q I r (i v σ H Q q)⟩
theorem PGs.imp {X : Cx} {e : List Expr} {t t' : TGs} (h : PGs X e t) (i : ∀ v σ H Q, t' v σ H Q → t v σ H Q) : PGs X e t' := ⟨fun pins s σ H v u Q I r q => h.run pins s σ H v u Q I r (i v σ H Q q)⟩

def gNm (i : Nat) : WG := fun z env _ R => R (env.set i (some z))
def gTp (gs : WGs) : WG := fun z env S R => match z with
  | .t (.tup xs) => gs (xs.map W.t) env S R
  | .tw ws => gs (ws.map W.ofS) env S R
  | _ => False
def gsNil : WGs := fun ts env _ R => ts = [] ∧ R env
def gsCons (g : WG) (gs : WGs) : WGs := fun ts env S R => match ts with
  | t :: r => g t env S fun env' => gs r env' S R
  | [] => False
section
variable {X : Cx} {pos : Pos}
theorem SG.nm {i : Nat} {x : Str} (hN : X.N.Nodup) (hi : X.N[i]? = some x) (hx : Loc X.env.scope x) (hf : X.fn x = true ∨ X.env.scope.names.lookup x = some .local) : SG X (.Name x pos) [i] (gNm i) :=
  PG.imp (pg_name hN hi hx hf) fun v σ H Q ⟨μ, F, env, S, z, R, rel, rw', hg, post⟩ => post _ _ hg (rel.setE rw') (List.length_set ..) fun j hj => by
    rw [List.getElem?_set_ne]
    intro e
    exact hj (by simp [e])
theorem SGs.nil : SGs X [] [] gsNil :=
  PGs.imp pgs_nil fun vs σ H Q ⟨μ, F, env, S, ts, R, rel, rt, hg, post⟩ => by
    obtain ⟨e, h⟩ := hg
    subst e
    exact ⟨rt, post env σ h rel rfl fun _ _ => rfl⟩
theorem SGs.cons {e : Expr} {es : List Expr} {sl sl' : List Nat} {g : WG} {gs : WGs} (h1 : SG X e sl g) (h2 : SGs X es sl' gs) (hs : (assignEach (e :: es) X.env).map (·.2) = assign e X.env :: (assignEach es X.env).map (·.2)) : SGs X (e :: es) (sl ++ sl') (gsCons g gs) :=
  PGs.imp (pgs_cons h1 h2 hs) fun vs σ H Q ⟨μ, F, env, S, ts, R, rel, rt, hg, post⟩ => by
    cases ts with
    | nil => exact hg.elim
    | cons t r =>
      obtain ⟨v, vr, rfl, r1, r2⟩ := rt
      refine ⟨v, vr, rfl, μ, F, env, S, t, _, rel, r1, hg, fun env' σ' h' rel' l' o' => ⟨μ, F, env', S, r, R, rel', r2, h', fun env2 σ2 hR rel2 l2 o2 => post env2 σ2 hR rel2 (l2.trans l') fun i hi => ?_⟩⟩
      rw [o2 i fun z => hi (List.mem_append_right _ z), o' i fun z => hi (List.mem_append_left _ z)]
theorem RTs.len_eq {K : PySem.W.Frag} {mg : Str → Option Value} {F : Hp} {xs : List T} {vs : List V} (r : RTs K mg F xs vs) : xs.length = vs.length := r.length.symm
theorem SG.tp {es : List Expr} {k : Nat} {sl : List Nat} {gs : WGs} {n : Nat} (hc : X.calm = true) (h : SGs X es sl gs) (hn : (assignEach es X.env).length = n) (hst : (assignEach es X.env).findIdx? (·.1) = none)
    (hl : ∀ ts env S R, gs ts env S R → ts.length = n) : SG X (.Tuple es k pos) sl (gTp gs) :=
  PG.imp (pg_tup hc h hn hst) fun v σ H Q ⟨μ, F, env, S, z, R, rel, rw', hg, post⟩ => by
    unfold gTp at hg
    split at hg
    · rename_i xs
      have r : RT X.K X.mg F (.tup xs) v := rw'
      rw [rt_tup] at r
      obtain ⟨a, vs, rfl, hq, rt⟩ := r
      exact ⟨a, vs, rfl, Same.seqT rel.sub hq, by rw [rt.length, ← List.length_map W.t]; exact hl _ _ _ _ hg, μ, F, env, S, xs.map W.t, R, rel, rt.toS, hg, post⟩
    · rename_i ws
      obtain ⟨a, vs, rfl, hq, rt⟩ := rw'
      exact ⟨a, vs, rfl, Same.seqT rel.sub hq, by rw [rt.toS.len]; exact hl _ _ _ _ hg, μ, F, env, S, ws.map W.ofS, R, rel, rt.toS, hg, post⟩
    · exact hg.elim
end

def wNext : WS := fun D _ env S => D.nx env S
def wSeq (a b : WS) : WS := fun D E env S => a { D with nx := fun env' S' => b D E env' S' } E env S
def wFz (j : Nat) (w : WS) : WS := fun D E env S => ∃ i xs, gE env j = some (.ref i) ∧ S[i]? = some (.lst xs) ∧ w D E (env.set j (some (.t (.lst xs)))) (S.set i .dead)
def wAsg (wa : WE) (g : WG) : WS := fun D E env S => wa env S E fun z S1 => g z env S1 fun env' => D.nx env' S1
def wPar (i j : Nat) (wa : WA) : WS := fun D E env S => wa env S E fun zs S1 => match zs with
  | [x, y] => D.nx ((env.set i (some x)).set j (some y)) S1
  | _ => False
def wPar3 (i j l : Nat) (wa : WA) : WS := fun D E env S => wa env S E fun zs S1 => match zs with
  | [x, y, z] => D.nx (((env.set i (some x)).set j (some y)).set l (some z)) S1
  | _ => False
def wAug (i : Nat) (g : PO1) (wa : WE) : WS := fun D E env S => match gE env i with
  | some x => wa env S E fun y S1 => vw S1 [x, y] fun ts => g ts fun t => D.nx (env.set i (some (.t t))) S1
  | none => False
/-- o[i] = e -/
def wSetI (wo wi we : WE) : WS := fun D E env S => we env S E fun y S1 => wo env S1 E fun o S2 => wi env S2 E fun k S3 => ∃ j xs n m t, o = .ref j ∧ S3[j]? = some (.lst xs) ∧ k = .t (.int n) ∧ ixN xs.length n = some m ∧ y = .t t ∧ D.nx env (S3.set j (.lst (xs.set m t)))
def wEx (wa : WE) : WS := fun D E env S => wa env S E fun _ S1 => D.nx env S1
def wIf (wc : WE) (a b : WS) : WS := fun D E env S => wc env S E fun z S1 => ∃ c, z = .t (.bl c) ∧ wBlIf c (a D E env S1) (b D E env S1)
def wRet (wa : WE) : WS := fun D E env S => wa env S E D.rt
def wRetN : WS := fun D _ _ S => D.rt (.t .non) S
def wBrk : WS := fun D _ env S => D.bk env S
def wCnt : WS := fun D _ env S => D.ct env S
def wNev : WS := fun _ _ _ _ => False
abbrev WI := Env → Sto → PX → (List T → Sto → Prop) → Prop
def forL (step : T → WD → Env → Sto → Prop) (C : WD) : List T → Env → Sto → Prop
  | [] => C.nx
  | x :: xs => fun env S => step x { C with nx := forL step C xs, ct := forL step C xs, bk := C.nx } env S
def wFor (wi : WI) (g : WG) (body : WS) : WS := fun D E env S => wi env S E fun xs S1 => forL (fun x C env S => g (.t x) env S fun env1 => body C E env1 S) D xs env S1
def wWhile (wc : WE) (body : WS) : WS := fun D E env S => ∃ I : Nat → Env → Sto → Prop, (∃ m, I m env S) ∧ ∀ m env S, I m env S → wc env S E fun z S1 => ∃ c, z = .t (.bl c) ∧
  wBlIf c (body { D with nx := fun env' S' => ∃ m', m' < m ∧ I m' env' S', ct := fun env' S' => ∃ m', m' < m ∧ I m' env' S', bk := D.nx } E env S1) (D.nx env S1)

section
variable {X : Cx} {Ew : WX} {st : Stmt} {sts : List Stmt} {w wb : WS} {wa wc wo wi we : WE} {wA : WA} {e o k c : Expr} {pos : Pos} {g : WG}
theorem SB.nil : SB X Ew [] wNext := PSs.imp pss_nil fun D σ H ⟨μ, F, env, S, E, C, rel, hw, xo, dok⟩ => dok.nx env S μ F σ H hw Ext.refl rel
theorem SB.cons (h1 : SS X Ew st w) (h2 : SB X Ew sts wb) : SB X Ew (st :: sts) (wSeq w wb) :=
  PSs.imp (pss_cons h1 h2) fun D σ H ⟨μ, F, env, S, E, C, rel, hw, xo, dok⟩ =>
    ⟨μ, F, env, S, E, _, rel, hw, xo, fun en S1 μ1 F1 s1 H1 q x r => ⟨μ1, F1, en, S1, E, C, r, q, xo.ext x, dok.ext x⟩, dok.rt, dok.bk, dok.ct⟩
theorem SB.fz {j : Nat} (h : SB X Ew sts w) : SB X Ew sts (wFz j w) :=
  PSs.imp h fun D σ H ⟨μ, F, env, S, E, C, rel, hw, xo, dok⟩ => by
    obtain ⟨i, xs, e1, e2, hw⟩ := hw
    obtain ⟨F', x, rel'⟩ := rel.freeze e2 (gE_iff e1)
    exact ⟨μ, F', _, _, E, C, rel', hw, xo.ext x, dok.ext x⟩
theorem SS.asg (he : SE X Ew e wa) {tg : Expr} {sl : List Nat} (hg : SG X tg sl g) (hs : swapsWithSole [tg] e pos.line X.env = pure false) (hw : swappedStores [tg] e X.env = pure none) (h1 : (assignEach [tg] X.env).map (·.2) = [assign tg X.env]) : SS X Ew (.Assign [tg] e pos) (wAsg wa g) :=
  PS.imp (ps_asg he hg hs hw h1) fun D σ H ⟨μ, F, env, S, E, C, rel, hw, xo, dok⟩ =>
    ⟨μ, F, env, S, E, _, rel, hw, xo, fun z S1 μ1 F1 v H1 hz x r q => ⟨μ1, F1, env, S1, z, _, r, q, hz, fun env' σ' hR rel' _ _ => dok.nx env' S1 μ1 F1 σ' H1 hR x rel'⟩⟩
theorem SS.set {i : Nat} {x : Str} {pos' : Pos} (hN : X.N.Nodup) (hi : X.N[i]? = some x) (hx : Loc X.env.scope x) (he : SE X Ew e wa) (hs : swapsWith e (some (.Name x pos')) pos.line X.env = pure false) (hf : X.fn x = true ∨ X.env.scope.names.lookup x = some .local) :
    SS X Ew (.Assign [.Name x pos'] e pos) (wAsg wa (gNm i)) :=
  PS.imp (ps_set hN hi hx he hs hf) fun D σ H ⟨μ, F, env, S, E, C, rel, hw, xo, dok⟩ =>
    ⟨μ, F, env, S, E, _, rel, hw, xo, fun z S1 μ1 F1 v H1 hz x r q => dok.nx _ S1 μ1 F1 _ H1 hz x (r.setE q)⟩
theorem SS.par {i j : Nat} {x y : Str} {a b : Expr} {px py pt : Pos} {kt k2 pt2} (hc : X.calm = true) (hN : X.N.Nodup) (hi : X.N[i]? = some x) (hj : X.N[j]? = some y) (hij : i ≠ j)
    (hx : X.env.scope.names.lookup x = some .local) (hy : X.env.scope.names.lookup y = some .local) (ha : SA X Ew [a, b] wA)
    (hw : swappedStores [.Tuple [.Name x px, .Name y py] kt pt] (.Tuple [a, b] k2 pt2) X.env = pure (some [x, y])) :
    SS X Ew (.Assign [.Tuple [.Name x px, .Name y py] kt pt] (.Tuple [a, b] k2 pt2) pos) (wPar i j wA) :=
  PS.imp (ps_par hc hN hi hj hij hx hy ha hw) fun D σ H ⟨μ, F, env, S, E, C, rel, hw, xo, dok⟩ =>
    ⟨μ, F, env, S, E, _, rel, hw, xo, fun zs S1 μ1 F1 vs H1 hz x r q => by
      match zs, hz with
      | [z1, z2], hz =>
        obtain ⟨v, vr, rfl, r1, v2, vr2, rfl, r2, e⟩ := q
        subst e
        exact ⟨v, v2, rfl, dok.nx _ S1 μ1 F1 _ H1 hz x ((r.setE r1).setE r2)⟩⟩
theorem SS.par3 {i j l : Nat} {x y z : Str} {a b c : Expr} {px py pz pt : Pos} {kt k2 pt2} (hc : X.calm = true) (hN : X.N.Nodup) (hi : X.N[i]? = some x) (hj : X.N[j]? = some y) (hl : X.N[l]? = some z) (hij : i ≠ j) (hil : i ≠ l) (hjl : j ≠ l)
    (hx : X.env.scope.names.lookup x = some .local) (hy : X.env.scope.names.lookup y = some .local) (hz : X.env.scope.names.lookup z = some .local) (ha : SA X Ew [a, b, c] wA)
    (hw : swappedStores [.Tuple [.Name x px, .Name y py, .Name z pz] kt pt] (.Tuple [a, b, c] k2 pt2) X.env = pure (some [x, y, z])) :
    SS X Ew (.Assign [.Tuple [.Name x px, .Name y py, .Name z pz] kt pt] (.Tuple [a, b, c] k2 pt2) pos) (wPar3 i j l wA) :=
  PS.imp (ps_par3 hc hN hi hj hl hij hil hjl hx hy hz ha hw) fun D σ H ⟨μ, F, env, S, E, C, rel, hw, xo, dok⟩ =>
    ⟨μ, F, env, S, E, _, rel, hw, xo, fun zs S1 μ1 F1 vs H1 hz x r q => by
      match zs, hz with
      | [z1, z2, z3], hz =>
        obtain ⟨v, vr, rfl, r1, v2, vr2, rfl, r2, v3, vr3, rfl, r3, e⟩ := q
        subst e
        exact ⟨v, v2, v3, rfl, dok.nx _ S1 μ1 F1 _ H1 hz x (((r.setE r1).setE r2).setE r3)⟩⟩
/-- an augmented operator on two trees -/
def ipP (K : PySem.W.Frag) (mg : Str → Option Value) (g : PO1) : TIp := fun x y H Q => rP K mg g [x, y] H Q
theorem SS.aug {i : Nat} {x : Str} {op : Operator} {g : PO1} {pos' : Pos} (hN : X.N.Nodup) (hi : X.N[i]? = some x) (hx : Loc X.env.scope x) (he : SE X Ew e wa) (ho : PIp X op (ipP X.K X.mg g)) (hf : X.fn x = true ∨ X.env.scope.names.lookup x = some .local) :
    SS X Ew (.AugAssign (.Name x pos') op e pos) (wAug i g wa) :=
  PS.imp (ps_aug hN hi hx he ho hf) fun D σ H ⟨μ, F, env, S, E, C, rel, hw, xo, dok⟩ => by
    unfold wAug at hw
    split at hw
    · rename_i z hz
      obtain ⟨v, e1, r1⟩ := rel.env i z (gE_iff hz)
      refine ⟨v, e1, μ, F, env, S, E, _, rel, hw, xo, fun y S1 μ1 F1 u H1 hy x1 rel1 q => ?_⟩
      obtain ⟨ts, hv, hg⟩ := vw_of hy
      exact ⟨F1, ts, _, rel1.sub, views_ok rel1 (ws := [z, y]) (vs := [v, u]) ⟨v, [u], rfl, r1.ext x1, u, [], rfl, q, rfl⟩ hv, hg, fun t F' H' w ht st rt => dok.nx _ S1 μ1 F' _ H' ht (x1.trans st.ext) ((rel1.step st).setE rt)⟩
    · exact hw.elim
theorem SS.setI {pt : Pos} (he : SE X Ew e we) (ho : SE X Ew o wo) (hk : SE X Ew k wi) (hs : swapsWithSole [.Subscript o k pt] e pos.line X.env = pure false) (hw : swappedStores [.Subscript o k pt] e X.env = pure none) (h1 : (assignEach [.Subscript o k pt] X.env).map (·.2) = [assign (.Subscript o k pt) X.env])
    (ha : ∀ v, assign (.Subscript o k pt) X.env v = (do
      let ov ← holding [v] (eval o X.env)
      let iv ← holding [v, ov] (eval k X.env)
      standAt pt
      holding [v, ov, iv] (setItem ov iv v)
      release [v, ov, iv] [])) : SS X Ew (.Assign [.Subscript o k pt] e pos) (wSetI wo wi we) :=
  PS.imp (ps_asg he (pg_sub ho hk set_list ha) hs hw h1) fun D σ H ⟨μ, F, env, S, E, C, rel, hw, xo, dok⟩ =>
    ⟨μ, F, env, S, E, _, rel, hw, xo, fun y S1 μ1 F1 v H1 hy x1 rel1 q1 => ⟨μ1, F1, env, S1, E, _, rel1, hy, xo.ext x1, fun oz S2 μ2 F2 ov H2 ho x2 rel2 q2 => ⟨μ2, F2, env, S2, E, _, rel2, ho, xo.ext (x1.trans x2), fun kz S3 μ3 F3 kv H3 hk x3 rel3 q3 => by
      obtain ⟨j, xs, n, m, t, rfl, hS, rfl, hm, rfl, hn⟩ := hk
      obtain ⟨a, ha, rfl⟩ := q2.ext x3
      have q3' : RT X.K X.mg F3 (.int n) kv := q3
      rw [rt_int] at q3'
      obtain ⟨vs, hH, rv⟩ := rel3.sto j a _ ha hS
      have q1' : RT X.K X.mg F3 t v := (q1.ext (x2.trans x3))
      exact ⟨a, vs, n, m, rfl, q3', hH, by rw [rv.length]; exact hm, dok.nx env _ μ3 F3 σ _ hn ((x1.trans x2).trans x3) (rel3.put ha hS rfl ⟨_, upd_same, RTs.set m q1' rv⟩)⟩⟩⟩⟩
theorem SS.ex (he : SE X Ew e wa) (hs : swapsWith e none pos.line X.env = pure false) : SS X Ew (.Expr e pos) (wEx wa) :=
  PS.imp (ps_expr he hs) fun D σ H ⟨μ, F, env, S, E, C, rel, hw, xo, dok⟩ => ⟨μ, F, env, S, E, _, rel, hw, xo, fun z S1 μ1 F1 v H1 hz x r q => dok.nx env S1 μ1 F1 σ H1 hz x r⟩
theorem SS.doc {y j pos'} : SS X Ew (.Expr (.Constant (.str y) j pos) pos') wNext := PS.imp ps_doc fun D σ H ⟨μ, F, env, S, E, C, rel, hw, xo, dok⟩ => dok.nx env S μ F σ H hw Ext.refl rel
theorem SS.pass : SS X Ew (.Pass pos) wNext := PS.imp ps_pass fun D σ H ⟨μ, F, env, S, E, C, rel, hw, xo, dok⟩ => dok.nx env S μ F σ H hw Ext.refl rel
theorem SS.brk : SS X Ew (.Break pos) wBrk := PS.imp ps_break fun D σ H ⟨μ, F, env, S, E, C, rel, hw, xo, dok⟩ => dok.bk env S μ F σ H hw Ext.refl rel
theorem SS.cnt : SS X Ew (.Continue pos) wCnt := PS.imp ps_continue fun D σ H ⟨μ, F, env, S, E, C, rel, hw, xo, dok⟩ => dok.ct env S μ F σ H hw Ext.refl rel
theorem SS.nev : SS X Ew st wNev := PS.imp ps_never fun D σ H ⟨μ, F, env, S, E, C, rel, hw, xo, dok⟩ => hw
theorem SS.ret (he : SE X Ew e wa) : SS X Ew (.Return (some e) pos) (wRet wa) :=
  PS.imp (ps_ret he) fun D σ H ⟨μ, F, env, S, E, C, rel, hw, xo, dok⟩ => ⟨μ, F, env, S, E, _, rel, hw, xo, fun z S1 μ1 F1 v H1 hz x r q => dok.rt z S1 μ1 F1 v σ H1 env hz x r q⟩
theorem SS.retN : SS X Ew (.Return none pos) wRetN :=
  PS.imp ps_retN fun D σ H ⟨μ, F, env, S, E, C, rel, hw, xo, dok⟩ => dok.rt (.t .non) S μ F .non σ H env hw Ext.refl rel (show RT X.K X.mg F .non .non from rt_non.mpr rfl)
theorem SS.iff {a b : List Stmt} {wa' wb' : WS} (hc : SC X Ew c wc) (ha : SB X Ew a wa') (hb : SB X Ew b wb') : SS X Ew (.If c a b pos) (wIf wc wa' wb') :=
  PS.imp (ps_if hc ha hb) fun D σ H ⟨μ, F, env, S, E, C, rel, hw, xo, dok⟩ => by
    refine ⟨μ, F, env, S, E, _, rel, hw, xo, fun k S1 μ1 F1 H1 hR e1 r1 => ?_⟩
    cases k with
    | true => exact iteT ⟨μ1, F1, env, S1, E, C, r1, hR, xo.ext e1, dok.ext e1⟩
    | false => exact iteF ⟨μ1, F1, env, S1, E, C, r1, hR, xo.ext e1, dok.ext e1⟩
theorem SS.whl {body : List Stmt} (hp : PassesOwn (model X.prog X.w) X.A X.env X.xe) (hc : SC X Ew c wc) (hb : SB X Ew body w) : SS X Ew (.While c body [] pos) (wWhile wc w) :=
  PS.imp (ps_while hp hc hb) fun D σ H ⟨μ, F, env, S, E, C, rel, hw, xo, dok⟩ => by
    obtain ⟨I, ⟨m, h0⟩, turn⟩ := hw
    refine ⟨fun m σ H => ∃ μ' F' env' S', Ext μ F μ' F' ∧ Rel X.K X.mg μ' F' σ H env' S' ∧ I m env' S', ⟨m, μ, F, env, S, Ext.refl, rel, h0⟩, ?_⟩
    rintro m σ H ⟨μ1, F1, env1, S1, x1, rel1, h1⟩
    refine ⟨μ1, F1, env1, S1, E, _, rel1, turn m env1 S1 h1, xo.ext x1, fun k S2 μ2 F2 H2 hR e2 r2 => ?_⟩
    cases k with
    | true =>
      refine iteT ⟨fun σ' H' => ∃ m', m' < m ∧ ∃ μ' F' env' S', Ext μ F μ' F' ∧ Rel X.K X.mg μ' F' σ' H' env' S' ∧ I m' env' S', fun σ' H' ⟨m', l, q⟩ => ⟨m', l, q⟩, ?_⟩
      refine ⟨μ2, F2, env1, S2, E, _, r2, hR, xo.ext (x1.trans e2), fun en S3 μ3 F3 s3 H3 ⟨m', l, q⟩ x3 r3 => ⟨m', l, μ3, F3, en, S3, (x1.trans e2).trans x3, r3, q⟩, (dok.ext (x1.trans e2)).rt, (dok.ext (x1.trans e2)).nx,
        fun en S3 μ3 F3 s3 H3 ⟨m', l, q⟩ x3 r3 => ⟨m', l, μ3, F3, en, S3, (x1.trans e2).trans x3, r3, q⟩⟩
    | false => exact iteF (dok.nx env1 S2 μ2 F2 σ H2 hR (x1.trans e2) r2)
end

def ItOk (K : PySem.W.Frag) (mg : Str → Option Value) (F0 : Hp) (xs : List T) (J : It) : Prop :=
  (∀ (i : Nat) (t : T), xs[i]? = some t → ∀ F H, Same F0 F → Same F H → J.go i H ∧ ∀ x H2, J.yld i H x H2 → ∃ F2, Step F H F2 H2 ∧ RT K mg F2 t x) ∧
  (∀ i, xs.length ≤ i → ∀ F H, Same F0 F → Same F H → J.stop i H)
def rdI (K : PySem.W.Frag) (mg : Str → Option Value) (Ew : WX) (w : WI) : TI := fun σ H R => ∃ (μ : List Addr) (F : Hp) (env : Env) (S : Sto) (E : PX) (P : List T → Sto → Prop), Rel K mg μ F σ H env S ∧ w env S E P ∧ XOk K mg Ew μ F E ∧
  ∀ xs S' μ' F' H' J, P xs S' → Ext μ F μ' F' → Rel K mg μ' F' σ H' env S' → ItOk K mg F' xs J → R J H'
abbrev SI (X : Cx) (Ew : WX) (tg iter : Expr) (w : WI) : Prop := PI X tg iter (rdI X.K X.mg Ew w)
theorem PI.imp {X : Cx} {tg e : Expr} {t t' : TI} (h : PI X tg e t) (i : ∀ σ H Q, t' σ H Q → t σ H Q) : PI X tg e t' := ⟨fun pins s σ H Q I q => h.run pins s σ H Q I (i σ H Q q)⟩
def wiLst (wa : WE) : WI := fun env S E P => wa env S E fun z S1 => match z with
  | .t (.lst xs) => P xs S1
  | _ => False
def wiTup (wa : WE) : WI := fun env S E P => wa env S E fun z S1 => match z with
  | .t (.tup xs) => P xs S1
  | _ => False
def rngL (lo : Int) (n : Nat) : List T := (List.range n).map fun (i : Nat) => T.int (lo + (i : Int))
def wiRng1 (wa : WE) : WI := fun env S E P => wa env S E fun z S1 => ∃ j : Int, z = .t (.int j) ∧ -(2 ^ 62) ≤ j ∧ j < 2 ^ 62 ∧ P (rngL 0 j.toNat) S1
def wiRng2 (wa wb : WE) : WI := fun env S E P => wa env S E fun z S1 => wb env S1 E fun y S2 => ∃ i j : Int, z = .t (.int i) ∧ y = .t (.int j) ∧ (-(2 ^ 62) ≤ i ∧ i < 2 ^ 62 ∧ -(2 ^ 62) ≤ j ∧ j < 2 ^ 62) ∧ P (rngL i (j - i).toNat) S2
theorem itOk_list {K : PySem.W.Frag} {mg : Str → Option Value} {F0 : Hp} {a : Addr} {xs : List T} {vs : List V} (h : SqL K F0 a vs) (r : RTs K mg F0 xs vs) : ItOk K mg F0 xs (Itl K a) := by
  refine ⟨fun i t e F H s1 s2 => ?_, fun i hi F H s1 s2 => ⟨vs, (s1.trans s2).seq h, by rw [r.length]; exact hi⟩⟩
  obtain ⟨v, e1, e2⟩ := r.get e
  refine ⟨⟨vs, v, (s1.trans s2).seq h, e1⟩, fun x H2 ⟨e3, y⟩ => ?_⟩
  subst e3
  have q := y vs ((s1.trans s2).seq h)
  rw [e1] at q
  cases q
  exact ⟨F, Step.refl s2, RT.mono s1 _ _ e2⟩
theorem itOk_tup {K : PySem.W.Frag} {mg : Str → Option Value} {F0 : Hp} {a : Addr} {xs : List T} {vs : List V} (h : SqD K F0 a vs) (r : RTs K mg F0 xs vs) : ItOk K mg F0 xs (Itt K a) := by
  refine ⟨fun i t e F H s1 s2 => ?_, fun i hi F H s1 s2 => ⟨vs, Same.seqT (s1.trans s2) h, by rw [r.length]; exact hi⟩⟩
  obtain ⟨v, e1, e2⟩ := r.get e
  refine ⟨⟨vs, v, Same.seqT (s1.trans s2) h, e1⟩, fun x H2 ⟨e3, y⟩ => ?_⟩
  subst e3
  have q := y vs (Same.seqT (s1.trans s2) h)
  rw [e1] at q
  cases q
  exact ⟨F, Step.refl s2, RT.mono s1 _ _ e2⟩
theorem itOk_rng {K : PySem.W.Frag} {mg : Str → Option Value} {F0 : Hp} {lo : Int} {n : Nat} : ItOk K mg F0 (rngL lo n) (Itr lo n) := by
  have hl : (rngL lo n).length = n := by unfold rngL; simp
  refine ⟨fun i t e F H s1 s2 => ?_, fun i hi F H s1 s2 => by rw [hl] at hi; exact hi⟩
  have hi : i < n := by
    have := (List.getElem?_eq_some_iff.mp e).1
    omega
  refine ⟨hi, fun x H2 ⟨e3, y⟩ => ⟨F, ?_, ?_⟩⟩
  · subst e3
    exact Step.refl s2
  · have e4 : t = .int (lo + (i : Int)) := by
      unfold rngL at e
      rw [List.getElem?_map, List.getElem?_range hi] at e
      exact (Option.some.inj e).symm
    subst e4 y
    exact rt_int.mpr rfl
section
variable {X : Cx} {Ew : WX} {tg l a b : Expr} {wa wb : WE} {p pos : Pos}
theorem SI.lst (h : SE X Ew l wa) : SI X Ew tg l (wiLst wa) :=
  PI.imp (pi_list h) fun σ H Q ⟨μ, F, env, S, E, P, rel, hw, xo, post⟩ => by
    refine ⟨μ, F, env, S, E, _, rel, hw, xo, fun z S1 μ1 F1 v H1 hz x r q => ?_⟩
    split at hz
    · rename_i xs
      have q' : RT X.K X.mg F1 (.lst xs) v := q
      rw [rt_lst] at q'
      obtain ⟨a, vs, rfl, h1, h2⟩ := q'
      exact ⟨a, rfl, ⟨vs, r.sub.seq (SqL.of h1)⟩, post xs S1 μ1 F1 H1 _ hz x r (itOk_list (SqL.of h1) h2)⟩
    · exact hz.elim
theorem SI.tup (h : SE X Ew l wa) : SI X Ew tg l (wiTup wa) :=
  PI.imp (pi_tup h) fun σ H Q ⟨μ, F, env, S, E, P, rel, hw, xo, post⟩ => by
    refine ⟨μ, F, env, S, E, _, rel, hw, xo, fun z S1 μ1 F1 v H1 hz x r q => ?_⟩
    split at hz
    · rename_i xs
      have q' : RT X.K X.mg F1 (.tup xs) v := q
      rw [rt_tup] at q'
      obtain ⟨a, vs, rfl, h1, h2⟩ := q'
      exact ⟨a, rfl, ⟨vs, Same.seqT r.sub h1⟩, post xs S1 μ1 F1 H1 _ hz x r (itOk_tup h1 h2)⟩
    · exact hz.elim
def strL (x : Str) : List T := x.cps.toList.map fun c => .str ⟨#[c]⟩
def wiStr (wa : WE) : WI := fun env S E P => wa env S E fun z S1 => match z with
  | .t (.str x) => P (strL x) S1
  | _ => False
theorem itOk_str {K : PySem.W.Frag} {mg : Str → Option Value} {F0 : Hp} {x : Str} : ItOk K mg F0 (strL x) (Its x) := by
  refine ⟨fun i t e F H s1 s2 => ?_, fun i hi F H s1 s2 => ?_⟩
  · unfold strL at e
    rw [List.getElem?_map] at e
    obtain ⟨c, hc, rfl⟩ := Option.map_eq_some_iff.mp e
    have hl := (List.getElem?_eq_some_iff.mp hc).1
    refine ⟨(show i < x.cps.size by simpa using hl), fun v H2 ⟨e2, c2, h1, h2⟩ => ?_⟩
    subst e2 h2
    have e3 : c2 = c := by
      rw [Array.getElem?_toList, h1] at hc
      exact Option.some.inj hc
    subst e3
    exact ⟨F, Step.refl s2, rt_str.mpr rfl⟩
  · have hl : (strL x).length = x.cps.size := by
      unfold strL
      simp
    rw [hl] at hi
    exact hi
theorem SI.str (h : SE X Ew l wa) : SI X Ew tg l (wiStr wa) :=
  PI.imp (pi_str h) fun σ H Q ⟨μ, F, env, S, E, P, rel, hw, xo, post⟩ => by
    refine ⟨μ, F, env, S, E, _, rel, hw, xo, fun z S1 μ1 F1 v H1 hz x r q => ?_⟩
    split at hz
    · rename_i y
      have q' : RT X.K X.mg F1 (.str y) v := q
      rw [rt_str] at q'
      exact ⟨y, q', post _ S1 μ1 F1 H1 _ hz x r itOk_str⟩
    · exact hz.elim
theorem rts1 {K : PySem.W.Frag} {mg : Str → Option Value} {μ : List Addr} {F : Hp} {z : W} {vs : List V} (h : RWs K mg μ F [z] vs) : ∃ v, vs = [v] ∧ RW K mg μ F z v := by
  obtain ⟨v, r, rfl, h1, e⟩ := h
  subst e
  exact ⟨v, rfl, h1⟩
theorem SI.rng1 (ha : SE X Ew a wa) (hg : Gl X "range") (hm : X.mg "range" = none) (hs : starEach [a] X.env = [(false, eval a X.env)]) : SI X Ew tg (.Call (.Name "range" p) [a] [] pos) (wiRng1 wa) :=
  PI.imp (pi_range1 hg hm (SA.cons ha SA.nil hs) hs) fun σ H Q ⟨μ, F, env, S, E, P, rel, hw, xo, post⟩ => by
    refine ⟨μ, F, env, S, E, fun zs S1 => ∃ z, zs = [z] ∧ ∃ j : Int, z = .t (.int j) ∧ -(2 ^ 62) ≤ j ∧ j < 2 ^ 62 ∧ P (rngL 0 j.toNat) S1, rel, ?_, xo, fun zs S1 μ1 F1 vs H1 hz x r q => ?_⟩
    · unfold waCons waNil
      have ef : (fun (z : W) (S1 : Sto) => ∃ j : Int, z = .t (.int j) ∧ -(2 ^ 62) ≤ j ∧ j < 2 ^ 62 ∧ P (rngL 0 j.toNat) S1) = fun (x : W) (S1 : Sto) => ∃ z, [x] = [z] ∧ ∃ j : Int, z = W.t (.int j) ∧ -(2 ^ 62) ≤ j ∧ j < 2 ^ 62 ∧ P (rngL 0 j.toNat) S1 := by
        funext z S1
        apply propext
        constructor
        · intro h; exact ⟨z, rfl, h⟩
        · rintro ⟨z', e, h⟩; cases e; exact h
      have hw' : wa env S E (fun (z : W) (S1 : Sto) => ∃ j : Int, z = .t (.int j) ∧ -(2 ^ 62) ≤ j ∧ j < 2 ^ 62 ∧ P (rngL 0 j.toNat) S1) := hw
      rw [ef] at hw'
      exact hw'
    · obtain ⟨z, rfl, j, rfl, h1, h2, h3⟩ := hz
      obtain ⟨v, rfl, q1⟩ := rts1 q
      have q2 : RT X.K X.mg F1 (.int j) v := q1
      rw [rt_int] at q2
      subst q2
      exact ⟨j, rfl, h1, h2, post _ S1 μ1 F1 H1 _ h3 x r itOk_rng⟩
theorem SI.rng2 (ha : SE X Ew a wa) (hb : SE X Ew b wb) (hg : Gl X "range") (hm : X.mg "range" = none) (hs : starEach [a, b] X.env = [(false, eval a X.env), (false, eval b X.env)]) (hs2 : starEach [b] X.env = [(false, eval b X.env)]) : SI X Ew tg (.Call (.Name "range" p) [a, b] [] pos) (wiRng2 wa wb) :=
  PI.imp (pi_range2 hg hm (SA.cons ha (SA.cons hb SA.nil hs2) (by rw [hs, hs2])) hs hs2) fun σ H Q ⟨μ, F, env, S, E, P, rel, hw, xo, post⟩ => by
    refine ⟨μ, F, env, S, E, fun zs S1 => ∃ z y, zs = [z, y] ∧ ∃ i j : Int, z = .t (.int i) ∧ y = .t (.int j) ∧ (-(2 ^ 62) ≤ i ∧ i < 2 ^ 62 ∧ -(2 ^ 62) ≤ j ∧ j < 2 ^ 62) ∧ P (rngL i (j - i).toNat) S1, rel, ?_, xo, fun zs S1 μ1 F1 vs H1 hz x r q => ?_⟩
    · unfold waCons waNil
      have ef : ∀ x : W, (fun (y : W) (S2 : Sto) => ∃ i j : Int, x = .t (.int i) ∧ y = .t (.int j) ∧ (-(2 ^ 62) ≤ i ∧ i < 2 ^ 62 ∧ -(2 ^ 62) ≤ j ∧ j < 2 ^ 62) ∧ P (rngL i (j - i).toNat) S2) =
          fun (y : W) (S1 : Sto) => ∃ z y', [x, y] = [z, y'] ∧ ∃ i j : Int, z = W.t (.int i) ∧ y' = W.t (.int j) ∧ (-(2 ^ 62) ≤ i ∧ i < 2 ^ 62 ∧ -(2 ^ 62) ≤ j ∧ j < 2 ^ 62) ∧ P (rngL i (j - i).toNat) S1 := by
        intro x
        funext y S1
        apply propext
        constructor
        · intro h; exact ⟨x, y, rfl, h⟩
        · rintro ⟨z', y', e, h⟩; cases e; exact h
      have hw' : wa env S E (fun (x : W) (S1 : Sto) => wb env S1 E (fun (y : W) (S2 : Sto) => ∃ i j : Int, x = .t (.int i) ∧ y = .t (.int j) ∧ (-(2 ^ 62) ≤ i ∧ i < 2 ^ 62 ∧ -(2 ^ 62) ≤ j ∧ j < 2 ^ 62) ∧ P (rngL i (j - i).toNat) S2)) := hw
      simp only [ef] at hw'
      exact hw'
    · obtain ⟨z, y, rfl, i, j, rfl, rfl, h1, h3⟩ := hz
      obtain ⟨v, vr, rfl, q1, q2⟩ := q
      obtain ⟨u, rfl, q3⟩ := rts1 q2
      have q1' : RT X.K X.mg F1 (.int i) v := q1
      have q2' : RT X.K X.mg F1 (.int j) u := q3
      rw [rt_int] at q1' q2'
      subst q1' q2'
      exact ⟨i, j, rfl, h1, post _ S1 μ1 F1 H1 _ h3 x r itOk_rng⟩
theorem forL_turn {step : T → WD → Env → Sto → Prop} {C : WD} {xs : List T} {i : Nat} {t : T} {env : Env} {S : Sto} (h : forL step C (xs.drop i) env S) (e : xs[i]? = some t) : step t { C with nx := forL step C (xs.drop (i + 1)), ct := forL step C (xs.drop (i + 1)), bk := C.nx } env S := by
  have hi := (List.getElem?_eq_some_iff.mp e).1
  have e2 : xs.drop i = t :: xs.drop (i + 1) := by
    rw [List.drop_eq_getElem_cons hi]
    congr 1
    exact (List.getElem?_eq_some_iff.mp e).2
  rw [e2] at h
  exact h
theorem SS.fr {iter : Expr} {body : List Stmt} {wi : WI} {g : WG} {sl : List Nat} {w : WS} (hp : PassesOwn (model X.prog X.w) X.A X.env X.xe) (hc : X.calm = true) (hi : SI X Ew tg iter wi) (hg : SG X tg sl g) (hb : SB X Ew body w)
    (hs : ∀ x, foldedSetIterable iter X.env x = pure x) : SS X Ew (.For tg iter body [] pos) (wFor wi g w) :=
  PS.imp (ps_for hp hc hi hg hb hs) fun D σ H ⟨μ, F, env, S, E, C, rel, hw, xo, dok⟩ => by
    refine ⟨μ, F, env, S, E, _, rel, hw, xo, fun xs S1 μ1 F1 H1 J h1 x1 r1 it => ?_⟩
    refine ⟨fun i m σ H => m = xs.length - i ∧ i ≤ xs.length ∧ ∃ μ2 F2 env2 S2, Ext μ1 F1 μ2 F2 ∧ Rel X.K X.mg μ2 F2 σ H env2 S2 ∧ forL (fun x C env S => g (.t x) env S fun env1 => w C E env1 S) C (xs.drop i) env2 S2,
      ⟨xs.length, by simp, Nat.zero_le _, μ1, F1, env, S1, Ext.refl, r1, h1⟩, ?_⟩
    rintro i m σ H ⟨rfl, hi, μ2, F2, env2, S2, x2, r2, h2⟩
    by_cases hlt : i < xs.length
    · have e : xs[i]? = some xs[i] := List.getElem?_eq_getElem hlt
      obtain ⟨go, yl⟩ := it.1 i _ e F2 H x2.same r2.sub
      refine .inr ⟨go, fun σ' H' => ∃ μ3 F3 env3 S3, Ext μ1 F1 μ3 F3 ∧ Rel X.K X.mg μ3 F3 σ' H' env3 S3 ∧ forL (fun x C env S => g (.t x) env S fun env1 => w C E env1 S) C (xs.drop (i + 1)) env3 S3, fun σ' H' q => ⟨xs.length - (i + 1), by omega, rfl, hlt, q⟩, fun x H' y => ?_⟩
      obtain ⟨F2', st, rt⟩ := yl x H' y
      have x2' := x2.trans (st.ext (μ := μ2))
      refine ⟨μ2, F2', env2, S2, .t xs[i], _, r2.step st, rt, forL_turn h2 e, fun env' σ' hR rel' _ _ => ?_⟩
      exact ⟨μ2, F2', env', S2, E, _, rel', hR, xo.ext (x1.trans x2'), fun en S3 μ3 F3 s3 H3 q x3 r3 => ⟨μ3, F3, en, S3, x2'.trans x3, r3, q⟩, (dok.ext (x1.trans x2')).rt, (dok.ext (x1.trans x2')).nx, fun en S3 μ3 F3 s3 H3 q x3 r3 => ⟨μ3, F3, en, S3, x2'.trans x3, r3, q⟩⟩
    · have e : i = xs.length := by omega
      subst e
      rw [List.drop_length] at h2
      exact .inl ⟨it.2 _ (Nat.le_refl _) F2 H x2.same r2.sub, dok.nx env2 S2 μ2 F2 σ H h2 (x1.trans x2) r2⟩
end

def wipeE (env : Env) : List Nat → Env
  | [] => env
  | v :: vs => (wipeE env vs).set v none
def compL (step : T → Sto → (Option T → Sto → Prop) → Prop) : List T → List T → Sto → (List T → Sto → Prop) → Prop
  | [], acc, S, k => k acc S
  | x :: xs, acc, S, k => step x (S ++ [.lst acc]) fun r S2 => ∃ S3, S2 = S3 ++ [.lst acc] ∧ S3.length = S.length ∧ acc.length < sizeLine ∧ (match r with
    | some t => compL step xs (acc ++ [t]) S3 k
    | none => compL step xs acc S3 k)
def noE : PX := fun _ _ _ => False
def wYes : WE := fun _ S _ R => R (.t (.bl true)) S
def wComp (m : Bool) (vs : List Nat) (wi : WI) (g : WG) (wc we : WE) : WE := fun env S E R => wi env S E fun xs S1 =>
  compL (fun x S k => g (.t x) (wipeE env vs) S fun env1 => wc env1 S noE fun z S2 => ∃ c, z = .t (.bl c) ∧ wBlIf c (we env1 S2 noE fun y S3 => ∃ t, y = .t t ∧ k (some t) S3) (k none S2)) xs [] S1 fun acc S2 => mkL m acc S2 R
section
variable {K : PySem.W.Frag} {mg : Str → Option Value} {μ μ' : List Addr} {F F' H H' : Hp} {σ : L2.St} {env : Env} {S : Sto}
theorem Rel.wipe (R : Rel K mg μ F σ H env S) : ∀ vs : List Nat, Rel K mg μ F (L2.wipe σ vs) H (wipeE env vs) S
  | [] => R
  | v :: vs => by
    have R' := Rel.wipe R vs
    refine ⟨R'.len, R'.sub, R'.off, R'.inj, R'.sto, ?_, fun i w h => ?_, R'.tab, R'.ft⟩
    · show ((L2.wipe σ vs).set v none).length = ((wipeE env vs).set v none).length
      rw [List.length_set, List.length_set]
      exact R'.elen
    · have h' : ((wipeE env vs).set v none)[i]? = some (some w) := h
      show ∃ u, ((L2.wipe σ vs).set v none)[i]? = some (some u) ∧ _
      by_cases hi : i = v
      · subst hi
        have hl := (List.getElem?_eq_some_iff.mp h').1
        rw [List.length_set] at hl
        rw [List.getElem?_set_self hl] at h'
        cases h'
      · rw [List.getElem?_set_ne (Ne.symm hi)] at h'
        obtain ⟨u, e, r⟩ := R'.env i w h'
        exact ⟨u, by rw [List.getElem?_set_ne (Ne.symm hi)]; exact e, r⟩
theorem wipe_get {σ : L2.St} : ∀ {vs : List Nat} {i : Nat}, i < σ.length → (L2.wipe σ vs)[i]? = if i ∈ vs then some none else σ[i]?
  | [], i, h => by
    show σ[i]? = _
    simp
  | v :: vs, i, h => by
    show ((L2.wipe σ vs).set v none)[i]? = _
    have hl : (L2.wipe σ vs).length = σ.length := wipe_length σ vs
    by_cases hi : i = v
    · subst hi
      rw [List.getElem?_set_self (by rw [hl]; exact h)]
      simp
    · rw [List.getElem?_set_ne (Ne.symm hi), wipe_get h]
      by_cases hm : i ∈ vs
      · simp [hm]
      · simp [hm, hi]
theorem wipe_eq {σ σ' : L2.St} {vs sl : List Nat} (hl : σ'.length = (L2.wipe σ vs).length) (ho : ∀ (i : Nat), i ∉ sl → σ'[i]? = (L2.wipe σ vs)[i]?) (hs : ∀ i ∈ sl, i ∈ vs) : L2.wipe σ' vs = L2.wipe σ vs := by
  rw [wipe_length] at hl
  apply List.ext_getElem?
  intro i
  by_cases hi : i < σ.length
  · rw [wipe_get hi, wipe_get (by rw [hl]; exact hi)]
    by_cases hm : i ∈ vs
    · rw [if_pos hm, if_pos hm]
    · rw [if_neg hm, if_neg hm, ho i fun z => hm (hs i z), wipe_get hi, if_neg hm]
  · rw [List.getElem?_eq_none (by rw [wipe_length]; omega), List.getElem?_eq_none (by rw [wipe_length]; omega)]
end
section
variable {X : Cx} {Ew : WX} {elt tg iter : Expr} {ifs : List Expr} {scope : Scope} {own : List (Str × Nat)} {pos : Pos} {wi : WI} {g : WG} {wc we : WE} {sl : List Nat}
abbrev noW : WX := { w := fun _ _ _ _ => False }
theorem noXOk {K : PySem.W.Frag} {mg : Str → Option Value} {μ : List Addr} {F : Hp} : XOk K mg noW μ F noE := ⟨trivial, fun _ _ _ _ _ _ _ _ _ h => h.elim⟩
theorem comp_turn {K : PySem.W.Frag} {mg : Str → Option Value} {J : It} {σ : L2.St} {env : Env} {xs : List T} {μ1 : List Addr} {F1 H1 : Hp} {S1 : Sto} {m : Bool} {vs : List Nat} {R : KW} {Q : VK} {D : Addr} (hsl : ∀ i ∈ sl, i ∈ vs)
    (h1 : compL (fun x S k => g (.t x) (wipeE env vs) S fun env1 => wc env1 S noE fun z S2 => ∃ c, z = .t (.bl c) ∧ wBlIf c (we env1 S2 noE fun y S3 => ∃ t, y = .t t ∧ k (some t) S3) (k none S2)) xs [] S1 fun acc S2 => mkL m acc S2 R)
    (r1 : Rel K mg μ1 F1 σ H1 env S1) (it : ItOk K mg F1 xs J) (hD : H1 D = none)
    (post : ∀ z S' μ' F' v H', R z S' → Ext μ1 F1 μ' F' → Rel K mg μ' F' σ H' env S' → RW K mg μ' F' z v → Q v H') :
    ∃ W : Nat → Nat → Hp → Prop, (∃ m, W 0 m (upd H1 D (.lst []))) ∧ ∀ i m H, W i m H → (J.stop i H ∧ Q (.ref D) H) ∨ (J.go i H ∧ ∃ Nx : Hp → Prop, (∀ H', Nx H' → ∃ m', m' < m ∧ W (i + 1) m' H') ∧ ∀ x H', J.yld i H x H' →
      rdG K mg sl g x (L2.wipe σ vs) H' fun σ2 H2 => L2.wipe σ2 vs = L2.wipe σ vs ∧ rdT K mg noW wc σ2 H2 fun b H3 =>
        if b = true then rdE K mg noW we σ2 H3 fun y H4 => ∃ acc, H4 D = some (.lst acc) ∧ acc.length < sizeLine ∧ Nx (upd H4 D (.lst (acc ++ [y]))) else Nx H3) := by
  have push : ∀ {μ : List Addr} {a : Addr}, (μ ++ [a])[μ.length]? = some a := fun {μ a} => by
    rw [List.getElem?_append_right (Nat.le_refl _), Nat.sub_self]
    rfl
  have pushS : ∀ {S : Sto} {o : MO}, (S ++ [o])[S.length]? = some o := fun {S o} => by
    rw [List.getElem?_append_right (Nat.le_refl _), Nat.sub_self]
    rfl
  -- the whole of a turn's state: the list D is the newest object
  let St := fun (i : Nat) (H : Hp) => ∃ μ2 F2 S2 acc, μ1.length ≤ μ2.length ∧ Ext μ1 F1 (μ2 ++ [D]) F2 ∧ Rel K mg (μ2 ++ [D]) F2 σ H env (S2 ++ [.lst acc]) ∧
    compL (fun x S k => g (.t x) (wipeE env vs) S fun env1 => wc env1 S noE fun z S2 => ∃ c, z = .t (.bl c) ∧ wBlIf c (we env1 S2 noE fun y S3 => ∃ t, y = .t t ∧ k (some t) S3) (k none S2)) (xs.drop i) acc S2 fun acc S2 => mkL m acc S2 R
  refine ⟨fun i k H => k = xs.length - i ∧ i ≤ xs.length ∧ St i H, ⟨xs.length, by simp, Nat.zero_le _, μ1, F1, S1, [], Nat.le_refl _, Ext.push, r1.newM hD ⟨[], upd_same, rts_nil.mpr rfl⟩, h1⟩, ?_⟩
  rintro i k H ⟨rfl, hi, μ2, F2, S2, acc, hle, x2, r2, h2⟩
  have hlen : μ2.length = S2.length := by
    have := r2.len
    simpa using this
  by_cases hlt : i < xs.length
  · have e : xs[i]? = some xs[i] := List.getElem?_eq_getElem hlt
    obtain ⟨go, yl⟩ := it.1 i _ e F2 H x2.same r2.sub
    have e2 : xs.drop i = xs[i] :: xs.drop (i + 1) := List.drop_eq_getElem_cons hlt
    rw [e2] at h2
    unfold compL at h2
    refine .inr ⟨go, St (i + 1), fun H' q => ⟨xs.length - (i + 1), by omega, rfl, hlt, q⟩, fun x H' y => ?_⟩
    obtain ⟨F2', st, rt⟩ := yl x H' y
    have x2' := x2.trans (st.ext (μ := μ2 ++ [D]))
    -- the state behind a turn, from the heap in which D still holds acc
    have again : ∀ {μ3 : List Addr} {F3 H3 : Hp} {S3 : Sto} {σ3 : L2.St} {env3 : Env}, Ext (μ2 ++ [D]) F2' μ3 F3 → Rel K mg μ3 F3 σ3 H3 env3 (S3 ++ [.lst acc]) → S3.length = S2.length → μ3 = μ2 ++ [D] := fun {μ3 F3 H3 S3 σ3 env3} x3 r3 l3 => by
      have hl3 : μ3.length = (μ2 ++ [D]).length := by
        have := r3.len
        simp at this ⊢
        omega
      apply List.ext_getElem?
      intro j
      cases q : (μ2 ++ [D])[j]? with
      | some a => exact x3.pre j a q
      | none => rw [List.getElem?_eq_none_iff] at q ⊢; omega
    have envR : ∀ {F3 H3 : Hp} {S3 : Sto} {σ3 : L2.St} {env3 : Env} {o : MO}, Ext (μ2 ++ [D]) F2' (μ2 ++ [D]) F3 → Rel K mg (μ2 ++ [D]) F3 σ3 H3 env3 S3 → Rel K mg (μ2 ++ [D]) F3 σ H3 env S3 := fun {F3 H3 S3 σ3 env3 o} x3 r3 =>
      r3.frame r1.elen fun j w hw => by
        obtain ⟨v, e1, q⟩ := r1.env j w hw
        exact ⟨v, e1, q.ext (x2'.trans x3)⟩
    refine ⟨μ2 ++ [D], F2', wipeE env vs, S2 ++ [.lst acc], .t xs[i], _, (r2.step st).wipe vs, rt, h2, fun env' σ' hR rel' l' o' => ⟨wipe_eq l' o' hsl, ?_⟩⟩
    refine ⟨μ2 ++ [D], F2', env', S2 ++ [.lst acc], noE, _, rel', hR, noXOk, fun b S3 μ3 F3 H3 hb x3 r3 => ?_⟩
    cases b with
    | true =>
      refine iteT ⟨μ3, F3, env', S3, noE, _, r3, hb, noXOk, fun z S4 μ4 F4 v4 H4 hz x4 r4 q4 => ?_⟩
      obtain ⟨t, rfl, S5, rfl, l5, la, h5⟩ := hz
      have em := again (x3.trans x4) r4 l5
      subst em
      have hget : (μ2 ++ [D])[S5.length]? = some D := by rw [l5, ← hlen]; exact push
      obtain ⟨av, hH, ra⟩ := r4.sto S5.length D _ hget pushS
      have rt4 : RT K mg F4 t v4 := q4
      have x34 : Ext (μ2 ++ [D]) F2' (μ2 ++ [D]) F4 := x3.trans x4
      refine ⟨av, hH, by rw [ra.length]; exact la, μ2, F4, S5, acc ++ [t], hle, x2'.trans x34, ?_, h5⟩
      have r5 := (envR (o := .dead) x34 r4).put hget pushS rfl (n := .lst (acc ++ [t])) ⟨_, upd_same, ra.append (RTs.cons rt4 (rts_nil.mpr rfl))⟩
      have es : (S5 ++ [MO.lst acc]).set S5.length (.lst (acc ++ [t])) = S5 ++ [.lst (acc ++ [t])] := by
        rw [List.set_append_right _ _ (Nat.le_refl _), Nat.sub_self]
        rfl
      rw [es] at r5
      exact r5
    | false =>
      obtain ⟨S5, rfl, l5, la, h5⟩ := hb
      have em := again x3 r3 l5
      subst em
      exact iteF ⟨μ2, F3, S5, acc, hle, x2'.trans x3, envR (o := .dead) x3 r3, h5⟩
  · have e : i = xs.length := by omega
    subst e
    rw [List.drop_length] at h2
    have h2' : mkL m acc S2 R := h2
    refine .inl ⟨it.2 _ (Nat.le_refl _) F2 H x2.same r2.sub, ?_⟩
    have hget : (μ2 ++ [D])[S2.length]? = some D := by rw [← hlen]; exact push
    obtain ⟨av, hH, ra⟩ := r2.sto S2.length D _ hget pushS
    cases m with
    | true =>
      refine post (.ref S2.length) _ (μ2 ++ [D]) F2 _ H h2' x2 r2 ⟨D, hget, rfl⟩
    | false =>
      have hF := r2.off S2.length D _ hget pushS rfl
      -- D becomes a tree, and is forgotten as an object
      have cutM : (μ2 ++ [D]).take μ2.length = μ2 := by rw [List.take_append_of_le_length (Nat.le_refl _), List.take_length]
      have cutS : (S2 ++ [MO.lst acc]).take μ2.length = S2 := by rw [hlen, List.take_append_of_le_length (Nat.le_refl _), List.take_length]
      have x0 : Ext μ1 F1 μ2 F2 := ⟨fun j a h => by
        have q := x2.pre j a h
        have hj := (List.getElem?_eq_some_iff.mp h).1
        rw [List.getElem?_append_left (by omega)] at q
        exact q, x2.same⟩
      have r3 := r2.cut μ2.length (fun j w hw => by
        obtain ⟨v, e1, q⟩ := r1.env j w hw
        exact ⟨v, e1, by rw [cutM]; exact q.ext x0⟩)
      rw [cutM, cutS] at r3
      have sm : Same F2 (upd F2 D (.lst av)) := fun b u q => by
        rw [upd_ne (ne_of_none q hF)]
        exact q
      have r4 : Rel K mg μ2 (upd F2 D (.lst av)) σ H env S2 := by
        refine ⟨r3.len, fun b u q => ?_, fun j a n h1 h2 h3 => ?_, r3.inj, fun j a n h1 h2 => ?_, r3.elen, fun j w hw => ?_, fun q hq => (r3.tab q hq).at (upd_ne ((r3.tab q hq).ne (a := D) (by rw [hH]; simp))) rfl sm, fun b ps => ?_⟩
        · by_cases hb : b = D
          · subst hb
            rw [upd_same] at q
            rw [hH]
            exact q
          · rw [upd_ne hb] at q
            exact r3.sub _ _ q
        · have ne : a ≠ D := fun z => by
            have hj := (List.getElem?_eq_some_iff.mp h2).1
            have := r2.inj j S2.length a n _ (by rw [List.getElem?_append_left (by omega)]; exact h1) (by rw [z]; exact hget) (by rw [List.getElem?_append_left hj]; exact h2) pushS h3 rfl
            omega
          rw [upd_ne ne]
          exact r3.off j a n h1 h2 h3
        · have q := r3.sto j a n h1 h2
          cases n with
          | dead => trivial
          | lst ys => obtain ⟨vs, h, r⟩ := q; exact ⟨vs, h, RTs.mono sm _ _ r⟩
          | dK ys => obtain ⟨vs, h, e, r⟩ := q; exact ⟨vs, h, e, RTs.mono sm _ _ r⟩
          | dT ys => obtain ⟨vs, h, e, r⟩ := q; exact ⟨vs, h, e, RTs.mono sm _ _ r⟩
        · obtain ⟨v, e1, q⟩ := r3.env j w hw
          exact ⟨v, e1, q.ext ⟨fun _ _ h => h, sm⟩⟩
        · by_cases hb : b = D
          · rw [hb, upd_same]
            simp
          · rw [upd_ne hb]
            exact r3.ft b ps
      exact post (.t (.lst acc)) S2 μ2 _ (.ref D) H h2' ⟨x0.pre, x0.same.trans sm⟩ r4 (rt_lst.mpr ⟨D, av, rfl, upd_same, RTs.mono sm _ _ ra⟩)
theorem SE.comp {m : Bool} (hc : X.calm = true) (hN : X.N.Nodup) (hi : SI X Ew tg iter wi) (ok : BlkOk X.N X.env.scope scope own) (hsl : ∀ i ∈ sl, i ∈ own.map (·.2))
    (hg : ∀ (s : Shared) (H : Hp) (C : Addr) (cl : List (Str × Addr)) (fp : List Addr), SG (X.blk s H scope (compEnvC scope cl C X.env) fp) tg sl g)
    (ht : ∀ (s : Shared) (H : Hp) (C : Addr) (cl : List (Str × Addr)) (fp : List Addr), PTs (X.blk s H scope (compEnvC scope cl C X.env) fp) ifs (rdT X.K X.mg noW wc))
    (he : ∀ (s : Shared) (H : Hp) (C : Addr) (cl : List (Str × Addr)) (fp : List Addr), SE (X.blk s H scope (compEnvC scope cl C X.env) fp) noW elt we) (hs : ∀ x, foldedSetIterable iter X.env x = pure x) :
    SE X Ew (.ListComp elt [⟨tg, iter, ifs, 0⟩] scope pos) (wComp m (own.map (·.2)) wi g wc we) :=
  PE.imp (pe_lc hc hN hi ok hg ht he hs) fun σ H Q ⟨μ, F, env, S, E, R, rel, hw, xo, post⟩ =>
    ⟨μ, F, env, S, E, _, rel, hw, xo, fun xs S1 μ1 F1 H1 J h1 x1 r1 it D hD => comp_turn hsl h1 r1 it hD fun z S' μ' F' v H' hz x' r' q' => post z S' μ' F' v H' hz (x1.trans x') r' q'⟩
theorem SS.setComp {m : Bool} {i : Nat} {y : Str} {py spos : Pos} (hc : X.calm = true) (hN : X.N.Nodup) (hy : X.N[i]? = some y) (hyl : X.env.scope.names.lookup y = some .local)
    (hsw : swapsWith (.ListComp elt [⟨tg, iter, ifs, 0⟩] scope pos) (some (.Name y py)) spos.line X.env = pure true) (hi : SI X Ew tg iter wi) (ok : BlkOk X.N X.env.scope scope own) (hsl : ∀ i ∈ sl, i ∈ own.map (·.2))
    (hg : ∀ (s : Shared) (H : Hp) (C : Addr) (cl : List (Str × Addr)) (fp : List Addr), SG (X.blk s H scope (compEnvC scope cl C X.env) fp) tg sl g)
    (ht : ∀ (s : Shared) (H : Hp) (C : Addr) (cl : List (Str × Addr)) (fp : List Addr), PTs (X.blk s H scope (compEnvC scope cl C X.env) fp) ifs (rdT X.K X.mg noW wc))
    (he : ∀ (s : Shared) (H : Hp) (C : Addr) (cl : List (Str × Addr)) (fp : List Addr), SE (X.blk s H scope (compEnvC scope cl C X.env) fp) noW elt we) (hs : ∀ x, foldedSetIterable iter X.env x = pure x) :
    SS X Ew (.Assign [.Name y py] (.ListComp elt [⟨tg, iter, ifs, 0⟩] scope pos) spos) (wAsg (wComp m (own.map (·.2)) wi g wc we) (gNm i)) :=
  PS.imp (ps_setLc hc hN hy hyl hsw hi ok hg ht he hs) fun D σ H ⟨μ, F, env, S, E, C, rel, hw, xo, dok⟩ =>
    ⟨μ, F, env, S, E, _, rel, hw, xo, fun xs S1 μ1 F1 H1 J h1 x1 r1 it L hL => comp_turn hsl h1 r1 it hL fun z S' μ' F' v H' hz x' r' q' => dok.nx _ S' μ' F' _ H' hz (x1.trans x') (r'.setE q')⟩
end
end Tw
set_option Elab.async false
set_option linter.all false
set_option maxRecDepth 100000
namespace Tw
open PySem PySem.Spec PyProof.Rows L2

/-- a def keeps a promise, where no repr runs -/
structure FnG (P : Program) (w : World) (K : PySem.W.Frag) (mg : Str → Option Value) (base : Heap) (k : Nat) (f : Addr) (fd : FuncData) (ps : List Str) (sp : Sp) : Prop where
  len : ∀ vs H Q E, sp vs H Q E → vs.length = ps.length
  run : ∀ (A : Around) (outer : List PySem.Env) (s : Shared) (H : Hp) (args : Args) (us : List Value) (vs : List V) (Q : VK) (E : XK), Room k A → A.guards = some [] → Env0 P w K mg base A outer s H → BindsTo s fd args (ps.zip us) → Vals vs us → sp vs H Q E →
    codeAny (model P w) A (.call (.ref f) args) (CR (L2.CX P w) outer P w H s Q E) s
theorem FnG.mono {P : Program} {w : World} {K : PySem.W.Frag} {mg : Str → Option Value} {base : Heap} {j k : Nat} {f : Addr} {fd : FuncData} {ps : List Str} {sp : Sp} (F : FnG P w K mg base j f fd ps sp) (h : j ≤ k) : FnG P w K mg base k f fd ps sp :=
  ⟨F.len, fun A outer s H args us vs Q E hr => F.run A outer s H args us vs Q E (hr.mono h)⟩
/-- what is promised of a def's call by place -/
def FnV (P : Program) (w : World) (K : PySem.W.Frag) (mg : Str → Option Value) (base : Heap) (k : Nat) (f : Addr) (sp : Sp) : Prop :=
  ∀ (A : Around) (outer : List PySem.Env) (s : Shared) (H : Hp) (us : List Value) (vs : List V) (Q : VK) (E : XK), Room k A → A.guards = some [] → Env0 P w K mg base A outer s H → Vals vs us → sp vs H Q E →
    codeAny (model P w) A (.call (.ref f) ⟨us, []⟩) (CR (L2.CX P w) outer P w H s Q E) s
theorem FnV.mono {P : Program} {w : World} {K : PySem.W.Frag} {mg : Str → Option Value} {base : Heap} {j k : Nat} {f : Addr} {sp : Sp} (F : FnV P w K mg base j f sp) (h : j ≤ k) : FnV P w K mg base k f sp :=
  fun A outer s H us vs Q E hr => F A outer s H us vs Q E (hr.mono h)
theorem FnG.toV {P : Program} {w : World} {K : PySem.W.Frag} {mg : Str → Option Value} {base : Heap} {k : Nat} {f : Addr} {fd : FuncData} {ps : List Str} {sp sp' : Sp} {dvs : List V} {ds : List Value} (F : FnG P w K mg base k f fd ps sp) (hB : Binds K fd ps ds) (hd : Vals dvs ds)
    (h : ∀ vs H Q E, sp' vs H Q E → sp (vs ++ dvs) H Q E) : FnV P w K mg base k f sp' := fun A outer s H us vs Q E hr hG e0 r q => by
  have z := h vs H Q E q
  have r' := r.append hd
  have hl : (us ++ ds).length = ps.length := by rw [← r'.length]; exact F.len _ _ _ _ z
  have KX : K.In s.heap := e0.mod.kin.keeps fun b o e => (e0.bs b o e).1
  exact F.run A outer s H ⟨us, []⟩ (us ++ ds) (vs ++ dvs) Q E hr hG e0 (hB s us KX hl) r' z
/-- what is promised of a def, over trees -/
abbrev FS := List W → Sto → (T → Sto → Prop) → KW → Prop
def spF (K : PySem.W.Frag) (mg : Str → Option Value) (on : Option Nat) (g : FS) : Sp := fun vs H Q E => (∀ n, on = some n → vs.length = n) ∧ ∃ (μ : List Addr) (F : Hp) (ws : List W) (S : Sto) (EX : T → Sto → Prop) (R : KW), Rel K mg μ F [] H [] S ∧ RWs K mg μ F ws vs ∧ (∀ n, on = some n → ws.length = n) ∧ g ws S EX R ∧
  (∀ z S' μ' F' v H', R z S' → Ext μ F μ' F' → Rel K mg μ' F' [] H' [] S' → RW K mg μ' F' z v → Q v H') ∧
  ∀ x S' μ' F' cls d H', EX x S' → Ext μ F μ' F' → Rel K mg μ' F' [] H' [] S' → RX K mg F' x cls d → E cls d H'
def wCall (g : FS) (wa : WA) : WE := fun env S E R => wa env S E fun ws S1 => g ws S1 (fun x S2 => E x env S2) R
section
variable {K : PySem.W.Frag} {mg : Str → Option Value} {μ μ' : List Addr} {F F' H H' : Hp} {σ : L2.St} {env : Env} {S S' : Sto}
theorem RWs.length {ws : List W} {vs : List V} : RWs K mg μ F ws vs → vs.length = ws.length := by
  induction ws generalizing vs with
  | nil => intro h; rw [show vs = [] from h]; rfl
  | cons w ws ih =>
    rintro ⟨v, r, rfl, _, h⟩
    rw [List.length_cons, List.length_cons, ih h]
/-- the caller's frame over what the callee left -/
theorem Rel.back (r : Rel K mg μ F σ H env S) (x : Ext μ F μ' F') (r' : Rel K mg μ' F' [] H' [] S') : Rel K mg μ' F' σ H' env S' :=
  r'.frame r.elen fun i w h => by
    obtain ⟨v, e, q⟩ := r.env i w h
    exact ⟨v, e, q.ext x⟩
theorem Rel.bare (r : Rel K mg μ F σ H env S) : Rel K mg μ F [] H [] S := r.frame rfl fun i w h => by simp at h
end
section
variable {X : Cx} {Ew : WX} {k : Nat} {f : Addr} {g : FS} {n : Nat} {on : Option Nat} {x : Str} {p pos : Pos} {e : Expr} {es : List Expr} {wA : WA}
theorem run_fnV {pins : List (Addr × Obj)} {σ : L2.St} {H : Hp} {s : Shared} {Q : VK} {us : List Value} {vs : List V} {sp : Sp} (F : FnV X.prog X.w X.K X.mg X.base k f sp) (hr : Room k X.A) (hG : X.A.guards = some []) (tk : Takes X Ew.w)
    (I : Inv X pins σ H s) (r : Vals vs us) (h : sp vs H Q (fun c d H => Ew.w c d σ H)) : wpAny (model X.prog X.w) X.A (call (.ref f) us) (EP X pins σ Q) X.xe s := by
  refine wpAny_call (codeAny_mono (F X.A X.stack s H us vs Q _ hr hG I.env0 r h) fun r s' hq => ?_)
  cases r with
  | error e => exact passAt tk σ pins H s e s' I hq
  | ok fl =>
    cases fl with
    | ret u => exact I.after hq
    | next => exact False.elim hq
    | brk => exact False.elim hq
    | cont => exact False.elim hq
def tCallG (sp : Sp) (Ew : WX) (t : TA) : TE := fun σ H Q => t σ H fun vs H1 => sp vs H1 Q (fun c d H => Ew.w c d σ H)
theorem pe_callG {sp : Sp} {t : TA} (F : FnV X.prog X.w X.K X.mg X.base k f sp) (hr : Room k X.A) (hG : X.A.guards = some []) (hg : Gl X x) (hm : X.mg x = some (.ref f)) (hk : PySem.W.keepIn X.K (.ref f) = true) (tk : Takes X Ew.w)
    (ha : PA X (e :: es) t) (hdb : (x == ("__debug__" : Str)) = false) (he : starEach (e :: es) X.env = (false, eval e X.env) :: starEach es X.env) (hpl : (backTo pos (starEach es X.env)).any (·.1) = false) :
    PE X (.Call (.Name x p) (e :: es) [] pos) (tCallG sp Ew t) := by
  refine ⟨fun pins s σ H Q I h => wpAny_Call_Name_kw (ld_glob I hg hm ?_ hdb)⟩
  refine PySem.W.callWith_K (h₀ := X.base) I.ok.mod.kin hk (thn (ha.run pos pins s σ H _ I h) fun us s1 ⟨vs, H1, I1, r, q⟩ => ⟨I1.kIn, run_fnV F hr hG tk I1 r q⟩) he hpl
theorem SE.call (F : FnV X.prog X.w X.K X.mg X.base k f (spF X.K X.mg on g)) (hon : ∀ m, on = some m → m = n) (hr : Room k X.A) (hG : X.A.guards = some []) (hg : Gl X x) (hm : X.mg x = some (.ref f)) (hk : PySem.W.keepIn X.K (.ref f) = true) (tk : Takes X Ew.w)
    (ha : SA X Ew (e :: es) wA) (hdb : (x == ("__debug__" : Str)) = false) (he : starEach (e :: es) X.env = (false, eval e X.env) :: starEach es X.env) (hpl : (backTo pos (starEach es X.env)).any (·.1) = false) :
    SE X Ew (.Call (.Name x p) (e :: es) [] pos) (wCall (fun ws S EX R => ws.length = n ∧ g ws S EX R) wA) :=
  PE.imp (pe_callG F hr hG hg hm hk tk ha hdb he hpl) fun σ H Q ⟨μ, F, env, S, E, R, rel, hw, xo, post⟩ => by
    refine ⟨μ, F, env, S, E, _, rel, hw, xo, fun zs S1 μ1 F1 vs H1 hz x1 r1 q1 => ?_⟩
    exact ⟨fun m e => by rw [q1.length, hz.1, hon m e], μ1, F1, zs, S1, _, R, r1.bare, q1, fun m e => by rw [hz.1, hon m e], hz.2, fun z S2 μ2 F2 v H2 hR x2 r2 q2 => post z S2 μ2 F2 v H2 hR (x1.trans x2) (r1.back x2 r2) q2,
      fun t S2 μ2 F2 cls d H2 hE x2 r2 q2 => xo.go t env S2 μ2 F2 cls d σ H2 hE (x1.trans x2) (r1.back x2 r2) q2⟩
theorem SE.call0 (F : FnV X.prog X.w X.K X.mg X.base k f (spF X.K X.mg on g)) (hon : ∀ m, on = some m → m = 0) (hr : Room k X.A) (hG : X.A.guards = some []) (hg : Gl X x) (hm : X.mg x = some (.ref f)) (hk : PySem.W.keepIn X.K (.ref f) = true) (tk : Takes X Ew.w) (hdb : (x == ("__debug__" : Str)) = false) :
    SE X Ew (.Call (.Name x p) [] [] pos) (wCall (fun ws S EX R => ws.length = 0 ∧ g ws S EX R) waNil) := by
  refine ⟨fun pins s σ H Q I h => ?_⟩
  obtain ⟨μ, F', env, S, E, R, rel, hw, xo, post⟩ := h
  refine wpAny_Call_Name_kw (ld_glob I hg hm (PySem.W.callWith_K0 I.kIn hk ?_) hdb)
  exact run_fnV F hr hG tk I .nil ⟨fun m e => (hon m e).symm, μ, F', [], S, _, R, rel.bare, rfl, fun m e => (hon m e).symm, hw.2, fun z S2 μ2 F2 v H2 hR x2 r2 q2 => post z S2 μ2 F2 v H2 hR x2 (rel.back x2 r2) q2,
      fun t S2 μ2 F2 cls d H2 hE x2 r2 q2 => xo.go t env S2 μ2 F2 cls d σ H2 hE x2 (rel.back x2 r2) q2⟩
end

def cutW (z : W) (n : Nat) (S : Sto) : Sto := match z with
  | .t _ => S.take n
  | .ref _ => S
  | .tw _ => S
def wDef (body : WS) (nl : Nat) : FS := fun ws S EX R => body { nx := fun _ S' => R (.t .non) (S'.take S.length), rt := fun z S' => R z (cutW z S.length S') } (fun x _ S' => EX x (S'.take S.length)) (ws.map some ++ List.replicate (nl - ws.length) none) S
theorem fnG_of {P : Program} {w : World} {K : PySem.W.Frag} {mg : Str → Option Value} {base : Heap} {k : Nat} {f : Addr} {name qual : Str} {params : Arguments} {body : List Stmt} {scope : Scope} {dV kV doc pm cdv ct oc : Value} {an od : Option Addr}
    {osl : Array (Option Value)} {N ps : List Str} {sp : Sp} (lk : K.lookup f = some ⟨oc, od, .func (PySem.W.fnOf name qual params body scope dV kV doc pm an cdv ct), osl⟩) (hcd : PySem.W.codeIn K cdv qual = true) (S : FnScope N ps scope)
    (len : ∀ vs H Q E, sp vs H Q E → vs.length = ps.length)
    (hbody : ∀ (A : Around) (outer : List PySem.Env) (s : Shared) (H : Hp) (vs : List V) (Q : VK) (E : XK), Room k (A.deeper (envOfC qual scope s.heap.objs.size f cdv)) → A.guards = some [] → sp vs H Q E →
      ∃ t, PSs (cxOf (L2.CX P w) P w K mg base N qual scope f cdv A outer s H E) body t ∧ t { nx := fun _ H' => Q .non H', rt := Q } (L2.start N vs) H) :
    FnG P w K mg base (k + 1) f (PySem.W.fnOf name qual params body scope dV kV doc pm an cdv ct) ps sp := by
  refine ⟨len, fun A outer s H args us vs Q E hr hG e0 hb r hsp => ?_⟩
  have hl := len _ _ _ _ hsp
  have KX : K.In s.heap := e0.mod.kin.keeps fun b o e => (e0.bs b o e).1
  have lim : s.heap.NoLimit := e0.mod.nolimit.keeps fun b o e => (e0.bs b o e).1
  have hkind : ∀ y ∈ ps.zip us, scope.names.lookup y.1 = some .local ∨ (scope.names.lookup y.1 = some .cell ∧ ((cellsFrom (s.heap.objs.size + 1) scope.names []).lookup y.1).isSome = true) := fun ⟨n, v⟩ hy => by
    rcases S.par n (List.of_mem_zip hy).1 with q | q
    · exact .inl q
    · exact .inr ⟨q, PySem.W.cellsFrom_some _ _ _ (.inl q)⟩
  refine codeAny_call_function hr.depth (KX _ _ lk) rfl S.co S.gen rfl (PySem.W.codeRec_of KX hcd) (hb _ _ _ _ ?_)
  refine wpAny_newFunctionEnv_cells S.kind hkind fun env he s1 x => ?_
  subst he
  refine ⟨lim.keeps x.toInCall.keep, codeAny_func ?_⟩
  obtain ⟨t, ht, hq⟩ := hbody A outer s H vs Q E (hr.deeper _) hG hsp
  have I : Inv (cxOf (L2.CX P w) P w K mg base N qual scope f cdv A outer s H E) [] (L2.start N vs) H s1 := inv_start S hr.hd e0 hl r x
  refine wpAny_mono (ht.run [] s1 (L2.start N vs) H _ I hq) (fun fl s' hs => ?_) fun e s' hs => hs
  have fin : ∀ {σ' : L2.St} {H' : Hp} {v : V} {u : Value}, Inv (cxOf (L2.CX P w) P w K mg base N qual scope f cdv A outer s H E) [] σ' H' s' → RelV v u → Q v H' → CE outer P w H s Q u s' :=
    fun {σ' H' v u} J rv q => ⟨v, H', J.os, J.bare, J.base, J.hok, rv, q⟩
  cases fl with
  | ret u =>
    obtain ⟨v, σ', H', J, rv, q⟩ := hs
    exact fin J rv q
  | next =>
    obtain ⟨σ', H', J, q⟩ := hs
    exact fin (v := V.non) (u := Value.none) J rfl q
  | brk =>
    obtain ⟨_, _, _, q⟩ := hs
    exact False.elim q
  | cont =>
    obtain ⟨_, _, _, q⟩ := hs
    exact False.elim q
section
variable {K : PySem.W.Frag} {mg : Str → Option Value} {μ μ' : List Addr} {F F' H H' : Hp} {σ : L2.St} {env : Env} {S S' : Sto}
theorem Ext.cut (x : Ext μ F μ' F') : Ext μ F (μ'.take μ.length) F' := ⟨fun i a h => by
  have hi := (List.getElem?_eq_some_iff.mp h).1
  rw [List.getElem?_take_of_lt hi]
  exact x.pre i a h, x.same⟩
theorem rel_start {N : List Str} {vs : List V} {ws : List W} (r : Rel K mg μ F [] H [] S) (q : RWs K mg μ F ws vs) : Rel K mg μ F (L2.start N vs) H (ws.map some ++ List.replicate (N.length - ws.length) none) S := by
  have get : ∀ {ws : List W} {vs : List V} {i : Nat} {w : W}, RWs K mg μ F ws vs → ws[i]? = some w → ∃ v, vs[i]? = some v ∧ RW K mg μ F w v := by
    intro ws
    induction ws with
    | nil => intro vs i w _ h; simp at h
    | cons z ws ih =>
      rintro vs i w ⟨v, rr, rfl, h1, h2⟩ h
      cases i with
      | zero =>
        have e : z = w := by simpa using h
        subst e
        exact ⟨v, rfl, h1⟩
      | succ i =>
        obtain ⟨u, e1, e2⟩ := ih (i := i) h2 (by simpa using h)
        exact ⟨u, by simpa using e1, e2⟩
  refine r.frame ?_ fun i w h => ?_
  · unfold L2.start
    rw [List.length_append, List.length_append, List.length_map, List.length_map, List.length_replicate, List.length_replicate, q.length]
  · have hi : i < ws.length := by
      by_cases hi : i < ws.length
      · exact hi
      · rw [List.getElem?_append_right (by simpa using hi), List.getElem?_replicate] at h
        split at h <;> cases h
    rw [List.getElem?_append_left (by simpa using hi), List.getElem?_map] at h
    cases e : ws[i]? with
    | none => rw [e] at h; cases h
    | some z =>
      rw [e] at h
      cases h
      obtain ⟨v, e1, e2⟩ := get q e
      refine ⟨v, ?_, e2⟩
      unfold L2.start
      rw [List.getElem?_append_left (by rw [List.length_map, q.length]; exact hi), List.getElem?_map, e1]
      rfl
end
end Tw
set_option Elab.async false
set_option linter.all false
set_option maxRecDepth 100000
namespace Tw
open PySem PySem.Spec PyProof.Rows L2

theorem fly_keeps {h h' B : Heap} {l : List PySem.Env} {e : Addr} {Z : Obj → Prop} (k : ∀ b o, h.get? b = some o → h'.get? b = some o) (x : HandSPX.FlyingZ B l e Z h) : HandSPX.FlyingZ B l e Z h' := by
  obtain ⟨k1, k2, k3, oe, vs, U, oT, ts, he, hz, hd, h1, hb, hT, hoT, hdT, h3⟩ := x
  exact ⟨fun b o q => k b o (k1 b o q), k2, k3.of_keeps (fun b o q _ => ⟨o, k b o q, rfl⟩), oe, vs, U, oT, ts, k _ _ he, hz, hd, h1, hb, hT, k _ _ hoT, hdT, h3⟩
theorem exH_ok {P : Program} {w : World} {H : Hp} {h : Heap} {a : Addr} {cls : Value} {d : Option Addr} {oe : Obj} {vs : Array Value} (he : h.get? a = some oe) (hz : Zc cls d oe) (hd : oe.data = .fields vs) : ObjOk P w H h a (exH a cls d) :=
  ⟨⟨oe, vs, he, hz, hd⟩, ⟨_, he⟩, fun h1 h2 z k => by
    obtain ⟨oe, vs, q1, q2⟩ := z
    exact ⟨oe, vs, k _ q1, q2⟩⟩
section
variable {X : Cx} {pins : List (Addr × Obj)} {σ : L2.St} {H : Hp} {sI s s' : Shared} {B : Heap}
/-- the landed exception becomes an object of ours -/
theorem adopt {a : Addr} {cls : Value} {d : Option Addr} {oe : Obj} {vs : Array Value} (I : Inv X pins σ H sI) (nb : ∀ b o, sI.heap.get? b = some o → b ∉ frs X.stack → B.get? b = some o) (st : B.StaysIn s'.heap) (hB : B.get? a = none)
    (up : sI.heap.UpToSlots s'.heap) (os : s'.os = sI.os) (ag : AllBare s'.gens) (na : H a = none) (nF : a ∉ frs X.stack) (he : s'.heap.get? a = some oe) (hz : Zc cls d oe) (hd : oe.data = .fields vs) : Inv X pins σ (upd H a (exH a cls d)) s' := by
  obtain ⟨G, g1, g2⟩ := restrict s'.heap fun b => decide (b ≠ a)
  have gk : ∀ b, b ≠ a → G.get? b = s'.heap.get? b := fun b hb => g1 b (decide_eq_true hb)
  have ga : G.get? a = none := g2 a (decide_eq_false fun z => z rfl)
  have sa : sI.heap.get? a = none := by
    cases e : sI.heap.get? a with
    | none => rfl
    | some o =>
      have z := nb a o e nF
      rw [hB] at z
      cases z
  have J : Inv X pins σ H { s' with heap := G } := I.landed (s' := { s' with heap := G }) nb (fun b o q => by
      by_cases z : b = a
      · rw [z, hB] at q; cases q
      · exact (gk b z).trans (st b o q)) (fun b o e hn => by
      by_cases z : b = a
      · rw [z, sa] at e; cases e
      · obtain ⟨sl, q⟩ := up b o e hn
        exact ⟨sl, (gk b z).trans q⟩) os ag
  exact J.laidN (t' := s'.toks) (h' := s'.heap) (fun b o e => by
      by_cases z : b = a
      · have e' : G.get? b = some o := e
        rw [z, ga] at e'; cases e'
      · exact (gk b z).symm.trans e) ga na (exH_ok he hz hd)
theorem suite0 (I : Inv X pins σ H s) (a : Addr) : Inv (X.suite a (X.pn ++ pins)) [] σ H s :=
  ⟨I.ok.suite _ _, I.os, I.bare, I.base, I.loc, I.cell, I.free, I.freeC, fun p hp => I.pin p (by rw [List.append_nil] at hp; exact hp), I.hok, I.len⟩
theorem unsuite0 {a : Addr} {pn' : List (Addr × Obj)} (I : Inv (X.suite a (X.pn ++ pins)) pn' σ H s) (ok : X.Ok) : Inv X pins σ H s :=
  ⟨ok, I.os, I.bare, I.base, I.loc, I.cell, I.free, I.freeC, fun p hp => I.pin p (List.mem_append_left _ hp), I.hok, I.len⟩
theorem name_v {E : Value → Shared → Prop} {x : Str} {c : Value} {np : Pos} {Q : Value → Shared → Prop} (hc : Names X x c) (I : Inv X pins σ H s) (q : Q c s) : wpAny (model X.prog X.w) X.A (eval (.Name x np) X.env) Q E s := by
  obtain ⟨hg, hdbg, hm | ⟨hm, hv, hnn⟩⟩ := hc
  · exact ld_glob I hg hm q hdbg
  · exact ld_blt I hg hm hv q hnn hdbg
end
/-- what an except clause names -/
inductive TestOk (X : Cx) : Expr → List Value → Prop
  | one {x : Str} {c : Value} {np : Pos} (h : Names X x c) : TestOk X (.Name x np) [c]
  | tup2 {x y : Str} {c d : Value} {p q r : Pos} {kk : Nat} (h1 : Names X x c) (h2 : Names X y d) : TestOk X (.Tuple [.Name x p, .Name y q] kk r) [c, d]
  | tup3 {x y z : Str} {c d e : Value} {p q r u : Pos} {kk : Nat} (h1 : Names X x c) (h2 : Names X y d) (h3 : Names X z e) : TestOk X (.Tuple [.Name x p, .Name y q, .Name z r] kk u) [c, d, e]
theorem exmAny1 {K : PySem.W.Frag} {cls c : Value} {b : Bool} (h : PySem.W.exmAny K cls [c] = some b) : PySem.W.exmOne K cls c = some b := by
  obtain ⟨b1, d1, h1, h2, h3⟩ := PySem.W.exmAny_cons h
  have h2 : some false = some d1 := h2
  cases h2
  rw [Bool.or_false] at h3
  rw [h1, h3]
theorem test_ok {X : Cx} {a : Addr} {t : Expr} {cs : List Value} {cls : Value} {b : Bool} {pins : List (Addr × Obj)} {σ : L2.St} {H : Hp} {s : Shared} {Q : Bool → Shared → Prop} {E : Value → Shared → Prop} (ht : TestOk X t cs) (I : Inv X pins σ H s)
    (LT : PySem.W.Looks (model X.prog X.w) s.heap (typeOf (.ref a)) cls) (he : PySem.W.exmAny X.K cls cs = some b) (q : ∀ h', (∀ b o, s.heap.get? b = some o → h'.get? b = some o) → Q b { s with heap := h' }) :
    wpAny (model X.prog X.w) X.A (eval t X.env) (fun c s1 => wpAny (model X.prog X.w) X.A (excMatches (.ref a) c) Q E s1) E s := by
  cases ht with
  | one h => exact name_v h I ((PySem.W.exm_one I.kIn LT (exmAny1 he)).here (q s.heap fun _ _ z => z))
  | @tup2 x y c d p q' r kk h1 h2 =>
    refine wpAny_Tuple ?_
    refine wpAny_items_cons (name_v h1 I ?_)
    refine wpAny_items_cons (name_v h2 I ?_)
    refine wpAny_items_nil ⟨by size_fits, ?_⟩
    have kp : ∀ q o, s.heap.get? q = some o → (s.heap.push { cls := .type "tuple", data := .seq [c, d].toArray }).get? q = some o := fun _ _ z => Heap.get?_push_of_some _ z
    exact (PySem.W.exm_tup2 (I.kIn.keeps kp) (LT.keeps kp) (Heap.get?_push_size s.heap rfl) he).here (q _ kp)
  | @tup3 x y z c d e p q' r u kk h1 h2 h3 =>
    refine wpAny_Tuple ?_
    refine wpAny_items_cons (name_v h1 I ?_)
    refine wpAny_items_cons (name_v h2 I ?_)
    refine wpAny_items_cons (name_v h3 I ?_)
    refine wpAny_items_nil ⟨by size_fits, ?_⟩
    have kp : ∀ q o, s.heap.get? q = some o → (s.heap.push { cls := .type "tuple", data := .seq [c, d, e].toArray }).get? q = some o := fun _ _ z => Heap.get?_push_of_some _ z
    exact (PySem.W.exm_tup3 (I.kIn.keeps kp) (LT.keeps kp) (Heap.get?_push_size s.heap rfl) he).here (q _ kp)
theorem sp_of {X X' : Cx} {p p' : List (Addr × Obj)} {D : Ends} {s : Shared} (k : ∀ {σ : L2.St} {H : Hp}, Inv X' p' σ H s → Inv X p σ H s) : ∀ {f : Flow}, SP X' p' D f s → SP X p D f s
  | .next, ⟨σ, H, j, q⟩ => ⟨σ, H, k j, q⟩
  | .brk, ⟨σ, H, j, q⟩ => ⟨σ, H, k j, q⟩
  | .cont, ⟨σ, H, j, q⟩ => ⟨σ, H, k j, q⟩
  | .ret _, ⟨v, σ, H, j, r, q⟩ => ⟨v, σ, H, k j, r, q⟩
/-- an exception on the ground: sI is the state without it -/
structure Down (X : Cx) (pins : List (Addr × Obj)) (B : Heap) (a : Addr) (cls : Value) (d : Option Addr) (sI : Shared) (σ : L2.St) (H : Hp) (s : Shared) : Prop where
  old : Inv X pins σ H sI
  kept : ∀ b o, sI.heap.get? b = some o → b ∉ frs X.stack → B.get? b = some o
  slots : sI.heap.UpToSlots s.heap
  fly : HandSPX.FlyingZ B X.stack a (Zc cls d) s.heap
  off : H a = none
  os : s.os = sI.os
  gens : AllBare s.gens
section
variable {X : Cx} {pins : List (Addr × Obj)} {B : Heap} {a : Addr} {cls : Value} {d : Option Addr} {sI s : Shared} {σ : L2.St} {H : Hp}
theorem Down.inv (w : Down X pins B a cls d sI σ H s) : Inv X pins σ H s := w.old.landed w.kept w.fly.1 w.slots w.os w.gens
theorem Down.go (w : Down X pins B a cls d sI σ H s) {h' : Heap} (f : HandSPX.FlyingZ B X.stack a (Zc cls d) h') (u : s.heap.UpToSlots h') : Down X pins B a cls d sI σ H { s with heap := h' } :=
  ⟨w.old, w.kept, w.slots.trans u, f, w.off, w.os, w.gens⟩
theorem Down.grow (w : Down X pins B a cls d sI σ H s) {h' : Heap} (k : ∀ b o, s.heap.get? b = some o → h'.get? b = some o) : Down X pins B a cls d sI σ H { s with heap := h' } :=
  w.go (fly_keeps k w.fly) (Heap.UpToSlots.of_keeps k)
theorem Down.own (w : Down X pins B a cls d sI σ H s) : Inv X pins σ (upd H a (exH a cls d)) s := by
  obtain ⟨o, vs, g, z, v⟩ := w.fly.there
  refine adopt w.old w.kept w.fly.1 w.fly.2.1 w.slots w.os w.gens w.off (fun m => ?_) g z v
  obtain ⟨_, o', g', q⟩ := w.fly.2.2.1.mem m
  cases g.symm.trans g'
  exact q _ v
theorem Down.look (w : Down X pins B a cls d sI σ H s) {M : Model} : PySem.W.Looks M s.heap (typeOf (.ref a)) cls := by
  obtain ⟨o, vs, g, z, v⟩ := w.fly.there
  exact fun A Q E s' k q => wpAny_typeOf_ref (k _ _ g) (z.1 ▸ q)
/-- no clause takes it: it goes on -/
theorem Down.out (w : Down X pins B a cls d sI σ H s) {D : Ends} {Wout : L2.WX} (hf : X.env.frame = some X.env.locals) (tk : Takes X Wout) (q : Wout cls d σ H) :
    wpAny (model X.prog X.w) X.A (handleBy (.ref a) X.env []) (SP X pins D) X.xe s := by
  refine wpAny_handleBy_nil ?_
  obtain ⟨-, -, -, o, vs, U, -, -, g, -, v, v1, -⟩ := id w.fly
  unfold PySem.passOn
  refine wpAny_bind (wpAny_field g v v1 ?_)
  rw [if_neg (by simp)]
  have z : wpAny (model X.prog X.w) X.A (setFlight (.ref a) X.env.frame) (fun _ s4 => wpAny (model X.prog X.w) X.A (throw (.ref a) : Sem Flow) (SP X pins D) X.xe s4) X.xe s := by
    rw [hf]
    exact HandSPX.setFlight_upZ w.fly fun h4 hh up => wpAny_throw (tk _ _ ⟨a, B, sI, pins, σ, H, cls, d, rfl, w.old, w.kept, w.slots.trans up, .inr (.inr hh), w.off, w.os, w.gens, q⟩)
  first
    | exact wpAny_bind (wpAny_pure (wpAny_bind z))
    | exact wpAny_bind z
end
def offI (oi : Option Nat) (σ : L2.St) : L2.St := match oi with
  | some i => σ.set i none
  | none => σ
def onI (oi : Option Nat) (a : Addr) (σ : L2.St) : L2.St := match oi with
  | some i => σ.set i (some (.ref a))
  | none => σ
/-- what a clause wishes of an exception of the body; with a name: its slot holds it in the suite. The exception becomes an object of ours. -/
def wAny (K : PySem.W.Frag) (cs : List Value) (oi : Option Nat) (ts : TS) (Wout : L2.WX) (D : Ends) : L2.WX := fun cls d σ H =>
  ∃ b, PySem.W.exmAny K cls cs = some b ∧ (b = true → ∀ a, H a = none → ts { nx := fun σ' H' => D.nx (offI oi σ') H', rt := D.rt, bk := fun σ' H' => D.bk (offI oi σ') H', ct := fun σ' H' => D.ct (offI oi σ') H' } (onI oi a σ) (upd H a (exH a cls d))) ∧
    (b = false → Wout cls d σ H)
theorem ps_try_any {X : Cx} {nm : Option (Nat × Str)} {cs : List Value} {t : Expr} {body suite : List Stmt} {b₀ : Stmt} {pos pos' : Pos} {tb : L2.WX → TS} {ts : TS} {Wout : L2.WX} (hs : X.stack = X.env :: X.outer) (hf : X.env.frame = some X.env.locals)
    (hN : X.N.Nodup) (hi : ∀ i n, nm = some (i, n) → X.N[i]? = some n ∧ X.env.kindOf n = some .local) (ht : ∀ a pn, TestOk (X.suite a pn) t cs) (tk : Takes X Wout)
    (hb : ∀ (W : L2.WX) (pn : List (Addr × Obj)) (xe : Value → Shared → Prop), Takes (X.tr pn xe) W → PassesOwn (model X.prog X.w) X.A X.env xe → PSs (X.tr pn xe) body (tb W))
    (hsu : ∀ (a : Addr) (pn : List (Addr × Obj)), PSs (X.suite a pn) (b₀ :: suite) ts) :
    PS X (.Try body [.ExceptHandler (some t) (nm.map (·.2)) (b₀ :: suite) pos'] [] [] pos) (fun D σ H => tb (wAny X.K cs (nm.map (·.1)) ts Wout D) D σ H) := by
  generalize hon : nm.map (·.2) = on
  refine ⟨fun pins s σ H D I h => ?_⟩
  refine wpAny_Try_except ?_
  refine wpAny_mono ((hb (wAny X.K cs (nm.map (·.1)) ts Wout D) (X.pn ++ pins) (fun e s1 => wpAny (model X.prog X.w) X.A (noteFrame e X.env) (fun _ s2 => wpAny (model X.prog X.w) X.A (setFlight e none)
    (fun _ s3 => wpAny (model X.prog X.w) X.A (handleBy e X.env [.ExceptHandler (some t) on (b₀ :: suite) pos']) (SP X pins D) X.xe s3) X.xe s2) X.xe s1) (fun u s' xx => ?_) PassesOwn.looking).run [] s σ H D (I.toTry _) h) (fun f s1 z => ?_) (fun e s1 z => z)
  · obtain ⟨a, B, sI, pi, σ', H', cls, d, rfl, J, nb, up, sky, na, os, ag, b, hb1, hyes, hno⟩ := xx
    show wpAny (model X.prog X.w) X.A (noteFrame (.ref a) X.env) _ _ _
    refine Sky.land Zc.steady (outer := X.outer) (by rw [I.ok.frames, hs]) hf (by rw [← hs]; exact sky) fun h3 fl up3 => ?_
    have w : Down X pins B a cls d sI σ' H' { s' with heap := h3 } := ⟨J.ofTry I.ok, nb, up.trans up3, by rw [hs]; exact fl, na, os, ag⟩
    refine wpAny_handleBy_cons (codeAny_handlers_test ?_) (by intro q; cases q)
    refine test_ok (X := X.suite a (X.pn ++ pins)) (ht a _) (suite0 w.inv a) w.look hb1 fun h' k => ?_
    have w := w.grow k
    cases b with
    | false => exact w.out hf tk (hno rfl)
    | true =>
      cases nm with
      | none =>
        cases hon
        refine codeAny_handlers_suite (HandSPX.lands_againZ w.fly fun h4 fl4 up4 => ?_)
        have w := w.go fl4 up4
        refine wpAny_mono ((hsu a (X.pn ++ pins)).run [] _ _ _ _ (suite0 w.own a) (hyes rfl a na)) (fun f s6 z => ?_) fun _ _ z => z.elim
        have z := sp_of (fun j => unsuite0 j I.ok) z
        cases f <;> exact z
      | some p =>
        obtain ⟨i, n⟩ := p
        cases hon
        obtain ⟨hn, hl⟩ := hi i n rfl
        refine codeAny_handlers_suite_as (HandSPX.lands_againZ w.fly fun h4 fl4 up4 => ?_)
        have w := w.go fl4 up4
        refine store_ok (X := X.suite a (X.pn ++ pins)) (v := .ref a) (suite0 w.own a) hN hn (.inl hl) rfl (fun s5 S5 => ?_) (.inr hl)
        refine wpAny_mono ((hsu a (X.pn ++ pins)).run [] s5 _ _ _ S5 (hyes rfl a na)) (fun f s6 z => ?_) fun _ _ z => z.elim
        have gone : ∀ {σ6 : L2.St} {H6 : Hp} {Q : Shared → Prop}, Inv (X.suite a (X.pn ++ pins)) [] σ6 H6 s6 → (∀ s7, Inv X pins (σ6.set i none) H6 s7 → Q s7) → wpAny (model X.prog X.w) X.A (do bindName X.env n .none; unbindBehindTheSuite X.env n pos') (fun _ s7 => Q s7) X.xe s6 :=
          fun j q => gone_ok (unsuite0 j I.ok) hN hn hl q
        match f, z with
        | .next, ⟨_, _, j, q⟩ => exact gone j fun _ j7 => ⟨_, _, j7, q⟩
        | .brk, ⟨_, _, j, q⟩ => exact gone j fun _ j7 => ⟨_, _, j7, q⟩
        | .cont, ⟨_, _, j, q⟩ => exact gone j fun _ j7 => ⟨_, _, j7, q⟩
        | .ret _, ⟨_, _, _, j, r, q⟩ => exact gone j fun _ j7 => ⟨_, _, _, j7, r, q⟩
  · have z := sp_of (fun j => j.ofTry I.ok) z
    cases f <;> first | exact wpAny_execs_nil z | exact z
theorem Rel.setN {K : PySem.W.Frag} {mg : Str → Option Value} {μ : List Addr} {F H : Hp} {σ : L2.St} {env : Env} {S : Sto} {i : Nat} (r : Rel K mg μ F σ H env S) : Rel K mg μ F (σ.set i none) H (env.set i none) S where
  len := r.len
  sub := r.sub
  off := r.off
  inj := r.inj
  sto := r.sto
  tab := r.tab
  ft := r.ft
  elen := by rw [List.length_set, List.length_set]; exact r.elen
  env := fun j w h => by
    by_cases e : i = j
    · subst e
      by_cases l : i < env.length
      · rw [List.getElem?_set_self l] at h
        cases h
      · rw [List.getElem?_eq_none (by rw [List.length_set]; omega)] at h
        cases h
    · rw [List.getElem?_set_ne e] at h
      rw [List.getElem?_set_ne e]
      exact r.env j w h
theorem rx_rt {K : PySem.W.Frag} {mg : Str → Option Value} {F H : Hp} {a : Addr} : ∀ {x : T} {cls : Value} {d : Option Addr}, RX K mg F x cls d → Step F H (upd F a (exH a cls d)) (upd H a (exH a cls d)) → RT K mg (upd F a (exH a cls d)) x (.ref a)
  | .exc c, cls, d, ⟨C, e1, e2, e3⟩, st => by
    subst e1 e3
    exact ⟨a, C, rfl, e2, upd_same⟩
  | .exc1 c f x, cls, d, ⟨C, dd, y, e1, e2, e3, e4, e5⟩, st => by
    subst e1 e3
    exact ⟨a, C, dd, y, rfl, e2, upd_same, st.f _ _ e4, RT.mono st.f _ _ e5⟩
  | .non, _, _, h, _ => h.elim
  | .bl _, _, _, h, _ => h.elim
  | .int _, _, _, h, _ => h.elim
  | .str _, _, _, h, _ => h.elim
  | .ty _, _, _, h, _ => h.elim
  | .glb _, _, _, h, _ => h.elim
  | .tup _, _, _, h, _ => h.elim
  | .lst _, _, _, h, _ => h.elim
  | .emp, _, _, h, _ => h.elim
  | .scr _, _, _, h, _ => h.elim
/-- a try whose one clause keeps what it catches in slot i; its suite raises nothing -/
def wTryAs (mt : T → Option Bool) (i : Nat) (w ws : WS) : WS := fun D E env S =>
  w D (fun x env' S' => ∃ b, mt x = some b ∧ (b = true → ws { nx := fun e s => D.nx (e.set i none) s, rt := D.rt, bk := fun e s => D.bk (e.set i none) s, ct := fun e s => D.ct (e.set i none) s } (fun _ _ _ => False) (env'.set i (some (.t x))) S') ∧ (b = false → E x env' S')) env S
def wTryNo (mt : T → Option Bool) (w ws : WS) : WS := fun D E env S =>
  w D (fun x env' S' => ∃ b, mt x = some b ∧ (b = true → ws D (fun _ _ _ => False) env' S') ∧ (b = false → E x env' S')) env S
section
variable {X : Cx} {Ew : WX} {n : Str} {cs : List Value} {t : Expr} {i : Nat} {body suite : List Stmt} {b₀ : Stmt} {pos pos' : Pos} {mt : T → Option Bool} {w ws : WS}
theorem SS.tryAs (hs : X.stack = X.env :: X.outer) (hf : X.env.frame = some X.env.locals) (hN : X.N.Nodup) (hi : X.N[i]? = some n) (hln : X.env.kindOf n = some .local) (ht : ∀ a pn, TestOk (X.suite a pn) t cs) (tk : Takes X Ew.w)
    (hm : ∀ F x cls d b, RX X.K X.mg F x cls d → mt x = some b → PySem.W.exmAny X.K cls cs = some b)
    (hb : ∀ (W : L2.WX) (pn : List (Addr × Obj)) (xe : Value → Shared → Prop), Takes (X.tr pn xe) W → PassesOwn (model X.prog X.w) X.A X.env xe → SB (X.tr pn xe) ⟨W, Ew.lk, Ew.up⟩ body w)
    (hsu : ∀ (a : Addr) (pn : List (Addr × Obj)), SB (X.suite a pn) noW (b₀ :: suite) ws) :
    SS X Ew (.Try body [.ExceptHandler (some t) (some n) (b₀ :: suite) pos'] [] [] pos) (wTryAs mt i w ws) :=
  PS.imp (ps_try_any (nm := some (i, n)) (tb := fun W => rdS X.K X.mg ⟨W, Ew.lk, Ew.up⟩ w) (ts := rdS X.K X.mg noW ws) hs hf hN (fun _ _ e => by cases e; exact ⟨hi, hln⟩) ht tk hb hsu) fun D σ H ⟨μ, F, env, S, E, C, rel, hw, xo, dok⟩ => by
    refine ⟨μ, F, env, S, _, C, rel, hw, ⟨xo.lk, fun x env' S' μ' F' cls d σ' H' h ext rel' rx => ?_⟩, dok⟩
    obtain ⟨b, mb, hy, hn⟩ := h
    refine ⟨b, hm _ _ _ _ _ rx mb, fun hb a na => ?_, fun hb => xo.go x env' S' μ' F' cls d σ' H' (hn hb) ext rel' rx⟩
    have st : Step F' H' (upd F' a (exH a cls d)) (upd H' a (exH a cls d)) := Step.new rel'.sub na
    have rt : RW X.K X.mg μ' (upd F' a (exH a cls d)) (.t x) (.ref a) := rx_rt rx st
    have e2 := ext.trans st.ext
    exact ⟨μ', _, _, S', _, _, (rel'.step st).setE rt, hy hb, ⟨trivial, fun _ _ _ _ _ _ _ _ _ h => h.elim⟩,
      ⟨fun e s m f σ2 H2 h x2 r2 => dok.nx _ s m f _ H2 h (e2.trans x2) r2.setN, fun z s m f v σ2 H2 e h x2 r2 q => dok.rt z s m f v σ2 H2 e h (e2.trans x2) r2 q,
        fun e s m f σ2 H2 h x2 r2 => dok.bk _ s m f _ H2 h (e2.trans x2) r2.setN, fun e s m f σ2 H2 h x2 r2 => dok.ct _ s m f _ H2 h (e2.trans x2) r2.setN⟩⟩
theorem SS.tryNo (hs : X.stack = X.env :: X.outer) (hf : X.env.frame = some X.env.locals) (hN : X.N.Nodup) (ht : ∀ a pn, TestOk (X.suite a pn) t cs) (tk : Takes X Ew.w)
    (hm : ∀ F x cls d b, RX X.K X.mg F x cls d → mt x = some b → PySem.W.exmAny X.K cls cs = some b)
    (hb : ∀ (W : L2.WX) (pn : List (Addr × Obj)) (xe : Value → Shared → Prop), Takes (X.tr pn xe) W → PassesOwn (model X.prog X.w) X.A X.env xe → SB (X.tr pn xe) ⟨W, Ew.lk, Ew.up⟩ body w)
    (hsu : ∀ (a : Addr) (pn : List (Addr × Obj)), SB (X.suite a pn) noW (b₀ :: suite) ws) :
    SS X Ew (.Try body [.ExceptHandler (some t) none (b₀ :: suite) pos'] [] [] pos) (wTryNo mt w ws) :=
  PS.imp (ps_try_any (nm := none) (tb := fun W => rdS X.K X.mg ⟨W, Ew.lk, Ew.up⟩ w) (ts := rdS X.K X.mg noW ws) hs hf hN (fun _ _ e => by cases e) ht tk hb hsu) fun D σ H ⟨μ, F, env, S, E, C, rel, hw, xo, dok⟩ => by
    refine ⟨μ, F, env, S, _, C, rel, hw, ⟨xo.lk, fun x env' S' μ' F' cls d σ' H' h ext rel' rx => ?_⟩, dok⟩
    obtain ⟨b, mb, hy, hn⟩ := h
    refine ⟨b, hm _ _ _ _ _ rx mb, fun hb a na => ?_, fun hb => xo.go x env' S' μ' F' cls d σ' H' (hn hb) ext rel' rx⟩
    have st : Step F' H' (upd F' a (exH a cls d)) (upd H' a (exH a cls d)) := Step.new rel'.sub na
    have e2 := ext.trans st.ext
    exact ⟨μ', _, _, S', _, _, rel'.step st, hy hb, ⟨trivial, fun _ _ _ _ _ _ _ _ _ h => h.elim⟩, dok.ext e2⟩
end
def wRaise0 (c : Str) : WS := fun _ E env S => E (.exc c) env S
theorem SS.raise0 {X : Cx} {Ew : WX} {C : Addr} {bmB : List Value} {B newId initId : String} {x m : Str} {j : Nat} {p p2 pos pos2 : Pos} (hc : X.calm = true) (tk : Takes X Ew.w) (F : ExcBaseFacts B newId initId bmB) (q : PySem.W.excIn X.K C bmB newId = true)
    (gC : X.mg x = some (.ref C)) (kC : PySem.W.keepIn X.K (.ref C) = true) (r : Raises X (.ref C)) (hg : Gl X x) (hdb : (x == ("__debug__" : Str)) = false) : SS X Ew (.Raise (some (.Call (.Name x p) [.Constant (.str m) j p2] [] pos)) none pos2) (wRaise0 x) :=
  PS.imp (ps_raise hc tk (pmk_own F q gC kC r hg hdb)) fun D σ H ⟨μ, F, env, S, E, C1, rel, hw, xo, dok⟩ => xo.go _ env S μ F _ _ σ H hw Ext.refl rel ⟨C, rfl, gC, rfl⟩
/-- raise of an own error with one field, a tree -/
def wRaise1 (c f : Str) (we : WE) : WS := fun _ E env S => we env S E fun z S' => ∃ x, z = .t x ∧ E (.exc1 c f x) env S'
theorem exH_at {P : Program} {w : World} {H : Hp} {h : Heap} {a : Addr} {cls : Value} {d : Option Addr} (hok : HOk P w H h) (e : H a = some (exH a cls d)) : ∃ oe vs, h.get? a = some oe ∧ Zc cls d oe ∧ oe.data = .fields vs := (hok a _ e).1
theorem pe_kept {X : Cx} {e : Expr} {te : TE} {pos : Pos} {n : Str} (he : PE X e te) (hb : attributeBase e n X.env (eval e X.env) = eval e X.env) :
    PE X (.Attribute e n pos) (fun σ H Q => te σ H fun x H1 => ∃ (a C d : Addr) (fs : List (Str × V)) (y : V), x = .ref a ∧ XfC X.K C ∧ PySem.W.findIn X.K (.ref C) n = some none ∧ H1 a = some (exH a (.ref C) (some d)) ∧ H1 d = some (.xd fs) ∧ fs.lookup n = some y ∧ Q y H1) :=
  ⟨fun pins s σ H Q I h => attr_of hb (thn (he.run pins s σ H _ I h) fun u s1 hh => by
    obtain ⟨x, H1, I1, rx, a, C, d, fs, y, rfl, xc, hno, q1, q2, hl, q⟩ := hh
    cases rx
    obtain ⟨oe, vs, g1, z1, v1⟩ := exH_at I1.hok q1
    obtain ⟨mA, nA, rA⟩ := I1.hok d _ q2
    obtain ⟨od, ho, lo⟩ := lookIn_ns nA
    obtain ⟨u, hu, ru⟩ := RelO.some_of (v := y) (o := mA n) (hl ▸ rA n)
    have J : PySem.W.InstAt s1.heap a oe C (some od) := ⟨g1, z1.1, by unfold PySem.W.notCls; rw [v1] <;> rfl, by rw [z1.2]; exact ho⟩
    exact HandSPX.exc_get I1.kIn J xc.ga xc.gg xc.exC (PySem.W.findObj_own xc.hdC hno rfl ((lo n).trans (congrArg some hu))) (handed_of ru) ⟨y, H1, I1.tok _, ru, q⟩)⟩
/-- x.f of a kept exception; ok tells which classes bear it -/
def wFld (ok : Str → Bool) (f : Str) (we : WE) : WE := fun env S E R => we env S E fun z S' => ∃ c x, z = .t (.exc1 c f x) ∧ ok c = true ∧ R (.t x) S'
theorem SE.fld {X : Cx} {Ew : WX} {e : Expr} {we : WE} {pos : Pos} {f : Str} {ok : Str → Bool} (he : SE X Ew e we) (hb : attributeBase e f X.env (eval e X.env) = eval e X.env)
    (T : ∀ c C, ok c = true → X.mg c = some (.ref C) → XfC X.K C ∧ PySem.W.findIn X.K (.ref C) f = some none) : SE X Ew (.Attribute e f pos) (wFld ok f we) :=
  PE.imp (pe_kept he hb) fun σ H Q ⟨μ, F, env, S, E, R, rel, hw, xo, post⟩ => by
    refine ⟨μ, F, env, S, E, _, rel, hw, xo, fun z S1 μ1 F1 v H1 hz ext rel1 rt => ?_⟩
    obtain ⟨c, x, rfl, hc, hR⟩ := hz
    obtain ⟨a, C, d, y, rfl, hm, q1, q2, ry⟩ : RT X.K X.mg F1 (.exc1 c f x) v := rt
    obtain ⟨t1, t2⟩ := T c C hc hm
    exact ⟨a, C, d, _, y, rfl, t1, t2, rel1.sub _ _ q1, rel1.sub _ _ q2, by simp [List.lookup], post _ S1 μ1 F1 y H1 hR ext rel1 ry⟩
end Tw
set_option Elab.async false
set_option linter.all false
set_option maxRecDepth 100000
namespace Tw
open PySem PySem.Spec PySem.W PySem.Calls PyProof.Rows
section
variable {prog : Program} {w : World} {A : Around} {E : Value → Shared → Prop} {s : Shared} {K : Frag} {x D : Addr} {ox : Obj} {od : Option Obj}
theorem find_cls (hd : (clsIn K D).isSome = true) (ha : findIn K (.ref D) "__class__" = some (some (.builtin "object.__class__"))) (hn : specialIn K (.builtin "object.__class__") "__get__" = some (some (.builtin "getset_descriptor.__get__")))
    (ht : takesIn K (.builtin "object.__class__") = some true) : findObj K D od "__class__" = some (.bind (.builtin "getset_descriptor.__get__") (.builtin "object.__class__")) := by
  obtain ⟨cd, hc⟩ := Option.isSome_iff_exists.mp hd
  simp [findObj, hc, ha, hn, ht]
/-- x.__class__ of an own exception -/
theorem cls_of {Q : Option Value → Shared → Prop} (C : L2.ExcC K D) (X : K.In s.heap) (I : InstAt s.heap x ox D od) (h : Q (some (.ref D)) { s with toks := s.toks + 1 }) : wpAny (model prog w) A (getAttr? (.ref x) "__class__") Q E s := by
  have fo : findObj K D od "__class__" = _ := find_cls (by obtain ⟨cd, q, _⟩ := any_some C.hd; rw [q]; rfl) C.ha C.hn C.ht
  obtain ⟨hp, g, d, t, os⟩ := s
  have ty := I.type (M := model prog w)
  have isX : Looks (model prog w) hp (isInstance (.ref x) (.type "BaseException")) true := ty.andThen (looks_subIn X C.hs)
  have ne : (Value.builtin "BaseException.__getattribute__" == Value.builtin "object.__getattribute__") = false := by decide +kernel
  unfold getAttr? getAttrBy? getAttrBy
  refine wpAny_bind (wpAny_mkText (wpAny_bind (wpAny_attempt (wpAny_holding (wpAny_bind (ty.at (wpAny_bind ((looks_findIn X C.hg).at ?_))))))))
  show wpAny _ _ (if (onTheHeap (Value.ref D) && Value.builtin "BaseException.__getattribute__" == Value.builtin "object.__getattribute__") = true then _ else _) _ _ _
  rw [if_neg (by rw [ne, Bool.and_false]; exact Bool.false_ne_true)]
  unfold getAttrByItsOwn hookBefore
  refine wpAny_bind ?_
  rw [if_pos (by rfl)]
  refine (looks_findIn X C.hk).at (wpAny_bind (wpAny_attempt (wpAny_holding ?_)))
  unfold callGetattribute
  rw [if_neg (by decide)]
  unfold boundAndCalled
  rw [PySem.F.excAttr_ValueError.ga.bind (.ref x)]
  refine wpAny_bind (wpAny_pure ?_)
  show wpAny _ _ (call (.builtin "BaseException.__getattribute__") [.ref x, .str "__class__" t]) _ _ _
  refine wpAny_call (codeAny_call_builtin PySem.F.excAttr_ValueError.ga.plain PySem.F.entry_bexc_ga ?_)
  refine @check_slot (model prog w) _ _ ⟨hp, g, d, t + 1, os⟩ "BaseException.__getattribute__" "BaseException" "__getattribute__" (.ref x) [.str "__class__" t] [] _ (by decide +kernel) (by decide +kernel) isX (PySem.F.args_bexc_ga (.ref x) (.str "__class__" t)) ?_
  unfold Builtin.«object.__getattribute__»
  refine wpAny_bind (wpAny_of_eq (a := ((Value.ref x : Value), [Value.str "__class__" t])) (by first | rfl | (simp only [slotArgs]; rfl)) ?_)
  refine wpAny_bind (wpAny_pure (wpAny_bind (ty.at (wpAny_bind ((looks_find X I fo).at ?_)))))
  show wpAny _ _ (holding [Value.builtin "object.__class__"] (call (.builtin "getset_descriptor.__get__") [.builtin "object.__class__", .ref x, .ref D]) >>= ret) _ _ _
  refine wpAny_bind (wpAny_holding (wpAny_call (class_get (s := ⟨hp, g, d, t + 1, os⟩) (ox := ox) (od := od) X I C.hm ?_)))
  refine wpAny_pure ?_
  show wpAny (model prog w) A (handedOut (.ref D)) _ _ _
  rw [handedOut_of (v := .ref D) rfl]
  first
    | exact wpAny_pure (wpAny_pure h)
    | exact wpAny_pure h
    | exact wpAny_pure (wpAny_bind (wpAny_pure (wpAny_pure h)))
theorem kitx_exc (C : L2.ExcC K D) : KitX K (.ref x) (.ref D) (fun h => ∃ ox od, InstAt h x ox D od) where
  ty := fun _ _ _ ⟨_, _, i⟩ => i.type
  it := fun _ _ X _ => by
    obtain ⟨cd, hc, _⟩ := any_some C.hd
    unfold clsIn at hc
    split at hc
    · rename_i ho
      intro A' Q' E' s' k q
      unfold isType loadHead
      exact wpAny_bind (wpAny_loadPart (k _ _ (X _ _ ho)) (wpAny_pure q))
    · cases hc
  ne := fun h tp dd its n sl X htp => by
    obtain ⟨cd, hc, _⟩ := any_some C.hd
    cases e : (Value.ref D == Value.ref tp) with
    | false => rfl
    | true =>
      cases Value.ref.inj (beq_iff_eq.mp e)
      unfold clsIn at hc
      split at hc
      · rename_i ho
        cases (X _ _ ho).symm.trans htp
      · cases hc
  ca := fun X ⟨_, _, i⟩ k => cls_of C X i k
end
open L2
theorem okB_someX {o : Option Bool} {k : T → Prop} (h : okB o k) : ∃ b, o = some b ∧ k (.bl b) := okB_of h
/-- isinstance(x, C), x a kept exception -/
def oIsiX (it : Str → Str → Option Bool) : T → T → (T → Prop) → Prop := fun a c k => match a, c with
  | .exc m, .glb n => okB (it m n) k
  | .exc1 m _ _, .glb n => okB (it m n) k
  | _, _ => False
theorem inst_at {X : Cx} {pins : List (Addr × Obj)} {σ : L2.St} {H : Hp} {s : Shared} {a D : Addr} {d : Option Addr} (I : Inv X pins σ H s) (e : H a = some (exH a (.ref D) d)) (hd : ∀ q, d = some q → ∃ fs, H q = some (.xd fs)) : ∃ ox od, PySem.W.InstAt s.heap a ox D od := by
  obtain ⟨o, vs, g, z, v⟩ := exH_at I.hok e
  have nc : PySem.W.notCls o := by unfold PySem.W.notCls; rw [v] <;> rfl
  cases d with
  | none => exact ⟨o, none, g, z.1, nc, by rw [z.2]; trivial⟩
  | some q =>
    obtain ⟨fs, hq⟩ := hd q rfl
    obtain ⟨mA, nA, -⟩ := I.hok q _ hq
    obtain ⟨od, ho, -⟩ := lookIn_ns nA
    exact ⟨o, some od, g, z.1, nc, by rw [z.2]; exact ho⟩
theorem call_isiX {X : Cx} {it : Str → Str → Option Bool} (hit : ∀ m n D C b, it m n = some b → X.mg m = some (.ref D) → X.mg n = some (.ref C) → L2.ExcC X.K D ∧ PySem.W.kitOne X.K (.ref D) (.ref C) = some b) : CallT X (.builtin "isinstance") (g2 (oIsiX it)) :=
  callT_of2 fun pins s σ H x y us Q F a c R I r sm r1 r2 ho post => by
    have core : ∀ (m n : Str) (a D C : Addr) (d : Option Addr), x = .ref a → y = .ref C → H a = some (exH a (.ref D) d) → (∀ q, d = some q → ∃ fs, H q = some (.xd fs)) → X.mg m = some (.ref D) → X.mg n = some (.ref C) → okB (it m n) R →
        wpAny (model X.prog X.w) X.A (call (.builtin "isinstance") us) (EP X pins σ Q) X.xe s := fun m n a D C d e1 e2 q hd hm hn ho => by
      subst e1 e2
      obtain ⟨b, ib, hR⟩ := okB_someX ho
      obtain ⟨ec, kb⟩ := hit m n D C b ib hm hn
      cases r with
      | cons rx rr =>
        cases rr with
        | cons ry rr =>
          cases rr
          cases rx
          cases ry
          exact PySem.W.kia_one (kitx_exc ec) I.kIn (inst_at I q hd) kb (fun z => nomatch z) fun tk => ⟨.bl b, H, I.kept (t' := tk) fun _ _ z => z, rfl, flat_post sm post hR (rt_bl.mpr rfl)⟩
    unfold oIsiX at ho
    split at ho
    · obtain ⟨a, D, rfl, hm, q⟩ : RT X.K X.mg F (.exc _) x := r1
      obtain ⟨C, rfl, hn⟩ : RT X.K X.mg F (.glb _) y := r2
      exact core _ _ a D C none rfl rfl (sm _ _ q) (fun _ e => by cases e) hm hn ho
    · obtain ⟨a, D, d, v, rfl, hm, q, q2, -⟩ : RT X.K X.mg F (.exc1 _ _ _) x := r1
      obtain ⟨C, rfl, hn⟩ : RT X.K X.mg F (.glb _) y := r2
      exact core _ _ a D C (some d) rfl rfl (sm _ _ q) (fun _ e => by cases e; exact ⟨_, sm _ _ q2⟩) hm hn ho
    · exact ho.elim
end Tw
set_option Elab.async false
set_option linter.all false
set_option maxRecDepth 100000
set_option maxHeartbeats 2000000
namespace Tw
open PySem PySem.Spec PySem.W PySem.Calls PyProof.Rows PySem.HandSPX Builtin Builtin.ObjectAttr
/-- what lies behind the own classes of an error -/
structure TailOk (B newId initId : String) (tl : List Value) : Prop where
  F : ExcBaseFacts B newId initId tl
  pass : ∀ self : Value, refuseLoop self "__setattr__" tl = pure ()
  obj : tl.contains (.type "object") = true
theorem tail_value : TailOk "ValueError" "ValueError.__new__" "ValueError.__init__" [.type "ValueError", .type "Exception", .type "BaseException", .type "object"] := ⟨F.excBase_ValueError, F.store_ValueError.passes, F.store_ValueError.hasOwner⟩
theorem tail_arith : TailOk "ArithmeticError" "ArithmeticError.__new__" "ArithmeticError.__init__" [.type "ArithmeticError", .type "Exception", .type "BaseException", .type "object"] := ⟨F.excBase_ArithmeticError, F.store_ArithmeticError.passes, F.store_ArithmeticError.hasOwner⟩
theorem tail_look : TailOk "LookupError" "LookupError.__new__" "LookupError.__init__" [.type "LookupError", .type "Exception", .type "BaseException", .type "object"] := ⟨F.excBase_LookupError, F.store_LookupError.passes, F.store_LookupError.hasOwner⟩
/-- own classes, then the tail -/
inductive Refs (tl : List Value) : List Value → Prop
  | base : Refs tl tl
  | own {c : Addr} {r : List Value} (h : Refs tl r) : Refs tl (.ref c :: r)
def refsB (tl : List Value) : List Value → Bool
  | .ref _ :: r => refsB tl r
  | l => l == tl
theorem refsB_ok {tl : List Value} : ∀ {l : List Value}, refsB tl l = true → Refs tl l
  | [], e => (beq_iff_eq.mp e) ▸ .base
  | .ref c :: r, e => .own (refsB_ok (l := r) e)
  | .none :: _, e => (beq_iff_eq.mp e) ▸ .base
  | .ellipsis :: _, e => (beq_iff_eq.mp e) ▸ .base
  | .notImplemented :: _, e => (beq_iff_eq.mp e) ▸ .base
  | .bool _ :: _, e => (beq_iff_eq.mp e) ▸ .base
  | .int _ _ :: _, e => (beq_iff_eq.mp e) ▸ .base
  | .float _ _ :: _, e => (beq_iff_eq.mp e) ▸ .base
  | .str _ _ :: _, e => (beq_iff_eq.mp e) ▸ .base
  | .bytes _ _ :: _, e => (beq_iff_eq.mp e) ▸ .base
  | .type _ :: _, e => (beq_iff_eq.mp e) ▸ .base
  | .builtin _ :: _, e => (beq_iff_eq.mp e) ▸ .base
section
variable {B newId initId : String} {tl l : List Value}
theorem Refs.pass (T : TailOk B newId initId tl) (h : Refs tl l) (self : Value) : refuseLoop self "__setattr__" l = pure () := by
  induction h with
  | base => exact T.pass self
  | own h ih =>
    rw [refuseLoop_ref]
    exact ih
theorem Refs.has (h : Refs tl l) (X : String) : l.contains (.type X) = tl.contains (.type X) := by
  induction h with
  | base => rfl
  | own h ih =>
    rw [List.contains_cons, ih]
    rfl
theorem Refs.ne (T : TailOk B newId initId tl) (h : Refs tl l) : l.isEmpty = false := by
  cases h with
  | own h => rfl
  | base =>
    have q := T.obj
    cases tl with
    | nil => simp at q
    | cons _ _ => rfl
end
section
variable {prog : Program} {w : World} {A : Around} {R : Result → Shared → Prop} {hp : Heap} {g : Array GenState} {d : Drawn} {t : Nat} {os : OsState}
/-- the first field of an own error -/
theorem err_put {B newId initId : String} {tl : List Value} {K : Frag} {name : Str} {tk : Tok} {v : Value} {x C : Addr} {fv : Array Value} {cd : ClassData} (T : TailOk B newId initId tl)
    (X : K.In hp) (hx : hp.get? x = some { cls := .ref C, data := .fields fv }) (hcd : clsIn K C = some cd) (hm : Refs tl cd.mro) (hh : cd.hasDict = true) (ha : findIn K (.ref C) name = some none)
    (hq : ∀ h' tk' dx, (∀ b o, b ≠ x → hp.get? b = some o → h'.get? b = some o) → hp.objs.size ≤ dx → dx ≠ x → h'.get? x = some { cls := .ref C, dict := some dx, data := .fields fv } →
      h'.Ns1 dx (fun y => if y = name then some v else none) → R (.ok (.ret .none)) ⟨h', g, d, tk', os⟩) :
    codeAny (model prog w) A (.call (.builtin "object.__setattr__") ⟨[.ref x, .str name tk, v], []⟩) R ⟨hp, g, d, t, os⟩ := by
  have inst : InstAt hp x { cls := .ref C, data := .fields fv } C none := ⟨hx, rfl, rfl, trivial⟩
  have SF := F.store_object
  have hxs : x ≠ hp.objs.size := Nat.ne_of_lt (Heap.lt_size hx)
  have hmo : mroIn K C (.type "object") = some true := by
    unfold mroIn
    rw [hcd, Option.bind_some, if_neg (by rw [hm.ne T]; decide), (hm.has "object").trans T.obj]
  refine codeAny_call_builtin SF.slot.plain SF.entry (@check_slot (model prog w) _ _ ⟨hp, g, d, t, os⟩ "object.__setattr__" "object" "__setattr__" (.ref x) [.str name tk, v] [] _ SF.kind SF.split (inst.type.andThen (looks_mroIn X hmo)) (SF.args (.ref x) (.str name tk) v) ?_)
  have look : Looks (model prog w) hp (classData C) cd := looks_clsIn X hcd
  rw [osa_eq, refuse_eq]
  refine wpAny_bind (wpAny_bind (inst.type.at (wpAny_bind ((look.andThen .now : Looks (model prog w) hp (PySem.mroOf (.ref C)) cd.mro).at ?_))))
  rw [hm.pass T]
  refine wpAny_pure (wpAny_bind (inst.type.at (wpAny_bind ((looks_findIn X ha).at (wpAny_bind ((.now : Looks (model prog w) hp (storeTaker? none) none).at ?_))))))
  show wpAny _ _ (storeInOwnDict (.ref x) (.ref C) (.str name tk) name v false) _ _ _
  obtain ⟨nm, bs, mro, ns, qn, hd, sn, sb, ab, col, del⟩ := cd
  obtain rfl : hd = true := hh
  unfold storeInOwnDict ownDictForStores
  repeat (first | with_reducible refine store_in_new ?_ ?_ | with_reducible refine wpAny_loadPart_at hx ?_ | with_reducible refine look.at ?_ | wp_step)
  · exact ⟨_, #[], _, (Heap.get?_update_ne _ _ _ _ hxs.symm).trans (Heap.get?_push_at rfl rfl), rfl, fun e he => absurd he (by simp), fun _ => rfl⟩
  · intro h' tk' hn' hs
    have hx1 : (hp.push { cls := .type "dict", data := .dict #[] }).get? x = some { cls := .ref C, data := .fields fv } := Heap.get?_push_of_some _ hx
    exact hq h' tk' hp.objs.size (fun b o hb ho => (hs.2 b (Nat.ne_of_lt (Heap.lt_size ho))).trans ((Heap.get?_update_ne _ _ _ _ hb).trans (Heap.get?_push_of_some _ ho))) (Nat.le_refl _) hxs.symm
      ((hs.2 x hxs).trans (Heap.get?_update_self _ hx1 rfl)) hn'
end
end Tw
set_option Elab.async false
set_option linter.all false
set_option maxRecDepth 100000
set_option maxHeartbeats 2000000
namespace Tw
namespace Fld_index
open PySem PySem.Spec PySem.W PySem.Calls PyProof.Rows PySem.HandSPX
def iA (p1 p2 : Pos) : Arguments := { posonlyargs := [], args := [{ arg := "self", annotation := none, pos := p1 }, { arg := "index", annotation := none, pos := p2 }], vararg := none, kwonlyargs := [], kw_defaults := [], kwarg := none, defaults := [] }
def iB (q1 q2 q3 q4 : Pos) : List Stmt := [.Assign [.Attribute (.Name "self" q1) "index" q2] (.Name "index" q3) q4]
def iS : Scope := { kind := .function, names := [(PySem.Str.ofString "self", .local), (PySem.Str.ofString "index", .local)], isGenerator := false, isCoroutine := false, more := [] }
structure Txt (K : Frag) (mg : Str → Option Value) (x qn : Str) (C fI : Addr) : Prop where
  gC : mg x = some (.ref C)
  cls : ∃ nm q N bs bm sn sub ab col dd k0 k1 k2 k3 k5 B newId initId tl, K.lookup C = some (excClassObj nm q C N bs bm true sn sub ab col dd k0 k1 k2 k3 k5 newId) ∧ TailOk B newId initId tl ∧ Refs tl bm
  sa : findIn K (.ref C) "__setattr__" = some (some (.builtin "object.__setattr__"))
  ga : findIn K (.ref C) "__getattribute__" = some (some (.builtin "BaseException.__getattribute__"))
  gg : findIn K (.ref C) "__getattr__" = some none
  noN : findIn K (.ref C) "index" = some none
  iC : findIn K (.ref C) "__init__" = some (some (.ref fI))
  tC : typeIn K (.ref fI) = some (.type "function")
  kC : keepIn K (.ref C) = true
  exC : subIn K (.ref C) (.type "BaseException") = some true
  tyC : typeIn K (.ref C) = some (.type "type")
  hdC : hasDictIn K C = true
  fn : ∃ (oc : Value) (od : Option Addr) (kV doc pm : Value) (an : Option Addr) (cdv ct : Value) (osl : Array (Option Value)) (p1 p2 q1 q2 q3 q4 : Pos),
    K.lookup fI = some ⟨oc, od, .func (fnOf "__init__" qn (iA p1 p2) (iB q1 q2 q3 q4) iS .none kV doc pm an cdv ct), osl⟩ ∧ codeIn K cdv qn = true
theorem ldL {M : Model} {s : Shared} {name : Str} {scope : Scope} {L a : Addr} {cd : Value} {m : Str → Option Value} {x : Str} {pos : Pos} {v : Value} {Q : Value → Shared → Prop} {A : Around} {E : Value → Shared → Prop} (hn : s.heap.Ns L m) (hv : m x = some v) (h : Q v s)
    (hk : scope.kind = .function := by rfl) (hl : (envOfC name scope L a cd).kindOf x = some .local := by rfl) (hd : (x == ("__debug__" : Str)) = false := by decide) :
    wpAny M A (eval (.Name x pos) (envOfC name scope L a cd)) Q E s := wpAny_Name (wpAny_loadName_local hk hl hn hv h) hd
structure Left (h h' : Heap) (x C dx t1 : Addr) (v : Value) : Prop where
  keep : ∀ b o, b ≠ x → h.get? b = some o → h'.get? b = some o
  obj : h'.get? x = some { cls := .ref C, dict := some dx, data := .fields #[.ref t1, .none, .none, .none, .bool false, .none] }
  dbig : h.objs.size ≤ dx
  dne : dx ≠ x
  ns : h'.Ns1 dx (fun y => if y = "index" then some v else none)
structure Made (h h' : Heap) (e C d : Addr) (v : Value) : Prop where
  keep : ∀ b o, h.get? b = some o → h'.get? b = some o
  new : h.objs.size ≤ e
  obj : ∃ oe vs, h'.get? e = some oe ∧ oe.cls = .ref C ∧ oe.dict = some d ∧ oe.data = .fields vs ∧ vs[1]? = some .none
  dbig : h.objs.size ≤ d
  dne : d ≠ e
  ns : h'.Ns1 d (fun y => if y = "index" then some v else none)
section
variable {prog : Program} {w : World} {A : Around} {E : Value → Shared → Prop} {R : Result → Shared → Prop} {s : Shared} {K : Frag} {mg : Str → Option Value} {nx qn : Str} {C fI : Addr}
theorem init_ (T : Txt K mg nx qn C fI) {x t0 : Addr} {v : Value} (X : K.In s.heap) (hlim : s.heap.NoLimit) (hx : s.heap.get? x = some (excO C t0)) (hnx : K.lookup x = none) (hroom : A.depth < recursionLimit)
    (hq : ∀ h' tk dx, Left s.heap h' x C dx t0 v → R (.ok (.ret .none)) { s with heap := h', toks := tk }) :
    codeAny (model prog w) A (.call (.ref fI) ⟨[.ref x, v], []⟩) R s := by
  obtain ⟨oc, od, kV, doc, pm, an, cdv, ct, osl, p1, p2, q1, q2, q3, q4, ho, hcd⟩ := T.fn
  obtain ⟨nm, q, N, bs, bm, sn, sub, ab, col, dd, k0, k1, k2, k3, k5, B, newId, initId, tl, hC, TO, hbm⟩ := T.cls
  have hcl : clsIn K C = some { name := nm, bases := bs, mro := .ref C :: bm, ns := N, qualname := q, hasDict := true, slotNames := sn, subclasses := sub, abstract := ab, collection := col, hasDel := false } := by unfold clsIn; rw [hC] <;> rfl
  refine Att.call_fn (binds := [("self", .ref x), ("index", v)]) X hlim ho hcd hroom (BindsTo.of_eq (by first | rfl | with_unfolding_all rfl)) (by first | rfl | decide | with_unfolding_all rfl) (fun s₁ IC => ?_) rfl rfl rfl
  obtain ⟨h₁, tk₁, rfl⟩ := IC.toInCall.same
  have k : ∀ b o, s.heap.get? b = some o → h₁.get? b = some o := IC.toInCall.keep
  have hn := IC.toInCall.ns
  have hxL : s.heap.objs.size ≠ x := Nat.ne_of_gt (Heap.lt_size hx)
  have X₁ : K.In h₁ := X.keeps k
  have hx₁ := k _ _ hx
  show wpAny _ _ (execs _ _) _ _ _
  refine wpAny_execs_cons (plainObj_wpAny_Assign_Attribute ?_)
  refine ldL (v := v) hn (by first | rfl | with_unfolding_all rfl | kernel_rfl) (ldL (v := .ref x) hn (by first | rfl | with_unfolding_all rfl | kernel_rfl) ?_)
  refine set_plain X₁ (ox := excO C t0) (od := none) ⟨hx₁, rfl, rfl, trivial⟩ T.sa ?_
  refine err_put TO X₁ hx₁ hcl (show Refs tl (.ref C :: bm) from .own hbm) rfl T.noN (fun h₃ tk₃ dx k₃ dn dne hx₃ hn₃ => ?_)
  show wpAny _ _ (execs _ _) _ _ _
  have z : s.heap.objs.size < h₁.objs.size := hn.lt
  exact wpAny_execs_nil (hq h₃ tk₃ dx ⟨fun b o hb e => k₃ b o hb (k b o e), hx₃, Nat.le_of_lt (Nat.lt_of_lt_of_le z dn), dne, hn₃⟩)
theorem made_ (T : Txt K mg nx qn C fI) {v : Value} (X : K.In s.heap) (hlim : s.heap.NoLimit) (hroom : A.depth + 1 < recursionLimit)
    (hq : ∀ h' tk e d, Made s.heap h' e C d v → R (.ok (.ret (.ref e))) { s with heap := h', toks := tk }) :
    codeAny (model prog w) A (.call (.ref C) ⟨[v], []⟩) R s := by
  obtain ⟨nm, q, N, bs, bm, sn, sub, ab, col, dd, k0, k1, k2, k3, k5, B, newId, initId, tl, hC, TO, hbm⟩ := T.cls
  obtain ⟨hp, g, dr, tk, os⟩ := s
  have k : ∀ b o, hp.get? b = some o → ((hp.push (kdv_tup [v])).push (excO C hp.objs.size)).get? b = some o := fun b o e => Heap.get?_push_of_some _ (Heap.get?_push_of_some _ e)
  have hget : ((hp.push (kdv_tup [v])).push (excO C hp.objs.size)).get? (hp.objs.size + 1) = some (excO C hp.objs.size) := by heap_get
  have hnx : K.lookup (hp.objs.size + 1) = none := by
    cases e : K.lookup (hp.objs.size + 1) with
    | none => rfl
    | some o =>
      have z : hp.get? (hp.objs.size + 1) = some o := X _ _ e
      exact absurd (Nat.lt_of_succ_lt (Heap.lt_size z)) (Nat.lt_irrefl _)
  refine call_own TO.F (fun X => hbm.has X) (X _ _ hC) (looks_findIn X T.iC) (fun self => bind_fn X self T.tC) (by show 1 ≤ sizeLine; rw [sizeLine_eq]; decide) ?_
  refine init_ (s := ⟨(hp.push (kdv_tup [v])).push (excO C hp.objs.size), g, dr, tk, os⟩) T (X.keeps k) (hlim.keeps k) hget hnx ?_ fun h' tk' dx ⟨k', hx, dn, dne, hns⟩ => ?_
  · show A.depth + 1 < recursionLimit
    exact hroom
  · have old : ∀ b o, hp.get? b = some o → h'.get? b = some o := fun b o e => k' b o (Nat.ne_of_lt (Nat.lt_succ_of_lt (Heap.lt_size e))) (k b o e)
    have z : hp.objs.size + 1 + 1 ≤ dx := by
      first
        | (simpa only [Heap.size_push] using dn)
        | exact dn
        | (have q := dn; rw [Heap.size_push, Heap.size_push] at q; exact q)
    exact ⟨rfl, hq h' tk' (hp.objs.size + 1) dx ⟨old, Nat.le_succ _, ⟨_, _, hx, rfl, rfl, rfl, rfl⟩, Nat.le_trans (Nat.le_trans (Nat.le_succ _) (Nat.le_succ _)) z, dne, hns⟩⟩
end
end Fld_index
namespace Fld_index
open PySem PySem.Spec PyProof.Rows L2
section
variable {X : Cx} {nx qn : Str} {C fI : Addr}
theorem relO_f {v : V} {v' : Value} (r : RelV v v') (f : Str) : RelO (List.lookup f [(("index" : Str), v)]) (if f = "index" then some v' else none) := by
  by_cases hw : f = "index"
  · subst hw
    rw [if_pos rfl]
    have q : List.lookup ("index" : Str) [(("index" : Str), v)] = some v := by simp [List.lookup]
    rw [q]
    exact r
  · rw [if_neg hw]
    have qw : (f == ("index" : Str)) = false := by simpa using hw
    have q2 : List.lookup f [(("index" : Str), v)] = none := by simp [List.lookup, qw]
    rw [q2]
    trivial
def tMk (C : Addr) (ta : TA) : L2.St → Hp → XK → Prop := fun σ H Q => ta σ H fun vs H1 => ∃ v, vs = [v] ∧ ∀ d, H1 d = none → Q (.ref C) (some d) (upd H1 d (.xd [(("index" : Str), v)]))
theorem pmk {a : Expr} {ta : TA} {p pos : Pos} {k : Nat} (T : Txt X.K X.mg nx qn C fI) (hr : Room k X.A) (ha : PA X [a] ta) (hg : Gl X nx) (hdb : (nx == ("__debug__" : Str)) = false)
    (he : starEach (a :: []) X.env = (false, eval a X.env) :: starEach [] X.env) (hpl : (backTo pos (starEach [] X.env)).any (·.1) = false := by rfl) :
    PMk X (.Call (.Name nx p) [a] [] pos) (tMk C ta) := by
  intro pins s σ H Q I h
  refine wpAny_Call_Name_kw (ld_glob I hg T.gC ?_ hdb)
  refine PySem.W.callWith_K (h₀ := X.base) I.ok.mod.kin T.kC (thn (ha.run pos pins s σ H _ I h) fun us s1 hh => ?_) he hpl
  obtain ⟨vs, H1, I1, r1, v, ev, q1⟩ := hh
  subst ev
  refine ⟨I1.kIn, ?_⟩
  cases r1 with
  | cons rv rn =>
    rename_i v' us'
    cases rn
    show wpAny _ _ (call (.ref C) [v']) _ _ _
    have hlim := I1.nolimit
    obtain ⟨hp, g, dr, tk, os⟩ := s1
    refine wpAny_call (made_ T I1.kIn hlim (by have := hr.dp; omega) fun h' tk' e d M => ?_)
    show MkP X pins σ Q (.ref e) ⟨h', g, dr, tk', os⟩
    obtain ⟨oe, fv, hoe, hc, hd, hdat, h1⟩ := M.obj
    have hns := M.ns
    obtain ⟨G', g1, g2⟩ := restrict h' fun b => decide (b ≠ e)
    have gk : ∀ b, b ≠ e → G'.get? b = h'.get? b := fun b hb => g1 b (decide_eq_true hb)
    have ge : G'.get? e = none := g2 e (by simp)
    have old : ∀ b o, hp.get? b = some o → G'.get? b = some o := fun b o q => (gk b (Nat.ne_of_lt (Nat.lt_of_lt_of_le (Heap.lt_size q) M.new))).trans (M.keep b o q)
    have ob : ObjOk X.prog X.w (upd H1 d (.xd [(("index" : Str), v)])) G' d (.xd [(("index" : Str), v)]) :=
      ⟨_, hns.at (fun o q => (gk d M.dne).trans q), fun f => relO_f rv f⟩
    have J : Inv X pins σ (upd H1 d (.xd [(("index" : Str), v)])) ⟨G', g, dr, tk', os⟩ := I1.laid (t' := tk') old M.dbig ob
    refine ⟨e, oe, fv, ⟨G', g, dr, tk', os⟩, _, .ref C, some d, rfl, J, fun b o q => ?_, ge, hoe, ⟨hc, hd⟩, hdat, h1, ?_, rfl, I1.bare, raises_own T.exC T.tyC, q1 d (I1.hok.fresh M.dbig)⟩
    · by_cases hb : b = e
      · have q' : G'.get? b = some o := q
        rw [hb, ge] at q'; cases q'
      · exact (gk b hb).symm.trans q
    · rw [upd_ne (Ne.symm M.dne)]
      exact I1.hok.fresh M.new
theorem raise1 {Ew : WX} {a : Expr} {we : WE} {p pos pos2 : Pos} {k : Nat} (hc : X.calm = true) (T : Txt X.K X.mg nx qn C fI) (hr : Room k X.A) (tk : Takes X Ew.w) (ha : SE X Ew a we) (hg : Gl X nx) (hdb : (nx == ("__debug__" : Str)) = false)
    (he : starEach (a :: []) X.env = (false, eval a X.env) :: starEach [] X.env) : SS X Ew (.Raise (some (.Call (.Name nx p) [a] [] pos)) none pos2) (wRaise1 nx "index" we) :=
  PS.imp (ps_raise hc tk (pmk T hr (SA.cons ha SA.nil he) hg hdb he)) fun D σ H ⟨μ, F, env, S, E, C1, rel, hw, xo, dok⟩ => by
    refine ⟨μ, F, env, S, E, (fun ts S' => match ts with | [z] => ∃ x, z = .t x ∧ E (.exc1 nx "index" x) env S' | _ => False), rel, hw, xo, fun ts S1 μ1 F1 vs H1 hz ext rel1 rw1 => ?_⟩
    match ts, hz with
    | [_], ⟨x, rfl, hE⟩ =>
      obtain ⟨v, r, rfl, rt, rfl⟩ := rw1
      have rt : RT X.K X.mg F1 x v := rt
      refine ⟨v, rfl, fun d hd => ?_⟩
      have st : Step F1 H1 (upd F1 d (.xd [(("index" : Str), v)])) (upd H1 d (.xd [(("index" : Str), v)])) := Step.new rel1.sub hd
      exact xo.go _ env S1 μ1 _ _ _ σ _ hE (ext.trans st.ext) (rel1.step st) ⟨C, d, v, rfl, T.gC, rfl, upd_same, RT.mono st.f _ _ rt⟩
end
end Fld_index
namespace Fld_part
open PySem PySem.Spec PySem.W PySem.Calls PyProof.Rows PySem.HandSPX
def iA (p1 p2 : Pos) : Arguments := { posonlyargs := [], args := [{ arg := "self", annotation := none, pos := p1 }, { arg := "part", annotation := none, pos := p2 }], vararg := none, kwonlyargs := [], kw_defaults := [], kwarg := none, defaults := [] }
def iB (q1 q2 q3 q4 : Pos) : List Stmt := [.Assign [.Attribute (.Name "self" q1) "part" q2] (.Name "part" q3) q4]
def iS : Scope := { kind := .function, names := [(PySem.Str.ofString "self", .local), (PySem.Str.ofString "part", .local)], isGenerator := false, isCoroutine := false, more := [] }
structure Txt (K : Frag) (mg : Str → Option Value) (x qn : Str) (C fI : Addr) : Prop where
  gC : mg x = some (.ref C)
  cls : ∃ nm q N bs bm sn sub ab col dd k0 k1 k2 k3 k5 B newId initId tl, K.lookup C = some (excClassObj nm q C N bs bm true sn sub ab col dd k0 k1 k2 k3 k5 newId) ∧ TailOk B newId initId tl ∧ Refs tl bm
  sa : findIn K (.ref C) "__setattr__" = some (some (.builtin "object.__setattr__"))
  ga : findIn K (.ref C) "__getattribute__" = some (some (.builtin "BaseException.__getattribute__"))
  gg : findIn K (.ref C) "__getattr__" = some none
  noN : findIn K (.ref C) "part" = some none
  iC : findIn K (.ref C) "__init__" = some (some (.ref fI))
  tC : typeIn K (.ref fI) = some (.type "function")
  kC : keepIn K (.ref C) = true
  exC : subIn K (.ref C) (.type "BaseException") = some true
  tyC : typeIn K (.ref C) = some (.type "type")
  hdC : hasDictIn K C = true
  fn : ∃ (oc : Value) (od : Option Addr) (kV doc pm : Value) (an : Option Addr) (cdv ct : Value) (osl : Array (Option Value)) (p1 p2 q1 q2 q3 q4 : Pos),
    K.lookup fI = some ⟨oc, od, .func (fnOf "__init__" qn (iA p1 p2) (iB q1 q2 q3 q4) iS .none kV doc pm an cdv ct), osl⟩ ∧ codeIn K cdv qn = true
theorem ldL {M : Model} {s : Shared} {name : Str} {scope : Scope} {L a : Addr} {cd : Value} {m : Str → Option Value} {x : Str} {pos : Pos} {v : Value} {Q : Value → Shared → Prop} {A : Around} {E : Value → Shared → Prop} (hn : s.heap.Ns L m) (hv : m x = some v) (h : Q v s)
    (hk : scope.kind = .function := by rfl) (hl : (envOfC name scope L a cd).kindOf x = some .local := by rfl) (hd : (x == ("__debug__" : Str)) = false := by decide) :
    wpAny M A (eval (.Name x pos) (envOfC name scope L a cd)) Q E s := wpAny_Name (wpAny_loadName_local hk hl hn hv h) hd
structure Left (h h' : Heap) (x C dx t1 : Addr) (v : Value) : Prop where
  keep : ∀ b o, b ≠ x → h.get? b = some o → h'.get? b = some o
  obj : h'.get? x = some { cls := .ref C, dict := some dx, data := .fields #[.ref t1, .none, .none, .none, .bool false, .none] }
  dbig : h.objs.size ≤ dx
  dne : dx ≠ x
  ns : h'.Ns1 dx (fun y => if y = "part" then some v else none)
structure Made (h h' : Heap) (e C d : Addr) (v : Value) : Prop where
  keep : ∀ b o, h.get? b = some o → h'.get? b = some o
  new : h.objs.size ≤ e
  obj : ∃ oe vs, h'.get? e = some oe ∧ oe.cls = .ref C ∧ oe.dict = some d ∧ oe.data = .fields vs ∧ vs[1]? = some .none
  dbig : h.objs.size ≤ d
  dne : d ≠ e
  ns : h'.Ns1 d (fun y => if y = "part" then some v else none)
section
variable {prog : Program} {w : World} {A : Around} {E : Value → Shared → Prop} {R : Result → Shared → Prop} {s : Shared} {K : Frag} {mg : Str → Option Value} {nx qn : Str} {C fI : Addr}
theorem init_ (T : Txt K mg nx qn C fI) {x t0 : Addr} {v : Value} (X : K.In s.heap) (hlim : s.heap.NoLimit) (hx : s.heap.get? x = some (excO C t0)) (hnx : K.lookup x = none) (hroom : A.depth < recursionLimit)
    (hq : ∀ h' tk dx, Left s.heap h' x C dx t0 v → R (.ok (.ret .none)) { s with heap := h', toks := tk }) :
    codeAny (model prog w) A (.call (.ref fI) ⟨[.ref x, v], []⟩) R s := by
  obtain ⟨oc, od, kV, doc, pm, an, cdv, ct, osl, p1, p2, q1, q2, q3, q4, ho, hcd⟩ := T.fn
  obtain ⟨nm, q, N, bs, bm, sn, sub, ab, col, dd, k0, k1, k2, k3, k5, B, newId, initId, tl, hC, TO, hbm⟩ := T.cls
  have hcl : clsIn K C = some { name := nm, bases := bs, mro := .ref C :: bm, ns := N, qualname := q, hasDict := true, slotNames := sn, subclasses := sub, abstract := ab, collection := col, hasDel := false } := by unfold clsIn; rw [hC] <;> rfl
  refine Att.call_fn (binds := [("self", .ref x), ("part", v)]) X hlim ho hcd hroom (BindsTo.of_eq (by first | rfl | with_unfolding_all rfl)) (by first | rfl | decide | with_unfolding_all rfl) (fun s₁ IC => ?_) rfl rfl rfl
  obtain ⟨h₁, tk₁, rfl⟩ := IC.toInCall.same
  have k : ∀ b o, s.heap.get? b = some o → h₁.get? b = some o := IC.toInCall.keep
  have hn := IC.toInCall.ns
  have hxL : s.heap.objs.size ≠ x := Nat.ne_of_gt (Heap.lt_size hx)
  have X₁ : K.In h₁ := X.keeps k
  have hx₁ := k _ _ hx
  show wpAny _ _ (execs _ _) _ _ _
  refine wpAny_execs_cons (plainObj_wpAny_Assign_Attribute ?_)
  refine ldL (v := v) hn (by first | rfl | with_unfolding_all rfl | kernel_rfl) (ldL (v := .ref x) hn (by first | rfl | with_unfolding_all rfl | kernel_rfl) ?_)
  refine set_plain X₁ (ox := excO C t0) (od := none) ⟨hx₁, rfl, rfl, trivial⟩ T.sa ?_
  refine err_put TO X₁ hx₁ hcl (show Refs tl (.ref C :: bm) from .own hbm) rfl T.noN (fun h₃ tk₃ dx k₃ dn dne hx₃ hn₃ => ?_)
  show wpAny _ _ (execs _ _) _ _ _
  have z : s.heap.objs.size < h₁.objs.size := hn.lt
  exact wpAny_execs_nil (hq h₃ tk₃ dx ⟨fun b o hb e => k₃ b o hb (k b o e), hx₃, Nat.le_of_lt (Nat.lt_of_lt_of_le z dn), dne, hn₃⟩)
theorem made_ (T : Txt K mg nx qn C fI) {v : Value} (X : K.In s.heap) (hlim : s.heap.NoLimit) (hroom : A.depth + 1 < recursionLimit)
    (hq : ∀ h' tk e d, Made s.heap h' e C d v → R (.ok (.ret (.ref e))) { s with heap := h', toks := tk }) :
    codeAny (model prog w) A (.call (.ref C) ⟨[v], []⟩) R s := by
  obtain ⟨nm, q, N, bs, bm, sn, sub, ab, col, dd, k0, k1, k2, k3, k5, B, newId, initId, tl, hC, TO, hbm⟩ := T.cls
  obtain ⟨hp, g, dr, tk, os⟩ := s
  have k : ∀ b o, hp.get? b = some o → ((hp.push (kdv_tup [v])).push (excO C hp.objs.size)).get? b = some o := fun b o e => Heap.get?_push_of_some _ (Heap.get?_push_of_some _ e)
  have hget : ((hp.push (kdv_tup [v])).push (excO C hp.objs.size)).get? (hp.objs.size + 1) = some (excO C hp.objs.size) := by heap_get
  have hnx : K.lookup (hp.objs.size + 1) = none := by
    cases e : K.lookup (hp.objs.size + 1) with
    | none => rfl
    | some o =>
      have z : hp.get? (hp.objs.size + 1) = some o := X _ _ e
      exact absurd (Nat.lt_of_succ_lt (Heap.lt_size z)) (Nat.lt_irrefl _)
  refine call_own TO.F (fun X => hbm.has X) (X _ _ hC) (looks_findIn X T.iC) (fun self => bind_fn X self T.tC) (by show 1 ≤ sizeLine; rw [sizeLine_eq]; decide) ?_
  refine init_ (s := ⟨(hp.push (kdv_tup [v])).push (excO C hp.objs.size), g, dr, tk, os⟩) T (X.keeps k) (hlim.keeps k) hget hnx ?_ fun h' tk' dx ⟨k', hx, dn, dne, hns⟩ => ?_
  · show A.depth + 1 < recursionLimit
    exact hroom
  · have old : ∀ b o, hp.get? b = some o → h'.get? b = some o := fun b o e => k' b o (Nat.ne_of_lt (Nat.lt_succ_of_lt (Heap.lt_size e))) (k b o e)
    have z : hp.objs.size + 1 + 1 ≤ dx := by
      first
        | (simpa only [Heap.size_push] using dn)
        | exact dn
        | (have q := dn; rw [Heap.size_push, Heap.size_push] at q; exact q)
    exact ⟨rfl, hq h' tk' (hp.objs.size + 1) dx ⟨old, Nat.le_succ _, ⟨_, _, hx, rfl, rfl, rfl, rfl⟩, Nat.le_trans (Nat.le_trans (Nat.le_succ _) (Nat.le_succ _)) z, dne, hns⟩⟩
end
end Fld_part
namespace Fld_part
open PySem PySem.Spec PyProof.Rows L2
section
variable {X : Cx} {nx qn : Str} {C fI : Addr}
theorem relO_f {v : V} {v' : Value} (r : RelV v v') (f : Str) : RelO (List.lookup f [(("part" : Str), v)]) (if f = "part" then some v' else none) := by
  by_cases hw : f = "part"
  · subst hw
    rw [if_pos rfl]
    have q : List.lookup ("part" : Str) [(("part" : Str), v)] = some v := by simp [List.lookup]
    rw [q]
    exact r
  · rw [if_neg hw]
    have qw : (f == ("part" : Str)) = false := by simpa using hw
    have q2 : List.lookup f [(("part" : Str), v)] = none := by simp [List.lookup, qw]
    rw [q2]
    trivial
def tMk (C : Addr) (ta : TA) : L2.St → Hp → XK → Prop := fun σ H Q => ta σ H fun vs H1 => ∃ v, vs = [v] ∧ ∀ d, H1 d = none → Q (.ref C) (some d) (upd H1 d (.xd [(("part" : Str), v)]))
theorem pmk {a : Expr} {ta : TA} {p pos : Pos} {k : Nat} (T : Txt X.K X.mg nx qn C fI) (hr : Room k X.A) (ha : PA X [a] ta) (hg : Gl X nx) (hdb : (nx == ("__debug__" : Str)) = false)
    (he : starEach (a :: []) X.env = (false, eval a X.env) :: starEach [] X.env) (hpl : (backTo pos (starEach [] X.env)).any (·.1) = false := by rfl) :
    PMk X (.Call (.Name nx p) [a] [] pos) (tMk C ta) := by
  intro pins s σ H Q I h
  refine wpAny_Call_Name_kw (ld_glob I hg T.gC ?_ hdb)
  refine PySem.W.callWith_K (h₀ := X.base) I.ok.mod.kin T.kC (thn (ha.run pos pins s σ H _ I h) fun us s1 hh => ?_) he hpl
  obtain ⟨vs, H1, I1, r1, v, ev, q1⟩ := hh
  subst ev
  refine ⟨I1.kIn, ?_⟩
  cases r1 with
  | cons rv rn =>
    rename_i v' us'
    cases rn
    show wpAny _ _ (call (.ref C) [v']) _ _ _
    have hlim := I1.nolimit
    obtain ⟨hp, g, dr, tk, os⟩ := s1
    refine wpAny_call (made_ T I1.kIn hlim (by have := hr.dp; omega) fun h' tk' e d M => ?_)
    show MkP X pins σ Q (.ref e) ⟨h', g, dr, tk', os⟩
    obtain ⟨oe, fv, hoe, hc, hd, hdat, h1⟩ := M.obj
    have hns := M.ns
    obtain ⟨G', g1, g2⟩ := restrict h' fun b => decide (b ≠ e)
    have gk : ∀ b, b ≠ e → G'.get? b = h'.get? b := fun b hb => g1 b (decide_eq_true hb)
    have ge : G'.get? e = none := g2 e (by simp)
    have old : ∀ b o, hp.get? b = some o → G'.get? b = some o := fun b o q => (gk b (Nat.ne_of_lt (Nat.lt_of_lt_of_le (Heap.lt_size q) M.new))).trans (M.keep b o q)
    have ob : ObjOk X.prog X.w (upd H1 d (.xd [(("part" : Str), v)])) G' d (.xd [(("part" : Str), v)]) :=
      ⟨_, hns.at (fun o q => (gk d M.dne).trans q), fun f => relO_f rv f⟩
    have J : Inv X pins σ (upd H1 d (.xd [(("part" : Str), v)])) ⟨G', g, dr, tk', os⟩ := I1.laid (t' := tk') old M.dbig ob
    refine ⟨e, oe, fv, ⟨G', g, dr, tk', os⟩, _, .ref C, some d, rfl, J, fun b o q => ?_, ge, hoe, ⟨hc, hd⟩, hdat, h1, ?_, rfl, I1.bare, raises_own T.exC T.tyC, q1 d (I1.hok.fresh M.dbig)⟩
    · by_cases hb : b = e
      · have q' : G'.get? b = some o := q
        rw [hb, ge] at q'; cases q'
      · exact (gk b hb).symm.trans q
    · rw [upd_ne (Ne.symm M.dne)]
      exact I1.hok.fresh M.new
theorem raise1 {Ew : WX} {a : Expr} {we : WE} {p pos pos2 : Pos} {k : Nat} (hc : X.calm = true) (T : Txt X.K X.mg nx qn C fI) (hr : Room k X.A) (tk : Takes X Ew.w) (ha : SE X Ew a we) (hg : Gl X nx) (hdb : (nx == ("__debug__" : Str)) = false)
    (he : starEach (a :: []) X.env = (false, eval a X.env) :: starEach [] X.env) : SS X Ew (.Raise (some (.Call (.Name nx p) [a] [] pos)) none pos2) (wRaise1 nx "part" we) :=
  PS.imp (ps_raise hc tk (pmk T hr (SA.cons ha SA.nil he) hg hdb he)) fun D σ H ⟨μ, F, env, S, E, C1, rel, hw, xo, dok⟩ => by
    refine ⟨μ, F, env, S, E, (fun ts S' => match ts with | [z] => ∃ x, z = .t x ∧ E (.exc1 nx "part" x) env S' | _ => False), rel, hw, xo, fun ts S1 μ1 F1 vs H1 hz ext rel1 rw1 => ?_⟩
    match ts, hz with
    | [_], ⟨x, rfl, hE⟩ =>
      obtain ⟨v, r, rfl, rt, rfl⟩ := rw1
      have rt : RT X.K X.mg F1 x v := rt
      refine ⟨v, rfl, fun d hd => ?_⟩
      have st : Step F1 H1 (upd F1 d (.xd [(("part" : Str), v)])) (upd H1 d (.xd [(("part" : Str), v)])) := Step.new rel1.sub hd
      exact xo.go _ env S1 μ1 _ _ _ σ _ hE (ext.trans st.ext) (rel1.step st) ⟨C, d, v, rfl, T.gC, rfl, upd_same, RT.mono st.f _ _ rt⟩
end
end Fld_part
namespace Fld_value
open PySem PySem.Spec PySem.W PySem.Calls PyProof.Rows PySem.HandSPX
def iA (p1 p2 : Pos) : Arguments := { posonlyargs := [], args := [{ arg := "self", annotation := none, pos := p1 }, { arg := "value", annotation := none, pos := p2 }], vararg := none, kwonlyargs := [], kw_defaults := [], kwarg := none, defaults := [] }
def iB (q1 q2 q3 q4 : Pos) : List Stmt := [.Assign [.Attribute (.Name "self" q1) "value" q2] (.Name "value" q3) q4]
def iS : Scope := { kind := .function, names := [(PySem.Str.ofString "self", .local), (PySem.Str.ofString "value", .local)], isGenerator := false, isCoroutine := false, more := [] }
structure Txt (K : Frag) (mg : Str → Option Value) (x qn : Str) (C fI : Addr) : Prop where
  gC : mg x = some (.ref C)
  cls : ∃ nm q N bs bm sn sub ab col dd k0 k1 k2 k3 k5 B newId initId tl, K.lookup C = some (excClassObj nm q C N bs bm true sn sub ab col dd k0 k1 k2 k3 k5 newId) ∧ TailOk B newId initId tl ∧ Refs tl bm
  sa : findIn K (.ref C) "__setattr__" = some (some (.builtin "object.__setattr__"))
  ga : findIn K (.ref C) "__getattribute__" = some (some (.builtin "BaseException.__getattribute__"))
  gg : findIn K (.ref C) "__getattr__" = some none
  noN : findIn K (.ref C) "value" = some none
  iC : findIn K (.ref C) "__init__" = some (some (.ref fI))
  tC : typeIn K (.ref fI) = some (.type "function")
  kC : keepIn K (.ref C) = true
  exC : subIn K (.ref C) (.type "BaseException") = some true
  tyC : typeIn K (.ref C) = some (.type "type")
  hdC : hasDictIn K C = true
  fn : ∃ (oc : Value) (od : Option Addr) (kV doc pm : Value) (an : Option Addr) (cdv ct : Value) (osl : Array (Option Value)) (p1 p2 q1 q2 q3 q4 : Pos),
    K.lookup fI = some ⟨oc, od, .func (fnOf "__init__" qn (iA p1 p2) (iB q1 q2 q3 q4) iS .none kV doc pm an cdv ct), osl⟩ ∧ codeIn K cdv qn = true
theorem ldL {M : Model} {s : Shared} {name : Str} {scope : Scope} {L a : Addr} {cd : Value} {m : Str → Option Value} {x : Str} {pos : Pos} {v : Value} {Q : Value → Shared → Prop} {A : Around} {E : Value → Shared → Prop} (hn : s.heap.Ns L m) (hv : m x = some v) (h : Q v s)
    (hk : scope.kind = .function := by rfl) (hl : (envOfC name scope L a cd).kindOf x = some .local := by rfl) (hd : (x == ("__debug__" : Str)) = false := by decide) :
    wpAny M A (eval (.Name x pos) (envOfC name scope L a cd)) Q E s := wpAny_Name (wpAny_loadName_local hk hl hn hv h) hd
structure Left (h h' : Heap) (x C dx t1 : Addr) (v : Value) : Prop where
  keep : ∀ b o, b ≠ x → h.get? b = some o → h'.get? b = some o
  obj : h'.get? x = some { cls := .ref C, dict := some dx, data := .fields #[.ref t1, .none, .none, .none, .bool false, .none] }
  dbig : h.objs.size ≤ dx
  dne : dx ≠ x
  ns : h'.Ns1 dx (fun y => if y = "value" then some v else none)
structure Made (h h' : Heap) (e C d : Addr) (v : Value) : Prop where
  keep : ∀ b o, h.get? b = some o → h'.get? b = some o
  new : h.objs.size ≤ e
  obj : ∃ oe vs, h'.get? e = some oe ∧ oe.cls = .ref C ∧ oe.dict = some d ∧ oe.data = .fields vs ∧ vs[1]? = some .none
  dbig : h.objs.size ≤ d
  dne : d ≠ e
  ns : h'.Ns1 d (fun y => if y = "value" then some v else none)
section
variable {prog : Program} {w : World} {A : Around} {E : Value → Shared → Prop} {R : Result → Shared → Prop} {s : Shared} {K : Frag} {mg : Str → Option Value} {nx qn : Str} {C fI : Addr}
theorem init_ (T : Txt K mg nx qn C fI) {x t0 : Addr} {v : Value} (X : K.In s.heap) (hlim : s.heap.NoLimit) (hx : s.heap.get? x = some (excO C t0)) (hnx : K.lookup x = none) (hroom : A.depth < recursionLimit)
    (hq : ∀ h' tk dx, Left s.heap h' x C dx t0 v → R (.ok (.ret .none)) { s with heap := h', toks := tk }) :
    codeAny (model prog w) A (.call (.ref fI) ⟨[.ref x, v], []⟩) R s := by
  obtain ⟨oc, od, kV, doc, pm, an, cdv, ct, osl, p1, p2, q1, q2, q3, q4, ho, hcd⟩ := T.fn
  obtain ⟨nm, q, N, bs, bm, sn, sub, ab, col, dd, k0, k1, k2, k3, k5, B, newId, initId, tl, hC, TO, hbm⟩ := T.cls
  have hcl : clsIn K C = some { name := nm, bases := bs, mro := .ref C :: bm, ns := N, qualname := q, hasDict := true, slotNames := sn, subclasses := sub, abstract := ab, collection := col, hasDel := false } := by unfold clsIn; rw [hC] <;> rfl
  refine Att.call_fn (binds := [("self", .ref x), ("value", v)]) X hlim ho hcd hroom (BindsTo.of_eq (by first | rfl | with_unfolding_all rfl)) (by first | rfl | decide | with_unfolding_all rfl) (fun s₁ IC => ?_) rfl rfl rfl
  obtain ⟨h₁, tk₁, rfl⟩ := IC.toInCall.same
  have k : ∀ b o, s.heap.get? b = some o → h₁.get? b = some o := IC.toInCall.keep
  have hn := IC.toInCall.ns
  have hxL : s.heap.objs.size ≠ x := Nat.ne_of_gt (Heap.lt_size hx)
  have X₁ : K.In h₁ := X.keeps k
  have hx₁ := k _ _ hx
  show wpAny _ _ (execs _ _) _ _ _
  refine wpAny_execs_cons (plainObj_wpAny_Assign_Attribute ?_)
  refine ldL (v := v) hn (by first | rfl | with_unfolding_all rfl | kernel_rfl) (ldL (v := .ref x) hn (by first | rfl | with_unfolding_all rfl | kernel_rfl) ?_)
  refine set_plain X₁ (ox := excO C t0) (od := none) ⟨hx₁, rfl, rfl, trivial⟩ T.sa ?_
  refine err_put TO X₁ hx₁ hcl (show Refs tl (.ref C :: bm) from .own hbm) rfl T.noN (fun h₃ tk₃ dx k₃ dn dne hx₃ hn₃ => ?_)
  show wpAny _ _ (execs _ _) _ _ _
  have z : s.heap.objs.size < h₁.objs.size := hn.lt
  exact wpAny_execs_nil (hq h₃ tk₃ dx ⟨fun b o hb e => k₃ b o hb (k b o e), hx₃, Nat.le_of_lt (Nat.lt_of_lt_of_le z dn), dne, hn₃⟩)
theorem made_ (T : Txt K mg nx qn C fI) {v : Value} (X : K.In s.heap) (hlim : s.heap.NoLimit) (hroom : A.depth + 1 < recursionLimit)
    (hq : ∀ h' tk e d, Made s.heap h' e C d v → R (.ok (.ret (.ref e))) { s with heap := h', toks := tk }) :
    codeAny (model prog w) A (.call (.ref C) ⟨[v], []⟩) R s := by
  obtain ⟨nm, q, N, bs, bm, sn, sub, ab, col, dd, k0, k1, k2, k3, k5, B, newId, initId, tl, hC, TO, hbm⟩ := T.cls
  obtain ⟨hp, g, dr, tk, os⟩ := s
  have k : ∀ b o, hp.get? b = some o → ((hp.push (kdv_tup [v])).push (excO C hp.objs.size)).get? b = some o := fun b o e => Heap.get?_push_of_some _ (Heap.get?_push_of_some _ e)
  have hget : ((hp.push (kdv_tup [v])).push (excO C hp.objs.size)).get? (hp.objs.size + 1) = some (excO C hp.objs.size) := by heap_get
  have hnx : K.lookup (hp.objs.size + 1) = none := by
    cases e : K.lookup (hp.objs.size + 1) with
    | none => rfl
    | some o =>
      have z : hp.get? (hp.objs.size + 1) = some o := X _ _ e
      exact absurd (Nat.lt_of_succ_lt (Heap.lt_size z)) (Nat.lt_irrefl _)
  refine call_own TO.F (fun X => hbm.has X) (X _ _ hC) (looks_findIn X T.iC) (fun self => bind_fn X self T.tC) (by show 1 ≤ sizeLine; rw [sizeLine_eq]; decide) ?_
  refine init_ (s := ⟨(hp.push (kdv_tup [v])).push (excO C hp.objs.size), g, dr, tk, os⟩) T (X.keeps k) (hlim.keeps k) hget hnx ?_ fun h' tk' dx ⟨k', hx, dn, dne, hns⟩ => ?_
  · show A.depth + 1 < recursionLimit
    exact hroom
  · have old : ∀ b o, hp.get? b = some o → h'.get? b = some o := fun b o e => k' b o (Nat.ne_of_lt (Nat.lt_succ_of_lt (Heap.lt_size e))) (k b o e)
    have z : hp.objs.size + 1 + 1 ≤ dx := by
      first
        | (simpa only [Heap.size_push] using dn)
        | exact dn
        | (have q := dn; rw [Heap.size_push, Heap.size_push] at q; exact q)
    exact ⟨rfl, hq h' tk' (hp.objs.size + 1) dx ⟨old, Nat.le_succ _, ⟨_, _, hx, rfl, rfl, rfl, rfl⟩, Nat.le_trans (Nat.le_trans (Nat.le_succ _) (Nat.le_succ _)) z, dne, hns⟩⟩
end
end Fld_value
namespace Fld_value
open PySem PySem.Spec PyProof.Rows L2
section
variable {X : Cx} {nx qn : Str} {C fI : Addr}
theorem relO_f {v : V} {v' : Value} (r : RelV v v') (f : Str) : RelO (List.lookup f [(("value" : Str), v)]) (if f = "value" then some v' else none) := by
  by_cases hw : f = "value"
  · subst hw
    rw [if_pos rfl]
    have q : List.lookup ("value" : Str) [(("value" : Str), v)] = some v := by simp [List.lookup]
    rw [q]
    exact r
  · rw [if_neg hw]
    have qw : (f == ("value" : Str)) = false := by simpa using hw
    have q2 : List.lookup f [(("value" : Str), v)] = none := by simp [List.lookup, qw]
    rw [q2]
    trivial
def tMk (C : Addr) (ta : TA) : L2.St → Hp → XK → Prop := fun σ H Q => ta σ H fun vs H1 => ∃ v, vs = [v] ∧ ∀ d, H1 d = none → Q (.ref C) (some d) (upd H1 d (.xd [(("value" : Str), v)]))
theorem pmk {a : Expr} {ta : TA} {p pos : Pos} {k : Nat} (T : Txt X.K X.mg nx qn C fI) (hr : Room k X.A) (ha : PA X [a] ta) (hg : Gl X nx) (hdb : (nx == ("__debug__" : Str)) = false)
    (he : starEach (a :: []) X.env = (false, eval a X.env) :: starEach [] X.env) (hpl : (backTo pos (starEach [] X.env)).any (·.1) = false := by rfl) :
    PMk X (.Call (.Name nx p) [a] [] pos) (tMk C ta) := by
  intro pins s σ H Q I h
  refine wpAny_Call_Name_kw (ld_glob I hg T.gC ?_ hdb)
  refine PySem.W.callWith_K (h₀ := X.base) I.ok.mod.kin T.kC (thn (ha.run pos pins s σ H _ I h) fun us s1 hh => ?_) he hpl
  obtain ⟨vs, H1, I1, r1, v, ev, q1⟩ := hh
  subst ev
  refine ⟨I1.kIn, ?_⟩
  cases r1 with
  | cons rv rn =>
    rename_i v' us'
    cases rn
    show wpAny _ _ (call (.ref C) [v']) _ _ _
    have hlim := I1.nolimit
    obtain ⟨hp, g, dr, tk, os⟩ := s1
    refine wpAny_call (made_ T I1.kIn hlim (by have := hr.dp; omega) fun h' tk' e d M => ?_)
    show MkP X pins σ Q (.ref e) ⟨h', g, dr, tk', os⟩
    obtain ⟨oe, fv, hoe, hc, hd, hdat, h1⟩ := M.obj
    have hns := M.ns
    obtain ⟨G', g1, g2⟩ := restrict h' fun b => decide (b ≠ e)
    have gk : ∀ b, b ≠ e → G'.get? b = h'.get? b := fun b hb => g1 b (decide_eq_true hb)
    have ge : G'.get? e = none := g2 e (by simp)
    have old : ∀ b o, hp.get? b = some o → G'.get? b = some o := fun b o q => (gk b (Nat.ne_of_lt (Nat.lt_of_lt_of_le (Heap.lt_size q) M.new))).trans (M.keep b o q)
    have ob : ObjOk X.prog X.w (upd H1 d (.xd [(("value" : Str), v)])) G' d (.xd [(("value" : Str), v)]) :=
      ⟨_, hns.at (fun o q => (gk d M.dne).trans q), fun f => relO_f rv f⟩
    have J : Inv X pins σ (upd H1 d (.xd [(("value" : Str), v)])) ⟨G', g, dr, tk', os⟩ := I1.laid (t' := tk') old M.dbig ob
    refine ⟨e, oe, fv, ⟨G', g, dr, tk', os⟩, _, .ref C, some d, rfl, J, fun b o q => ?_, ge, hoe, ⟨hc, hd⟩, hdat, h1, ?_, rfl, I1.bare, raises_own T.exC T.tyC, q1 d (I1.hok.fresh M.dbig)⟩
    · by_cases hb : b = e
      · have q' : G'.get? b = some o := q
        rw [hb, ge] at q'; cases q'
      · exact (gk b hb).symm.trans q
    · rw [upd_ne (Ne.symm M.dne)]
      exact I1.hok.fresh M.new
theorem raise1 {Ew : WX} {a : Expr} {we : WE} {p pos pos2 : Pos} {k : Nat} (hc : X.calm = true) (T : Txt X.K X.mg nx qn C fI) (hr : Room k X.A) (tk : Takes X Ew.w) (ha : SE X Ew a we) (hg : Gl X nx) (hdb : (nx == ("__debug__" : Str)) = false)
    (he : starEach (a :: []) X.env = (false, eval a X.env) :: starEach [] X.env) : SS X Ew (.Raise (some (.Call (.Name nx p) [a] [] pos)) none pos2) (wRaise1 nx "value" we) :=
  PS.imp (ps_raise hc tk (pmk T hr (SA.cons ha SA.nil he) hg hdb he)) fun D σ H ⟨μ, F, env, S, E, C1, rel, hw, xo, dok⟩ => by
    refine ⟨μ, F, env, S, E, (fun ts S' => match ts with | [z] => ∃ x, z = .t x ∧ E (.exc1 nx "value" x) env S' | _ => False), rel, hw, xo, fun ts S1 μ1 F1 vs H1 hz ext rel1 rw1 => ?_⟩
    match ts, hz with
    | [_], ⟨x, rfl, hE⟩ =>
      obtain ⟨v, r, rfl, rt, rfl⟩ := rw1
      have rt : RT X.K X.mg F1 x v := rt
      refine ⟨v, rfl, fun d hd => ?_⟩
      have st : Step F1 H1 (upd F1 d (.xd [(("value" : Str), v)])) (upd H1 d (.xd [(("value" : Str), v)])) := Step.new rel1.sub hd
      exact xo.go _ env S1 μ1 _ _ _ σ _ hE (ext.trans st.ext) (rel1.step st) ⟨C, d, v, rfl, T.gC, rfl, upd_same, RT.mono st.f _ _ rt⟩
end
end Fld_value
namespace Fld_limit
open PySem PySem.Spec PySem.W PySem.Calls PyProof.Rows PySem.HandSPX
def iA (p1 p2 : Pos) : Arguments := { posonlyargs := [], args := [{ arg := "self", annotation := none, pos := p1 }, { arg := "limit", annotation := none, pos := p2 }], vararg := none, kwonlyargs := [], kw_defaults := [], kwarg := none, defaults := [] }
def iB (q1 q2 q3 q4 : Pos) : List Stmt := [.Assign [.Attribute (.Name "self" q1) "limit" q2] (.Name "limit" q3) q4]
def iS : Scope := { kind := .function, names := [(PySem.Str.ofString "self", .local), (PySem.Str.ofString "limit", .local)], isGenerator := false, isCoroutine := false, more := [] }
structure Txt (K : Frag) (mg : Str → Option Value) (x qn : Str) (C fI : Addr) : Prop where
  gC : mg x = some (.ref C)
  cls : ∃ nm q N bs bm sn sub ab col dd k0 k1 k2 k3 k5 B newId initId tl, K.lookup C = some (excClassObj nm q C N bs bm true sn sub ab col dd k0 k1 k2 k3 k5 newId) ∧ TailOk B newId initId tl ∧ Refs tl bm
  sa : findIn K (.ref C) "__setattr__" = some (some (.builtin "object.__setattr__"))
  ga : findIn K (.ref C) "__getattribute__" = some (some (.builtin "BaseException.__getattribute__"))
  gg : findIn K (.ref C) "__getattr__" = some none
  noN : findIn K (.ref C) "limit" = some none
  iC : findIn K (.ref C) "__init__" = some (some (.ref fI))
  tC : typeIn K (.ref fI) = some (.type "function")
  kC : keepIn K (.ref C) = true
  exC : subIn K (.ref C) (.type "BaseException") = some true
  tyC : typeIn K (.ref C) = some (.type "type")
  hdC : hasDictIn K C = true
  fn : ∃ (oc : Value) (od : Option Addr) (kV doc pm : Value) (an : Option Addr) (cdv ct : Value) (osl : Array (Option Value)) (p1 p2 q1 q2 q3 q4 : Pos),
    K.lookup fI = some ⟨oc, od, .func (fnOf "__init__" qn (iA p1 p2) (iB q1 q2 q3 q4) iS .none kV doc pm an cdv ct), osl⟩ ∧ codeIn K cdv qn = true
theorem ldL {M : Model} {s : Shared} {name : Str} {scope : Scope} {L a : Addr} {cd : Value} {m : Str → Option Value} {x : Str} {pos : Pos} {v : Value} {Q : Value → Shared → Prop} {A : Around} {E : Value → Shared → Prop} (hn : s.heap.Ns L m) (hv : m x = some v) (h : Q v s)
    (hk : scope.kind = .function := by rfl) (hl : (envOfC name scope L a cd).kindOf x = some .local := by rfl) (hd : (x == ("__debug__" : Str)) = false := by decide) :
    wpAny M A (eval (.Name x pos) (envOfC name scope L a cd)) Q E s := wpAny_Name (wpAny_loadName_local hk hl hn hv h) hd
structure Left (h h' : Heap) (x C dx t1 : Addr) (v : Value) : Prop where
  keep : ∀ b o, b ≠ x → h.get? b = some o → h'.get? b = some o
  obj : h'.get? x = some { cls := .ref C, dict := some dx, data := .fields #[.ref t1, .none, .none, .none, .bool false, .none] }
  dbig : h.objs.size ≤ dx
  dne : dx ≠ x
  ns : h'.Ns1 dx (fun y => if y = "limit" then some v else none)
structure Made (h h' : Heap) (e C d : Addr) (v : Value) : Prop where
  keep : ∀ b o, h.get? b = some o → h'.get? b = some o
  new : h.objs.size ≤ e
  obj : ∃ oe vs, h'.get? e = some oe ∧ oe.cls = .ref C ∧ oe.dict = some d ∧ oe.data = .fields vs ∧ vs[1]? = some .none
  dbig : h.objs.size ≤ d
  dne : d ≠ e
  ns : h'.Ns1 d (fun y => if y = "limit" then some v else none)
section
variable {prog : Program} {w : World} {A : Around} {E : Value → Shared → Prop} {R : Result → Shared → Prop} {s : Shared} {K : Frag} {mg : Str → Option Value} {nx qn : Str} {C fI : Addr}
theorem init_ (T : Txt K mg nx qn C fI) {x t0 : Addr} {v : Value} (X : K.In s.heap) (hlim : s.heap.NoLimit) (hx : s.heap.get? x = some (excO C t0)) (hnx : K.lookup x = none) (hroom : A.depth < recursionLimit)
    (hq : ∀ h' tk dx, Left s.heap h' x C dx t0 v → R (.ok (.ret .none)) { s with heap := h', toks := tk }) :
    codeAny (model prog w) A (.call (.ref fI) ⟨[.ref x, v], []⟩) R s := by
  obtain ⟨oc, od, kV, doc, pm, an, cdv, ct, osl, p1, p2, q1, q2, q3, q4, ho, hcd⟩ := T.fn
  obtain ⟨nm, q, N, bs, bm, sn, sub, ab, col, dd, k0, k1, k2, k3, k5, B, newId, initId, tl, hC, TO, hbm⟩ := T.cls
  have hcl : clsIn K C = some { name := nm, bases := bs, mro := .ref C :: bm, ns := N, qualname := q, hasDict := true, slotNames := sn, subclasses := sub, abstract := ab, collection := col, hasDel := false } := by unfold clsIn; rw [hC] <;> rfl
  refine Att.call_fn (binds := [("self", .ref x), ("limit", v)]) X hlim ho hcd hroom (BindsTo.of_eq (by first | rfl | with_unfolding_all rfl)) (by first | rfl | decide | with_unfolding_all rfl) (fun s₁ IC => ?_) rfl rfl rfl
  obtain ⟨h₁, tk₁, rfl⟩ := IC.toInCall.same
  have k : ∀ b o, s.heap.get? b = some o → h₁.get? b = some o := IC.toInCall.keep
  have hn := IC.toInCall.ns
  have hxL : s.heap.objs.size ≠ x := Nat.ne_of_gt (Heap.lt_size hx)
  have X₁ : K.In h₁ := X.keeps k
  have hx₁ := k _ _ hx
  show wpAny _ _ (execs _ _) _ _ _
  refine wpAny_execs_cons (plainObj_wpAny_Assign_Attribute ?_)
  refine ldL (v := v) hn (by first | rfl | with_unfolding_all rfl | kernel_rfl) (ldL (v := .ref x) hn (by first | rfl | with_unfolding_all rfl | kernel_rfl) ?_)
  refine set_plain X₁ (ox := excO C t0) (od := none) ⟨hx₁, rfl, rfl, trivial⟩ T.sa ?_
  refine err_put TO X₁ hx₁ hcl (show Refs tl (.ref C :: bm) from .own hbm) rfl T.noN (fun h₃ tk₃ dx k₃ dn dne hx₃ hn₃ => ?_)
  show wpAny _ _ (execs _ _) _ _ _
  have z : s.heap.objs.size < h₁.objs.size := hn.lt
  exact wpAny_execs_nil (hq h₃ tk₃ dx ⟨fun b o hb e => k₃ b o hb (k b o e), hx₃, Nat.le_of_lt (Nat.lt_of_lt_of_le z dn), dne, hn₃⟩)
theorem made_ (T : Txt K mg nx qn C fI) {v : Value} (X : K.In s.heap) (hlim : s.heap.NoLimit) (hroom : A.depth + 1 < recursionLimit)
    (hq : ∀ h' tk e d, Made s.heap h' e C d v → R (.ok (.ret (.ref e))) { s with heap := h', toks := tk }) :
    codeAny (model prog w) A (.call (.ref C) ⟨[v], []⟩) R s := by
  obtain ⟨nm, q, N, bs, bm, sn, sub, ab, col, dd, k0, k1, k2, k3, k5, B, newId, initId, tl, hC, TO, hbm⟩ := T.cls
  obtain ⟨hp, g, dr, tk, os⟩ := s
  have k : ∀ b o, hp.get? b = some o → ((hp.push (kdv_tup [v])).push (excO C hp.objs.size)).get? b = some o := fun b o e => Heap.get?_push_of_some _ (Heap.get?_push_of_some _ e)
  have hget : ((hp.push (kdv_tup [v])).push (excO C hp.objs.size)).get? (hp.objs.size + 1) = some (excO C hp.objs.size) := by heap_get
  have hnx : K.lookup (hp.objs.size + 1) = none := by
    cases e : K.lookup (hp.objs.size + 1) with
    | none => rfl
    | some o =>
      have z : hp.get? (hp.objs.size + 1) = some o := X _ _ e
      exact absurd (Nat.lt_of_succ_lt (Heap.lt_size z)) (Nat.lt_irrefl _)
  refine call_own TO.F (fun X => hbm.has X) (X _ _ hC) (looks_findIn X T.iC) (fun self => bind_fn X self T.tC) (by show 1 ≤ sizeLine; rw [sizeLine_eq]; decide) ?_
  refine init_ (s := ⟨(hp.push (kdv_tup [v])).push (excO C hp.objs.size), g, dr, tk, os⟩) T (X.keeps k) (hlim.keeps k) hget hnx ?_ fun h' tk' dx ⟨k', hx, dn, dne, hns⟩ => ?_
  · show A.depth + 1 < recursionLimit
    exact hroom
  · have old : ∀ b o, hp.get? b = some o → h'.get? b = some o := fun b o e => k' b o (Nat.ne_of_lt (Nat.lt_succ_of_lt (Heap.lt_size e))) (k b o e)
    have z : hp.objs.size + 1 + 1 ≤ dx := by
      first
        | (simpa only [Heap.size_push] using dn)
        | exact dn
        | (have q := dn; rw [Heap.size_push, Heap.size_push] at q; exact q)
    exact ⟨rfl, hq h' tk' (hp.objs.size + 1) dx ⟨old, Nat.le_succ _, ⟨_, _, hx, rfl, rfl, rfl, rfl⟩, Nat.le_trans (Nat.le_trans (Nat.le_succ _) (Nat.le_succ _)) z, dne, hns⟩⟩
end
end Fld_limit
namespace Fld_limit
open PySem PySem.Spec PyProof.Rows L2
section
variable {X : Cx} {nx qn : Str} {C fI : Addr}
theorem relO_f {v : V} {v' : Value} (r : RelV v v') (f : Str) : RelO (List.lookup f [(("limit" : Str), v)]) (if f = "limit" then some v' else none) := by
  by_cases hw : f = "limit"
  · subst hw
    rw [if_pos rfl]
    have q : List.lookup ("limit" : Str) [(("limit" : Str), v)] = some v := by simp [List.lookup]
    rw [q]
    exact r
  · rw [if_neg hw]
    have qw : (f == ("limit" : Str)) = false := by simpa using hw
    have q2 : List.lookup f [(("limit" : Str), v)] = none := by simp [List.lookup, qw]
    rw [q2]
    trivial
def tMk (C : Addr) (ta : TA) : L2.St → Hp → XK → Prop := fun σ H Q => ta σ H fun vs H1 => ∃ v, vs = [v] ∧ ∀ d, H1 d = none → Q (.ref C) (some d) (upd H1 d (.xd [(("limit" : Str), v)]))
theorem pmk {a : Expr} {ta : TA} {p pos : Pos} {k : Nat} (T : Txt X.K X.mg nx qn C fI) (hr : Room k X.A) (ha : PA X [a] ta) (hg : Gl X nx) (hdb : (nx == ("__debug__" : Str)) = false)
    (he : starEach (a :: []) X.env = (false, eval a X.env) :: starEach [] X.env) (hpl : (backTo pos (starEach [] X.env)).any (·.1) = false := by rfl) :
    PMk X (.Call (.Name nx p) [a] [] pos) (tMk C ta) := by
  intro pins s σ H Q I h
  refine wpAny_Call_Name_kw (ld_glob I hg T.gC ?_ hdb)
  refine PySem.W.callWith_K (h₀ := X.base) I.ok.mod.kin T.kC (thn (ha.run pos pins s σ H _ I h) fun us s1 hh => ?_) he hpl
  obtain ⟨vs, H1, I1, r1, v, ev, q1⟩ := hh
  subst ev
  refine ⟨I1.kIn, ?_⟩
  cases r1 with
  | cons rv rn =>
    rename_i v' us'
    cases rn
    show wpAny _ _ (call (.ref C) [v']) _ _ _
    have hlim := I1.nolimit
    obtain ⟨hp, g, dr, tk, os⟩ := s1
    refine wpAny_call (made_ T I1.kIn hlim (by have := hr.dp; omega) fun h' tk' e d M => ?_)
    show MkP X pins σ Q (.ref e) ⟨h', g, dr, tk', os⟩
    obtain ⟨oe, fv, hoe, hc, hd, hdat, h1⟩ := M.obj
    have hns := M.ns
    obtain ⟨G', g1, g2⟩ := restrict h' fun b => decide (b ≠ e)
    have gk : ∀ b, b ≠ e → G'.get? b = h'.get? b := fun b hb => g1 b (decide_eq_true hb)
    have ge : G'.get? e = none := g2 e (by simp)
    have old : ∀ b o, hp.get? b = some o → G'.get? b = some o := fun b o q => (gk b (Nat.ne_of_lt (Nat.lt_of_lt_of_le (Heap.lt_size q) M.new))).trans (M.keep b o q)
    have ob : ObjOk X.prog X.w (upd H1 d (.xd [(("limit" : Str), v)])) G' d (.xd [(("limit" : Str), v)]) :=
      ⟨_, hns.at (fun o q => (gk d M.dne).trans q), fun f => relO_f rv f⟩
    have J : Inv X pins σ (upd H1 d (.xd [(("limit" : Str), v)])) ⟨G', g, dr, tk', os⟩ := I1.laid (t' := tk') old M.dbig ob
    refine ⟨e, oe, fv, ⟨G', g, dr, tk', os⟩, _, .ref C, some d, rfl, J, fun b o q => ?_, ge, hoe, ⟨hc, hd⟩, hdat, h1, ?_, rfl, I1.bare, raises_own T.exC T.tyC, q1 d (I1.hok.fresh M.dbig)⟩
    · by_cases hb : b = e
      · have q' : G'.get? b = some o := q
        rw [hb, ge] at q'; cases q'
      · exact (gk b hb).symm.trans q
    · rw [upd_ne (Ne.symm M.dne)]
      exact I1.hok.fresh M.new
theorem raise1 {Ew : WX} {a : Expr} {we : WE} {p pos pos2 : Pos} {k : Nat} (hc : X.calm = true) (T : Txt X.K X.mg nx qn C fI) (hr : Room k X.A) (tk : Takes X Ew.w) (ha : SE X Ew a we) (hg : Gl X nx) (hdb : (nx == ("__debug__" : Str)) = false)
    (he : starEach (a :: []) X.env = (false, eval a X.env) :: starEach [] X.env) : SS X Ew (.Raise (some (.Call (.Name nx p) [a] [] pos)) none pos2) (wRaise1 nx "limit" we) :=
  PS.imp (ps_raise hc tk (pmk T hr (SA.cons ha SA.nil he) hg hdb he)) fun D σ H ⟨μ, F, env, S, E, C1, rel, hw, xo, dok⟩ => by
    refine ⟨μ, F, env, S, E, (fun ts S' => match ts with | [z] => ∃ x, z = .t x ∧ E (.exc1 nx "limit" x) env S' | _ => False), rel, hw, xo, fun ts S1 μ1 F1 vs H1 hz ext rel1 rw1 => ?_⟩
    match ts, hz with
    | [_], ⟨x, rfl, hE⟩ =>
      obtain ⟨v, r, rfl, rt, rfl⟩ := rw1
      have rt : RT X.K X.mg F1 x v := rt
      refine ⟨v, rfl, fun d hd => ?_⟩
      have st : Step F1 H1 (upd F1 d (.xd [(("limit" : Str), v)])) (upd H1 d (.xd [(("limit" : Str), v)])) := Step.new rel1.sub hd
      exact xo.go _ env S1 μ1 _ _ _ σ _ hE (ext.trans st.ext) (rel1.step st) ⟨C, d, v, rfl, T.gC, rfl, upd_same, RT.mono st.f _ _ rt⟩
end
end Fld_limit
namespace Fld_reached
open PySem PySem.Spec PySem.W PySem.Calls PyProof.Rows PySem.HandSPX
def iA (p1 p2 : Pos) : Arguments := { posonlyargs := [], args := [{ arg := "self", annotation := none, pos := p1 }, { arg := "reached", annotation := none, pos := p2 }], vararg := none, kwonlyargs := [], kw_defaults := [], kwarg := none, defaults := [] }
def iB (q1 q2 q3 q4 : Pos) : List Stmt := [.Assign [.Attribute (.Name "self" q1) "reached" q2] (.Name "reached" q3) q4]
def iS : Scope := { kind := .function, names := [(PySem.Str.ofString "self", .local), (PySem.Str.ofString "reached", .local)], isGenerator := false, isCoroutine := false, more := [] }
structure Txt (K : Frag) (mg : Str → Option Value) (x qn : Str) (C fI : Addr) : Prop where
  gC : mg x = some (.ref C)
  cls : ∃ nm q N bs bm sn sub ab col dd k0 k1 k2 k3 k5 B newId initId tl, K.lookup C = some (excClassObj nm q C N bs bm true sn sub ab col dd k0 k1 k2 k3 k5 newId) ∧ TailOk B newId initId tl ∧ Refs tl bm
  sa : findIn K (.ref C) "__setattr__" = some (some (.builtin "object.__setattr__"))
  ga : findIn K (.ref C) "__getattribute__" = some (some (.builtin "BaseException.__getattribute__"))
  gg : findIn K (.ref C) "__getattr__" = some none
  noN : findIn K (.ref C) "reached" = some none
  iC : findIn K (.ref C) "__init__" = some (some (.ref fI))
  tC : typeIn K (.ref fI) = some (.type "function")
  kC : keepIn K (.ref C) = true
  exC : subIn K (.ref C) (.type "BaseException") = some true
  tyC : typeIn K (.ref C) = some (.type "type")
  hdC : hasDictIn K C = true
  fn : ∃ (oc : Value) (od : Option Addr) (kV doc pm : Value) (an : Option Addr) (cdv ct : Value) (osl : Array (Option Value)) (p1 p2 q1 q2 q3 q4 : Pos),
    K.lookup fI = some ⟨oc, od, .func (fnOf "__init__" qn (iA p1 p2) (iB q1 q2 q3 q4) iS .none kV doc pm an cdv ct), osl⟩ ∧ codeIn K cdv qn = true
theorem ldL {M : Model} {s : Shared} {name : Str} {scope : Scope} {L a : Addr} {cd : Value} {m : Str → Option Value} {x : Str} {pos : Pos} {v : Value} {Q : Value → Shared → Prop} {A : Around} {E : Value → Shared → Prop} (hn : s.heap.Ns L m) (hv : m x = some v) (h : Q v s)
    (hk : scope.kind = .function := by rfl) (hl : (envOfC name scope L a cd).kindOf x = some .local := by rfl) (hd : (x == ("__debug__" : Str)) = false := by decide) :
    wpAny M A (eval (.Name x pos) (envOfC name scope L a cd)) Q E s := wpAny_Name (wpAny_loadName_local hk hl hn hv h) hd
structure Left (h h' : Heap) (x C dx t1 : Addr) (v : Value) : Prop where
  keep : ∀ b o, b ≠ x → h.get? b = some o → h'.get? b = some o
  obj : h'.get? x = some { cls := .ref C, dict := some dx, data := .fields #[.ref t1, .none, .none, .none, .bool false, .none] }
  dbig : h.objs.size ≤ dx
  dne : dx ≠ x
  ns : h'.Ns1 dx (fun y => if y = "reached" then some v else none)
structure Made (h h' : Heap) (e C d : Addr) (v : Value) : Prop where
  keep : ∀ b o, h.get? b = some o → h'.get? b = some o
  new : h.objs.size ≤ e
  obj : ∃ oe vs, h'.get? e = some oe ∧ oe.cls = .ref C ∧ oe.dict = some d ∧ oe.data = .fields vs ∧ vs[1]? = some .none
  dbig : h.objs.size ≤ d
  dne : d ≠ e
  ns : h'.Ns1 d (fun y => if y = "reached" then some v else none)
section
variable {prog : Program} {w : World} {A : Around} {E : Value → Shared → Prop} {R : Result → Shared → Prop} {s : Shared} {K : Frag} {mg : Str → Option Value} {nx qn : Str} {C fI : Addr}
theorem init_ (T : Txt K mg nx qn C fI) {x t0 : Addr} {v : Value} (X : K.In s.heap) (hlim : s.heap.NoLimit) (hx : s.heap.get? x = some (excO C t0)) (hnx : K.lookup x = none) (hroom : A.depth < recursionLimit)
    (hq : ∀ h' tk dx, Left s.heap h' x C dx t0 v → R (.ok (.ret .none)) { s with heap := h', toks := tk }) :
    codeAny (model prog w) A (.call (.ref fI) ⟨[.ref x, v], []⟩) R s := by
  obtain ⟨oc, od, kV, doc, pm, an, cdv, ct, osl, p1, p2, q1, q2, q3, q4, ho, hcd⟩ := T.fn
  obtain ⟨nm, q, N, bs, bm, sn, sub, ab, col, dd, k0, k1, k2, k3, k5, B, newId, initId, tl, hC, TO, hbm⟩ := T.cls
  have hcl : clsIn K C = some { name := nm, bases := bs, mro := .ref C :: bm, ns := N, qualname := q, hasDict := true, slotNames := sn, subclasses := sub, abstract := ab, collection := col, hasDel := false } := by unfold clsIn; rw [hC] <;> rfl
  refine Att.call_fn (binds := [("self", .ref x), ("reached", v)]) X hlim ho hcd hroom (BindsTo.of_eq (by first | rfl | with_unfolding_all rfl)) (by first | rfl | decide | with_unfolding_all rfl) (fun s₁ IC => ?_) rfl rfl rfl
  obtain ⟨h₁, tk₁, rfl⟩ := IC.toInCall.same
  have k : ∀ b o, s.heap.get? b = some o → h₁.get? b = some o := IC.toInCall.keep
  have hn := IC.toInCall.ns
  have hxL : s.heap.objs.size ≠ x := Nat.ne_of_gt (Heap.lt_size hx)
  have X₁ : K.In h₁ := X.keeps k
  have hx₁ := k _ _ hx
  show wpAny _ _ (execs _ _) _ _ _
  refine wpAny_execs_cons (plainObj_wpAny_Assign_Attribute ?_)
  refine ldL (v := v) hn (by first | rfl | with_unfolding_all rfl | kernel_rfl) (ldL (v := .ref x) hn (by first | rfl | with_unfolding_all rfl | kernel_rfl) ?_)
  refine set_plain X₁ (ox := excO C t0) (od := none) ⟨hx₁, rfl, rfl, trivial⟩ T.sa ?_
  refine err_put TO X₁ hx₁ hcl (show Refs tl (.ref C :: bm) from .own hbm) rfl T.noN (fun h₃ tk₃ dx k₃ dn dne hx₃ hn₃ => ?_)
  show wpAny _ _ (execs _ _) _ _ _
  have z : s.heap.objs.size < h₁.objs.size := hn.lt
  exact wpAny_execs_nil (hq h₃ tk₃ dx ⟨fun b o hb e => k₃ b o hb (k b o e), hx₃, Nat.le_of_lt (Nat.lt_of_lt_of_le z dn), dne, hn₃⟩)
theorem made_ (T : Txt K mg nx qn C fI) {v : Value} (X : K.In s.heap) (hlim : s.heap.NoLimit) (hroom : A.depth + 1 < recursionLimit)
    (hq : ∀ h' tk e d, Made s.heap h' e C d v → R (.ok (.ret (.ref e))) { s with heap := h', toks := tk }) :
    codeAny (model prog w) A (.call (.ref C) ⟨[v], []⟩) R s := by
  obtain ⟨nm, q, N, bs, bm, sn, sub, ab, col, dd, k0, k1, k2, k3, k5, B, newId, initId, tl, hC, TO, hbm⟩ := T.cls
  obtain ⟨hp, g, dr, tk, os⟩ := s
  have k : ∀ b o, hp.get? b = some o → ((hp.push (kdv_tup [v])).push (excO C hp.objs.size)).get? b = some o := fun b o e => Heap.get?_push_of_some _ (Heap.get?_push_of_some _ e)
  have hget : ((hp.push (kdv_tup [v])).push (excO C hp.objs.size)).get? (hp.objs.size + 1) = some (excO C hp.objs.size) := by heap_get
  have hnx : K.lookup (hp.objs.size + 1) = none := by
    cases e : K.lookup (hp.objs.size + 1) with
    | none => rfl
    | some o =>
      have z : hp.get? (hp.objs.size + 1) = some o := X _ _ e
      exact absurd (Nat.lt_of_succ_lt (Heap.lt_size z)) (Nat.lt_irrefl _)
  refine call_own TO.F (fun X => hbm.has X) (X _ _ hC) (looks_findIn X T.iC) (fun self => bind_fn X self T.tC) (by show 1 ≤ sizeLine; rw [sizeLine_eq]; decide) ?_
  refine init_ (s := ⟨(hp.push (kdv_tup [v])).push (excO C hp.objs.size), g, dr, tk, os⟩) T (X.keeps k) (hlim.keeps k) hget hnx ?_ fun h' tk' dx ⟨k', hx, dn, dne, hns⟩ => ?_
  · show A.depth + 1 < recursionLimit
    exact hroom
  · have old : ∀ b o, hp.get? b = some o → h'.get? b = some o := fun b o e => k' b o (Nat.ne_of_lt (Nat.lt_succ_of_lt (Heap.lt_size e))) (k b o e)
    have z : hp.objs.size + 1 + 1 ≤ dx := by
      first
        | (simpa only [Heap.size_push] using dn)
        | exact dn
        | (have q := dn; rw [Heap.size_push, Heap.size_push] at q; exact q)
    exact ⟨rfl, hq h' tk' (hp.objs.size + 1) dx ⟨old, Nat.le_succ _, ⟨_, _, hx, rfl, rfl, rfl, rfl⟩, Nat.le_trans (Nat.le_trans (Nat.le_succ _) (Nat.le_succ _)) z, dne, hns⟩⟩
end
end Fld_reached
namespace Fld_reached
open PySem PySem.Spec PyProof.Rows L2
section
variable {X : Cx} {nx qn : Str} {C fI : Addr}
theorem relO_f {v : V} {v' : Value} (r : RelV v v') (f : Str) : RelO (List.lookup f [(("reached" : Str), v)]) (if f = "reached" then some v' else none) := by
  by_cases hw : f = "reached"
  · subst hw
    rw [if_pos rfl]
    have q : List.lookup ("reached" : Str) [(("reached" : Str), v)] = some v := by simp [List.lookup]
    rw [q]
    exact r
  · rw [if_neg hw]
    have qw : (f == ("reached" : Str)) = false := by simpa using hw
    have q2 : List.lookup f [(("reached" : Str), v)] = none := by simp [List.lookup, qw]
    rw [q2]
    trivial
def tMk (C : Addr) (ta : TA) : L2.St → Hp → XK → Prop := fun σ H Q => ta σ H fun vs H1 => ∃ v, vs = [v] ∧ ∀ d, H1 d = none → Q (.ref C) (some d) (upd H1 d (.xd [(("reached" : Str), v)]))
theorem pmk {a : Expr} {ta : TA} {p pos : Pos} {k : Nat} (T : Txt X.K X.mg nx qn C fI) (hr : Room k X.A) (ha : PA X [a] ta) (hg : Gl X nx) (hdb : (nx == ("__debug__" : Str)) = false)
    (he : starEach (a :: []) X.env = (false, eval a X.env) :: starEach [] X.env) (hpl : (backTo pos (starEach [] X.env)).any (·.1) = false := by rfl) :
    PMk X (.Call (.Name nx p) [a] [] pos) (tMk C ta) := by
  intro pins s σ H Q I h
  refine wpAny_Call_Name_kw (ld_glob I hg T.gC ?_ hdb)
  refine PySem.W.callWith_K (h₀ := X.base) I.ok.mod.kin T.kC (thn (ha.run pos pins s σ H _ I h) fun us s1 hh => ?_) he hpl
  obtain ⟨vs, H1, I1, r1, v, ev, q1⟩ := hh
  subst ev
  refine ⟨I1.kIn, ?_⟩
  cases r1 with
  | cons rv rn =>
    rename_i v' us'
    cases rn
    show wpAny _ _ (call (.ref C) [v']) _ _ _
    have hlim := I1.nolimit
    obtain ⟨hp, g, dr, tk, os⟩ := s1
    refine wpAny_call (made_ T I1.kIn hlim (by have := hr.dp; omega) fun h' tk' e d M => ?_)
    show MkP X pins σ Q (.ref e) ⟨h', g, dr, tk', os⟩
    obtain ⟨oe, fv, hoe, hc, hd, hdat, h1⟩ := M.obj
    have hns := M.ns
    obtain ⟨G', g1, g2⟩ := restrict h' fun b => decide (b ≠ e)
    have gk : ∀ b, b ≠ e → G'.get? b = h'.get? b := fun b hb => g1 b (decide_eq_true hb)
    have ge : G'.get? e = none := g2 e (by simp)
    have old : ∀ b o, hp.get? b = some o → G'.get? b = some o := fun b o q => (gk b (Nat.ne_of_lt (Nat.lt_of_lt_of_le (Heap.lt_size q) M.new))).trans (M.keep b o q)
    have ob : ObjOk X.prog X.w (upd H1 d (.xd [(("reached" : Str), v)])) G' d (.xd [(("reached" : Str), v)]) :=
      ⟨_, hns.at (fun o q => (gk d M.dne).trans q), fun f => relO_f rv f⟩
    have J : Inv X pins σ (upd H1 d (.xd [(("reached" : Str), v)])) ⟨G', g, dr, tk', os⟩ := I1.laid (t' := tk') old M.dbig ob
    refine ⟨e, oe, fv, ⟨G', g, dr, tk', os⟩, _, .ref C, some d, rfl, J, fun b o q => ?_, ge, hoe, ⟨hc, hd⟩, hdat, h1, ?_, rfl, I1.bare, raises_own T.exC T.tyC, q1 d (I1.hok.fresh M.dbig)⟩
    · by_cases hb : b = e
      · have q' : G'.get? b = some o := q
        rw [hb, ge] at q'; cases q'
      · exact (gk b hb).symm.trans q
    · rw [upd_ne (Ne.symm M.dne)]
      exact I1.hok.fresh M.new
theorem raise1 {Ew : WX} {a : Expr} {we : WE} {p pos pos2 : Pos} {k : Nat} (hc : X.calm = true) (T : Txt X.K X.mg nx qn C fI) (hr : Room k X.A) (tk : Takes X Ew.w) (ha : SE X Ew a we) (hg : Gl X nx) (hdb : (nx == ("__debug__" : Str)) = false)
    (he : starEach (a :: []) X.env = (false, eval a X.env) :: starEach [] X.env) : SS X Ew (.Raise (some (.Call (.Name nx p) [a] [] pos)) none pos2) (wRaise1 nx "reached" we) :=
  PS.imp (ps_raise hc tk (pmk T hr (SA.cons ha SA.nil he) hg hdb he)) fun D σ H ⟨μ, F, env, S, E, C1, rel, hw, xo, dok⟩ => by
    refine ⟨μ, F, env, S, E, (fun ts S' => match ts with | [z] => ∃ x, z = .t x ∧ E (.exc1 nx "reached" x) env S' | _ => False), rel, hw, xo, fun ts S1 μ1 F1 vs H1 hz ext rel1 rw1 => ?_⟩
    match ts, hz with
    | [_], ⟨x, rfl, hE⟩ =>
      obtain ⟨v, r, rfl, rt, rfl⟩ := rw1
      have rt : RT X.K X.mg F1 x v := rt
      refine ⟨v, rfl, fun d hd => ?_⟩
      have st : Step F1 H1 (upd F1 d (.xd [(("reached" : Str), v)])) (upd H1 d (.xd [(("reached" : Str), v)])) := Step.new rel1.sub hd
      exact xo.go _ env S1 μ1 _ _ _ σ _ hE (ext.trans st.ext) (rel1.step st) ⟨C, d, v, rfl, T.gC, rfl, upd_same, RT.mono st.f _ _ rt⟩
end
end Fld_reached
end Tw
set_option Elab.async false
set_option linter.all false
set_option maxRecDepth 100000
set_option maxHeartbeats 2000000
namespace Tw
open PySem PySem.Spec PySem.W PySem.Calls PyProof.Rows PySem.HandSPX
/-- an error class: its name, the own classes above it (itself too), its root (0 ValueError, 1 ArithmeticError, 2 LookupError), its field -/
structure ErrD where
  name : Str
  anc : List Str
  base : Nat
  fld : Option Str
def ERR : List ErrD := [⟨"MatrixError", ["MatrixError"], 0, none⟩, ⟨"LimitError", ["LimitError"], 1, none⟩, ⟨"WalkError", ["WalkError"], 2, none⟩,
  ⟨"BadMatrix", ["BadMatrix", "MatrixError"], 0, none⟩, ⟨"BadFraction", ["BadFraction", "MatrixError"], 0, none⟩, ⟨"BadWord", ["BadWord", "MatrixError"], 0, some "index"⟩, ⟨"BadFloor", ["BadFloor", "MatrixError"], 0, some "part"⟩,
  ⟨"BadPlace", ["BadPlace", "MatrixError"], 0, some "value"⟩, ⟨"BadNumber", ["BadNumber", "MatrixError"], 0, some "value"⟩, ⟨"BadExpression", ["BadExpression", "MatrixError"], 0, some "index"⟩, ⟨"BadRule", ["BadRule", "MatrixError"], 0, none⟩,
  ⟨"BadText", ["BadText", "MatrixError"], 0, some "part"⟩, ⟨"TooLong", ["TooLong", "LimitError"], 1, some "limit"⟩, ⟨"TooMany", ["TooMany", "LimitError"], 1, some "limit"⟩, ⟨"NotMember", ["NotMember", "WalkError"], 2, some "reached"⟩,
  ⟨"NothingToUndo", ["NothingToUndo", "WalkError"], 2, none⟩]
def errOf (x : Str) : Option ErrD := ERR.find? fun c => decide (c.name = x)
theorem errOf_mem {x : Str} {c : ErrD} (h : errOf x = some c) : c ∈ ERR ∧ c.name = x := ⟨List.mem_of_find?_eq_some h, by
  have := List.find?_some h
  exact of_decide_eq_true this⟩
def tailL : Nat → List Value
  | 0 => [.type "ValueError", .type "Exception", .type "BaseException", .type "object"]
  | 1 => [.type "ArithmeticError", .type "Exception", .type "BaseException", .type "object"]
  | _ => [.type "LookupError", .type "Exception", .type "BaseException", .type "object"]
def tailN : Nat → String
  | 0 => "ValueError.__new__"
  | 1 => "ArithmeticError.__new__"
  | _ => "LookupError.__new__"
theorem tail_ok : ∀ n : Nat, ∃ B i, TailOk B (tailN n) i (tailL n)
  | 0 => ⟨_, _, tail_value⟩
  | 1 => ⟨_, _, tail_arith⟩
  | _ + 2 => ⟨_, _, tail_look⟩
def shpB (K : Frag) (C : Addr) (n : Nat) : Bool := match K.lookup C with
  | some ⟨.type "type", _, .cls cd, sl⟩ => (match cd.mro, sl.toList with
    | .ref C' :: bm, [_, _, _, _, some (.builtin k), _] => C' == C && k == tailN n && !cd.hasDel && cd.hasDict && refsB (tailL n) bm
    | _, _ => false)
  | _ => false
theorem shp_ok {K : Frag} {C : Addr} {n : Nat} (h : shpB K C n = true) :
    ∃ nm q N bs bm sn sub ab col dd k0 k1 k2 k3 k5 B newId initId tl, K.lookup C = some (excClassObj nm q C N bs bm true sn sub ab col dd k0 k1 k2 k3 k5 newId) ∧ TailOk B newId initId tl ∧ Refs tl bm := by
  obtain ⟨B, i, T⟩ := tail_ok n
  unfold shpB at h
  split at h
  · rename_i dd cd sl ho
    split at h
    · rename_i C' bm k0 k1 k2 k3 k k5 hm hs
      simp only [Bool.and_eq_true, beq_iff_eq, Bool.not_eq_true'] at h
      obtain ⟨⟨⟨⟨rfl, rfl⟩, hdel⟩, hdict⟩, hr⟩ := h
      obtain ⟨nm, bs, mro, ns, qn, hd, sn, sub, ab, col, del⟩ := cd
      dsimp only at hm hdel hdict
      subst hm hdel hdict
      obtain ⟨l⟩ := sl
      have hs : l = _ := hs
      subst hs
      exact ⟨nm, qn, ns, bs, bm, sn, sub, ab, col, dd, k0, k1, k2, k3, k5, B, _, i, _, ho, T, refsB_ok hr⟩
    · cases h
  · cases h
def fldB (K : Frag) (C : Addr) (n : Nat) (f : Str) : Bool := shpB K C n && (decide (findIn K (.ref C) "__setattr__" = some (some (.builtin "object.__setattr__"))) && (decide (findIn K (.ref C) f = some none) &&
  (decide (findIn K (.ref C) "__init__" = some (some (.ref (He.ma K C "__init__")))) && decide (typeIn K (.ref (He.ma K C "__init__")) = some (.type "function")))))
def excCB (K : Frag) (C : Addr) : Bool := L2.xfB K C && (decide (findIn K (.ref C) "__class__" = some (some (.builtin "object.__class__"))) && (decide (specialIn K (.builtin "object.__class__") "__get__" = some (some (.builtin "getset_descriptor.__get__"))) &&
  (decide (takesIn K (.builtin "object.__class__") = some true) && (decide (mroIn K C (.type "object") = some true) && (decide (typeIn K (.ref C) = some (.type "type")) && keepIn K (.ref C))))))
def absB (K : Frag) (x : Str) : Bool := decide (nsIn K mainGlobals x = some none)
def errB1 (K : Frag) (c : ErrD) : Bool := absB K c.name || (decide (nsIn K mainGlobals c.name = some (some (.ref (He.ga K c.name)))) && (excCB K (He.ga K c.name) && ((match c.fld with
  | none => excIn K (He.ga K c.name) (tailL c.base) (tailN c.base)
  | some f => fldB K (He.ga K c.name) c.base f) && ERR.all fun d => absB K d.name || decide (subIn K (.ref (He.ga K c.name)) (.ref (He.ga K d.name)) = some (c.anc.contains d.name)))))
def errB (K : Frag) : Bool := ERR.all (errB1 K)
open L2 in
structure ClsOk (K : Frag) (C : Addr) : Prop where
  ex : ExcC K C
  xf : XfC K C
  ty : typeIn K (.ref C) = some (.type "type")
  kp : keepIn K (.ref C) = true
/-- how errors of a class with the field f are made -/
def MkOk (K : Frag) (mg : Str → Option Value) (x f : Str) (C : Addr) : Prop :=
  (f = "index" ∧ ∃ qn fI, Fld_index.Txt K mg x qn C fI) ∨ (f = "part" ∧ ∃ qn fI, Fld_part.Txt K mg x qn C fI) ∨ (f = "value" ∧ ∃ qn fI, Fld_value.Txt K mg x qn C fI) ∨ (f = "limit" ∧ ∃ qn fI, Fld_limit.Txt K mg x qn C fI) ∨
    (f = "reached" ∧ ∃ qn fI, Fld_reached.Txt K mg x qn C fI)
/-- the text of an __init__ -/
def InitOk (K : Frag) (fI : Addr) (f : Str) : Prop := ∃ (qn : Str) (oc : Value) (od : Option Addr) (kV doc pm : Value) (an : Option Addr) (cdv ct : Value) (osl : Array (Option Value)) (ar : Arguments) (bd : List Stmt) (sc : Scope),
  K.lookup fI = some ⟨oc, od, .func (fnOf "__init__" qn ar bd sc .none kV doc pm an cdv ct), osl⟩ ∧ codeIn K cdv qn = true ∧ ∃ (p1 p2 q1 q2 q3 q4 : Pos),
    (f = "index" ∧ ar = Fld_index.iA p1 p2 ∧ bd = Fld_index.iB q1 q2 q3 q4 ∧ sc = Fld_index.iS) ∨ (f = "part" ∧ ar = Fld_part.iA p1 p2 ∧ bd = Fld_part.iB q1 q2 q3 q4 ∧ sc = Fld_part.iS) ∨
    (f = "value" ∧ ar = Fld_value.iA p1 p2 ∧ bd = Fld_value.iB q1 q2 q3 q4 ∧ sc = Fld_value.iS) ∨ (f = "limit" ∧ ar = Fld_limit.iA p1 p2 ∧ bd = Fld_limit.iB q1 q2 q3 q4 ∧ sc = Fld_limit.iS) ∨
    (f = "reached" ∧ ar = Fld_reached.iA p1 p2 ∧ bd = Fld_reached.iB q1 q2 q3 q4 ∧ sc = Fld_reached.iS)
structure ErrOk (K : Frag) (mg : Str → Option Value) : Prop where
  cls : ∀ c ∈ ERR, ∀ v, mg c.name = some v → ∃ C, v = .ref C ∧ ClsOk K C
  rel : ∀ c ∈ ERR, ∀ d ∈ ERR, ∀ C D, mg c.name = some (.ref C) → mg d.name = some (.ref D) → subIn K (.ref C) (.ref D) = some (c.anc.contains d.name)
  mk0 : ∀ c ∈ ERR, ∀ C, mg c.name = some (.ref C) → c.fld = none → ∃ B newId initId bmB, ExcBaseFacts B newId initId bmB ∧ excIn K C bmB newId = true
  mk1 : ∀ c ∈ ERR, ∀ C f, mg c.name = some (.ref C) → c.fld = some f → MkOk K mg c.name f C
  noF : ∀ c ∈ ERR, ∀ C f, mg c.name = some (.ref C) → c.fld = some f → findIn K (.ref C) f = some none
section
variable {K : Frag} {mg : Str → Option Value} {h : Heap}
theorem excC_ok {C : Addr} (e : excCB K C = true) : ClsOk K C := by
  unfold excCB at e
  simp only [Bool.and_eq_true, decide_eq_true_eq] at e
  obtain ⟨h1, h2, h3, h4, h5, h6, h7⟩ := e
  have x := L2.xfB_ok h1
  exact ⟨⟨x.ga, x.gg, x.exC, x.hdC, h2, h3, h4, h5⟩, x, h6, h7⟩
theorem errB1_at (X : K.In h) (G : h.Ns mainGlobals mg) (e : errB K = true) {c : ErrD} (hc : c ∈ ERR) {v : Value} (hm : mg c.name = some v) : v = .ref (He.ga K c.name) ∧ excCB K (He.ga K c.name) = true ∧ (match c.fld with
    | none => excIn K (He.ga K c.name) (tailL c.base) (tailN c.base)
    | some f => fldB K (He.ga K c.name) c.base f) = true ∧ (ERR.all fun d => absB K d.name || decide (subIn K (.ref (He.ga K c.name)) (.ref (He.ga K d.name)) = some (c.anc.contains d.name))) = true := by
  have e1 := List.all_eq_true.mp e c hc
  unfold errB1 at e1
  rw [Bool.or_eq_true] at e1
  rcases e1 with e1 | e1
  · have z := mg_none_of X G (of_decide_eq_true e1)
    rw [hm] at z
    cases z
  · rw [Bool.and_eq_true, Bool.and_eq_true, Bool.and_eq_true, decide_eq_true_eq] at e1
    obtain ⟨e1, e2, e3, e4⟩ := e1
    have z := mg_of X G e1
    rw [hm] at z
    exact ⟨Option.some.inj z, e2, e3, e4⟩
theorem errOk_of (X : K.In h) (G : h.Ns mainGlobals mg) (e : errB K = true) (hi : ∀ c ∈ ERR, ∀ f, c.fld = some f → mg c.name ≠ none → InitOk K (He.fAd K (c.name, some "__init__")) f) : ErrOk K mg where
  cls := fun c hc v hm => by
    obtain ⟨z, e2, _, _⟩ := errB1_at X G e hc hm
    exact ⟨_, z, excC_ok e2⟩
  rel := fun c hc d hd C D hm hn => by
    obtain ⟨z, _, _, e4⟩ := errB1_at X G e hc hm
    obtain ⟨z2, _, _, _⟩ := errB1_at X G e hd hn
    cases z
    cases z2
    have q := List.all_eq_true.mp e4 d hd
    rw [Bool.or_eq_true] at q
    rcases q with q | q
    · have z := mg_none_of X G (of_decide_eq_true q)
      rw [hn] at z
      cases z
    · exact of_decide_eq_true q
  mk0 := fun c hc C hm hf => by
    obtain ⟨z, _, e3, _⟩ := errB1_at X G e hc hm
    cases z
    rw [hf] at e3
    obtain ⟨B, i, T⟩ := tail_ok c.base
    exact ⟨B, _, i, _, T.F, e3⟩
  noF := fun c hc C f hm hf => by
    obtain ⟨z, _, e3, _⟩ := errB1_at X G e hc hm
    cases z
    rw [hf] at e3
    have e3 : fldB K (He.ga K c.name) c.base f = true := e3
    unfold fldB at e3
    simp only [Bool.and_eq_true, decide_eq_true_eq] at e3
    exact e3.2.2.1
  mk1 := fun c hc C f hm hf => by
    obtain ⟨z, e2, e3, _⟩ := errB1_at X G e hc hm
    cases z
    rw [hf] at e3
    have e3 : fldB K (He.ga K c.name) c.base f = true := e3
    unfold fldB at e3
    simp only [Bool.and_eq_true, decide_eq_true_eq] at e3
    obtain ⟨f1, f2, f3, f4, f5⟩ := e3
    have k := excC_ok e2
    obtain ⟨qn, oc, od, kV, doc, pm, an, cdv, ct, osl, ar, bd, sc, lk, hcd, p1, p2, q1, q2, q3, q4, hh⟩ := hi c hc f hf (by rw [hm]; simp)
    have lk : K.lookup (He.ma K (He.ga K c.name) "__init__") = _ := lk
    have sh := shp_ok f1
    rcases hh with ⟨rfl, rfl, rfl, rfl⟩ | ⟨rfl, rfl, rfl, rfl⟩ | ⟨rfl, rfl, rfl, rfl⟩ | ⟨rfl, rfl, rfl, rfl⟩ | ⟨rfl, rfl, rfl, rfl⟩
    · exact .inl ⟨rfl, qn, _, ⟨hm, sh, f2, k.xf.ga, k.xf.gg, f3, f4, f5, k.kp, k.xf.exC, k.ty, k.xf.hdC, oc, od, kV, doc, pm, an, cdv, ct, osl, p1, p2, q1, q2, q3, q4, lk, hcd⟩⟩
    · exact .inr (.inl ⟨rfl, qn, _, ⟨hm, sh, f2, k.xf.ga, k.xf.gg, f3, f4, f5, k.kp, k.xf.exC, k.ty, k.xf.hdC, oc, od, kV, doc, pm, an, cdv, ct, osl, p1, p2, q1, q2, q3, q4, lk, hcd⟩⟩)
    · exact .inr (.inr (.inl ⟨rfl, qn, _, ⟨hm, sh, f2, k.xf.ga, k.xf.gg, f3, f4, f5, k.kp, k.xf.exC, k.ty, k.xf.hdC, oc, od, kV, doc, pm, an, cdv, ct, osl, p1, p2, q1, q2, q3, q4, lk, hcd⟩⟩))
    · exact .inr (.inr (.inr (.inl ⟨rfl, qn, _, ⟨hm, sh, f2, k.xf.ga, k.xf.gg, f3, f4, f5, k.kp, k.xf.exC, k.ty, k.xf.hdC, oc, od, kV, doc, pm, an, cdv, ct, osl, p1, p2, q1, q2, q3, q4, lk, hcd⟩⟩)))
    · exact .inr (.inr (.inr (.inr ⟨rfl, qn, _, ⟨hm, sh, f2, k.xf.ga, k.xf.gg, f3, f4, f5, k.kp, k.xf.exC, k.ty, k.xf.hdC, oc, od, kV, doc, pm, an, cdv, ct, osl, p1, p2, q1, q2, q3, q4, lk, hcd⟩⟩)))
end
open L2
/-- does a class lie under another -/
def under (x y : Str) : Option Bool := match errOf x, errOf y with
  | some c, some d => some (c.anc.contains d.name)
  | _, _ => none
theorem under_ok {x y : Str} {b : Bool} (h : under x y = some b) : ∃ c d, c ∈ ERR ∧ d ∈ ERR ∧ c.name = x ∧ d.name = y ∧ b = c.anc.contains d.name := by
  unfold under at h
  split at h
  · rename_i c d h1 h2
    cases h
    obtain ⟨m1, e1⟩ := errOf_mem h1
    obtain ⟨m2, e2⟩ := errOf_mem h2
    exact ⟨c, d, m1, m2, e1, e2, rfl⟩
  · cases h
def T.excN : T → Option Str
  | .exc c => some c
  | .exc1 c _ _ => some c
  | _ => none
/-- does a clause that names these classes take it -/
def mtE : List Str → T → Option Bool
  | [], _ => some false
  | n :: ns, x => match x.excN with
    | some m => (match under m n, mtE ns x with
      | some b, some d => some (b || d)
      | _, _ => none)
    | none => none
section
variable {X : Cx} {Ew : WX} {K : Frag} {mg : Str → Option Value}
theorem rx_cls {F : Hp} : ∀ {x : T} {cls : Value} {d : Option Addr} {m : Str}, RX K mg F x cls d → x.excN = some m → ∃ C, cls = .ref C ∧ mg m = some (.ref C)
  | .exc c, cls, d, m, ⟨C, e1, e2, e3⟩, e => by
    cases e
    exact ⟨C, e1, e2⟩
  | .exc1 c f x, cls, d, m, ⟨C, dd, y, e1, e2, e3, e4, e5⟩, e => by
    cases e
    exact ⟨C, e1, e2⟩
  | .non, _, _, _, h, _ => h.elim
  | .bl _, _, _, _, h, _ => h.elim
  | .int _, _, _, _, h, _ => h.elim
  | .str _, _, _, _, h, _ => h.elim
  | .ty _, _, _, _, h, _ => h.elim
  | .glb _, _, _, _, h, _ => h.elim
  | .tup _, _, _, _, h, _ => h.elim
  | .lst _, _, _, _, h, _ => h.elim
  | .emp, _, _, _, h, _ => h.elim
  | .scr _, _, _, _, h, _ => h.elim
theorem err_exm (er : ErrOk K mg) {m n : Str} {b : Bool} {C D : Addr} (h : under m n = some b) (hm : mg m = some (.ref C)) (hn : mg n = some (.ref D)) : exmOne K (.ref C) (.ref D) = some b := by
  obtain ⟨c, d, hc, hd, rfl, rfl, rfl⟩ := under_ok h
  obtain ⟨D', e, k⟩ := er.cls d hd _ hn
  cases e
  exact exm_ref k.xf.exC k.xf.hdC k.ty (er.rel c hc d hd C D hm hn)
theorem err_kit (er : ErrOk K mg) {m n : Str} {b : Bool} {C D : Addr} (h : under m n = some b) (hm : mg m = some (.ref C)) (hn : mg n = some (.ref D)) : kitOne K (.ref C) (.ref D) = some b := by
  have q := err_exm er h hm hn
  unfold exmOne at q
  split at q
  · unfold kitOne
    split
    · rename_i e
      have e := beq_iff_eq.mp e
      cases e
      obtain ⟨c, d, hc, hd, rfl, rfl, rfl⟩ := under_ok h
      have z := er.rel c hc d hd C C hm hn
      obtain ⟨C', e', k⟩ := er.cls c hc _ hm
      cases e'
      obtain ⟨cd, hcd, _⟩ := any_some k.xf.hdC
      have s := er.rel c hc c hc C C hm hm
      rw [z] at s
      have own : c.anc.contains c.name = true := by
        have all : (ERR.all fun c => c.anc.contains c.name) = true := by decide +kernel
        exact List.all_eq_true.mp all c hc
      rw [own] at s
      exact s.symm
    · exact q
  · cases q
/-- the classes of a clause -/
def ClsNames (mg : Str → Option Value) : List Str → List Value → Prop
  | [], cs => cs = []
  | n :: ns, cs => ∃ D r, cs = .ref D :: r ∧ mg n = some (.ref D) ∧ ClsNames mg ns r
theorem mt_ok (er : ErrOk K mg) {F : Hp} {x : T} {cls : Value} {d : Option Addr} (rx : RX K mg F x cls d) : ∀ {ns : List Str} {cs : List Value} {b : Bool}, ClsNames mg ns cs → mtE ns x = some b → exmAny K cls cs = some b
  | [], cs, b, h, e => by
    cases e
    rw [show cs = [] from h]
    rfl
  | n :: ns, cs, b, ⟨D, r, e1, e2, e3⟩, e => by
    subst e1
    unfold mtE at e
    split at e
    · rename_i m hx
      split at e
      · rename_i b1 d1 h1 h2
        cases e
        obtain ⟨C, rfl, hm⟩ := rx_cls rx hx
        unfold exmAny
        rw [err_exm er h1 hm e2, mt_ok er rx e3 h2]
      · cases e
    · cases e
/-- isinstance of a kept error: a class, or a tuple of classes -/
def oIsx : T → T → (T → Prop) → Prop := fun a c k => match c with
  | .glb n => okB (mtE [n] a) k
  | .tup [.glb n, .glb n'] => okB (mtE [n, n'] a) k
  | _ => False
theorem isx_at {F H : Hp} {a : T} {v : V} {m : Str} (sm : Same F H) (r : RV K mg F H a v) (e : a.excN = some m) : ∃ p D d, v = .ref p ∧ mg m = some (.ref D) ∧ H p = some (exH p (.ref D) d) ∧ ∀ q, d = some q → ∃ fs, H q = some (.xd fs) := by
  cases a with
  | exc c =>
    cases e
    obtain ⟨p, D, rfl, hm, q⟩ : RT K mg F (.exc _) v := r
    exact ⟨p, D, none, rfl, hm, sm _ _ q, fun _ e => by cases e⟩
  | exc1 c f x =>
    cases e
    obtain ⟨p, D, d, y, rfl, hm, q, q2, -⟩ : RT K mg F (.exc1 _ _ _) v := r
    exact ⟨p, D, some d, rfl, hm, sm _ _ q, fun _ e => by cases e; exact ⟨_, sm _ _ q2⟩⟩
  | _ => cases e
theorem mt1 {a : T} {n : Str} {b : Bool} (e : mtE [n] a = some b) : ∃ m, a.excN = some m ∧ under m n = some b := by
  unfold mtE at e
  split at e
  · rename_i m hm
    split at e
    · rename_i b1 d1 h1 h2
      cases h2
      cases e
      exact ⟨m, hm, by rw [h1, Bool.or_false]⟩
    · cases e
  · cases e
theorem kit_any (er : ErrOk K mg) {D : Addr} {m : Str} {a : T} (ha : a.excN = some m) (hm : mg m = some (.ref D)) : ∀ {ns : List Str} {cs : List Value} {b : Bool}, ClsNames mg ns cs → mtE ns a = some b → kitAny K (.ref D) cs = some b
  | [], cs, b, h, e => by
    cases e
    rw [show cs = [] from h]
    rfl
  | n :: ns, cs, b, ⟨E, r, e1, e2, e3⟩, e => by
    subst e1
    unfold mtE at e
    rw [ha] at e
    dsimp only at e
    split at e
    · rename_i b1 d1 h1 h2
      cases e
      have k1 := err_kit er h1 hm e2
      have k2 := kit_any er ha hm e3 h2
      unfold kitAny
      rw [k1]
      cases b1 with
      | true => rfl
      | false => exact k2
    · cases e
theorem under_cls (er : ErrOk K mg) {m n : Str} {b : Bool} {D : Addr} (h : under m n = some b) (hm : mg m = some (.ref D)) : ClsOk K D := by
  obtain ⟨c, d, hc, _, rfl, _, _⟩ := under_ok h
  obtain ⟨D', e, k⟩ := er.cls c hc _ hm
  cases e
  exact k
theorem rt_glb {F : Hp} {n : Str} {v : V} : RT K mg F (.glb n) v ↔ ∃ a, v = .ref a ∧ mg n = some (.ref a) := by rw [RT]
theorem mt_hd {a : T} {n : Str} {ns : List Str} {b : Bool} (e : mtE (n :: ns) a = some b) : ∃ m b1, a.excN = some m ∧ under m n = some b1 := by
  unfold mtE at e
  split at e
  · rename_i m hm
    split at e
    · rename_i b1 d1 h1 h2
      exact ⟨m, b1, hm, h1⟩
    · cases e
  · cases e
theorem call_isx (er : ErrOk X.K X.mg) : CallT X (.builtin "isinstance") (g2 oIsx) :=
  callT_of2 fun pins s σ H x y us Q F a c R I r sm r1 r2 ho post => by
    unfold oIsx at ho
    cases r with
    | cons rx rr =>
      cases rr with
      | cons ry rr =>
        cases rr
        split at ho
        · rename_i n
          obtain ⟨b, e, hR⟩ := okB_of ho
          obtain ⟨m, b1, hm, hu⟩ := mt_hd e
          obtain ⟨p, D, d, rfl, gm, q, hd⟩ := isx_at sm r1 hm
          have r2 : RT X.K X.mg F (.glb n) y := r2
          obtain ⟨C, rfl, gn⟩ := rt_glb.mp r2
          cases rx
          cases ry
          have k1 := kit_any er hm gm (show ClsNames X.mg [n] [.ref C] from ⟨C, [], rfl, gn, rfl⟩) e
          have k2 : kitOne X.K (.ref D) (.ref C) = some b := by
            unfold kitAny at k1
            split at k1
            · rename_i z; cases k1; exact z
            · rename_i z; cases k1; exact z
            · cases k1
          exact kia_one (kitx_exc (under_cls er hu gm).ex) I.kIn (inst_at I q hd) k2 (fun z => nomatch z) fun tk => ⟨.bl b, H, I.kept (t' := tk) fun _ _ z => z, rfl, flat_post sm post hR (rt_bl.mpr rfl)⟩
        · rename_i n n'
          obtain ⟨b, e, hR⟩ := okB_of ho
          obtain ⟨m, b1, hm, hu⟩ := mt_hd e
          obtain ⟨p, D, d, rfl, gm, q, hd⟩ := isx_at sm r1 hm
          have r2 : RT X.K X.mg F (.tup [.glb n, .glb n']) y := r2
          rw [rt_tup] at r2
          obtain ⟨t, vs, rfl, hs, rv⟩ := r2
          obtain ⟨v1, w1, rfl, q1, rv⟩ := rts_cons.mp rv
          obtain ⟨v2, w2, rfl, q2, rv⟩ := rts_cons.mp rv
          have rv := rts_nil.mp rv
          subst rv
          obtain ⟨C, rfl, gn⟩ := rt_glb.mp q1
          obtain ⟨C', rfl, gn'⟩ := rt_glb.mp q2
          obtain ⟨its, ri, ip, _⟩ := I.tuple (Same.seqT sm hs)
          obtain ⟨⟨oc, od, dt, osl⟩, hget, hcls, k, hdat⟩ := ip
          dsimp only at hcls hdat
          subst hcls hdat
          cases rx
          cases ry
          have ei : its = [.ref C, .ref C'] := by
            cases ri with
            | cons a1 ri =>
              cases ri with
              | cons a2 ri =>
                cases ri
                cases a1
                cases a2
                rfl
          subst ei
          have k1 := kit_any er hm gm (show ClsNames X.mg [n, n'] [.ref C, .ref C'] from ⟨C, _, rfl, gn, C', [], rfl, gn', rfl⟩) e
          exact kia_tup (kitx_exc (under_cls er hu gm).ex) I.kIn (inst_at I q hd) hget k1 (fun z => nomatch z) fun tk => ⟨.bl b, H, I.kept (t' := tk) fun _ _ z => z, rfl, flat_post sm post hR (rt_bl.mpr rfl)⟩
        · exact ho.elim
theorem SS.raise0E {x m : Str} {C : Addr} {j : Nat} {p p2 pos pos2 : Pos} (hc : X.calm = true) (tk : Takes X Ew.w) (er : ErrOk X.K X.mg) (hx : ∃ c, errOf x = some c ∧ c.fld = none) (gC : X.mg x = some (.ref C)) (hg : Gl X x) (hdb : (x == ("__debug__" : Str)) = false) :
    SS X Ew (.Raise (some (.Call (.Name x p) [.Constant (.str m) j p2] [] pos)) none pos2) (wRaise0 x) := by
  obtain ⟨c, e1, e2⟩ := hx
  obtain ⟨m1, rfl⟩ := errOf_mem e1
  obtain ⟨D, e, k⟩ := er.cls c m1 _ gC
  cases e
  obtain ⟨B, newId, initId, bmB, F, q⟩ := er.mk0 c m1 C gC e2
  exact SS.raise0 hc tk F q gC k.kp (raises_own k.xf.exC k.ty) hg hdb
theorem SS.raise1E {x f : Str} {C : Addr} {a : Expr} {we : WE} {p pos pos2 : Pos} {k : Nat} (hc : X.calm = true) (tk : Takes X Ew.w) (er : ErrOk X.K X.mg) (hx : ∃ c, errOf x = some c ∧ c.fld = some f) (gC : X.mg x = some (.ref C)) (hr : Room k X.A) (ha : SE X Ew a we) (hg : Gl X x)
    (hdb : (x == ("__debug__" : Str)) = false) (he : starEach (a :: []) X.env = (false, eval a X.env) :: starEach [] X.env) : SS X Ew (.Raise (some (.Call (.Name x p) [a] [] pos)) none pos2) (wRaise1 x f we) := by
  obtain ⟨c, e1, e2⟩ := hx
  obtain ⟨m1, rfl⟩ := errOf_mem e1
  rcases er.mk1 c m1 C f gC e2 with ⟨rfl, qn, fI, T⟩ | ⟨rfl, qn, fI, T⟩ | ⟨rfl, qn, fI, T⟩ | ⟨rfl, qn, fI, T⟩ | ⟨rfl, qn, fI, T⟩
  · exact Fld_index.raise1 hc T hr tk ha hg hdb he
  · exact Fld_part.raise1 hc T hr tk ha hg hdb he
  · exact Fld_value.raise1 hc T hr tk ha hg hdb he
  · exact Fld_limit.raise1 hc T hr tk ha hg hdb he
  · exact Fld_reached.raise1 hc T hr tk ha hg hdb he
/-- does a class bear this field -/
def bears (f x : Str) : Bool := match errOf x with
  | some c => decide (c.fld = some f)
  | none => false
theorem SE.fldE {e : Expr} {we : WE} {pos : Pos} {f : Str} (er : ErrOk X.K X.mg) (he : SE X Ew e we) (hb : attributeBase e f X.env (eval e X.env) = eval e X.env) : SE X Ew (.Attribute e f pos) (wFld (bears f) f we) :=
  SE.fld he hb fun x C hx gC => by
    unfold bears at hx
    split at hx
    · rename_i c e1
      obtain ⟨m1, rfl⟩ := errOf_mem e1
      obtain ⟨D, e, k⟩ := er.cls c m1 _ gC
      cases e
      exact ⟨k.xf, er.noF c m1 C f gC (of_decide_eq_true hx)⟩
    · cases hx
end
end Tw
set_option Elab.async false
set_option linter.all false
set_option maxRecDepth 100000
set_option maxHeartbeats 2000000
namespace Tw
open PySem PySem.Spec PySem.W PyProof.Rows L2
/-- what is known where a thunk is called: its reading told of the objects as they stand then -/
def spT (K : Frag) (mg : Str → Option Value) (μ1 : List Addr) (F1 : Hp) (th : FS) (H : Hp) (Q : VK) (E : XK) : Prop := ∃ (μ : List Addr) (F : Hp) (S : Sto) (EX : T → Sto → Prop) (R : KW), Ext μ1 F1 μ F ∧ Rel K mg μ F [] H [] S ∧ th [] S EX R ∧
  (∀ z S' μ' F' v H', R z S' → Ext μ F μ' F' → Rel K mg μ' F' [] H' [] S' → RW K mg μ' F' z v → Q v H') ∧
  ∀ x S' μ' F' cls d H', EX x S' → Ext μ F μ' F' → Rel K mg μ' F' [] H' [] S' → RX K mg F' x cls d → E cls d H'
/-- a thunk at f, made when the state was s, H -/
structure ThOk (P : Program) (w : World) (K : Frag) (mg : Str → Option Value) (base : Heap) (kk : Nat) (outer : List PySem.Env) (s : Shared) (H : Hp) (f : Addr) (μ1 : List Addr) (F1 : Hp) (th : FS) : Prop where
  fn : ∀ (s2 : Shared) (H2 : Hp), Un (frs outer) [] H H2 s.heap s2.heap → FnAt f s2.heap
  run : ∀ (A : Around) (env2 : PySem.Env) (s2 : Shared) (H2 : Hp) (Q : VK) (E : XK), Room kk A → A.guards = some [] → Env0 P w K mg base A (env2 :: outer) s2 H2 → Un (frs outer) [] H H2 s.heap s2.heap → spT K mg μ1 F1 th H2 Q E →
    codeAny (model P w) A (.call (.ref f) ⟨[], []⟩) (CR (L2.CX P w) (env2 :: outer) P w H2 s2 Q E) s2
/-- the same with weaker ends -/
def clT (th : FS) : FS := fun ws S EX R => ∃ (E : T → Sto → Prop) (R' : KW), th ws S E R' ∧ (∀ x S', E x S' → EX x S') ∧ ∀ z S', R' z S' → R z S'
theorem clT.of {th : FS} {ws : List W} {S : Sto} {EX : T → Sto → Prop} {R : KW} (h : th ws S EX R) : clT th ws S EX R := ⟨EX, R, h, fun _ _ h => h, fun _ _ h => h⟩
theorem clT.mono {th : FS} {ws : List W} {S : Sto} {EX EX' : T → Sto → Prop} {R R' : KW} (h : clT th ws S EX R) (hE : ∀ x S', EX x S' → EX' x S') (hR : ∀ z S', R z S' → R' z S') : clT th ws S EX' R' := by
  obtain ⟨E, Q, h1, h2, h3⟩ := h
  exact ⟨E, Q, h1, fun x S' q => hE x S' (h2 x S' q), fun z S' q => hR z S' (h3 z S' q)⟩
theorem ThOk.cl {P : Program} {w : World} {K : Frag} {mg : Str → Option Value} {base : Heap} {kk : Nat} {outer : List PySem.Env} {s : Shared} {H : Hp} {f : Addr} {μ1 : List Addr} {F1 : Hp} {th : FS} (T : ThOk P w K mg base kk outer s H f μ1 F1 th) :
    ThOk P w K mg base kk outer s H f μ1 F1 (clT th) := ⟨T.fn, fun A env2 s2 H2 Q E hr hG e0 un h => T.run A env2 s2 H2 Q E hr hG e0 un (by
  obtain ⟨μ, F, S, EX, R, x, rel, ⟨E', R', h1, h2, h3⟩, post, px⟩ := h
  exact ⟨μ, F, S, E', R', x, rel, h1, fun z S' μ' F' v H' q => post z S' μ' F' v H' (h3 z S' q), fun x S' μ' F' cls d H' q => px x S' μ' F' cls d H' (h2 x S' q)⟩)⟩
/-- what is promised of a def that takes a thunk -/
def FnT (P : Program) (w : World) (K : Frag) (mg : Str → Option Value) (base : Heap) (k : Nat) (g : Addr) (gl : FS → FS) : Prop :=
  ∀ (A : Around) (outer : List PySem.Env) (s : Shared) (H : Hp) (f : Addr) (kk : Nat) (μ : List Addr) (F : Hp) (S : Sto) (EX : T → Sto → Prop) (R : KW) (j : Nat) (th : FS) (Q : VK) (E : XK), Room k A → Room (kk + 1) A → A.guards = some [] → Env0 P w K mg base A outer s H →
    ThOk P w K mg base kk outer s H f μ F th → Rel K mg μ F [] H [] S → μ[j]? = some f → gl th [.ref j] S EX R →
    (∀ z S' μ' F' v H', R z S' → Ext μ F μ' F' → Rel K mg μ' F' [] H' [] S' → RW K mg μ' F' z v → Q v H') →
    (∀ x S' μ' F' cls d H', EX x S' → Ext μ F μ' F' → Rel K mg μ' F' [] H' [] S' → RX K mg F' x cls d → E cls d H') →
    codeAny (model P w) A (.call (.ref g) ⟨[.ref f], []⟩) (CR (L2.CX P w) outer P w H s Q E) s
theorem FnT.mono {P : Program} {w : World} {K : Frag} {mg : Str → Option Value} {base : Heap} {j k : Nat} {g : Addr} {gl : FS → FS} (F : FnT P w K mg base j g gl) (h : j ≤ k) : FnT P w K mg base k g gl :=
  fun A outer s H f kk μ F' S EX R i th Q E hr => F A outer s H f kk μ F' S EX R i th Q E (hr.mono h)
/-- x(), x in slot i the thunk that is the j-th object -/
def wAct (i j : Nat) (th : FS) : WE := fun env S E R => gE env i = some (.ref j) ∧ th [] S (fun x S' => E x env S') R
/-- the thunk may be called -/
def ActOk (X : Cx) (Ew : WX) (j : Nat) (th : FS) : Prop := ∀ (i : Nat) (x : Str) (p1 p2 : Pos), X.N[i]? = some x → Vis X.env.scope x → (x == ("__debug__" : Str)) = false → (x == ("__classdict__" : Str)) = false → SE X Ew (.Call (.Name x p1) [] [] p2) (wAct i j th)
/-- g(lambda: b) -/
def wCallL (gl : FS → FS) (wb : WE) : WE := fun env S E R => gl (fun _ S' EX R' => wb env S' (fun x _ S2 => EX x S2) R') [.ref S.length] (S ++ [.dead]) (fun x S' => E x env (S'.take S.length)) fun z S' => ∃ t, z = .t t ∧ R (.t t) (S'.take S.length)
section
variable {K : Frag} {mg : Str → Option Value} {μ μ' : List Addr} {F F' H H' : Hp} {σ : L2.St} {env : Env} {S S' : Sto}
theorem Rel.dead (R : Rel K mg μ F σ H env S) (p : Addr) : Rel K mg (μ ++ [p]) F σ H env (S ++ [.dead]) := by
  have get : ∀ {i : Nat} {a : Addr} {n : MO}, (μ ++ [p])[i]? = some a → (S ++ [.dead])[i]? = some n → (μ[i]? = some a ∧ S[i]? = some n) ∨ n = .dead := fun {i a n} h1 h2 => by
    have hl := R.len
    by_cases hi : i < μ.length
    · rw [List.getElem?_append_left hi] at h1
      rw [List.getElem?_append_left (by omega)] at h2
      exact .inl ⟨h1, h2⟩
    · have e : i = μ.length := by
        have := (List.getElem?_eq_some_iff.mp h1).1
        rw [List.length_append, List.length_singleton] at this
        omega
      subst e
      rw [List.getElem?_append_right (by omega), show μ.length - S.length = 0 by omega] at h2
      exact .inr (by simpa using h2.symm)
  refine ⟨by rw [List.length_append, List.length_append, R.len]; rfl, R.sub, fun i a n h1 h2 h3 => ?_, fun i j a n n' h1 h1' h2 h2' h3 h3' => ?_, fun i a n h1 h2 => ?_, R.elen, fun i w h => ?_, R.tab, R.ft⟩
  · rcases get h1 h2 with ⟨q1, q2⟩ | rfl
    · exact R.off i a n q1 q2 h3
    · cases h3
  · rcases get h1 h2 with ⟨q1, q2⟩ | rfl
    · rcases get h1' h2' with ⟨q1', q2'⟩ | rfl
      · exact R.inj i j a n n' q1 q1' q2 q2' h3 h3'
      · cases h3'
    · cases h3
  · rcases get h1 h2 with ⟨q1, q2⟩ | rfl
    · exact R.sto i a n q1 q2
    · trivial
  · obtain ⟨v, e, r⟩ := R.env i w h
    exact ⟨v, e, r.ext Ext.push⟩
open Classical in
/-- code objects that the tables gained are known for ever -/
noncomputable def codesF (F H : Hp) : Hp := fun b => if ∃ q, H b = some (LamX.CodeO b q) then H b else F b
theorem codeO_ne_tbl {c : Addr} {q : Str} (ps : Array Value) : LamX.CodeO c q ≠ .tbl ps := LamX.codeO_ne ps
theorem Rel.tables (R : Rel K mg μ F σ H env S) (e : LamX.ExtN H H') (t : LamX.Tabs (tabsOf K) H') : Rel K mg μ (codesF F H') σ H' env S ∧ Same F (codesF F H') := by
  have pos : ∀ {b q}, H' b = some (LamX.CodeO b q) → codesF F H' b = H' b := fun {b q} h => if_pos ⟨q, h⟩
  have low : ∀ {b o}, F b = some o → H' b = some o := fun {b o} h => e b o (R.sub _ _ h) fun ps z => R.ft b ps (by rw [h, z])
  have sm : Same F (codesF F H') := fun b o h => by
    by_cases c : ∃ q, H' b = some (LamX.CodeO b q)
    · exact (if_pos c).trans (low h)
    · exact (if_neg c).trans h
  have sub : Same (codesF F H') H' := fun b o h => by
    by_cases c : ∃ q, H' b = some (LamX.CodeO b q)
    · exact (if_pos c).symm.trans h
    · exact low ((if_neg c).symm.trans h)
  have none_of : ∀ {b}, F b = none → (∀ q, H' b ≠ some (LamX.CodeO b q)) → codesF F H' b = none := fun {b} h n => (if_neg fun ⟨q, z⟩ => n q z).trans h
  have liveK : ∀ {a m}, MOk K mg F H a m → m.live = true → MOk K mg (codesF F H') H' a m ∧ ∀ q, H' a ≠ some (LamX.CodeO a q) := fun {a m} k l => by
    cases m with
    | dead => cases l
    | lst xs =>
      obtain ⟨vs, h, r⟩ := k
      have h' := e _ _ h fun ps z => by cases z
      exact ⟨⟨vs, h', RTs.mono sm _ _ r⟩, fun q z => by rw [h'] at z; unfold LamX.CodeO at z; cases z⟩
    | dK xs =>
      obtain ⟨vs, h, q, r⟩ := k
      have h' := e _ _ h fun ps z => by cases z
      exact ⟨⟨vs, h', q, RTs.mono sm _ _ r⟩, fun q z => by rw [h'] at z; unfold LamX.CodeO at z; cases z⟩
    | dT xs =>
      obtain ⟨vs, h, q, r⟩ := k
      have h' := e _ _ h fun ps z => by cases z
      exact ⟨⟨vs, h', q, RTs.mono sm _ _ r⟩, fun q z => by rw [h'] at z; unfold LamX.CodeO at z; cases z⟩
  refine ⟨⟨R.len, sub, fun i a m h1 h2 h3 => none_of (R.off i a m h1 h2 h3) (liveK (R.sto i a m h1 h2) h3).2, R.inj, fun i a m h1 h2 => ?_, R.elen, fun i w h => ?_, fun p hp => ?_, fun b ps z => ?_⟩, sm⟩
  · by_cases l : m.live = true
    · exact (liveK (R.sto i a m h1 h2) l).1
    · cases m with
      | dead => trivial
      | _ => exact absurd rfl l
  · obtain ⟨v, e, r⟩ := R.env i w h
    exact ⟨v, e, r.ext ⟨fun _ _ h => h, sm⟩⟩
  · obtain ⟨ps, h1, h2, h3⟩ := t p hp
    refine ⟨none_of (R.tab p hp).1 fun q z => ?_, ps, h1, h2, fun pos' cv hc => ?_⟩
    · rw [h1] at z
      exact codeO_ne_tbl _ (Option.some.inj z).symm
    · obtain ⟨c, e1, e2⟩ := h3 pos' cv hc
      exact ⟨c, e1, (pos e2).trans e2⟩
  · by_cases c : ∃ q, H' b = some (LamX.CodeO b q)
    · obtain ⟨q, hq⟩ := c
      rw [pos hq, hq] at z
      exact codeO_ne_tbl _ (Option.some.inj z)
    · exact R.ft b ps ((if_neg c).symm.trans z)
end
section
variable {P : Program} {w : World} {K : Frag} {mg : Str → Option Value} {base : Heap}
/-- the thunk in the def that got it -/
theorem act_ok {X : Cx} {W : L2.WX} {kk : Nat} {s : Shared} {H : Hp} {f : Addr} {μ : List Addr} {F : Hp} {j : Nat} {th : FS} (hs : X.stack = X.env :: X.outer) (hH : X.H_0 = H) (hx : X.ex = []) (h0 : X.s_0 = s) (tk : Takes X W) (hr : Room kk X.A) (hG : X.A.guards = some [])
    (T : ThOk X.prog X.w X.K X.mg X.base kk X.outer s H f μ F th) (hj : μ[j]? = some f) : ActOk X ⟨W, fun μ' F' => Ext μ F μ' F', fun _ _ _ _ x h => h.trans x⟩ j th := by
  intro i x p1 p2 hN hv hd hcd
  refine ⟨fun pins s' σ H' Q I h => ?_⟩
  obtain ⟨μ', F', env, S, E, R, rel, ⟨hg, hw⟩, xo, post⟩ := h
  have lk : Ext μ F μ' F' := xo.lk
  obtain ⟨v, e1, a, ha, ev⟩ := rel.env i _ (gE_iff hg)
  have ea : a = f := Option.some.inj (ha.symm.trans (lk.pre j f hj))
  subst ev ea
  refine wpAny_Call_Name_kw (thn ((pe_var (pos := p1) hN hv hd hcd).run pins s' σ H' (fun v H1 => v = .ref a ∧ H1 = H') I ⟨.ref a, e1, rfl, rfl⟩) fun u s1 ⟨v, H1, I1, r1, q1, q2⟩ => ?_)
  subst q1
  rw [q2] at I1
  obtain rfl : u = Value.ref a := r1
  have un : Un (frs X.outer) [] H H' s.heap s1.heap := by
    have z := I1.base
    rw [hH, hx, h0] at z
    exact z
  refine callWith_F0 (T.fn s1 H' un) (wpAny_call ?_)
  have e0 := I1.env0
  rw [hs] at e0
  have rc := T.run X.A X.env s1 H' Q (fun c d H => W c d σ H) hr hG e0 un ⟨μ', F', S, _, R, lk, rel.bare, hw, fun z S2 μ2 F2 v2 H2 hz x2 r2 q2 => post z S2 μ2 F2 v2 H2 hz x2 (rel.back x2 r2) q2,
    fun t S2 μ2 F2 cls d H2 hE x2 r2 q2 => xo.go t env S2 μ2 F2 cls d σ H2 hE x2 (rel.back x2 r2) q2⟩
  rw [← hs] at rc
  refine codeAny_mono rc fun r s2 hq => ?_
  cases r with
  | error e => exact passAt tk σ pins H' s1 e s2 I1 hq
  | ok fl =>
    cases fl with
    | ret u => exact I1.after hq
    | next => exact False.elim hq
    | brk => exact False.elim hq
    | cont => exact False.elim hq
end
/-- lambdas can be made here -/
def LamMk (X : Cx) : Prop := ∃ c Pt, X.env.code = .ref c ∧ LamX.TabB X.base X.mg c Pt ∧ (Pt, X.env.qual ++ "<lambda>") ∈ tabsOf X.K ∧ ∀ p ∈ tabsOf X.K, p.1 = Pt → p.2 = X.env.qual ++ "<lambda>"
section
variable {X : Cx} {Ew : WX}
theorem SE.callL {x : Str} {g : Addr} {k kk : Nat} {gl : FS → FS} {params : Arguments} {body : Expr} {scope : Scope} {wb : WE} {p lpos pos : Pos} (FT : FnT X.prog X.w X.K X.mg X.base k g gl) (hr : Room k X.A) (hrk : Room (kk + 1) X.A) (hG : X.A.guards = some []) (hg : Gl X x) (hm : X.mg x = some (.ref g))
    (hk : keepIn X.K (.ref g) = true) (tk : Takes X Ew.w) (M : LamMk X) (L : LamX.LamS X.env.scope scope) (hdef : defaultsOf params X.env = ([], []))
    (hbind : ∀ (q : Str) (cl : List (Str × Addr)) (pm cv ctv : Value), bindArgs (kla_fn "<lambda>" q params body scope cl pm cv ctv) ⟨[], []⟩ = pure [])
    (hbody : ∀ (A : Around) (outer : List PySem.Env) (s : Shared) (H : Hp) (E : XK) (f c' : Addr), Room kk A → A.guards = some [] → SE (LamX.lamCx X A outer s H E scope f c') { w := fun cls d _ H => E cls d H } body wb)
    (hdb : (x == ("__debug__" : Str)) = false) : SE X Ew (.Call (.Name x p) [.Lambda params body scope lpos] [] pos) (wCallL gl wb) := by
  refine ⟨fun pins s σ H Q I h => ?_⟩
  obtain ⟨μ, F, env, S, E, R, rel, hw, xo, post⟩ := h
  obtain ⟨c, Pt, hcode, TB, hmT, hu⟩ := M
  have tabs : LamX.Tabs (tabsOf X.K) H := fun p hp => by
    obtain ⟨_, ps, h1, h2, h3⟩ := rel.tab p hp
    exact ⟨ps, h1, h2, fun pos cv hc => by
      obtain ⟨c, e1, e2⟩ := h3 pos cv hc
      exact ⟨c, e1, rel.sub _ _ e2⟩⟩
  refine wpAny_Call_Name_kw (ld_glob I hg hm ?_ hdb)
  refine callWith_K (h₀ := X.base) I.ok.mod.kin hk ?_ (by rfl) (by rfl)
  show wpAny (model X.prog X.w) X.A (PySem.spliced ((false, eval (.Lambda params body scope lpos) X.env) :: backTo pos (starEach [] X.env))) _ _ s
  refine Calls.spliced_cons (LamX.lam_make2 I TB hcode hmT hu tabs hdef (L.has I.ok) fun f c' pm ctv H1 s' J eN T1 hf hfn hfr hco => ?_)
  refine Calls.spliced_nil ⟨J.kIn, ?_⟩
  obtain ⟨rel1, sm⟩ := rel.tables eN T1
  have rel2 := rel1.dead f
  have hcF : codesF F H1 c' = some (LamX.CodeO c' (X.env.qual ++ "<lambda>")) := (if_pos ⟨_, hco⟩).trans hco
  have x1 : Ext μ F (μ ++ [f]) (codesF F H1) := ⟨(Ext.push (F := F)).pre, sm⟩
  have old : ∀ (s2 : Shared) (H2 : Hp), Un (frs X.stack) [] H1 H2 s'.heap s2.heap → s2.heap.get? f = some (kla_obj "<lambda>" (X.env.qual ++ "<lambda>") params body scope (cloFrom X.env.cells scope.names []) pm c' ctv) := fun s2 H2 un => un.keep f _ hf hfn hfr (fun z => nomatch z)
  have TH : ThOk X.prog X.w X.K X.mg X.base kk X.stack s' H1 f (μ ++ [f]) (codesF F H1) (fun _ S' EX R' => wb env S' (fun x _ S2 => EX x S2) R') := by
    refine ⟨fun s2 H2 un => ⟨_, _, _, _, old s2 H2 un⟩, fun A env2 s2 H2 Q2 E2 hr2 hG2 e0 un sp => ?_⟩
    obtain ⟨μ2, F2, S2, EX, R2, x2, r2, hw2, post2, px2⟩ := sp
    obtain ⟨⟨oc, vs, t, hoc, hdc, hvc⟩, _, _⟩ := e0.hok c' _ (r2.sub _ _ (x2.same _ _ hcF))
    refine kla_callFunE (by have := hr2.dp; omega) (old s2 H2 un) rfl L.co L.gen rfl ⟨c', oc, vs, t, rfl, hoc, hdc, hvc⟩ ?_
    rw [hbind]
    have lim : s2.heap.NoLimit := e0.mod.nolimit.keeps fun b o e => (e0.bs b o e).1
    refine wpAny_pure (wpAny_newFunctionEnv (fun y hy => (L.own y hy).2) (fun y hy => absurd hy (by simp)) (fun h2 hns hsb => ⟨lim.fresh _ hsb, ?_⟩) L.kind)
    show codeAny (model X.prog X.w) A (.expr body (LamX.lamEnv X scope s2.heap.objs.size f c')) _ _
    have J2 := LamX.lam_start2 (E := E2) (f := f) (c' := c') (tk := s2.toks + ([] : List (Str × Value)).length) J L e0 hr2.hd un hns fun b o e => hsb.extBut b o (Nat.ne_of_lt (Heap.lt_size e)) (Heap.get?_push_of_some _ e)
    have rel3 : Rel X.K X.mg μ2 F2 σ H2 env S2 := rel2.back x2 r2
    refine kla_codeExpr (wpAny_mono ((hbody A _ s2 H2 E2 f c' hr2 hG2).run [] _ σ H2 Q2 J2 ⟨μ2, F2, env, S2, _, R2, rel3, hw2, ⟨trivial, fun t en S3 μ3 F3 cls d σ3 H3 hE x3 r3 rx => px2 t S3 μ3 F3 cls d H3 hE x3 r3.bare rx⟩,
      fun z S3 μ3 F3 v H3 hz x3 r3 q3 => post2 z S3 μ3 F3 v H3 hz x3 r3.bare q3⟩) (fun v s3 hq => ?_) fun e s3 hq => hq)
    obtain ⟨u, H3, K3, rv, q⟩ := hq
    exact ⟨u, H3, K3.os, K3.bare, K3.base, K3.hok, rv, q⟩
  have hml : μ.length = S.length := rel.len
  have cut : ∀ {μ' F' H' S' σ' env'}, Ext (μ ++ [f]) (codesF F H1) μ' F' → Rel X.K X.mg μ' F' σ' H' env' S' → Ext μ F (μ'.take S.length) F' ∧ Rel X.K X.mg (μ'.take S.length) F' σ H' env (S'.take S.length) := fun {μ' F' H' S' σ' env'} x' r' => by
    have xx := (x1.trans x').cut
    rw [hml] at xx
    have rb := rel.back (x1.trans x') (r'.bare)
    exact ⟨xx, rb.cut S.length fun i w h => by
      obtain ⟨v, e, q⟩ := rel.env i w h
      exact ⟨v, e, q.ext xx⟩⟩
  have rc := FT X.A X.stack s' H1 f kk (μ ++ [f]) (codesF F H1) (S ++ [.dead]) _ _ μ.length _ Q (fun cls d H' => Ew.w cls d σ H') hr hrk hG J.env0 TH rel2.bare (by rw [List.getElem?_append_right (Nat.le_refl _), Nat.sub_self]; rfl) (by rw [hml]; exact hw)
    (fun z S2 μ2 F2 v H2 hz x2 r2 q2 => by
      obtain ⟨t, rfl, hR⟩ := hz
      obtain ⟨xx, rr⟩ := cut x2 r2
      exact post (.t t) _ _ F2 v H2 hR xx rr q2)
    (fun t S2 μ2 F2 cls d H2 hE x2 r2 rx => by
      obtain ⟨xx, rr⟩ := cut x2 r2
      exact xo.go t env _ _ F2 cls d σ H2 hE xx rr rx)
  refine wpAny_call (codeAny_mono rc fun r s2 hq => ?_)
  cases r with
  | error e => exact passAt tk σ pins H1 s' e s2 J hq
  | ok fl =>
    cases fl with
    | ret u => exact J.after hq
    | next => exact False.elim hq
    | brk => exact False.elim hq
    | cont => exact False.elim hq
end
end Tw
set_option Elab.async false
set_option linter.all false
set_option maxRecDepth 100000
namespace Tw
open PySem PySem.Spec PyProof.Rows L2

/-- constants; the readings of defs that take a thunk -/
structure CT where
  c : Nat → T
  ft : Nat → FS → FS := fun _ _ _ _ _ _ => False
  th : Option (Nat × FS) := none
instance : CoeFun CT fun _ => Nat → T := ⟨CT.c⟩
/-- what is known of the module: free names, constants' names, the defs, those that take a thunk (with their levels), the error classes at hand -/
structure RowD where
  fr : List Str
  cs : List Str
  nm : List (Str × Option Nat)
  nt : List (Str × Nat) := []
  ec : List Str := []
/-- what a body's rules may lean on -/
structure XO (fs : Nat → FS) (ct : CT) (r : RowD) (X : Cx) (Ew : WX) (N : List Str) (sc : Scope) (fa mk la : Bool) (lim : Nat) : Prop where
  hN : X.N = N
  nd : X.N.Nodup
  hsc : X.env.scope = sc
  calm : X.calm = true
  hk : sc.kind = .function
  room : Room lim X.A
  gd : X.A.guards = some []
  tk : Takes X Ew.w
  fa : fa = true → ∀ x, X.fn x = true
  fr : ∀ x ∈ r.fr, X.mg x = none
  cs : ∀ (j : Nat) (x : Str), r.cs[j]? = some x → ∃ v u, X.mg x = some u ∧ RelV v u ∧ ∀ F, RT X.K X.mg F (ct j) v
  fs : ∀ (j : Nat) (x : Str) (on : Option Nat), j < lim → r.nm[j]? = some (x, on) → ∃ f, X.mg x = some (.ref f) ∧ PySem.W.keepIn X.K (.ref f) = true ∧ FnV X.prog X.w X.K X.mg X.base (j + 1) f (spF X.K X.mg on (fs j))
  ft : ∀ (j : Nat) (x : Str) (l : Nat), r.nt[j]? = some (x, l) → l < lim → ∃ f, X.mg x = some (.ref f) ∧ PySem.W.keepIn X.K (.ref f) = true ∧ FnT X.prog X.w X.K X.mg X.base (l + 1) f (ct.ft j)
  ec : ∀ x ∈ r.ec, ∃ C, X.mg x = some (.ref C)
  er : ErrOk X.K X.mg
  lm : mk = true → LamMk X
  la : la = true → ∀ j th, ct.th = some (j, th) → ∀ pn xe W, Takes (X.tr pn xe) W → ActOk (X.tr pn xe) ⟨W, Ew.lk, Ew.up⟩ j th
structure XS (X : Cx) : Prop where
  pass : PassesOwn (model X.prog X.w) X.A X.env X.xe
  stk : X.stack = X.env :: X.outer
  frm : X.env.frame = some X.env.locals
section
variable {P : Program} {w : World} {K : PySem.W.Frag} {mg : Str → Option Value} {base : Heap} {x qual : Str} {params : Arguments} {body : List Stmt} {scope : Scope} {dvs : List V} {kws : List (Str × V)} {f : Addr} {fd : FuncData} {N ps : List Str}
    {fs : Nat → FS} {ct : CT} {r : RowD} {lim : Nat} {g : FS} {wb : WS} {mk la : Bool}
/-- the code object cdv of a def named q: its table is one of ours -/
def CodeOk (K : PySem.W.Frag) (mg : Str → Option Value) (base : Heap) (cdv : Value) (q : Str) : Prop := ∃ c Pt, cdv = .ref c ∧ LamX.TabB base mg c Pt ∧ (Pt, q ++ ".<locals>." ++ "<lambda>") ∈ tabsOf K ∧ ∀ p ∈ tabsOf K, p.1 = Pt → p.2 = q ++ ".<locals>." ++ "<lambda>"
/-- what a def's body is shown with -/
structure BodyOk (P : Program) (w : World) (K : PySem.W.Frag) (mg : Str → Option Value) (base : Heap) (fs : Nat → FS) (ct : CT) (r : RowD) (lim : Nat) (mk : Bool) (qual : Str) (N ps : List Str) (scope : Scope) (body : List Stmt) (la : Bool) (wb : WS) : Prop where
  Sc : FnScope N ps scope
  hfr : ∀ x ∈ r.fr, mg x = none
  hcs : ∀ (j : Nat) (x : Str), r.cs[j]? = some x → ∃ v u, mg x = some u ∧ RelV v u ∧ ∀ F, RT K mg F (ct j) v
  hfs : ∀ (j : Nat) (x : Str) (on : Option Nat), j < lim → r.nm[j]? = some (x, on) → ∃ f, mg x = some (.ref f) ∧ PySem.W.keepIn K (.ref f) = true ∧ FnV P w K mg base (j + 1) f (spF K mg on (fs j))
  hft : ∀ (j : Nat) (x : Str) (l : Nat), r.nt[j]? = some (x, l) → l < lim → ∃ f, mg x = some (.ref f) ∧ PySem.W.keepIn K (.ref f) = true ∧ FnT P w K mg base (l + 1) f (ct.ft j)
  hec : ∀ x ∈ r.ec, ∃ C, mg x = some (.ref C)
  her : ErrOk K mg
  hmk : mk = true → ∀ cdv, PySem.W.codeIn K cdv qual = true → CodeOk K mg base cdv qual
  hb : ∀ (X : Cx) (Ew : WX), XO fs ct r X Ew N scope true mk la lim → XS X → SB X Ew body wb
theorem BodyOk.run (B : BodyOk P w K mg base fs ct r lim mk qual N ps scope body la wb) {cdv : Value} {A : Around} {outer : List PySem.Env} {s : Shared} {H : Hp} {vs : List V} {Q : VK} {E : XK} {μ : List Addr} {F0 : Hp} {ws : List W} {S : Sto} {EX : T → Sto → Prop} {R : KW}
    (hcd : PySem.W.codeIn K cdv qual = true) (hr : Room lim (A.deeper (envOfC qual scope s.heap.objs.size f cdv))) (hG : A.guards = some []) (rel : Rel K mg μ F0 [] H [] S) (q : RWs K mg μ F0 ws vs) (hw : wDef wb N.length ws S EX R)
    (post : ∀ z S' μ' F' v H', R z S' → Ext μ F0 μ' F' → Rel K mg μ' F' [] H' [] S' → RW K mg μ' F' z v → Q v H')
    (px : ∀ x S' μ' F' cls d H', EX x S' → Ext μ F0 μ' F' → Rel K mg μ' F' [] H' [] S' → RX K mg F' x cls d → E cls d H')
    (lk : List Addr → Hp → Prop) (up : ∀ μ F μ' F', Ext μ F μ' F' → lk μ F → lk μ' F') (h0 : lk μ F0)
    (hla : la = true → ∀ j th, ct.th = some (j, th) → ∀ pn xe W, Takes ((cxOf (L2.CX P w) P w K mg base N qual scope f cdv A outer s H E).tr pn xe) W → ActOk ((cxOf (L2.CX P w) P w K mg base N qual scope f cdv A outer s H E).tr pn xe) ⟨W, lk, up⟩ j th) :
    ∃ t, PSs (cxOf (L2.CX P w) P w K mg base N qual scope f cdv A outer s H E) body t ∧ t { nx := fun _ H' => Q .non H', rt := Q } (L2.start N vs) H := by
  have tk : Takes (cxOf (L2.CX P w) P w K mg base N qual scope f cdv A outer s H E) (fun cls d _ H => E cls d H) := takes_of rfl rfl rfl rfl
  have xo : XO fs ct r (cxOf (L2.CX P w) P w K mg base N qual scope f cdv A outer s H E) ⟨fun cls d _ H => E cls d H, lk, up⟩ N scope true mk la lim :=
    ⟨rfl, B.Sc.nd, rfl, rfl, B.Sc.kind, hr, hG, tk, fun _ _ => rfl, B.hfr, B.hcs, B.hfs, B.hft, B.hec, B.her, fun h => B.hmk h cdv hcd, hla⟩
  have xs : XS (cxOf (L2.CX P w) P w K mg base N qual scope f cdv A outer s H E) := ⟨passes_of (K := fun e s'' => L2.CX P w outer H s E e s'') rfl, rfl, rfl⟩
  refine ⟨_, B.hb _ _ xo xs, μ, F0, _, S, _, _, rel_start rel q, hw, ⟨h0, fun x env S1 μ1 F1 cls d σ H1 he x1 r1 rx => ?_⟩, fun env S1 μ1 F1 σ H1 h x1 r1 => ?_, fun z S1 μ1 F1 v σ H1 env h x1 r1 q1 => ?_, fun _ _ _ _ _ _ h => h.elim, fun _ _ _ _ _ _ h => h.elim⟩
  · have hml : μ.length = S.length := rel.len
    exact px x _ (μ1.take S.length) F1 cls d H1 he (by rw [← hml]; exact x1.cut) ((r1.bare).cut S.length fun i w h => by simp at h) rx
  · have hml : μ.length = S.length := rel.len
    exact post _ _ (μ1.take S.length) F1 .non H1 h (by rw [← hml]; exact x1.cut) ((r1.bare).cut S.length fun i w h => by simp at h) (show RT K mg F1 .non .non from rt_non.mpr rfl)
  · have hml : μ.length = S.length := rel.len
    cases z with
    | t t =>
      have q2 : RT K mg F1 t v := q1
      exact post (.t t) _ (μ1.take S.length) F1 v H1 h (by rw [← hml]; exact x1.cut) ((r1.bare).cut S.length fun i w h => by simp at h) q2
    | ref i => exact post (.ref i) _ μ1 F1 v H1 h x1 r1.bare q1
    | tw ws => exact post (.tw ws) _ μ1 F1 v H1 h x1 r1.bare q1
/-- a def by its body -/
theorem FnG.def_ (F : FunD K x qual params body scope dvs kws f fd) (B : BodyOk P w K mg base fs ct r lim mk qual N ps scope body false wb)
    (hg : ∀ ws S EX R, ws.length = ps.length → g ws S EX R → wDef wb N.length ws S EX R) : FnG P w K mg base (lim + 1) f fd ps (spF K mg (some ps.length) g) := by
  obtain ⟨oc, od, dV, kV, doc, pm, an, cdv, ct', osl, rfl, lk, hcd, _, _⟩ := F.ex
  refine fnG_of lk hcd B.Sc (fun vs H Q E h => h.1 _ rfl) fun A outer s H vs Q E hr hG hsp => ?_
  obtain ⟨hl, μ, F0, ws, S, EX, R, rel, q, hlw, hgg, post, px⟩ := hsp
  exact B.run hcd hr hG rel q (hg ws S EX R (hlw _ rfl) hgg) post px (fun _ _ => True) (fun _ _ _ _ _ h => h) trivial fun e => nomatch e
/-- a def that takes a thunk -/
theorem FnT.def_ {a : Str} {gl : FS → FS} (F : FunD K x qual params body scope dvs kws f fd) (hB : Binds K fd [a] []) {wb' : Nat → FS → WS} (B : ∀ (j : Nat) (th : FS), BodyOk P w K mg base fs { ct with th := some (j, th) } r lim mk qual N [a] scope body true (wb' j th))
    (hg : ∀ j th S EX R, gl th [.ref j] S EX R → wDef (wb' j (clT th)) N.length [.ref j] S EX R) : FnT P w K mg base (lim + 1) f gl := by
  obtain ⟨oc, od, dV, kV, doc, pm, an, cdv, ct', osl, rfl, lk, hcd, _, _⟩ := F.ex
  intro A outer s H t kk μ F0 S EX R j th Q E hr hrk hG e0 TH rel hj hgg post px
  have B := B j (clT th)
  have KX : K.In s.heap := e0.mod.kin.keeps fun b o e => (e0.bs b o e).1
  refine LamX.run_ofS (N := N) (ps := [a]) (us := [.ref t]) (vs := [.ref t]) lk hcd B.Sc hr e0 (hB s [.ref t] KX rfl) (.cons rfl .nil) rfl fun hr' => ?_
  refine B.run hcd hr' hG rel (show RWs K mg μ F0 [.ref j] [.ref t] from ⟨.ref t, [], rfl, ⟨t, hj, rfl⟩, rfl⟩) (hg j th S EX R hgg) post px (fun μ' F' => Ext μ F0 μ' F') (fun _ _ _ _ x h => h.trans x) Ext.refl fun _ j' th' e pn xe W tk => ?_
  cases e
  exact act_ok (s := s) (H := H) rfl rfl rfl rfl tk (hrk.deeper _) hG TH.cl hj
theorem RWs.split : ∀ {a : List W} {ts : List T} {vs : List V} {μ : List Addr} {F : Hp}, RWs K mg μ F (a ++ ts.map W.t) vs → ∃ v1 v2, vs = v1 ++ v2 ∧ RWs K mg μ F a v1 ∧ RTs K mg F ts v2
  | [], ts, vs, μ, F, h => by
    refine ⟨[], vs, rfl, rfl, ?_⟩
    induction ts generalizing vs with
    | nil => exact rts_nil.mpr h
    | cons t ts ih =>
      obtain ⟨v, r, rfl, h1, h2⟩ := h
      exact RTs.cons h1 (ih _ h2)
  | w :: a, ts, vs, μ, F, h => by
    obtain ⟨v, r, rfl, h1, h2⟩ := h
    obtain ⟨v1, v2, rfl, h3, h4⟩ := RWs.split (a := a) h2
    exact ⟨v :: v1, v2, rfl, ⟨v, v1, rfl, h1, h3⟩, h4⟩
theorem RWs.append {a b : List W} {v1 v2 : List V} {μ : List Addr} {F : Hp} (h : RWs K mg μ F a v1) (h2 : RWs K mg μ F b v2) : RWs K mg μ F (a ++ b) (v1 ++ v2) := by
  induction a generalizing v1 with
  | nil =>
    rw [show v1 = [] from h]
    exact h2
  | cons w a ih =>
    obtain ⟨v, r, rfl, q1, q2⟩ := h
    exact ⟨v, r ++ v2, rfl, q1, ih q2⟩
/-- def f(a, .., *v) -/
theorem FnV.star {qs : List Str} {pv : Str} {on : Option Nat} (F : FunD K x qual params body scope [] kws f fd) (B : BodyOk P w K mg base fs ct r lim mk qual N (qs ++ [pv]) scope body false wb)
    (hbd : ∀ (kV doc pm : Value) (an : Option Addr) (cdv ct : Value) (us rest : List Value), us.length = qs.length → bindArgs (PySem.W.fnOf x qual params body scope .none kV doc pm an cdv ct) ⟨us ++ rest, []⟩ = (newTuple rest >>= fun t => pure (qs.zip us ++ [(pv, t)])))
    (hg : ∀ ws S EX R, g ws S EX R → ∃ a ts, ws = a ++ ts.map W.t ∧ a.length = qs.length ∧ ts.length ≤ sizeLine ∧ wDef wb N.length (a ++ [.t (.tup ts)]) S EX R) : FnV P w K mg base (lim + 1) f (spF K mg on g) := by
  obtain ⟨oc, od, dV, kV, doc, pm, an, cdv, ct', osl, rfl, lk, hcd, hD, _⟩ := F.ex
  obtain rfl : dV = .none := by
    rcases hD with ⟨_, e⟩ | ⟨e, _⟩
    · exact e
    · exact absurd rfl e
  intro A outer s H us vs Q E hr hG e0 r hsp
  obtain ⟨hl, μ, F0, ws, S, EX, R, rel, q, hlw, hgg, post, px⟩ := hsp
  obtain ⟨a, ts, rfl, hal, htl, hw⟩ := hg ws S EX R hgg
  obtain ⟨v1, v2, rfl, q1, q2⟩ := RWs.split q
  obtain ⟨u1, u2, rfl, r1, r2⟩ := StX.vals_split r
  have l1 : v1.length = qs.length := by rw [q1.length, hal]
  have l2 : v2.length ≤ sizeLine := by rw [q2.length]; exact htl
  have lu : u1.length = qs.length := by rw [← r1.length]; exact l1
  have hz : u2.length ≤ sizeLine := by rw [← r2.length]; exact l2
  have fresh : H s.heap.objs.size = Option.none := e0.hok.fresh (Nat.le_refl _)
  refine StX.run_bnd (CX := L2.CX P w) lk hcd B.Sc hr e0 (G := fun xs H2 => ∃ (p : Addr) (us : List Value), H p = Option.none ∧ xs = v1 ++ [V.ref p] ∧ H2 = upd H p (.frz (tObj us) (.tup v2))) (fun A' Ex Q' k => ?_) fun s2 H2 xs ⟨p, us, hp, e1, e2⟩ hr' => ?_
  · rw [hbd kV doc pm an cdv ct' u1 u2 lu]
    have laid : ObjOk P w (upd H s.heap.objs.size (.frz (tObj u2) (.tup v2))) (s.heap.push ({ cls := .type "tuple", data := .seq u2.toArray } : Obj)) s.heap.objs.size (.frz (tObj u2) (.tup v2)) := ⟨Heap.get?_push_size _ rfl, l2, u2, r2, ⟨_, Heap.get?_push_size _ rfl, rfl, _, rfl⟩⟩
    have un := StX.un_laid (fs := frs outer) (s := s) (o := ({ cls := .type "tuple", data := .seq u2.toArray } : Obj)) (u := .frz (tObj u2) (.tup v2)) fresh
    refine wpAny_bind (wpAny_newTuple (wpAny_pure ?_) hz)
    have z := k _ _ (v1 ++ [V.ref s.heap.objs.size]) (u1 ++ [Value.ref s.heap.objs.size]) (StX.env0_laid e0 laid) un rfl (fun e s' => StX.cxUp outer s H _ _ E e s' un (fun b o q => Heap.get?_push_of_some _ q) rfl) (r1.append (.cons rfl .nil))
      (by rw [List.length_append, List.length_append, l1]; rfl) ⟨_, _, fresh, rfl, rfl⟩
    rw [List.zip_append lu.symm] at z
    exact z
  · subst e1 e2
    have st := Step.new (o := .frz (tObj us) (.tup v2)) rel.sub hp
    have rt : RT K mg (upd F0 p (.frz (tObj us) (.tup v2))) (.tup ts) (.ref p) := by
      unfold RT
      exact ⟨p, v2, rfl, SqD.of rfl upd_same, RTs.mono st.f _ _ q2⟩
    exact B.run hcd hr' hG (rel.step st) ((q1.ext st.ext).append (show RWs K mg μ _ [.t (.tup ts)] [V.ref p] from ⟨_, [], rfl, rt, rfl⟩)) hw (fun z S' μ' F' v H' h x1 => post z S' μ' F' v H' h (st.ext.trans x1)) (fun x S' μ' F' cls d H' h x1 => px x S' μ' F' cls d H' h (st.ext.trans x1)) (fun _ _ => True) (fun _ _ _ _ _ h => h) trivial fun e => nomatch e
end
end Tw
set_option Elab.async false
set_option linter.all false
set_option maxRecDepth 100000
set_option maxHeartbeats 1000000
namespace Tw
open PySem PySem.Spec PyProof.Rows L2

def boolsT : List T → Option (List Bool)
  | [] => some []
  | x :: r => match x, boolsT r with
    | .bl b, some bs => some (b :: bs)
    | _, _ => none
def intsT : List T → Option (List Int)
  | [] => some []
  | x :: r => match x, intsT r with
    | .int b, some bs => some (b :: bs)
    | _, _ => none
def strsT : List T → Option (List Str)
  | [] => some []
  | x :: r => match x, strsT r with
    | .str b, some bs => some (b :: bs)
    | _, _ => none
section
variable {K : PySem.W.Frag} {mg : Str → Option Value} {F : Hp}
theorem boolsT_ok : ∀ {xs : List T} {bs : List Bool} {vs : List V}, boolsT xs = some bs → RTs K mg F xs vs → vs = bs.map V.bl
  | [], bs, vs, e, r => by
    cases e
    exact rts_nil.mp r
  | x :: xs, bs, vs, e, r => by
    obtain ⟨v, vr, rfl, r1, r2⟩ := rts_cons.mp r
    unfold boolsT at e
    split at e
    · rename_i b bs' e2
      cases e
      rw [rt_bl] at r1
      rw [r1, boolsT_ok e2 r2]
      rfl
    · cases e
theorem intsT_ok : ∀ {xs : List T} {bs : List Int} {vs : List V}, intsT xs = some bs → RTs K mg F xs vs → vs = bs.map V.int
  | [], bs, vs, e, r => by
    cases e
    exact rts_nil.mp r
  | x :: xs, bs, vs, e, r => by
    obtain ⟨v, vr, rfl, r1, r2⟩ := rts_cons.mp r
    unfold intsT at e
    split at e
    · rename_i b bs' e2
      cases e
      rw [rt_int] at r1
      rw [r1, intsT_ok e2 r2]
      rfl
    · cases e
theorem strsT_ok : ∀ {xs : List T} {bs : List Str} {vs : List V}, strsT xs = some bs → RTs K mg F xs vs → vs = bs.map V.str
  | [], bs, vs, e, r => by
    cases e
    exact rts_nil.mp r
  | x :: xs, bs, vs, e, r => by
    obtain ⟨v, vr, rfl, r1, r2⟩ := rts_cons.mp r
    unfold strsT at e
    split at e
    · rename_i b bs' e2
      cases e
      rw [rt_str] at r1
      rw [r1, strsT_ok e2 r2]
      rfl
    · cases e
theorem rts_ints : ∀ (ns : List Int), RTs K mg F (ns.map T.int) (ns.map V.int)
  | [] => rts_nil.mpr rfl
  | n :: ns => RTs.cons (rt_int.mpr rfl) (rts_ints ns)
theorem rts_strs : ∀ (ns : List Str), RTs K mg F (ns.map T.str) (ns.map V.str)
  | [] => rts_nil.mpr rfl
  | n :: ns => RTs.cons (rt_str.mpr rfl) (rts_strs ns)
end
theorem intsT_map (ns : List Int) : intsT (ns.map T.int) = some ns := by
  induction ns with
  | nil => rfl
  | cons n ns ih => rw [List.map_cons]; unfold intsT; rw [ih]
theorem boolsT_map (ns : List Bool) : boolsT (ns.map T.bl) = some ns := by
  induction ns with
  | nil => rfl
  | cons n ns ih => rw [List.map_cons]; unfold boolsT; rw [ih]
theorem strsT_map (ns : List Str) : strsT (ns.map T.str) = some ns := by
  induction ns with
  | nil => rfl
  | cons n ns ih => rw [List.map_cons]; unfold strsT; rw [ih]

def oAll : T → (T → Prop) → Prop
  | .lst xs, k => ∃ bs, boolsT xs = some bs ∧ k (.bl (bs.all id))
  | _, _ => False
def oAny : T → (T → Prop) → Prop
  | .lst xs, k => ∃ bs, boolsT xs = some bs ∧ k (.bl (bs.any id))
  | _, _ => False
def oSum : T → (T → Prop) → Prop
  | .lst xs, k => ∃ ns, intsT xs = some ns ∧ k (.int ns.sum)
  | _, _ => False
def oInt1 : T → (T → Prop) → Prop
  | .int i, k => k (.int i)
  | .bl b, k => k (.int (if b then 1 else 0))
  | _, _ => False
def oBool1 : T → (T → Prop) → Prop
  | .bl b, k => k (.bl b)
  | .int i, k => k (.bl (i != 0))
  | _, _ => False
section
variable {X : Cx}
theorem call_allT (hc : X.calm = true) : CallT X (.builtin "all") (g1 oAll) := callT_of1 fun pins s σ H x us Q F a R I r sm r1 ho post => by
  unfold oAll at ho
  split at ho
  · obtain ⟨bs, e, hk⟩ := ho
    rw [rv_lst] at r1
    obtain ⟨p, vs, rfl, h1, q1⟩ := r1
    have ev := boolsT_ok e q1
    exact cr_all hc pins s σ H _ us Q I r ⟨p, bs, rfl, by rw [← ev]; exact SqL.of h1, flat_post sm post hk (rt_bl.mpr rfl)⟩
  · exact ho.elim
theorem call_anyT (hc : X.calm = true) : CallT X (.builtin "any") (g1 oAny) := callT_of1 fun pins s σ H x us Q F a R I r sm r1 ho post => by
  unfold oAny at ho
  split at ho
  · obtain ⟨bs, e, hk⟩ := ho
    rw [rv_lst] at r1
    obtain ⟨p, vs, rfl, h1, q1⟩ := r1
    have ev := boolsT_ok e q1
    exact cr_any hc pins s σ H _ us Q I r ⟨p, bs, rfl, by rw [← ev]; exact SqL.of h1, flat_post sm post hk (rt_bl.mpr rfl)⟩
  · exact ho.elim
theorem call_sumT (hc : X.calm = true) : CallT X (.builtin "sum") (g1 oSum) := callT_of1 fun pins s σ H x us Q F a R I r sm r1 ho post => by
  unfold oSum at ho
  split at ho
  · obtain ⟨bs, e, hk⟩ := ho
    rw [rv_lst] at r1
    obtain ⟨p, vs, rfl, h1, q1⟩ := r1
    have ev := intsT_ok e q1
    exact cr_sum hc pins s σ H _ us Q I r ⟨p, bs, rfl, by rw [← ev]; exact SqL.of h1, flat_post sm post hk (rt_int.mpr rfl)⟩
  · exact ho.elim
theorem call_int1T : CallT X (.type "int") (g1 oInt1) := callT_of1 fun pins s σ H x us Q F a R I r sm r1 ho post => by
  unfold oInt1 at ho
  split at ho
  · rw [rv_int] at r1
    subst r1
    exact call_int1 pins s σ H _ us Q I r (.inl ⟨_, rfl, flat_post sm post ho (rt_int.mpr rfl)⟩)
  · rw [rv_bl] at r1
    subst r1
    exact call_int1 pins s σ H _ us Q I r (.inr ⟨_, rfl, flat_post sm post ho (rt_int.mpr rfl)⟩)
  · exact ho.elim
theorem call_bool1T : CallT X (.type "bool") (g1 oBool1) := callT_of1 fun pins s σ H x us Q F a R I r sm r1 ho post => by
  unfold oBool1 at ho
  split at ho
  · rw [rv_bl] at r1
    subst r1
    exact call_bool1 pins s σ H _ us Q I r (.inr ⟨_, rfl, flat_post sm post ho (rt_bl.mpr rfl)⟩)
  · rw [rv_int] at r1
    subst r1
    exact call_bool1 pins s σ H _ us Q I r (.inl ⟨_, rfl, flat_post sm post ho (rt_bl.mpr rfl)⟩)
  · exact ho.elim
end

/-- what comes: a tree, or a new list of these -/
inductive Rz where
  | tr (t : T) | nl (xs : List T)
abbrev PZ := List T → (Rz → Prop) → Prop
def rzK (m : Bool) (R : KW) (S : Sto) : Rz → Prop
  | .tr t => R (.t t) S
  | .nl xs => mkL m xs S R
def rPz (K : PySem.W.Frag) (mg : Str → Option Value) (g : PZ) : List V → Hp → VK → Prop := fun vs H Q => ∃ (F : Hp) (ts : List T) (R : Rz → Prop), Same F H ∧ RVs K mg F H ts vs ∧ g ts R ∧
  (∀ t F' H' v, R (.tr t) → Step F H F' H' → RT K mg F' t v → Q v H') ∧ ∀ xs us p, R (.nl xs) → RTs K mg F xs us → H p = none → Q (.ref p) (upd H p (.lst us))
def wZ1 (m : Bool) (g : PZ) (wa : WE) : WE := fun env S E R => wa env S E fun x S1 => vw S1 [x] fun ts => g ts (rzK m R S1)
def wZ2 (m : Bool) (g : PZ) (wa wb : WE) : WE := fun env S E R => wa env S E fun x S1 => wb env S1 E fun y S2 => vw S2 [x, y] fun ts => g ts (rzK m R S2)
section
variable {K : PySem.W.Frag} {mg : Str → Option Value} {μ : List Addr} {F H : Hp} {σ : L2.St} {env : Env} {S : Sto} {Ew : WX} {Q : VK} {g : PZ} {m : Bool} {wa wb : WE}
theorem rz_of {ws : List W} {ts : List T} {vs : List V} {R : KW} (rel : Rel K mg μ F σ H env S) (q : RWs K mg μ F ws vs) (hv : views S ws = some ts) (hg : g ts (rzK m R S))
    (post : ∀ z S' μ' F' v H', R z S' → Ext μ F μ' F' → Rel K mg μ' F' σ H' env S' → RW K mg μ' F' z v → Q v H') : rPz K mg g vs H Q :=
  ⟨F, ts, _, rel.sub, views_ok rel q hv, hg, fun t F' H' v ht st rt => post (.t t) S μ F' v H' ht st.ext (rel.step st) rt, fun xs us p hx r hp => mkL_ok rel r hp hx post⟩
theorem z2_imp (h : rdE K mg Ew (wZ2 m g wa wb) σ H Q) : tOp (fun x y => rPz K mg g [x, y]) (rdE K mg Ew wa) (rdE K mg Ew wb) σ H Q := by
  obtain ⟨μ, F, env, S, E, R, rel, hw, xo, post⟩ := h
  refine ⟨μ, F, env, S, E, _, rel, hw, xo, fun x S1 μ1 F1 v H1 hx e1 r1 q1 => ⟨μ1, F1, env, S1, E, _, r1, hx, xo.ext e1, fun y S2 μ2 F2 u H2 hy e2 r2 q2 => ?_⟩⟩
  obtain ⟨ts, hv, hg⟩ := vw_of hy
  exact rz_of r2 (ws := [x, y]) (vs := [v, u]) ⟨v, [u], rfl, q1.ext e2, u, [], rfl, q2, rfl⟩ hv hg fun z S' μ' F' w H' hz x' r' q' => post z S' μ' F' w H' hz ((e1.trans e2).trans x') r' q'
end
def z1 (f : T → (Rz → Prop) → Prop) : PZ := fun ts k => match ts with
  | [a] => f a k
  | _ => False
def z2 (f : T → T → (Rz → Prop) → Prop) : PZ := fun ts k => match ts with
  | [a, b] => f a b k
  | _ => False
theorem z1_of {f : T → (Rz → Prop) → Prop} {ts : List T} {R : Rz → Prop} (h : z1 f ts R) : ∃ a, ts = [a] ∧ f a R := by
  match ts, h with
  | [a], h => exact ⟨a, rfl, h⟩
theorem z2_of {f : T → T → (Rz → Prop) → Prop} {ts : List T} {R : Rz → Prop} (h : z2 f ts R) : ∃ a b, ts = [a, b] ∧ f a b R := by
  match ts, h with
  | [a, b], h => exact ⟨a, b, rfl, h⟩
def oCat : T → T → (Rz → Prop) → Prop
  | .lst a, .lst b, k => a.length + b.length ≤ sizeLine ∧ k (.nl (a ++ b))
  | _, _, _ => False
def oRep : T → T → (Rz → Prop) → Prop
  | .lst a, .int j, k => -(2 ^ 63) ≤ j ∧ j < 2 ^ 63 ∧ a.length * j.toNat ≤ sizeLine ∧ k (.nl (List.replicate j.toNat a).flatten)
  | _, _, _ => False
def oSorted : T → (Rz → Prop) → Prop
  | .lst xs, k => ∃ ns, intsT xs = some ns ∧ ∀ ns' : List Int, ns'.Perm ns → ns'.Pairwise (· ≤ ·) → k (.nl (ns'.map T.int))
  | _, _ => False
def cutT (xs : List T) (lo hi : Option Int) : List T := (xs.drop (HT.sIx xs.length 0 lo)).take (HT.sIx xs.length xs.length hi - HT.sIx xs.length 0 lo)
theorem RTs.cut {K : PySem.W.Frag} {mg : Str → Option Value} {F : Hp} {xs : List T} {vs : List V} (r : RTs K mg F xs vs) (lo hi : Option Int) : RTs K mg F (cutT xs lo hi) (cutV vs lo hi) := by
  unfold cutT cutV
  rw [r.length]
  exact RTs.take _ (RTs.drop _ r)
theorem cutT_length (xs : List T) (lo hi : Option Int) : (cutT xs lo hi).length ≤ xs.length := by
  unfold cutT
  rw [List.length_take, List.length_drop]
  omega
def oSl (lo hi : Option Int) : T → (Rz → Prop) → Prop
  | .lst xs, k => k (.nl (cutT xs lo hi))
  | .tup xs, k => k (.tr (.tup (cutT xs lo hi)))
  | .str z, k => z.length ≤ sizeLine ∧ k (.tr (.str (cutS z lo hi)))
  | _, _ => False
theorem cutT_all {xs : List T} {lo hi : Option Int} (h : HT.sIx xs.length 0 lo = 0 ∧ HT.sIx xs.length xs.length hi = xs.length) : cutT xs lo hi = xs := by
  unfold cutT
  rw [h.1, h.2, List.drop_zero, Nat.sub_zero, List.take_length]
theorem sl_tupD {X : Cx} : SlR X (fun x lo hi H Q => ∃ a xs, x = .ref a ∧ SqT X.K H a xs ∧ (HT.sIx xs.length 0 lo = 0 ∧ HT.sIx xs.length xs.length hi = xs.length → Q (.ref a) H) ∧
    (¬ (HT.sIx xs.length 0 lo = 0 ∧ HT.sIx xs.length xs.length hi = xs.length) → ∀ (p : Addr) (us : List Value), H p = none → Q (.ref p) (upd H p (.frz (tObj us) (.tup (cutV xs lo hi)))))) := by
  rintro pins s σ H x v vl vu lo hi sl Q I rx hs pl pu ⟨a, xs, rfl, hx, q1, q2⟩
  cases rx
  obtain ⟨its, r, ht, hz⟩ := I.tuple hx
  have hlen : its.toArray.size = xs.length := by rw [List.size_toArray]; exact r.length.symm
  refine ⟨"tuple", _, PyProof.Rows.slot_tuple_getitem.lookup, ht.typeIs, ?_⟩
  by_cases hw : HT.sIx xs.length 0 lo = 0 ∧ HT.sIx xs.length xs.length hi = xs.length
  · exact getItem_tuple_whole ht hs pl pu (by rw [hlen]; exact hw) ⟨.ref a, H, I, rfl, q1 hw⟩
  · refine HT.getItem_tuple_cut ht hs pl pu (by rw [hlen]; exact hw) ?_ (by rw [hlen]; exact hz)
    rw [hlen]
    exact ⟨.ref s.heap.objs.size, _, I.laid (t' := s.toks) (o := .frz (tObj _) (.tup (cutV xs lo hi))) (fun b ob q => Heap.get?_push_of_some _ q) (Nat.le_refl _)
      ⟨Heap.get?_push_size _ rfl, Nat.le_trans (cutV_length xs lo hi) hz, _, (r.drop (HT.sIx xs.length 0 lo)).take (HT.sIx xs.length xs.length hi - HT.sIx xs.length 0 lo), IsTup.new _ _⟩, rfl, q2 hw _ _ (I.hok.fresh (Nat.le_refl _))⟩
section
variable {X : Cx}
abbrev OpZ (X : Cx) (f : Value → Value → Sem Value) (o : T → T → (Rz → Prop) → Prop) : Prop := OpR X f fun x y => rPz X.K X.mg (z2 o) [x, y]
theorem op_catZ : OpZ X (binaryOp .Add) oCat := by
  rintro pins s σ H x y v u Q I rx ry ⟨F, ts, R, sm, rv, hg, -, post⟩
  obtain ⟨a, b, rfl, ho⟩ := z2_of hg
  obtain ⟨r1, r2⟩ := rvs2 rv
  unfold oCat at ho
  split at ho
  · rw [rv_lst] at r1 r2
    obtain ⟨a1, vs1, rfl, h1, q1⟩ := r1
    obtain ⟨a2, vs2, rfl, h2, q2⟩ := r2
    exact op_cat pins s σ H _ _ v u Q I rx ry ⟨a1, a2, vs1, vs2, rfl, rfl, h1, h2, by rw [q1.length, q2.length]; exact ho.1, fun p hp => post _ _ p ho.2 (q1.append q2) hp⟩
  · exact ho.elim
theorem op_repZ : OpZ X (binaryOp .Mult) oRep := by
  rintro pins s σ H x y v u Q I rx ry ⟨F, ts, R, sm, rv, hg, -, post⟩
  obtain ⟨a, b, rfl, ho⟩ := z2_of hg
  obtain ⟨r1, r2⟩ := rvs2 rv
  unfold oRep at ho
  split at ho
  · rw [rv_lst] at r1
    rw [rv_int] at r2
    obtain ⟨a1, vs1, rfl, h1, q1⟩ := r1
    obtain ⟨n1, n2, n3, n4⟩ := ho
    exact op_rep pins s σ H _ _ v u Q I rx ry ⟨a1, _, vs1, rfl, r2, h1, n1, n2, by rw [q1.length]; exact n3, fun p hp => post _ _ p n4 (q1.rep _) hp⟩
  · exact ho.elim
theorem call_sortedZ : CallR X (.builtin "sorted") (rPz X.K X.mg (z1 oSorted)) := by
  rintro pins s σ H xs us Q I r ⟨F, ts, R, sm, rv, hg, -, post⟩
  obtain ⟨a, rfl, ho⟩ := z1_of hg
  obtain ⟨x, rfl, r1⟩ := rvs1' rv
  unfold oSorted at ho
  split at ho
  · obtain ⟨ns, e, hk⟩ := ho
    rw [rv_lst] at r1
    obtain ⟨p, vs, rfl, h1, q1⟩ := r1
    have ev := intsT_ok e q1
    exact cr_sortedI pins s σ H _ us Q I r ⟨p, ns, rfl, by rw [← ev]; exact SqL.of h1, fun ns' q hp hs hq => post _ _ q (hk ns' hp hs) (rts_ints ns') hq⟩
  · exact ho.elim
theorem sl_Z : SlR X fun x lo hi H Q => rPz X.K X.mg (z1 (oSl lo hi)) [x] H Q := by
  rintro pins s σ H x v vl vu lo hi sl Q I rx hs pl pu ⟨F, ts, R, sm, rv, hg, post1, post⟩
  obtain ⟨a, rfl, ho⟩ := z1_of hg
  have r1 := rvs1 rv
  unfold oSl at ho
  split at ho
  · rw [rv_lst] at r1
    obtain ⟨p, vs, rfl, h1, q1⟩ := r1
    exact sl_list pins s σ H _ v vl vu lo hi sl Q I rx hs pl pu ⟨p, vs, rfl, SqL.of h1, fun l hl => post _ _ l ho (q1.cut lo hi) hl⟩
  · rename_i xs
    rw [rv_tup] at r1
    obtain ⟨p, vs, rfl, h1, q1⟩ := r1
    refine sl_tupD pins s σ H _ v vl vu lo hi sl Q I rx hs pl pu ⟨p, vs, rfl, Same.seqT sm h1, fun hw => ?_, fun hw l us hl => ?_⟩
    · rw [q1.length] at hw
      rw [cutT_all hw] at ho
      exact post1 _ F H _ ho (Step.refl sm) (rt_tup.mpr ⟨p, vs, rfl, h1, q1⟩)
    · have st := Step.new (o := .frz (tObj us) (.tup (cutV vs lo hi))) sm hl
      exact post1 _ _ _ _ ho st (rt_tup.mpr ⟨l, _, rfl, SqD.of rfl upd_same, RTs.mono st.f _ _ (q1.cut lo hi)⟩)
  · rw [rv_str] at r1
    exact sl_str pins s σ H x v vl vu lo hi sl Q I rx hs pl pu ⟨_, r1, ho.1, post1 _ F H _ ho.2 (Step.refl sm) (rt_str.mpr rfl)⟩
  · exact ho.elim
end
/-- e[a:b], e[a:], e[:b] -/
def wSl2 (m : Bool) (we wl wu : WE) : WE := fun env S E R => we env S E fun x S1 => wl env S1 E fun l S2 => ∃ i : Int, l = .t (.int i) ∧ wu env S2 E fun u S3 => ∃ j : Int, u = .t (.int j) ∧ vw S3 [x] fun ts => z1 (oSl (some i) (some j)) ts (rzK m R S3)
def wSlA (m : Bool) (we wl : WE) : WE := fun env S E R => we env S E fun x S1 => wl env S1 E fun l S2 => ∃ i : Int, l = .t (.int i) ∧ vw S2 [x] fun ts => z1 (oSl (some i) none) ts (rzK m R S2)
def wSlB (m : Bool) (we wu : WE) : WE := fun env S E R => we env S E fun x S1 => wu env S1 E fun l S2 => ∃ i : Int, l = .t (.int i) ∧ vw S2 [x] fun ts => z1 (oSl none (some i)) ts (rzK m R S2)
section
variable {X : Cx} {Ew : WX} {m : Bool} {e lo hi a b : Expr} {we wl wu wa wb : WE} {p2 pos : Pos}
theorem int_of {K : PySem.W.Frag} {mg : Str → Option Value} {μ : List Addr} {F : Hp} {i : Int} {v : V} (h : RW K mg μ F (.t (.int i)) v) : v = .int i := by
  have q : RT K mg F (.int i) v := h
  rw [rt_int] at q
  exact q
theorem SE.sl2 (he : SE X Ew e we) (hl : SE X Ew lo wl) (hu : SE X Ew hi wu) : SE X Ew (.Subscript e (.Slice (some lo) (some hi) none p2) pos) (wSl2 m we wl wu) :=
  PE.imp (pe_slice sl_Z he (po_some hl) (po_some hu)) fun σ H Q ⟨μ, F, env, S, E, R, rel, hw, xo, post⟩ => by
    refine ⟨μ, F, env, S, E, _, rel, hw, xo, fun x S1 μ1 F1 v H1 hx e1 r1 q1 => ⟨μ1, F1, env, S1, E, _, r1, hx, xo.ext e1, fun l S2 μ2 F2 vl H2 hl e2 r2 q2 => ?_⟩⟩
    obtain ⟨i, rfl, hl⟩ := hl
    refine ⟨i, int_of q2, μ2, F2, env, S2, E, _, r2, hl, xo.ext (e1.trans e2), fun u S3 μ3 F3 vu H3 hu e3 r3 q3 => ?_⟩
    obtain ⟨j, rfl, hu⟩ := hu
    refine ⟨j, int_of q3, ?_⟩
    obtain ⟨ts, hv, hg⟩ := vw_of hu
    exact rz_of r3 (ws := [x]) (vs := [v]) ⟨v, [], rfl, (q1.ext e2).ext e3, rfl⟩ hv hg fun z S' μ' F' w H' hz x' r' q' => post z S' μ' F' w H' hz (((e1.trans e2).trans e3).trans x') r' q'
theorem SE.slA (he : SE X Ew e we) (hl : SE X Ew lo wl) : SE X Ew (.Subscript e (.Slice (some lo) none none p2) pos) (wSlA m we wl) :=
  PE.imp (pe_slice sl_Z he (po_some hl) po_none) fun σ H Q ⟨μ, F, env, S, E, R, rel, hw, xo, post⟩ => by
    refine ⟨μ, F, env, S, E, _, rel, hw, xo, fun x S1 μ1 F1 v H1 hx e1 r1 q1 => ⟨μ1, F1, env, S1, E, _, r1, hx, xo.ext e1, fun l S2 μ2 F2 vl H2 hl e2 r2 q2 => ?_⟩⟩
    obtain ⟨i, rfl, hl⟩ := hl
    refine ⟨i, int_of q2, ?_⟩
    obtain ⟨ts, hv, hg⟩ := vw_of hl
    exact rz_of r2 (ws := [x]) (vs := [v]) ⟨v, [], rfl, q1.ext e2, rfl⟩ hv hg fun z S' μ' F' w H' hz x' r' q' => post z S' μ' F' w H' hz ((e1.trans e2).trans x') r' q'
theorem SE.slB (he : SE X Ew e we) (hl : SE X Ew hi wu) : SE X Ew (.Subscript e (.Slice none (some hi) none p2) pos) (wSlB m we wu) :=
  PE.imp (pe_slice sl_Z he po_none (po_some hl)) fun σ H Q ⟨μ, F, env, S, E, R, rel, hw, xo, post⟩ => by
    refine ⟨μ, F, env, S, E, _, rel, hw, xo, fun x S1 μ1 F1 v H1 hx e1 r1 q1 => ?_⟩
    refine ⟨μ1, F1, env, S1, E, _, r1, hx, xo.ext e1, fun l S2 μ2 F2 vl H2 hl e2 r2 q2 => ?_⟩
    obtain ⟨i, rfl, hl⟩ := hl
    refine ⟨i, int_of q2, ?_⟩
    obtain ⟨ts, hv, hg⟩ := vw_of hl
    exact rz_of r2 (ws := [x]) (vs := [v]) ⟨v, [], rfl, q1.ext e2, rfl⟩ hv hg fun z S' μ' F' w H' hz x' r' q' => post z S' μ' F' w H' hz ((e1.trans e2).trans x') r' q'
theorem SE.binZ {op : Operator} {g : PZ} (ho : OpR X (binaryOp op) fun x y => rPz X.K X.mg g [x, y]) (ha : SE X Ew a wa) (hb : SE X Ew b wb) : SE X Ew (.BinOp a op b pos) (wZ2 m g wa wb) :=
  PE.imp (pe_op ho ha hb) fun σ H Q h => z2_imp h
theorem cz_imp {K : PySem.W.Frag} {mg : Str → Option Value} {σ : L2.St} {H : Hp} {Q : VK} {g : PZ} (h : rdE K mg Ew (wZ1 m g wa) σ H Q) : tCB (rPz K mg g) (rdA K mg Ew (waCons wa waNil)) σ H Q := by
  obtain ⟨μ, F, env, S, E, R, rel, hw, xo, post⟩ := h
  have ef : (fun (x : W) (S1 : Sto) => vw S1 [x] fun ts => g ts (rzK m R S1)) = fun x S1 => ∃ y, [x] = [y] ∧ vw S1 [y] fun ts => g ts (rzK m R S1) := by
    funext x S1
    exact propext ⟨fun h => ⟨x, rfl, h⟩, fun ⟨y, e, h⟩ => by cases e; exact h⟩
  have hw' : wa env S E (fun (x : W) (S1 : Sto) => vw S1 [x] fun ts => g ts (rzK m R S1)) := hw
  rw [ef] at hw'
  refine ⟨μ, F, env, S, E, fun zs S1 => ∃ y, zs = [y] ∧ vw S1 [y] fun ts => g ts (rzK m R S1), rel, hw', xo, fun zs S1 μ1 F1 vs H1 hx e1 r1 q1 => ?_⟩
  obtain ⟨y, rfl, hx⟩ := hx
  obtain ⟨ts, hv, hg⟩ := vw_of hx
  exact rz_of r1 q1 hv hg fun z S' μ' F' w H' hz x' r' q' => post z S' μ' F' w H' hz (e1.trans x') r' q'
theorem SE.callBZ {x : Str} {p : Pos} {id : String} {g : PZ} (hc : CallR X (.builtin id) (rPz X.K X.mg g)) (hg : Gl X x) (hm : X.mg x = none) (hv : bootBuiltins x = some (.builtin id)) (ha : SE X Ew a wa) (hn : x ≠ "__name__") (hdb : (x == ("__debug__" : Str)) = false)
    (he : starEach [a] X.env = [(false, eval a X.env)]) : SE X Ew (.Call (.Name x p) [a] [] pos) (wZ1 m g wa) :=
  PE.imp (pe_callB hc hg hm hv (SA.cons ha SA.nil he) hn hdb he rfl) fun σ H Q h => cz_imp h
end
section
variable {K : PySem.W.Frag} {mg : Str → Option Value} {F H : Hp}
theorem dp_ints : ∀ ns : List Int, DpAll K H (ns.map V.int) (ns.map PyData.int)
  | [] => .nil
  | _ :: ns => .cons (.int _) (dp_ints ns)
mutual
theorem RT.dp (sm : Same F H) : ∀ (t : T) (v : V) (d : PyData), RT K mg F t v → t.toD = some d → Dp K H v d
  | .non, v, d, r, e => by
    rw [rt_non] at r
    subst r
    unfold T.toD at e
    cases e
    exact .non
  | .bl b, v, d, r, e => by
    rw [rt_bl] at r
    subst r
    unfold T.toD at e
    cases e
    exact .bl b
  | .int i, v, d, r, e => by
    rw [rt_int] at r
    subst r
    unfold T.toD at e
    cases e
    exact .int i
  | .str i, v, d, r, e => by
    rw [rt_str] at r
    subst r
    unfold T.toD at e
    cases e
    exact .str i
  | .tup xs, v, d, r, e => by
    rw [rt_tup] at r
    obtain ⟨a, vs, rfl, hq, r⟩ := r
    unfold T.toD at e
    cases hd : T.toDs xs with
    | none => rw [hd] at e; cases e
    | some ds =>
      rw [hd] at e
      cases e
      exact .tup (Same.seqT sm hq) (RTs.dp sm xs vs ds r hd)
  | .lst xs, v, d, r, e => by
    rw [rt_lst] at r
    obtain ⟨a, vs, rfl, hq, r⟩ := r
    unfold T.toD at e
    cases hd : T.toDs xs with
    | none => rw [hd] at e; cases e
    | some ds =>
      rw [hd] at e
      cases e
      exact .lst (SqL.of (sm _ _ hq)) (RTs.dp sm xs vs ds r hd)
  | .scr ns, v, d, r, e => by
    rw [rt_scr] at r
    obtain ⟨a, rfl, hq⟩ := r
    unfold T.toD at e
    cases e
    exact .lst (sm.seq hq) (dp_ints ns)
  | .emp, v, d, r, e => by unfold T.toD at e; cases e
  | .ty _, v, d, r, e => by unfold T.toD at e; cases e
  | .glb _, v, d, r, e => by unfold T.toD at e; cases e
  | .exc _, v, d, r, e => by unfold T.toD at e; cases e
  | .exc1 _ _ _, v, d, r, e => by unfold T.toD at e; cases e
theorem RTs.dp (sm : Same F H) : ∀ (ts : List T) (vs : List V) (ds : List PyData), RTs K mg F ts vs → T.toDs ts = some ds → DpAll K H vs ds
  | [], vs, ds, r, e => by
    rw [rts_nil] at r
    subst r
    unfold T.toDs at e
    cases e
    exact .nil
  | t :: ts, vs, ds, r, e => by
    rw [rts_cons] at r
    obtain ⟨v, vr, rfl, h1, h2⟩ := r
    unfold T.toDs at e
    cases e1 : T.toD t with
    | none => rw [e1] at e; cases e
    | some d =>
      cases e2 : T.toDs ts with
      | none => rw [e1, e2] at e; cases e
      | some dr =>
        rw [e1, e2] at e
        cases e
        exact .cons (RT.dp sm t v d h1 e1) (RTs.dp sm ts vr dr h2 e2)
end
end
theorem rv_dp {K : PySem.W.Frag} {mg : Str → Option Value} {F H : Hp} (sm : Same F H) {t : T} {v : V} {d : PyData} (r : RV K mg F H t v) (e : t.toD = some d) : Dp K H v d := by
  cases t with
  | lst xs =>
    rw [rv_lst] at r
    obtain ⟨a, vs, rfl, h1, h2⟩ := r
    unfold T.toD at e
    cases hd : T.toDs xs with
    | none => rw [hd] at e; cases e
    | some ds =>
      rw [hd] at e
      cases e
      exact .lst (SqL.of h1) (RTs.dp sm xs vs ds h2 hd)
  | emp => unfold T.toD at e; cases e
  | _ =>
    unfold RV at r
    exact RT.dp sm _ v d r e
def idxD (d : PyData) : List PyData → Option Nat
  | [] => none
  | z :: zs => if PyData.eqv z d = true then some 0 else (idxD d zs).map (· + 1)
theorem idxD_spec {d : PyData} : ∀ {ds : List PyData} {j : Nat}, idxD d ds = some j → ∃ z, ds[j]? = some z ∧ PyData.eqv z d = true ∧ ∀ (m : Nat) (z' : PyData), m < j → ds[m]? = some z' → PyData.eqv z' d = false
  | [], j, e => by cases e
  | z :: zs, j, e => by
    unfold idxD at e
    by_cases h : PyData.eqv z d = true
    · rw [if_pos h] at e
      cases e
      exact ⟨z, rfl, h, fun m z' hm => absurd hm (Nat.not_lt_zero _)⟩
    · rw [if_neg h] at e
      cases q : idxD d zs with
      | none => rw [q] at e; cases e
      | some i =>
        rw [q] at e
        cases e
        obtain ⟨y, h1, h2, h3⟩ := idxD_spec q
        refine ⟨y, h1, h2, fun m z' hm hz => ?_⟩
        cases m with
        | zero =>
          cases hz
          exact Bool.eq_false_iff.mpr h
        | succ m => exact h3 m z' (by have z : m + 1 < i + 1 := hm; omega) hz
def oIndexL : T → T → (T → Prop) → Prop
  | .lst xs, b, k => ∃ ds d j, T.toDs xs = some ds ∧ b.toD = some d ∧ SeqAt.shaped (.list ds) = true ∧ SeqAt.shaped d = true ∧ idxD d ds = some j ∧ k (.int (j : Nat))
  | _, _, _ => False
def isLW (S : Sto) (x : W) : Prop := ∃ xs, view S x = some (.lst xs)
def wIndex (wo we : WE) : WE := fun env S E R => wo env S E fun x S1 => isLW S1 x ∧ we env S1 E fun y S2 => vw S2 [x, y] fun ts => g2 oIndexL ts fun t => R (.t t) S2
theorem isLW_t {S : Sto} {xs : List T} : isLW S (.t (.lst xs)) = True := eq_true ⟨xs, rfl⟩
/-- what may stand ahead of the dot of a method -/
def baseOk : Expr → Bool
  | .Name .. => true
  | .Constant .. => true
  | .Subscript .. => true
  | .List .. => true
  | .BinOp .. => true
  | _ => false
section
variable {X : Cx} {Ew : WX} {o a e : Expr} {wo we wa : WE} {apos cpos pos : Pos}
theorem base_of {name : Str} (h : baseOk o = true) : attributeBase o name X.env (eval o X.env) = eval o X.env := by
  unfold baseOk at h
  split at h <;> first | rfl | cases h
theorem SE.index (hu : X.A.units + 65 < cLine) (ho : SE X Ew o wo) (he : SE X Ew e we) (hb : baseOk o = true) (hs : starEach [e] X.env = [(false, eval e X.env)]) (hl : (apos.endLine == cpos.line) = true) :
    SE X Ew (.Call (.Attribute o "index" apos) [e] [] cpos) (wIndex wo we) :=
  PE.imp (pe_bm PySem.F.plainAttrs_list PySem.F.slot_list_index PySem.F.type_list_index (mt_indexD hu) ho (pa_cons he pa_nil hs) (base_of hb) (by rw [hs]; rfl) hl hs rfl)
  fun σ H Q ⟨μ, F, env, S, E, R, rel, hw, xo, post⟩ => by
    refine ⟨μ, F, env, S, E, _, rel, hw, xo, fun x S1 μ1 F1 v H1 hx x1 r1 q1 => ?_⟩
    obtain ⟨⟨xs0, hv0⟩, hx⟩ := hx
    have p0 := views_ok (ws := [x]) (ts := [.lst xs0]) r1 ⟨v, [], rfl, q1, rfl⟩ (by unfold views; rw [hv0]; rfl)
    have p1 := rvs1 p0
    rw [rv_lst] at p1
    obtain ⟨a0, vs0, rfl, h0, q0⟩ := p1
    refine ⟨.inl ⟨rfl, _, SqL.of h0⟩, μ1, F1, env, S1, E, _, r1, hx, xo.ext x1, fun y S2 μ2 F2 u H2 hy x2 r2 q2 => ?_⟩
    obtain ⟨ts, hv, hg⟩ := vw_of hy
    have z := views_ok (ws := [x, y]) r2 ⟨_, [u], rfl, q1.ext x2, u, [], rfl, q2, rfl⟩ hv
    obtain ⟨b, c, rfl, ho⟩ := g2_of hg
    obtain ⟨z1, z2⟩ := rvs2 z
    unfold oIndexL at ho
    split at ho
    · obtain ⟨ds, d, j, e1, e2, s1, s2, hj, hk⟩ := ho
      obtain ⟨w, w1, w2, w3⟩ := idxD_spec hj
      rw [rv_lst] at z1
      obtain ⟨a1, vs1, e3, h1, q3⟩ := z1
      cases e3
      have dl : Dp X.K H2 (.ref a0) (.list ds) := .lst (SqL.of h1) (RTs.dp r2.sub _ _ _ q3 e1)
      have dy : Dp X.K H2 u d := rv_dp r2.sub z2 e2
      exact ⟨a0, u, d, ds, j, w, rfl, rfl, dl, dy, s1, s2, w1, w2, w3, post (.t (.int (j : Nat))) S2 μ2 F2 _ H2 hk (x1.trans x2) r2 (show RT X.K X.mg F2 (.int (j : Nat)) (.int (j : Nat)) from rt_int.mpr rfl)⟩
    · exact ho.elim
end
def oJoin : T → T → (T → Prop) → Prop
  | .str a, .lst xs, k => ∃ ys, strsT xs = some ys ∧ (ys.map (·.length)).sum + ys.length * a.length ≤ 16777216 ∧ k (.str (Txt.join a ys))
  | .str a, .tup xs, k => ∃ ys, strsT xs = some ys ∧ (ys.map (·.length)).sum + ys.length * a.length ≤ 16777216 ∧ k (.str (Txt.join a ys))
  | _, _, _ => False
def wJoin (s : Str) (we : WE) : WE := fun env S E R => we env S E fun y S1 => vw S1 [y] fun ts => g1 (oJoin (.str s)) ts fun t => R (.t t) S1
section
variable {X : Cx} {Ew : WX} {o a e : Expr} {wo we wa : WE} {apos cpos pos : Pos}
theorem SE.join {s : Str} {j : Nat} {p : Pos} (he : SE X Ew e we) (hs : starEach [e] X.env = [(false, eval e X.env)]) (hl : (apos.endLine == cpos.line) = true) :
    SE X Ew (.Call (.Attribute (.Constant (.str s) j p) "join" apos) [e] [] cpos) (wJoin s we) :=
  PE.imp (pe_m1 PySem.F.slot_str_join PySem.F.type_str_join mt_join pe_str he hs rfl hl)
  fun σ H Q ⟨μ, F, env, S, E, R, rel, hw, xo, post⟩ => by
    refine ⟨⟨s, rfl⟩, μ, F, env, S, E, _, rel, hw, xo, fun y S1 μ1 F1 u H1 hy x1 r1 q1 => ?_⟩
    obtain ⟨ts, hv, hg⟩ := vw_of hy
    have z := views_ok (ws := [y]) r1 ⟨u, [], rfl, q1, rfl⟩ hv
    obtain ⟨b, rfl, ho⟩ := g1_of hg
    have z1 := rvs1 z
    unfold oJoin at ho
    split at ho
    · rename_i e0
      cases e0
      obtain ⟨ys, e1, hz, hk⟩ := ho
      rw [rv_lst] at z1
      obtain ⟨a1, vs1, rfl, h1, q3⟩ := z1
      have ev := strsT_ok e1 q3
      subst ev
      exact ⟨s, a1, ys, rfl, rfl, .inl (SqL.of h1), hz, post (.t (.str (Txt.join s ys))) S1 μ1 F1 _ H1 hk x1 r1 (show RT X.K X.mg F1 _ _ from rt_str.mpr rfl)⟩
    · rename_i e0
      cases e0
      obtain ⟨ys, e1, hz, hk⟩ := ho
      rw [rv_tup] at z1
      obtain ⟨a1, vs1, rfl, h1, q3⟩ := z1
      have ev := strsT_ok e1 q3
      subst ev
      exact ⟨s, a1, ys, rfl, rfl, .inr (Same.seqT r1.sub h1), hz, post (.t (.str (Txt.join s ys))) S1 μ1 F1 _ H1 hk x1 r1 (show RT X.K X.mg F1 _ _ from rt_str.mpr rfl)⟩
    · exact ho.elim
end
def wPopAt (i : Nat) (we : WE) : WE := fun env S E R => ∃ j xs0, gE env i = some (.ref j) ∧ S[j]? = some (.lst xs0) ∧ we env S E fun y S1 => ∃ xs n k t, S1[j]? = some (.lst xs) ∧ y = .t (.int n) ∧ -(2 ^ 63) ≤ n ∧ n < 2 ^ 63 ∧ seqIndex? n xs.length = some k ∧ xs[k]? = some t ∧ R (.t t) (S1.set j (.lst (xs.eraseIdx k)))
section
variable {X : Cx} {Ew : WX} {o a e : Expr} {wo we wa : WE} {apos cpos p : Pos}
theorem RTs.erase {K : PySem.W.Frag} {mg : Str → Option Value} {F : Hp} : ∀ {xs : List T} {vs : List V} (k : Nat), RTs K mg F xs vs → RTs K mg F (xs.eraseIdx k) (vs.eraseIdx k)
  | [], vs, k, r => by
    have e := rts_nil.mp r
    subst e
    exact rts_nil.mpr rfl
  | x :: xs, vs, k, r => by
    obtain ⟨v, vr, rfl, h1, h2⟩ := rts_cons.mp r
    cases k with
    | zero => exact h2
    | succ k => exact RTs.cons h1 (RTs.erase k h2)
theorem SE.popAt {i : Nat} {x : Str} (hN : X.N[i]? = some x) (hv : Vis X.env.scope x) (hd : (x == ("__debug__" : Str)) = false) (hcd : (x == ("__classdict__" : Str)) = false) (he : SE X Ew e we) (hs : starEach [e] X.env = [(false, eval e X.env)]) (hl : (apos.endLine == cpos.line) = true) :
    SE X Ew (.Call (.Attribute (.Name x p) "pop" apos) [e] [] cpos) (wPopAt i we) :=
  PE.imp (pe_bm PySem.F.plainAttrs_list PySem.F.slot_list_pop PySem.F.type_list_pop mt_popAt (pe_var hN hv hd hcd) (pa_cons he pa_nil hs) rfl (by rw [hs]; rfl) hl hs rfl)
  fun σ H Q ⟨μ, F, env, S, E, R, rel, hw, xo, post⟩ => by
    obtain ⟨j, xs0, hj, hS0, hw⟩ := hw
    obtain ⟨v, e1, a, ha, rfl⟩ := rel.env i _ (gE_iff hj)
    obtain ⟨vs0, hH0, _⟩ := rel.sto j a _ ha hS0
    refine ⟨.ref a, e1, .inl ⟨rfl, _, SqL.of hH0⟩, μ, F, env, S, E, _, rel, hw, xo, fun y S1 μ1 F1 v H1 hy x1 r1 q1 => ?_⟩
    obtain ⟨xs, n, k, t, hS, rfl, n1, n2, hk, ht, hR⟩ := hy
    obtain ⟨vs, hH, rv⟩ := r1.sto j a _ (x1.pre j a ha) hS
    have ev : v = .int n := int_of q1
    subst ev
    obtain ⟨u, hu, ru⟩ := rv.get ht
    exact ⟨a, vs, n, k, u, rfl, rfl, hH, n1, n2, by rw [rv.length]; exact hk, hu, post _ _ μ1 F1 _ _ hR x1 (r1.put (x1.pre j a ha) hS rfl ⟨_, upd_same, rv.erase k⟩) ru⟩
end
def minS : Str → List Str → Str
  | s, [] => s
  | s, y :: r => minS (if y.cps.toList < s.cps.toList then y else s) r
theorem minD_strs : ∀ (ss : List Str) (s : Str), PySem.W.minD (.str s) (ss.map .str) = .str (minS s ss)
  | [], s => rfl
  | y :: r, s => by
    show PySem.W.minD (if PySem.W.dataLt (.str y) (.str s) = true then .str y else .str s) (r.map .str) = _
    rw [PySem.W.dataLt_str]
    unfold minS
    by_cases h : y.cps.toList < s.cps.toList
    · rw [decide_eq_true h, if_pos rfl, if_pos h]
      exact minD_strs r y
    · rw [decide_eq_false h, if_neg (by decide), if_neg h]
      exact minD_strs r s
def oMinL : T → (T → Prop) → Prop
  | .lst xs, k => ∃ s ss, strsT xs = some (s :: ss) ∧ k (.str (minS s ss))
  | _, _ => False
theorem strs_toDs : ∀ {xs : List T} {ys : List Str}, strsT xs = some ys → T.toDs xs = some (ys.map .str)
  | [], ys, e => by cases e; rfl
  | x :: xs, ys, e => by
    unfold strsT at e
    split at e
    · rename_i b bs e2
      cases e
      unfold T.toDs
      rw [strs_toDs e2]
      rfl
    · cases e
theorem depth_strs : ∀ ys : List Str, PyData.depthAll (ys.map .str) = 0
  | [] => by unfold PyData.depthAll; rfl
  | y :: ys => by
    rw [List.map_cons]
    unfold PyData.depthAll
    rw [depth_strs ys]
    unfold PyData.depth
    rfl
section
variable {X : Cx}
theorem call_minLT (hc : X.calm = true) (hu : X.A.units + 65 < cLine) : CallT X (.builtin "min") (g1 oMinL) := callT_of1 fun pins s σ H x us Q F a R I r sm r1 ho post => by
  unfold oMinL at ho
  split at ho
  · obtain ⟨y, ys, e, hk⟩ := ho
    rw [rv_lst] at r1
    obtain ⟨p, vs, rfl, h1, q1⟩ := r1
    obtain ⟨its, rv, hl, _⟩ := I.list (SqL.of h1)
    rw [Vals.ref1 r]
    obtain ⟨as, hr⟩ := RTs.reads I sm _ vs its _ q1 rv (strs_toDs e)
    refine PySem.W.min_list_data (as := as) (I.ok.hd hc) hl.isList (by simpa using hr) ⟨?_, ?_⟩ ?_ fun i v h' tk bs hv hrd hkk => ?_
    · intro x hx z hz
      rw [← List.map_cons (f := PyData.str)] at hx hz
      obtain ⟨x', -, rfl⟩ := List.mem_map.mp hx
      obtain ⟨z', -, rfl⟩ := List.mem_map.mp hz
      rfl
    · intro x hx
      rw [← List.map_cons (f := PyData.str)] at hx
      obtain ⟨x', -, rfl⟩ := List.mem_map.mp hx
      exact fun z => nomatch z
    · have z := depth_strs (y :: ys)
      rw [List.map_cons] at z
      rw [z]
      omega
    · rw [minD_strs] at hrd
      cases hrd
      exact ⟨.str _, H, I.kept hkk, ⟨_, rfl⟩, flat_post sm post hk (rt_str.mpr rfl)⟩
  · exact ho.elim
end
theorem RTs.reverse {K : PySem.W.Frag} {mg : Str → Option Value} {F : Hp} : ∀ {xs : List T} {vs : List V}, RTs K mg F xs vs → RTs K mg F xs.reverse vs.reverse
  | [], vs, r => by
    have e := rts_nil.mp r
    subst e
    exact rts_nil.mpr rfl
  | x :: xs, vs, r => by
    obtain ⟨v, vr, rfl, h1, h2⟩ := rts_cons.mp r
    rw [List.reverse_cons, List.reverse_cons]
    exact (RTs.reverse h2).append (RTs.cons h1 (rts_nil.mpr rfl))
def oRev : T → (Rz → Prop) → Prop
  | .lst xs, k => k (.nl xs.reverse)
  | .str z, k => z.length ≤ sizeLine ∧ k (.tr (.str ⟨z.cps.toList.reverse.toArray⟩))
  | _, _ => False
theorem rev_str (z : Str) : (Builtin.Str.strSliceIndices none none (-1) z.length).filterMap (z.cps[·]?) = z.cps.toList.reverse := by
  show (sliceRange ((z.length : Int) - 1) (-1) (-1)).filterMap (z.cps[·]?) = _
  rw [PySem.W.krv_sliceRange, PySem.W.krv_range, List.filterMap_reverse]
  exact congrArg List.reverse (PySem.W.krv_all z.cps)
section
variable {X : Cx} {Ew : WX} {m : Bool} {e : Expr} {we : WE}
theorem pe_revA {te : TE} {k : Nat} {p1 p2 p3 pos : Pos} (he : PE X e te) : PE X (.Subscript e (.Slice none none (some (.UnaryOp .USub (.Constant (.int 1) k p1) p2)) p3) pos) (fun σ H Q => te σ H fun x H1 => rPz X.K X.mg (z1 oRev) [x] H1 Q) := by
  refine ⟨fun pins s σ H Q I h => Subscript_ (thn (he.run pins s σ H _ I h) fun v s1 ⟨x, H1, I1, r1, F, ts, R, sm, rv, hg, post1, post⟩ => ?_)⟩
  obtain ⟨a, rfl, ho⟩ := z1_of hg
  have z0 := rvs1 rv
  have hst : PO X (some (.UnaryOp .USub (.Constant (.int 1) k p1) p2)) (tPart (tUn (rU fun i => .int (-i)) (tC (.int 1)))) := po_some (pe_un un_neg pe_int)
  refine wpAny_Slice (thn (po_none.run pins s1 σ H1 (fun o H2 => o = none ∧ H2 = H1) I1 ⟨rfl, rfl⟩) fun vl s2 ⟨l, H2, I2, pl, el, e2⟩ => ?_)
  subst el e2
  refine thn (po_none.run pins s2 σ H2 (fun o H3 => o = none ∧ H3 = H2) I2 ⟨rfl, rfl⟩) fun vu s3 ⟨u, H3, I3, pu, eu, e3⟩ => ?_
  subst eu e3
  refine thn (hst.run pins s3 σ H3 (fun o H4 => o = some (-1) ∧ H4 = H3) I3 ⟨1, rfl, -1, rfl, rfl, rfl⟩) fun vs s4 ⟨o, H4, I4, ps, eo, e4⟩ => ?_
  subst eo e4
  have I5 : Inv X pins σ H4 { s4 with heap := s4.heap.push { cls := .type "slice", data := .fields #[vl, vu, vs] } } := I4.kept (t' := s4.toks) fun b ob q => Heap.get?_push_of_some _ q
  unfold oRev at ho
  split at ho
  · rw [rv_lst] at z0
    obtain ⟨p, vs0, rfl, h1, q1⟩ := z0
    cases r1
    obtain ⟨its, r, ht, hz⟩ := I5.list (SqL.of h1)
    have hlen := r.length
    show wpAny (model X.prog X.w) X.A (subscriptTail e (.Slice none none (some (.UnaryOp .USub (.Constant (.int 1) k p1) p2)) p3) (.ref p) (.ref s4.heap.objs.size)) (EP X pins σ Q) X.xe { s4 with heap := s4.heap.push { cls := .type "slice", data := .fields #[vl, vu, vs] } }
    refine tail_any (ops := [.ref p, .ref s4.heap.objs.size]) ht.isList.typeIs (PySem.slot_list_getitem.lookup) ?_ (by with_unfolding_all rfl)
    refine wpAny_getItem_list_slice ht.isList (Heap.IsSliceOf.new _ vl vu vs) pl pu ps (by decide) ?_ (by rw [List.size_toArray]; omega)
    rw [PySem.W.krv_pick]
    refine ⟨.ref _, _, I5.laid (t' := s4.toks) (o := .lst vs0.reverse) (fun b ob q => Heap.get?_push_of_some _ q) (Nat.le_refl _) ?_, rfl, post _ _ _ ho q1.reverse (I5.hok.fresh (Nat.le_refl _))⟩
    exact ⟨by rw [List.length_reverse]; exact hz, _, 0, r.reverse, Heap.get?_push_size _ rfl⟩
  · rename_i z
    rw [rv_str] at z0
    subst z0
    obtain ⟨t, rfl⟩ := r1
    obtain ⟨l, rfl, hl1⟩ := IsPart.raw pl
    obtain ⟨u, rfl, hu1⟩ := IsPart.raw pu
    obtain ⟨q, rfl, hq1⟩ := IsPart.raw ps
    show wpAny (model X.prog X.w) X.A (subscriptTail e (.Slice none none (some (.UnaryOp .USub (.Constant (.int 1) k p1) p2)) p3) (.str z t) (.ref s4.heap.objs.size)) (EP X pins σ Q) X.xe _
    refine tail_any (ops := [.str z t, .ref s4.heap.objs.size]) (PySem.typeIs_str _ z t) (PySem.F.slot_str_getitem.lookup) ?_ (by with_unfolding_all rfl)
    refine PySem.wpAny_getItem_str_slice (l := l) (u := u) (st := q) ⟨_, Heap.get?_push_size _ rfl, rfl, rfl⟩ (by rw [hq1]; rfl) ?_
    have em : sliceMade z t l u q = Made.str ⟨z.cps.toList.reverse.toArray⟩ := by
      unfold sliceMade slicePicked
      rw [hl1, hu1, hq1, ← rev_str z]
      rfl
    rw [em]
    refine ⟨?_, .str _, H4, I5.tok _, ⟨_, rfl⟩, post1 _ F H4 _ ho.2 (Step.refl sm) (rt_str.mpr rfl)⟩
    have e1 : (⟨z.cps.toList.reverse.toArray⟩ : Str).length = z.length := by
      show z.cps.toList.reverse.toArray.size = z.cps.size
      simp
    rw [e1]
    exact ho.1
  · exact ho.elim
theorem SE.rev {k : Nat} {p1 p2 p3 pos : Pos} (he : SE X Ew e we) : SE X Ew (.Subscript e (.Slice none none (some (.UnaryOp .USub (.Constant (.int 1) k p1) p2)) p3) pos) (wZ1 m (z1 oRev) we) :=
  PE.imp (pe_revA he) fun σ H Q ⟨μ, F, env, S, E, R, rel, hw, xo, post⟩ => by
    refine ⟨μ, F, env, S, E, _, rel, hw, xo, fun x S1 μ1 F1 v H1 hx x1 r1 q1 => ?_⟩
    obtain ⟨ts, hv, hg⟩ := vw_of hx
    exact rz_of r1 (ws := [x]) (vs := [v]) ⟨v, [], rfl, q1, rfl⟩ hv hg fun z S' μ' F' w H' hz x' r' q' => post z S' μ' F' w H' hz (x1.trans x') r' q'
end
end Tw
set_option Elab.async false
set_option linter.all false
set_option maxRecDepth 100000
set_option maxHeartbeats 1000000
namespace Tw
open PySem PySem.Spec PyProof.Rows L2
open Sem (wp)
/-- enumerate(v) with one argument, v told by what iter(v) makes -/
theorem meets_enum1 {v : Value} {o : Obj} {P : Heap → Prop} (B : Begins v o P) :
    Meets (Builtin.«enumerate.__new__» ⟨[.type "enumerate", v], []⟩) (fun _ R s => P s.heap ∧
      R (.ok (.ret (.ref (s.heap.push o).objs.size))) { s with heap := (s.heap.push o).push { cls := .type "enumerate", data := .fields #[.none, .bool false, .ref s.heap.objs.size, rawInt 0, .none, .none] } }) :=
  .of_wp fun prog w A R s h => by
    obtain ⟨hp, g, d, tk, os⟩ := s
    obtain ⟨hP, h⟩ := h
    have hsub := sub_enumerate
    have begin1 : ∀ {A' : Around} {E : Value → Shared → Prop} {Q : Value → Shared → Prop}, Q (.ref hp.objs.size) ⟨hp.push o, g, d, tk, os⟩ → wpAny (model prog w) A' (pyIter v) Q E ⟨hp, g, d, tk, os⟩ := fun q =>
      B.iter prog w _ _ ⟨hp, g, d, tk, os⟩ _ hP q
    wp_walk using begin1
    refine wpAny_stack_any fun st => wpAny_pure ?_
    split
    · rename_i c _ _ _ _ _
      cases (c == Value.type "enumerate")
      all_goals (wp_walk using begin1; exact ⟨_, rfl, h⟩)
    · wp_walk using begin1
      exact ⟨_, rfl, h⟩
theorem call_enum1 {prog : Program} {w : World} {A : Around} {E : Value → Shared → Prop} {s : Shared} {v : Value} {o : Obj} {P : Heap → Prop} {Q : Value → Shared → Prop} (B : Begins v o P) (h1 : P s.heap)
    (h : ∀ h', IsEnum h' (s.heap.objs.size + 1) s.heap.objs.size 0 .none → h'.get? s.heap.objs.size = some o → (∀ b o, s.heap.get? b = some o → h'.get? b = some o) → Q (.ref (s.heap.objs.size + 1)) { s with heap := h' }) :
    wpAny (model prog w) A (call (.type "enumerate") [v]) Q E s := by
  have hz : (s.heap.push o).objs.size = s.heap.objs.size + 1 := Heap.size_push ..
  refine callType_new F.called_enumerate (by decide) (F.typeCall_enumerate_1 _) (F.newCall_enumerate_1 _) (fun obj => F.args_object_init_2 obj _) F.entry_enumerate_new (meets_enum1 B) ⟨h1, ?_⟩
  show _ ∧ _
  rw [hz]
  have he : IsEnum ((s.heap.push o).push { cls := .type "enumerate", data := .fields #[.none, .bool false, .ref s.heap.objs.size, rawInt 0, .none, .none] }) (s.heap.objs.size + 1) s.heap.objs.size 0 .none := by
    have z := Heap.get?_push_size (s.heap.push o) (o := { cls := .type "enumerate", data := .fields #[.none, .bool false, .ref s.heap.objs.size, rawInt 0, .none, .none] }) rfl
    rw [hz] at z
    exact z
  exact ⟨⟨_, he, rfl⟩, h _ he (Heap.get?_push_of_some _ (Heap.get?_push_size _ B.free)) fun b o x => Heap.get?_push_of_some _ (Heap.get?_push_of_some _ x)⟩

/-- the pairs that a turn yields -/
def yldP (x : Nat → V → Prop) : Nat → Hp → V → Hp → Prop := fun i H v H' => ∃ (T : Addr) (u : V) (us : List Value), v = .ref T ∧ H T = none ∧ H' = upd H T (.frz (tObj us) (.tup [.int (i : Nat), u])) ∧ x i u
def ItE (go : Nat → Hp → Prop) (stop : Nat → Hp → Prop) (x : Hp → Nat → V → Prop) : It := ⟨go, fun i H v H' => yldP (x H) i H v H', stop⟩
/-- enumerate by what the inner iterator draws: per turn -/
theorem turn_enumD {P : Program} {w : World} {K : PySem.W.Frag} {elts : List Expr} {kk : Nat} {tpos : Pos} {go stop : Nat → Hp → Prop} {x : Hp → Nat → V → Prop} (e it : Addr) (hne : e ≠ it) (St : Nat → Heap → Prop)
    (hobj : ∀ i h, St i h → ∃ o, h.get? it = some o ∧ ∀ v, o.data ≠ .cell v)
    (hkeep : ∀ i (h h' : Heap), St i h → (∀ o, h.get? it = some o → h'.get? it = some o) → St i h')
    (hitem : ∀ (X : Cx) (i : Nat) (pins : List (Addr × Obj)) (s : Shared) (σ : L2.St) (H : Hp), X.prog = P → X.w = w → X.K = K → X.A.handled = none → Inv X pins σ H s → St i s.heap → go i H → e ∉ [it] →
      ∃ (fp : List Addr) (n : Nat) (PP : Nat → Value → Prop) (St' : Nat → Heap → Prop), Draws X.prog X.w X.A.in1 it fp n PP St' ∧ St' i s.heap ∧ i < n ∧ e ∉ fp ∧ (∀ h', St' (i + 1) h' → St (i + 1) h') ∧ ∀ v, PP i v → ∃ u, RelV u v ∧ x H i u)
    (hdone : ∀ (X : Cx) (i : Nat) (pins : List (Addr × Obj)) (s : Shared) (σ : L2.St) (H : Hp), X.prog = P → X.w = w → X.K = K → X.A.handled = none → Inv X pins σ H s → St i s.heap → stop i H →
      ∃ (fp : List Addr) (n : Nat) (PP : Nat → Value → Prop) (St' : Nat → Heap → Prop), Draws X.prog X.w X.A.in1 it fp n PP St' ∧ St' n s.heap) :
    Turn P w K (.Tuple elts kk tpos) (ItE go stop x) [e, it] e (fun i h => (∃ old, IsEnum h e it ((i : Nat) : Int) old) ∧ St i h) where
  mem := by simp
  obj := fun i h st b hb => by
    obtain ⟨⟨old, he⟩, hs⟩ := st
    have e' : b = e ∨ b = it := by simpa using hb
    rcases e' with z | z
    · rw [z]; exact ⟨_, he, fun v q => nomatch q⟩
    · rw [z]; exact hobj i h hs
  keep := fun i h h' st k => by
    obtain ⟨⟨old, he⟩, hs⟩ := st
    exact ⟨⟨old, k e (by simp) _ he⟩, hkeep i h h' hs fun o q => k it (by simp) o q⟩
  item := by
    intro X hP hw hK hc i pins s σ H E I hf st hg
    obtain ⟨⟨old, he⟩, hs⟩ := st
    obtain ⟨fp, n, PP, St', D, hst, hi, hef, hnx, hrel⟩ := hitem X i pins s σ H hP hw hK (I.ok.hd hc) I hs hg (by simpa using hne)
    subst hP hw hK
    have hel : e < s.heap.objs.size := Heap.lt_size he
    have hil : it < s.heap.objs.size := by obtain ⟨_, q, _⟩ := hobj i _ hs; exact Heap.lt_size q
    refine wpAny_pyNext_enum_itemC D he hst hi hne hef fun v h' tk hv ho hst2 hT hsz hk => ?_
    obtain ⟨u, ru, hx⟩ := hrel v hv
    have hs2 := hnx h' hst2
    refine ⟨_, rfl, wpAny_letOwnedTupleGo_enum (s := { s with heap := h', toks := tk + 1 }) ho fun h'' he' sb => ?_⟩
    have hT2 : h''.get? s.heap.objs.size = some { cls := .type "tuple", data := .seq #[.int i tk, v] } := (sb.2 _ (Nat.ne_of_gt hel)).trans hT
    have new : ObjOk X.prog X.w (upd H s.heap.objs.size (.frz (tObj [.int i tk, v]) (.tup [.int (i : Nat), u]))) h'' s.heap.objs.size (.frz (tObj [.int i tk, v]) (.tup [.int (i : Nat), u])) :=
      ⟨hT2, by show 2 ≤ sizeLine; decide, [.int i tk, v], .cons ⟨_, rfl⟩ (.cons ru .nil), ⟨_, hT2, rfl, _, rfl⟩⟩
    have I1 : Inv X pins σ (upd H s.heap.objs.size (.frz (tObj [.int i tk, v]) (.tup [.int (i : Nat), u]))) { s with heap := h'', toks := tk + 1 } :=
      I.turnedNew (ch := [e, it]) (fun b ob hb q => (sb.2 b (fun z => hb (by simp [z]))).trans (hk b ob (fun z => hb (by simp [z])) (fun z => hb (by simp [z])) q)) hf (Nat.le_refl _) new
    refine ⟨.ref s.heap.objs.size, _, I1, rfl, ⟨_, u, _, rfl, I.hok.fresh (Nat.le_refl _), rfl, hx⟩, ⟨⟨v, ?_⟩, hkeep _ _ _ hs2 fun o q => (sb.2 it (Ne.symm hne)).trans q⟩, fun b hb => ?_⟩
    · have e1 : ((i + 1 : Nat) : Int) = (i : Int) + 1 := by omega
      rw [e1]; exact he'
    · have hb' : b < s.heap.objs.size := by
        have e' : b = e ∨ b = it := by simpa using hb
        rcases e' with z | z
        · rw [z]; exact hel
        · rw [z]; exact hil
      rw [upd_ne (Nat.ne_of_lt hb')]
      exact (hf b hb).1
  done := by
    intro X hP hw hK hc i pins s σ H E I hf st hg
    obtain ⟨⟨old, he⟩, hs⟩ := st
    obtain ⟨fp, n, PP, St', D, hst⟩ := hdone X i pins s σ H hP hw hK (I.ok.hd hc) I hs hg
    subst hP hw hK
    obtain ⟨f0, f1, f2, f3, f4, f5⟩ := hf it (by simp)
    exact wpAny_pyNext_enum_endD D he hst fun h' eb => ⟨rfl, I.turned (t' := s.toks) (fun b o hb q => eb b o hb q) f0 f1 f3 f4 f5⟩
  self := fun A i s Q E st h => let ⟨⟨_, he⟩, _⟩ := st; wpAny_pyIter_enum he h
def ItEl (K : PySem.W.Frag) (a : Addr) : It := ItE (fun i H => ∃ vs u, SqL K H a vs ∧ vs[i]? = some u) (fun i H => ∃ vs, SqL K H a vs ∧ vs.length ≤ i) (fun H i u => ∀ vs, SqL K H a vs → vs[i]? = some u)
def ItEt (K : PySem.W.Frag) (a : Addr) : It := ItE (fun i H => ∃ vs u, SqT K H a vs ∧ vs[i]? = some u) (fun i H => ∃ vs, SqT K H a vs ∧ vs.length ≤ i) (fun H i u => ∀ vs, SqT K H a vs → vs[i]? = some u)
def ItEs (x : Str) : It := ItE (fun i _ => i < x.cps.size) (fun i _ => x.cps.size ≤ i) (fun _ i u => ∃ c, x.cps[i]? = some c ∧ u = .str ⟨#[c]⟩)
/-- an iterator at its end alone -/
theorem draws_end {prog : Program} {w : World} {A : Around} {it : Addr} {n : Nat} (St : Heap → Prop) (fp : List Addr) (live : ∀ h, St h → ∃ o, h.get? it = some o) (frame : ∀ h h', St h → (∀ b ∈ fp, ∀ o, h.get? b = some o → h'.get? b = some o) → St h')
    (done : ∀ (s : Shared) (Q : Value → Shared → Prop) (E : Value → Shared → Prop), St s.heap →
      (∀ h' e, Heap.ExtBut it s.heap h' → (∃ o, h'.get? e = some o ∧ o.cls = .type "StopIteration") → E (.ref e) { s with heap := h' }) → wpAny (model prog w) A (Builtin.SmallTypes.nextOf (.ref it)) Q E s) :
    Draws prog w A it fp n (fun _ _ => True) (fun i h => i = n ∧ St h) where
  live := fun _ _ st => live _ st.2
  frame := fun _ _ _ st k => ⟨st.1, frame _ _ st.2 k⟩
  item := fun i s Q E hi st _ => absurd st.1 (Nat.ne_of_lt hi)
  done := fun s Q E st h => done s Q E st.2 h
section
variable {P : Program} {w : World} {K : PySem.W.Frag} {elts : List Expr} {kk : Nat} {tpos : Pos}
theorem ne_cls {h : Heap} {a it : Addr} {o o2 : Obj} {c d : String} (ho : h.get? it = some o) (hc : o.cls = .type c) (ho2 : h.get? a = some o2) (hc2 : o2.cls = .type d) (hd : ¬ c = d) : a ≠ it := fun z => by
  rw [z, ho] at ho2
  cases ho2
  rw [hc] at hc2
  cases hc2
  exact hd rfl
theorem turn_enumL (a e it : Addr) (hne : e ≠ it) (hae : a ≠ e) : Turn P w K (.Tuple elts kk tpos) (ItEl K a) [e, it] e (fun i h => (∃ old, IsEnum h e it ((i : Nat) : Int) old) ∧ h.IsListIter it a i) :=
  turn_enumD e it hne (fun i h => h.IsListIter it a i) (fun i h st => by
    obtain ⟨o, ho, hc, hd⟩ := st
    exact ⟨o, ho, fun v q => by rw [hd] at q; cases q⟩) (fun i h h' st k => st.at k)
  (fun X i pins s σ H hP hw hK hh I st hg _ => by
    subst hP hw hK
    obtain ⟨vs, u, hq, hu⟩ := hg
    obtain ⟨its, rv, p, _⟩ := I.list hq
    obtain ⟨v, hv, ru⟩ := rv.get hu
    obtain ⟨o, ho, hc, _⟩ := id st
    obtain ⟨o2, ho2, hc2, _⟩ := p.isList
    refine ⟨_, _, _, _, Draws.list (A := X.A.in1) hh it a (ne_cls ho hc ho2 hc2 (by decide)) its.toArray, ⟨st, p.isList⟩, ?_, ?_, fun h' q => q.1, fun v2 hv2 => ⟨u, ?_, fun vs2 h2 => by rw [I.list_inj h2 hq]; exact hu⟩⟩
    · have := (List.getElem?_eq_some_iff.mp hv).1
      simpa using this
    · intro q
      rcases List.mem_cons.mp q with q | q
      · exact hne q
      · exact hae (List.mem_singleton.mp q).symm
    · have e2 : its[i]? = some v2 := by simpa using hv2
      rw [hv] at e2
      cases e2
      exact ru)
  (fun X i pins s σ H hP hw hK hh I st hg => by
    subst hP hw hK
    obtain ⟨vs, hq, hl⟩ := hg
    obtain ⟨its, rv, p, _⟩ := I.list hq
    have hn := rv.length
    exact ⟨_, i, _, _, draws_end (fun h => h.IsListIter it a i ∧ h.IsList a its.toArray) [it, a] (fun h q => by obtain ⟨o, ho, _⟩ := q.1; exact ⟨o, ho⟩)
      (fun h h' q k => ⟨q.1.at fun o e => k it (by simp) o e, q.2.at fun o e => k a (by simp) o e⟩) (fun s Q E q h => wpAny_nextOf_list_end (A := X.A.in1) hh q.1 q.2 (by simp; omega) h), rfl, st, p.isList⟩)
theorem turn_enumT (a e it : Addr) (hne : e ≠ it) (hae : a ≠ e) : Turn P w K (.Tuple elts kk tpos) (ItEt K a) [e, it] e (fun i h => (∃ old, IsEnum h e it ((i : Nat) : Int) old) ∧ h.IsTupleIter it a i) :=
  turn_enumD e it hne (fun i h => h.IsTupleIter it a i) (fun i h st => by
    obtain ⟨o, ho, hc, hd⟩ := st
    exact ⟨o, ho, fun v q => by rw [hd] at q; cases q⟩) (fun i h h' st k => st.at k)
  (fun X i pins s σ H hP hw hK hh I st hg _ => by
    subst hP hw hK
    obtain ⟨vs, u, hq, hu⟩ := hg
    obtain ⟨its, rv, p, _⟩ := I.tuple hq
    obtain ⟨v, hv, ru⟩ := rv.get hu
    obtain ⟨o, ho, hc, _⟩ := id st
    obtain ⟨o2, ho2, hc2, _⟩ := id p
    have p' : s.heap.IsTuple a its.toArray := p
    refine ⟨_, _, _, _, Draws.tuple (A := X.A.in1) hh it a (ne_cls ho hc ho2 hc2 (by decide)) its.toArray, ⟨st, p'⟩, ?_, ?_, fun h' q => q.1, fun v2 hv2 => ⟨u, ?_, fun vs2 h2 => by rw [I.tuple_inj h2 hq]; exact hu⟩⟩
    · have := (List.getElem?_eq_some_iff.mp hv).1
      simpa using this
    · intro q
      rcases List.mem_cons.mp q with q | q
      · exact hne q
      · exact hae (List.mem_singleton.mp q).symm
    · have e2 : its[i]? = some v2 := by simpa using hv2
      rw [hv] at e2
      cases e2
      exact ru)
  (fun X i pins s σ H hP hw hK hh I st hg => by
    subst hP hw hK
    obtain ⟨vs, hq, hl⟩ := hg
    obtain ⟨its, rv, p, _⟩ := I.tuple hq
    have hn := rv.length
    have p' : s.heap.IsTuple a its.toArray := p
    exact ⟨_, i, _, _, draws_end (fun h => h.IsTupleIter it a i ∧ h.IsTuple a its.toArray) [it, a] (fun h q => by obtain ⟨o, ho, _⟩ := q.1; exact ⟨o, ho⟩)
      (fun h h' q k => ⟨q.1.at fun o e => k it (by simp) o e, q.2.at fun o e => k a (by simp) o e⟩) (fun s Q E q h => wpAny_nextOf_tuple_end (A := X.A.in1) hh q.1 q.2 (by simp; omega) h), rfl, st, p'⟩)
theorem turn_enumS (x : Str) (t : Tok) (e it : Addr) (hne : e ≠ it) : Turn P w K (.Tuple elts kk tpos) (ItEs x) [e, it] e (fun i h => (∃ old, IsEnum h e it ((i : Nat) : Int) old) ∧ h.IsStrIter it (strIterType x) x t i) :=
  turn_enumD e it hne (fun i h => h.IsStrIter it (strIterType x) x t i) (fun i h st => by
    obtain ⟨o, ho, hc, hd⟩ := st
    exact ⟨o, ho, fun v q => by rw [hd] at q; cases q⟩) (fun i h h' st k => let ⟨o, ho, r⟩ := st; ⟨o, k o ho, r⟩)
  (fun X i pins s σ H hP hw hK hh I st hg _ => by
    subst hP hw hK
    refine ⟨_, _, _, _, Draws.text (A := X.A.in1) hh it x t, st, hg, ?_, fun h' q => q, fun v2 ⟨c, u2, h1, h2⟩ => ⟨.str ⟨#[c]⟩, ⟨u2, h2⟩, c, h1, rfl⟩⟩
    intro q
    exact hne (List.mem_singleton.mp q))
  (fun X i pins s σ H hP hw hK hh I st hg => by
    subst hP hw hK
    have hg' : x.cps.size ≤ i := hg
    have hx : x.cps[i]? = none := by simpa using hg'
    exact ⟨_, i, _, _, draws_end (fun h => h.IsStrIter it (strIterType x) x t i) [it] (fun h q => by obtain ⟨o, ho, _⟩ := q; exact ⟨o, ho⟩)
      (fun h h' q k => let ⟨o, ho, r⟩ := q; ⟨o, k it (by simp) o ho, r⟩) (fun s Q E q h => by
        cases ha : x.cps.all (· < 128)
        · simp only [strIterType, ha, Bool.false_eq_true, if_false] at q
          exact wpAny_nextOf_wide_end (A := X.A.in1) hh q hx h
        · simp only [strIterType, ha, if_true] at q
          exact wpAny_nextOf_ascii_end (A := X.A.in1) hh q hx h), rfl, st⟩)
end
/-- for .., .. in enumerate(v) -/
def iEnumA (K : PySem.W.Frag) (te : TE) : TI := fun σ H R => te σ H fun v H1 => (∃ a vs, v = .ref a ∧ SqL K H1 a vs ∧ R (ItEl K a) H1) ∨ (∃ a vs, v = .ref a ∧ SqT K H1 a vs ∧ R (ItEt K a) H1) ∨ ∃ x, v = .str x ∧ R (ItEs x) H1
theorem pi_enumA {X : Cx} {e : Expr} {te : TE} {p pos tpos : Pos} {elts : List Expr} {kk : Nat} (hg : Gl X "enumerate") (hm : X.mg "enumerate" = none) (he : PE X e te) (hs : starEach [e] X.env = [(false, eval e X.env)]) :
    PI X (.Tuple elts kk tpos) (.Call (.Name "enumerate" p) [e] [] pos) (iEnumA X.K te) := by
  refine ⟨fun pins s σ H R I h => ?_⟩
  refine Call_ (ld_blt I hg hm boot_enumerate (PyProof.Rows.callWith_type1 (thn ((pa_cons he pa_nil hs).run pos pins s σ H (fun vs H1 => ∃ v, vs = [v] ∧ ((∃ a vs, v = .ref a ∧ SqL X.K H1 a vs ∧ R (ItEl X.K a) H1) ∨ (∃ a vs, v = .ref a ∧ SqT X.K H1 a vs ∧ R (ItEt X.K a) H1) ∨ ∃ x, v = .str x ∧ R (ItEs x) H1)) I ?_) fun us s1 ⟨vs, H1, I1, r1, q1⟩ => ?_) hs rfl))
  · have ef : (fun (x : V) (H1 : Hp) => ∃ v, [x] = [v] ∧ ((∃ a vs, v = V.ref a ∧ SqL X.K H1 a vs ∧ R (ItEl X.K a) H1) ∨ (∃ a vs, v = V.ref a ∧ SqT X.K H1 a vs ∧ R (ItEt X.K a) H1) ∨ ∃ x, v = V.str x ∧ R (ItEs x) H1)) =
        fun v H1 => (∃ a vs, v = V.ref a ∧ SqL X.K H1 a vs ∧ R (ItEl X.K a) H1) ∨ (∃ a vs, v = V.ref a ∧ SqT X.K H1 a vs ∧ R (ItEt X.K a) H1) ∨ ∃ x, v = V.str x ∧ R (ItEs x) H1 := by
      funext x H1
      exact propext ⟨fun ⟨v, e, h⟩ => by cases e; exact h, fun h => ⟨x, rfl, h⟩⟩
    have h2 : te σ H (fun v H1 => (∃ a vs, v = V.ref a ∧ SqL X.K H1 a vs ∧ R (ItEl X.K a) H1) ∨ (∃ a vs, v = V.ref a ∧ SqT X.K H1 a vs ∧ R (ItEt X.K a) H1) ∨ ∃ x, v = V.str x ∧ R (ItEs x) H1) := h
    rw [← ef] at h2
    exact h2
  obtain ⟨v, ex, q⟩ := q1
  subst ex
  cases r1 with
  | cons r rr =>
    cases rr
    have sz : ∀ {h' : Heap}, (∀ b o, s1.heap.get? b = some o → h'.get? b = some o) → Inv X pins σ H1 { s1 with heap := h' } := fun hk => I1.kept (t' := s1.toks) hk
    have fr : ∀ b ∈ [s1.heap.objs.size + 1, s1.heap.objs.size], FpOk X pins H1 b := fun b hb => by
      have e' : b = s1.heap.objs.size + 1 ∨ b = s1.heap.objs.size := by simpa using hb
      have hle : s1.heap.objs.size ≤ b := by
        rcases e' with z | z
        · rw [z]; exact Nat.le_add_right _ _
        · rw [z]; exact Nat.le_refl _
      exact I1.fpOk hle (I1.hok.fresh hle)
    rcases q with ⟨a, vs, rfl, hq, q⟩ | ⟨a, vs, rfl, hq, q⟩ | ⟨x, rfl, q⟩
    · cases r
      obtain ⟨its, rv, p', _⟩ := I1.list hq
      have hlt : a < s1.heap.objs.size := p'.lt
      refine call_enum1 (begins_list a its.toArray) p'.isList fun h' he ho hk => wpAny_pyIter_enum he ?_
      exact ⟨_, _, _, _, H1, rfl, sz hk, turn_enumL a (s1.heap.objs.size + 1) s1.heap.objs.size (Nat.succ_ne_self _) (Nat.ne_of_lt (Nat.lt_succ_of_lt hlt)), ⟨⟨.none, he⟩, ⟨_, ho, rfl, rfl⟩⟩, fr, q⟩
    · cases r
      obtain ⟨its, rv, p', _⟩ := I1.tuple hq
      obtain ⟨o1, ho1, _⟩ := id p'
      have hlt : a < s1.heap.objs.size := Heap.lt_size ho1
      refine call_enum1 (begins_tuple a its.toArray) (show s1.heap.IsTuple a its.toArray from p') fun h' he ho hk => wpAny_pyIter_enum he ?_
      exact ⟨_, _, _, _, H1, rfl, sz hk, turn_enumT a (s1.heap.objs.size + 1) s1.heap.objs.size (Nat.succ_ne_self _) (Nat.ne_of_lt (Nat.lt_succ_of_lt hlt)), ⟨⟨.none, he⟩, ⟨_, ho, rfl, rfl⟩⟩, fr, q⟩
    · obtain ⟨t, rfl⟩ := r
      refine call_enum1 (begins_text x t) trivial fun h' he ho hk => wpAny_pyIter_enum he ?_
      exact ⟨_, _, _, _, H1, rfl, sz hk, turn_enumS x t (s1.heap.objs.size + 1) s1.heap.objs.size (Nat.succ_ne_self _), ⟨⟨.none, he⟩, ⟨_, ho, rfl, rfl⟩⟩, fr, q⟩
def enumT : Nat → List T → List T
  | _, [] => []
  | n, x :: r => .tup [.int (n : Nat), x] :: enumT (n + 1) r
theorem enumT_get : ∀ {xs : List T} {n i : Nat} {t : T}, (enumT n xs)[i]? = some t → ∃ x, xs[i]? = some x ∧ t = .tup [.int ((n + i : Nat) : Int), x]
  | [], n, i, t, h => by simp [enumT] at h
  | x :: xs, n, 0, t, h => by
    cases h
    exact ⟨x, rfl, rfl⟩
  | x :: xs, n, i + 1, t, h => by
    obtain ⟨y, h1, h2⟩ := enumT_get (xs := xs) (n := n + 1) (i := i) h
    exact ⟨y, h1, by rw [h2, show n + 1 + i = n + (i + 1) by omega]⟩
theorem enumT_length : ∀ {xs : List T} {n : Nat}, (enumT n xs).length = xs.length
  | [], n => rfl
  | x :: xs, n => congrArg (· + 1) (enumT_length (xs := xs) (n := n + 1))
def seqI : T → Option (List T)
  | .lst xs => some xs
  | .tup xs => some xs
  | .str x => some (strL x)
  | _ => none
def wiEnum (wa : WE) : WI := fun env S E P => wa env S E fun z S1 => ∃ t xs, z = .t t ∧ seqI t = some xs ∧ P (enumT 0 xs) S1
section
variable {K : PySem.W.Frag} {mg : Str → Option Value} {F0 : Hp}
/-- a new pair -/
theorem pair_new {F H : Hp} {t : T} {p : Addr} {u : V} {i : Nat} {us : List Value} (s2 : Same F H) (hp : H p = none) (r : RT K mg F t u) : ∃ F2, Step F H F2 (upd H p (.frz (tObj us) (.tup [.int (i : Nat), u]))) ∧ RT K mg F2 (.tup [.int (i : Nat), t]) (.ref p) := by
  have st := Step.new (o := .frz (tObj us) (.tup [.int (i : Nat), u])) s2 hp
  refine ⟨_, st, rt_tup.mpr ⟨p, _, rfl, SqD.of rfl upd_same, RTs.cons (rt_int.mpr rfl) (RTs.cons (RT.mono st.f _ _ r) (rts_nil.mpr rfl))⟩⟩
theorem itOk_enumL {a : Addr} {xs : List T} {vs : List V} (h : SqL K F0 a vs) (r : RTs K mg F0 xs vs) : ItOk K mg F0 (enumT 0 xs) (ItEl K a) := by
  refine ⟨fun i t e F H s1 s2 => ?_, fun i hi F H s1 s2 => ⟨vs, (s1.trans s2).seq h, by rw [r.length]; rw [enumT_length] at hi; exact hi⟩⟩
  obtain ⟨x, e0, rfl⟩ := enumT_get e
  obtain ⟨v, e1, e2⟩ := r.get e0
  refine ⟨⟨vs, v, (s1.trans s2).seq h, e1⟩, fun y H2 ⟨p, u, us, e3, hp, e4, hu⟩ => ?_⟩
  subst e3 e4
  have q := hu vs ((s1.trans s2).seq h)
  rw [e1] at q
  cases q
  rw [Nat.zero_add]
  exact pair_new s2 hp (RT.mono s1 _ _ e2)
theorem itOk_enumT {a : Addr} {xs : List T} {vs : List V} (h : SqD K F0 a vs) (r : RTs K mg F0 xs vs) : ItOk K mg F0 (enumT 0 xs) (ItEt K a) := by
  refine ⟨fun i t e F H s1 s2 => ?_, fun i hi F H s1 s2 => ⟨vs, Same.seqT (s1.trans s2) h, by rw [r.length]; rw [enumT_length] at hi; exact hi⟩⟩
  obtain ⟨x, e0, rfl⟩ := enumT_get e
  obtain ⟨v, e1, e2⟩ := r.get e0
  refine ⟨⟨vs, v, Same.seqT (s1.trans s2) h, e1⟩, fun y H2 ⟨p, u, us, e3, hp, e4, hu⟩ => ?_⟩
  subst e3 e4
  have q := hu vs (Same.seqT (s1.trans s2) h)
  rw [e1] at q
  cases q
  rw [Nat.zero_add]
  exact pair_new s2 hp (RT.mono s1 _ _ e2)
theorem itOk_enumS {x : Str} : ItOk K mg F0 (enumT 0 (strL x)) (ItEs x) := by
  have hl : (strL x).length = x.cps.size := by
    unfold strL
    simp
  refine ⟨fun i t e F H s1 s2 => ?_, fun i hi F H s1 s2 => show x.cps.size ≤ i by rw [enumT_length, hl] at hi; exact hi⟩
  obtain ⟨z, e0, rfl⟩ := enumT_get e
  unfold strL at e0
  rw [List.getElem?_map] at e0
  obtain ⟨c, hc, rfl⟩ := Option.map_eq_some_iff.mp e0
  have h1 := (List.getElem?_eq_some_iff.mp hc).1
  refine ⟨(show i < x.cps.size by simpa using h1), fun y H2 ⟨p, u, us, e3, hp, e4, c2, hc2, hu⟩ => ?_⟩
  subst e3 e4 hu
  have e5 : c2 = c := by
    rw [Array.getElem?_toList, hc2] at hc
    exact Option.some.inj hc
  subst e5
  rw [Nat.zero_add]
  exact pair_new s2 hp (rt_str.mpr rfl)
end
section
variable {X : Cx} {Ew : WX} {tg l a b c : Expr} {wa wb wc : WE} {p pos tpos : Pos} {elts : List Expr} {kk : Nat}
theorem SI.enum (h : SE X Ew l wa) (hg : Gl X "enumerate") (hm : X.mg "enumerate" = none) (hs : starEach [l] X.env = [(false, eval l X.env)]) : SI X Ew (.Tuple elts kk tpos) (.Call (.Name "enumerate" p) [l] [] pos) (wiEnum wa) :=
  PI.imp (pi_enumA hg hm h hs) fun σ H Q ⟨μ, F, env, S, E, P, rel, hw, xo, post⟩ => by
    refine ⟨μ, F, env, S, E, _, rel, hw, xo, fun z S1 μ1 F1 v H1 hz x r q => ?_⟩
    obtain ⟨t, xs, rfl, hsq, hP⟩ := hz
    have q' : RT X.K X.mg F1 t v := q
    unfold seqI at hsq
    split at hsq
    · cases hsq
      rw [rt_lst] at q'
      obtain ⟨a, vs, rfl, h1, h2⟩ := q'
      exact .inl ⟨a, vs, rfl, r.sub.seq (SqL.of h1), post _ S1 μ1 F1 H1 _ hP x r (itOk_enumL (SqL.of h1) h2)⟩
    · cases hsq
      rw [rt_tup] at q'
      obtain ⟨a, vs, rfl, h1, h2⟩ := q'
      exact .inr (.inl ⟨a, vs, rfl, Same.seqT r.sub h1, post _ S1 μ1 F1 H1 _ hP x r (itOk_enumT h1 h2)⟩)
    · cases hsq
      rw [rt_str] at q'
      exact .inr (.inr ⟨_, q', post _ S1 μ1 F1 H1 _ hP x r itOk_enumS⟩)
    · cases hsq
end
def rngC (lo c : Int) (n : Nat) : List T := (List.range n).map fun (i : Nat) => T.int (lo + (i : Nat) * c)
def wiRng3 (wa wb wc : WE) : WI := fun env S E P => wa env S E fun x S1 => wb env S1 E fun y S2 => wc env S2 E fun z S3 => ∃ (i j c : Int) (n : Nat), x = .t (.int i) ∧ y = .t (.int j) ∧ z = .t (.int c) ∧ RgC i j c n ∧ P (rngC i c n) S3
theorem itOk_rngC {K : PySem.W.Frag} {mg : Str → Option Value} {F0 : Hp} {lo c : Int} {n : Nat} : ItOk K mg F0 (rngC lo c n) (Itc lo c n) := by
  have hl : (rngC lo c n).length = n := by unfold rngC; simp
  refine ⟨fun i t e F H s1 s2 => ?_, fun i hi F H s1 s2 => by rw [hl] at hi; exact hi⟩
  have hi : i < n := by
    have := (List.getElem?_eq_some_iff.mp e).1
    omega
  refine ⟨hi, fun x H2 ⟨e3, y⟩ => ⟨F, ?_, ?_⟩⟩
  · subst e3
    exact Step.refl s2
  · have e4 : t = .int (lo + (i : Nat) * c) := by
      unfold rngC at e
      rw [List.getElem?_map, List.getElem?_range hi] at e
      exact (Option.some.inj e).symm
    subst e4 y
    exact rt_int.mpr rfl
def zipT : List T → List T → List T
  | x :: xs, y :: ys => .tup [x, y] :: zipT xs ys
  | _, _ => []
theorem zipT_get : ∀ {xs ys : List T} {i : Nat} {t : T}, (zipT xs ys)[i]? = some t → ∃ x y, xs[i]? = some x ∧ ys[i]? = some y ∧ t = .tup [x, y]
  | [], ys, i, t, h => by simp [zipT] at h
  | x :: xs, [], i, t, h => by simp [zipT] at h
  | x :: xs, y :: ys, 0, t, h => by
    cases h
    exact ⟨x, y, rfl, rfl, rfl⟩
  | x :: xs, y :: ys, i + 1, t, h => zipT_get (xs := xs) (ys := ys) (i := i) h
theorem zipT_length : ∀ {xs ys : List T}, (zipT xs ys).length = min xs.length ys.length
  | [], ys => by simp [zipT]
  | x :: xs, [] => by simp [zipT]
  | x :: xs, y :: ys => by
    show (zipT xs ys).length + 1 = _
    rw [zipT_length (xs := xs) (ys := ys), List.length_cons, List.length_cons]
    omega
/-- a list or a tuple -/
def SqK (K : PySem.W.Frag) (k : Bool) (H : Hp) (a : Addr) (vs : List V) : Prop := if k = true then SqL K H a vs else SqT K H a vs
def ItrK (k : Bool) (h : Heap) (it a : Addr) (i : Nat) : Prop := if k = true then h.IsListIter it a i else h.IsTupleIter it a i
def CtK (k : Bool) (h : Heap) (a : Addr) (its : Array Value) : Prop := if k = true then h.IsList a its else h.IsTuple a its
theorem ItrK.at {k : Bool} {h h' : Heap} {it a : Addr} {i : Nat} (x : ItrK k h it a i) (e : ∀ o, h.get? it = some o → h'.get? it = some o) : ItrK k h' it a i := by
  cases k
  · exact Heap.IsTupleIter.at (show h.IsTupleIter it a i from x) e
  · exact Heap.IsListIter.at (show h.IsListIter it a i from x) e
theorem ItrK.obj {k : Bool} {h : Heap} {it a : Addr} {i : Nat} (x : ItrK k h it a i) : ∃ o, h.get? it = some o ∧ o.cls = .type (if k = true then "list_iterator" else "tuple_iterator") ∧ ∀ v, o.data ≠ .cell v := by
  cases k
  · obtain ⟨o, ho, hc, hd⟩ := (show h.IsTupleIter it a i from x)
    exact ⟨o, ho, hc, fun v q => by rw [hd] at q; cases q⟩
  · obtain ⟨o, ho, hc, hd⟩ := (show h.IsListIter it a i from x)
    exact ⟨o, ho, hc, fun v q => by rw [hd] at q; cases q⟩
theorem SqK.items {X : Cx} {pins : List (Addr × Obj)} {σ : L2.St} {H : Hp} {s : Shared} {k : Bool} {a : Addr} {vs : List V} (I : Inv X pins σ H s) (h : SqK X.K k H a vs) : ∃ its : List Value, Vals vs its ∧ CtK k s.heap a its.toArray ∧ ∃ o, s.heap.get? a = some o ∧ o.cls = .type (if k = true then "list" else "tuple") := by
  cases k
  · obtain ⟨its, rv, p, _⟩ := I.tuple (show SqT X.K H a vs from h)
    obtain ⟨o, ho, hc, _⟩ := id p
    exact ⟨its, rv, p, o, ho, hc⟩
  · obtain ⟨its, rv, p, _⟩ := I.list (show SqL X.K H a vs from h)
    obtain ⟨o, ho, hc, _⟩ := p.isList
    exact ⟨its, rv, p.isList, o, ho, hc⟩
theorem SqK.inj {X : Cx} {pins : List (Addr × Obj)} {σ : L2.St} {H : Hp} {s : Shared} {k : Bool} {a : Addr} {vs us : List V} (I : Inv X pins σ H s) (h : SqK X.K k H a vs) (h' : SqK X.K k H a us) : vs = us := by
  cases k
  · exact I.tuple_inj (show SqT X.K H a vs from h) h'
  · exact I.list_inj (show SqL X.K H a vs from h) h'
theorem draws_kind {prog : Program} {w : World} {A : Around} {k : Bool} (hh : A.handled = none) (it a : Addr) (hne : a ≠ it) (items : Array Value) :
    Draws prog w A it [it, a] items.size (fun i v => items[i]? = some v) (fun i h => ItrK k h it a i ∧ CtK k h a items) := by
  cases k
  · exact Draws.tuple hh it a hne items
  · exact Draws.list hh it a hne items
/-- a side at the place i, for the end -/
theorem draws_side {prog : Program} {w : World} {A : Around} {k : Bool} {h : Heap} (hh : A.handled = none) (it a : Addr) (hne : a ≠ it) (items : Array Value) (i : Nat) (st : ItrK k h it a i) (ct : CtK k h a items) :
    ∃ (n : Nat) (P : Nat → Value → Prop) (St : Nat → Heap → Prop), Draws prog w A it [it, a] n P St ∧ St i h ∧ i ≤ n ∧ (items.size ≤ i → i = n) := by
  by_cases hi : items.size ≤ i
  · refine ⟨i, _, _, draws_end (n := i) (fun h => ItrK k h it a i ∧ CtK k h a items) [it, a] (fun h q => by obtain ⟨o, ho, _⟩ := q.1.obj; exact ⟨o, ho⟩) (fun h h' q kk => ⟨q.1.at fun o e => kk it (by simp) o e, ?_⟩) (fun s Q E q h => ?_), ⟨rfl, st, ct⟩, Nat.le_refl _, fun _ => rfl⟩
    · have q2 := q.2
      cases k
      · exact Heap.IsTuple.at (show h.IsTuple a items from q2) fun o e => kk a (by simp) o e
      · exact Heap.IsList.at (show h.IsList a items from q2) fun o e => kk a (by simp) o e
    · obtain ⟨q1, q2⟩ := q
      cases k
      · exact wpAny_nextOf_tuple_end hh (show s.heap.IsTupleIter it a i from q1) (show s.heap.IsTuple a items from q2) (by simp; omega) h
      · exact wpAny_nextOf_list_end hh (show s.heap.IsListIter it a i from q1) (show s.heap.IsList a items from q2) (by simp; omega) h
  · exact ⟨_, _, _, draws_kind hh it a hne items, ⟨st, ct⟩, by omega, fun q => absurd q hi⟩
/-- the pairs of two sides -/
def ItzK (K : PySem.W.Frag) (k l : Bool) (a b : Addr) : It :=
  ⟨fun i H => ∃ (xs ys : List V) (x y : V), SqK K k H a xs ∧ SqK K l H b ys ∧ xs[i]? = some x ∧ ys[i]? = some y,
    fun i H v H' => ∃ (T : Addr) (x y : V) (us : List Value), v = .ref T ∧ H T = none ∧ H' = upd H T (.frz (tObj us) (.tup [x, y])) ∧ (∀ xs, SqK K k H a xs → xs[i]? = some x) ∧ ∀ ys, SqK K l H b ys → ys[i]? = some y,
    fun i H => ∃ xs ys : List V, SqK K k H a xs ∧ SqK K l H b ys ∧ (xs.length ≤ i ∨ ys.length ≤ i)⟩
theorem turn_zipK {P : Program} {w : World} {K : PySem.W.Frag} {elts : List Expr} {kk : Nat} {tpos : Pos} {k l : Bool} {a b z TI TO i1 i2 : Addr} (D : ZipSep2 z TI TO i1 i2 [i1, a] [i2, b]) :
    Turn P w K (.Tuple elts kk tpos) (ItzK K k l a b) [z, TI, TO, i1, i2] z (fun i h => IsZip h z TI TO .none ∧ IsTupOf2 h TI (.ref i1) (.ref i2) ∧ (∃ x y, IsTupOf2 h TO x y) ∧ ItrK k h i1 a i ∧ ItrK l h i2 b i) where
  mem := by simp
  obj := fun i h st c hc => by
    obtain ⟨hz, hTI, ⟨x, y, hTO⟩, h1, h2⟩ := st
    obtain ⟨o1, e1, _, d1⟩ := h1.obj
    obtain ⟨o2, e2, _, d2⟩ := h2.obj
    have e' : c = z ∨ c = TI ∨ c = TO ∨ c = i1 ∨ c = i2 := by simpa using hc
    rcases e' with rfl | rfl | rfl | rfl | rfl
    · exact ⟨_, hz, fun v q => nomatch q⟩
    · exact ⟨_, hTI, fun v q => nomatch q⟩
    · exact ⟨_, hTO, fun v q => nomatch q⟩
    · exact ⟨o1, e1, d1⟩
    · exact ⟨o2, e2, d2⟩
  keep := fun i h h' st q => by
    obtain ⟨hz, hTI, ⟨x, y, hTO⟩, h1, h2⟩ := st
    exact ⟨q z (by simp) _ hz, q TI (by simp) _ hTI, ⟨x, y, q TO (by simp) _ hTO⟩, h1.at fun o e => q i1 (by simp) o e, h2.at fun o e => q i2 (by simp) o e⟩
  item := by
    intro X hP hw hK hc i pins s σ H E I hf st hg
    subst hP hw hK
    obtain ⟨hz, hTI, ⟨x0, y0, hTO⟩, h1, h2⟩ := st
    obtain ⟨xs, ys, x, y, hqx, hqy, hx, hy⟩ := hg
    obtain ⟨its, rv, p, o1, ho1, hc1⟩ := SqK.items I hqx
    obtain ⟨its2, rv2, p2, o2, ho2, hc2⟩ := SqK.items I hqy
    obtain ⟨u, hu, ru⟩ := rv.get hx
    obtain ⟨u2, hu2, ru2⟩ := rv2.get hy
    obtain ⟨j1, e1, c1, _⟩ := h1.obj
    obtain ⟨j2, e2, c2, _⟩ := h2.obj
    have n1 : a ≠ i1 := ne_cls e1 c1 ho1 hc1 (by cases k <;> decide)
    have n2 : b ≠ i2 := ne_cls e2 c2 ho2 hc2 (by cases l <;> decide)
    have hzl : z < s.heap.objs.size := Heap.lt_size hz
    refine wpAny_pyNext_zipD2_item D (draws_kind (A := X.A.in1) (k := k) (I.ok.hd hc) i1 a n1 its.toArray) (draws_kind (A := X.A.in1) (k := l) (I.ok.hd hc) i2 b n2 its2.toArray) hz hTI hTO ⟨h1, p⟩ ⟨h2, p2⟩
      (by have := (List.getElem?_eq_some_iff.mp hu).1; simpa using this) (by have := (List.getElem?_eq_some_iff.mp hu2).1; simpa using this) fun v v2 h' tk hv hv2 z' TO' st1 st2 hT hsz hk => ?_
    have ev : v = u := by
      have q : its[i]? = some v := by simpa using hv
      rw [hu] at q
      exact (Option.some.inj q).symm
    have ev2 : v2 = u2 := by
      have q : its2[i]? = some v2 := by simpa using hv2
      rw [hu2] at q
      exact (Option.some.inj q).symm
    subst ev ev2
    refine ⟨_, rfl, wpAny_letOwnedTupleGo_zip (s := { s with heap := h', toks := tk }) z' fun h'' z'' sb => ?_⟩
    have hT2 : h''.get? s.heap.objs.size = some { cls := .type "tuple", data := .seq #[v, v2] } := (sb.2 _ (Nat.ne_of_gt hzl)).trans hT
    have new : ObjOk X.prog X.w (upd H s.heap.objs.size (.frz (tObj [v, v2]) (.tup [x, y]))) h'' s.heap.objs.size (.frz (tObj [v, v2]) (.tup [x, y])) :=
      ⟨hT2, by show 2 ≤ sizeLine; decide, [v, v2], .cons ru (.cons ru2 .nil), ⟨_, hT2, rfl, _, rfl⟩⟩
    have I1 : Inv X pins σ (upd H s.heap.objs.size (.frz (tObj [v, v2]) (.tup [x, y]))) { s with heap := h'', toks := tk } :=
      I.turnedNew (t' := tk) (ch := [z, TI, TO, i1, i2]) (fun c o hb q => (sb.2 c (fun q' => hb (by simp [q']))).trans (hk c o (fun q' => hb (by simp [q'])) (fun q' => hb (by simp [q'])) (fun q' => hb (by simp [q'])) (fun q' => hb (by simp [q'])) q)) hf (Nat.le_refl _) new
    have zi1 : i1 ≠ z := fun q => D.zf1 (by simp [q])
    have zi2 : i2 ≠ z := fun q => D.zf2 (by simp [q])
    refine ⟨.ref s.heap.objs.size, _, I1, rfl, ⟨_, x, y, _, rfl, I.hok.fresh (Nat.le_refl _), rfl, fun m hm => by rw [SqK.inj I hm hqx]; exact hx, fun m hm => by rw [SqK.inj I hm hqy]; exact hy⟩,
      ⟨z'', (sb.2 _ D.TIz).trans (hk _ _ D.TIz D.TITO D.TIi1 D.TIi2 hTI), ⟨v, v2, (sb.2 _ D.TOz).trans TO'⟩, st1.1.at fun o q => (sb.2 _ zi1).trans q, st2.1.at fun o q => (sb.2 _ zi2).trans q⟩, fun c hcm => ?_⟩
    have hlt : c < s.heap.objs.size := by
      have e' : c = z ∨ c = TI ∨ c = TO ∨ c = i1 ∨ c = i2 := by simpa using hcm
      rcases e' with rfl | rfl | rfl | rfl | rfl
      · exact hzl
      · exact Heap.lt_size hTI
      · exact Heap.lt_size hTO
      · exact Heap.lt_size e1
      · exact Heap.lt_size e2
    rw [upd_ne (Nat.ne_of_lt hlt)]
    exact (hf c hcm).1
  done := by
    intro X hP hw hK hc i pins s σ H E I hf st hg
    subst hP hw hK
    obtain ⟨hz, hTI, ⟨x0, y0, hTO⟩, h1, h2⟩ := st
    obtain ⟨xs, ys, hqx, hqy, hend⟩ := hg
    obtain ⟨its, rv, p, o1, ho1, hc1⟩ := SqK.items I hqx
    obtain ⟨its2, rv2, p2, o2, ho2, hc2⟩ := SqK.items I hqy
    have l1 := rv.length
    have l2 := rv2.length
    obtain ⟨j1, e1, c1, _⟩ := h1.obj
    obtain ⟨j2, e2, c2, _⟩ := h2.obj
    obtain ⟨m1, P1, S1, D1, s1, q1, f1⟩ := draws_side (prog := X.prog) (w := X.w) (A := X.A.in1) (I.ok.hd hc) i1 a (ne_cls e1 c1 ho1 hc1 (by cases k <;> decide)) its.toArray i h1 p
    obtain ⟨m2, P2, S2, D2, s2, q2, f2⟩ := draws_side (prog := X.prog) (w := X.w) (A := X.A.in1) (I.ok.hd hc) i2 b (ne_cls e2 c2 ho2 hc2 (by cases l <;> decide)) its2.toArray i h2 p2
    refine wpAny_pyNext_zipD2_end D D1 D2 hz hTI hTO s1 s2 q1 q2 (hend.imp (fun q => f1 (by simp; omega)) fun q => f2 (by simp; omega)) fun h' tk hk => ⟨rfl, I.turnedL (t' := tk) (ch := [z, TI, TO, i1, i2]) (fun c o hb q =>
      hk c o (fun q' => hb (by simp [q'])) (fun q' => hb (by simp [q'])) (fun q' => hb (by simp [q'])) (fun q' => hb (by simp [q'])) q) hf⟩
  self := fun A i s Q E st h => wpAny_pyIter_zip st.1 h
def objK (k : Bool) (a : Addr) : Obj := { cls := .type (if k = true then "list_iterator" else "tuple_iterator"), data := .fields #[.ref a, .int 0 0] }
theorem begins_kind (k : Bool) (a : Addr) (items : Array Value) : Begins (.ref a) (objK k a) (fun h => CtK k h a items) := by
  cases k
  · exact begins_tuple a items
  · exact begins_list a items
theorem itrK_new {k : Bool} {h : Heap} {it a : Addr} (e : h.get? it = some (objK k a)) : ItrK k h it a 0 := by
  cases k
  · exact ⟨_, e, rfl, rfl⟩
  · exact ⟨_, e, rfl, rfl⟩
def iZipK (K : PySem.W.Frag) (ta : TA) : TI := fun σ H R => ta σ H fun vs H1 => ∃ k l a b xs ys, vs = [.ref a, .ref b] ∧ SqK K k H1 a xs ∧ SqK K l H1 b ys ∧ R (ItzK K k l a b) H1
theorem pi_zipK {X : Cx} {e e2 : Expr} {ta : TA} {p pos tpos : Pos} {elts : List Expr} {kk : Nat} (hg : Gl X "zip") (hm : X.mg "zip" = none) (ha : PA X [e, e2] ta)
    (hs : starEach [e, e2] X.env = (false, eval e X.env) :: starEach [e2] X.env) (hpl : (backTo pos (starEach [e2] X.env)).any (·.1) = false) :
    PI X (.Tuple elts kk tpos) (.Call (.Name "zip" p) [e, e2] [] pos) (iZipK X.K ta) := by
  refine ⟨fun pins s σ H R I h => Call_ (ld_blt I hg hm PyProof.Rows.boot_zip (PyProof.Rows.callWith_type1 (thn (ha.run pos pins s σ H _ I h) fun us s1 ⟨vs, H1, I1, r1, q1⟩ => ?_) hs hpl))⟩
  obtain ⟨k, l, a, b, xs, ys, ex, hqx, hqy, q⟩ := q1
  subst ex
  cases r1 with
  | cons r rr =>
    cases rr with
    | cons r' rr =>
      cases rr
      cases r
      cases r'
      obtain ⟨its, rv, p1, o1, ho1, hc1⟩ := SqK.items I1 hqx
      obtain ⟨its2, rv2, p2, o2, ho2, hc2⟩ := SqK.items I1 hqy
      have la : a < s1.heap.objs.size := Heap.lt_size ho1
      have lb : b < s1.heap.objs.size := Heap.lt_size ho2
      refine zip_begins2 (begins_kind k a its.toArray) (begins_kind l b its2.toArray) p1 p2 fun h' hz hTI hTO h1 h2 hsz hk => wpAny_pyIter_zip hz ?_
      have I2 : Inv X pins σ H1 { s1 with heap := h' } := I1.kept (t' := s1.toks) hk
      have D : ZipSep2 (s1.heap.objs.size + 4) (s1.heap.objs.size + 2) (s1.heap.objs.size + 3) s1.heap.objs.size (s1.heap.objs.size + 1) [s1.heap.objs.size, a] [s1.heap.objs.size + 1, b] :=
        zip_sep2 (fun c hc => by rw [List.mem_singleton.mp hc]; exact la) (fun c hc => by rw [List.mem_singleton.mp hc]; exact lb)
      refine ⟨s1.heap.objs.size + 4, [s1.heap.objs.size + 4, s1.heap.objs.size + 2, s1.heap.objs.size + 3, s1.heap.objs.size, s1.heap.objs.size + 1], _, _, H1, rfl, I2, turn_zipK D, ⟨hz, hTI, ⟨_, _, hTO⟩, itrK_new h1, itrK_new h2⟩, fun c hcm => ?_, q⟩
      have e' : c = s1.heap.objs.size + 4 ∨ c = s1.heap.objs.size + 2 ∨ c = s1.heap.objs.size + 3 ∨ c = s1.heap.objs.size ∨ c = s1.heap.objs.size + 1 := by simpa using hcm
      have hle : s1.heap.objs.size ≤ c := by
        rcases e' with z | z | z | z | z <;> rw [z]
        · exact Nat.le_add_right _ _
        · exact Nat.le_add_right _ _
        · exact Nat.le_add_right _ _
        · exact Nat.le_refl _
        · exact Nat.le_add_right _ _
      exact I1.fpOk hle (I1.hok.fresh hle)
def seqK : T → Option (Bool × List T)
  | .lst xs => some (true, xs)
  | .tup xs => some (false, xs)
  | _ => none
def wiZip (wa wb : WE) : WI := fun env S E P => wa env S E fun x S1 => wb env S1 E fun y S2 => ∃ t u k l xs ys, x = .t t ∧ y = .t u ∧ seqK t = some (k, xs) ∧ seqK u = some (l, ys) ∧ P (zipT xs ys) S2
section
variable {K : PySem.W.Frag} {mg : Str → Option Value} {F0 : Hp}
theorem pair_new2 {F H : Hp} {t t2 : T} {p : Addr} {u u2 : V} {us : List Value} (s2 : Same F H) (hp : H p = none) (r : RT K mg F t u) (r2 : RT K mg F t2 u2) : ∃ F2, Step F H F2 (upd H p (.frz (tObj us) (.tup [u, u2]))) ∧ RT K mg F2 (.tup [t, t2]) (.ref p) := by
  have st := Step.new (o := .frz (tObj us) (.tup [u, u2])) s2 hp
  exact ⟨_, st, rt_tup.mpr ⟨p, _, rfl, SqD.of rfl upd_same, RTs.cons (RT.mono st.f _ _ r) (RTs.cons (RT.mono st.f _ _ r2) (rts_nil.mpr rfl))⟩⟩
theorem Same.seqK {H H' : Hp} {k : Bool} {a : Addr} {xs : List V} (e : Same H H') (h : SqK K k H a xs) : SqK K k H' a xs := by
  cases k
  · exact Same.sqT e (show SqT K H a xs from h)
  · exact e.seq (show SqL K H a xs from h)
theorem itOk_zipK {k l : Bool} {a b : Addr} {xs ys : List T} {vs us : List V} (h : SqK K k F0 a vs) (h' : SqK K l F0 b us) (r : RTs K mg F0 xs vs) (r' : RTs K mg F0 ys us) : ItOk K mg F0 (zipT xs ys) (ItzK K k l a b) := by
  refine ⟨fun i t e F H s1 s2 => ?_, fun i hi F H s1 s2 => ⟨vs, us, Same.seqK (s1.trans s2) h, Same.seqK (s1.trans s2) h', by rw [r.length, r'.length]; rw [zipT_length] at hi; omega⟩⟩
  obtain ⟨x, y, e0, e0', rfl⟩ := zipT_get e
  obtain ⟨v, e1, e2⟩ := r.get e0
  obtain ⟨v', e1', e2'⟩ := r'.get e0'
  refine ⟨⟨vs, us, v, v', Same.seqK (s1.trans s2) h, Same.seqK (s1.trans s2) h', e1, e1'⟩, fun z H2 ⟨p, u, u', os, e3, hp, e4, hu, hu'⟩ => ?_⟩
  subst e3 e4
  have q := hu vs (Same.seqK (s1.trans s2) h)
  have q' := hu' us (Same.seqK (s1.trans s2) h')
  rw [e1] at q
  rw [e1'] at q'
  cases q
  cases q'
  exact pair_new2 s2 hp (RT.mono s1 _ _ e2) (RT.mono s1 _ _ e2')
theorem seqK_ok {F : Hp} {t : T} {v : V} {k : Bool} {xs : List T} (r : RT K mg F t v) (e : seqK t = some (k, xs)) : ∃ a vs, v = .ref a ∧ SqK K k F a vs ∧ RTs K mg F xs vs := by
  unfold seqK at e
  split at e
  · cases e
    rw [rt_lst] at r
    obtain ⟨a, vs, rfl, h1, h2⟩ := r
    exact ⟨a, vs, rfl, SqL.of h1, h2⟩
  · cases e
    rw [rt_tup] at r
    obtain ⟨a, vs, rfl, h1, h2⟩ := r
    exact ⟨a, vs, rfl, h1.t, h2⟩
  · cases e
end
section
variable {X : Cx} {Ew : WX} {tg l a b c : Expr} {wa wb wc : WE} {p pos tpos : Pos} {elts : List Expr} {kk : Nat}
theorem SI.rng3 (ha : SE X Ew a wa) (hb : SE X Ew b wb) (hc : SE X Ew c wc) (hg : Gl X "range") (hm : X.mg "range" = none) (hsa : starEach [a, b, c] X.env = (false, eval a X.env) :: starEach [b, c] X.env) (hsb : starEach [b, c] X.env = (false, eval b X.env) :: starEach [c] X.env)
    (hsc : starEach [c] X.env = [(false, eval c X.env)]) : SI X Ew tg (.Call (.Name "range" p) [a, b, c] [] pos) (wiRng3 wa wb wc) :=
  PI.imp (pi_range3 hg hm (pa_cons ha (pa_cons hb (pa_cons hc pa_nil hsc) hsb) hsa) hsa (by rw [hsb, hsc]; rfl)) fun σ H Q ⟨μ, F, env, S, E, P, rel, hw, xo, post⟩ => by
    refine ⟨μ, F, env, S, E, _, rel, hw, xo, fun x S1 μ1 F1 v1 H1 hx x1 r1 q1 => ⟨μ1, F1, env, S1, E, _, r1, hx, xo.ext x1, fun y S2 μ2 F2 v2 H2 hy x2 r2 q2 => ⟨μ2, F2, env, S2, E, _, r2, hy, xo.ext (x1.trans x2), fun z S3 μ3 F3 v3 H3 hz x3 r3 q3 => ?_⟩⟩⟩
    obtain ⟨i, j, c, n, rfl, rfl, rfl, hr, hP⟩ := hz
    exact ⟨i, j, c, n, by rw [int_of q1, int_of q2, int_of q3], hr, post _ S3 μ3 F3 H3 _ hP ((x1.trans x2).trans x3) r3 itOk_rngC⟩
theorem SI.zip (ha : SE X Ew a wa) (hb : SE X Ew b wb) (hg : Gl X "zip") (hm : X.mg "zip" = none) (hsa : starEach [a, b] X.env = (false, eval a X.env) :: starEach [b] X.env) (hsb : starEach [b] X.env = [(false, eval b X.env)]) :
    SI X Ew (.Tuple elts kk tpos) (.Call (.Name "zip" p) [a, b] [] pos) (wiZip wa wb) :=
  PI.imp (pi_zipK hg hm (pa_cons ha (pa_cons hb pa_nil hsb) hsa) hsa (by rw [hsb]; rfl)) fun σ H Q ⟨μ, F, env, S, E, P, rel, hw, xo, post⟩ => by
    refine ⟨μ, F, env, S, E, _, rel, hw, xo, fun x S1 μ1 F1 v1 H1 hx x1 r1 q1 => ⟨μ1, F1, env, S1, E, _, r1, hx, xo.ext x1, fun y S2 μ2 F2 v2 H2 hy x2 r2 q2 => ?_⟩⟩
    obtain ⟨t, u, k, l, xs, ys, rfl, rfl, e1, e2, hP⟩ := hy
    have z1 : RT X.K X.mg F2 t v1 := RT.mono x2.same _ _ (show RT X.K X.mg F1 t v1 from q1)
    obtain ⟨a1, vs, rfl, h1, h2⟩ := seqK_ok z1 e1
    obtain ⟨a2, us, rfl, g1, g2⟩ := seqK_ok (show RT X.K X.mg F2 u v2 from q2) e2
    exact ⟨k, l, a1, a2, vs, us, rfl, Same.seqK r2.sub h1, Same.seqK r2.sub g1, post _ S2 μ2 F2 H2 _ hP (x1.trans x2) r2 (itOk_zipK h1 g1 h2 g2)⟩
end
def tyTup (K : PySem.W.Frag) (v : V) (H : Hp) : Prop := ∃ a vs, v = .ref a ∧ SqD K H a vs
theorem ty_tup {X : Cx} : TyOk X "tuple" (tyTup X.K) := by
  rintro pins σ H s x v I r ⟨a, vs, rfl, h⟩
  cases r
  have key : ∃ o, s.heap.get? a = some o ∧ o.cls = .type "tuple" ∧ o.dict = none := by
    obtain ⟨its, _, ⟨o1, e1, c1, _⟩, _⟩ := I.tuple h.t
    rcases h with ⟨o, d, h⟩ | ⟨o, its, n, d, h, c, _⟩
    · have e := (I.hok a _ h).1
      rw [e1] at e
      cases e
      exact ⟨_, e1, c1, d⟩
    · exact ⟨o, I.kIn a o h, c, d⟩
  obtain ⟨o, e, c, d⟩ := key
  exact ⟨⟨o, e, c⟩, fun b q => by cases q; exact ⟨o, e, d⟩⟩
def rIndexT (K : PySem.W.Frag) : V → List V → Hp → VK → Prop := fun x xs H Q => ∃ (a : Addr) (ns : List Int) (k : Int), x = .ref a ∧ xs = [.int k] ∧ SqT K H a (ns.map V.int) ∧ k ∈ ns ∧ Q (.int (ns.idxOf k : Nat)) H
theorem mt_indexT {X : Cx} : MtR X "tuple.index" (rIndexT X.K) := by
  rintro pins s σ H x xs v us Q I rx rxs ⟨a, ns, k, rfl, rfl, h, hk, q⟩
  cases rx
  obtain ⟨u, rfl, ru⟩ := vals1 rxs
  obtain ⟨t, rfl⟩ := ru
  obtain ⟨its, rv, p, _⟩ := I.tuple h
  exact PySem.SeqAt.tuple_index_ints (show s.heap.IsTuple a its.toArray from p) rv.ints hk ⟨.int _, H, I.tok _, ⟨_, rfl⟩, q⟩
def oIndexT : T → T → (T → Prop) → Prop
  | .tup xs, .int k, K => ∃ ns, intsT xs = some ns ∧ k ∈ ns ∧ K (.int (ns.idxOf k : Nat))
  | _, _, _ => False
def isTW (x : W) : Prop := ∃ xs, x = .t (.tup xs)
theorem isTW_t {xs : List T} : isTW (.t (.tup xs)) = True := eq_true ⟨xs, rfl⟩
def wIndexT (wo we : WE) : WE := fun env S E R => wo env S E fun x S1 => isTW x ∧ we env S1 E fun y S2 => vw S2 [x, y] fun ts => g2 oIndexT ts fun t => R (.t t) S2
section
variable {X : Cx} {Ew : WX} {o a e : Expr} {wo we wa : WE} {apos cpos pos : Pos}
theorem SE.indexT (ho : SE X Ew o wo) (he : SE X Ew e we) (hb : baseOk o = true) (hs : starEach [e] X.env = [(false, eval e X.env)]) (hl : (apos.endLine == cpos.line) = true) :
    SE X Ew (.Call (.Attribute o "index" apos) [e] [] cpos) (wIndexT wo we) :=
  PE.imp (pe_mG ty_tup PySem.F.plainAttrs_tuple PySem.F.slot_tuple_index PySem.F.type_tuple_index mt_indexT ho (pa_cons he pa_nil hs) (base_of hb) (by rw [hs]; rfl) hl hs rfl)
  fun σ H Q ⟨μ, F, env, S, E, R, rel, hw, xo, post⟩ => by
    refine ⟨μ, F, env, S, E, _, rel, hw, xo, fun x S1 μ1 F1 v H1 hx x1 r1 q1 => ?_⟩
    obtain ⟨⟨xs0, rfl⟩, hx⟩ := hx
    have p1 : RT X.K X.mg F1 (.tup xs0) v := q1
    rw [rt_tup] at p1
    obtain ⟨a0, vs0, rfl, h0, q0⟩ := p1
    refine ⟨⟨a0, vs0, rfl, Same.seqD r1.sub h0⟩, μ1, F1, env, S1, E, _, r1, hx, xo.ext x1, fun y S2 μ2 F2 u H2 hy x2 r2 q2 => ?_⟩
    obtain ⟨ts, hv, hg⟩ := vw_of hy
    have z := views_ok (ws := [.t (.tup xs0), y]) r2 ⟨_, [u], rfl, (show RW X.K X.mg μ1 F1 (.t (.tup xs0)) _ from q1).ext x2, u, [], rfl, q2, rfl⟩ hv
    obtain ⟨b, c, rfl, ho⟩ := g2_of hg
    obtain ⟨z1, z2⟩ := rvs2 z
    unfold oIndexT at ho
    split at ho
    · obtain ⟨ns, e1, hk, hR⟩ := ho
      rw [rv_tup] at z1
      rw [rv_int] at z2
      obtain ⟨a1, vs1, e3, h1, q3⟩ := z1
      cases e3
      have ev := intsT_ok e1 q3
      subst ev
      exact ⟨a0, ns, _, rfl, by rw [z2], Same.seqT r2.sub h1, hk, post (.t (.int (ns.idxOf _ : Nat))) S2 μ2 F2 _ H2 hR (x1.trans x2) r2 (show RT X.K X.mg F2 _ _ from rt_int.mpr rfl)⟩
    · exact ho.elim
end
end Tw
set_option Elab.async false
set_option linter.all false
set_option maxRecDepth 100000
namespace Tw
open PySem PySem.Spec PyProof.Rows L2

def wApp (i : Nat) (we : WE) : WE := fun env S E R => ∃ j xs0, gE env i = some (.ref j) ∧ S[j]? = some (.lst xs0) ∧ we env S E fun y S1 => ∃ xs t, S1[j]? = some (.lst xs) ∧ y = .t t ∧ xs.length < sizeLine ∧ R (.t .non) (S1.set j (.lst (xs ++ [t])))
def wPop (i : Nat) : WE := fun env S _ R => ∃ j xs t, gE env i = some (.ref j) ∧ S[j]? = some (.lst xs) ∧ xs[xs.length - 1]? = some t ∧ R (.t t) (S.set j (.lst xs.dropLast))
def seqT : List T → Option (List T)
  | [.lst xs] => some xs
  | [.tup xs] => some xs
  | _ => none
def wLstOf (m : Bool) (wa : WE) : WE := fun env S E R => wa env S E fun z S1 => vw S1 [z] fun ts => match seqT ts with
  | some xs => mkL m xs S1 R
  | none => False
def wEmp (m : Nat) : WE := fun _ S _ R => match m with
  | 0 => R (.t .emp) S
  | 1 => R (.ref S.length) (S ++ [.dK []])
  | _ => R (.ref S.length) (S ++ [.dT []])
section
variable {X : Cx} {Ew : WX} {e a : Expr} {wa we : WE} {pos apos cpos p : Pos}
theorem RTs.dropLast {K : PySem.W.Frag} {mg : Str → Option Value} {F : Hp} {xs : List T} {vs : List V} (r : RTs K mg F xs vs) : RTs K mg F xs.dropLast vs.dropLast := by
  rw [List.dropLast_eq_take, List.dropLast_eq_take, r.length]
  exact r.take _
theorem SE.app {i : Nat} {x : Str} (hN : X.N[i]? = some x) (hv : Vis X.env.scope x) (hd : (x == ("__debug__" : Str)) = false) (hcd : (x == ("__classdict__" : Str)) = false) (he : SE X Ew e we) (hs : starEach [e] X.env = [(false, eval e X.env)]) (hl : (apos.endLine == cpos.line) = true) :
    SE X Ew (.Call (.Attribute (.Name x p) "append" apos) [e] [] cpos) (wApp i we) :=
  PE.imp (pe_bm PySem.F.plainAttrs_list PySem.F.slot_list_append PySem.F.type_list_append mt_append (pe_var hN hv hd hcd) (pa_cons he pa_nil hs) rfl (by rw [hs]; rfl) hl hs rfl)
  fun σ H Q ⟨μ, F, env, S, E, R, rel, hw, xo, post⟩ => by
    obtain ⟨j, xs0, hj, hS0, hw⟩ := hw
    obtain ⟨v, e1, a, ha, rfl⟩ := rel.env i _ (gE_iff hj)
    obtain ⟨vs0, hH0, _⟩ := rel.sto j a _ ha hS0
    refine ⟨.ref a, e1, .inl ⟨rfl, _, SqL.of hH0⟩, μ, F, env, S, E, _, rel, hw, xo, fun y S1 μ1 F1 v H1 hy x1 r1 q1 => ?_⟩
    obtain ⟨xs, t, hS, rfl, hl, hR⟩ := hy
    obtain ⟨vs, hH, rv⟩ := r1.sto j a _ (x1.pre j a ha) hS
    have q2 : RT X.K X.mg F1 t v := q1
    exact ⟨a, vs, v, rfl, rfl, hH, by rw [rv.length]; exact hl, post _ _ μ1 F1 _ _ hR x1 (r1.put (x1.pre j a ha) hS rfl ⟨_, upd_same, rv.append (RTs.cons q2 (rts_nil.mpr rfl))⟩) (show RT X.K X.mg F1 .non .non from rt_non.mpr rfl)⟩
theorem SE.pop {i : Nat} {x : Str} (hN : X.N[i]? = some x) (hv : Vis X.env.scope x) (hd : (x == ("__debug__" : Str)) = false) (hcd : (x == ("__classdict__" : Str)) = false) (hl : (apos.endLine == cpos.line) = true) :
    SE X Ew (.Call (.Attribute (.Name x p) "pop" apos) [] [] cpos) (wPop i) :=
  PE.imp (pe_bm0 PySem.F.plainAttrs_list PySem.F.slot_list_pop PySem.F.type_list_pop mt_pop (pe_var hN hv hd hcd) rfl hl)
  fun σ H Q ⟨μ, F, env, S, E, R, rel, hw, xo, post⟩ => by
    obtain ⟨j, xs, t, hj, hS, ht, hR⟩ := hw
    obtain ⟨v, e1, a, ha, rfl⟩ := rel.env i _ (gE_iff hj)
    obtain ⟨vs, hH, rv⟩ := rel.sto j a _ ha hS
    obtain ⟨u, hu, ru⟩ := rv.get ht
    exact ⟨.ref a, e1, .inl ⟨rfl, _, SqL.of hH⟩, a, vs, u, rfl, rfl, hH, by rw [rv.length]; exact hu, post _ _ μ F u _ hR Ext.refl (rel.put ha hS rfl ⟨_, upd_same, rv.dropLast⟩) ru⟩
theorem SE.lstOf {m : Bool} (ha : SE X Ew a wa) (hg : Gl X "list") (hm : X.mg "list" = none) (he : starEach [a] X.env = [(false, eval a X.env)]) : SE X Ew (.Call (.Name "list" p) [a] [] pos) (wLstOf m wa) :=
  PE.imp (pe_callTy call_list_of hg hm PyProof.Rows.Boot.list (pa_cons ha pa_nil he) (by decide) (by decide) he rfl) fun σ H Q ⟨μ, F, env, S, E, R, rel, hw, xo, post⟩ => by
    refine ⟨μ, F, env, S, E, _, rel, hw, xo, fun z S1 μ1 F1 v H1 hz x1 r1 q1 => ?_⟩
    obtain ⟨ts, hv, hk⟩ := vw_of hz
    have rv := views_ok r1 (ws := [z]) (vs := [v]) ⟨v, [], rfl, q1, rfl⟩ hv
    cases hs : seqT ts with
    | none => rw [hs] at hk; exact hk.elim
    | some xs =>
      rw [hs] at hk
      unfold seqT at hs
      split at hs
      · cases hs
        have r2 := rvs1 rv
        rw [rv_lst] at r2
        obtain ⟨a, vs, rfl, h1, h2⟩ := r2
        exact ⟨a, vs, rfl, .inl (SqL.of h1), fun l hl => mkL_ok r1 h2 hl hk fun z S' μ' F' v H' hz x' r' q' => post z S' μ' F' v H' hz (x1.trans x') r' q'⟩
      · cases hs
        have r2 := rvs1 rv
        rw [rv_tup] at r2
        obtain ⟨a, vs, rfl, h1, h2⟩ := r2
        exact ⟨a, vs, rfl, .inr (Same.seqT r1.sub h1), fun l hl => mkL_ok r1 h2 hl hk fun z S' μ' F' v H' hz x' r' q' => post z S' μ' F' v H' hz (x1.trans x') r' q'⟩
      · cases hs
theorem SE.emp {m : Nat} : SE X Ew (.Dict [] [] pos) (wEmp m) := by
  match m with
  | 0 =>
    refine PE.imp pe_dnewK fun σ H Q ⟨μ, F, env, S, E, R, rel, hw, xo, post⟩ p hp => ?_
    have st : Step F H (upd F p (.dK [])) (upd H p (.dK [])) := Step.new rel.sub hp
    exact post (.t .emp) S μ _ _ _ hw st.ext (rel.step st) (show RT X.K X.mg _ .emp (.ref p) by unfold RT; exact ⟨p, rfl, upd_same⟩)
  | 1 =>
    refine PE.imp pe_dnewK fun σ H Q ⟨μ, F, env, S, E, R, rel, hw, xo, post⟩ p hp => ?_
    refine post (.ref S.length) _ (μ ++ [p]) F _ _ hw Ext.push (rel.newM hp ⟨[], upd_same, rfl, rts_nil.mpr rfl⟩) ⟨p, ?_, rfl⟩
    rw [← rel.len, List.getElem?_append_right (Nat.le_refl _), Nat.sub_self]
    rfl
  | m + 2 =>
    refine PE.imp pe_dnewT fun σ H Q ⟨μ, F, env, S, E, R, rel, hw, xo, post⟩ p hp => ?_
    refine post (.ref S.length) _ (μ ++ [p]) F _ _ hw Ext.push (rel.newM hp ⟨[], upd_same, rfl, rts_nil.mpr rfl⟩) ⟨p, ?_, rfl⟩
    rw [← rel.len, List.getElem?_append_right (Nat.le_refl _), Nat.sub_self]
    rfl
end

inductive B1 where
  | len | abs | tuple | repr | str
  deriving DecidableEq
inductive B2 where
  | max | min | isi
  deriving DecidableEq
/-- operations apart from the rest -/
inductive B1X where
  | all | any | sum | int | bool | minl
  deriving DecidableEq
inductive OX where
  | f1 (f : B1X) | srt (m : Bool) | sl2 (m : Bool) | slA (m : Bool) | slB (m : Bool) | rev (m : Bool) | cat (m : Bool) | rep (m : Bool) | join (s : Str) | index | indexT | popAt (i : Nat) | isx | fld (f : Str)
inductive IX where
  | enum | zip | rng3
  deriving DecidableEq
mutual
inductive CE where
  | slot (i : Nat) | int (i : Int) | str (x : Str) | bl (b : Bool) | non | cst (j : Nat) | ty (b : BT)
  | tup (es : CEs) | lst (m : Bool) (es : CEs) | emp (m : Nat)
  | bin (o : Operator) (a b : CE) | neg (a : CE) | cmp (o : CmpOp) (a b : CE) | chn (o o' : CmpOp) (a b c : CE)
  | nt (a : CE) | and (es : CEs) | or (es : CEs) | ite (c a b : CE) | idx (a i : CE)
  | call (j : Nat) (es : CEs) | b1 (f : B1) (a : CE) | b2 (f : B2) (a b : CE) | lstOf (m : Bool) (a : CE)
  | app (i : Nat) (a : CE) | pop (i : Nat) | op (f : OX) (es : CEs)
  | glb (x : Str) | act (i : Nat) | callL (j : Nat) (b : CE)
  | comp (m : Bool) (own : List (Str × Nat)) (g : CG) (it : CI) (e : CE) | compI (m : Bool) (own : List (Str × Nat)) (g : CG) (it : CI) (c e : CE)
inductive CEs where
  | nil | cons (e : CE) (es : CEs)
inductive CI where
  | lst (e : CE) | tup (e : CE) | str (e : CE) | rng1 (e : CE) | rng2 (a b : CE) | op (f : IX) (es : CEs)
inductive CG where
  | nm (i : Nat) | tp (gs : CGs)
inductive CGs where
  | nil | cons (g : CG) (gs : CGs)
end
mutual
inductive CS where
  | asg (g : CG) (e : CE) | asgC (i : Nat) (e : CE) | par (i j : Nat) (es : CEs) | par3 (i j l : Nat) (es : CEs) | aug (i : Nat) (o : Operator) (e : CE) | setI (o k e : CE)
  | ex (e : CE) | iff (c : CE) (a b : CSs) | fr (g : CG) (it : CI) (b : CSs) | whl (c : CE) (b : CSs) | ret (e : CE) | retN | brk | cnt | pas | nev | tryN (b : CSs)
  | raise0 (x : Str) | raise1 (x f : Str) (e : CE) | tryAs (i : Nat) (ns : List Str) (b s : CSs) | tryNo (ns : List Str) (b s : CSs)
inductive CSs where
  | nil | cons (s : CS) (ss : CSs) | fz (j : Nat) (ss : CSs)
end

def opG : Operator → PO1
  | .Add => g2 oAdd | .Sub => g2 oSub | .Mult => g2 oMul | .Mod => g2 oMod | .FloorDiv => g2 oDiv | .Pow => g2 oPow
  | _ => fun _ _ => False
def oAugAdd : T → T → (T → Prop) → Prop
  | .int i, .int j, k => k (.int (i + j))
  | .str a, .str b, k => a.length + b.length ≤ sizeLine ∧ k (.str (a ++ b))
  | _, _, _ => False
def auG : Operator → PO1
  | .Add => g2 oAugAdd | .Sub => g2 oSub
  | _ => fun _ _ => False
def cmG : CmpOp → PO1
  | .Eq => g2 oEq | .NotEq => g2 oNe | .Lt => g2 oLt | .LtE => g2 oLe | .Gt => g2 oGt | .GtE => g2 oGe | .Is => g2 oIs | .IsNot => g2 oIsNot | .In => g2 oIn | .NotIn => g2 oNotIn
def b1G : B1 → PO1
  | .len => g1 oLen | .abs => g1 oAbs | .tuple => g1 oTuple | .repr => g1 oRepr | .str => g1 oStr
def b2G : B2 → PO1
  | .max => g2 oMax | .min => g2 oMin | .isi => g2 oIsi2
def b1N : B1 → Str
  | .len => "len" | .abs => "abs" | .tuple => "tuple" | .repr => "repr" | .str => "str"
def b2N : B2 → Str
  | .max => "max" | .min => "min" | .isi => "isinstance"
def btN : BT → Str
  | .int => "int" | .str => "str" | .tuple => "tuple" | .bool => "bool" | .list => "list" | .dict => "dict"

/-- a try whose body raises nothing -/
def wTryN (w : WS) : WS := fun D _ env S => w D (fun _ _ _ => False) env S
def b1xG : B1X → PO1
  | .all => g1 oAll | .any => g1 oAny | .sum => g1 oSum | .int => g1 oInt1 | .bool => g1 oBool1 | .minl => g1 oMinL
def b1xN : B1X → Str
  | .all => "all" | .any => "any" | .sum => "sum" | .int => "int" | .bool => "bool" | .minl => "min"
def oxW : OX → List WE → WE
  | .f1 f, [a] => wB (b1xG f) (waCons a waNil)
  | .srt m, [a] => wZ1 m (z1 oSorted) a
  | .sl2 m, [a, l, u] => wSl2 m a l u
  | .slA m, [a, l] => wSlA m a l
  | .slB m, [a, u] => wSlB m a u
  | .rev m, [a] => wZ1 m (z1 oRev) a
  | .cat m, [a, b] => wZ2 m (z2 oCat) a b
  | .rep m, [a, b] => wZ2 m (z2 oRep) a b
  | .join s, [a] => wJoin s a
  | .index, [a, b] => wIndex a b
  | .indexT, [a, b] => wIndexT a b
  | .popAt i, [a] => wPopAt i a
  | .isx, [a, b] => wB (g2 oIsx) (waCons a (waCons b waNil))
  | .fld f, [a] => wFld (bears f) f a
  | _, _ => fun _ _ _ _ => False
def ixW : IX → List WE → WI
  | .enum, [a] => wiEnum a
  | .zip, [a, b] => wiZip a b
  | .rng3, [a, b, c] => wiRng3 a b c
  | _, _ => fun _ _ _ _ => False
def wActC (o : Option (Nat × FS)) (i : Nat) : WE := match o with
  | some p => wAct i p.1 p.2
  | none => fun _ _ _ _ => False
section
variable (fs : Nat → FS) (ct : CT)
def wArity (n : Nat) (g : FS) : FS := fun ws S EX R => ws.length = n ∧ g ws S EX R
def CEs.len : CEs → Nat
  | .nil => 0
  | .cons _ es => es.len + 1
mutual
def wpE : CE → WE
  | .slot i => wSlot i
  | .int i => wC (.int i)
  | .str x => wC (.str x)
  | .bl b => wC (.bl b)
  | .non => wC .non
  | .cst j => wC (ct j)
  | .glb x => wC (.glb x)
  | .act i => wActC ct.th i
  | .callL j b => wCallL (ct.ft j) (wpE b)
  | .ty b => wC (.ty b.name)
  | .tup es => wTup (wpA es)
  | .lst m es => wLst m (wpA es)
  | .emp m => wEmp m
  | .bin o a b => wOp2 (opG o) (wpE a) (wpE b)
  | .neg a => wOp1 (g1 oNeg) (wpE a)
  | .cmp o a b => wOp2 (cmG o) (wpE a) (wpE b)
  | .chn o o' a b c => wChn (cmG o) (cmG o') (wpE a) (wpE b) (wpE c)
  | .nt a => wNot (wpE a)
  | .and es => wpAnd es
  | .or es => wpOr es
  | .ite c a b => wIte (wpE c) (wpE a) (wpE b)
  | .idx a i => wOp2 (g2 oIx) (wpE a) (wpE i)
  | .call j es => wCall (wArity es.len (fs j)) (wpA es)
  | .b1 f a => wB (b1G f) (waCons (wpE a) waNil)
  | .b2 f a b => wB (b2G f) (waCons (wpE a) (waCons (wpE b) waNil))
  | .lstOf m a => wLstOf m (wpE a)
  | .app i a => wApp i (wpE a)
  | .pop i => wPop i
  | .op f es => oxW f (wpL es)
  | .comp m own g it e => wComp m (own.map (·.2)) (wpI it) (wpG g) wYes (wpE e)
  | .compI m own g it c e => wComp m (own.map (·.2)) (wpI it) (wpG g) (wpE c) (wpE e)
def wpL : CEs → List WE
  | .nil => []
  | .cons e es => wpE e :: wpL es
def wpA : CEs → WA
  | .nil => waNil
  | .cons e es => waCons (wpE e) (wpA es)
def wpAnd : CEs → WE
  | .nil => wC (.bl true)
  | .cons a es => match es with
    | .nil => wpE a
    | .cons _ _ => wAnd (wpE a) (wpAnd es)
def wpOr : CEs → WE
  | .nil => wC (.bl false)
  | .cons a es => match es with
    | .nil => wpE a
    | .cons _ _ => wOr (wpE a) (wpOr es)
def wpI : CI → WI
  | .lst e => wiLst (wpE e)
  | .tup e => wiTup (wpE e)
  | .str e => wiStr (wpE e)
  | .rng1 e => wiRng1 (wpE e)
  | .rng2 a b => wiRng2 (wpE a) (wpE b)
  | .op f es => ixW f (wpL es)
def wpG : CG → WG
  | .nm i => gNm i
  | .tp gs => gTp (wpGs gs)
def wpGs : CGs → WGs
  | .nil => gsNil
  | .cons g gs => gsCons (wpG g) (wpGs gs)
end
mutual
def wpS : CS → WS
  | .asg g e => wAsg (wpE fs ct e) (wpG fs ct g)
  | .asgC i e => wAsg (wpE fs ct e) (gNm i)
  | .par i j es => wPar i j (wpA fs ct es)
  | .par3 i j l es => wPar3 i j l (wpA fs ct es)
  | .aug i o e => wAug i (auG o) (wpE fs ct e)
  | .setI o k e => wSetI (wpE fs ct o) (wpE fs ct k) (wpE fs ct e)
  | .ex e => wEx (wpE fs ct e)
  | .iff c a b => wIf (wpE fs ct c) (wpB a) (wpB b)
  | .fr g it b => wFor (wpI fs ct it) (wpG fs ct g) (wpB b)
  | .whl c b => wWhile (wpE fs ct c) (wpB b)
  | .ret e => wRet (wpE fs ct e)
  | .retN => wRetN
  | .brk => wBrk
  | .cnt => wCnt
  | .pas => wNext
  | .nev => wNev
  | .tryN b => wTryN (wpB b)
  | .raise0 x => wRaise0 x
  | .raise1 x f e => wRaise1 x f (wpE fs ct e)
  | .tryAs i ns b s => wTryAs (mtE ns) i (wpB b) (wpB s)
  | .tryNo ns b s => wTryNo (mtE ns) (wpB b) (wpB s)
def wpB : CSs → WS
  | .nil => wNext
  | .cons s ss => wSeq (wpS s) (wpB ss)
  | .fz j ss => wFz j (wpB ss)
end
end

def arOk (o : Option (Str × Option Nat)) (x : Str) (n : Nat) : Bool := match o with
  | some (y, some m) => decide (y = x) && decide (m = n)
  | some (y, none) => decide (y = x)
  | none => false
theorem arOk_of {o : Option (Str × Option Nat)} {x : Str} {n : Nat} (h : arOk o x n = true) : ∃ on, o = some (x, on) ∧ ∀ m, on = some m → m = n := by
  unfold arOk at h
  split at h
  · simp only [Bool.and_eq_true, decide_eq_true_eq] at h
    obtain ⟨rfl, rfl⟩ := h
    exact ⟨_, rfl, fun m e => by cases e; rfl⟩
  · have e := of_decide_eq_true h
    subst e
    exact ⟨_, rfl, fun m e => by cases e⟩
  · cases h
structure Ck where
  N : List Str
  sc : Scope
  fa : Bool
  lm : Bool
  la : Bool
  r : RowD
  lim : Nat
def isLoc : Option NameKind → Bool
  | some .local => true
  | _ => false
def isVis : Option NameKind → Bool
  | some .local => true
  | some .cell => true
  | some .free => true
  | _ => false
def isGl : Option NameKind → Bool
  | some .globalImplicit => true
  | _ => false
def nmOk (x : Str) : Bool := !(x == ("__debug__" : Str)) && !(x == ("__classdict__" : Str)) && !(x == ("__name__" : Str))
def Ck.slot (k : Ck) (i : Nat) (x : Str) : Bool := decide (k.N[i]? = some x) && isVis (k.sc.names.lookup x) && nmOk x
def Ck.loc (k : Ck) (i : Nat) (x : Str) : Bool := decide (k.N[i]? = some x) && (isLoc (k.sc.names.lookup x) || (k.fa && decide (k.sc.names.lookup x = some .cell)))
def Ck.gl (k : Ck) (x : Str) : Bool := isGl (k.sc.names.lookup x) && nmOk x
def Ck.blt (k : Ck) (x : Str) : Bool := k.gl x && k.r.fr.contains x
def okShape : Expr → Bool
  | .Starred .. => false | .Set .. => false | .Slice .. => false | .SetComp .. => false | .DictComp .. => false | .NamedExpr .. => false | .Lambda .. => false | .Await .. => false | .Yield .. => false | .YieldFrom .. => false | .GeneratorExp .. => false
  | _ => true
def noComp : Expr → Bool
  | .ListComp .. => false
  | _ => true
def CGs.len : CGs → Nat
  | .nil => 0
  | .cons _ gs => gs.len + 1
mutual
def CG.sl : CG → List Nat
  | .nm i => [i]
  | .tp gs => gs.sl
def CGs.sl : CGs → List Nat
  | .nil => []
  | .cons g gs => g.sl ++ gs.sl
end
mutual
def chkG (k : Ck) : CG → Expr → Bool
  | .nm i, e => (match e with
    | .Name x _ => k.loc i x
    | _ => false)
  | .tp gs, e => (match e with
    | .Tuple es _ _ => chkGs k gs es
    | _ => false)
def chkGs (k : Ck) : CGs → List Expr → Bool
  | .nil, es => es.isEmpty
  | .cons g gs, es => (match es with
    | e :: r => chkG k g e && chkGs k gs r
    | [] => false)
end
def oneLine (a b : Pos) : Bool := a.endLine == b.line
/-- the parts of such an operation, in their order -/
def oxS (k : Ck) : OX → Expr → Option (List Expr)
  | .f1 f, e => (match e with
    | .Call (.Name x _) [y] [] _ => if (decide (b1xN f = x) && k.blt x) = true then some [y] else none
    | _ => none)
  | .srt _, e => (match e with
    | .Call (.Name x _) [y] [] _ => if (decide ("sorted" = x) && k.blt x) = true then some [y] else none
    | _ => none)
  | .sl2 _, e => (match e with
    | .Subscript x (.Slice (some a) (some b) none _) _ => some [x, a, b]
    | _ => none)
  | .slA _, e => (match e with
    | .Subscript x (.Slice (some a) none none _) _ => some [x, a]
    | _ => none)
  | .slB _, e => (match e with
    | .Subscript x (.Slice none (some b) none _) _ => some [x, b]
    | _ => none)
  | .rev _, e => (match e with
    | .Subscript x (.Slice none none (some (.UnaryOp .USub (.Constant (.int 1) _ _) _)) _) _ => some [x]
    | _ => none)
  | .cat _, e => (match e with
    | .BinOp x .Add y _ => some [x, y]
    | _ => none)
  | .rep _, e => (match e with
    | .BinOp x .Mult y _ => some [x, y]
    | _ => none)
  | .join s, e => (match e with
    | .Call (.Attribute (.Constant (.str z) _ _) f p) [y] [] q => if (decide (s = z) && decide (f = "join") && oneLine p q) = true then some [y] else none
    | _ => none)
  | .index, e => (match e with
    | .Call (.Attribute o f p) [y] [] q => if (baseOk o && decide (f = "index") && oneLine p q) = true then some [o, y] else none
    | _ => none)
  | .indexT, e => (match e with
    | .Call (.Attribute o f p) [y] [] q => if (baseOk o && decide (f = "index") && oneLine p q) = true then some [o, y] else none
    | _ => none)
  | .popAt i, e => (match e with
    | .Call (.Attribute (.Name x _) f p) [y] [] q => if (decide (f = "pop") && k.slot i x && oneLine p q) = true then some [y] else none
    | _ => none)
  | .isx, e => (match e with
    | .Call (.Name x _) [y, z] [] _ => if (decide ("isinstance" = x) && k.blt x) = true then some [y, z] else none
    | _ => none)
  | .fld f, e => (match e with
    | .Attribute o g _ => if (decide (f = g) && baseOk o) = true then some [o] else none
    | _ => none)
def ixS (k : Ck) : IX → Expr → Option (List Expr)
  | .enum, e => (match e with
    | .Call (.Name x _) [y] [] _ => if (decide (x = "enumerate") && k.blt x) = true then some [y] else none
    | _ => none)
  | .zip, e => (match e with
    | .Call (.Name x _) [y, z] [] _ => if (decide (x = "zip") && k.blt x) = true then some [y, z] else none
    | _ => none)
  | .rng3, e => (match e with
    | .Call (.Name x _) [y, z, u] [] _ => if (decide (x = "range") && k.blt x) = true then some [y, z, u] else none
    | _ => none)
def isTupE : Expr → Bool
  | .Tuple .. => true
  | _ => false
/-- which loops want a written tuple ahead of them -/
def itT : CI → Expr → Bool
  | .op .enum _, tg => isTupE tg
  | .op .zip _, tg => isTupE tg
  | _, _ => true
mutual
def chkE (k : Ck) : CE → Expr → Bool
  | .slot i, e => (match e with
    | .Name x _ => k.slot i x
    | _ => false)
  | .int i, e => (match e with
    | .Constant (.int j) _ _ => decide (i = j)
    | _ => false)
  | .str x, e => (match e with
    | .Constant (.str y) _ _ => decide (x = y)
    | _ => false)
  | .bl b, e => (match e with
    | .Constant (.bool c) _ _ => b == c
    | _ => false)
  | .non, e => (match e with
    | .Constant .none _ _ => true
    | _ => false)
  | .cst j, e => (match e with
    | .Name x _ => decide (k.r.cs[j]? = some x) && k.gl x
    | _ => false)
  | .glb y, e => (match e with
    | .Name x _ => decide (y = x) && k.r.ec.contains x && k.gl x
    | _ => false)
  | .act i, e => (match e with
    | .Call (.Name x _) [] [] _ => k.slot i x && k.la
    | _ => false)
  | .callL j b, e => (match e with
    | .Call (.Name x _) [.Lambda ⟨[], [], none, [], [], none, []⟩ body scope _] [] _ => (match k.r.nt[j]? with
      | some (y, l) => decide (y = x) && decide (l < k.lim) && decide (2 ≤ k.lim) && k.gl x && k.lm && LamX.lamSB k.sc scope && chkE { k with sc := scope, fa := false, lm := false, la := false, lim := k.lim - 2 } b body
      | none => false)
    | _ => false)
  | .ty b, e => (match e with
    | .Name x _ => decide (btN b = x) && k.blt x
    | _ => false)
  | .tup es, e => (match e with
    | .Tuple xs _ _ => chkA k es xs
    | _ => false)
  | .lst _ es, e => (match e with
    | .List xs _ => chkA k es xs
    | _ => false)
  | .emp _, e => (match e with
    | .Dict [] [] _ => true
    | _ => false)
  | .bin o a b, e => (match e with
    | .BinOp x o' y _ => decide (o = o') && chkE k a x && chkE k b y
    | _ => false)
  | .neg a, e => (match e with
    | .UnaryOp .USub x _ => chkE k a x
    | _ => false)
  | .cmp o a b, e => (match e with
    | .Compare x [o'] [y] _ => decide (o = o') && chkE k a x && chkE k b y
    | _ => false)
  | .chn o p a b c, e => (match e with
    | .Compare x [o', p'] [y, z] _ => decide (o = o') && decide (p = p') && chkE k a x && chkE k b y && chkE k c z
    | _ => false)
  | .nt a, e => (match e with
    | .UnaryOp .Not x _ => chkE k a x
    | _ => false)
  | .and es, e => (match e with
    | .BoolOp .And xs _ => chkA k es xs && !xs.isEmpty
    | _ => false)
  | .or es, e => (match e with
    | .BoolOp .Or xs _ => chkA k es xs && !xs.isEmpty
    | _ => false)
  | .ite c a b, e => (match e with
    | .IfExp z x y _ => chkE k c z && noIte c && chkE k a x && chkE k b y
    | _ => false)
  | .idx a i, e => (match e with
    | .Subscript x y _ => chkE k a x && chkE k i y && okShape y
    | _ => false)
  | .call j es, e => (match e with
    | .Call (.Name x _) xs [] _ => decide (j < k.lim) && arOk k.r.nm[j]? x es.len && k.gl x && chkA k es xs
    | _ => false)
  | .b1 f a, e => (match e with
    | .Call (.Name x _) [y] [] _ => decide (b1N f = x) && k.blt x && chkE k a y && okShape y
    | _ => false)
  | .b2 f a b, e => (match e with
    | .Call (.Name x _) [y, z] [] _ => decide (b2N f = x) && k.blt x && chkE k a y && chkE k b z && okShape y && okShape z
    | _ => false)
  | .lstOf _ a, e => (match e with
    | .Call (.Name x _) [y] [] _ => decide ("list" = x) && k.blt x && chkE k a y && okShape y
    | _ => false)
  | .app i a, e => (match e with
    | .Call (.Attribute (.Name x _) f p) [y] [] q => decide (f = "append") && k.slot i x && chkE k a y && okShape y && oneLine p q
    | _ => false)
  | .pop i, e => (match e with
    | .Call (.Attribute (.Name x _) f p) [] [] q => decide (f = "pop") && k.slot i x && oneLine p q
    | _ => false)
  | .op f es, e => (match oxS k f e with
    | some xs => chkA k es xs
    | none => false)
  | .comp _ own g it c, e => (match e with
    | .ListComp elt [⟨tg, iter, [], 0⟩] scope _ => blkC k.N k.sc scope own && (g.sl.all fun i => (own.map (·.2)).contains i) && chkG { k with sc := relS scope k.sc, fa := false, la := false } g tg && (chkI k it iter && itT it tg) && okShape iter && chkE { k with sc := relS scope k.sc, fa := false, la := false } c elt
    | _ => false)
  | .compI _ own g it d c, e => (match e with
    | .ListComp elt [⟨tg, iter, [cond], 0⟩] scope _ => blkC k.N k.sc scope own && (g.sl.all fun i => (own.map (·.2)).contains i) && chkG { k with sc := relS scope k.sc, fa := false, la := false } g tg && (chkI k it iter && itT it tg) && okShape iter && chkE { k with sc := relS scope k.sc, fa := false, la := false } d cond && noIte d &&
        chkE { k with sc := relS scope k.sc, fa := false, la := false } c elt
    | _ => false)
def chkA (k : Ck) : CEs → List Expr → Bool
  | .nil, xs => xs.isEmpty
  | .cons e es, xs => (match xs with
    | y :: r => chkE k e y && okShape y && chkA k es r
    | [] => false)
def chkI (k : Ck) : CI → Expr → Bool
  | .lst e, x => chkE k e x
  | .tup e, x => chkE k e x
  | .str e, x => chkE k e x
  | .rng1 e, x => (match x with
    | .Call (.Name f _) [y] [] _ => decide (f = "range") && k.blt f && chkE k e y && okShape y
    | _ => false)
  | .rng2 a b, x => (match x with
    | .Call (.Name f _) [y, z] [] _ => decide (f = "range") && k.blt f && chkE k a y && chkE k b z && okShape y && okShape z
    | _ => false)
  | .op f es, x => (match ixS k f x with
    | some xs => chkA k es xs
    | none => false)
/-- as a test -/
def noIte : CE → Bool
  | .ite _ _ _ => false
  | .and es => noItes es
  | .or es => noItes es
  | .nt a => noIte a
  | _ => true
def noItes : CEs → Bool
  | .nil => true
  | .cons e es => noIte e && noItes es
end
/-- the names that a written tuple of targets stores from the right -/
def swNames (sc : Scope) (ts : List Expr) : List Str := ts.filterMap fun
  | .Name id pos => if (sc.names.lookup id == some .local && pos.line == (ts.head?.map (·.pos.line)).getD 0) = true then some id else none
  | _ => none
def starB : Expr → Bool
  | .Starred .. => true
  | _ => false
/-- no swap of stores -/
def noSwap (sc : Scope) (tg v : Expr) : Bool := match tg, v with
  | .Tuple ts _ _, .Tuple vs _ _ => !(ts.length == 2 || ts.length == 3) || vs.length != ts.length || ((swNames sc ts).length != ts.length) || (vs.any starB == false && vs.all (foldedForSure 8))
  | .List _ _, .Tuple _ _ _ => false
  | _, _ => true
def swapsTo (sc : Scope) (ts vs : List Expr) (ns : List Str) : Bool := (ts.length == 2 || ts.length == 3) && vs.length == ts.length && !(vs.any starB) && decide (swNames sc ts = ns) && decide (ns.length = ts.length) && (ns.eraseDups.length == ns.length) && !(vs.all (foldedForSure 8)) && !(vs.all (constantsAlone 8))
def isCompC : CE → Bool
  | .comp .. => true
  | .compI .. => true
  | _ => false
def compSwaps (k : Ck) (t : Str) (p : Pos) (v : Expr) : Bool := match v with
  | .ListComp _ _ s q => decide (k.sc.names.lookup t = some .local) && (p.line == q.line) && !(s.names.any fun (n, kd) => n == t && (kd == .local || kd == .cell))
  | _ => false
/-- what a suite behind except may hold -/
def simpleE : CE → Bool
  | .slot _ => true
  | .int _ => true
  | .str _ => true
  | .bl _ => true
  | .non => true
  | _ => false
def chkU1 (k : Ck) : CS → Stmt → Bool
  | .asg (.nm i) e, s => (match s with
    | .Assign [.Name x _] v _ => k.loc i x && simpleE e && chkE k e v
    | _ => false)
  | .ret e, s => (match s with
    | .Return (some v) _ => simpleE e && chkE k e v
    | _ => false)
  | _, _ => false
def chkU (k : Ck) : CSs → List Stmt → Bool
  | .nil, ss => ss.isEmpty
  | .cons c cs, ss => (match ss with
    | s :: r => chkU1 k c s && chkU k cs r
    | [] => false)
  | .fz _ _, _ => false
/-- the classes that an except clause names -/
def chkC (k : Ck) (ns : List Str) (t : Expr) : Bool := (ns.all fun n => k.r.ec.contains n && k.gl n) && (match t, ns with
  | .Name x _, [a] => decide (x = a)
  | .Tuple [.Name x _, .Name y _] _ _, [a, b] => decide (x = a) && decide (y = b)
  | .Tuple [.Name x _, .Name y _, .Name z _] _ _, [a, b, c] => decide (x = a) && decide (y = b) && decide (z = c)
  | _, _ => false)
mutual
def chkS (k : Ck) : CS → Stmt → Bool
  | .asg g e, s => (match s with
    | .Assign [tg] v _ => chkG k g tg && chkE k e v && okShape v && noComp v && noSwap k.sc tg v
    | _ => false)
  | .asgC i e, s => (match s with
    | .Assign [.Name x p] v _ => k.loc i x && chkE k e v && compSwaps k x p v && isCompC e
    | _ => false)
  | .par i j es, s => (match s with
    | .Assign [.Tuple [.Name x p, .Name y q] kt pt] (.Tuple [a, b] k2 p2) _ => k.loc i x && k.loc j y && isLoc (k.sc.names.lookup x) && isLoc (k.sc.names.lookup y) && !(i == j) && chkA k es [a, b] && swapsTo k.sc [.Name x p, .Name y q] [a, b] [x, y]
    | _ => false)
  | .par3 i j l es, s => (match s with
    | .Assign [.Tuple [.Name x p, .Name y q, .Name z r] kt pt] (.Tuple [a, b, c] k2 p2) _ => k.loc i x && k.loc j y && k.loc l z && isLoc (k.sc.names.lookup x) && isLoc (k.sc.names.lookup y) && isLoc (k.sc.names.lookup z) && !(i == j) && !(i == l) && !(j == l) && chkA k es [a, b, c] && swapsTo k.sc [.Name x p, .Name y q, .Name z r] [a, b, c] [x, y, z]
    | _ => false)
  | .aug i o e, s => (match s with
    | .AugAssign (.Name x _) o' v _ => decide (o = o') && k.loc i x && chkE k e v
    | _ => false)
  | .setI o i e, s => (match s with
    | .Assign [.Subscript x y _] v _ => chkE k o x && chkE k i y && okShape y && chkE k e v && okShape v && noComp v
    | _ => false)
  | .ex e, s => (match s with
    | .Expr v _ => chkE k e v && okShape v && noComp v
    | _ => false)
  | .iff c a b, s => (match s with
    | .If t x y _ => chkE k c t && noIte c && chkB k a x && chkB k b y
    | _ => false)
  | .fr g it b, s => (match s with
    | .For tg iter body [] _ => chkG k g tg && (chkI k it iter && itT it tg) && okShape iter && chkB k b body
    | _ => false)
  | .whl c b, s => (match s with
    | .While t body [] _ => chkE k c t && noIte c && chkB k b body
    | _ => false)
  | .ret e, s => (match s with
    | .Return (some v) _ => chkE k e v
    | _ => false)
  | .retN, s => (match s with
    | .Return none _ => true
    | _ => false)
  | .brk, s => (match s with
    | .Break _ => true
    | _ => false)
  | .cnt, s => (match s with
    | .Continue _ => true
    | _ => false)
  | .pas, s => (match s with
    | .Pass _ => true
    | .Expr (.Constant (.str _) _ _) _ => true
    | _ => false)
  | .nev, _ => true
  | .tryN b, s => (match s with
    | .Try body (_ :: _) [] [] _ => chkB k b body
    | _ => false)
  | .raise0 x, s => (match s with
    | .Raise (some (.Call (.Name y _) [.Constant (.str _) _ _] [] _)) none _ => decide (x = y) && k.r.ec.contains x && k.gl x && (match errOf x with
      | some c => c.fld.isNone
      | none => false)
    | _ => false)
  | .raise1 x f e, s => (match s with
    | .Raise (some (.Call (.Name y _) [a] [] _)) none _ => decide (x = y) && k.r.ec.contains x && k.gl x && bears f x && chkE k e a
    | _ => false)
  | .tryAs i ns b u, s => (match s with
    | .Try body [.ExceptHandler (some t) (some n) (b0 :: suite) _] [] [] _ => k.loc i n && isLoc (k.sc.names.lookup n) && chkC k ns t && chkB k b body && chkU k u (b0 :: suite)
    | _ => false)
  | .tryNo ns b u, s => (match s with
    | .Try body [.ExceptHandler (some t) none (b0 :: suite) _] [] [] _ => chkC k ns t && chkB k b body && chkU k u (b0 :: suite)
    | _ => false)
def chkB (k : Ck) : CSs → List Stmt → Bool
  | .nil, ss => ss.isEmpty
  | .cons c cs, ss => (match ss with
    | s :: r => chkS k c s && chkB k cs r
    | [] => false)
  | .fz _ cs, ss => chkB k cs ss
end
end Tw
set_option Elab.async false
set_option linter.all false
set_option maxRecDepth 100000
set_option maxHeartbeats 4000000
namespace Tw
open PySem PySem.Spec PyProof.Rows L2

theorem star_of {e : Expr} {es : List Expr} {env : PySem.Env} (h : okShape e = true) : starEach (e :: es) env = (false, eval e env) :: starEach es env := by
  cases e <;> first | rfl | cases h
theorem behind_of {e : Expr} {op : CmpOp} (h : okShape e = true) : behindInMarks op e = false := by
  cases e <;> first | rfl | cases h
theorem fold_of {e : Expr} {env : PySem.Env} (h : okShape e = true) (x : Value) : foldedSetIterable e env x = pure x := by
  cases e <;> first | rfl | cases h
theorem swaps_of {e : Expr} {env : PySem.Env} {t : Option Expr} {l : Nat} (h : okShape e = true) (h2 : noComp e = true) : swapsWith e t l env = pure false := by
  cases e <;> first | rfl | exact absurd h2 Bool.false_ne_true | exact absurd h Bool.false_ne_true
theorem plainIx_of {e : Expr} (h : okShape e = true) : PlainIx e := by
  intro o i
  cases e <;> first | rfl | cases h
theorem sw_none {env : PySem.Env} {tg v : Expr} (hk : env.blockKind = .function) (h : noSwap env.scope tg v = true) : swappedStores [tg] v env = pure none := by
  cases tg with
  | Tuple ts a b =>
    cases v with
    | Tuple vs c d =>
      have h' : (!(ts.length == 2 || ts.length == 3) || vs.length != ts.length || ((swNames env.scope ts).length != ts.length) || (vs.any starB == false && vs.all (foldedForSure 8))) = true := h
      unfold swappedStores
      dsimp only
      split
      · rfl
      · rename_i n1
        split
        · rfl
        · rename_i n2
          split
          · rfl
          · rename_i n3
            split
            · rfl
            · rename_i n4
              exfalso
              rw [hk] at n1
              have e3 : ¬ ((swNames env.scope ts).length != ts.length || (swNames env.scope ts).eraseDups.length != (swNames env.scope ts).length) = true := n3
              simp only [Bool.or_eq_true, Bool.and_eq_true] at h' n1 e3
              rcases h' with ((h' | h') | h') | h'
              · exact n1 (.inl (.inl h'))
              · exact n1 (.inl (.inr h'))
              · exact e3 (.inl h')
              · exact n4 h'.2
    | _ => rfl
  | List ts b =>
    cases v with
    | Tuple vs c d => exact absurd (show false = true from h) Bool.false_ne_true
    | _ => rfl
  | _ => rfl
theorem sw_some {env : PySem.Env} {ts vs : List Expr} {a c : Nat} {b d : Pos} {ns : List Str} (hk : env.blockKind = .function) (h : swapsTo env.scope ts vs ns = true) : swappedStores [.Tuple ts a b] (.Tuple vs c d) env = pure (some ns) := by
  unfold swapsTo at h
  simp only [Bool.and_eq_true, Bool.not_eq_true', decide_eq_true_eq] at h
  obtain ⟨⟨⟨⟨⟨⟨⟨h1, h2⟩, h3⟩, h4⟩, h5⟩, h6⟩, h7⟩, h8⟩ := h
  unfold swappedStores
  dsimp only
  split
  · rename_i n1
    exfalso
    rw [hk] at n1
    simp only [Bool.or_eq_true, Bool.not_eq_true'] at n1
    rcases n1 with (n1 | n1) | n1
    · have z : (ts.length == 2 || ts.length == 3) = true := h1
      rw [z] at n1
      cases n1
    · simp only [bne, h2, Bool.not_true] at n1; cases n1
    · cases n1
  · split
    · rename_i n2
      exfalso
      have e2 : vs.any starB = true := n2
      rw [h3] at e2
      cases e2
    · split
      · rename_i n3
        exfalso
        have e3 : ((swNames env.scope ts).length != ts.length || (swNames env.scope ts).eraseDups.length != (swNames env.scope ts).length) = true := n3
        rw [h4] at e3
        rw [Bool.or_eq_true] at e3
        rcases e3 with e3 | e3
        · rw [h5] at e3
          simp at e3
        · simp only [bne, h6, Bool.not_true] at e3
          cases e3
      · split
        · rename_i n4
          exfalso
          rw [h7] at n4
          cases n4
        · split
          · rename_i n5
            exfalso
            rw [h8] at n5
            cases n5
          · show (pure (some (swNames env.scope ts)) : Sem (Option (List Str))) = pure (some ns)
            rw [h4]
theorem comp_swaps {env : PySem.Env} {t : Str} {p q : Pos} {elt : Expr} {gs : List Comprehension} {s : Scope} {l : Nat} (hk : env.blockKind = .function) (h1 : env.scope.names.lookup t = some .local) (h2 : (p.line == q.line) = true) (h3 : (s.names.any fun (n, kd) => n == t && (kd == .local || kd == .cell)) = false) :
    swapsWith (.ListComp elt gs s q) (some (.Name t p)) l env = pure true := by
  have e1 : env.kindOf t = some .local := h1
  have e3 : (s.names.any fun x => match x with | (n, k) => n == t && (k == NameKind.local || k == NameKind.cell)) = false := h3
  unfold swapsWith
  simp only [hk, e1, Expr.pos, h2, e3]
  rfl
theorem block_fn {env : PySem.Env} (h : env.scope.kind = .function) : env.blockKind = .function := by
  unfold Env.blockKind
  rw [h] <;> rfl

theorem oxS_ok {k : Ck} {f : OX} {e : Expr} {xs : List Expr} (h : oxS k f e = some xs) : okShape e = true := by
  cases f <;> (unfold oxS at h; dsimp only at h; split at h <;> first | rfl | exact nomatch h)
theorem oxS_val {k : Ck} {f : OX} {e : Expr} {xs : List Expr} {env : PySem.Env} (h : oxS k f e = some xs) : ∀ whole, isTrue e env whole = (do let v ← whole; standAt e.pos; holding [v] (truthy v)) := by
  cases f <;> (unfold oxS at h; dsimp only at h; split at h <;> first | (intro; rfl) | exact nomatch h)
theorem chkE_ok {k : Ck} : ∀ {c : CE} {e : Expr}, chkE k c e = true → okShape e = true := by
  intro c e h
  cases c <;> (unfold chkE at h; split at h <;> first | rfl | exact absurd h Bool.false_ne_true | (rename_i q; exact oxS_ok q))
theorem chkA_plain {k : Ck} {env : PySem.Env} {pos : Pos} : ∀ {cs : CEs} {es : List Expr}, chkA k cs es = true → (backTo pos (starEach es env)).any (·.1) = false := by
  intro cs es
  induction es generalizing cs with
  | nil => intro _; rfl
  | cons e es ih =>
    intro h
    cases cs with
    | nil => unfold chkA at h; cases h
    | cons c cs =>
      unfold chkA at h
      simp only [Bool.and_eq_true] at h
      rw [star_of h.1.2]
      exact ih h.2
theorem chkA_len {k : Ck} : ∀ {cs : CEs} {es : List Expr}, chkA k cs es = true → es.length = cs.len := by
  intro cs es
  induction es generalizing cs with
  | nil =>
    intro h
    cases cs with
    | nil => rfl
    | cons c cs => unfold chkA at h; cases h
  | cons e es ih =>
    intro h
    cases cs with
    | nil => unfold chkA at h; cases h
    | cons c cs =>
      unfold chkA at h
      simp only [Bool.and_eq_true] at h
      show es.length + 1 = cs.len + 1
      rw [ih h.2]

section
variable {X : Cx}
theorem no_rP {K : PySem.W.Frag} {mg : Str → Option Value} {vs : List V} {H : Hp} {Q : VK} : ¬ rP K mg (fun _ _ => False) vs H Q := fun ⟨_, _, _, _, _, h, _⟩ => h
theorem opG_ok : ∀ o : Operator, OpR X (binaryOp o) fun x y => rP X.K X.mg (opG o) [x, y]
  | .Add => op_addT
  | .Sub => op_subT
  | .Mult => op_mulT
  | .Mod => op_modT
  | .FloorDiv => op_divT
  | .Pow => op_powT
  | .MatMult => fun _ _ _ _ _ _ _ _ _ _ _ _ h => (no_rP h).elim
  | .Div => fun _ _ _ _ _ _ _ _ _ _ _ _ h => (no_rP h).elim
  | .LShift => fun _ _ _ _ _ _ _ _ _ _ _ _ h => (no_rP h).elim
  | .RShift => fun _ _ _ _ _ _ _ _ _ _ _ _ h => (no_rP h).elim
  | .BitOr => fun _ _ _ _ _ _ _ _ _ _ _ _ h => (no_rP h).elim
  | .BitXor => fun _ _ _ _ _ _ _ _ _ _ _ _ h => (no_rP h).elim
  | .BitAnd => fun _ _ _ _ _ _ _ _ _ _ _ _ h => (no_rP h).elim
theorem cmG_ok (hu : X.A.units + 80 < cLine) : ∀ o : CmpOp, OpR X (compareOp o) fun x y => rP X.K X.mg (cmG o) [x, y]
  | .Eq => op_eqT (by omega)
  | .NotEq => op_neT (by omega)
  | .Lt => op_ltT'
  | .LtE => op_leT'
  | .Gt => op_gtT'
  | .GtE => op_geT'
  | .Is => op_isT
  | .IsNot => op_isNotT
  | .In => op_inT (by omega)
  | .NotIn => op_notInT (by omega)
theorem auG_ok : ∀ o : Operator, PIp X o (ipP X.K X.mg (auG o))
  | .Add => by
    intro pins s σ H x y v u Q I rx ry ⟨F, ts, R, sm, rv, hg, post⟩
    obtain ⟨a, b, rfl, ho⟩ := g2_of hg
    obtain ⟨r1, r2⟩ := rvs2 rv
    unfold oAugAdd at ho
    split at ho
    · rw [rv_int] at r1 r2
      exact iop_add pins s σ H x y v u Q I rx ry ⟨_, _, r1, r2, flat_post sm post ho (rt_int.mpr rfl)⟩
    · rw [rv_str] at r1 r2
      exact iop_add_str pins s σ H x y v u Q I rx ry ⟨_, _, r1, r2, ho.1, flat_post sm post ho.2 (rt_str.mpr rfl)⟩
    · exact ho.elim
  | .Sub => by
    intro pins s σ H x y v u Q I rx ry ⟨F, ts, R, sm, rv, hg, post⟩
    obtain ⟨a, b, rfl, ho⟩ := g2_of hg
    obtain ⟨r1, r2⟩ := rvs2 rv
    unfold oSub at ho
    split at ho
    · rw [rv_int] at r1 r2
      exact iop_sub pins s σ H x y v u Q I rx ry ⟨_, _, r1, r2, flat_post sm post ho (rt_int.mpr rfl)⟩
    · exact ho.elim
  | .Mult => fun _ _ _ _ _ _ _ _ _ _ _ _ h => (no_rP h).elim
  | .Mod => fun _ _ _ _ _ _ _ _ _ _ _ _ h => (no_rP h).elim
  | .FloorDiv => fun _ _ _ _ _ _ _ _ _ _ _ _ h => (no_rP h).elim
  | .Pow => fun _ _ _ _ _ _ _ _ _ _ _ _ h => (no_rP h).elim
  | .MatMult => fun _ _ _ _ _ _ _ _ _ _ _ _ h => (no_rP h).elim
  | .Div => fun _ _ _ _ _ _ _ _ _ _ _ _ h => (no_rP h).elim
  | .LShift => fun _ _ _ _ _ _ _ _ _ _ _ _ h => (no_rP h).elim
  | .RShift => fun _ _ _ _ _ _ _ _ _ _ _ _ h => (no_rP h).elim
  | .BitOr => fun _ _ _ _ _ _ _ _ _ _ _ _ h => (no_rP h).elim
  | .BitXor => fun _ _ _ _ _ _ _ _ _ _ _ _ h => (no_rP h).elim
  | .BitAnd => fun _ _ _ _ _ _ _ _ _ _ _ _ h => (no_rP h).elim
def b1V : B1 → Value
  | .len => .builtin "len" | .abs => .builtin "abs" | .tuple => .type "tuple" | .repr => .builtin "repr" | .str => .type "str"
theorem b1_ok (hG : X.A.guards = some []) (hu : X.A.units + 80 < cLine) : ∀ f : B1, CallR X (b1V f) (rP X.K X.mg (b1G f))
  | .len => call_lenT
  | .abs => call_absT
  | .tuple => call_tupleTT
  | .repr => call_reprT hG hu
  | .str => call_strT
theorem b1_boot : ∀ f : B1, bootBuiltins (b1N f) = some (b1V f)
  | .len => PySem.boot_len
  | .abs => by decide +kernel
  | .tuple => by decide +kernel
  | .repr => by decide +kernel
  | .str => by decide +kernel
def b2V : B2 → String
  | .max => "max" | .min => "min" | .isi => "isinstance"
theorem b2_ok (hc : X.calm = true) : ∀ f : B2, CallR X (.builtin (b2V f)) (rP X.K X.mg (b2G f))
  | .max => call_maxT hc
  | .min => call_minT hc
  | .isi => call_isiTT
theorem b2_boot : ∀ f : B2, bootBuiltins (b2N f) = some (.builtin (b2V f))
  | .max => by decide +kernel
  | .min => by decide +kernel
  | .isi => by decide +kernel
theorem bt_boot : ∀ b : BT, bootBuiltins (btN b) = some (.type b.name)
  | .int => by decide +kernel
  | .str => by decide +kernel
  | .tuple => by decide +kernel
  | .bool => by decide +kernel
  | .list => by decide +kernel
  | .dict => by decide +kernel
end

theorem nmOk_of {x : Str} (h : nmOk x = true) : (x == ("__debug__" : Str)) = false ∧ (x == ("__classdict__" : Str)) = false ∧ x ≠ "__name__" := by
  unfold nmOk at h
  simp only [Bool.and_eq_true, Bool.not_eq_true'] at h
  exact ⟨h.1.1, h.1.2, fun e => by rw [e] at h; exact absurd h.2 (by decide)⟩
theorem isVis_of {sc : Scope} {x : Str} (h : isVis (sc.names.lookup x) = true) : Vis sc x := by
  unfold isVis at h
  split at h
  · rename_i e; exact .inl e
  · rename_i e; exact .inr (.inl e)
  · rename_i e; exact .inr (.inr e)
  · cases h
theorem isLoc_of {o : Option NameKind} (h : isLoc o = true) : o = some .local := by
  unfold isLoc at h
  split at h
  · rfl
  · cases h
theorem isGl_of {o : Option NameKind} (h : isGl o = true) : o = some .globalImplicit := by
  unfold isGl at h
  split at h
  · rfl
  · cases h

abbrev XOk' (fs : Nat → FS) (ct : CT) (k : Ck) (X : Cx) (Ew : WX) : Prop := XO fs ct k.r X Ew k.N k.sc k.fa k.lm k.la k.lim
section
variable {fs : Nat → FS} {ct : CT} {k : Ck} {X : Cx} {Ew : WX}
theorem slot_of (xo : XOk' fs ct k X Ew) {i : Nat} {x : Str} (h : k.slot i x = true) : X.N[i]? = some x ∧ Vis X.env.scope x ∧ (x == ("__debug__" : Str)) = false ∧ (x == ("__classdict__" : Str)) = false := by
  unfold Ck.slot at h
  simp only [Bool.and_eq_true, decide_eq_true_eq] at h
  obtain ⟨⟨h1, h2⟩, h3⟩ := h
  obtain ⟨n1, n2, _⟩ := nmOk_of h3
  exact ⟨by rw [xo.hN]; exact h1, by rw [xo.hsc]; exact isVis_of h2, n1, n2⟩
theorem loc_of (xo : XOk' fs ct k X Ew) {i : Nat} {x : Str} (h : k.loc i x = true) : X.N[i]? = some x ∧ Loc X.env.scope x ∧ (X.fn x = true ∨ X.env.scope.names.lookup x = some .local) := by
  unfold Ck.loc at h
  simp only [Bool.and_eq_true, Bool.or_eq_true, decide_eq_true_eq] at h
  obtain ⟨h1, h2⟩ := h
  rcases h2 with h2 | ⟨h2, h3⟩
  · have e := isLoc_of h2
    exact ⟨by rw [xo.hN]; exact h1, by rw [xo.hsc]; exact .inl e, .inr (by rw [xo.hsc]; exact e)⟩
  · exact ⟨by rw [xo.hN]; exact h1, by rw [xo.hsc]; exact .inr h3, .inl (xo.fa h2 x)⟩
theorem gl_of (xo : XOk' fs ct k X Ew) {x : Str} (h : k.gl x = true) : Gl X x ∧ (x == ("__debug__" : Str)) = false ∧ x ≠ "__name__" := by
  unfold Ck.gl at h
  simp only [Bool.and_eq_true] at h
  obtain ⟨n1, _, n3⟩ := nmOk_of h.2
  refine ⟨?_, n1, n3⟩
  show X.env.scope.names.lookup x = _
  rw [xo.hsc]
  exact isGl_of h.1
theorem blt_of (xo : XOk' fs ct k X Ew) {x : Str} (h : k.blt x = true) : Gl X x ∧ X.mg x = none ∧ (x == ("__debug__" : Str)) = false ∧ x ≠ "__name__" := by
  unfold Ck.blt at h
  simp only [Bool.and_eq_true] at h
  obtain ⟨g1, g2, g3⟩ := gl_of xo h.1
  exact ⟨g1, xo.fr x (List.contains_iff_mem.mp h.2), g2, g3⟩
theorem units_of (xo : XOk' fs ct k X Ew) : X.A.units + 80 < cLine := by
  have h := xo.room.un
  omega
theorem lamMk_blk (h : LamMk X) {scope : Scope} {s : Shared} {H : Hp} {C : Addr} {cl : List (Str × Addr)} {fp : List Addr} : LamMk (X.blk s H scope (compEnvC scope cl C X.env) fp) := h
theorem cls_of_ec (xo : XOk' fs ct k X Ew) {x : Str} (h : k.r.ec.contains x = true) : ∃ C, X.mg x = some (.ref C) := xo.ec x (List.contains_iff_mem.mp h)
/-- the context of a lambda's body -/
theorem lam_of (xo : XOk' fs ct k X Ew) {scope : Scope} (L : LamX.LamS X.env.scope scope) {A : Around} {outer : List PySem.Env} {s : Shared} {H : Hp} {E : XK} {f c' : Addr} {n : Nat} (hn : n ≤ k.lim) (hr : Room (n + 1) A) (hG : A.guards = some []) :
    XOk' fs ct { k with sc := scope, fa := false, lm := false, la := false, lim := n } (LamX.lamCx X A outer s H E scope f c') { w := fun cls d _ H => E cls d H } :=
  ⟨xo.hN, xo.nd, rfl, rfl, L.kind, hr.deeper _, hG, takes_of rfl rfl rfl rfl, (fun h => nomatch h), xo.fr, xo.cs, fun j x on hj => xo.fs j x on (Nat.lt_of_lt_of_le hj hn), fun j x l e hl => xo.ft j x l e (Nat.lt_of_lt_of_le hl hn), xo.ec, xo.er, (fun h => nomatch h), fun h => nomatch h⟩
/-- the context of a comprehension's block -/
theorem blk_of (xo : XOk' fs ct k X Ew) {scope : Scope} (hk : scope.kind = .function) (s : Shared) (H : Hp) (C : Addr) (cl : List (Str × Addr)) (fp : List Addr) :
    XOk' fs ct { k with sc := relS scope k.sc, fa := false, la := false } (X.blk s H scope (compEnvC scope cl C X.env) fp) noW := by
  refine ⟨xo.hN, xo.nd, ?_, xo.calm, hk, xo.room, xo.gd, takes0, (fun h => by cases h), xo.fr, xo.cs, xo.fs, xo.ft, xo.ec, xo.er, (fun h => lamMk_blk (xo.lm h)), fun h => nomatch h⟩
  show relabel scope X.env = relS scope k.sc
  rw [← xo.hsc]
  rfl
end
theorem gsl_all {g : CG} {own : List (Str × Nat)} (h : (g.sl.all fun i => (own.map (·.2)).contains i) = true) : ∀ i ∈ g.sl, i ∈ own.map (·.2) := fun i hi => by
  have := List.all_eq_true.mp h i hi
  simpa using this
section
variable {fs : Nat → FS} {ct : CT}
mutual
theorem g_ex : ∀ {g : CG} {z : W} {env : Env} {S : Sto} {R : Env → Prop}, wpG fs ct g z env S R → ∃ env', R env'
  | .nm i, z, env, S, R, h => ⟨_, h⟩
  | .tp gs, z, env, S, R, h => by
    unfold wpG gTp at h
    split at h
    · exact (gs_len h).2
    · exact (gs_len h).2
    · exact h.elim
theorem gs_len : ∀ {gs : CGs} {ts : List W} {env : Env} {S : Sto} {R : Env → Prop}, wpGs fs ct gs ts env S R → ts.length = gs.len ∧ ∃ env', R env'
  | .nil, ts, env, S, R, h => by
    unfold wpGs at h
    obtain ⟨e, h⟩ := h
    rw [e]
    exact ⟨rfl, env, h⟩
  | .cons g gs, ts, env, S, R, h => by
    unfold wpGs at h
    cases ts with
    | nil => exact h.elim
    | cons t r =>
      obtain ⟨env', h'⟩ := g_ex (show wpG fs ct g t env S (fun env' => wpGs fs ct gs r env' S R) from h)
      obtain ⟨l, q⟩ := gs_len h'
      exact ⟨congrArg Nat.succ l, q⟩
end
theorem chkGs_facts {k : Ck} {env : PySem.Env} : ∀ {gs : CGs} {es : List Expr}, chkGs k gs es = true → (assignEach es env).length = gs.len ∧ (assignEach es env).findIdx? (·.1) = none ∧ ∀ (e : Expr) (r : List Expr), es = e :: r → (assignEach (e :: r) env).map (·.2) = assign e env :: (assignEach r env).map (·.2) := by
  intro gs es
  induction es generalizing gs with
  | nil =>
    intro h
    cases gs with
    | nil => exact ⟨rfl, rfl, fun e r z => by cases z⟩
    | cons g gs => unfold chkGs at h; cases h
  | cons e es ih =>
    intro h
    cases gs with
    | nil => unfold chkGs at h; cases h
    | cons g gs =>
      unfold chkGs at h
      simp only [Bool.and_eq_true] at h
      obtain ⟨h1, h2⟩ := h
      obtain ⟨l, f, _⟩ := ih h2
      have key : assignEach (e :: es) env = (false, assign e env) :: assignEach es env := by
        cases g <;> (unfold chkG at h1; split at h1 <;> first | rfl | exact absurd h1 Bool.false_ne_true)
      refine ⟨by rw [key, List.length_cons, l]; rfl, ?_, fun e' r z => ?_⟩
      · rw [key, List.findIdx?_cons, f]
        rfl
      · cases z
        rw [key]
        rfl
mutual
theorem sndG : ∀ {g : CG} {k : Ck} {X : Cx} {Ew : WX} {e : Expr}, XOk' fs ct k X Ew → chkG k g e = true → SG X e g.sl (wpG fs ct g)
  | .nm i, k, X, Ew, e, xo, h => by
    unfold chkG at h
    split at h
    · obtain ⟨h1, h2, h3⟩ := loc_of xo h
      exact SG.nm xo.nd h1 h2 h3
    · cases h
  | .tp gs, k, X, Ew, e, xo, h => by
    unfold chkG at h
    split at h
    · obtain ⟨l, f, _⟩ := chkGs_facts (env := X.env) h
      exact SG.tp xo.calm (sndGs xo h) l f fun ts env S R hh => (gs_len hh).1
    · cases h
theorem sndGs : ∀ {gs : CGs} {k : Ck} {X : Cx} {Ew : WX} {es : List Expr}, XOk' fs ct k X Ew → chkGs k gs es = true → SGs X es gs.sl (wpGs fs ct gs)
  | .nil, k, X, Ew, es, xo, h => by
    unfold chkGs at h
    have e : es = [] := by simpa using h
    subst e
    exact SGs.nil
  | .cons g gs, k, X, Ew, es, xo, h => by
    cases es with
    | nil => unfold chkGs at h; cases h
    | cons e es =>
      have hf := (chkGs_facts (env := X.env) h).2.2 e es rfl
      unfold chkGs at h
      simp only [Bool.and_eq_true] at h
      exact SGs.cons (sndG xo h.1) (sndGs xo h.2) hf
end
section
variable {fs : Nat → FS} {ct : CT} {k : Ck} {X : Cx} {Ew : WX}
/-- the parts, each with what it computes -/
def SL (X : Cx) (Ew : WX) : List Expr → List WE → Prop
  | [], [] => True
  | e :: es, w :: ws => (SE X Ew e w ∧ okShape e = true) ∧ SL X Ew es ws
  | _, _ => False
theorem sl1 {e : Expr} {ws : List WE} (h : SL X Ew [e] ws) : ∃ w, ws = [w] ∧ SE X Ew e w ∧ okShape e = true := by
  match ws, h with
  | [w], h => exact ⟨w, rfl, h.1.1, h.1.2⟩
theorem sl2 {e f : Expr} {ws : List WE} (h : SL X Ew [e, f] ws) : ∃ w u, ws = [w, u] ∧ (SE X Ew e w ∧ okShape e = true) ∧ SE X Ew f u ∧ okShape f = true := by
  match ws, h with
  | [w, u], h => exact ⟨w, u, rfl, h.1, h.2.1.1, h.2.1.2⟩
theorem sl3 {e f g : Expr} {ws : List WE} (h : SL X Ew [e, f, g] ws) : ∃ w u z, ws = [w, u, z] ∧ (SE X Ew e w ∧ okShape e = true) ∧ (SE X Ew f u ∧ okShape f = true) ∧ SE X Ew g z ∧ okShape g = true := by
  match ws, h with
  | [w, u, z], h => exact ⟨w, u, z, rfl, h.1, h.2.1, h.2.2.1.1, h.2.2.1.2⟩
theorem ox_ok {f : OX} {e : Expr} {xs : List Expr} {ws : List WE} (xo : XOk' fs ct k X Ew) (h : oxS k f e = some xs) (hs : SL X Ew xs ws) : SE X Ew e (oxW f ws) := by
  cases f with
  | f1 f =>
    unfold oxS at h
    dsimp only at h
    split at h
    · split at h
      · rename_i c
        simp only [Bool.and_eq_true, decide_eq_true_eq] at c
        cases h
        obtain ⟨w, rfl, a1, a2⟩ := sl1 hs
        obtain ⟨h1, h2⟩ := c
        subst h1
        obtain ⟨g1, g2, g3, g4⟩ := blt_of xo h2
        have hc := xo.calm
        have hu := units_of xo
        show SE X Ew _ (wB (b1xG f) (waCons w waNil))
        cases f with
        | all => exact SE.callB (call_allT hc) g1 g2 (by decide +kernel) (SA.cons a1 SA.nil (star_of a2)) g4 g3 (star_of a2) rfl
        | any => exact SE.callB (call_anyT hc) g1 g2 (by decide +kernel) (SA.cons a1 SA.nil (star_of a2)) g4 g3 (star_of a2) rfl
        | sum => exact SE.callB (call_sumT hc) g1 g2 (by decide +kernel) (SA.cons a1 SA.nil (star_of a2)) g4 g3 (star_of a2) rfl
        | int => exact SE.callTy call_int1T g1 g2 (by decide +kernel) (SA.cons a1 SA.nil (star_of a2)) g4 g3 (star_of a2) rfl
        | bool => exact SE.callTy call_bool1T g1 g2 (by decide +kernel) (SA.cons a1 SA.nil (star_of a2)) g4 g3 (star_of a2) rfl
        | minl => exact SE.callB (call_minLT hc (by omega)) g1 g2 (by decide +kernel) (SA.cons a1 SA.nil (star_of a2)) g4 g3 (star_of a2) rfl
      · cases h
    · cases h
  | srt m =>
    unfold oxS at h
    dsimp only at h
    split at h
    · split at h
      · rename_i c
        simp only [Bool.and_eq_true, decide_eq_true_eq] at c
        cases h
        obtain ⟨w, rfl, a1, a2⟩ := sl1 hs
        obtain ⟨h1, h2⟩ := c
        subst h1
        obtain ⟨g1, g2, g3, g4⟩ := blt_of xo h2
        exact SE.callBZ call_sortedZ g1 g2 (by decide +kernel) a1 g4 g3 (star_of a2)
      · cases h
    · cases h
  | sl2 m =>
    unfold oxS at h
    dsimp only at h
    split at h
    · cases h
      obtain ⟨w, u, z, rfl, a1, a2, a3⟩ := sl3 hs
      exact SE.sl2 a1.1 a2.1 a3.1
    · cases h
  | slA m =>
    unfold oxS at h
    dsimp only at h
    split at h
    · cases h
      obtain ⟨w, u, rfl, a1, a2⟩ := sl2 hs
      exact SE.slA a1.1 a2.1
    · cases h
  | slB m =>
    unfold oxS at h
    dsimp only at h
    split at h
    · cases h
      obtain ⟨w, u, rfl, a1, a2⟩ := sl2 hs
      exact SE.slB a1.1 a2.1
    · cases h
  | rev m =>
    unfold oxS at h
    dsimp only at h
    split at h
    · cases h
      obtain ⟨w, rfl, a1, a2⟩ := sl1 hs
      exact SE.rev a1
    · cases h
  | cat m =>
    unfold oxS at h
    dsimp only at h
    split at h
    · cases h
      obtain ⟨w, u, rfl, a1, a2⟩ := sl2 hs
      exact SE.binZ op_catZ a1.1 a2.1
    · cases h
  | rep m =>
    unfold oxS at h
    dsimp only at h
    split at h
    · cases h
      obtain ⟨w, u, rfl, a1, a2⟩ := sl2 hs
      exact SE.binZ op_repZ a1.1 a2.1
    · cases h
  | join s =>
    unfold oxS at h
    dsimp only at h
    split at h
    · split at h
      · rename_i c
        simp only [Bool.and_eq_true, decide_eq_true_eq] at c
        cases h
        obtain ⟨⟨rfl, rfl⟩, hl⟩ := c
        obtain ⟨w, rfl, a1, a2⟩ := sl1 hs
        exact SE.join a1 (star_of a2) hl
      · cases h
    · cases h
  | index =>
    unfold oxS at h
    dsimp only at h
    split at h
    · split at h
      · rename_i c
        simp only [Bool.and_eq_true, decide_eq_true_eq] at c
        cases h
        obtain ⟨⟨hb, rfl⟩, hl⟩ := c
        obtain ⟨w, u, rfl, a1, a2⟩ := sl2 hs
        exact SE.index (by have := units_of xo; omega) a1.1 a2.1 hb (star_of a2.2) hl
      · cases h
    · cases h
  | indexT =>
    unfold oxS at h
    dsimp only at h
    split at h
    · split at h
      · rename_i c
        simp only [Bool.and_eq_true, decide_eq_true_eq] at c
        cases h
        obtain ⟨⟨hb, rfl⟩, hl⟩ := c
        obtain ⟨w, u, rfl, a1, a2⟩ := sl2 hs
        exact SE.indexT a1.1 a2.1 hb (star_of a2.2) hl
      · cases h
    · cases h
  | popAt i =>
    unfold oxS at h
    dsimp only at h
    split at h
    · split at h
      · rename_i c
        simp only [Bool.and_eq_true, decide_eq_true_eq] at c
        cases h
        obtain ⟨⟨rfl, hsl⟩, hl⟩ := c
        obtain ⟨w, rfl, a1, a2⟩ := sl1 hs
        obtain ⟨s1, s2, s3, s4⟩ := slot_of xo hsl
        exact SE.popAt s1 s2 s3 s4 a1 (star_of a2) hl
      · cases h
    · cases h
  | isx =>
    unfold oxS at h
    dsimp only at h
    split at h
    · split at h
      · rename_i c
        simp only [Bool.and_eq_true, decide_eq_true_eq] at c
        cases h
        obtain ⟨h1, h2⟩ := c
        subst h1
        obtain ⟨w, u, rfl, a1, a2⟩ := sl2 hs
        obtain ⟨g1, g2, g3, g4⟩ := blt_of xo h2
        exact SE.callB (call_isx xo.er) g1 g2 (by decide +kernel) (SA.cons a1.1 (SA.cons a2.1 SA.nil (star_of a2.2)) (star_of a1.2)) g4 g3 (star_of a1.2) (by rw [star_of a2.2]; rfl)
      · cases h
    · cases h
  | fld f =>
    unfold oxS at h
    dsimp only at h
    split at h
    · split at h
      · rename_i c
        simp only [Bool.and_eq_true, decide_eq_true_eq] at c
        cases h
        obtain ⟨rfl, hb⟩ := c
        obtain ⟨w, rfl, a1, a2⟩ := sl1 hs
        exact SE.fldE xo.er a1 (base_of hb)
      · cases h
    · cases h
theorem ix_ok {f : IX} {e tg : Expr} {xs : List Expr} {ws : List WE} {es : CEs} (xo : XOk' fs ct k X Ew) (h : ixS k f e = some xs) (ht : itT (.op f es) tg = true) (hs : SL X Ew xs ws) : SI X Ew tg e (ixW f ws) := by
  cases f with
  | enum =>
    unfold ixS at h
    dsimp only at h
    split at h
    · split at h
      · rename_i c
        simp only [Bool.and_eq_true, decide_eq_true_eq] at c
        cases h
        obtain ⟨rfl, h2⟩ := c
        obtain ⟨w, rfl, a1, a2⟩ := sl1 hs
        obtain ⟨g1, g2, g3, g4⟩ := blt_of xo h2
        cases tg with
        | Tuple ts a b => exact SI.enum a1 g1 g2 (star_of a2)
        | _ => cases ht
      · cases h
    · cases h
  | zip =>
    unfold ixS at h
    dsimp only at h
    split at h
    · split at h
      · rename_i c
        simp only [Bool.and_eq_true, decide_eq_true_eq] at c
        cases h
        obtain ⟨rfl, h2⟩ := c
        obtain ⟨w, u, rfl, a1, a2⟩ := sl2 hs
        obtain ⟨g1, g2, g3, g4⟩ := blt_of xo h2
        cases tg with
        | Tuple ts a b => exact SI.zip a1.1 a2.1 g1 g2 (star_of a1.2) (star_of a2.2)
        | _ => cases ht
      · cases h
    · cases h
  | rng3 =>
    unfold ixS at h
    dsimp only at h
    split at h
    · split at h
      · rename_i c
        simp only [Bool.and_eq_true, decide_eq_true_eq] at c
        cases h
        obtain ⟨rfl, h2⟩ := c
        obtain ⟨w, u, z, rfl, a1, a2, a3⟩ := sl3 hs
        obtain ⟨g1, g2, g3, g4⟩ := blt_of xo h2
        exact SI.rng3 a1.1 a2.1 a3.1 g1 g2 (star_of a1.2) (star_of a2.2) (star_of a3.2)
      · cases h
    · cases h
end
mutual
theorem sndE : ∀ (c : CE) {k : Ck} {X : Cx} {Ew : WX} {e : Expr}, XOk' fs ct k X Ew → chkE k c e = true → SE X Ew e (wpE fs ct c)
  | .slot i, k, X, Ew, e, xo, h => by
    unfold chkE at h
    split at h
    · obtain ⟨h1, h2, h3, h4⟩ := slot_of xo h
      exact SE.slot h1 h2 h3 h4
    · cases h
  | .int i, k, X, Ew, e, xo, h => by
    unfold chkE at h
    split at h
    · rw [decide_eq_true_eq] at h
      subst h
      exact SE.con pe_int fun F => rt_int.mpr rfl
    · cases h
  | .str i, k, X, Ew, e, xo, h => by
    unfold chkE at h
    split at h
    · rw [decide_eq_true_eq] at h
      subst h
      exact SE.con pe_str fun F => rt_str.mpr rfl
    · cases h
  | .bl i, k, X, Ew, e, xo, h => by
    unfold chkE at h
    split at h
    · have h' := eq_of_beq h
      subst h'
      exact SE.con pe_bl fun F => rt_bl.mpr rfl
    · cases h
  | .non, k, X, Ew, e, xo, h => by
    unfold chkE at h
    split at h
    · exact SE.con pe_non fun F => rt_non.mpr rfl
    · cases h
  | .cst j, k, X, Ew, e, xo, h => by
    unfold chkE at h
    split at h
    · simp only [Bool.and_eq_true, decide_eq_true_eq] at h
      obtain ⟨g1, g2, _⟩ := gl_of xo h.2
      obtain ⟨v, u, h1, h2, h3⟩ := xo.cs j _ h.1
      exact SE.con (pe_glob g1 h1 h2 g2) h3
    · cases h
  | .glb y, k, X, Ew, e, xo, h => by
    unfold chkE at h
    split at h
    · simp only [Bool.and_eq_true, decide_eq_true_eq] at h
      obtain ⟨⟨h1, h2⟩, h3⟩ := h
      subst h1
      obtain ⟨g1, g2, _⟩ := gl_of xo h3
      obtain ⟨C, hC⟩ := cls_of_ec xo h2
      exact SE.con (v := .ref C) (pe_glob g1 hC rfl g2) fun F => rt_glb.mpr ⟨C, rfl, hC⟩
    · cases h
  | .act i, k, X, Ew, e, xo, h => by
    unfold chkE at h
    split at h
    · rw [Bool.and_eq_true] at h
      obtain ⟨s1, s2, s3, s4⟩ := slot_of xo h.1
      show SE X Ew _ (wActC ct.th i)
      unfold wActC
      split
      · rename_i p hp
        exact xo.la h.2 p.1 p.2 hp X.pn X.xe Ew.w xo.tk i _ _ _ s1 s2 s3 s4
      · exact ⟨fun pins s σ H Q I ⟨_, _, _, _, _, _, _, hw, _⟩ => hw.elim⟩
    · cases h
  | .callL j b, k, X, Ew, e, xo, h => by
    unfold chkE at h
    split at h
    · rename_i x p body scope lpos q
      split at h
      · rename_i y l hj
        simp only [Bool.and_eq_true, decide_eq_true_eq] at h
        obtain ⟨⟨⟨⟨⟨⟨h1, h2⟩, h3⟩, h4⟩, h5⟩, h6⟩, h7⟩ := h
        subst h1
        obtain ⟨g1, g2, _⟩ := gl_of xo h4
        obtain ⟨f, m1, m2, m3⟩ := xo.ft j _ l hj h2
        have L : LamX.LamS X.env.scope scope := by rw [xo.hsc]; exact LamX.lamS_by h6
        refine SE.callL (kk := k.lim - 1) m3 (xo.room.mono h2) (xo.room.mono (by omega)) xo.gd g1 m1 m2 xo.tk (xo.lm h5) L rfl (fun _ _ _ _ _ => rfl) (fun A outer s H E f c' hr hG => ?_) g2
        exact sndE b (lam_of xo L (Nat.sub_le _ _) (hr.mono (by omega)) hG) h7
      · cases h
    · cases h
  | .ty b, k, X, Ew, e, xo, h => by
    unfold chkE at h
    split at h
    · simp only [Bool.and_eq_true, decide_eq_true_eq] at h
      obtain ⟨h1, h2⟩ := h
      subst h1
      obtain ⟨g1, g2, g3, g4⟩ := blt_of xo h2
      exact SE.con (pe_bltn (v := .ty b.name) g1 g2 (bt_boot b) rfl g4 g3) fun F => rt_ty.mpr rfl
    · cases h
  | .tup es, k, X, Ew, e, xo, h => by
    unfold chkE at h
    split at h
    · exact SE.tup (sndA es xo h)
    · cases h
  | .lst m es, k, X, Ew, e, xo, h => by
    unfold chkE at h
    split at h
    · exact SE.lst (sndA es xo h)
    · cases h
  | .emp m, k, X, Ew, e, xo, h => by
    unfold chkE at h
    split at h
    · exact SE.emp
    · cases h
  | .bin o a b, k, X, Ew, e, xo, h => by
    unfold chkE at h
    split at h
    · simp only [Bool.and_eq_true, decide_eq_true_eq] at h
      obtain ⟨⟨h1, h2⟩, h3⟩ := h
      subst h1
      exact SE.bin (opG_ok o) (sndE a xo h2) (sndE b xo h3)
    · cases h
  | .neg a, k, X, Ew, e, xo, h => by
    unfold chkE at h
    split at h
    · exact SE.un un_negT (sndE a xo h)
    · cases h
  | .cmp o a b, k, X, Ew, e, xo, h => by
    unfold chkE at h
    split at h
    · simp only [Bool.and_eq_true, decide_eq_true_eq] at h
      obtain ⟨⟨h1, h2⟩, h3⟩ := h
      subst h1
      exact SE.cmp (cmG_ok (units_of xo) o) (sndE a xo h2) (sndE b xo h3) (behind_of (chkE_ok h3))
    · cases h
  | .chn o o' a b c, k, X, Ew, e, xo, h => by
    unfold chkE at h
    split at h
    · simp only [Bool.and_eq_true, decide_eq_true_eq] at h
      obtain ⟨⟨⟨⟨h1, h2⟩, h3⟩, h4⟩, h5⟩ := h
      subst h1 h2
      exact SE.chn (cmG_ok (units_of xo) o) (cmG_ok (units_of xo) o') (sndE a xo h3) (sndE b xo h4) (sndE c xo h5) (behind_of (chkE_ok h5))
    · cases h
  | .nt a, k, X, Ew, e, xo, h => by
    unfold chkE at h
    split at h
    · exact SE.not (sndE a xo h)
    · cases h
  | .and es, k, X, Ew, e, xo, h => by
    unfold chkE at h
    split at h
    · simp only [Bool.and_eq_true] at h
      exact sndAnd es xo h.1 (by simpa using h.2)
    · cases h
  | .or es, k, X, Ew, e, xo, h => by
    unfold chkE at h
    split at h
    · simp only [Bool.and_eq_true] at h
      exact sndOr es xo h.1 (by simpa using h.2)
    · cases h
  | .ite c a b, k, X, Ew, e, xo, h => by
    unfold chkE at h
    split at h
    · simp only [Bool.and_eq_true] at h
      obtain ⟨⟨⟨h1, h2⟩, h3⟩, h4⟩ := h
      exact SE.ite (sndT c xo h2 h1) (sndE a xo h3) (sndE b xo h4)
    · cases h
  | .idx a i, k, X, Ew, e, xo, h => by
    unfold chkE at h
    split at h
    · simp only [Bool.and_eq_true] at h
      obtain ⟨⟨h1, h2⟩, h3⟩ := h
      exact SE.ix ix_T (sndE a xo h1) (sndE i xo h2) (plainIx_of h3)
    · cases h
  | .call j es, k, X, Ew, e, xo, h => by
    unfold chkE at h
    split at h
    · rename_i x p xs q
      simp only [Bool.and_eq_true, decide_eq_true_eq] at h
      obtain ⟨⟨⟨h1, h2⟩, h3⟩, h4⟩ := h
      obtain ⟨g1, g2, _⟩ := gl_of xo h3
      obtain ⟨on, ho, hon⟩ := arOk_of h2
      obtain ⟨f, m1, m3, m5⟩ := xo.fs j x on h1 ho
      cases xs with
      | nil =>
        have hl : es.len = 0 := (chkA_len h4).symm
        have he : wpA fs ct es = waNil := by
          cases es with
          | nil => rfl
          | cons e es => cases hl
        show SE X Ew _ (wCall (wArity es.len (fs j)) (wpA fs ct es))
        rw [he, hl]
        rw [hl] at hon
        exact SE.call0 m5 hon (xo.room.mono h1) xo.gd g1 m1 m3 xo.tk g2
      | cons y ys =>
        have hp := chkA_plain (env := X.env) (pos := q) h4
        have hs : okShape y = true := by
          cases es with
          | nil => unfold chkA at h4; cases h4
          | cons e es =>
            unfold chkA at h4
            simp only [Bool.and_eq_true] at h4
            exact h4.1.2
        rw [star_of hs] at hp
        exact SE.call m5 hon (xo.room.mono h1) xo.gd g1 m1 m3 xo.tk (sndA es xo h4) g2 (star_of hs) hp
    · cases h
  | .b1 f a, k, X, Ew, e, xo, h => by
    unfold chkE at h
    split at h
    · simp only [Bool.and_eq_true, decide_eq_true_eq] at h
      obtain ⟨⟨⟨h1, h2⟩, h3⟩, h4⟩ := h
      subst h1
      obtain ⟨g1, g2, g3, g4⟩ := blt_of xo h2
      have ha := SA.cons (sndE a xo h3) (SA.nil (X := X) (Ew := Ew)) (star_of h4)
      have hc := b1_ok (X := X) xo.gd (units_of xo) f
      have hv := b1_boot f
      show SE X Ew _ (wB (b1G f) (waCons (wpE fs ct a) waNil))
      cases f with
      | len => exact SE.callB hc g1 g2 hv ha g4 g3 (star_of h4) rfl
      | abs => exact SE.callB hc g1 g2 hv ha g4 g3 (star_of h4) rfl
      | tuple => exact SE.callTy hc g1 g2 hv ha g4 g3 (star_of h4) rfl
      | repr => exact SE.callB hc g1 g2 hv ha g4 g3 (star_of h4) rfl
      | str => exact SE.callTy hc g1 g2 hv ha g4 g3 (star_of h4) rfl
    · cases h
  | .b2 f a b, k, X, Ew, e, xo, h => by
    unfold chkE at h
    split at h
    · simp only [Bool.and_eq_true, decide_eq_true_eq] at h
      obtain ⟨⟨⟨⟨⟨h1, h2⟩, h3⟩, h4⟩, h5⟩, h6⟩ := h
      subst h1
      obtain ⟨g1, g2, g3, g4⟩ := blt_of xo h2
      have ha := SA.cons (sndE a xo h3) (SA.cons (sndE b xo h4) (SA.nil (X := X) (Ew := Ew)) (star_of h6)) (star_of h5)
      exact SE.callB (b2_ok (X := X) xo.calm f) g1 g2 (b2_boot f) ha g4 g3 (star_of h5) (by rw [star_of h6]; rfl)
    · cases h
  | .lstOf m a, k, X, Ew, e, xo, h => by
    unfold chkE at h
    split at h
    · simp only [Bool.and_eq_true, decide_eq_true_eq] at h
      obtain ⟨⟨⟨h1, h2⟩, h3⟩, h4⟩ := h
      subst h1
      obtain ⟨g1, g2, g3, g4⟩ := blt_of xo h2
      exact SE.lstOf (sndE a xo h3) g1 g2 (star_of h4)
    · cases h
  | .app i a, k, X, Ew, e, xo, h => by
    unfold chkE at h
    split at h
    · simp only [Bool.and_eq_true, decide_eq_true_eq] at h
      obtain ⟨⟨⟨⟨h1, h2⟩, h3⟩, h4⟩, h5⟩ := h
      subst h1
      obtain ⟨s1, s2, s3, s4⟩ := slot_of xo h2
      exact SE.app s1 s2 s3 s4 (sndE a xo h3) (star_of h4) h5
    · cases h
  | .pop i, k, X, Ew, e, xo, h => by
    unfold chkE at h
    split at h
    · simp only [Bool.and_eq_true, decide_eq_true_eq] at h
      obtain ⟨⟨h1, h2⟩, h5⟩ := h
      subst h1
      obtain ⟨s1, s2, s3, s4⟩ := slot_of xo h2
      exact SE.pop s1 s2 s3 s4 h5
    · cases h
  | .op f es, k, X, Ew, e, xo, h => by
    unfold chkE at h
    split at h
    · rename_i xs q
      exact ox_ok xo q (sndL es xo h)
    · cases h
  | .comp m own g it c, k, X, Ew, e, xo, h => by
    unfold chkE at h
    split at h
    · rename_i elt tg iter scope q
      simp only [Bool.and_eq_true] at h
      obtain ⟨⟨⟨⟨⟨h1, h2⟩, h3⟩, h4, h4t⟩, h5⟩, h6⟩ := h
      have ok := blkOk_by h1
      have xb := fun s H C cl fp => blk_of xo ok.kind s H C cl fp
      rw [← xo.hN, ← xo.hsc] at ok
      exact SE.comp xo.calm xo.nd (sndI it xo h4 h4t) ok (gsl_all h2) (fun s H C cl fp => sndG (xb s H C cl fp) h3)
        (fun s H C cl fp => ⟨fun pins s' σ H' Q I ⟨μ, F, env, S, E, R, rel, hw, xo', post⟩ => pts_nil.run pins s' σ H' Q I (by
          obtain ⟨b, e, hR⟩ := hw
          cases e
          exact post true S μ F H' hR Ext.refl rel)⟩) (fun s H C cl fp => sndE c (xb s H C cl fp) h6) (fold_of h5)
    · cases h
  | .compI m own g it d c, k, X, Ew, e, xo, h => by
    unfold chkE at h
    split at h
    · rename_i elt tg iter cond scope q
      simp only [Bool.and_eq_true] at h
      obtain ⟨⟨⟨⟨⟨⟨⟨h1, h2⟩, h3⟩, h4, h4t⟩, h5⟩, h6⟩, h7⟩, h8⟩ := h
      have ok := blkOk_by h1
      have xb := fun s H C cl fp => blk_of xo ok.kind s H C cl fp
      rw [← xo.hN, ← xo.hsc] at ok
      exact SE.comp xo.calm xo.nd (sndI it xo h4 h4t) ok (gsl_all h2) (fun s H C cl fp => sndG (xb s H C cl fp) h3)
        (fun s H C cl fp => pts_one (sndT d (xb s H C cl fp) h7 h6)) (fun s H C cl fp => sndE c (xb s H C cl fp) h8) (fold_of h5)
    · cases h
theorem sndL : ∀ (cs : CEs) {k : Ck} {X : Cx} {Ew : WX} {es : List Expr}, XOk' fs ct k X Ew → chkA k cs es = true → SL X Ew es (wpL fs ct cs)
  | .nil, k, X, Ew, es, xo, h => by
    unfold chkA at h
    have e : es = [] := by simpa using h
    subst e
    exact trivial
  | .cons c cs, k, X, Ew, es, xo, h => by
    cases es with
    | nil => unfold chkA at h; cases h
    | cons e es =>
      unfold chkA at h
      simp only [Bool.and_eq_true] at h
      exact ⟨⟨sndE c xo h.1.1, h.1.2⟩, sndL cs xo h.2⟩
theorem sndA : ∀ (cs : CEs) {k : Ck} {X : Cx} {Ew : WX} {es : List Expr}, XOk' fs ct k X Ew → chkA k cs es = true → SA X Ew es (wpA fs ct cs)
  | .nil, k, X, Ew, es, xo, h => by
    unfold chkA at h
    have e : es = [] := by simpa using h
    subst e
    exact SA.nil
  | .cons c cs, k, X, Ew, es, xo, h => by
    cases es with
    | nil => unfold chkA at h; cases h
    | cons e es =>
      unfold chkA at h
      simp only [Bool.and_eq_true] at h
      exact SA.cons (sndE c xo h.1.1) (sndA cs xo h.2) (star_of h.1.2)
theorem sndAnd : ∀ (cs : CEs) {k : Ck} {X : Cx} {Ew : WX} {es : List Expr} {pos : Pos}, XOk' fs ct k X Ew → chkA k cs es = true → es ≠ [] → SE X Ew (.BoolOp .And es pos) (wpAnd fs ct cs)
  | .nil, k, X, Ew, es, pos, xo, h, ne => by
    unfold chkA at h
    exact absurd (by simpa using h) ne
  | .cons c cs, k, X, Ew, es, pos, xo, h, ne => by
    cases es with
    | nil => exact absurd rfl ne
    | cons e es =>
      unfold chkA at h
      simp only [Bool.and_eq_true] at h
      cases cs with
      | nil =>
        have h2 := h.2
        unfold chkA at h2
        have z : es = [] := by simpa using h2
        subst z
        exact SE.one (sndE c xo h.1.1)
      | cons c' cs' =>
        cases es with
        | nil => have h2 := h.2; unfold chkA at h2; cases h2
        | cons e' es' => exact SE.and (sndE c xo h.1.1) (sndAnd (.cons c' cs') xo h.2 (by simp))
theorem sndOr : ∀ (cs : CEs) {k : Ck} {X : Cx} {Ew : WX} {es : List Expr} {pos : Pos}, XOk' fs ct k X Ew → chkA k cs es = true → es ≠ [] → SE X Ew (.BoolOp .Or es pos) (wpOr fs ct cs)
  | .nil, k, X, Ew, es, pos, xo, h, ne => by
    unfold chkA at h
    exact absurd (by simpa using h) ne
  | .cons c cs, k, X, Ew, es, pos, xo, h, ne => by
    cases es with
    | nil => exact absurd rfl ne
    | cons e es =>
      unfold chkA at h
      simp only [Bool.and_eq_true] at h
      cases cs with
      | nil =>
        have h2 := h.2
        unfold chkA at h2
        have z : es = [] := by simpa using h2
        subst z
        exact SE.one (sndE c xo h.1.1)
      | cons c' cs' =>
        cases es with
        | nil => have h2 := h.2; unfold chkA at h2; cases h2
        | cons e' es' => exact SE.or (sndE c xo h.1.1) (sndOr (.cons c' cs') xo h.2 (by simp))
theorem sndI : ∀ (it : CI) {k : Ck} {X : Cx} {Ew : WX} {tg e : Expr}, XOk' fs ct k X Ew → chkI k it e = true → itT it tg = true → SI X Ew tg e (wpI fs ct it)
  | .lst a, k, X, Ew, tg, e, xo, h, ht => by
    unfold chkI at h
    exact SI.lst (sndE a xo h)
  | .tup a, k, X, Ew, tg, e, xo, h, ht => by
    unfold chkI at h
    exact SI.tup (sndE a xo h)
  | .str a, k, X, Ew, tg, e, xo, h, ht => by
    unfold chkI at h
    exact SI.str (sndE a xo h)
  | .rng1 a, k, X, Ew, tg, e, xo, h, ht => by
    unfold chkI at h
    split at h
    · simp only [Bool.and_eq_true, decide_eq_true_eq] at h
      obtain ⟨⟨⟨h1, h2⟩, h3⟩, h4⟩ := h
      subst h1
      obtain ⟨g1, g2, g3, g4⟩ := blt_of xo h2
      exact SI.rng1 (sndE a xo h3) g1 g2 (star_of h4)
    · cases h
  | .rng2 a b, k, X, Ew, tg, e, xo, h, ht => by
    unfold chkI at h
    split at h
    · simp only [Bool.and_eq_true, decide_eq_true_eq] at h
      obtain ⟨⟨⟨⟨⟨h1, h2⟩, h3⟩, h4⟩, h5⟩, h6⟩ := h
      subst h1
      obtain ⟨g1, g2, g3, g4⟩ := blt_of xo h2
      exact SI.rng2 (sndE a xo h3) (sndE b xo h4) g1 g2 (by rw [star_of h5, star_of h6]; rfl) (star_of h6)
    · cases h
  | .op f es, k, X, Ew, tg, e, xo, h, ht => by
    unfold chkI at h
    split at h
    · rename_i xs q
      exact ix_ok xo q ht (sndL es xo h)
    · cases h
theorem sndT : ∀ (c : CE) {k : Ck} {X : Cx} {Ew : WX} {e : Expr}, XOk' fs ct k X Ew → noIte c = true → chkE k c e = true → SC X Ew e (wpE fs ct c)
  | .cmp o a b, k, X, Ew, e, xo, ni, h => by
    unfold chkE at h
    split at h
    · simp only [Bool.and_eq_true, decide_eq_true_eq] at h
      obtain ⟨⟨h1, h2⟩, h3⟩ := h
      subst h1
      exact SC.cmp (cmG_ok (units_of xo) o) (sndE a xo h2) (sndE b xo h3) (behind_of (chkE_ok h3))
    · cases h
  | .chn o o' a b c, k, X, Ew, e, xo, ni, h => by
    unfold chkE at h
    split at h
    · simp only [Bool.and_eq_true, decide_eq_true_eq] at h
      obtain ⟨⟨⟨⟨h1, h2⟩, h3⟩, h4⟩, h5⟩ := h
      subst h1 h2
      exact SC.chn (cmG_ok (units_of xo) o) (cmG_ok (units_of xo) o') (sndE a xo h3) (sndE b xo h4) (sndE c xo h5) (behind_of (chkE_ok h5))
    · cases h
  | .nt a, k, X, Ew, e, xo, ni, h => by
    unfold chkE at h
    unfold noIte at ni
    split at h
    · exact SC.not (sndT a xo ni h)
    · cases h
  | .and es, k, X, Ew, e, xo, ni, h => by
    unfold chkE at h
    unfold noIte at ni
    split at h
    · simp only [Bool.and_eq_true] at h
      exact (sndAndT es xo ni h.1 (by simpa using h.2)).pt
    · cases h
  | .or es, k, X, Ew, e, xo, ni, h => by
    unfold chkE at h
    unfold noIte at ni
    split at h
    · simp only [Bool.and_eq_true] at h
      exact (sndOrT es xo ni h.1 (by simpa using h.2)).pt
    · cases h
  | .ite _ _ _, k, X, Ew, e, xo, ni, h => by unfold noIte at ni; cases ni
  | .slot i, k, X, Ew, e, xo, ni, h => SC.val (sndE _ xo h) (by unfold chkE at h; split at h <;> first | (intro; rfl) | cases h)
  | .bl i, k, X, Ew, e, xo, ni, h => SC.val (sndE _ xo h) (by unfold chkE at h; split at h <;> first | (intro; rfl) | cases h)
  | .cst i, k, X, Ew, e, xo, ni, h => SC.val (sndE _ xo h) (by unfold chkE at h; split at h <;> first | (intro; rfl) | cases h)
  | .glb i, k, X, Ew, e, xo, ni, h => SC.val (sndE (.glb i) xo h) (by unfold chkE at h; split at h <;> first | (intro; rfl) | cases h)
  | .act i, k, X, Ew, e, xo, ni, h => SC.val (sndE (.act i) xo h) (by unfold chkE at h; split at h <;> first | (intro; rfl) | cases h)
  | .callL j b, k, X, Ew, e, xo, ni, h => SC.val (sndE (.callL j b) xo h) (by unfold chkE at h; split at h <;> first | (intro; rfl) | cases h)
  | .call j es, k, X, Ew, e, xo, ni, h => SC.val (sndE (.call j es) xo h) (by unfold chkE at h; split at h <;> first | (intro; rfl) | cases h)
  | .idx a i, k, X, Ew, e, xo, ni, h => SC.val (sndE (.idx a i) xo h) (by unfold chkE at h; split at h <;> first | (intro; rfl) | cases h)
  | .b1 f a, k, X, Ew, e, xo, ni, h => SC.val (sndE (.b1 f a) xo h) (by unfold chkE at h; split at h <;> first | (intro; rfl) | cases h)
  | .b2 f a b, k, X, Ew, e, xo, ni, h => SC.val (sndE (.b2 f a b) xo h) (by unfold chkE at h; split at h <;> first | (intro; rfl) | cases h)
  | .pop i, k, X, Ew, e, xo, ni, h => SC.val (sndE (.pop i) xo h) (by unfold chkE at h; split at h <;> first | (intro; rfl) | cases h)
  | .int i, k, X, Ew, e, xo, ni, h => SC.val (sndE _ xo h) (by unfold chkE at h; split at h <;> first | (intro; rfl) | cases h)
  | .str i, k, X, Ew, e, xo, ni, h => SC.val (sndE _ xo h) (by unfold chkE at h; split at h <;> first | (intro; rfl) | cases h)
  | .non, k, X, Ew, e, xo, ni, h => SC.val (sndE _ xo h) (by unfold chkE at h; split at h <;> first | (intro; rfl) | cases h)
  | .ty i, k, X, Ew, e, xo, ni, h => SC.val (sndE _ xo h) (by unfold chkE at h; split at h <;> first | (intro; rfl) | cases h)
  | .tup es, k, X, Ew, e, xo, ni, h => SC.val (sndE (.tup es) xo h) (by unfold chkE at h; split at h <;> first | (intro; rfl) | cases h)
  | .lst m es, k, X, Ew, e, xo, ni, h => SC.val (sndE (.lst m es) xo h) (by unfold chkE at h; split at h <;> first | (intro; rfl) | cases h)
  | .emp m, k, X, Ew, e, xo, ni, h => SC.val (sndE _ xo h) (by unfold chkE at h; split at h <;> first | (intro; rfl) | cases h)
  | .bin o a b, k, X, Ew, e, xo, ni, h => SC.val (sndE (.bin o a b) xo h) (by unfold chkE at h; split at h <;> first | (intro; rfl) | cases h)
  | .neg a, k, X, Ew, e, xo, ni, h => SC.val (sndE (.neg a) xo h) (by unfold chkE at h; split at h <;> first | (intro; rfl) | cases h)
  | .lstOf m a, k, X, Ew, e, xo, ni, h => SC.val (sndE (.lstOf m a) xo h) (by unfold chkE at h; split at h <;> first | (intro; rfl) | cases h)
  | .app i a, k, X, Ew, e, xo, ni, h => SC.val (sndE (.app i a) xo h) (by unfold chkE at h; split at h <;> first | (intro; rfl) | cases h)
  | .op f es, k, X, Ew, e, xo, ni, h => SC.val (sndE (.op f es) xo h) (by
    unfold chkE at h
    split at h
    · rename_i xs q
      exact oxS_val q
    · cases h)
  | .comp m own g it c, k, X, Ew, e, xo, ni, h => SC.val (sndE (.comp m own g it c) xo h) (by unfold chkE at h; split at h <;> first | (intro; rfl) | cases h)
  | .compI m own g it d c, k, X, Ew, e, xo, ni, h => SC.val (sndE (.compI m own g it d c) xo h) (by unfold chkE at h; split at h <;> first | (intro; rfl) | cases h)
theorem sndAndT : ∀ (cs : CEs) {k : Ck} {X : Cx} {Ew : WX} {es : List Expr} {pos : Pos}, XOk' fs ct k X Ew → noItes cs = true → chkA k cs es = true → es ≠ [] → SW X Ew (.BoolOp .And es pos) (wpAnd fs ct cs)
  | .nil, k, X, Ew, es, pos, xo, ni, h, ne => by
    unfold chkA at h
    exact absurd (by simpa using h) ne
  | .cons c cs, k, X, Ew, es, pos, xo, ni, h, ne => by
    unfold noItes at ni
    rw [Bool.and_eq_true] at ni
    cases es with
    | nil => exact absurd rfl ne
    | cons e es =>
      unfold chkA at h
      simp only [Bool.and_eq_true] at h
      cases cs with
      | nil =>
        have h2 := h.2
        unfold chkA at h2
        have z : es = [] := by simpa using h2
        subst z
        exact SW.and1 (sndT c xo ni.1 h.1.1)
      | cons c' cs' =>
        cases es with
        | nil => have h2 := h.2; unfold chkA at h2; cases h2
        | cons e' es' => exact SW.and (sndT c xo ni.1 h.1.1) (sndAndT (.cons c' cs') xo ni.2 h.2 (by simp))
theorem sndOrT : ∀ (cs : CEs) {k : Ck} {X : Cx} {Ew : WX} {es : List Expr} {pos : Pos}, XOk' fs ct k X Ew → noItes cs = true → chkA k cs es = true → es ≠ [] → SW X Ew (.BoolOp .Or es pos) (wpOr fs ct cs)
  | .nil, k, X, Ew, es, pos, xo, ni, h, ne => by
    unfold chkA at h
    exact absurd (by simpa using h) ne
  | .cons c cs, k, X, Ew, es, pos, xo, ni, h, ne => by
    unfold noItes at ni
    rw [Bool.and_eq_true] at ni
    cases es with
    | nil => exact absurd rfl ne
    | cons e es =>
      unfold chkA at h
      simp only [Bool.and_eq_true] at h
      cases cs with
      | nil =>
        have h2 := h.2
        unfold chkA at h2
        have z : es = [] := by simpa using h2
        subst z
        exact SW.or1 (sndT c xo ni.1 h.1.1)
      | cons c' cs' =>
        cases es with
        | nil => have h2 := h.2; unfold chkA at h2; cases h2
        | cons e' es' => exact SW.or (sndT c xo ni.1 h.1.1) (sndOrT (.cons c' cs') xo ni.2 h.2 (by simp))
end
end
end Tw
set_option Elab.async false
set_option linter.all false
set_option maxRecDepth 100000
set_option maxHeartbeats 4000000
namespace Tw
open PySem PySem.Spec PyProof.Rows L2

section
variable {fs : Nat → FS} {ct : CT}
theorem asg_one {k : Ck} {env : PySem.Env} {g : CG} {e : Expr} (h : chkG k g e = true) : (assignEach [e] env).map (·.2) = [assign e env] := by
  cases g <;> (unfold chkG at h; split at h <;> first | rfl | exact absurd h Bool.false_ne_true)
theorem swapsSole_of {e tg : Expr} {env : PySem.Env} {l : Nat} (h : okShape e = true) (h2 : noComp e = true) : swapsWithSole [tg] e l env = pure false := swaps_of h h2
theorem assign_sub_of {o y : Expr} {pt : Pos} {env : PySem.Env} (h : okShape y = true) (v : Value) : assign (.Subscript o y pt) env v = (do
      let ov ← holding [v] (eval o env)
      let iv ← holding [v, ov] (eval y env)
      standAt pt
      holding [v, ov, iv] (setItem ov iv v)
      release [v, ov, iv] []) := by
  cases y <;> first | rfl | exact absurd h Bool.false_ne_true
theorem sndC {i : Nat} {e : CE} {k : Ck} {X : Cx} {Ew : WX} {x : Str} {p pos : Pos} {v : Expr} (xo : XOk' fs ct k X Ew) (hb : X.env.blockKind = .function) (h1 : k.loc i x = true) (h2 : chkE k e v = true) (h3 : compSwaps k x p v = true)
    (h4 : isCompC e = true) : SS X Ew (.Assign [.Name x p] v pos) (wAsg (wpE fs ct e) (gNm i)) := by
  obtain ⟨l1, l2, l3⟩ := loc_of xo h1
  cases e with
  | comp m own g it c =>
    unfold chkE at h2
    split at h2
    · rename_i elt tg iter scope q
      simp only [Bool.and_eq_true] at h2
      obtain ⟨⟨⟨⟨⟨h1, h2⟩, h3'⟩, h4, h4t⟩, h5⟩, h6⟩ := h2
      have ok := blkOk_by h1
      have xb := fun s H C cl fp => blk_of xo ok.kind s H C cl fp
      rw [← xo.hN, ← xo.hsc] at ok
      unfold compSwaps at h3
      simp only [Bool.and_eq_true, decide_eq_true_eq, Bool.not_eq_true'] at h3
      obtain ⟨⟨c1, c2⟩, c3⟩ := h3
      rw [← xo.hsc] at c1
      exact SS.setComp xo.calm xo.nd l1 c1 (comp_swaps hb c1 c2 c3) (sndI it xo h4 h4t) ok (gsl_all h2) (fun s H C cl fp => sndG (xb s H C cl fp) h3')
        (fun s H C cl fp => ⟨fun pins s' σ H' Q I ⟨μ, F, env, S, E, R, rel, hw, xo', post⟩ => pts_nil.run pins s' σ H' Q I (by
          obtain ⟨b, e, hR⟩ := hw
          cases e
          exact post true S μ F H' hR Ext.refl rel)⟩) (fun s H C cl fp => sndE c (xb s H C cl fp) h6) (fold_of h5)
    · cases h2
  | compI m own g it d c =>
    unfold chkE at h2
    split at h2
    · rename_i elt tg iter cond scope q
      simp only [Bool.and_eq_true] at h2
      obtain ⟨⟨⟨⟨⟨⟨⟨h1, h2⟩, h3'⟩, h4, h4t⟩, h5⟩, h6⟩, h7⟩, h8⟩ := h2
      have ok := blkOk_by h1
      have xb := fun s H C cl fp => blk_of xo ok.kind s H C cl fp
      rw [← xo.hN, ← xo.hsc] at ok
      unfold compSwaps at h3
      simp only [Bool.and_eq_true, decide_eq_true_eq, Bool.not_eq_true'] at h3
      obtain ⟨⟨c1, c2⟩, c3⟩ := h3
      rw [← xo.hsc] at c1
      exact SS.setComp xo.calm xo.nd l1 c1 (comp_swaps hb c1 c2 c3) (sndI it xo h4 h4t) ok (gsl_all h2) (fun s H C cl fp => sndG (xb s H C cl fp) h3')
        (fun s H C cl fp => pts_one (sndT d (xb s H C cl fp) h7 h6)) (fun s H C cl fp => sndE c (xb s H C cl fp) h8) (fold_of h5)
    · cases h2
  | _ => cases h4
theorem XO.tr {X : Cx} {Ew : WX} {r : RowD} {N : List Str} {sc : Scope} {fa mk la : Bool} {lim : Nat} {pn : List (Addr × Obj)} {xe : Value → Shared → Prop} {W : L2.WX} (xo : XO fs ct r X Ew N sc fa mk la lim) (tk : Takes (X.tr pn xe) W) : XO fs ct r (X.tr pn xe) ⟨W, Ew.lk, Ew.up⟩ N sc fa mk la lim :=
  ⟨xo.hN, xo.nd, xo.hsc, xo.calm, xo.hk, xo.room, xo.gd, tk, xo.fa, xo.fr, xo.cs, xo.fs, xo.ft, xo.ec, xo.er, xo.lm, fun h j th e pn' xe' W' tk' => xo.la h j th e pn' xe' W' tk'⟩
theorem XO.nox {X : Cx} {Ew : WX} {r : RowD} {N : List Str} {sc : Scope} {fa mk la : Bool} {lim : Nat} (xo : XO fs ct r X Ew N sc fa mk la lim) : XO fs ct r X.nox ⟨fun _ _ _ _ => False, Ew.lk, Ew.up⟩ N sc fa mk la lim :=
  xo.tr (pn := X.pn) (xe := fun _ _ => False) fun u s' ⟨a, B, sI, pins, σ, H, cls, d, e, I, nb, up, sky, na, os, ag, w⟩ => w
theorem XS.nox {X : Cx} (xs : XS X) : XS X.nox := ⟨PassesOwn.never, xs.stk, xs.frm⟩
theorem SS.tryN {X : Cx} {Ew : WX} {body : List Stmt} {w : WS} {h₀ : ExceptHandler} {hs : List ExceptHandler} {pos : Pos} (hb : SB X.nox ⟨fun _ _ _ _ => False, Ew.lk, Ew.up⟩ body w) : SS X Ew (.Try body (h₀ :: hs) [] [] pos) (wTryN w) :=
  PS.imp (ps_try_thru0 hb) fun D σ H ⟨μ, F, env, S, E, C, rel, hw, xo, dok⟩ => ⟨μ, F, env, S, _, C, rel, hw, ⟨xo.lk, fun _ _ _ _ _ _ _ _ _ h _ _ _ => h⟩, dok⟩
/-- what a suite's context shows -/
structure XU (k : Ck) (X : Cx) : Prop where
  hN : X.N = k.N
  nd : X.N.Nodup
  hsc : X.env.scope = k.sc
  fa : k.fa = true → ∀ x, X.fn x = true
theorem sndU0 {k : Ck} {X : Cx} {Ew : WX} (xu : XU k X) : ∀ {c : CE} {e : Expr}, simpleE c = true → chkE k c e = true → SE X Ew e (wpE fs ct c) := by
  intro c e hs h
  cases c with
  | slot i =>
    unfold chkE at h
    split at h
    · unfold Ck.slot at h
      simp only [Bool.and_eq_true, decide_eq_true_eq] at h
      obtain ⟨⟨h1, h2⟩, h3⟩ := h
      obtain ⟨n1, n2, _⟩ := nmOk_of h3
      exact SE.slot (by rw [xu.hN]; exact h1) (by rw [xu.hsc]; exact isVis_of h2) n1 n2
    · cases h
  | int i =>
    unfold chkE at h
    split at h
    · rw [decide_eq_true_eq] at h
      subst h
      exact SE.con pe_int fun F => rt_int.mpr rfl
    · cases h
  | str i =>
    unfold chkE at h
    split at h
    · rw [decide_eq_true_eq] at h
      subst h
      exact SE.con pe_str fun F => rt_str.mpr rfl
    · cases h
  | bl i =>
    unfold chkE at h
    split at h
    · have h' := eq_of_beq h
      subst h'
      exact SE.con pe_bl fun F => rt_bl.mpr rfl
    · cases h
  | non =>
    unfold chkE at h
    split at h
    · exact SE.con pe_non fun F => rt_non.mpr rfl
    · cases h
  | _ => cases hs
theorem simple_ok {c : CE} {k : Ck} {e : Expr} (hs : simpleE c = true) (h : chkE k c e = true) : noComp e = true := by
  cases c <;> first | (unfold chkE at h; split at h <;> first | rfl | cases h) | cases hs
theorem sndU {k : Ck} {X : Cx} {Ew : WX} (xu : XU k X) : ∀ {cs : CSs} {ss : List Stmt}, chkU k cs ss = true → SB X Ew ss (wpB fs ct cs)
  | .nil, ss, h => by
    unfold chkU at h
    have e : ss = [] := by simpa using h
    subst e
    exact SB.nil
  | .cons c cs, ss, h => by
    cases ss with
    | nil => unfold chkU at h; cases h
    | cons s ss =>
      unfold chkU at h
      rw [Bool.and_eq_true] at h
      refine SB.cons ?_ (sndU xu h.2)
      have h1 := h.1
      unfold chkU1 at h1
      split at h1
      · split at h1
        · simp only [Bool.and_eq_true] at h1
          obtain ⟨⟨l, s1⟩, c1⟩ := h1
          unfold Ck.loc at l
          simp only [Bool.and_eq_true, Bool.or_eq_true, decide_eq_true_eq] at l
          have hx : ∀ {x : Str}, (isLoc (k.sc.names.lookup x) = true ∨ k.fa = true ∧ k.sc.names.lookup x = some .cell) → Loc X.env.scope x ∧ (X.fn x = true ∨ X.env.scope.names.lookup x = some .local) := fun {x} q => by
            rcases q with q | ⟨q1, q2⟩
            · have e := isLoc_of q
              exact ⟨by rw [xu.hsc]; exact .inl e, .inr (by rw [xu.hsc]; exact e)⟩
            · exact ⟨by rw [xu.hsc]; exact .inr q2, .inl (xu.fa q1 x)⟩
          exact SS.set xu.nd (by rw [xu.hN]; exact l.1) (hx l.2).1 (sndU0 xu s1 c1) (swaps_of (chkE_ok c1) (simple_ok s1 c1)) (hx l.2).2
        · cases h1
      · split at h1
        · rw [Bool.and_eq_true] at h1
          exact SS.ret (sndU0 xu h1.1 h1.2)
        · cases h1
      · cases h1
  | .fz _ _, ss, h => by unfold chkU at h; cases h
/-- the classes of a clause -/
theorem chkC_ok {k : Ck} {X : Cx} {Ew : WX} (xo : XOk' fs ct k X Ew) {ns : List Str} {t : Expr} (h : chkC k ns t = true) : ∃ cs, ClsNames X.mg ns cs ∧ ∀ a pn, TestOk (X.suite a pn) t cs := by
  unfold chkC at h
  rw [Bool.and_eq_true] at h
  obtain ⟨ha, h⟩ := h
  have at_ : ∀ n ∈ ns, ∃ C, X.mg n = some (.ref C) ∧ ∀ a pn, Names (X.suite a pn) n (.ref C) := fun n hn => by
    have q := List.all_eq_true.mp ha n hn
    rw [Bool.and_eq_true] at q
    obtain ⟨C, hC⟩ := cls_of_ec xo q.1
    obtain ⟨g1, g2, _⟩ := gl_of xo q.2
    exact ⟨C, hC, fun a pn => ⟨g1, g2, .inl hC⟩⟩
  split at h
  · rename_i x _ a
    have e := of_decide_eq_true h
    subst e
    obtain ⟨C, hC, n1⟩ := at_ _ (List.mem_singleton.mpr rfl)
    exact ⟨[.ref C], ⟨C, [], rfl, hC, rfl⟩, fun a pn => .one (n1 a pn)⟩
  · rename_i x _ y _ _ _ a b
    simp only [Bool.and_eq_true, decide_eq_true_eq] at h
    obtain ⟨rfl, rfl⟩ := h
    obtain ⟨C, hC, n1⟩ := at_ x (by simp)
    obtain ⟨D, hD, n2⟩ := at_ y (by simp)
    exact ⟨[.ref C, .ref D], ⟨C, _, rfl, hC, D, [], rfl, hD, rfl⟩, fun a pn => .tup2 (n1 a pn) (n2 a pn)⟩
  · rename_i x _ y _ z _ _ _ a b c
    simp only [Bool.and_eq_true, decide_eq_true_eq] at h
    obtain ⟨⟨rfl, rfl⟩, rfl⟩ := h
    obtain ⟨C, hC, n1⟩ := at_ x (by simp)
    obtain ⟨D, hD, n2⟩ := at_ y (by simp)
    obtain ⟨G, hG, n3⟩ := at_ z (by simp)
    exact ⟨[.ref C, .ref D, .ref G], ⟨C, _, rfl, hC, D, _, rfl, hD, G, [], rfl, hG, rfl⟩, fun a pn => .tup3 (n1 a pn) (n2 a pn) (n3 a pn)⟩
  · cases h
mutual
theorem sndS : ∀ (c : CS) {k : Ck} {X : Cx} {Ew : WX} {s : Stmt}, XOk' fs ct k X Ew → XS X → chkS k c s = true → SS X Ew s (wpS fs ct c)
  | .asg g e, k, X, Ew, s, xo, xs, h => by
    have hb : X.env.blockKind = .function := block_fn (by rw [xo.hsc]; exact xo.hk)
    unfold chkS at h
    split at h
    · simp only [Bool.and_eq_true] at h
      obtain ⟨⟨⟨⟨h1, h2⟩, h3⟩, h4⟩, h5⟩ := h
      rw [← xo.hsc] at h5
      exact SS.asg (sndE e xo h2) (sndG xo h1) (swapsSole_of h3 h4) (sw_none hb h5) (asg_one h1)
    · cases h
  | .asgC i e, k, X, Ew, s, xo, xs, h => by
    have hb : X.env.blockKind = .function := block_fn (by rw [xo.hsc]; exact xo.hk)
    unfold chkS at h
    split at h
    · simp only [Bool.and_eq_true] at h
      obtain ⟨⟨⟨h1, h2⟩, h3⟩, h4⟩ := h
      exact sndC xo hb h1 h2 h3 h4
    · cases h
  | .par i j es, k, X, Ew, s, xo, xs, h => by
    have hb : X.env.blockKind = .function := block_fn (by rw [xo.hsc]; exact xo.hk)
    unfold chkS at h
    split at h
    · simp only [Bool.and_eq_true, Bool.not_eq_true', beq_eq_false_iff_ne] at h
      obtain ⟨⟨⟨⟨⟨⟨h1, h2⟩, h3⟩, h4⟩, h5⟩, h6⟩, h7⟩ := h
      rw [← xo.hsc] at h7
      exact SS.par xo.calm xo.nd (loc_of xo h1).1 (loc_of xo h2).1 h5 (by rw [xo.hsc]; exact isLoc_of h3) (by rw [xo.hsc]; exact isLoc_of h4) (sndA es xo h6) (sw_some hb h7)
    · cases h
  | .par3 i j l es, k, X, Ew, s, xo, xs, h => by
    have hb : X.env.blockKind = .function := block_fn (by rw [xo.hsc]; exact xo.hk)
    unfold chkS at h
    split at h
    · simp only [Bool.and_eq_true, Bool.not_eq_true', beq_eq_false_iff_ne] at h
      obtain ⟨⟨⟨⟨⟨⟨⟨⟨⟨⟨h1, h2⟩, h3⟩, h4⟩, h5⟩, h6⟩, h7⟩, h8⟩, h9⟩, h10⟩, h11⟩ := h
      rw [← xo.hsc] at h11
      exact SS.par3 xo.calm xo.nd (loc_of xo h1).1 (loc_of xo h2).1 (loc_of xo h3).1 h7 h8 h9 (by rw [xo.hsc]; exact isLoc_of h4) (by rw [xo.hsc]; exact isLoc_of h5) (by rw [xo.hsc]; exact isLoc_of h6) (sndA es xo h10) (sw_some hb h11)
    · cases h
  | .aug i o e, k, X, Ew, s, xo, xs, h => by
    unfold chkS at h
    split at h
    · simp only [Bool.and_eq_true, decide_eq_true_eq] at h
      obtain ⟨⟨h1, h2⟩, h3⟩ := h
      subst h1
      obtain ⟨l1, l2, l3⟩ := loc_of xo h2
      exact SS.aug xo.nd l1 l2 (sndE e xo h3) (auG_ok o) l3
    · cases h
  | .setI o i e, k, X, Ew, s, xo, xs, h => by
    unfold chkS at h
    split at h
    · simp only [Bool.and_eq_true] at h
      obtain ⟨⟨⟨⟨⟨h1, h2⟩, h3⟩, h4⟩, h5⟩, h6⟩ := h
      exact SS.setI (sndE e xo h4) (sndE o xo h1) (sndE i xo h2) (swapsSole_of h5 h6) rfl rfl (assign_sub_of h3)
    · cases h
  | .ex e, k, X, Ew, s, xo, xs, h => by
    unfold chkS at h
    split at h
    · simp only [Bool.and_eq_true] at h
      obtain ⟨⟨h1, h2⟩, h3⟩ := h
      exact SS.ex (sndE e xo h1) (swaps_of h2 h3)
    · cases h
  | .iff c a b, k, X, Ew, s, xo, xs, h => by
    unfold chkS at h
    split at h
    · simp only [Bool.and_eq_true] at h
      obtain ⟨⟨⟨h1, h2⟩, h3⟩, h4⟩ := h
      exact SS.iff (sndT c xo h2 h1) (sndB a xo xs h3) (sndB b xo xs h4)
    · cases h
  | .fr g it b, k, X, Ew, s, xo, xs, h => by
    unfold chkS at h
    split at h
    · simp only [Bool.and_eq_true] at h
      obtain ⟨⟨⟨h1, h2, h2t⟩, h3⟩, h4⟩ := h
      exact SS.fr xs.pass xo.calm (sndI it xo h2 h2t) (sndG xo h1) (sndB b xo xs h4) (fold_of h3)
    · cases h
  | .whl c b, k, X, Ew, s, xo, xs, h => by
    unfold chkS at h
    split at h
    · simp only [Bool.and_eq_true] at h
      obtain ⟨⟨h1, h2⟩, h3⟩ := h
      exact SS.whl xs.pass (sndT c xo h2 h1) (sndB b xo xs h3)
    · cases h
  | .ret e, k, X, Ew, s, xo, xs, h => by
    unfold chkS at h
    split at h
    · exact SS.ret (sndE e xo h)
    · cases h
  | .retN, k, X, Ew, s, xo, xs, h => by
    unfold chkS at h
    split at h
    · exact SS.retN
    · cases h
  | .brk, k, X, Ew, s, xo, xs, h => by
    unfold chkS at h
    split at h
    · exact SS.brk
    · cases h
  | .cnt, k, X, Ew, s, xo, xs, h => by
    unfold chkS at h
    split at h
    · exact SS.cnt
    · cases h
  | .pas, k, X, Ew, s, xo, xs, h => by
    unfold chkS at h
    split at h
    · exact SS.pass
    · exact SS.doc
    · cases h
  | .tryN b, k, X, Ew, s, xo, xs, h => by
    unfold chkS at h
    split at h
    · exact SS.tryN (sndB b (XO.nox xo) (XS.nox xs) h)
    · cases h
  | .nev, k, X, Ew, s, xo, xs, h => SS.nev
  | .raise0 x, k, X, Ew, s, xo, xs, h => by
    unfold chkS at h
    split at h
    · simp only [Bool.and_eq_true, decide_eq_true_eq] at h
      obtain ⟨⟨⟨h1, h2⟩, h3⟩, h4⟩ := h
      subst h1
      obtain ⟨g1, g2, _⟩ := gl_of xo h3
      obtain ⟨C, hC⟩ := cls_of_ec xo h2
      refine SS.raise0E xo.calm xo.tk xo.er ?_ hC g1 g2
      split at h4
      · rename_i c e
        exact ⟨c, e, by simpa using h4⟩
      · cases h4
    · cases h
  | .raise1 x f e, k, X, Ew, s, xo, xs, h => by
    unfold chkS at h
    split at h
    · simp only [Bool.and_eq_true, decide_eq_true_eq] at h
      obtain ⟨⟨⟨⟨h1, h2⟩, h3⟩, h4⟩, h5⟩ := h
      subst h1
      obtain ⟨g1, g2, _⟩ := gl_of xo h3
      obtain ⟨C, hC⟩ := cls_of_ec xo h2
      refine SS.raise1E xo.calm xo.tk xo.er ?_ hC xo.room (sndE e xo h5) g1 g2 (star_of (chkE_ok h5))
      unfold bears at h4
      split at h4
      · rename_i c e
        exact ⟨c, e, of_decide_eq_true h4⟩
      · cases h4
    · cases h
  | .tryAs i ns b u, k, X, Ew, s, xo, xs, h => by
    unfold chkS at h
    split at h
    · simp only [Bool.and_eq_true] at h
      obtain ⟨⟨⟨⟨h1, h2⟩, h3⟩, h4⟩, h5⟩ := h
      obtain ⟨cs, hc, ht⟩ := chkC_ok xo h3
      refine SS.tryAs xs.stk xs.frm xo.nd (loc_of xo h1).1 (by show X.env.scope.names.lookup _ = _; rw [xo.hsc]; exact isLoc_of h2) ht xo.tk (fun F x cls d b' rx e => mt_ok xo.er rx hc e) (fun W pn xe tk ps => sndB b (xo.tr tk) ⟨ps, xs.stk, xs.frm⟩ h4) fun a pn => sndU (X := X.suite a pn) ⟨xo.hN, xo.nd, xo.hsc, xo.fa⟩ h5
    · cases h
  | .tryNo ns b u, k, X, Ew, s, xo, xs, h => by
    unfold chkS at h
    split at h
    · simp only [Bool.and_eq_true] at h
      obtain ⟨⟨h3, h4⟩, h5⟩ := h
      obtain ⟨cs, hc, ht⟩ := chkC_ok xo h3
      refine SS.tryNo xs.stk xs.frm xo.nd ht xo.tk (fun F x cls d b' rx e => mt_ok xo.er rx hc e) (fun W pn xe tk ps => sndB b (xo.tr tk) ⟨ps, xs.stk, xs.frm⟩ h4) fun a pn => sndU (X := X.suite a pn) ⟨xo.hN, xo.nd, xo.hsc, xo.fa⟩ h5
    · cases h
theorem sndB : ∀ (cs : CSs) {k : Ck} {X : Cx} {Ew : WX} {ss : List Stmt}, XOk' fs ct k X Ew → XS X → chkB k cs ss = true → SB X Ew ss (wpB fs ct cs)
  | .nil, k, X, Ew, ss, xo, xs, h => by
    unfold chkB at h
    have e : ss = [] := by simpa using h
    subst e
    exact SB.nil
  | .cons c cs, k, X, Ew, ss, xo, xs, h => by
    cases ss with
    | nil => unfold chkB at h; cases h
    | cons s ss =>
      unfold chkB at h
      simp only [Bool.and_eq_true] at h
      exact SB.cons (sndS c xo xs h.1) (sndB cs xo xs h.2)
  | .fz j cs, k, X, Ew, ss, xo, xs, h => by
    unfold chkB at h
    exact SB.fz (sndB cs xo xs h)
end
end

structure DefC where
  name : Str
  N : List Str
  ps : List Str
  body : CSs
def fnScope (N P : List Str) (sc : Scope) : Bool := decide (sc.kind = .function) && !sc.isCoroutine && !sc.isGenerator && decide N.Nodup && decide (N.take P.length = P) && (P.all fun x => match sc.names.lookup x with
  | some .local => true
  | some .cell => true
  | _ => false) && (sc.names.all fun y => !decide (y.2 = .free))
theorem fnScope_of {N P : List Str} {sc : Scope} (h : fnScope N P sc = true) : FnScope N P sc := by
  unfold fnScope at h
  simp only [Bool.and_eq_true, decide_eq_true_eq, Bool.not_eq_true', List.all_eq_true, decide_eq_false_iff_not] at h
  obtain ⟨⟨⟨⟨⟨⟨h1, h2⟩, h3⟩, h4⟩, h5⟩, h6⟩, h7⟩ := h
  refine ⟨h1, h2, h3, h4, h5, fun x hx => ?_, fun y hy => h7 y hy⟩
  have q := h6 x hx
  split at q
  · rename_i e; exact .inl e
  · rename_i e; exact .inr e
  · cases q
/-- the j-th def is checked: st its statement in the row; mk: it makes lambdas; la: it takes one -/
def chkD (r : RowD) (j : Nat) (mk la : Bool) (d : DefC) (st : Stmt) : Bool :=
  fnScope d.N d.ps (defScope st) && chkB ⟨d.N, defScope st, true, mk, la, r, j⟩ d.body (defBody st)
section
variable {P : Program} {w : World} {K : PySem.W.Frag} {mg : Str → Option Value} {base : Heap}
/-- what is known of a def's object -/
structure Stands (K : PySem.W.Frag) (mg : Str → Option Value) (x : Str) (ps : List Str) (st : Stmt) : Prop where
  ex : ∃ f fd dvs kws, mg x = some (.ref f) ∧ FunD K x x (defArgs st) (defBody st) (defScope st) dvs kws f fd ∧ Binds K fd ps []
/-- what is known of the module all the while -/
structure ModOk (K : PySem.W.Frag) (mg : Str → Option Value) (base : Heap) (ct : CT) (r : RowD) : Prop where
  fr : ∀ x ∈ r.fr, mg x = none
  cs : ∀ (j : Nat) (x : Str), r.cs[j]? = some x → ∃ v u, mg x = some u ∧ RelV v u ∧ ∀ F, RT K mg F (ct j) v
  ec : ∀ x ∈ r.ec, ∃ C, mg x = some (.ref C)
  er : ErrOk K mg
  lm : ∀ q cdv, PySem.W.codeIn K cdv q = true → CodeOk K mg base cdv q
/-- the defs' promises -/
structure Keeps (P : Program) (w : World) (K : PySem.W.Frag) (mg : Str → Option Value) (base : Heap) (fs : Nat → FS) (ct : CT) (r : RowD) (lim : Nat) : Prop where
  fs : ∀ (j : Nat) (x : Str) (on : Option Nat), j < lim → r.nm[j]? = some (x, on) → ∃ f, mg x = some (.ref f) ∧ PySem.W.keepIn K (.ref f) = true ∧ FnV P w K mg base (j + 1) f (spF K mg on (fs j))
  ft : ∀ (j : Nat) (x : Str) (l : Nat), r.nt[j]? = some (x, l) → l < lim → ∃ f, mg x = some (.ref f) ∧ PySem.W.keepIn K (.ref f) = true ∧ FnT P w K mg base (l + 1) f (ct.ft j)
variable {fs : Nat → FS} {ct : CT} {r : RowD} {j : Nat} {d : DefC} {st : Stmt} {mk : Bool}
theorem Keeps.zero : Keeps P w K mg base fs ct r 0 := ⟨fun j x n h => absurd h (Nat.not_lt_zero j), fun j x l _ h => absurd h (Nat.not_lt_zero l)⟩
/-- none of those that take a thunk stands at this level -/
def noT (r : RowD) (j : Nat) : Bool := r.nt.all fun p => !decide (p.2 = j)
theorem Keeps.add {x : Str} {on : Option Nat} {f : Addr} (Kp : Keeps P w K mg base fs ct r j) (ht : noT r j = true) (hn : r.nm[j]? = some (x, on)) (h1 : mg x = some (.ref f)) (h2 : PySem.W.keepIn K (.ref f) = true)
    (h3 : FnV P w K mg base (j + 1) f (spF K mg on (fs j))) : Keeps P w K mg base fs ct r (j + 1) := by
  refine ⟨fun i y n hi hx => ?_, fun i y l e hl => ?_⟩
  · by_cases e : i = j
    · subst e
      rw [hn] at hx
      cases hx
      exact ⟨f, h1, h2, h3⟩
    · exact Kp.fs i y n (by omega) hx
  · have ne : l ≠ j := fun z => by
      have q := List.all_eq_true.mp ht _ (List.mem_of_getElem? e)
      simp [z] at q
    exact Kp.ft i y l e (by omega)
theorem Keeps.body {la : Bool} {th : Option (Nat × FS)} (Kp : Keeps P w K mg base fs ct r j) (M : ModOk K mg base ct r) (hc : chkD r j mk la d st = true) {q : Str} :
    BodyOk P w K mg base fs { ct with th := th } r j mk q d.N d.ps (defScope st) (defBody st) la (wpB fs { ct with th := th } d.body) := by
  unfold chkD at hc
  rw [Bool.and_eq_true] at hc
  exact ⟨fnScope_of hc.1, M.fr, M.cs, Kp.fs, Kp.ft, M.ec, M.er, fun _ cdv h => M.lm q cdv h, fun X Ew xo xs => sndB d.body xo xs hc.2⟩
theorem Keeps.next (Kp : Keeps P w K mg base fs ct r j) (M : ModOk K mg base ct r) (ht : noT r j = true) (hn : r.nm[j]? = some (d.name, some d.ps.length)) (S : Stands K mg d.name d.ps st) (hc : chkD r j mk false d st = true) (h0 : ct.th = none)
    (hg : ∀ ws S EX R, ws.length = d.ps.length → fs j ws S EX R → wDef (wpB fs ct d.body) d.N.length ws S EX R) : Keeps P w K mg base fs ct r (j + 1) := by
  obtain ⟨f, fd, dvs, kws, h1, h2, h3⟩ := S.ex
  have e : ({ ct with th := none } : CT) = ct := by
    cases ct
    dsimp only at h0
    rw [h0]
  have B := Kp.body (th := none) (q := d.name) M hc
  rw [e] at B
  exact Kp.add ht hn h1 h2.kp ((FnG.def_ h2 B hg).toV h3 .nil fun vs H Q E h => by rw [List.append_nil]; exact h)
/-- the same def once more -/
theorem Keeps.dup {x : Str} {on : Option Nat} (i : Nat) (Kp : Keeps P w K mg base fs ct r j) (hi : i < j) (h : r.nm[i]? = some (x, on)) (ht : noT r j = true) (hn : r.nm[j]? = some (x, on)) (e : fs j = fs i) : Keeps P w K mg base fs ct r (j + 1) := by
  obtain ⟨f, h1, h2, h3⟩ := Kp.fs i x on hi h
  exact Kp.add ht hn h1 h2 (by rw [e]; exact h3.mono (by omega))
/-- a def that takes a thunk: its level is j, the i-th of its kind -/
theorem Keeps.nextT {i : Nat} {a x : Str} {on : Option Nat} {f : Addr} {fd : FuncData} {dvs : List V} {kws : List (Str × V)} (i0 : Nat) (Kp : Keeps P w K mg base fs ct r j) (M : ModOk K mg base ct r) (hi0 : i0 < j) (hn0 : r.nm[i0]? = some (x, on)) (hn : r.nm[j]? = some (x, on)) (e0 : fs j = fs i0) (hi : r.nt[i]? = some (d.name, j)) (hu : ∀ m y, r.nt[m]? = some (y, j) → m = i)
    (h1 : mg d.name = some (.ref f)) (h2 : FunD K d.name d.name (defArgs st) (defBody st) (defScope st) dvs kws f fd) (hB : Binds K fd [a] []) (hp : d.ps = [a]) (hc : chkD r j mk true d st = true)
    (hg : ∀ m th S EX R, ct.ft i th [.ref m] S EX R → wDef (wpB fs { ct with th := some (m, clT th) } d.body) d.N.length [.ref m] S EX R) : Keeps P w K mg base fs ct r (j + 1) := by
  have z : FnT P w K mg base (j + 1) f (ct.ft i) := FnT.def_ h2 hB (fun m th => by
    have B := Kp.body (th := some (m, th)) (q := d.name) M hc
    rw [hp] at B
    exact B) hg
  refine ⟨fun m y n hm hy => ?_, fun m y l e hl => ?_⟩
  · by_cases e : m = j
    · subst e
      rw [hn] at hy
      cases hy
      obtain ⟨f, q1, q2, q3⟩ := Kp.fs i0 x on hi0 hn0
      exact ⟨f, q1, q2, by rw [e0]; exact q3.mono (by omega)⟩
    · exact Kp.fs m y n (by omega) hy
  · by_cases el : l = j
    · subst el
      have em := hu m y e
      subst em
      rw [hi] at e
      cases e
      exact ⟨f, h1, h2.kp, z⟩
    · exact Kp.ft m y l e (by omega)
/-- how a def with a star binds -/
def BindS (qs : List Str) (pv : Str) (st : Stmt) : Prop := ∀ (x : Str) (kV doc pm : Value) (an : Option Addr) (cdv ct : Value) (us rest : List Value), us.length = qs.length →
  bindArgs (PySem.W.fnOf x x (defArgs st) (defBody st) (defScope st) .none kV doc pm an cdv ct) ⟨us ++ rest, []⟩ = (newTuple rest >>= fun t => pure (qs.zip us ++ [(pv, t)]))
theorem Keeps.nextS {qs : List Str} {pv : Str} {f : Addr} {fd : FuncData} (Kp : Keeps P w K mg base fs ct r j) (M : ModOk K mg base ct r) (ht : noT r j = true) (hn : r.nm[j]? = some (d.name, none)) (h1 : mg d.name = some (.ref f))
    (h2 : FunD K d.name d.name (defArgs st) (defBody st) (defScope st) [] [] f fd) (hb : BindS qs pv st) (hp : d.ps = qs ++ [pv]) (hc : chkD r j mk false d st = true) (h0 : ct.th = none)
    (hg : ∀ ws S EX R, fs j ws S EX R → ∃ a ts, ws = a ++ ts.map W.t ∧ a.length = qs.length ∧ ts.length ≤ sizeLine ∧ wDef (wpB fs ct d.body) d.N.length (a ++ [.t (.tup ts)]) S EX R) : Keeps P w K mg base fs ct r (j + 1) := by
  have e : ({ ct with th := none } : CT) = ct := by
    cases ct
    dsimp only at h0
    rw [h0]
  have B := Kp.body (th := none) (q := d.name) M hc
  rw [hp, e] at B
  exact Kp.add ht hn h1 h2.kp (FnV.star h2 B (fun kV doc pm an cdv ct us rest hl => hb _ kV doc pm an cdv ct us rest hl) hg)
end
end Tw
set_option Elab.async false
set_option linter.all false
set_option maxRecDepth 100000
set_option maxHeartbeats 2000000
namespace Tw
open PySem PySem.Spec PyProof.Rows L2

mutual
def cstB (K : PySem.W.Frag) : T → Value → Bool
  | .tup xs, u => (match u with
    | .ref a => (match K.lookup a with
      | some ⟨.type c, none, .seq its _, _⟩ => decide (c = "tuple") && decide (its.size ≤ sizeLine) && cstsB K xs its.toList
      | _ => false)
    | _ => false)
  | .non, u => He.relB .non u
  | .bl b, u => He.relB (.bl b) u
  | .int i, u => He.relB (.int i) u
  | .str x, u => He.relB (.str x) u
  | .ty n, u => He.relB (.ty n) u
  | _, _ => false
def cstsB (K : PySem.W.Frag) : List T → List Value → Bool
  | [], us => us.isEmpty
  | t :: ts, us => (match us with
    | u :: r => cstB K t u && cstsB K ts r
    | [] => false)
end
mutual
theorem cstB_ok {K : PySem.W.Frag} {mg : Str → Option Value} : ∀ (t : T) (u : Value), cstB K t u = true → ∃ v, RelV v u ∧ ∀ F, RT K mg F t v
  | .tup xs, u, h => by
    unfold cstB at h
    split at h
    · rename_i a
      split at h
      · rename_i c its n sl e
        simp only [Bool.and_eq_true, decide_eq_true_eq] at h
        obtain ⟨⟨h1, h2⟩, h3⟩ := h
        obtain ⟨vs, rv, q⟩ := cstsB_ok xs its.toList h3
        subst h1
        refine ⟨.ref a, rfl, fun F => ?_⟩
        unfold RT
        exact ⟨a, vs, rfl, .inr ⟨_, its, n, rfl, e, rfl, rfl, h2, rv⟩, q F⟩
      · cases h
    · cases h
  | .non, u, h => by unfold cstB at h; exact ⟨_, He.relB_ok h, fun F => by unfold RT; rfl⟩
  | .bl b, u, h => by unfold cstB at h; exact ⟨_, He.relB_ok h, fun F => by unfold RT; rfl⟩
  | .int b, u, h => by unfold cstB at h; exact ⟨_, He.relB_ok h, fun F => by unfold RT; rfl⟩
  | .str b, u, h => by unfold cstB at h; exact ⟨_, He.relB_ok h, fun F => by unfold RT; rfl⟩
  | .ty b, u, h => by unfold cstB at h; exact ⟨_, He.relB_ok h, fun F => by unfold RT; rfl⟩
  | .glb _, u, h => by unfold cstB at h; cases h
  | .lst _, u, h => by unfold cstB at h; cases h
  | .emp, u, h => by unfold cstB at h; cases h
  | .scr _, u, h => by unfold cstB at h; cases h
  | .exc _, u, h => by unfold cstB at h; cases h
  | .exc1 _ _ _, u, h => by unfold cstB at h; cases h
theorem cstsB_ok {K : PySem.W.Frag} {mg : Str → Option Value} : ∀ (ts : List T) (us : List Value), cstsB K ts us = true → ∃ vs, Vals vs us ∧ ∀ F, RTs K mg F ts vs
  | [], us, h => by
    unfold cstsB at h
    have e : us = [] := by simpa using h
    subst e
    exact ⟨[], .nil, fun F => rts_nil.mpr rfl⟩
  | t :: ts, us, h => by
    unfold cstsB at h
    split at h
    · rename_i u r
      rw [Bool.and_eq_true] at h
      obtain ⟨v, h1, h2⟩ := cstB_ok (mg := mg) t u h.1
      obtain ⟨vs, h3, h4⟩ := cstsB_ok ts r h.2
      exact ⟨v :: vs, .cons h1 h3, fun F => RTs.cons (h2 F) (h4 F)⟩
    · cases h
end
def gloB (K : PySem.W.Frag) (x : Str) (t : T) : Bool := match PySem.W.nsIn K mainGlobals x with
  | some (some u) => cstB K t u
  | _ => false
def exB (fr : List Str) (cs : List (Str × T)) (ns : List Str) (K : PySem.W.Frag) : Bool :=
  (fr.all fun x => (He.Fa.free x).ok K) && (cs.all fun p => gloB K p.1 p.2) && (ns.all fun x => (He.Fa.glo x).ok K)
def isTab : Option Obj → Bool
  | some ⟨.none, none, .fields vs, sl⟩ => vs.size == 0 && sl.size == 0
  | _ => false
theorem isTab_ok {o : Option Obj} (h : isTab o = true) : o = some { cls := .none, data := .fields #[] } := by
  unfold isTab at h
  split at h
  · rename_i vs sl
    simp only [Bool.and_eq_true, beq_iff_eq] at h
    obtain ⟨h1, h2⟩ := h
    have e1 := Array.eq_empty_of_size_eq_zero h1
    have e2 := Array.eq_empty_of_size_eq_zero h2
    subst e1 e2
    rfl
  · cases h
/-- the module's part of the heap without the tables -/
def asW (g : Addr → Option Obj) (n : Nat) : List Addr := (He.asD g n).filter fun a => !isTab (g a)
def lamN (n : Str) : Str := n ++ ".<locals>." ++ "<lambda>"
def codeB (K : PySem.W.Frag) : Bool := K.all fun p => match p.2.data with
  | .fields vs => (match (vs[1]? : Option Value) with
    | some (.str n _) => (match (vs[11]? : Option Value) with
      | some (.ref Pt) => PySem.W.codeHdIn K p.1 Pt && !decide (Pt = mainGlobals) && (tabsOf K).any (fun q => decide (q.1 = Pt) && decide (q.2 = lamN n)) && (tabsOf K).all fun q => !decide (q.1 = Pt) || decide (q.2 = lamN n)
      | _ => false)
    | _ => true)
  | _ => true
def tabB (g : Addr → Option Obj) (K : PySem.W.Frag) : Bool := (tabsOf K).all fun p => isTab (g p.1) && (K.lookup p.1).isNone
def moB (g : Addr → Option Obj) (fr : List Str) (cs : List (Str × T)) (ns : List Str) (K : PySem.W.Frag) : Bool := exB fr cs ns K && errB K && codeB K && tabB g K
def hkW (n : Nat) (fr : List Str) (cs : List (Str × T)) (ns : List Str) (fn : List He.DefD) : PySem.W.Hook where
  α := He.AlD × Bool
  obs := fun s => (fun K => (He.obsD [] fn K, moB s.heap.get? fr cs ns K)) (He.frG s.heap.get? (asW s.heap.get? n))
  val := fun _ => (He.valD fn, true)
  says := fun _ h => ∃ K : PySem.W.Frag, K.In h ∧ He.SaysD [] fn K ∧ exB fr cs ns K = true ∧ errB K = true ∧ codeB K = true ∧ ∀ p ∈ tabsOf K, h.get? p.1 = some { cls := .none, data := .fields #[] } ∧ K.lookup p.1 = none
  of := fun _ s e => by
    have e2 := (Prod.mk.inj e).2
    unfold moB at e2
    simp only [Bool.and_eq_true] at e2
    obtain ⟨⟨⟨e3, e4⟩, e5⟩, e6⟩ := e2
    refine ⟨He.frG s.heap.get? (asW s.heap.get? n), He.frG_in, (Prod.mk.inj e).1, e3, e4, e5, fun p hp => ?_⟩
    have q := List.all_eq_true.mp e6 p hp
    rw [Bool.and_eq_true] at q
    exact ⟨isTab_ok q.1, by simpa using q.2⟩
  keeps := fun _ _ _ ⟨K, hK, c1, c2, c3, c4, c5⟩ k => ⟨K, PySem.W.Frag.In.keeps hK k, c1, c2, c3, c4, fun p hp => ⟨k _ _ (c5 p hp).1, (c5 p hp).2⟩⟩
def obW (n : Nat) (fr : List Str) (cs : List (Str × T)) (ns : List Str) (fn : List He.DefD) (s : PySem.W.SharedT) : He.AlD × Bool :=
  (fun K => (He.obsD [] fn K, moB (HandSHeadRun.getT s) fr cs ns K)) (He.frG (HandSHeadRun.getT s) (asW (HandSHeadRun.getT s) n))
theorem obW_eq {n : Nat} {fr : List Str} {cs : List (Str × T)} {ns : List Str} {fn : List He.DefD} (s : PySem.W.SharedT) : obW n fr cs ns fn s = (hkW n fr cs ns fn).obs s.abs := by
  have e : HandSHeadRun.getT s = s.abs.heap.get? := funext fun a => HandSHeadRun.getT_eq s a
  unfold obW
  rw [e]
  rfl
theorem lookup_mem {K : PySem.W.Frag} {c : Addr} {o : Obj} (h : K.lookup c = some o) : (c, o) ∈ K := by
  induction K with
  | nil => cases h
  | cons p K ih =>
    obtain ⟨b, u⟩ := p
    have h : (match c == b with | true => some u | false => List.lookup c K) = some o := h
    cases q : c == b with
    | true =>
      rw [q] at h
      cases h
      rw [beq_iff_eq.mp q]
      exact List.mem_cons_self
    | false =>
      rw [q] at h
      exact List.mem_cons_of_mem _ (ih h)
theorem codeB_at {K : PySem.W.Frag} (h : codeB K = true) {c Pt : Addr} {o : Obj} {vs : Array Value} {n : Str} {t : Tok} (hm : (c, o) ∈ K) (hd : o.data = .fields vs) (h1 : vs[1]? = some (.str n t)) :
    ∃ Pt, PySem.W.codeHdIn K c Pt = true ∧ Pt ≠ mainGlobals ∧ (Pt, lamN n) ∈ tabsOf K ∧ (∀ q ∈ tabsOf K, q.1 = Pt → q.2 = lamN n) ∧ vs[11]? = some (.ref Pt) := by
  have q := List.all_eq_true.mp h _ hm
  dsimp only at q
  rw [hd] at q
  dsimp only at q
  rw [h1] at q
  dsimp only at q
  split at q
  · rename_i Pt e
    simp only [Bool.and_eq_true, Bool.not_eq_true', decide_eq_false_iff_not, List.any_eq_true, List.all_eq_true, Bool.or_eq_true, decide_eq_true_eq] at q
    obtain ⟨⟨⟨q1, q2⟩, p, hp, q3, q4⟩, q5⟩ := q
    refine ⟨Pt, q1, q2, ?_, fun r hr er => ?_, e⟩
    · obtain ⟨a, b⟩ := p
      subst q3 q4
      exact hp
    · rcases q5 r hr with z | z
      · exact absurd er z
      · exact z
  · cases q
theorem tab_code {K : PySem.W.Frag} (h : codeB K = true) {p : Addr × Str} (hp : p ∈ tabsOf K) : ∃ c, PySem.W.codeHdIn K c p.1 = true := by
  unfold tabsOf at hp
  obtain ⟨⟨c, o⟩, hm, e⟩ := List.mem_filterMap.mp hp
  dsimp only at e
  split at e
  · rename_i vs hc hd
    split at e
    · rename_i Pt n t h11 h1
      cases e
      obtain ⟨P2, q1, _, _, _, q5⟩ := codeB_at (Pt := Pt) h hm hd h1
      rw [h11] at q5
      cases q5
      exact ⟨c, q1⟩
    · cases e
  · cases e
theorem code_ok {K : PySem.W.Frag} {mg : Str → Option Value} {base : Heap} (h : codeB K = true) (hb : ∀ c Pt, PySem.W.codeHdIn K c Pt = true → Pt ≠ mainGlobals → (∃ q, (Pt, q) ∈ tabsOf K) → LamX.TabB base mg c Pt) (q : Str) (cdv : Value) (hc : PySem.W.codeIn K cdv q = true) : CodeOk K mg base cdv q := by
  unfold PySem.W.codeIn at hc
  split at hc
  · rename_i c
    split at hc
    · rename_i vs _ ho
      split at hc
      · rename_i x n t rest hl
        have en : n = q := eq_of_beq hc
        subst en
        have h1 : vs[1]? = some (.str n t) := by
          rw [← Array.getElem?_toList, hl]
          rfl
        obtain ⟨Pt, q1, q2, q3, q4, _⟩ := codeB_at (Pt := 0) h (lookup_mem ho) rfl h1
        exact ⟨c, Pt, rfl, hb c Pt q1 q2 ⟨_, q3⟩, q3, q4⟩
      · cases hc
    · cases hc
  · cases hc
/-- one def as a datum -/
def dOf (st : Stmt) : He.DefD := match st with
  | .FunctionDef n a b _ _ _ sc _ _ _ => ⟨(n, none), n, n, a, b, sc, [], []⟩
  | _ => ⟨("", none), "", "", ⟨[], [], none, [], [], none, []⟩, [], ⟨.function, [], false, false, []⟩, [], []⟩
section
variable {K : PySem.W.Frag} {mg : Str → Option Value} {h : Heap} {fr : List Str} {cs : List (Str × T)} {fn : List He.DefD}
theorem exB_free {ns : List Str} (X : K.In h) (G : h.Ns mainGlobals mg) (e : exB fr cs ns K = true) : ∀ x ∈ fr, mg x = none := fun x hx => by
  unfold exB at e
  simp only [Bool.and_eq_true, List.all_eq_true] at e
  exact He.free_ok X G (e.1.1 x hx)
theorem exB_glo {ns : List Str} (X : K.In h) (G : h.Ns mainGlobals mg) (e : exB fr cs ns K = true) : ∀ x ∈ ns, mg x = some (.ref (He.ga K x)) := fun x hx => by
  unfold exB at e
  simp only [Bool.and_eq_true, List.all_eq_true] at e
  exact He.glo_ok X G (e.2 x hx)
theorem exB_cst {ns : List Str} (X : K.In h) (G : h.Ns mainGlobals mg) (e : exB fr cs ns K = true) : ∀ (j : Nat) (x : Str), (cs.map (·.1))[j]? = some x → ∃ v u, mg x = some u ∧ RelV v u ∧ ∀ F, RT K mg F ((cs.map (·.2)).getD j .non) v := fun j x hx => by
  unfold exB at e
  simp only [Bool.and_eq_true, List.all_eq_true] at e
  rw [List.getElem?_map, Option.map_eq_some_iff] at hx
  obtain ⟨p, hp, rfl⟩ := hx
  have q := e.1.2 p (List.mem_of_getElem? hp)
  unfold gloB at q
  split at q
  · rename_i u hu
    obtain ⟨v, h1, h2⟩ := cstB_ok (mg := mg) p.2 u q
    refine ⟨v, u, PySem.W.mg_of X G hu, h1, fun F => ?_⟩
    rw [List.getD_eq_getElem?_getD, List.getElem?_map, hp]
    exact h2 F
  · cases q
end
/-- how a def without defaults binds -/
def BindOk (ps : List Str) (st : Stmt) : Prop := ∀ (x : Str) (kV doc pm : Value) (an : Option Addr) (cdv ct : Value) (us : List Value), us.length = ps.length →
  bindArgs (PySem.W.fnOf x x (defArgs st) (defBody st) (defScope st) .none kV doc pm an cdv ct) ⟨us, []⟩ = pure (ps.zip us)
theorem stands_of {K : PySem.W.Frag} {mg : Str → Option Value} {fn : List He.DefD} {ns : List Str} {st : Stmt} {x : Str} {ps : List Str} (hg : ∀ y ∈ ns, mg y = some (.ref (He.ga K y))) (hx : x ∈ ns) (c : He.SaysD [] fn K) (i : Nat) (hi : fn[i]? = some ⟨(x, none), x, x, defArgs st, defBody st, defScope st, [], []⟩)
    (hb : BindOk ps st) : Stands K mg x ps st := by
  obtain ⟨fd, F⟩ := c.def_ i hi
  exact ⟨He.ga K x, fd, [], [], hg x hx, F, F.bindsN fun kV doc pm an cdv ct us hl => hb x kV doc pm an cdv ct us hl⟩
def initOf : Stmt → Stmt
  | .ClassDef _ _ _ body _ _ _ _ _ _ _ => body.getLast?.getD (.Pass ⟨0, 0, 0, 0⟩)
  | s => s
def dOfI (x : Str) (st : Stmt) : He.DefD := ⟨(x, some "__init__"), "__init__", x ++ ".__init__", defArgs (initOf st), defBody (initOf st), defScope (initOf st), [], []⟩
theorem init_of {K : PySem.W.Frag} {fn : List He.DefD} {x f : Str} {st : Stmt} (c : He.SaysD [] fn K) (i : Nat) (hi : fn[i]? = some (dOfI x st))
    (ht : ∃ (p1 p2 q1 q2 q3 q4 : Pos), (f = "index" ∧ defArgs (initOf st) = Fld_index.iA p1 p2 ∧ defBody (initOf st) = Fld_index.iB q1 q2 q3 q4 ∧ defScope (initOf st) = Fld_index.iS) ∨ (f = "part" ∧ defArgs (initOf st) = Fld_part.iA p1 p2 ∧ defBody (initOf st) = Fld_part.iB q1 q2 q3 q4 ∧ defScope (initOf st) = Fld_part.iS) ∨
      (f = "value" ∧ defArgs (initOf st) = Fld_value.iA p1 p2 ∧ defBody (initOf st) = Fld_value.iB q1 q2 q3 q4 ∧ defScope (initOf st) = Fld_value.iS) ∨ (f = "limit" ∧ defArgs (initOf st) = Fld_limit.iA p1 p2 ∧ defBody (initOf st) = Fld_limit.iB q1 q2 q3 q4 ∧ defScope (initOf st) = Fld_limit.iS) ∨
      (f = "reached" ∧ defArgs (initOf st) = Fld_reached.iA p1 p2 ∧ defBody (initOf st) = Fld_reached.iB q1 q2 q3 q4 ∧ defScope (initOf st) = Fld_reached.iS)) : InitOk K (He.fAd K (x, some "__init__")) f := by
  obtain ⟨fd, F⟩ := c.def_ i hi
  obtain ⟨oc, od, dV, kV, doc, pm, an, cdv, ct, osl, rfl, lk, hcd, hD, _⟩ := F.ex
  obtain rfl : dV = .none := by
    rcases hD with ⟨_, e⟩ | ⟨e, _⟩
    · exact e
    · exact absurd rfl e
  exact ⟨_, oc, od, kV, doc, pm, an, cdv, ct, osl, _, _, _, lk, hcd, ht⟩
section
variable {K : PySem.W.Frag} {mg : Str → Option Value}
/-- absent, or its __init__ is as it should be -/
abbrev InitAt (K : PySem.W.Frag) (mg : Str → Option Value) (x f : Str) : Prop := mg x = none ∨ InitOk K (He.fAd K (x, some "__init__")) f
theorem errInit (h1 : InitAt K mg "BadWord" "index") (h2 : InitAt K mg "BadFloor" "part") (h3 : InitAt K mg "BadPlace" "value") (h4 : InitAt K mg "BadNumber" "value") (h5 : InitAt K mg "BadExpression" "index") (h6 : InitAt K mg "BadText" "part") (h7 : InitAt K mg "TooLong" "limit")
    (h8 : InitAt K mg "TooMany" "limit") (h9 : InitAt K mg "NotMember" "reached") : ∀ c ∈ ERR, ∀ f, c.fld = some f → mg c.name ≠ none → InitOk K (He.fAd K (c.name, some "__init__")) f := by
  have go : ∀ {x f : Str}, InitAt K mg x f → mg x ≠ none → InitOk K (He.fAd K (x, some "__init__")) f := fun h n => h.resolve_left n
  intro c hc f hf hn
  unfold ERR at hc
  simp only [List.mem_cons, List.not_mem_nil, or_false] at hc
  rcases hc with rfl | rfl | rfl | rfl | rfl | rfl | rfl | rfl | rfl | rfl | rfl | rfl | rfl | rfl | rfl | rfl <;> first | (cases hf; first | exact go h1 hn | exact go h2 hn | exact go h3 hn | exact go h4 hn | exact go h5 hn | exact go h6 hn | exact go h7 hn | exact go h8 hn | exact go h9 hn) | cases hf
end
def ntB (nt : List (Str × Nat)) (t j : Nat) : Bool := (List.range nt.length).all fun m => decide (m = t) || !decide ((nt.getD m ("", 0)).2 = j)
theorem nt_one {nt : List (Str × Nat)} (t j : Nat) (h : ntB nt t j = true) : ∀ m y, nt[m]? = some (y, j) → m = t := fun m y e => by
  have hm := (List.getElem?_eq_some_iff.mp e).1
  have q := List.all_eq_true.mp h m (List.mem_range.mpr hm)
  rw [List.getD_eq_getElem?_getD, e] at q
  simp at q
  exact q

/-- what the script's list is in the tracked heap: told if the module does not own it -/
def scrHp (K : PySem.W.Frag) (a : Addr) (o : Obj) (xs : List V) : Hp := fun b => if b = a ∧ K.lookup a = none then some (.frz o (.lst xs)) else none
/-- .. and the tables -/
def allHp (K : PySem.W.Frag) (a : Addr) (o : Obj) (xs : List V) : Hp := fun b => if b ∈ (tabsOf K).map (·.1) then some (.tbl #[]) else scrHp K a o xs b
section
variable {P : Program} {w : World} {K : PySem.W.Frag} {mg mb : Str → Option Value} {k : Nat} {fa a : Addr} {g : FS} {s : Shared} {vs : List Value} {ns : List Int} {o : Obj}
theorem law_end (ho : o = { cls := .type "list", data := .seq vs.toArray }) (KX : K.In s.heap) (hns : s.heap.Ns mainGlobals mg) (hb : s.heap.Ns builtinsNs mb) (hbb : ∀ x : Str, x ≠ "__name__" → mb x = bootBuiltins x) (hlim : s.heap.NoLimit) (hg : s.gens = #[])
    (hT : ∀ p ∈ tabsOf K, s.heap.get? p.1 = some { cls := .none, data := .fields #[] } ∧ K.lookup p.1 = none) (hC : codeB K = true)
    (hbm : ∃ (bm : Addr) (ob : Obj), mg "__builtins__" = some (.ref bm) ∧ bm ≠ builtinsNs ∧ s.heap.get? bm = some ob ∧ ob.cls = .type "module" ∧ ob.dict = some builtinsNs ∧ ob.data = .plain)
    (ha : s.heap.get? a = some o) (hi : IntsAre vs ns) (hl : ns.length ≤ sizeLine) (hr : Room k callerA)
    (Fn : ∀ base : Heap, (∀ q cdv, PySem.W.codeIn K cdv q = true → CodeOk K mg base cdv q) → FnV P w K mg base k fa (spF K mg (some 1) g))
    (hsp : g [.t (.scr ns)] [] (fun _ _ => False) fun z _ => z = .t (.bl true)) :
    codeAny (model P w) callerA (.call (.ref fa) ⟨[.ref a], []⟩) (fun r s' => r = .ok (.ret (.bool true)) ∧ OldK s.heap s'.heap ∧ s'.os = s.os ∧ AllBare s'.gens) s := by
  have rv := vals_ints hi
  obtain ⟨F, hF⟩ : ∃ F : Hp, F = scrHp K a o (ns.map V.int) := ⟨_, rfl⟩
  obtain ⟨H, hH⟩ : ∃ H : Hp, H = allHp K a o (ns.map V.int) := ⟨_, rfl⟩
  have tabAt : ∀ b, b ∈ (tabsOf K).map (·.1) → s.heap.get? b = some { cls := .none, data := .fields #[] } ∧ K.lookup b = none ∧ H b = some (.tbl #[]) := fun b hb => by
    obtain ⟨p, hp, rfl⟩ := List.mem_map.mp hb
    exact ⟨(hT p hp).1, (hT p hp).2, by rw [hH]; exact if_pos hb⟩
  have aT : a ∉ (tabsOf K).map (·.1) := fun z => by
    have q := (tabAt a z).1
    rw [ha, ho] at q
    cases q
  have Fx : ∀ b u, F b = some u → b = a ∧ K.lookup a = none ∧ u = .frz o (.lst (ns.map V.int)) := fun b u z => by
    rw [hF] at z
    unfold scrHp at z
    split at z
    · rename_i q
      cases z
      exact ⟨q.1, q.2, rfl⟩
    · cases z
  have Hx : ∀ b u, H b = some u → (b ∈ (tabsOf K).map (·.1) ∧ u = .tbl #[]) ∨ (b = a ∧ K.lookup a = none ∧ u = .frz o (.lst (ns.map V.int)) ∧ F b = some u) := fun b u z => by
    rw [hH] at z
    unfold allHp at z
    split at z
    · rename_i q
      cases z
      exact .inl ⟨q, rfl⟩
    · rw [← hF] at z
      obtain ⟨e1, e2, e3⟩ := Fx b u z
      exact .inr ⟨e1, e2, e3, z⟩
  have sub : Same F H := fun b u z => by
    obtain ⟨e1, _, _⟩ := Fx b u z
    rw [hH]
    unfold allHp
    rw [if_neg (by rw [e1]; exact aT), ← hF]
    exact z
  -- what is neither a list nor a table is not tracked
  have Hn : ∀ {b : Addr} {ob : Obj}, s.heap.get? b = some ob → (∀ us m, ob.data ≠ .seq us m) → ob.data ≠ .fields #[] → H b = none := fun {b ob} e h1 h2 => by
    cases q : H b with
    | none => rfl
    | some u =>
      rcases Hx b u q with ⟨m, _⟩ | ⟨rfl, _⟩
      · rw [(tabAt b m).1] at e
        cases e
        exact absurd rfl h2
      · rw [ha, ho] at e
        cases e
        exact absurd rfl (h1 _ _)
  have nsT : ∀ {b : Addr} {m : Str → Option Value}, s.heap.Ns b m → (hidT s.heap H).Ns b m := fun {b m} ⟨ob, es, ep, e, d, r⟩ => ⟨ob, es, ep, hidT_get e (Hn e (fun us m z => by rw [d] at z; cases z) fun z => by rw [d] at z; cases z), d, r⟩
  have inT : K.In (hidT s.heap H) := fun b ob e => hidT_get (KX b ob e) (by
    cases q : H b with
    | none => rfl
    | some u =>
      rcases Hx b u q with ⟨m, _⟩ | ⟨rfl, n, _⟩
      · rw [(tabAt b m).2.1] at e
        cases e
      · rw [n] at e
        cases e)
  have tel : HOk P w H s.heap := fun b u z => by
    rcases Hx b u z with ⟨m, rfl⟩ | ⟨rfl, _, rfl, _⟩
    · exact (tabAt b m).1
    · exact ⟨ha, by rw [List.length_map]; exact hl, vs, _, rv, by rw [ha, ho]⟩
  have seq : SqL K F a (ns.map V.int) := by
    cases q : K.lookup a with
    | none =>
      refine .inl (.inr ⟨o, ?_⟩)
      rw [hF]
      exact if_pos ⟨rfl, q⟩
    | some ob =>
      have e := KX a ob q
      rw [ha] at e
      cases e
      subst ho
      exact .inr ⟨_, vs.toArray, _, q, rfl, rfl, rfl, by rw [List.size_toArray, hi.length]; exact hl, by simpa using rv⟩
  obtain ⟨mc, l1, l2⟩ := hlim
  have cod : ∀ q cdv, PySem.W.codeIn K cdv q = true → CodeOk K mg (hidT s.heap H) cdv q := code_ok hC fun c Pt hc hne ⟨q, hq⟩ => by
    refine ⟨PySem.W.codeHd_of_K inT hc, ?_, fun z => hne z.symm⟩
    obtain ⟨bm, ob, b1, b2, b3, b4, b5, b6⟩ := hbm
    have nG : bm ≠ mainGlobals := fun z => by
      obtain ⟨og, es, ep, e, hd, _⟩ := hns
      rw [z, e] at b3
      cases b3
      rw [hd] at b6
      cases b6
    have nP : bm ≠ Pt := fun z => by
      have t := (hT _ hq).1
      rw [z, t] at b3
      cases b3
      cases b6
    exact ⟨bm, ob, b1, b2, nG, nP, hidT_get b3 (Hn b3 (fun us m z => by rw [b6] at z; cases z) fun z => by rw [b6] at z; cases z), b4, b5, b6⟩
  have e0 : Env0 P w K mg (hidT s.heap H) callerA [] s H := ⟨rfl, ⟨inT, nsT hns, ⟨mb, nsT hb, hbb⟩, ⟨mc, nsT l1, l2⟩⟩, fun b ob e => of_hidT e, Nat.le_of_eq (hidT_size _ _), trivial, fun b z => (nomatch z), tel, .of_eq hg⟩
  have rel : Rel K mg [] F [] H [] [] := ⟨rfl, sub, fun i a m h => by simp at h, fun i j a m n h => by simp at h, fun i a m h => by simp at h, rfl, fun i w h => by simp at h, fun p hp => by
    have m : p.1 ∈ (tabsOf K).map (·.1) := List.mem_map.mpr ⟨p, hp, rfl⟩
    refine ⟨?_, #[], (tabAt _ m).2.2, True.intro, fun pos cv hc => ?_⟩
    · cases q : F p.1 with
      | none => rfl
      | some u =>
        obtain ⟨e1, _, _⟩ := Fx _ _ q
        exact absurd (e1 ▸ m) aT
    · have z : codeAmong pos [] = some cv := hc
      simp [codeAmong] at z, fun b ps z => by
    obtain ⟨_, _, e⟩ := Fx _ _ z
    cases e⟩
  have hw : RWs K mg [] F [.t (.scr ns)] [.ref a] := ⟨.ref a, [], rfl, (show RT K mg F (.scr ns) (.ref a) by unfold RT; exact ⟨a, rfl, seq⟩), rfl⟩
  refine codeAny_mono (Fn (hidT s.heap H) cod callerA [] s H [.ref a] [.ref a] (fun v H' => v = .bl true) (fun _ _ _ => False) hr rfl e0 (.cons rfl .nil)
    ⟨fun n e => by cases e; rfl, [], F, [.t (.scr ns)], [], _, _, rel, hw, fun n e => by cases e; rfl, hsp, fun z S' μ' F' v H' hz x' r' q' => by
      subst hz
      have q2 : RT K mg F' (.bl true) v := q'
      unfold RT at q2
      exact q2, fun _ _ _ _ _ _ _ h => h.elim⟩) fun r s' h => ?_
  cases r with
  | error e =>
    obtain ⟨_, _, _, _, _, _, _, _, _, _, _, _, z⟩ := h
    exact z.elim
  | ok fl =>
    cases fl with
    | next => exact False.elim h
    | brk => exact False.elim h
    | cont => exact False.elim h
    | ret u =>
      obtain ⟨v, H', os, bare, un, tel', r', rfl⟩ := h
      obtain rfl : u = Value.bool true := r'
      have kept : ∀ b ob, b ∉ (tabsOf K).map (·.1) → s.heap.get? b = some ob → s'.heap.get? b = some ob := fun b ob nb e => by
        cases q : H b with
        | none => exact un.keep b ob e q (fun z => nomatch z) (fun z => nomatch z)
        | some u =>
          rcases Hx b u q with ⟨m, _⟩ | ⟨rfl, _, rfl, _⟩
          · exact absurd m nb
          · rw [ha] at e
            cases e
            exact (tel' _ _ (un.frzs _ _ _ q)).1
      have grown : ∀ b, b ∈ (tabsOf K).map (·.1) → ∃ more : Array Value, s'.heap.get? b = some { cls := .none, data := .fields more } := fun b m => by
        obtain ⟨more, z⟩ := un.tbls b #[] (tabAt b m).2.2
        exact ⟨_, tel' b _ z⟩
      refine ⟨rfl, ⟨fun b ob e => ?_, fun b ob e => ?_⟩, os, bare⟩
      · by_cases m : b ∈ (tabsOf K).map (·.1)
        · obtain ⟨more, hm⟩ := grown b m
          have t := (tabAt b m).1
          rw [t] at e
          cases e
          obtain ⟨p, hp, rfl⟩ := List.mem_map.mp m
          obtain ⟨c, hc⟩ := tab_code hC hp
          exact .inr (.inl ⟨((PySem.W.codeHd_of_K KX hc).tab t).isCodeTable, rfl, #[], more, rfl, by rw [Array.empty_append]; exact hm⟩)
        · exact .inl (kept b ob m e)
      · by_cases m : b ∈ (tabsOf K).map (·.1)
        · obtain ⟨more, hm⟩ := grown b m
          exact ⟨_, hm⟩
        · exact ⟨ob, kept b ob m e⟩
end
theorem walk_end {l : PySem.W.OpenLaw} {n k : Nat} {q : Program} {loose : List Str} {XP : (Str → Option Value) → Heap → Prop} {YP : World → Heap → Prop} {d : DefRec} {fs : Nat → FS} {ct : CT} {r : RowD} {j : Nat}
    (hn : l.most = some n) (hn2 : n ≤ sizeLine) (hdf : d.params.defaults = []) (hr : Room k callerA) (hj : j < k) (hx : r.nm[j]? = some (d.name, some 1))
    (hsp : ∀ ns : List Int, ns.length ≤ n → (∀ z ∈ ns, Builtin.Int.intBits z ≤ 1048576) → fs j [.t (.scr ns)] [] (fun _ _ => False) fun z _ => z = .t (.bl true))
    (F : ∀ (w : World) (mg : Str → Option Value) (h : Heap), YP w h → h.Ns mainGlobals mg → ∃ K : PySem.W.Frag, K.In h ∧ codeB K = true ∧ (∀ p ∈ tabsOf K, h.get? p.1 = some { cls := .none, data := .fields #[] } ∧ K.lookup p.1 = none) ∧
      ∀ base : Heap, (∀ q cdv, PySem.W.codeIn K cdv q = true → CodeOk K mg base cdv q) → Keeps l.prog w K mg base fs ct r k) :
    PySem.W.WalkO q loose XP YP l.row.toRowW d [] (fun f vs => PySem.call f vs) := by
  refine Att.attach_callB hn hdf fun w s₀ s₁ mg mb fa o pm cd doc a vs ns G Y ho hd hcd hmg hobj hints hlen hbits hg => ?_
  obtain ⟨K, KX, hC, hT, ke⟩ := F w mg _ Y G.T.g
  refine law_end (k := k) (g := fs j) rfl KX G.T.g G.T.b G.T.builtins G.T.nolimit hg hT hC G.T.bmain hobj hints (Nat.le_trans hlen hn2) hr (fun base hb => ?_) (hsp ns hlen hbits)
  obtain ⟨f, e1, _, e5⟩ := (ke base hb).fs j _ (some 1) hj hx
  rw [hmg] at e1
  cases e1
  exact e5.mono hj
end Tw
set_option Elab.async false
set_option linter.all false
set_option maxRecDepth 100000
set_option maxHeartbeats 2000000
namespace Tw
open PySem PySem.Spec PyProof.Rows L2

mutual
def T.pl : T → Bool
  | .non => true | .bl _ => true | .int _ => true | .str x => PyData.canLay0 (.str x)
  | .tup xs => T.pls xs | .lst xs => T.pls xs | .scr _ => true | _ => false
def T.pls : List T → Bool
  | [] => true
  | x :: xs => T.pl x && T.pls xs
end
mutual
def T.dp : T → Nat
  | .tup xs => T.dps xs + 1 | .lst xs => T.dps xs + 1 | .scr _ => 1 | _ => 0
def T.dps : List T → Nat
  | [] => 0
  | x :: xs => if T.dp x ≤ T.dps xs then T.dps xs else T.dp x
end
mutual
def eqB : T → T → Bool
  | .non, b => (match b with | .non => true | _ => false)
  | .bl a, b => (match b with | .bl c => a == c | .int j => (if a then (1 : Int) else 0) == j | _ => false)
  | .int i, b => (match b with | .bl c => i == (if c then (1 : Int) else 0) | .int j => i == j | _ => false)
  | .str x, b => (match b with | .str y => x == y | _ => false)
  | .tup xs, b => (match b with | .tup ys => eqBs xs ys | _ => false)
  | .lst xs, b => (match b with | .lst ys => eqBs xs ys | .scr ns => eqBs xs (ns.map .int) | _ => false)
  | .scr ns, b => (match b with | .lst ys => eqIs ns ys | .scr ms => ns == ms | _ => false)
  | _, _ => false
def eqBs : List T → List T → Bool
  | [], ys => ys.isEmpty
  | x :: xs, ys => (match ys with | y :: r => eqB x y && eqBs xs r | [] => false)
def eqIs : List Int → List T → Bool
  | [], ys => ys.isEmpty
  | i :: ns, ys => (match ys with | y :: r => (match y with | .bl c => i == (if c then (1 : Int) else 0) | .int j => i == j | _ => false) && eqIs ns r | [] => false)
end
def T.ok (t : T) : Bool := t.pl && decide (t.dp ≤ 64)
mutual
theorem toD_pl : ∀ t : T, t.pl = true → ∃ d, t.toD = some d ∧ d.canLay0 = true ∧ d.depth = t.dp
  | .non, _ => ⟨_, by unfold T.toD; rfl, by unfold PyData.canLay0; rfl, by unfold PyData.depth T.dp; rfl⟩
  | .bl b, _ => ⟨_, by unfold T.toD; rfl, by unfold PyData.canLay0; rfl, by unfold PyData.depth T.dp; rfl⟩
  | .int b, _ => ⟨_, by unfold T.toD; rfl, by unfold PyData.canLay0; rfl, by unfold PyData.depth T.dp; rfl⟩
  | .str b, h => ⟨_, by unfold T.toD; rfl, by unfold T.pl at h; exact h, by unfold PyData.depth T.dp; rfl⟩
  | .scr ns, _ => by
    refine ⟨_, by unfold T.toD; rfl, ?_, ?_⟩
    · unfold PyData.canLay0
      have z : ∀ ns : List Int, PyData.canLayAll0 (ns.map .int) = true := fun ns => by
        induction ns with
        | nil => unfold PyData.canLayAll0; rfl
        | cons n ns ih => rw [List.map_cons]; unfold PyData.canLayAll0; rw [ih]; unfold PyData.canLay0; rfl
      exact z ns
    · unfold PyData.depth T.dp
      have z : ∀ ns : List Int, PyData.depthAll (ns.map .int) = 0 := fun ns => by
        induction ns with
        | nil => unfold PyData.depthAll; rfl
        | cons n ns ih => rw [List.map_cons]; unfold PyData.depthAll; rw [ih]; unfold PyData.depth; rfl
      rw [z]
  | .tup xs, h => by
    unfold T.pl at h
    obtain ⟨ds, h1, h2, h3⟩ := toDs_pl xs h
    exact ⟨.tuple ds, by unfold T.toD; rw [h1]; rfl, by unfold PyData.canLay0; exact h2, by unfold PyData.depth T.dp; rw [h3]⟩
  | .lst xs, h => by
    unfold T.pl at h
    obtain ⟨ds, h1, h2, h3⟩ := toDs_pl xs h
    exact ⟨.list ds, by unfold T.toD; rw [h1]; rfl, by unfold PyData.canLay0; exact h2, by unfold PyData.depth T.dp; rw [h3]⟩
  | .ty _, h => by unfold T.pl at h; cases h
  | .glb _, h => by unfold T.pl at h; cases h
  | .emp, h => by unfold T.pl at h; cases h
  | .exc _, h => by unfold T.pl at h; cases h
  | .exc1 _ _ _, h => by unfold T.pl at h; cases h
theorem toDs_pl : ∀ ts : List T, T.pls ts = true → ∃ ds, T.toDs ts = some ds ∧ PyData.canLayAll0 ds = true ∧ PyData.depthAll ds = T.dps ts
  | [], _ => ⟨[], by unfold T.toDs; rfl, by unfold PyData.canLayAll0; rfl, by unfold PyData.depthAll T.dps; rfl⟩
  | t :: ts, h => by
    unfold T.pls at h
    rw [Bool.and_eq_true] at h
    obtain ⟨d, a1, a2, a3⟩ := toD_pl t h.1
    obtain ⟨ds, b1, b2, b3⟩ := toDs_pl ts h.2
    refine ⟨d :: ds, by unfold T.toDs; rw [a1, b1], by unfold PyData.canLayAll0; rw [a2, b2]; rfl, ?_⟩
    unfold PyData.depthAll T.dps
    rw [a3, b3]
    split <;> omega
end
theorem shaped_ok {t : T} (h : t.ok = true) : ∃ d, t.toD = some d ∧ SeqAt.shaped d = true := by
  unfold T.ok at h
  rw [Bool.and_eq_true, decide_eq_true_eq] at h
  obtain ⟨d, h1, h2, h3⟩ := toD_pl t h.1
  refine ⟨d, h1, ?_⟩
  unfold SeqAt.shaped
  rw [h2, h3, decide_eq_true h.2]
  rfl
theorem eqvAll_ints : ∀ (ns : List Int) (ms : List Int), PyData.eqvAll (ns.map .int) (ms.map .int) = (ns == ms)
  | [], [] => by simp [PyData.eqvAll]
  | [], _ :: _ => by simp [PyData.eqvAll]
  | _ :: _, [] => by simp [PyData.eqvAll]
  | n :: ns, m :: ms => by
    rw [List.map_cons, List.map_cons]
    unfold PyData.eqvAll
    rw [eqvAll_ints ns ms]
    simp [PyData.eqv]
theorem eqv_int {x : Int} : ∀ (y : T) (e : PyData), y.toD = some e → PyData.eqv (.int x) e = eqB (.int x) y := by
  intro b e hb
  cases b with
  | tup ys =>
    unfold T.toD at hb
    obtain ⟨es, h2, rfl⟩ := Option.map_eq_some_iff.mp hb
    unfold PyData.eqv eqB
    rfl
  | lst ys =>
    unfold T.toD at hb
    obtain ⟨es, h2, rfl⟩ := Option.map_eq_some_iff.mp hb
    unfold PyData.eqv eqB
    rfl
  | _ =>
    unfold T.toD at hb
    cases hb <;> (unfold PyData.eqv eqB; rfl)
theorem eqIs_ok : ∀ (ns : List Int) (ys : List T) (es : List PyData), T.toDs ys = some es → PyData.eqvAll (ns.map .int) es = eqIs ns ys
  | [], [], es, h2 => by
    unfold T.toDs at h2
    cases h2
    unfold PyData.eqvAll eqIs
    rfl
  | [], y :: ys, es, h2 => by
    unfold T.toDs at h2
    split at h2 <;> cases h2
    unfold PyData.eqvAll eqIs
    rfl
  | x :: xs, [], es, h2 => by
    unfold T.toDs at h2
    cases h2
    unfold PyData.eqvAll eqIs
    rfl
  | x :: xs, y :: ys, es, h2 => by
    unfold T.toDs at h2
    split at h2 <;> cases h2
    rename_i e er e3 e4
    rw [List.map_cons]
    unfold PyData.eqvAll eqIs
    rw [eqIs_ok xs ys er e4]
    congr 1
    have z := eqv_int (x := x) y e e3
    rw [z]
    unfold eqB
    rfl
mutual
theorem eqv_eqB : ∀ (a b : T) (d e : PyData), a.toD = some d → b.toD = some e → PyData.eqv d e = eqB a b
  | .tup xs, b, d, e, ha, hb => by
    unfold T.toD at ha
    obtain ⟨ds, h1, rfl⟩ := Option.map_eq_some_iff.mp ha
    cases b with
    | tup ys =>
      unfold T.toD at hb
      obtain ⟨es, h2, rfl⟩ := Option.map_eq_some_iff.mp hb
      unfold PyData.eqv eqB
      exact eqvs_eqBs xs ys ds es h1 h2
    | lst ys =>
      unfold T.toD at hb
      obtain ⟨es, h2, rfl⟩ := Option.map_eq_some_iff.mp hb
      unfold PyData.eqv eqB
      rfl
    | _ =>
      unfold T.toD at hb
      cases hb <;> (unfold PyData.eqv eqB; rfl)
  | .lst xs, b, d, e, ha, hb => by
    unfold T.toD at ha
    obtain ⟨ds, h1, rfl⟩ := Option.map_eq_some_iff.mp ha
    cases b with
    | tup ys =>
      unfold T.toD at hb
      obtain ⟨es, h2, rfl⟩ := Option.map_eq_some_iff.mp hb
      unfold PyData.eqv eqB
      rfl
    | lst ys =>
      unfold T.toD at hb
      obtain ⟨es, h2, rfl⟩ := Option.map_eq_some_iff.mp hb
      unfold PyData.eqv eqB
      exact eqvs_eqBs xs ys ds es h1 h2
    | scr ns =>
      unfold T.toD at hb
      cases hb
      unfold PyData.eqv eqB
      refine eqvs_eqBs xs (ns.map .int) ds (ns.map .int) h1 ?_
      induction ns with
      | nil => unfold T.toDs; rfl
      | cons n ns ih => rw [List.map_cons, List.map_cons]; unfold T.toDs; rw [ih]; unfold T.toD; rfl
    | _ =>
      unfold T.toD at hb
      cases hb <;> (unfold PyData.eqv eqB; rfl)
  | .scr ns, b, d, e, ha, hb => by
    unfold T.toD at ha
    cases ha
    cases b with
    | tup ys =>
      unfold T.toD at hb
      obtain ⟨es, h2, rfl⟩ := Option.map_eq_some_iff.mp hb
      unfold PyData.eqv eqB
      rfl
    | lst ys =>
      unfold T.toD at hb
      obtain ⟨es, h2, rfl⟩ := Option.map_eq_some_iff.mp hb
      unfold PyData.eqv eqB
      exact eqIs_ok ns ys es h2
    | scr ms =>
      unfold T.toD at hb
      cases hb
      unfold PyData.eqv eqB
      exact eqvAll_ints ns ms
    | _ =>
      unfold T.toD at hb
      cases hb <;> (unfold PyData.eqv eqB; rfl)
  | .int x, b, d, e, ha, hb => by
    unfold T.toD at ha
    cases ha
    exact eqv_int b e hb
  | .non, b, d, e, ha, hb => by
    unfold T.toD at ha
    cases ha
    cases b with
    | tup ys =>
      unfold T.toD at hb
      obtain ⟨es, h2, rfl⟩ := Option.map_eq_some_iff.mp hb
      unfold PyData.eqv eqB
      rfl
    | lst ys =>
      unfold T.toD at hb
      obtain ⟨es, h2, rfl⟩ := Option.map_eq_some_iff.mp hb
      unfold PyData.eqv eqB
      rfl
    | _ =>
      unfold T.toD at hb
      cases hb <;> (unfold PyData.eqv eqB; rfl)
  | .bl x, b, d, e, ha, hb => by
    unfold T.toD at ha
    cases ha
    cases b with
    | tup ys =>
      unfold T.toD at hb
      obtain ⟨es, h2, rfl⟩ := Option.map_eq_some_iff.mp hb
      unfold PyData.eqv eqB
      rfl
    | lst ys =>
      unfold T.toD at hb
      obtain ⟨es, h2, rfl⟩ := Option.map_eq_some_iff.mp hb
      unfold PyData.eqv eqB
      rfl
    | _ =>
      unfold T.toD at hb
      cases hb <;> (unfold PyData.eqv eqB; rfl)
  | .str x, b, d, e, ha, hb => by
    unfold T.toD at ha
    cases ha
    cases b with
    | tup ys =>
      unfold T.toD at hb
      obtain ⟨es, h2, rfl⟩ := Option.map_eq_some_iff.mp hb
      unfold PyData.eqv eqB
      rfl
    | lst ys =>
      unfold T.toD at hb
      obtain ⟨es, h2, rfl⟩ := Option.map_eq_some_iff.mp hb
      unfold PyData.eqv eqB
      rfl
    | _ =>
      unfold T.toD at hb
      cases hb <;> (unfold PyData.eqv eqB; rfl)
  | .ty _, b, d, e, ha, hb => by unfold T.toD at ha; cases ha
  | .glb _, b, d, e, ha, hb => by unfold T.toD at ha; cases ha
  | .emp, b, d, e, ha, hb => by unfold T.toD at ha; cases ha
  | .exc _, b, d, e, ha, hb => by unfold T.toD at ha; cases ha
  | .exc1 _ _ _, b, d, e, ha, hb => by unfold T.toD at ha; cases ha
theorem eqvs_eqBs : ∀ (xs ys : List T) (ds es : List PyData), T.toDs xs = some ds → T.toDs ys = some es → PyData.eqvAll ds es = eqBs xs ys
  | [], [], ds, es, h1, h2 => by
    unfold T.toDs at h1 h2
    cases h1
    cases h2
    unfold PyData.eqvAll eqBs
    rfl
  | [], y :: ys, ds, es, h1, h2 => by
    unfold T.toDs at h1 h2
    cases h1
    split at h2 <;> cases h2
    unfold PyData.eqvAll eqBs
    rfl
  | x :: xs, [], ds, es, h1, h2 => by
    unfold T.toDs at h1 h2
    cases h2
    split at h1 <;> cases h1
    unfold PyData.eqvAll eqBs
    rfl
  | x :: xs, y :: ys, ds, es, h1, h2 => by
    unfold T.toDs at h1 h2
    split at h1 <;> cases h1
    rename_i d dr e1 e2
    split at h2 <;> cases h2
    rename_i e er e3 e4
    unfold PyData.eqvAll eqBs
    rw [eqv_eqB x y d e e1 e3, eqvs_eqBs xs ys dr er e2 e4]
end
theorem eqT_eq {a b : T} (ha : a.ok = true) (hb : b.ok = true) : eqT a b = some (eqB a b) := by
  obtain ⟨d, h1, h2⟩ := shaped_ok ha
  obtain ⟨e, h3, h4⟩ := shaped_ok hb
  have z := eqv_eqB a b d e h1 h3
  unfold eqT
  split
  · unfold eqB
    rfl
  · rw [h1, h3]
    show (if (SeqAt.shaped d && SeqAt.shaped e) = true then some (PyData.eqv d e) else none) = _
    rw [h2, h4, z]
    rfl
theorem oEq_eq {a b : T} {k : T → Prop} (ha : a.ok = true) (hb : b.ok = true) : oEq a b k = k (.bl (eqB a b)) := by unfold oEq; rw [eqT_eq ha hb]; rfl
theorem oNe_eq {a b : T} {k : T → Prop} (ha : a.ok = true) (hb : b.ok = true) : oNe a b k = k (.bl (!eqB a b)) := by unfold oNe; rw [eqT_eq ha hb]; rfl
theorem oEq_str {a b : Str} {k : T → Prop} : oEq (.str a) (.str b) k = k (.bl (a == b)) := rfl
theorem oNe_str {a b : Str} {k : T → Prop} : oNe (.str a) (.str b) k = k (.bl (!(a == b))) := rfl

mutual
def T.wt : T → Nat
  | .int i => i.natAbs.log2 + 2
  | .str x => (reprText x).length
  | .tup xs => T.wts xs + 3
  | .lst xs => T.wts xs + 3
  | _ => 5
def T.wts : List T → Nat
  | [] => 0
  | x :: xs => T.wt x + 2 + T.wts xs
end
mutual
/-- repr may be taken of it -/
def T.sh : T → Bool
  | .non => true | .bl _ => true | .int i => decide (i.natAbs.log2 < 1920) | .str x => true
  | .tup xs => T.shs xs | .lst xs => T.shs xs | _ => false
def T.shs : List T → Bool
  | [] => true
  | x :: xs => T.sh x && T.shs xs
end
theorem str_len {x : String} : (Str.ofString x).length = x.length := PySem.ofString_length x
theorem textFrom_le : ∀ (ts : List Str) (k : Nat) (acc : Str), (textFrom k acc ts).length ≤ acc.length + piled ts
  | [], k, acc => Nat.le_add_right _ _
  | t :: r, k, acc => by
    have ih := textFrom_le r (k + 1) (acc ++ (if k > 0 then ", " else "" : String) ++ t)
    have e : (acc ++ (if k > 0 then ", " else "" : String) ++ t).length ≤ acc.length + 2 + t.length := by
      rw [strLen_append, strLen_append]
      split
      · exact Nat.le_refl _
      · show acc.length + 0 + t.length ≤ _
        omega
    rw [piled_cons]
    show (textFrom (k + 1) _ r).length ≤ _
    omega
theorem join_le (ts : List Str) : (Str.join ", " ts).length ≤ piled ts := by
  by_cases h : ts = []
  · subst h
    exact Nat.le_refl _
  · have := join_length_add ts h
    omega
mutual
theorem toD_sh : ∀ t : T, t.sh = true → ∃ d, t.toD = some d ∧ d.showable = true ∧ d.depth = t.dp ∧ d.shown.length ≤ t.wt
  | .non, _ => ⟨_, by unfold T.toD; rfl, by unfold PyData.showable; rfl, by unfold PyData.depth T.dp; rfl, by unfold PyData.shown T.wt; decide⟩
  | .bl b, _ => ⟨_, by unfold T.toD; rfl, by unfold PyData.showable; rfl, by unfold PyData.depth T.dp; rfl, by unfold PyData.shown T.wt; cases b <;> decide⟩
  | .int b, h => by
    unfold T.sh at h
    refine ⟨_, by unfold T.toD; rfl, by unfold PyData.showable; exact h, by unfold PyData.depth T.dp; rfl, ?_⟩
    unfold PyData.shown T.wt
    have z := int_text_length_le (a := b) (k := b.natAbs.log2 + 1) (by omega) (by omega)
    rw [str_len]
    omega
  | .str b, h => ⟨_, by unfold T.toD; rfl, by unfold PyData.showable; rfl, by unfold PyData.depth T.dp; rfl, by unfold PyData.shown T.wt; exact Nat.le_refl _⟩
  | .scr ns, h => by unfold T.sh at h; cases h
  | .tup xs, h => by
    unfold T.sh at h
    obtain ⟨ds, h1, h2, h3, h4⟩ := toDs_sh xs h
    refine ⟨.tuple ds, by unfold T.toD; rw [h1]; rfl, by unfold PyData.showable; exact h2, by unfold PyData.depth T.dp; rw [h3], ?_⟩
    unfold PyData.shown T.wt tupleText
    have j := join_le (PyData.shownAll ds)
    rw [strLen_append, strLen_append]
    have e1 : (("(" : String) : Str).length = 1 := rfl
    have e2 : (((if ((PyData.shownAll ds).length == 1) = true then ",)" else ")") : String) : Str).length ≤ 2 := by split <;> decide
    omega
  | .lst xs, h => by
    unfold T.sh at h
    obtain ⟨ds, h1, h2, h3, h4⟩ := toDs_sh xs h
    refine ⟨.list ds, by unfold T.toD; rw [h1]; rfl, by unfold PyData.showable; exact h2, by unfold PyData.depth T.dp; rw [h3], ?_⟩
    unfold PyData.shown T.wt listText
    have j := textFrom_le (PyData.shownAll ds) 0 "["
    rw [strLen_append]
    have e1 : (("[" : String) : Str).length = 1 := rfl
    have e2 : (("]" : String) : Str).length = 1 := rfl
    omega
  | .ty _, h => by unfold T.sh at h; cases h
  | .glb _, h => by unfold T.sh at h; cases h
  | .emp, h => by unfold T.sh at h; cases h
  | .exc _, h => by unfold T.sh at h; cases h
  | .exc1 _ _ _, h => by unfold T.sh at h; cases h
theorem toDs_sh : ∀ ts : List T, T.shs ts = true → ∃ ds, T.toDs ts = some ds ∧ PyData.showableAll ds = true ∧ PyData.depthAll ds = T.dps ts ∧ piled (PyData.shownAll ds) ≤ T.wts ts
  | [], _ => ⟨[], by unfold T.toDs; rfl, by unfold PyData.showableAll; rfl, by unfold PyData.depthAll T.dps; rfl, by unfold PyData.shownAll T.wts; exact Nat.le_refl _⟩
  | t :: ts, h => by
    unfold T.shs at h
    rw [Bool.and_eq_true] at h
    obtain ⟨d, a1, a2, a3, a4⟩ := toD_sh t h.1
    obtain ⟨ds, b1, b2, b3, b4⟩ := toDs_sh ts h.2
    refine ⟨d :: ds, by unfold T.toDs; rw [a1, b1], by unfold PyData.showableAll; rw [a2, b2]; rfl, ?_, ?_⟩
    · unfold PyData.depthAll T.dps
      rw [a3, b3]
      split <;> omega
    · unfold PyData.shownAll T.wts
      rw [piled_cons]
      omega
end
/-- its text -/
def T.rp (t : T) : Str := match t.toR with
  | some d => d.shown
  | none => ⟨#[]⟩
def T.prt : T → Bool
  | .emp => true
  | t => t.sh && decide (t.dp ≤ 64) && decide (t.wt ≤ 1000000)
theorem oRepr_eq {t : T} {k : T → Prop} (h : t.prt = true) : oRepr t k = k (.str t.rp) := by
  by_cases e : t = .emp
  · subst e
    unfold oRepr T.rp T.toR
    have h1 : PyData.showable (.dict []) = true := by unfold PyData.showable PyData.showableKv; rfl
    have h2 : PyData.depth (.dict []) ≤ 64 := by unfold PyData.depth PyData.depthKv; decide
    have h3 : (PyData.shown (.dict [])).length ≤ sizeLine := by unfold PyData.shown PyData.shownKv; decide
    simp only [h1, h2, h3, true_and]
  · have e1 : t.toR = t.toD := by
      unfold T.toR
      split
      · exact absurd rfl e
      · rfl
    have h' : (t.sh && decide (t.dp ≤ 64) && decide (t.wt ≤ 1000000)) = true := by
      unfold T.prt at h
      split at h
      · exact absurd rfl e
      · exact h
    simp only [Bool.and_eq_true, decide_eq_true_eq] at h'
    obtain ⟨⟨h1, h2⟩, h3⟩ := h'
    obtain ⟨d, a1, a2, a3, a4⟩ := toD_sh t h1
    have h4 : d.shown.length ≤ sizeLine := by
      have : (1000000 : Nat) ≤ sizeLine := by decide
      omega
    have h5 : d.depth ≤ 64 := by omega
    unfold oRepr T.rp
    rw [e1, a1]
    simp only [a2, h5, h4, true_and]
end Tw
set_option Elab.async false
set_option linter.all false
set_option maxRecDepth 100000
set_option maxHeartbeats 2000000
namespace Tw
open PySem PySem.Spec PyProof.Rows L2

theorem wBlIf_t {a b : Prop} : wBlIf true a b = a := by unfold wBlIf; rw [if_pos rfl]
theorem wBlIf_f {a b : Prop} : wBlIf false a b = b := by unfold wBlIf; rw [if_neg Bool.false_ne_true]
theorem wBlIf_nt {c : Bool} {a b : Prop} : wBlIf (!c) a b = wBlIf c b a := by cases c <;> (simp only [Bool.not_true, Bool.not_false, wBlIf_t, wBlIf_f])
theorem wBlIf_same {c : Bool} {a : Prop} : wBlIf c a a = a := by cases c <;> simp only [wBlIf_t, wBlIf_f]
theorem wBlIf_of {c : Bool} {a b : Prop} (h1 : c = true → a) (h2 : c = false → b) : wBlIf c a b := by
  cases c
  · rw [wBlIf_f]; exact h2 rfl
  · rw [wBlIf_t]; exact h1 rfl
noncomputable def qEX (fs : Nat → FS) (ct : CT) : {f : CE → WE // f = wpE fs ct} := Classical.choice ⟨⟨_, rfl⟩⟩
noncomputable def qE (fs : Nat → FS) (ct : CT) : CE → WE := (qEX fs ct).1
theorem qE_wp {fs : Nat → FS} {ct : CT} : qE fs ct = wpE fs ct := (qEX fs ct).2
noncomputable def qAX (fs : Nat → FS) (ct : CT) : {f : CEs → WA // f = wpA fs ct} := Classical.choice ⟨⟨_, rfl⟩⟩
noncomputable def qA (fs : Nat → FS) (ct : CT) : CEs → WA := (qAX fs ct).1
theorem qA_wp {fs : Nat → FS} {ct : CT} : qA fs ct = wpA fs ct := (qAX fs ct).2
noncomputable def qLX (fs : Nat → FS) (ct : CT) : {f : CEs → List WE // f = wpL fs ct} := Classical.choice ⟨⟨_, rfl⟩⟩
noncomputable def qL (fs : Nat → FS) (ct : CT) : CEs → List WE := (qLX fs ct).1
theorem qL_wp {fs : Nat → FS} {ct : CT} : qL fs ct = wpL fs ct := (qLX fs ct).2
noncomputable def qAndX (fs : Nat → FS) (ct : CT) : {f : CEs → WE // f = wpAnd fs ct} := Classical.choice ⟨⟨_, rfl⟩⟩
noncomputable def qAnd (fs : Nat → FS) (ct : CT) : CEs → WE := (qAndX fs ct).1
theorem qAnd_wp {fs : Nat → FS} {ct : CT} : qAnd fs ct = wpAnd fs ct := (qAndX fs ct).2
noncomputable def qOrX (fs : Nat → FS) (ct : CT) : {f : CEs → WE // f = wpOr fs ct} := Classical.choice ⟨⟨_, rfl⟩⟩
noncomputable def qOr (fs : Nat → FS) (ct : CT) : CEs → WE := (qOrX fs ct).1
theorem qOr_wp {fs : Nat → FS} {ct : CT} : qOr fs ct = wpOr fs ct := (qOrX fs ct).2
noncomputable def qIX (fs : Nat → FS) (ct : CT) : {f : CI → WI // f = wpI fs ct} := Classical.choice ⟨⟨_, rfl⟩⟩
noncomputable def qI (fs : Nat → FS) (ct : CT) : CI → WI := (qIX fs ct).1
theorem qI_wp {fs : Nat → FS} {ct : CT} : qI fs ct = wpI fs ct := (qIX fs ct).2
noncomputable def qGX (fs : Nat → FS) (ct : CT) : {f : CG → WG // f = wpG fs ct} := Classical.choice ⟨⟨_, rfl⟩⟩
noncomputable def qG (fs : Nat → FS) (ct : CT) : CG → WG := (qGX fs ct).1
theorem qG_wp {fs : Nat → FS} {ct : CT} : qG fs ct = wpG fs ct := (qGX fs ct).2
noncomputable def qGsX (fs : Nat → FS) (ct : CT) : {f : CGs → WGs // f = wpGs fs ct} := Classical.choice ⟨⟨_, rfl⟩⟩
noncomputable def qGs (fs : Nat → FS) (ct : CT) : CGs → WGs := (qGsX fs ct).1
theorem qGs_wp {fs : Nat → FS} {ct : CT} : qGs fs ct = wpGs fs ct := (qGsX fs ct).2
noncomputable def qSX (fs : Nat → FS) (ct : CT) : {f : CS → WS // f = wpS fs ct} := Classical.choice ⟨⟨_, rfl⟩⟩
noncomputable def qS (fs : Nat → FS) (ct : CT) : CS → WS := (qSX fs ct).1
theorem qS_wp {fs : Nat → FS} {ct : CT} : qS fs ct = wpS fs ct := (qSX fs ct).2
noncomputable def qBX (fs : Nat → FS) (ct : CT) : {f : CSs → WS // f = wpB fs ct} := Classical.choice ⟨⟨_, rfl⟩⟩
noncomputable def qB (fs : Nat → FS) (ct : CT) : CSs → WS := (qBX fs ct).1
theorem qB_wp {fs : Nat → FS} {ct : CT} : qB fs ct = wpB fs ct := (qBX fs ct).2
section
variable {fs : Nat → FS} {ct : CT}
theorem qE_slot {i} : qE fs ct (.slot i) = wSlot i := by simp only [qE_wp, qA_wp, qL_wp, qAnd_wp, qOr_wp, qI_wp, qG_wp, qGs_wp, qS_wp, qB_wp]; first | rfl | (unfold wpE; rfl)
theorem qE_int {i} : qE fs ct (.int i) = wC (.int i) := by simp only [qE_wp, qA_wp, qL_wp, qAnd_wp, qOr_wp, qI_wp, qG_wp, qGs_wp, qS_wp, qB_wp]; first | rfl | (unfold wpE; rfl)
theorem qE_str {x} : qE fs ct (.str x) = wC (.str x) := by simp only [qE_wp, qA_wp, qL_wp, qAnd_wp, qOr_wp, qI_wp, qG_wp, qGs_wp, qS_wp, qB_wp]; first | rfl | (unfold wpE; rfl)
theorem qE_bl {b} : qE fs ct (.bl b) = wC (.bl b) := by simp only [qE_wp, qA_wp, qL_wp, qAnd_wp, qOr_wp, qI_wp, qG_wp, qGs_wp, qS_wp, qB_wp]; first | rfl | (unfold wpE; rfl)
theorem qE_non : qE fs ct (.non) = wC .non := by simp only [qE_wp, qA_wp, qL_wp, qAnd_wp, qOr_wp, qI_wp, qG_wp, qGs_wp, qS_wp, qB_wp]; first | rfl | (unfold wpE; rfl)
theorem qE_cst {j} : qE fs ct (.cst j) = wC (ct j) := by simp only [qE_wp, qA_wp, qL_wp, qAnd_wp, qOr_wp, qI_wp, qG_wp, qGs_wp, qS_wp, qB_wp]; first | rfl | (unfold wpE; rfl)
theorem qE_ty {b} : qE fs ct (.ty b) = wC (.ty b.name) := by simp only [qE_wp, qA_wp, qL_wp, qAnd_wp, qOr_wp, qI_wp, qG_wp, qGs_wp, qS_wp, qB_wp]; first | rfl | (unfold wpE; rfl)
theorem qE_tup {es} : qE fs ct (.tup es) = wTup (qA fs ct es) := by simp only [qE_wp, qA_wp, qL_wp, qAnd_wp, qOr_wp, qI_wp, qG_wp, qGs_wp, qS_wp, qB_wp]; first | rfl | (unfold wpE; rfl)
theorem qE_lst {m} {es} : qE fs ct (.lst m es) = wLst m (qA fs ct es) := by simp only [qE_wp, qA_wp, qL_wp, qAnd_wp, qOr_wp, qI_wp, qG_wp, qGs_wp, qS_wp, qB_wp]; first | rfl | (unfold wpE; rfl)
theorem qE_emp {m} : qE fs ct (.emp m) = wEmp m := by simp only [qE_wp, qA_wp, qL_wp, qAnd_wp, qOr_wp, qI_wp, qG_wp, qGs_wp, qS_wp, qB_wp]; first | rfl | (unfold wpE; rfl)
theorem qE_bin {o} {a} {b} : qE fs ct (.bin o a b) = wOp2 (opG o) (qE fs ct a) (qE fs ct b) := by simp only [qE_wp, qA_wp, qL_wp, qAnd_wp, qOr_wp, qI_wp, qG_wp, qGs_wp, qS_wp, qB_wp]; first | rfl | (unfold wpE; rfl)
theorem qE_neg {a} : qE fs ct (.neg a) = wOp1 (g1 oNeg) (qE fs ct a) := by simp only [qE_wp, qA_wp, qL_wp, qAnd_wp, qOr_wp, qI_wp, qG_wp, qGs_wp, qS_wp, qB_wp]; first | rfl | (unfold wpE; rfl)
theorem qE_cmp {o} {a} {b} : qE fs ct (.cmp o a b) = wOp2 (cmG o) (qE fs ct a) (qE fs ct b) := by simp only [qE_wp, qA_wp, qL_wp, qAnd_wp, qOr_wp, qI_wp, qG_wp, qGs_wp, qS_wp, qB_wp]; first | rfl | (unfold wpE; rfl)
theorem qE_chn {o} {o'} {a} {b} {c} : qE fs ct (.chn o o' a b c) = wChn (cmG o) (cmG o') (qE fs ct a) (qE fs ct b) (qE fs ct c) := by simp only [qE_wp, qA_wp, qL_wp, qAnd_wp, qOr_wp, qI_wp, qG_wp, qGs_wp, qS_wp, qB_wp]; first | rfl | (unfold wpE; rfl)
theorem qE_nt {a} : qE fs ct (.nt a) = wNot (qE fs ct a) := by simp only [qE_wp, qA_wp, qL_wp, qAnd_wp, qOr_wp, qI_wp, qG_wp, qGs_wp, qS_wp, qB_wp]; first | rfl | (unfold wpE; rfl)
theorem qE_and {es} : qE fs ct (.and es) = qAnd fs ct es := by simp only [qE_wp, qA_wp, qL_wp, qAnd_wp, qOr_wp, qI_wp, qG_wp, qGs_wp, qS_wp, qB_wp]; first | rfl | (unfold wpE; rfl)
theorem qE_or {es} : qE fs ct (.or es) = qOr fs ct es := by simp only [qE_wp, qA_wp, qL_wp, qAnd_wp, qOr_wp, qI_wp, qG_wp, qGs_wp, qS_wp, qB_wp]; first | rfl | (unfold wpE; rfl)
theorem qE_ite {c} {a} {b} : qE fs ct (.ite c a b) = wIte (qE fs ct c) (qE fs ct a) (qE fs ct b) := by simp only [qE_wp, qA_wp, qL_wp, qAnd_wp, qOr_wp, qI_wp, qG_wp, qGs_wp, qS_wp, qB_wp]; first | rfl | (unfold wpE; rfl)
theorem qE_idx {a} {i} : qE fs ct (.idx a i) = wOp2 (g2 oIx) (qE fs ct a) (qE fs ct i) := by simp only [qE_wp, qA_wp, qL_wp, qAnd_wp, qOr_wp, qI_wp, qG_wp, qGs_wp, qS_wp, qB_wp]; first | rfl | (unfold wpE; rfl)
theorem qE_call {j} {es} : qE fs ct (.call j es) = wCall (wArity es.len (fs j)) (qA fs ct es) := by simp only [qE_wp, qA_wp, qL_wp, qAnd_wp, qOr_wp, qI_wp, qG_wp, qGs_wp, qS_wp, qB_wp]; first | rfl | (unfold wpE; rfl)
theorem qE_b1 {f} {a} : qE fs ct (.b1 f a) = wB (b1G f) (waCons (qE fs ct a) waNil) := by simp only [qE_wp, qA_wp, qL_wp, qAnd_wp, qOr_wp, qI_wp, qG_wp, qGs_wp, qS_wp, qB_wp]; first | rfl | (unfold wpE; rfl)
theorem qE_b2 {f} {a} {b} : qE fs ct (.b2 f a b) = wB (b2G f) (waCons (qE fs ct a) (waCons (qE fs ct b) waNil)) := by simp only [qE_wp, qA_wp, qL_wp, qAnd_wp, qOr_wp, qI_wp, qG_wp, qGs_wp, qS_wp, qB_wp]; first | rfl | (unfold wpE; rfl)
theorem qE_lstOf {m} {a} : qE fs ct (.lstOf m a) = wLstOf m (qE fs ct a) := by simp only [qE_wp, qA_wp, qL_wp, qAnd_wp, qOr_wp, qI_wp, qG_wp, qGs_wp, qS_wp, qB_wp]; first | rfl | (unfold wpE; rfl)
theorem qE_app {i} {a} : qE fs ct (.app i a) = wApp i (qE fs ct a) := by simp only [qE_wp, qA_wp, qL_wp, qAnd_wp, qOr_wp, qI_wp, qG_wp, qGs_wp, qS_wp, qB_wp]; first | rfl | (unfold wpE; rfl)
theorem qE_pop {i} : qE fs ct (.pop i) = wPop i := by simp only [qE_wp, qA_wp, qL_wp, qAnd_wp, qOr_wp, qI_wp, qG_wp, qGs_wp, qS_wp, qB_wp]; first | rfl | (unfold wpE; rfl)
theorem qE_glb {x} : qE fs ct (.glb x) = wC (.glb x) := by simp only [qE_wp, qA_wp, qL_wp, qAnd_wp, qOr_wp, qI_wp, qG_wp, qGs_wp, qS_wp, qB_wp]; first | rfl | (unfold wpE; rfl)
theorem qE_act {i} : qE fs ct (.act i) = wActC ct.th i := by simp only [qE_wp, qA_wp, qL_wp, qAnd_wp, qOr_wp, qI_wp, qG_wp, qGs_wp, qS_wp, qB_wp]; first | rfl | (unfold wpE; rfl)
theorem qE_callL {j} {b} : qE fs ct (.callL j b) = wCallL (ct.ft j) (qE fs ct b) := by simp only [qE_wp, qA_wp, qL_wp, qAnd_wp, qOr_wp, qI_wp, qG_wp, qGs_wp, qS_wp, qB_wp]; first | rfl | (unfold wpE; rfl)
theorem qE_op {f} {es} : qE fs ct (.op f es) = oxW f (qL fs ct es) := by simp only [qE_wp, qA_wp, qL_wp, qAnd_wp, qOr_wp, qI_wp, qG_wp, qGs_wp, qS_wp, qB_wp]; first | rfl | (unfold wpE; rfl)
theorem qE_comp {m} {own} {g} {it} {e} : qE fs ct (.comp m own g it e) = wComp m (own.map (·.2)) (qI fs ct it) (qG fs ct g) wYes (qE fs ct e) := by simp only [qE_wp, qA_wp, qL_wp, qAnd_wp, qOr_wp, qI_wp, qG_wp, qGs_wp, qS_wp, qB_wp]; first | rfl | (unfold wpE; rfl)
theorem qE_compI {m} {own} {g} {it} {c} {e} : qE fs ct (.compI m own g it c e) = wComp m (own.map (·.2)) (qI fs ct it) (qG fs ct g) (qE fs ct c) (qE fs ct e) := by simp only [qE_wp, qA_wp, qL_wp, qAnd_wp, qOr_wp, qI_wp, qG_wp, qGs_wp, qS_wp, qB_wp]; first | rfl | (unfold wpE; rfl)
theorem qA_nil : qA fs ct (.nil) = waNil := by simp only [qE_wp, qA_wp, qL_wp, qAnd_wp, qOr_wp, qI_wp, qG_wp, qGs_wp, qS_wp, qB_wp]; first | rfl | (unfold wpA; rfl)
theorem qA_cons {e} {es} : qA fs ct (.cons e es) = waCons (qE fs ct e) (qA fs ct es) := by simp only [qE_wp, qA_wp, qL_wp, qAnd_wp, qOr_wp, qI_wp, qG_wp, qGs_wp, qS_wp, qB_wp]; first | rfl | (unfold wpA; rfl)
theorem qL_nil : qL fs ct (.nil) = ([] : List WE) := by simp only [qE_wp, qA_wp, qL_wp, qAnd_wp, qOr_wp, qI_wp, qG_wp, qGs_wp, qS_wp, qB_wp]; first | rfl | (unfold wpL; rfl)
theorem qL_cons {e} {es} : qL fs ct (.cons e es) = (qE fs ct e :: qL fs ct es) := by simp only [qE_wp, qA_wp, qL_wp, qAnd_wp, qOr_wp, qI_wp, qG_wp, qGs_wp, qS_wp, qB_wp]; first | rfl | (unfold wpL; rfl)
theorem qAnd_nil : qAnd fs ct (.nil) = wC (.bl true) := by simp only [qE_wp, qA_wp, qL_wp, qAnd_wp, qOr_wp, qI_wp, qG_wp, qGs_wp, qS_wp, qB_wp]; first | rfl | (unfold wpAnd; rfl)
theorem qAnd_cons1 {a} : qAnd fs ct (.cons a .nil) = qE fs ct a := by simp only [qE_wp, qA_wp, qL_wp, qAnd_wp, qOr_wp, qI_wp, qG_wp, qGs_wp, qS_wp, qB_wp]; first | rfl | (unfold wpAnd; rfl)
theorem qAnd_cons2 {a} {b} {es} : qAnd fs ct (.cons a (.cons b es)) = wAnd (qE fs ct a) (qAnd fs ct (.cons b es)) := by simp only [qE_wp, qA_wp, qL_wp, qAnd_wp, qOr_wp, qI_wp, qG_wp, qGs_wp, qS_wp, qB_wp]; first | rfl | (unfold wpAnd; rfl)
theorem qOr_nil : qOr fs ct (.nil) = wC (.bl false) := by simp only [qE_wp, qA_wp, qL_wp, qAnd_wp, qOr_wp, qI_wp, qG_wp, qGs_wp, qS_wp, qB_wp]; first | rfl | (unfold wpOr; rfl)
theorem qOr_cons1 {a} : qOr fs ct (.cons a .nil) = qE fs ct a := by simp only [qE_wp, qA_wp, qL_wp, qAnd_wp, qOr_wp, qI_wp, qG_wp, qGs_wp, qS_wp, qB_wp]; first | rfl | (unfold wpOr; rfl)
theorem qOr_cons2 {a} {b} {es} : qOr fs ct (.cons a (.cons b es)) = wOr (qE fs ct a) (qOr fs ct (.cons b es)) := by simp only [qE_wp, qA_wp, qL_wp, qAnd_wp, qOr_wp, qI_wp, qG_wp, qGs_wp, qS_wp, qB_wp]; first | rfl | (unfold wpOr; rfl)
theorem qI_lst {e} : qI fs ct (.lst e) = wiLst (qE fs ct e) := by simp only [qE_wp, qA_wp, qL_wp, qAnd_wp, qOr_wp, qI_wp, qG_wp, qGs_wp, qS_wp, qB_wp]; first | rfl | (unfold wpI; rfl)
theorem qI_tup {e} : qI fs ct (.tup e) = wiTup (qE fs ct e) := by simp only [qE_wp, qA_wp, qL_wp, qAnd_wp, qOr_wp, qI_wp, qG_wp, qGs_wp, qS_wp, qB_wp]; first | rfl | (unfold wpI; rfl)
theorem qI_str {e} : qI fs ct (.str e) = wiStr (qE fs ct e) := by simp only [qE_wp, qA_wp, qL_wp, qAnd_wp, qOr_wp, qI_wp, qG_wp, qGs_wp, qS_wp, qB_wp]; first | rfl | (unfold wpI; rfl)
theorem qI_rng1 {e} : qI fs ct (.rng1 e) = wiRng1 (qE fs ct e) := by simp only [qE_wp, qA_wp, qL_wp, qAnd_wp, qOr_wp, qI_wp, qG_wp, qGs_wp, qS_wp, qB_wp]; first | rfl | (unfold wpI; rfl)
theorem qI_rng2 {a} {b} : qI fs ct (.rng2 a b) = wiRng2 (qE fs ct a) (qE fs ct b) := by simp only [qE_wp, qA_wp, qL_wp, qAnd_wp, qOr_wp, qI_wp, qG_wp, qGs_wp, qS_wp, qB_wp]; first | rfl | (unfold wpI; rfl)
theorem qI_op {f} {es} : qI fs ct (.op f es) = ixW f (qL fs ct es) := by simp only [qE_wp, qA_wp, qL_wp, qAnd_wp, qOr_wp, qI_wp, qG_wp, qGs_wp, qS_wp, qB_wp]; first | rfl | (unfold wpI; rfl)
theorem qG_nm {i} : qG fs ct (.nm i) = gNm i := by simp only [qE_wp, qA_wp, qL_wp, qAnd_wp, qOr_wp, qI_wp, qG_wp, qGs_wp, qS_wp, qB_wp]; first | rfl | (unfold wpG; rfl)
theorem qG_tp {gs} : qG fs ct (.tp gs) = gTp (qGs fs ct gs) := by simp only [qE_wp, qA_wp, qL_wp, qAnd_wp, qOr_wp, qI_wp, qG_wp, qGs_wp, qS_wp, qB_wp]; first | rfl | (unfold wpG; rfl)
theorem qGs_nil : qGs fs ct (.nil) = gsNil := by simp only [qE_wp, qA_wp, qL_wp, qAnd_wp, qOr_wp, qI_wp, qG_wp, qGs_wp, qS_wp, qB_wp]; first | rfl | (unfold wpGs; rfl)
theorem qGs_cons {g} {gs} : qGs fs ct (.cons g gs) = gsCons (qG fs ct g) (qGs fs ct gs) := by simp only [qE_wp, qA_wp, qL_wp, qAnd_wp, qOr_wp, qI_wp, qG_wp, qGs_wp, qS_wp, qB_wp]; first | rfl | (unfold wpGs; rfl)
theorem qS_asg {g} {e} : qS fs ct (.asg g e) = wAsg (qE fs ct e) (qG fs ct g) := by simp only [qE_wp, qA_wp, qL_wp, qAnd_wp, qOr_wp, qI_wp, qG_wp, qGs_wp, qS_wp, qB_wp]; first | rfl | (unfold wpS; rfl)
theorem qS_asgC {i} {e} : qS fs ct (.asgC i e) = wAsg (qE fs ct e) (gNm i) := by simp only [qE_wp, qA_wp, qL_wp, qAnd_wp, qOr_wp, qI_wp, qG_wp, qGs_wp, qS_wp, qB_wp]; first | rfl | (unfold wpS; rfl)
theorem qS_par {i} {j} {es} : qS fs ct (.par i j es) = wPar i j (qA fs ct es) := by simp only [qE_wp, qA_wp, qL_wp, qAnd_wp, qOr_wp, qI_wp, qG_wp, qGs_wp, qS_wp, qB_wp]; first | rfl | (unfold wpS; rfl)
theorem qS_par3 {i} {j} {l} {es} : qS fs ct (.par3 i j l es) = wPar3 i j l (qA fs ct es) := by simp only [qE_wp, qA_wp, qL_wp, qAnd_wp, qOr_wp, qI_wp, qG_wp, qGs_wp, qS_wp, qB_wp]; first | rfl | (unfold wpS; rfl)
theorem qS_aug {i} {o} {e} : qS fs ct (.aug i o e) = wAug i (auG o) (qE fs ct e) := by simp only [qE_wp, qA_wp, qL_wp, qAnd_wp, qOr_wp, qI_wp, qG_wp, qGs_wp, qS_wp, qB_wp]; first | rfl | (unfold wpS; rfl)
theorem qS_setI {o} {k} {e} : qS fs ct (.setI o k e) = wSetI (qE fs ct o) (qE fs ct k) (qE fs ct e) := by simp only [qE_wp, qA_wp, qL_wp, qAnd_wp, qOr_wp, qI_wp, qG_wp, qGs_wp, qS_wp, qB_wp]; first | rfl | (unfold wpS; rfl)
theorem qS_ex {e} : qS fs ct (.ex e) = wEx (qE fs ct e) := by simp only [qE_wp, qA_wp, qL_wp, qAnd_wp, qOr_wp, qI_wp, qG_wp, qGs_wp, qS_wp, qB_wp]; first | rfl | (unfold wpS; rfl)
theorem qS_iff {c} {a} {b} : qS fs ct (.iff c a b) = wIf (qE fs ct c) (qB fs ct a) (qB fs ct b) := by simp only [qE_wp, qA_wp, qL_wp, qAnd_wp, qOr_wp, qI_wp, qG_wp, qGs_wp, qS_wp, qB_wp]; first | rfl | (unfold wpS; rfl)
theorem qS_fr {g} {it} {b} : qS fs ct (.fr g it b) = wFor (qI fs ct it) (qG fs ct g) (qB fs ct b) := by simp only [qE_wp, qA_wp, qL_wp, qAnd_wp, qOr_wp, qI_wp, qG_wp, qGs_wp, qS_wp, qB_wp]; first | rfl | (unfold wpS; rfl)
theorem qS_whl {c} {b} : qS fs ct (.whl c b) = wWhile (qE fs ct c) (qB fs ct b) := by simp only [qE_wp, qA_wp, qL_wp, qAnd_wp, qOr_wp, qI_wp, qG_wp, qGs_wp, qS_wp, qB_wp]; first | rfl | (unfold wpS; rfl)
theorem qS_ret {e} : qS fs ct (.ret e) = wRet (qE fs ct e) := by simp only [qE_wp, qA_wp, qL_wp, qAnd_wp, qOr_wp, qI_wp, qG_wp, qGs_wp, qS_wp, qB_wp]; first | rfl | (unfold wpS; rfl)
theorem qS_retN : qS fs ct (.retN) = wRetN := by simp only [qE_wp, qA_wp, qL_wp, qAnd_wp, qOr_wp, qI_wp, qG_wp, qGs_wp, qS_wp, qB_wp]; first | rfl | (unfold wpS; rfl)
theorem qS_brk : qS fs ct (.brk) = wBrk := by simp only [qE_wp, qA_wp, qL_wp, qAnd_wp, qOr_wp, qI_wp, qG_wp, qGs_wp, qS_wp, qB_wp]; first | rfl | (unfold wpS; rfl)
theorem qS_cnt : qS fs ct (.cnt) = wCnt := by simp only [qE_wp, qA_wp, qL_wp, qAnd_wp, qOr_wp, qI_wp, qG_wp, qGs_wp, qS_wp, qB_wp]; first | rfl | (unfold wpS; rfl)
theorem qS_pas : qS fs ct (.pas) = wNext := by simp only [qE_wp, qA_wp, qL_wp, qAnd_wp, qOr_wp, qI_wp, qG_wp, qGs_wp, qS_wp, qB_wp]; first | rfl | (unfold wpS; rfl)
theorem qS_nev : qS fs ct (.nev) = wNev := by simp only [qE_wp, qA_wp, qL_wp, qAnd_wp, qOr_wp, qI_wp, qG_wp, qGs_wp, qS_wp, qB_wp]; first | rfl | (unfold wpS; rfl)
theorem qS_tryN {b} : qS fs ct (.tryN b) = wTryN (qB fs ct b) := by simp only [qE_wp, qA_wp, qL_wp, qAnd_wp, qOr_wp, qI_wp, qG_wp, qGs_wp, qS_wp, qB_wp]; first | rfl | (unfold wpS; rfl)
theorem qS_raise0 {x} : qS fs ct (.raise0 x) = wRaise0 x := by simp only [qE_wp, qA_wp, qL_wp, qAnd_wp, qOr_wp, qI_wp, qG_wp, qGs_wp, qS_wp, qB_wp]; first | rfl | (unfold wpS; rfl)
theorem qS_raise1 {x} {f} {e} : qS fs ct (.raise1 x f e) = wRaise1 x f (qE fs ct e) := by simp only [qE_wp, qA_wp, qL_wp, qAnd_wp, qOr_wp, qI_wp, qG_wp, qGs_wp, qS_wp, qB_wp]; first | rfl | (unfold wpS; rfl)
theorem qS_tryAs {i} {ns} {b} {s} : qS fs ct (.tryAs i ns b s) = wTryAs (mtE ns) i (qB fs ct b) (qB fs ct s) := by simp only [qE_wp, qA_wp, qL_wp, qAnd_wp, qOr_wp, qI_wp, qG_wp, qGs_wp, qS_wp, qB_wp]; first | rfl | (unfold wpS; rfl)
theorem qS_tryNo {ns} {b} {s} : qS fs ct (.tryNo ns b s) = wTryNo (mtE ns) (qB fs ct b) (qB fs ct s) := by simp only [qE_wp, qA_wp, qL_wp, qAnd_wp, qOr_wp, qI_wp, qG_wp, qGs_wp, qS_wp, qB_wp]; first | rfl | (unfold wpS; rfl)
theorem qB_nil : qB fs ct (.nil) = wNext := by simp only [qE_wp, qA_wp, qL_wp, qAnd_wp, qOr_wp, qI_wp, qG_wp, qGs_wp, qS_wp, qB_wp]; first | rfl | (unfold wpB; rfl)
theorem qB_cons {s} {ss} : qB fs ct (.cons s ss) = wSeq (qS fs ct s) (qB fs ct ss) := by simp only [qE_wp, qA_wp, qL_wp, qAnd_wp, qOr_wp, qI_wp, qG_wp, qGs_wp, qS_wp, qB_wp]; first | rfl | (unfold wpB; rfl)
theorem qB_fz {j} {ss} : qB fs ct (.fz j ss) = wFz j (qB fs ct ss) := by simp only [qE_wp, qA_wp, qL_wp, qAnd_wp, qOr_wp, qI_wp, qG_wp, qGs_wp, qS_wp, qB_wp]; first | rfl | (unfold wpB; rfl)
end

theorem st {fs : Nat → FS} {ct : CT} {s : CS} {ss : CSs} {D : WD} {E : PX} {env : Env} {S : Sto} (h : qS fs ct s { D with nx := fun env' S' => qB fs ct ss D E env' S' } E env S) : qB fs ct (.cons s ss) D E env S := by
  rw [qB_cons]
  exact h
theorem stfz {fs : Nat → FS} {ct : CT} {j : Nat} {ss : CSs} {D : WD} {E : PX} {env : Env} {S : Sto} (h : wFz j (qB fs ct ss) D E env S) : qB fs ct (.fz j ss) D E env S := by
  rw [qB_fz]
  exact h
theorem wpB_nil {fs : Nat → FS} {ct : CT} {D : WD} {E : PX} {env : Env} {S : Sto} : qB fs ct .nil D E env S = D.nx env S := by
  rw [qB_nil]
  rfl
section
variable {P : Program} {w : World} {K : PySem.W.Frag} {mg : Str → Option Value} {base : Heap} {fs : Nat → FS} {ct : CT} {r : RowD} {j : Nat} {d : DefC} {st : Stmt} {mk : Bool}
theorem Keeps.nextQ (Kp : Keeps P w K mg base fs ct r j) (M : ModOk K mg base ct r) (ht : noT r j = true) (hn : r.nm[j]? = some (d.name, some d.ps.length)) (S : Stands K mg d.name d.ps st) (hc : chkD r j mk false d st = true) (h0 : ct.th = none)
    (hg : ∀ ws S EX R, ws.length = d.ps.length → fs j ws S EX R → wDef (qB fs ct d.body) d.N.length ws S EX R) : Keeps P w K mg base fs ct r (j + 1) :=
  Kp.next M ht hn S hc h0 fun ws S EX R h1 h2 => by
    have z := hg ws S EX R h1 h2
    rw [qB_wp] at z
    exact z
theorem Keeps.nextSQ {qs : List Str} {pv : Str} {f : Addr} {fd : FuncData} (Kp : Keeps P w K mg base fs ct r j) (M : ModOk K mg base ct r) (ht : noT r j = true) (hn : r.nm[j]? = some (d.name, none)) (h1 : mg d.name = some (.ref f))
    (h2 : FunD K d.name d.name (defArgs st) (defBody st) (defScope st) [] [] f fd) (hb : BindS qs pv st) (hp : d.ps = qs ++ [pv]) (hc : chkD r j mk false d st = true) (h0 : ct.th = none)
    (hg : ∀ ws S EX R, fs j ws S EX R → ∃ a ts, ws = a ++ ts.map W.t ∧ a.length = qs.length ∧ ts.length ≤ sizeLine ∧ wDef (qB fs ct d.body) d.N.length (a ++ [.t (.tup ts)]) S EX R) : Keeps P w K mg base fs ct r (j + 1) :=
  Kp.nextS M ht hn h1 h2 hb hp hc h0 fun ws S EX R h => by
    obtain ⟨a, ts, e, h3, h4, z⟩ := hg ws S EX R h
    rw [qB_wp] at z
    exact ⟨a, ts, e, h3, h4, z⟩
theorem Keeps.nextTQ {i : Nat} {a x : Str} {on : Option Nat} (i0 : Nat) (Kp : Keeps P w K mg base fs ct r j) (M : ModOk K mg base ct r) (hi0 : i0 < j) (hn0 : r.nm[i0]? = some (x, on)) (hn : r.nm[j]? = some (x, on)) (e0 : fs j = fs i0) (hi : r.nt[i]? = some (d.name, j)) (hu : ∀ m y, r.nt[m]? = some (y, j) → m = i)
    (S : Stands K mg d.name [a] st) (hp : d.ps = [a]) (hc : chkD r j mk true d st = true)
    (hg : ∀ m th S EX R, ct.ft i th [.ref m] S EX R → wDef (qB fs { ct with th := some (m, clT th) } d.body) d.N.length [.ref m] S EX R) : Keeps P w K mg base fs ct r (j + 1) := by
  obtain ⟨f, fd, dvs, kws, h1, h2, h3⟩ := S.ex
  exact Kp.nextT i0 M hi0 hn0 hn e0 hi hu h1 h2 h3 hp hc fun m th S EX R h => by
    have z := hg m th S EX R h
    rw [qB_wp] at z
    exact z
end
theorem wActC_some {j i : Nat} {th : FS} : wActC (some (j, th)) i = wAct i j th := rfl
theorem cutW_t {x : T} {n : Nat} {S : Sto} : cutW (.t x) n S = S.take n := by rw [cutW]
theorem cutW_tS {x : T} {S : Sto} : cutW (.t x) S.length S = S := by rw [cutW_t, List.take_length]
theorem cutW_ref {i : Nat} {n : Nat} {S : Sto} : cutW (.ref i) n S = S := by rw [cutW]
theorem cutW_tw {ws : List (T ⊕ Nat)} {n : Nat} {S : Sto} : cutW (.tw ws) n S = S := by rw [cutW]
theorem BT.name_inj : ∀ {a b : BT}, a.name = b.name → a = b := by
  intro a b h
  cases a <;> cases b <;> first | rfl | exact absurd h (by decide)
theorem oIsi2_ty {a : T} {b : BT} {k : T → Prop} : oIsi2 a (.ty b.name) k = oIsi b a k := propext ⟨fun ⟨c, e, h⟩ => by rw [BT.name_inj e]; exact h, fun h => ⟨b, rfl, h⟩⟩
/-- isinstance, where it has an answer -/
theorem oIsi_some {a : T} {b : BT} {k : T → Prop} {c : Bool} (h : isiT a b = some c) : oIsi b a k = k (.bl c) := by unfold oIsi; rw [h]; rfl
theorem okT_some {t : T} {k : T → Prop} : okT (some t) k = k t := rfl
theorem okB_some {t : Bool} {k : T → Prop} : okB (some t) k = k (.bl t) := rfl
theorem okT_of_eq {o : Option T} {t : T} {k : T → Prop} (h : o = some t) : okT o k = k t := by rw [h]; rfl
theorem oLen_of {t : T} {n : Nat} {k : T → Prop} (h : lenT t = some n) : oLen t k = k (.int n) := by unfold oLen; rw [h]
theorem vw_ref {S : Sto} {ws : List W} {ts : List T} {k : List T → Prop} (h : views S ws = some ts) : vw S ws k = k ts := by unfold vw; rw [h]
theorem vw_0 {S : Sto} {k : List T → Prop} : vw S [] k = k [] := rfl
theorem vw_t1 {S : Sto} {a : T} {k : List T → Prop} : vw S [.t a] k = k [a] := rfl
theorem vw_t2 {S : Sto} {a b : T} {k : List T → Prop} : vw S [.t a, .t b] k = k [a, b] := rfl
theorem view_lst {S : Sto} {i : Nat} {xs : List T} (h : S[i]? = some (.lst xs)) : view S (.ref i) = some (.lst xs) := by
  show viewM S[i]? = _
  rw [h]
  rfl
theorem vw_r1 {S : Sto} {i : Nat} {xs : List T} {k : List T → Prop} (h : S[i]? = some (.lst xs)) : vw S [.ref i] k = k [.lst xs] := by
  apply vw_ref
  unfold views
  rw [view_lst h]
  rfl
theorem vw_rt {S : Sto} {i : Nat} {xs : List T} {b : T} {k : List T → Prop} (h : S[i]? = some (.lst xs)) : vw S [.ref i, .t b] k = k [.lst xs, b] := by
  apply vw_ref
  unfold views
  rw [view_lst h]
  rfl
theorem vw_tr {S : Sto} {i : Nat} {xs : List T} {b : T} {k : List T → Prop} (h : S[i]? = some (.lst xs)) : vw S [.t b, .ref i] k = k [b, .lst xs] := by
  apply vw_ref
  unfold views views
  rw [view_lst h]
  rfl
theorem dw_nil {k : List T → Prop} : dw [] k = k [] := rfl
theorem dw_t {a : T} {ws : List W} {k : List T → Prop} : dw (.t a :: ws) k = dw ws fun ts => k (a :: ts) := by
  unfold dw
  show (match (match datas ws with | some ts => some (a :: ts) | none => none) with | some ts => k ts | none => False) = _
  cases datas ws <;> rfl
theorem viewM_lst {xs : List T} : viewM (some (.lst xs)) = some (.lst xs) := rfl
theorem oEq_ii {i j : Int} {k : T → Prop} : oEq (.int i) (.int j) k = k (.bl (decide (i = j))) := by
  rw [oEq_eq (by rfl) (by rfl)]
  unfold eqB
  rfl
theorem oNe_ii {i j : Int} {k : T → Prop} : oNe (.int i) (.int j) k = k (.bl (!decide (i = j))) := by
  rw [oNe_eq (by rfl) (by rfl)]
  unfold eqB
  rfl
theorem oIs_bb {a b : Bool} {k : T → Prop} : oIs (.bl a) (.bl b) k = k (.bl (decide (a = b))) := rfl
theorem oIsNot_bb {a b : Bool} {k : T → Prop} : oIsNot (.bl a) (.bl b) k = k (.bl (!decide (a = b))) := rfl
theorem oIs_n {a : T} {k : T → Prop} : oIs a .non k = k (.bl a.isNon) := by
  cases a <;> rfl
theorem oIsNot_n {a : T} {k : T → Prop} : oIsNot a .non k = k (.bl (!a.isNon)) := by
  cases a <;> rfl
mutual
theorem eqB_self : ∀ t : T, t.pl = true → eqB t t = true
  | .non, _ => rfl
  | .bl b, _ => by unfold eqB; exact beq_self_eq_true b
  | .int i, _ => by unfold eqB; exact beq_self_eq_true i
  | .str x, _ => by unfold eqB; exact beq_self_eq_true x
  | .tup xs, h => by unfold eqB; unfold T.pl at h; exact eqBs_self xs h
  | .lst xs, h => by unfold eqB; unfold T.pl at h; exact eqBs_self xs h
  | .scr ns, _ => by unfold eqB; exact beq_self_eq_true ns
  | .ty _, h => by unfold T.pl at h; cases h
  | .glb _, h => by unfold T.pl at h; cases h
  | .emp, h => by unfold T.pl at h; cases h
  | .exc _, h => by unfold T.pl at h; cases h
  | .exc1 _ _ _, h => by unfold T.pl at h; cases h
theorem eqBs_self : ∀ ts : List T, T.pls ts = true → eqBs ts ts = true
  | [], _ => rfl
  | t :: ts, h => by
    unfold T.pls at h
    rw [Bool.and_eq_true] at h
    unfold eqBs
    show (eqB t t && eqBs ts ts) = true
    rw [eqB_self t h.1, eqBs_self ts h.2]
    rfl
end
theorem oEq_self {t : T} {k : T → Prop} (h : t.ok = true) : oEq t t k = k (.bl true) := by
  rw [oEq_eq h h, eqB_self t]
  unfold T.ok at h
  rw [Bool.and_eq_true] at h
  exact h.1
theorem oNe_self {t : T} {k : T → Prop} (h : t.ok = true) : oNe t t k = k (.bl false) := by
  rw [oNe_eq h h, eqB_self t]
  · rfl
  · unfold T.ok at h
    rw [Bool.and_eq_true] at h
    exact h.1
theorem oNe_no {a b : T} {k : T → Prop} (ha : a.ok = true) (hb : b.ok = true) (h : eqB a b = true) : oNe a b k = k (.bl false) := by
  rw [oNe_eq ha hb, h]
  rfl
theorem oEq_yes {a b : T} {k : T → Prop} (ha : a.ok = true) (hb : b.ok = true) (h : eqB a b = true) : oEq a b k = k (.bl true) := by
  rw [oEq_eq ha hb, h]
theorem oMul_l3 {t : T} {k : T → Prop} : oMul (.lst [t]) (.int 3) k = k (.lst [t, t, t]) :=
  propext ⟨fun h => h.2.2.2, fun h => ⟨by decide, by decide, (by show 3 ≤ sizeLine; decide), h⟩⟩
theorem oLen_tup {xs : List T} {k : T → Prop} : oLen (.tup xs) k = k (.int xs.length) := rfl
theorem oLen_lst {xs : List T} {k : T → Prop} : oLen (.lst xs) k = k (.int xs.length) := rfl
theorem oLen_scr {xs : List Int} {k : T → Prop} : oLen (.scr xs) k = k (.int xs.length) := rfl
theorem oLt_ii {i j : Int} {k : T → Prop} : oLt (.int i) (.int j) k = k (.bl (decide (i < j))) := rfl
theorem oLe_ii {i j : Int} {k : T → Prop} : oLe (.int i) (.int j) k = k (.bl (decide (i ≤ j))) := rfl
theorem oGt_ii {i j : Int} {k : T → Prop} : oGt (.int i) (.int j) k = k (.bl (decide (j < i))) := rfl
theorem oGe_ii {i j : Int} {k : T → Prop} : oGe (.int i) (.int j) k = k (.bl (decide (j ≤ i))) := rfl
theorem oAdd_ii {i j : Int} {k : T → Prop} : oAdd (.int i) (.int j) k = k (.int (i + j)) := rfl
theorem oAugAdd_ii {i j : Int} {k : T → Prop} : oAugAdd (.int i) (.int j) k = k (.int (i + j)) := rfl
theorem oSub_ii {i j : Int} {k : T → Prop} : oSub (.int i) (.int j) k = k (.int (i - j)) := rfl
theorem oMul_ii {i j : Int} {k : T → Prop} : oMul (.int i) (.int j) k = (CMulW i j ∧ k (.int (i * j))) := rfl
theorem oMod_ii {i j : Int} {k : T → Prop} : oMod (.int i) (.int j) k = (0 < j ∧ k (.int (i % j))) := rfl
theorem oDiv_ii {i j : Int} {k : T → Prop} : oDiv (.int i) (.int j) k = (CDivW i j ∧ k (.int (i / j))) := rfl
theorem oPow_ii {i j : Int} {k : T → Prop} : oPow (.int i) (.int j) k = (CPow i j ∧ k (.int (i ^ j.toNat))) := rfl
theorem oNeg_i {i : Int} {k : T → Prop} : oNeg (.int i) k = k (.int (-i)) := rfl
theorem oAbs_i {i : Int} {k : T → Prop} : oAbs (.int i) k = k (.int (if i < 0 then -i else i)) := rfl
theorem oMax_ii {i j : Int} {k : T → Prop} : oMax (.int i) (.int j) k = k (.int (if j > i then j else i)) := rfl
theorem oMin_ii {i j : Int} {k : T → Prop} : oMin (.int i) (.int j) k = k (.int (if j < i then j else i)) := rfl
theorem oAdd_ll {i j : List T} {k : T → Prop} : oAdd (.lst i) (.lst j) k = (i.length + j.length ≤ sizeLine ∧ k (.lst (i ++ j))) := rfl
theorem oAdd_tt {i j : List T} {k : T → Prop} : oAdd (.tup i) (.tup j) k = (i ≠ [] ∧ i.length + j.length ≤ sizeLine ∧ k (.tup (i ++ j))) := rfl
theorem oAdd_ss {i j : Str} {k : T → Prop} : oAdd (.str i) (.str j) k = (i.length + j.length ≤ sizeLine ∧ k (.str (i ++ j))) := rfl
theorem oTuple_l {xs : List T} {k : T → Prop} : oTuple (.lst xs) k = k (.tup xs) := rfl
theorem oTuple_t {xs : List T} {k : T → Prop} : oTuple (.tup xs) k = k (.tup xs) := rfl
theorem oStr_i {i : Int} {k : T → Prop} : oStr (.int i) k = (i.natAbs.log2 < 1920 ∧ k (.str (toString i))) := rfl
theorem take_set {S : Sto} {i : Nat} {m : MO} : List.take (List.length S) (List.set S i m) = List.set S i m := List.take_of_length_le (by rw [List.length_set]; exact Nat.le_refl _)
theorem take_push {S : Sto} {L : List MO} : List.take (List.length S) (S ++ L) = S := by simp
theorem take_set_push {S : Sto} {i : Nat} {m : MO} {L : List MO} : List.take (List.length S) (List.set S i m ++ L) = List.set S i m := by
  rw [List.take_append_of_le_length (by rw [List.length_set]; exact Nat.le_refl _)]
  exact take_set
theorem ixN_lit {n : Nat} {i : Nat} (h : i < n) : ixN n (i : Int) = some i := by
  unfold ixN
  rw [if_pos (by omega), if_pos (by omega)]
  rfl
theorem ix_lst {xs : List T} {i : Int} {t : T} (h0 : 0 ≤ i) (h : xs[i.toNat]? = some t) {k : T → Prop} : oIx (.lst xs) (.int i) k = k t := by
  obtain ⟨n, rfl⟩ := Int.eq_ofNat_of_zero_le h0
  have hl : n < xs.length := (List.getElem?_eq_some_iff.mp h).1
  show okT ((ixN xs.length (n : Int)).bind fun j => xs[j]?) k = _
  rw [ixN_lit hl]
  show okT (xs[n]?) k = _
  rw [show xs[n]? = some t from h]
  rfl
theorem ix_tup {xs : List T} {i : Int} {t : T} (h0 : 0 ≤ i) (h : xs[i.toNat]? = some t) {k : T → Prop} : oIx (.tup xs) (.int i) k = k t := by
  obtain ⟨n, rfl⟩ := Int.eq_ofNat_of_zero_le h0
  have hl : n < xs.length := (List.getElem?_eq_some_iff.mp h).1
  show okT ((ixN xs.length (n : Int)).bind fun j => xs[j]?) k = _
  rw [ixN_lit hl]
  show okT (xs[n]?) k = _
  rw [show xs[n]? = some t from h]
  rfl
theorem ix_scr {xs : List Int} {i : Int} {t : Int} (h0 : 0 ≤ i) (h : xs[i.toNat]? = some t) {k : T → Prop} : oIx (.scr xs) (.int i) k = k (.int t) := by
  obtain ⟨n, rfl⟩ := Int.eq_ofNat_of_zero_le h0
  have hl : n < xs.length := (List.getElem?_eq_some_iff.mp h).1
  show okT (((ixN xs.length (n : Int)).bind fun j => xs[j]?).map T.int) k = _
  rw [ixN_lit hl]
  show okT ((xs[n]?).map .int) k = _
  rw [show xs[n]? = some t from h]
  rfl
/-- a list of values, read at a drawn place -/
theorem ix_mem {xs : List T} {i : Int} (h0 : 0 ≤ i) (h : i < xs.length) {k : T → Prop} (hk : ∀ t ∈ xs, k t) : oIx (.lst xs) (.int i) k := by
  have hl : i.toNat < xs.length := by omega
  rw [ix_lst h0 (List.getElem?_eq_getElem hl)]
  exact hk _ (List.getElem_mem hl)
theorem ixT0 {a : T} {r : List T} {k : T → Prop} : oIx (.tup (a :: r)) (.int 0) k = k a := ix_tup (by decide) rfl
theorem ixT1 {a b : T} {r : List T} {k : T → Prop} : oIx (.tup (a :: b :: r)) (.int 1) k = k b := ix_tup (by decide) rfl
theorem ixT2 {a b c : T} {r : List T} {k : T → Prop} : oIx (.tup (a :: b :: c :: r)) (.int 2) k = k c := ix_tup (by decide) rfl
theorem ixT3 {a b c d : T} {r : List T} {k : T → Prop} : oIx (.tup (a :: b :: c :: d :: r)) (.int 3) k = k d := ix_tup (by decide) rfl
theorem ixL0 {a : T} {r : List T} {k : T → Prop} : oIx (.lst (a :: r)) (.int 0) k = k a := ix_lst (by decide) rfl
theorem ixL1 {a b : T} {r : List T} {k : T → Prop} : oIx (.lst (a :: b :: r)) (.int 1) k = k b := ix_lst (by decide) rfl
theorem ixL2 {a b c : T} {r : List T} {k : T → Prop} : oIx (.lst (a :: b :: c :: r)) (.int 2) k = k c := ix_lst (by decide) rfl
theorem ixL3 {a b c d : T} {r : List T} {k : T → Prop} : oIx (.lst (a :: b :: c :: d :: r)) (.int 3) k = k d := ix_lst (by decide) rfl
theorem log2_lt {n k : Nat} (hk : 0 < k) (h : n < 2 ^ k) : n.log2 < k := by
  by_cases h0 : n = 0
  · subst h0
    rw [Nat.log2_zero]
    exact hk
  · exact (Nat.log2_lt h0).mpr h
theorem mulW {i j : Int} {a b : Nat} (ha : 0 < a) (hb : 0 < b) (h : a + b ≤ 1000000) (hi : i.natAbs < 2 ^ a) (hj : j.natAbs < 2 ^ b) : CMulW i j := by
  have h1 := log2_lt ha hi
  have h2 := log2_lt hb hj
  unfold CMulW
  omega
theorem divW {i j : Int} {b : Nat} (hb : 0 < b) (h : b ≤ 9000) (h0 : 0 < j) (hj : j.natAbs < 2 ^ b) : CDivW i j := ⟨h0, Nat.lt_of_lt_of_le (log2_lt hb hj) h⟩
theorem forL_inv {step : T → WD → Env → Sto → Prop} {C : WD} (I : List T → Env → Sto → Prop) (h0 : ∀ env S, I [] env S → C.nx env S)
    (h1 : ∀ x xs env S (Kn : Env → Sto → Prop), I (x :: xs) env S → (∀ e s, I xs e s → Kn e s) → step x { C with nx := Kn, ct := Kn, bk := C.nx } env S) : ∀ xs env S, I xs env S → forL step C xs env S
  | [], env, S, h => h0 env S h
  | x :: xs, env, S, h => h1 x xs env S (forL step C xs) h fun e s q => forL_inv I h0 h1 xs e s q
theorem forL_nil {step : T → WD → Env → Sto → Prop} {C : WD} {env : Env} {S : Sto} : forL step C [] env S = C.nx env S := rfl
theorem compL_inv {step : T → Sto → (Option T → Sto → Prop) → Prop} {k : List T → Sto → Prop} (I : List T → List T → Sto → Prop) (h0 : ∀ acc S, I [] acc S → k acc S)
    (h1 : ∀ x xs acc S (Kn : Option T → Sto → Prop), I (x :: xs) acc S → (∀ t S3, S3.length = S.length → I xs (acc ++ [t]) S3 → Kn (some t) (S3 ++ [.lst acc])) → (∀ S3, S3.length = S.length → I xs acc S3 → Kn none (S3 ++ [.lst acc])) → acc.length < sizeLine → step x (S ++ [.lst acc]) Kn)
    : ∀ xs acc S, acc.length + xs.length ≤ sizeLine → I xs acc S → compL step xs acc S k
  | [], acc, S, _, h => h0 acc S h
  | x :: xs, acc, S, hl, h => by
    have hl' : acc.length < sizeLine := by rw [List.length_cons] at hl; omega
    refine h1 x xs acc S _ h (fun t S3 e q => ⟨S3, rfl, e, hl', ?_⟩) (fun S3 e q => ⟨S3, rfl, e, hl', ?_⟩) hl'
    · exact compL_inv I h0 h1 xs _ S3 (by rw [List.length_append, List.length_singleton]; rw [List.length_cons] at hl; omega) q
    · exact compL_inv I h0 h1 xs _ S3 (by rw [List.length_cons] at hl; omega) q
/-- a comprehension of values alone -/
theorem compL_pure {step : T → Sto → (Option T → Sto → Prop) → Prop} {k : List T → Sto → Prop} (f : T → Option T) : ∀ (xs acc : List T) (S : Sto), acc.length + xs.length ≤ sizeLine →
    (∀ x ∈ xs, ∀ (S' : Sto) (Kn : Option T → Sto → Prop), Kn (f x) S' → step x S' Kn) → k (acc ++ xs.filterMap f) S → compL step xs acc S k
  | [], acc, S, _, _, h => by
    rw [List.filterMap_nil, List.append_nil] at h
    exact h
  | x :: xs, acc, S, hl, hs, h => by
    rw [List.length_cons] at hl
    refine hs x (by simp) _ _ ⟨S, rfl, rfl, by omega, ?_⟩
    cases e : f x with
    | none =>
      rw [List.filterMap_cons, e] at h
      exact compL_pure f xs acc S (by omega) (fun y hy => hs y (List.mem_cons_of_mem _ hy)) h
    | some t =>
      rw [List.filterMap_cons, e] at h
      refine compL_pure f xs _ S (by rw [List.length_append, List.length_singleton]; omega) (fun y hy => hs y (List.mem_cons_of_mem _ hy)) ?_
      rw [List.append_assoc]
      exact h
theorem pls_of : ∀ {l : List T}, (∀ x ∈ l, T.pl x = true) → T.pls l = true
  | [], _ => rfl
  | x :: l, h => by
    unfold T.pls
    rw [h x (by simp), pls_of fun y hy => h y (List.mem_cons_of_mem _ hy)]
    rfl
theorem dps_of {k : Nat} : ∀ {l : List T}, (∀ x ∈ l, T.dp x ≤ k) → T.dps l ≤ k
  | [], _ => Nat.zero_le _
  | x :: l, h => by
    unfold T.dps
    have h1 := h x (by simp)
    have h2 := dps_of (l := l) fun y hy => h y (List.mem_cons_of_mem _ hy)
    split <;> omega
theorem ok_lst {l : List T} (h : ∀ x ∈ l, T.pl x = true ∧ T.dp x ≤ 63) : (T.lst l).ok = true := by
  unfold T.ok T.pl T.dp
  rw [pls_of fun x hx => (h x hx).1, decide_eq_true (by have := dps_of (k := 63) fun x hx => (h x hx).2; omega)]
  rfl
theorem ok_tup {l : List T} (h : ∀ x ∈ l, T.pl x = true ∧ T.dp x ≤ 63) : (T.tup l).ok = true := by
  unfold T.ok T.pl T.dp
  rw [pls_of fun x hx => (h x hx).1, decide_eq_true (by have := dps_of (k := 63) fun x hx => (h x hx).2; omega)]
  rfl
structure Sm (d w : Nat) (t : T) : Prop where
  sh : t.sh = true
  pl : t.pl = true
  dp : t.dp ≤ d
  wt : t.wt ≤ w
  ty : t.tyN.isSome = true
theorem Sm.mono {d w d' w' : Nat} {t : T} (h : Sm d w t) (h1 : d ≤ d') (h2 : w ≤ w') : Sm d' w' t := ⟨h.sh, h.pl, Nat.le_trans h.dp h1, Nat.le_trans h.wt h2, h.ty⟩
theorem Sm.non {d w : Nat} (hw : 5 ≤ w) : Sm d w .non := ⟨rfl, rfl, Nat.zero_le _, hw, rfl⟩
theorem Sm.bl {d w : Nat} {b : Bool} (hw : 5 ≤ w) : Sm d w (.bl b) := ⟨rfl, rfl, Nat.zero_le _, hw, rfl⟩
theorem Sm.int {d w k : Nat} {i : Int} (hi : i.natAbs < 2 ^ k) (hk : 0 < k) (hk2 : k ≤ 1920) (hw : k + 2 ≤ w) : Sm d w (.int i) := by
  have z := log2_lt hk hi
  refine ⟨?_, rfl, Nat.zero_le _, ?_, rfl⟩
  · unfold T.sh
    exact decide_eq_true (by omega)
  · unfold T.wt
    omega
theorem chr_ok {s : String} : ∀ c ∈ (Str.ofString s).cps.toList, c < 0x110000 := by
  intro c hc
  have h : (Str.ofString s).cps.toList = s.toList.map Char.toNat := by
    rw [Str.ofString_eq_toList]
  rw [h] at hc
  obtain ⟨x, _, rfl⟩ := List.mem_map.mp hc
  have := x.valid
  rcases this with q | q
  · exact Nat.lt_trans q (by decide)
  · exact q.2
theorem Sm.str {d w n : Nat} {s : String} (hs : s.length ≤ n) (hw : 10 * n + 2 ≤ w) : Sm d w (.str (Str.ofString s)) := by
  have z := StrLaws.reprText_len (Str.ofString s) fun c hc => Nat.lt_trans (chr_ok c hc) (by decide)
  rw [str_len] at z
  refine ⟨rfl, ?_, Nat.zero_le _, ?_, rfl⟩
  · unfold T.pl PyData.canLay0 PyData.strOk
    rw [Array.all_eq_true']
    intro c hc
    exact decide_eq_true (chr_ok c (by simpa using hc))
  · unfold T.wt
    omega
theorem Sm.nums {d w k : Nat} {i : Int} (hi : i.natAbs < 2 ^ k) (hw : 10 * k + 22 ≤ w) : Sm d w (.str (Str.ofString (toString i))) := by
  have z := int_text_length_le (a := i) (k := k + 1) (by omega) (log2_lt (by omega) (Nat.lt_of_lt_of_le hi (Nat.pow_le_pow_right (by decide) (by omega))))
  exact Sm.str z (by omega)
theorem Sm.all {d w : Nat} : ∀ {xs : List T}, (∀ x ∈ xs, Sm d w x) → T.shs xs = true ∧ T.pls xs = true ∧ T.dps xs ≤ d ∧ T.wts xs ≤ xs.length * (w + 2)
  | [], _ => ⟨rfl, rfl, Nat.zero_le _, Nat.zero_le _⟩
  | x :: xs, h => by
    obtain ⟨h1, h2, h3, h4⟩ := Sm.all (xs := xs) fun y hy => h y (List.mem_cons_of_mem _ hy)
    have q := h x (by simp)
    refine ⟨?_, ?_, ?_, ?_⟩
    · unfold T.shs
      rw [q.sh, h1]
      rfl
    · unfold T.pls
      rw [q.pl, h2]
      rfl
    · unfold T.dps
      have := q.dp
      split <;> omega
    · unfold T.wts
      have := q.wt
      rw [List.length_cons, Nat.add_mul, Nat.one_mul]
      omega
theorem Sm.tup {d w d' w' : Nat} {xs : List T} (h : ∀ x ∈ xs, Sm d w x) (hd : d + 1 ≤ d') (hw : xs.length * (w + 2) + 3 ≤ w') : Sm d' w' (.tup xs) := by
  obtain ⟨h1, h2, h3, h4⟩ := Sm.all h
  refine ⟨?_, ?_, ?_, ?_, rfl⟩
  · unfold T.sh
    exact h1
  · unfold T.pl
    exact h2
  · unfold T.dp
    omega
  · unfold T.wt
    omega
theorem Sm.lst {d w d' w' : Nat} {xs : List T} (h : ∀ x ∈ xs, Sm d w x) (hd : d + 1 ≤ d') (hw : xs.length * (w + 2) + 3 ≤ w') : Sm d' w' (.lst xs) := by
  obtain ⟨h1, h2, h3, h4⟩ := Sm.all h
  refine ⟨?_, ?_, ?_, ?_, rfl⟩
  · unfold T.sh
    exact h1
  · unfold T.pl
    exact h2
  · unfold T.dp
    omega
  · unfold T.wt
    omega
theorem Sm.prt {d w : Nat} {t : T} (h : Sm d w t) (hd : d ≤ 64) (hw : w ≤ 1000000) : t.prt = true := by
  unfold T.prt
  split
  · rfl
  · rw [h.sh, decide_eq_true (show t.dp ≤ 64 by have := h.dp; omega), decide_eq_true (show t.wt ≤ 1000000 by have := h.wt; omega)]
    rfl
theorem Sm.ok {d w : Nat} {t : T} (h : Sm d w t) (hd : d ≤ 64) : t.ok = true := by
  unfold T.ok
  rw [h.pl, decide_eq_true (show t.dp ≤ 64 by have := h.dp; omega)]
  rfl
theorem all_nil {p : T → Prop} : ∀ x ∈ ([] : List T), p x := fun _ h => nomatch h
theorem all_cons {p : T → Prop} {a : T} {l : List T} (h1 : p a) (h2 : ∀ x ∈ l, p x) : ∀ x ∈ a :: l, p x := fun x hx => by
  rcases List.mem_cons.mp hx with e | e
  · rw [e]
    exact h1
  · exact h2 x e
theorem mem_rngL {lo : Int} {n : Nat} {x : T} (h : x ∈ rngL lo n) : ∃ i : Int, x = .int i ∧ lo ≤ i ∧ i < lo + n := by
  unfold rngL at h
  obtain ⟨i, hi, rfl⟩ := List.mem_map.mp h
  have := List.mem_range.mp hi
  exact ⟨_, rfl, by omega, by omega⟩
theorem rngL_length {lo : Int} {n : Nat} : (rngL lo n).length = n := by
  unfold rngL
  rw [List.length_map, List.length_range]
/-- a source: its counter at most n -/
def Src (n : Int) (m : MO) : Prop := ∃ a b c : Int, m = .lst [.int a, .int b, .int c] ∧ 0 ≤ b ∧ b ≤ n
theorem Src.mono {n n' : Int} {m : MO} (h : Src n m) (hn : n ≤ n') : Src n' m := by
  obtain ⟨a, b, c, e, h1, h2⟩ := h
  exact ⟨a, b, c, e, h1, by omega⟩
/-- _law_source(script, k) -/
def sp__law_source : FS := fun ws S _ R => ∃ ns k, ws = [.t (.scr ns), .t (.int k)] ∧ 0 ≤ k ∧ k ≤ 1000 ∧ ∀ m, Src 3000 m → R (.ref S.length) (S ++ [m])
/-- _law_next(source, many) -/
def sp__law_next : FS := fun ws S _ R => ∃ i m n q, ws = [.ref i, .t (.int q)] ∧ S[i]? = some m ∧ Src n m ∧ n ≤ 1000000000 ∧ 0 < q ∧ q.natAbs.log2 < 9000 ∧ ∀ r m', 0 ≤ r → r < q → Src (n + 1) m' → R (.t (.int r)) (S.set i m')
theorem push_get {S : Sto} {m : MO} : (S ++ [m])[S.length]? = some m := by simp
theorem gs {S : Sto} {i : Nat} {m m' : MO} (h : S[i]? = some m) : (S.set i m')[i]? = some m' := by
  rw [List.getElem?_set_self (List.getElem?_eq_some_iff.mp h).1]
theorem set_same {S : Sto} {i : Nat} {m : MO} (h : S[i]? = some m) : S.set i m = S := by
  apply List.ext_getElem?
  intro j
  by_cases e : i = j
  · subst e
    rw [gs h, h]
  · rw [List.getElem?_set_ne e]
theorem sp_next {S : Sto} {EX : T → Sto → Prop} {R : KW} {i : Nat} {m : MO} {n q : Int} (hm : S[i]? = some m) (hs : Src n m) (hn : n ≤ 1000000000) (hq : 0 < q) (hb : q.natAbs < 2 ^ 8000) (k : ∀ r m', 0 ≤ r → r < q → Src (n + 1) m' → R (.t (.int r)) (S.set i m')) : sp__law_next [.ref i, .t (.int q)] S EX R :=
  ⟨i, m, n, q, rfl, hm, hs, hn, hq, Nat.lt_of_lt_of_le (log2_lt (by decide) hb) (by decide), k⟩
end Tw
set_option Elab.async false
set_option linter.all false
set_option maxRecDepth 100000
set_option maxHeartbeats 2000000
namespace Tw
set_option hygiene false in
local macro_rules | `(tactic| simp! only [$ls,*]) => `(tactic| try simp only [wDef, Tw.wpB_nil, qE_slot, qE_int, qE_str, qE_bl, qE_non, qE_cst, qE_ty, qE_tup, qE_lst, qE_emp, qE_bin, qE_neg, qE_cmp, qE_chn, qE_nt, qE_and, qE_or, qE_ite, qE_idx, qE_call, qE_b1, qE_b2, qE_lstOf, qE_app, qE_pop, qE_op, qL_nil, qL_cons, qI_op, oxW, ixW, b1xG, rzK, z1, z2, wZ1, wZ2, wSl2, wSlA, wSlB, wJoin, wIndex, wIndexT, isLW_t, isTW_t, wPopAt, wiEnum, wiZip, wiRng3, qE_comp, qE_compI, qA_nil, qA_cons, qAnd_nil, qAnd_cons1, qAnd_cons2, qOr_nil, qOr_cons1, qOr_cons2, qI_lst, qI_tup, qI_str, qI_rng1, qI_rng2, qG_nm, qG_tp, qGs_nil, qGs_cons, qS_asg, qS_asgC, qS_par, qS_par3, qS_aug, qS_setI, qS_ex, qS_iff, qS_fr, qS_whl, qS_ret, qS_retN, qS_brk, qS_cnt, qS_pas, qS_nev, qS_tryN, wTryN, qE_glb, qE_act, qE_callL, qS_raise0, qS_raise1, qS_tryAs, qS_tryNo, wRaise0, wRaise1, wTryAs, wTryNo, wActC_some, wAct, wCallL, wFld, wSeq, wNext, wAsg, wPar, wPar3, wAug, wSetI, wEx, wIf, wRet, wRetN, wBrk, wCnt, wNev, wFor, wiLst, wiTup, wiRng1, wiRng2, wComp, wSlot, wC, wOp1, wOp2, wB, waNil, waCons, wTup, wLst, mkL, wAnd, wOr, wNot, wIte, wChn, wCall, wApp, wPop, wLstOf, wEmp, wArity, CEs.len, gNm, gTp, gsNil, gsCons, gE, vw_0, vw_t1, vw_t2, dw_nil, dw_t, g1, g2, opG, auG, cmG, b1G, b2G, wBlIf_t, wBlIf_f, wBlIf_nt, cutW_tS, cutW_t, cutW_ref, okB, okT, W.t.injEq, Tw.T.bl.injEq, Tw.T.int.injEq, Tw.T.tup.injEq, Tw.T.lst.injEq, Tw.T.str.injEq, Tw.T.scr.injEq, W.ref.injEq, exists_eq_left', exists_eq_left, List.map_cons, List.map_nil, List.length_cons, List.length_nil, List.cons_append, List.nil_append, List.replicate_succ, List.replicate_zero, List.set_cons_zero, List.set_cons_succ, Nat.add_sub_cancel, Nat.sub_self, List.cons.injEq, and_true, true_and, Nat.reduceAdd, Nat.reduceSub, List.getElem?_cons_zero, List.getElem?_cons_succ, wYes, wipeE, List.take_length, oIsi2_ty, List.singleton_append, exists_const, sizeLine_eq, Nat.zero_le, Nat.reduceLeDiff, List.set_set, Int.reduceToNat, Int.reducePow, oEq_ii, oNe_ii, oIs_bb, oIsNot_bb, oIs_n, oIsNot_n, oLen_tup, oLen_lst, oLen_scr, oLt_ii, oLe_ii, oGt_ii, oGe_ii, oAdd_ii, oAugAdd_ii, oSub_ii, oMul_ii, oMod_ii, oDiv_ii, oPow_ii, oNeg_i, oAbs_i, oMax_ii, oMin_ii, oAdd_ll, oAdd_tt, oAdd_ss, oTuple_l, oTuple_t, oEq_str, oNe_str, beq_self_eq_true, Bool.not_true, Bool.not_false, take_set, take_push, take_set_push, oStr_i, ixT0, ixT1, ixT2, ixT3, ixL0, ixL1, ixL2, ixL3, $ls,*])
open PySem PySem.Spec PyProof.Rows L2
def l_law_source_b : CSs := (.cons (.asg (.nm 2) (.ite (.cmp .NotEq (.slot 0) (.lst false .nil)) (.idx (.slot 0) (.bin .Mod (.slot 1) (.b1 .len (.slot 0)))) (.int 1))) (.cons (.ret (.lst true (.cons (.slot 2) (.cons (.bin .Mult (.int 3) (.slot 1)) (.cons (.ite (.cmp .GtE (.slot 2) (.bin .Pow (.int 10) (.int 18))) (.bin .FloorDiv (.slot 2) (.bin .Pow (.int 10) (.int 18))) (.int 0)) .nil))))) .nil))
def dl__law_source : DefC := ⟨"_law_source", ["_law_script", "_law_k", "_law_cell"], ["_law_script", "_law_k"], l_law_source_b⟩
def l_law_next_1t_b : CSs := (.cons (.asg (.nm 2) (.bin .Mod (.idx (.slot 0) (.int 2)) (.slot 1))) (.cons (.setI (.slot 0) (.int 2) (.bin .FloorDiv (.idx (.slot 0) (.int 2)) (.slot 1))) (.cons (.ret (.slot 2)) .nil)))
def l_law_next_b : CSs := (.cons (.iff (.cmp .Gt (.idx (.slot 0) (.int 2)) (.int 0)) l_law_next_1t_b .nil) (.cons (.setI (.slot 0) (.int 1) (.bin .Add (.idx (.slot 0) (.int 1)) (.int 1))) (.cons (.asg (.nm 3) (.lst false (.cons (.int 2147483647) (.cons (.int 2147483629) (.cons (.int 2147483587) (.cons (.int 2147483579) (.cons (.int 2147483563) (.cons (.int 2147483549) (.cons (.int 2147483543) (.cons (.int 2147483497) .nil)))))))))) (.cons (.asg (.nm 4) (.idx (.bin .Add (.slot 3) (.lst false (.cons (.int 2147483489) (.cons (.int 2147483477) (.cons (.int 2147483423) .nil))))) (.bin .Mod (.idx (.slot 0) (.int 1)) (.int 11)))) (.cons (.ret (.bin .Mod (.bin .FloorDiv (.bin .Mod (.bin .Pow (.bin .Add (.bin .Add (.bin .Mod (.idx (.slot 0) (.int 0)) (.slot 4)) (.bin .Mult (.int 7919) (.idx (.slot 0) (.int 1)))) (.int 1)) (.int 5)) (.slot 4)) (.int 13)) (.slot 1))) .nil)))))
def dl__law_next : DefC := ⟨"_law_next", ["_law_source_here", "_law_many", "_law_found", "_law_primes", "_law_prime"], ["_law_source_here", "_law_many"], l_law_next_b⟩
theorem eq_nil {ns : List Int} : eqB (.scr ns) (.lst []) = ns.isEmpty := by
  unfold eqB
  cases ns <;> rfl
theorem gl__law_source {fs : Nat → FS} {ct : CT} : ∀ ws S EX R, ws.length = (dl__law_source).ps.length → sp__law_source ws S EX R → wDef (qB fs ct (dl__law_source).body) (dl__law_source).N.length ws S EX R := by
  rintro ws S EX R - ⟨ns, k, rfl, h0, h1, hR⟩
  (simp! only [dl__law_source])
  (refine Tw.st ?_; simp! only [])
  rw [oNe_eq (by rfl) (by rfl), eq_nil]
  (simp! only [])
  have fin : ∀ cell : Int, qB fs ct (CSs.cons (CS.ret (CE.lst true (CEs.cons (CE.slot 2) (CEs.cons (CE.bin Operator.Mult (CE.int 3) (CE.slot 1)) (CEs.cons ((CE.cmp CmpOp.GtE (CE.slot 2) (CE.bin Operator.Pow (CE.int 10) (CE.int 18))).ite
      (CE.bin Operator.FloorDiv (CE.slot 2) (CE.bin Operator.Pow (CE.int 10) (CE.int 18))) (CE.int 0)) CEs.nil))))) CSs.nil)
      { nx := fun x S' => R (W.t T.non) (List.take (List.length S) S'), rt := fun z S' => R z (cutW z (List.length S) S') }
      (fun x x_1 S' => EX x (List.take (List.length S) S')) [some (W.t (T.scr ns)), some (W.t (T.int k)), some (W.t (T.int cell))] S := fun cell => by
    (refine Tw.st ?_; simp! only [])
    refine ⟨mulW (a := 2) (b := 20) (by decide) (by decide) (by decide) (by decide) (by omega), ⟨by decide, by decide, by decide⟩, ?_⟩
    refine wBlIf_of (fun hc => ?_) fun hc => ?_
    · exact ⟨⟨by decide, by decide, by decide⟩, ⟨by decide, by decide⟩, hR _ ⟨_, _, _, rfl, by omega, by omega⟩⟩
    · exact hR _ ⟨_, _, _, rfl, by omega, by omega⟩
  refine wBlIf_of (fun hc => fin 1) fun hc => ?_
  have hne : ns ≠ [] := fun e => by
    rw [e] at hc
    cases hc
  have hp : 0 < ns.length := List.length_pos_iff.mpr hne
  have e1 := Int.emod_nonneg k (show (ns.length : Int) ≠ 0 by omega)
  have e2 := Int.emod_lt_of_pos k (show (0 : Int) < ns.length by omega)
  have hi : (k % (ns.length : Int)).toNat < ns.length := by omega
  refine ⟨by omega, ?_⟩
  rw [ix_scr e1 (List.getElem?_eq_getElem hi)]
  exact fin _
theorem gl__law_next {fs : Nat → FS} {ct : CT} : ∀ ws S EX R, ws.length = (dl__law_next).ps.length → sp__law_next ws S EX R → wDef (qB fs ct (dl__law_next).body) (dl__law_next).N.length ws S EX R := by
  rintro ws S EX R - ⟨i, m, n, q, rfl, hm, ⟨a, b, c, rfl, hb0, hb1⟩, hn, hq, hq2, hR⟩
  (simp! only [dl__law_next])
  (refine Tw.st ?_; simp! only [vw_rt hm, vw_r1 hm, hm])
  refine wBlIf_of (fun hc => ?_) fun hc => ?_
  · have hc := of_decide_eq_true hc
    (refine Tw.st ?_; simp! only [vw_rt hm, vw_r1 hm, hm])
    refine ⟨hq, ?_⟩
    (refine Tw.st ?_; simp! only [vw_rt hm, vw_r1 hm, hm])
    refine ⟨⟨hq, hq2⟩, i, _, 2, 2, _, rfl, hm, rfl, rfl, rfl, ?_⟩
    (refine Tw.st ?_; simp! only [])
    refine hR _ _ (Int.emod_nonneg _ (by omega)) (Int.emod_lt_of_pos _ hq) ⟨_, _, _, rfl, by omega, by omega⟩
  · (refine Tw.st ?_; simp! only [vw_rt hm, vw_r1 hm, hm])
    refine ⟨i, _, 1, 1, _, rfl, hm, rfl, rfl, rfl, ?_⟩
    have hm' := gs (m' := .lst [.int a, .int (b + 1), .int c]) hm
    (refine Tw.st ?_; simp! only [])
    (refine Tw.st ?_; simp! only [vw_rt hm', List.cons_append, List.nil_append])
    refine ⟨by decide, ix_mem (Int.emod_nonneg _ (by decide)) (show _ < ((11 : Nat) : Int) from Int.emod_lt_of_pos _ (by decide)) fun t ht => ?_⟩
    obtain ⟨p, rfl, hp1, hp2⟩ : ∃ p, t = .int p ∧ 1000000000 ≤ p ∧ p ≤ 2147483647 := by
      simp only [List.mem_cons, List.not_mem_nil, or_false] at ht
      rcases ht with rfl | rfl | rfl | rfl | rfl | rfl | rfl | rfl | rfl | rfl | rfl <;> exact ⟨_, rfl, by decide, by decide⟩
    (refine Tw.st ?_; simp! only [vw_rt hm'])
    have e1 := Int.emod_nonneg a (show p ≠ 0 by omega)
    have e2 := Int.emod_lt_of_pos a (show 0 < p by omega)
    refine ⟨by omega, mulW (a := 13) (b := 40) (by decide) (by decide) (by decide) (by decide) (by omega), ⟨by decide, by decide, by omega⟩, by omega, ⟨by decide, by decide⟩, hq, ?_⟩
    refine hR _ _ (Int.emod_nonneg _ (by omega)) (Int.emod_lt_of_pos _ hq) ⟨_, _, _, rfl, by omega, by omega⟩
theorem set_push {S : Sto} {m n : MO} : (S ++ [m]).set S.length n = S ++ [n] := by simp
theorem mt_1 {ns : List Str} {c f : Str} {x : T} {b : Bool} (h : mtE ns (.exc c) = some b) : mtE ns (.exc1 c f x) = some b := by
  have e : ∀ ns : List Str, mtE ns (.exc1 c f x) = mtE ns (.exc c) := by
    intro ns
    induction ns with
    | nil => rfl
    | cons n ns ih => unfold mtE; rw [ih]; rfl
  rw [e, h]
theorem isx_1 {c f : Str} {x : T} {n : Str} {b : Bool} {k : T → Prop} (h : mtE [n] (.exc c) = some b) : oIsx (.exc1 c f x) (.glb n) k = k (.bl b) := by
  show okB (mtE [n] (.exc1 c f x)) k = _
  rw [mt_1 h]
  rfl
theorem isx_0 {c n : Str} {b : Bool} {k : T → Prop} (h : mtE [n] (.exc c) = some b) : oIsx (.exc c) (.glb n) k = k (.bl b) := by
  show okB (mtE [n] (.exc c)) k = _
  rw [h]
  rfl
theorem isx_12 {c f : Str} {x : T} {n n' : Str} {b : Bool} {k : T → Prop} (h : mtE [n, n'] (.exc c) = some b) : oIsx (.exc1 c f x) (.tup [.glb n, .glb n']) k = k (.bl b) := by
  show okB (mtE [n, n'] (.exc1 c f x)) k = _
  rw [mt_1 h]
  rfl
theorem isx_02 {c n n' : Str} {b : Bool} {k : T → Prop} (h : mtE [n, n'] (.exc c) = some b) : oIsx (.exc c) (.tup [.glb n, .glb n']) k = k (.bl b) := by
  show okB (mtE [n, n'] (.exc c)) k = _
  rw [h]
  rfl
end Tw
set_option Elab.async false
set_option linter.all false
set_option maxRecDepth 100000
set_option maxHeartbeats 2000000
namespace Tw
open PySem PySem.Spec PyProof.Rows L2

structure Mx where
  a : Int
  b : Int
  c : Int
  d : Int
  deriving DecidableEq
namespace Mx
def t (m : Mx) : T := .tup [.tup [.int m.a, .int m.b], .tup [.int m.c, .int m.d]]
def det (m : Mx) : Int := m.a * m.d - m.b * m.c
def mul (x y : Mx) : Mx := ⟨x.a * y.a + x.b * y.c, x.a * y.b + x.b * y.d, x.c * y.a + x.d * y.c, x.c * y.b + x.d * y.d⟩
def neg (x : Mx) : Mx := ⟨-x.a, -x.b, -x.c, -x.d⟩
def pos (x : Mx) : Bool := decide (0 < x.c) || (decide (x.c = 0) && decide (0 < x.a))
def nrm (x : Mx) : Mx := if x.pos = true then x else x.neg
def adj (x : Mx) : Mx := ⟨x.d, -x.b, -x.c, x.a⟩
def one : Mx := ⟨1, 0, 0, 1⟩
/-- a matrix in the program's sense -/
def ok (x : Mx) : Prop := x.det = 1 ∧ x.nrm = x
instance (x : Mx) : Decidable x.ok := inferInstanceAs (Decidable (_ ∧ _))
def tm (x y : Mx) : Mx := (x.mul y).nrm
def inv (x : Mx) : Mx := x.adj.nrm
theorem ext' {x y : Mx} (h1 : x.a = y.a) (h2 : x.b = y.b) (h3 : x.c = y.c) (h4 : x.d = y.d) : x = y := by
  cases x; cases y; cases h1; cases h2; cases h3; cases h4; rfl
theorem neg_neg (x : Mx) : x.neg.neg = x := ext' (Int.neg_neg _) (Int.neg_neg _) (Int.neg_neg _) (Int.neg_neg _)
theorem nrm_cases (x : Mx) : x.nrm = x ∨ x.nrm = x.neg := by
  unfold nrm
  split
  · exact .inl rfl
  · exact .inr rfl
theorem det_neg (x : Mx) : x.neg.det = x.det := by
  unfold neg det
  show -x.a * -x.d - -x.b * -x.c = _
  rw [Int.neg_mul_neg, Int.neg_mul_neg]
theorem det_nrm (x : Mx) : x.nrm.det = x.det := by
  rcases nrm_cases x with e | e
  · rw [e]
  · rw [e, det_neg]
theorem det_mul (x y : Mx) : (x.mul y).det = x.det * y.det := by
  unfold mul det
  show (x.a * y.a + x.b * y.c) * (x.c * y.b + x.d * y.d) - (x.a * y.b + x.b * y.d) * (x.c * y.a + x.d * y.c) = (x.a * x.d - x.b * x.c) * (y.a * y.d - y.b * y.c)
  grind
theorem det_adj (x : Mx) : x.adj.det = x.det := by
  unfold adj det
  show x.d * x.a - -x.b * -x.c = _
  grind
theorem mul_assoc (x y z : Mx) : (x.mul y).mul z = x.mul (y.mul z) := by
  apply ext' <;> (unfold mul; grind)
theorem neg_mul (x y : Mx) : x.neg.mul y = (x.mul y).neg := by
  apply ext' <;> (unfold mul neg; grind)
theorem mul_neg (x y : Mx) : x.mul y.neg = (x.mul y).neg := by
  apply ext' <;> (unfold mul neg; grind)
theorem one_mul (x : Mx) : one.mul x = x := by
  apply ext' <;> (unfold mul one; grind)
theorem mul_one (x : Mx) : x.mul one = x := by
  apply ext' <;> (unfold mul one; grind)
theorem mul_adj (x : Mx) (h : x.det = 1) : x.mul x.adj = one := by
  unfold det at h
  apply ext' <;> (unfold mul adj one; grind)
theorem adj_mul (x : Mx) (h : x.det = 1) : x.adj.mul x = one := by
  unfold det at h
  apply ext' <;> (unfold mul adj one; grind)
theorem adj_adj (x : Mx) : x.adj.adj = x := by
  apply ext' <;> (unfold adj; grind)
theorem adj_neg (x : Mx) : x.neg.adj = x.adj.neg := by
  apply ext' <;> (unfold adj neg; grind)
theorem adj_mul_rev (x y : Mx) : (x.mul y).adj = y.adj.mul x.adj := by
  apply ext' <;> (unfold adj mul; grind)
theorem pos_neg {x : Mx} (h : x.det = 1) : x.neg.pos = !x.pos := by
  have hc : ¬ (x.a = 0 ∧ x.c = 0) := fun ⟨h1, h2⟩ => by
    unfold det at h
    rw [h1, h2] at h
    simp at h
  unfold pos neg
  show (decide (0 < -x.c) || (decide (-x.c = 0) && decide (0 < -x.a))) = !(decide (0 < x.c) || (decide (x.c = 0) && decide (0 < x.a)))
  by_cases h1 : 0 < x.c
  · rw [decide_eq_true h1, decide_eq_false (show ¬ 0 < -x.c by omega), decide_eq_false (show ¬ -x.c = 0 by omega)]
    rfl
  · by_cases h2 : x.c = 0
    · have h3 : x.a ≠ 0 := fun e => hc ⟨e, h2⟩
      rw [decide_eq_false h1, decide_eq_false (show ¬ 0 < -x.c by omega), decide_eq_true (show -x.c = 0 by omega), decide_eq_true h2]
      by_cases h4 : 0 < x.a
      · rw [decide_eq_true h4, decide_eq_false (show ¬ 0 < -x.a by omega)]
        rfl
      · rw [decide_eq_false h4, decide_eq_true (show 0 < -x.a by omega)]
        rfl
    · rw [decide_eq_false h1, decide_eq_true (show 0 < -x.c by omega), decide_eq_false h2]
      rfl
theorem nrm_neg {x : Mx} (h : x.det = 1) : x.neg.nrm = x.nrm := by
  unfold nrm
  rw [pos_neg h, neg_neg]
  cases x.pos <;> rfl
theorem nrm_nrm {x : Mx} (h : x.det = 1) : x.nrm.nrm = x.nrm := by
  rcases nrm_cases x with e | e
  · rw [e, e]
  · rw [e, nrm_neg h, e]
theorem ok_nrm {x : Mx} (h : x.det = 1) : x.nrm.ok := ⟨by rw [det_nrm, h], nrm_nrm h⟩
/-- two that part in the sign alone -/
theorem nrm_eq {x y : Mx} (h : x.det = 1) (e : y = x ∨ y = x.neg) : y.nrm = x.nrm := by
  rcases e with e | e
  · rw [e]
  · rw [e, nrm_neg h]
theorem tm_nrm_l {x y : Mx} (hx : x.det = 1) (hy : y.det = 1) : tm x.nrm y = tm x y := by
  unfold tm
  refine nrm_eq (by rw [det_mul, hx, hy]; rfl) ?_
  rcases nrm_cases x with e | e
  · rw [e]; exact .inl rfl
  · rw [e, neg_mul]; exact .inr rfl
theorem tm_nrm_r {x y : Mx} (hx : x.det = 1) (hy : y.det = 1) : tm x y.nrm = tm x y := by
  unfold tm
  refine nrm_eq (by rw [det_mul, hx, hy]; rfl) ?_
  rcases nrm_cases y with e | e
  · rw [e]; exact .inl rfl
  · rw [e, mul_neg]; exact .inr rfl
theorem inv_nrm {x : Mx} (hx : x.det = 1) : inv x.nrm = inv x := by
  unfold inv
  refine nrm_eq (by rw [det_adj, hx]) ?_
  rcases nrm_cases x with e | e
  · rw [e]; exact .inl rfl
  · rw [e, adj_neg]; exact .inr rfl
theorem det_tm {x y : Mx} (hx : x.det = 1) (hy : y.det = 1) : (tm x y).det = 1 := by
  unfold tm
  rw [det_nrm, det_mul, hx, hy]
  rfl
theorem det_mul1 {x y : Mx} (hx : x.det = 1) (hy : y.det = 1) : (x.mul y).det = 1 := by
  rw [det_mul, hx, hy]
  rfl
theorem ok_tm {x y : Mx} (hx : x.ok) (hy : y.ok) : (tm x y).ok := ok_nrm (det_mul1 hx.1 hy.1)
theorem ok_inv {x : Mx} (hx : x.ok) : (inv x).ok := ok_nrm (by rw [det_adj]; exact hx.1)
theorem ok_one : one.ok := ⟨rfl, rfl⟩
theorem tm_assoc {x y z : Mx} (hx : x.det = 1) (hy : y.det = 1) (hz : z.det = 1) : tm (tm x y) z = tm x (tm y z) := by
  show tm (x.mul y).nrm z = tm x (y.mul z).nrm
  rw [tm_nrm_l (det_mul1 hx hy) hz, tm_nrm_r hx (det_mul1 hy hz)]
  unfold tm
  rw [mul_assoc]
theorem one_tm {x : Mx} (hx : x.ok) : tm one x = x := by
  unfold tm
  rw [one_mul, hx.2]
theorem tm_one {x : Mx} (hx : x.ok) : tm x one = x := by
  unfold tm
  rw [mul_one, hx.2]
theorem tm_inv {x : Mx} (hx : x.det = 1) : tm x (inv x) = one := by
  unfold inv
  rw [tm_nrm_r hx (by rw [det_adj, hx])]
  unfold tm
  rw [mul_adj x hx]
  rfl
theorem inv_tm {x : Mx} (hx : x.det = 1) : tm (inv x) x = one := by
  unfold inv
  rw [tm_nrm_l (by rw [det_adj, hx]) hx]
  unfold tm
  rw [adj_mul x hx]
  rfl
theorem inv_inv {x : Mx} (hx : x.ok) : inv (inv x) = x := by
  show inv x.adj.nrm = x
  rw [inv_nrm (by rw [det_adj]; exact hx.1)]
  unfold inv
  rw [adj_adj, hx.2]
theorem det_inv {x : Mx} (hx : x.det = 1) : (inv x).det = 1 := by
  unfold inv
  rw [det_nrm, det_adj, hx]
theorem inv_of_tm {x y : Mx} (hx : x.det = 1) (hy : y.det = 1) : inv (tm x y) = tm (inv y) (inv x) := by
  show inv (x.mul y).nrm = tm y.adj.nrm x.adj.nrm
  rw [inv_nrm (det_mul1 hx hy), tm_nrm_l (by rw [det_adj, hy]) (by rw [det_nrm, det_adj, hx]), tm_nrm_r (by rw [det_adj, hy]) (by rw [det_adj, hx])]
  unfold inv tm
  rw [adj_mul_rev]
/-- entries of less than k bits -/
def bd (k : Nat) (x : Mx) : Prop := x.a.natAbs < 2 ^ k ∧ x.b.natAbs < 2 ^ k ∧ x.c.natAbs < 2 ^ k ∧ x.d.natAbs < 2 ^ k
theorem bd_mono {k j : Nat} {x : Mx} (h : x.bd k) (hk : k ≤ j) : x.bd j := by
  have z := Nat.pow_le_pow_right (n := 2) (by decide) hk
  obtain ⟨h1, h2, h3, h4⟩ := h
  exact ⟨Nat.lt_of_lt_of_le h1 z, Nat.lt_of_lt_of_le h2 z, Nat.lt_of_lt_of_le h3 z, Nat.lt_of_lt_of_le h4 z⟩
theorem bd_neg {k : Nat} {x : Mx} (h : x.bd k) : x.neg.bd k := by
  obtain ⟨h1, h2, h3, h4⟩ := h
  unfold neg bd
  refine ⟨?_, ?_, ?_, ?_⟩ <;> (rw [Int.natAbs_neg]; assumption)
theorem bd_nrm {k : Nat} {x : Mx} (h : x.bd k) : x.nrm.bd k := by
  rcases nrm_cases x with e | e
  · rw [e]; exact h
  · rw [e]; exact bd_neg h
theorem bd_adj {k : Nat} {x : Mx} (h : x.bd k) : x.adj.bd k := by
  obtain ⟨h1, h2, h3, h4⟩ := h
  unfold adj bd
  refine ⟨h4, ?_, ?_, h1⟩ <;> (rw [Int.natAbs_neg]; assumption)
theorem bd_inv {k : Nat} {x : Mx} (h : x.bd k) : (inv x).bd k := bd_nrm (bd_adj h)
theorem lt_two {p q r s : Int} {j k : Nat} (h1 : p.natAbs < 2 ^ j) (h2 : q.natAbs < 2 ^ k) (h3 : r.natAbs < 2 ^ j) (h4 : s.natAbs < 2 ^ k) : (p * q + r * s).natAbs < 2 ^ (j + k + 1) := by
  have e1 : (p * q).natAbs ≤ 2 ^ j * 2 ^ k := by
    rw [Int.natAbs_mul]
    exact Nat.mul_le_mul (Nat.le_of_lt h1) (Nat.le_of_lt h2)
  have e2 : (r * s).natAbs < 2 ^ j * 2 ^ k := by
    rw [Int.natAbs_mul]
    exact Nat.mul_lt_mul'' h3 h4
  have e3 : 2 ^ (j + k + 1) = 2 ^ j * 2 ^ k + 2 ^ j * 2 ^ k := by
    rw [Nat.pow_succ, Nat.pow_add]
    omega
  have e4 := Int.natAbs_add_le (p * q) (r * s)
  omega
theorem bd_mul {j k : Nat} {x y : Mx} (hx : x.bd j) (hy : y.bd k) : (x.mul y).bd (j + k + 1) := by
  obtain ⟨h1, h2, h3, h4⟩ := hx
  obtain ⟨g1, g2, g3, g4⟩ := hy
  unfold mul bd
  exact ⟨lt_two h1 g1 h2 g3, lt_two h1 g2 h2 g4, lt_two h3 g1 h4 g3, lt_two h3 g2 h4 g4⟩
theorem bd_tm {j k n : Nat} {x y : Mx} (hx : x.bd j) (hy : y.bd k) (h : j + k + 1 ≤ n) : (tm x y).bd n := bd_mono (bd_nrm (bd_mul hx hy)) h
theorem bd_one : one.bd 1 := by unfold one bd; decide
theorem nrm_p {m : Mx} (h : m.pos = true) : m.nrm = m := by
  unfold nrm
  rw [if_pos h]
theorem nrm_n {m : Mx} (h : m.pos = false) : m.nrm = m.neg := by
  unfold nrm
  rw [h]
  rfl
/-- the tests of a normal form, as they are written -/
theorem wb_pos {m : Mx} {A B : Prop} (h1 : m.pos = true → A) (h2 : m.pos = false → B) : wBlIf (decide (0 < m.c)) A (wBlIf (decide (m.c = 0)) (wBlIf (decide (0 < m.a)) A B) B) := by
  unfold pos at h1 h2
  cases e1 : decide (0 < m.c) <;> cases e2 : decide (m.c = 0) <;> cases e3 : decide (0 < m.a) <;> simp only [e1, e2, e3, wBlIf_t, wBlIf_f, Bool.or_true, Bool.or_false, Bool.true_or, Bool.and_true, Bool.and_false, Bool.or_self, Bool.and_self, forall_const] at h1 h2 ⊢ <;> first | exact h1 | exact h2
theorem t_ok (x : Mx) : x.t.ok = true := rfl
theorem t_def (x : Mx) : x.t = .tup [.tup [.int x.a, .int x.b], .tup [.int x.c, .int x.d]] := rfl
theorem eq_t (x y : Mx) : eqB x.t y.t = decide (x = y) := by
  obtain ⟨a, b, c, d⟩ := x
  obtain ⟨p, q, r, s⟩ := y
  unfold t
  simp only [eqB, eqBs, List.isEmpty_nil, Bool.and_true]
  by_cases h1 : a = p <;> by_cases h2 : b = q <;> by_cases h3 : c = r <;> by_cases h4 : d = s <;> simp [h1, h2, h3, h4]
def mpow (x : Mx) : Nat → Mx
  | 0 => one
  | n + 1 => tm (mpow x n) x
theorem mpow_ok {x : Mx} (h : x.ok) : ∀ n, (mpow x n).ok
  | 0 => ok_one
  | n + 1 => ok_tm (mpow_ok h n) h
theorem mpow_bd {x : Mx} {k : Nat} (h : x.bd k) : ∀ n, (mpow x n).bd (n * (k + 1) + 1)
  | 0 => bd_mono bd_one (by omega)
  | n + 1 => bd_tm (mpow_bd h n) h (by rw [Nat.add_mul]; omega)
theorem mpow_add {x : Mx} (h : x.ok) (a : Nat) : ∀ b, tm (mpow x a) (mpow x b) = mpow x (a + b)
  | 0 => tm_one (mpow_ok h a)
  | b + 1 => by
    show tm (mpow x a) (tm (mpow x b) x) = tm (mpow x (a + b)) x
    rw [← tm_assoc (mpow_ok h a).1 (mpow_ok h b).1 h.1, mpow_add h a b]
theorem mpow_one {x : Mx} (h : x.ok) : mpow x 1 = x := one_tm h
theorem mpow_sq {x : Mx} (h : x.ok) : ∀ n, mpow (tm x x) n = mpow x (2 * n)
  | 0 => rfl
  | n + 1 => by
    show tm (mpow (tm x x) n) (tm x x) = tm (tm (mpow x (2 * n)) x) x
    rw [mpow_sq h n, tm_assoc (mpow_ok h _).1 h.1 h.1]
theorem mpow_inv {x : Mx} (h : x.ok) : ∀ n, tm (mpow x n) (mpow (inv x) n) = one
  | 0 => rfl
  | n + 1 => by
    have hi := ok_inv h
    have e : tm (mpow (inv x) n) (inv x) = tm (inv x) (mpow (inv x) n) := by
      have h1 := mpow_add hi n 1
      have h2 := mpow_add hi 1 n
      rw [mpow_one hi] at h1 h2
      rw [h1, h2, Nat.add_comm]
    show tm (tm (mpow x n) x) (tm (mpow (inv x) n) (inv x)) = one
    rw [e, tm_assoc (mpow_ok h n).1 h.1 (ok_tm hi (mpow_ok hi n)).1, ← tm_assoc h.1 hi.1 (mpow_ok hi n).1, tm_inv h.1, one_tm (mpow_ok hi n), mpow_inv h n]
theorem inv_mpow {x : Mx} (h : x.ok) (n : Nat) : tm (mpow (inv x) n) (mpow x n) = one := by
  have z := mpow_inv (ok_inv h) n
  rw [inv_inv h] at z
  exact z
/-- powers with a sign -/
def zpow (x : Mx) (n : Int) : Mx := if 0 ≤ n then mpow x n.toNat else mpow (inv x) (-n).toNat
theorem zpow_ok {x : Mx} (h : x.ok) (n : Int) : (zpow x n).ok := by
  unfold zpow
  split
  · exact mpow_ok h _
  · exact mpow_ok (ok_inv h) _
theorem zpow_bd {x : Mx} {k : Nat} (h : x.bd k) (n : Int) : (zpow x n).bd (n.natAbs * (k + 1) + 1) := by
  unfold zpow
  split
  · rw [show n.natAbs = n.toNat by omega]
    exact mpow_bd h _
  · rw [show n.natAbs = (-n).toNat by omega]
    exact mpow_bd (bd_inv h) _
theorem mpow_sub {x : Mx} (h : x.ok) {a b : Nat} (hb : b ≤ a) : tm (mpow x a) (mpow (inv x) b) = mpow x (a - b) := by
  have e : mpow x a = tm (mpow x (a - b)) (mpow x b) := by
    rw [mpow_add h, show a - b + b = a by omega]
  rw [e, tm_assoc (mpow_ok h _).1 (mpow_ok h _).1 (mpow_ok (ok_inv h) _).1, mpow_inv h, tm_one (mpow_ok h _)]
theorem mpow_sub' {x : Mx} (h : x.ok) {a b : Nat} (hb : a ≤ b) : tm (mpow x a) (mpow (inv x) b) = mpow (inv x) (b - a) := by
  have e : mpow (inv x) b = tm (mpow (inv x) a) (mpow (inv x) (b - a)) := by
    rw [mpow_add (ok_inv h), show a + (b - a) = b by omega]
  rw [e, ← tm_assoc (mpow_ok h _).1 (mpow_ok (ok_inv h) _).1 (mpow_ok (ok_inv h) _).1, mpow_inv h, one_tm (mpow_ok (ok_inv h) _)]
theorem zpow_add {x : Mx} (h : x.ok) (a b : Int) : tm (zpow x a) (zpow x b) = zpow x (a + b) := by
  have hi := ok_inv h
  unfold zpow
  by_cases ha : 0 ≤ a
  · by_cases hb : 0 ≤ b
    · rw [if_pos ha, if_pos hb, if_pos (by omega), mpow_add h, show a.toNat + b.toNat = (a + b).toNat by omega]
    · rw [if_pos ha, if_neg hb]
      by_cases hs : 0 ≤ a + b
      · rw [if_pos hs, mpow_sub h (by omega), show a.toNat - (-b).toNat = (a + b).toNat by omega]
      · rw [if_neg hs, mpow_sub' h (by omega), show (-b).toNat - a.toNat = (-(a + b)).toNat by omega]
  · by_cases hb : 0 ≤ b
    · rw [if_neg ha, if_pos hb]
      have e : mpow x b.toNat = mpow (inv (inv x)) b.toNat := by rw [inv_inv h]
      rw [e]
      by_cases hs : 0 ≤ a + b
      · by_cases h0 : a + b = 0
        · rw [if_pos hs, mpow_sub hi (by omega), show (-a).toNat - b.toNat = 0 by omega, show (a + b).toNat = 0 by omega]
          rfl
        · rw [if_pos hs, mpow_sub' hi (by omega), inv_inv h, show b.toNat - (-a).toNat = (a + b).toNat by omega]
      · rw [if_neg hs, mpow_sub hi (by omega), show (-a).toNat - b.toNat = (-(a + b)).toNat by omega]
    · rw [if_neg ha, if_neg hb, if_neg (by omega), mpow_add hi, show (-a).toNat + (-b).toNat = (-(a + b)).toNat by omega]
def pw (x : Mx) : Nat → Mx
  | 0 => one
  | n + 1 => (pw x n).mul x
theorem pw_det {x : Mx} (h : x.det = 1) : ∀ n, (pw x n).det = 1
  | 0 => rfl
  | n + 1 => det_mul1 (pw_det h n) h
theorem mpow_pw {x : Mx} (h : x.det = 1) : ∀ n, mpow x n = (pw x n).nrm
  | 0 => rfl
  | n + 1 => by
    show tm (mpow x n) x = ((pw x n).mul x).nrm
    rw [mpow_pw h n, tm_nrm_l (pw_det h n) h]
    rfl
/-- the steps of the powers' entries -/
def chb (t : Int) : Nat → Int
  | 0 => 0
  | 1 => 1
  | n + 2 => t * chb t (n + 1) - chb t n
theorem pw_rec {x : Mx} (h : x.det = 1) (n : Nat) : pw x (n + 2) = ⟨(x.a + x.d) * (pw x (n + 1)).a - (pw x n).a, (x.a + x.d) * (pw x (n + 1)).b - (pw x n).b, (x.a + x.d) * (pw x (n + 1)).c - (pw x n).c, (x.a + x.d) * (pw x (n + 1)).d - (pw x n).d⟩ := by
  unfold det at h
  show ((pw x n).mul x).mul x = _
  show _ = (⟨(x.a + x.d) * ((pw x n).mul x).a - (pw x n).a, (x.a + x.d) * ((pw x n).mul x).b - (pw x n).b, (x.a + x.d) * ((pw x n).mul x).c - (pw x n).c, (x.a + x.d) * ((pw x n).mul x).d - (pw x n).d⟩ : Mx)
  generalize pw x n = y
  apply ext' <;> (unfold mul; grind)
theorem pw_chb {x : Mx} (h : x.det = 1) : ∀ n, (pw x n).b = chb (x.a + x.d) n * x.b ∧ (pw x n).c = chb (x.a + x.d) n * x.c ∧ (pw x n).a - (pw x n).d = chb (x.a + x.d) n * (x.a - x.d)
  | 0 => by
    show (0 : Int) = 0 * x.b ∧ (0 : Int) = 0 * x.c ∧ (1 : Int) - 1 = 0 * (x.a - x.d)
    omega
  | 1 => by
    have e : pw x 1 = x := one_mul x
    rw [e]
    show x.b = 1 * x.b ∧ x.c = 1 * x.c ∧ x.a - x.d = 1 * (x.a - x.d)
    omega
  | n + 2 => by
    obtain ⟨a1, a2, a3⟩ := pw_chb h n
    obtain ⟨b1, b2, b3⟩ := pw_chb h (n + 1)
    rw [pw_rec h n]
    show (x.a + x.d) * (pw x (n + 1)).b - (pw x n).b = ((x.a + x.d) * chb (x.a + x.d) (n + 1) - chb (x.a + x.d) n) * x.b ∧ (x.a + x.d) * (pw x (n + 1)).c - (pw x n).c = ((x.a + x.d) * chb (x.a + x.d) (n + 1) - chb (x.a + x.d) n) * x.c ∧
      ((x.a + x.d) * (pw x (n + 1)).a - (pw x n).a) - ((x.a + x.d) * (pw x (n + 1)).d - (pw x n).d) = ((x.a + x.d) * chb (x.a + x.d) (n + 1) - chb (x.a + x.d) n) * (x.a - x.d)
    rw [a1, a2, b1, b2]
    refine ⟨by grind, by grind, by grind⟩
theorem nrm_one_iff {x : Mx} (h : x.det = 1) : x.nrm = one ↔ (x.b = 0 ∧ x.c = 0 ∧ x.a - x.d = 0) := by
  constructor
  · intro e
    rcases nrm_cases x with q | q
    · rw [q] at e
      rw [e]
      exact ⟨rfl, rfl, rfl⟩
    · rw [q] at e
      have e2 := congrArg neg e
      rw [neg_neg] at e2
      rw [e2]
      exact ⟨rfl, rfl, rfl⟩
  · rintro ⟨h1, h2, h3⟩
    have h4 : x.a = x.d := by omega
    unfold det at h
    rw [h1, h2, ← h4] at h
    have h5 : x.a = 1 ∨ x.a = -1 := by
      have q : x.a * x.a = 1 := by simpa using h
      have e : (x.a - 1) * (x.a + 1) = 0 := by grind
      rcases Int.mul_eq_zero.mp e with z | z <;> omega
    unfold nrm pos neg one
    rcases h5 with q | q
    · rw [h2, q]
      apply ext' <;> simp [h1, h2, q, ← h4]
    · rw [h2, q]
      apply ext' <;> simp [h1, h2, q, ← h4]
/-- the order, as the program finds it -/
def ord (x : Mx) : Int := if x = one then 1 else if x.a + x.d = 0 then 2 else if (x.a + x.d).natAbs = 1 then 3 else 0
theorem mpow_one_iff {x : Mx} (h : x.ok) (n : Nat) (hn : x ≠ one) : mpow x n = one ↔ chb (x.a + x.d) n = 0 := by
  rw [mpow_pw h.1, nrm_one_iff (pw_det h.1 n)]
  obtain ⟨a1, a2, a3⟩ := pw_chb h.1 n
  rw [a1, a2, a3]
  constructor
  · rintro ⟨h1, h2, h3⟩
    by_cases z : chb (x.a + x.d) n = 0
    · exact z
    · exfalso
      apply hn
      have e := (nrm_one_iff h.1).mpr ⟨(Int.mul_eq_zero.mp h1).resolve_left z, (Int.mul_eq_zero.mp h2).resolve_left z, (Int.mul_eq_zero.mp h3).resolve_left z⟩
      rw [h.2] at e
      exact e
  · intro z
    rw [z]
    simp
theorem chb_lt {t : Int} (ht : 2 ≤ t.natAbs) : ∀ n, (chb t n).natAbs < (chb t (n + 1)).natAbs
  | 0 => by show 0 < 1; decide
  | n + 1 => by
    have ih := chb_lt ht n
    show (chb t (n + 1)).natAbs < (t * chb t (n + 1) - chb t n).natAbs
    have e1 : (t * chb t (n + 1)).natAbs = t.natAbs * (chb t (n + 1)).natAbs := Int.natAbs_mul ..
    have e2 : 2 * (chb t (n + 1)).natAbs ≤ t.natAbs * (chb t (n + 1)).natAbs := Nat.mul_le_mul_right _ ht
    omega
theorem chb_ne {t : Int} (ht : 2 ≤ t.natAbs) {n : Nat} (hn : 0 < n) : chb t n ≠ 0 := by
  obtain ⟨m, rfl⟩ : ∃ m, n = m + 1 := ⟨n - 1, by omega⟩
  have := chb_lt ht m
  intro e
  rw [e] at this
  omega
theorem one_mpow : ∀ n, mpow one n = one
  | 0 => rfl
  | n + 1 => by
    show tm (mpow one n) one = one
    rw [one_mpow n]
    rfl
/-- the exponents from 1 to 6 that lead to the identity -/
def tries (x : Mx) : List T := [1, 2, 3, 4, 5, 6].filterMap fun n : Nat => if mpow x n = one then some (T.int n) else none
theorem tries_ord {x : Mx} (h : x.ok) : (tries x = [] ∧ ord x = 0) ∨ ∃ r, tries x = .int (ord x) :: r := by
  unfold tries ord
  by_cases h1 : x = one
  · subst h1
    right
    simp only [one_mpow, if_true, List.filterMap_cons]
    exact ⟨_, rfl⟩
  · rw [if_neg h1]
    by_cases h2 : x.a + x.d = 0
    · rw [if_pos h2]
      right
      simp only [mpow_one_iff h _ h1, h2, List.filterMap_cons]
      exact ⟨_, rfl⟩
    · rw [if_neg h2]
      by_cases h3 : (x.a + x.d).natAbs = 1
      · rw [if_pos h3]
        right
        have e : x.a + x.d = 1 ∨ x.a + x.d = -1 := by omega
        rcases e with e | e
        · simp only [mpow_one_iff h _ h1, e, List.filterMap_cons]
          exact ⟨_, rfl⟩
        · simp only [mpow_one_iff h _ h1, e, List.filterMap_cons]
          exact ⟨_, rfl⟩
      · rw [if_neg h3]
        left
        have ht : 2 ≤ (x.a + x.d).natAbs := by omega
        refine ⟨?_, rfl⟩
        simp only [mpow_one_iff h _ h1, List.filterMap_cons, List.filterMap_nil, if_neg (chb_ne ht (show 0 < 1 by decide)), if_neg (chb_ne ht (show 0 < 2 by decide)), if_neg (chb_ne ht (show 0 < 3 by decide)), if_neg (chb_ne ht (show 0 < 4 by decide)), if_neg (chb_ne ht (show 0 < 5 by decide)), if_neg (chb_ne ht (show 0 < 6 by decide))]
end Mx
end Tw
set_option Elab.async false
set_option linter.all false
set_option maxRecDepth 100000
set_option maxHeartbeats 4000000
namespace Tw
set_option hygiene false in
local macro_rules | `(tactic| simp! only [$ls,*]) => `(tactic| try simp only [wDef, Tw.wpB_nil, qE_slot, qE_int, qE_str, qE_bl, qE_non, qE_cst, qE_ty, qE_tup, qE_lst, qE_emp, qE_bin, qE_neg, qE_cmp, qE_chn, qE_nt, qE_and, qE_or, qE_ite, qE_idx, qE_call, qE_b1, qE_b2, qE_lstOf, qE_app, qE_pop, qE_op, qL_nil, qL_cons, qI_op, oxW, ixW, b1xG, rzK, z1, z2, wZ1, wZ2, wSl2, wSlA, wSlB, wJoin, wIndex, wIndexT, isLW_t, isTW_t, wPopAt, wiEnum, wiZip, wiRng3, qE_comp, qE_compI, qA_nil, qA_cons, qAnd_nil, qAnd_cons1, qAnd_cons2, qOr_nil, qOr_cons1, qOr_cons2, qI_lst, qI_tup, qI_str, qI_rng1, qI_rng2, qG_nm, qG_tp, qGs_nil, qGs_cons, qS_asg, qS_asgC, qS_par, qS_par3, qS_aug, qS_setI, qS_ex, qS_iff, qS_fr, qS_whl, qS_ret, qS_retN, qS_brk, qS_cnt, qS_pas, qS_nev, qS_tryN, wTryN, qE_glb, qE_act, qE_callL, qS_raise0, qS_raise1, qS_tryAs, qS_tryNo, wRaise0, wRaise1, wTryAs, wTryNo, wActC_some, wAct, wCallL, wFld, wSeq, wNext, wAsg, wPar, wPar3, wAug, wSetI, wEx, wIf, wRet, wRetN, wBrk, wCnt, wNev, wFor, wiLst, wiTup, wiRng1, wiRng2, wComp, wSlot, wC, wOp1, wOp2, wB, waNil, waCons, wTup, wLst, mkL, wAnd, wOr, wNot, wIte, wChn, wCall, wApp, wPop, wLstOf, wEmp, wArity, CEs.len, gNm, gTp, gsNil, gsCons, gE, vw_0, vw_t1, vw_t2, dw_nil, dw_t, g1, g2, opG, auG, cmG, b1G, b2G, wBlIf_t, wBlIf_f, wBlIf_nt, cutW_tS, cutW_t, cutW_ref, okB, okT, W.t.injEq, Tw.T.bl.injEq, Tw.T.int.injEq, Tw.T.tup.injEq, Tw.T.lst.injEq, Tw.T.str.injEq, Tw.T.scr.injEq, W.ref.injEq, exists_eq_left', exists_eq_left, List.map_cons, List.map_nil, List.length_cons, List.length_nil, List.cons_append, List.nil_append, List.replicate_succ, List.replicate_zero, List.set_cons_zero, List.set_cons_succ, Nat.add_sub_cancel, Nat.sub_self, List.cons.injEq, and_true, true_and, Nat.reduceAdd, Nat.reduceSub, List.getElem?_cons_zero, List.getElem?_cons_succ, wYes, wipeE, List.take_length, oIsi2_ty, List.singleton_append, exists_const, sizeLine_eq, Nat.zero_le, Nat.reduceLeDiff, List.set_set, Int.reduceToNat, Int.reducePow, oEq_ii, oNe_ii, oIs_bb, oIsNot_bb, oIs_n, oIsNot_n, oLen_tup, oLen_lst, oLen_scr, oLt_ii, oLe_ii, oGt_ii, oGe_ii, oAdd_ii, oAugAdd_ii, oSub_ii, oMul_ii, oMod_ii, oDiv_ii, oPow_ii, oNeg_i, oAbs_i, oMax_ii, oMin_ii, oAdd_ll, oAdd_tt, oAdd_ss, oTuple_l, oTuple_t, oEq_str, oNe_str, beq_self_eq_true, Bool.not_true, Bool.not_false, take_set, take_push, take_set_push, oStr_i, ixT0, ixT1, ixT2, ixT3, ixL0, ixL1, ixL2, ixL3, $ls,*])
open PySem PySem.Spec PyProof.Rows L2
def isIntT : T → Bool
  | .int _ => true
  | _ => false
/-- isinstance answers for it and for its items -/
def knT : T → Prop
  | .tup xs => ∀ x ∈ xs, x.tyN.isSome = true
  | t => t.tyN.isSome = true
def isPairT : T → Bool
  | .tup [a, b] => isIntT a && isIntT b
  | _ => false
theorem isPairT_2 {a b : T} : isPairT (.tup [a, b]) = (isIntT a && isIntT b) := rfl
theorem isInt_of {a : T} (h : isIntT a = true) : ∃ i, a = .int i := by
  cases a <;> first | exact ⟨_, rfl⟩ | cases h
theorem isPair_of {v : T} (h : isPairT v = true) : ∃ p q, v = .tup [.int p, .int q] := by
  unfold isPairT at h
  split at h
  · rename_i a b
    rw [Bool.and_eq_true] at h
    obtain ⟨p, rfl⟩ := isInt_of h.1
    obtain ⟨q, rfl⟩ := isInt_of h.2
    exact ⟨p, q, rfl⟩
  · cases h
theorem knT_ty {v : T} (h : knT v) : v.tyN.isSome = true := by
  cases v <;> first | rfl | exact h
def lis_integer_b : CSs := (.cons (.ret (.and (.cons (.b2 .isi (.slot 0) (.ty .int)) (.cons (.nt (.b2 .isi (.slot 0) (.ty .bool))) .nil)))) .nil)
def dl_is_integer : DefC := ⟨"is_integer", ["value"], ["value"], lis_integer_b⟩
def sp_is_integer : FS := fun ws S _ R => ∃ v, ws = [.t v] ∧ v.tyN.isSome = true ∧ R (.t (.bl (isIntT v))) S
theorem gl_is_integer {fs : Nat → FS} {ct : CT} : ∀ ws S EX R, ws.length = (dl_is_integer).ps.length → sp_is_integer ws S EX R → wDef (qB fs ct (dl_is_integer).body) (dl_is_integer).N.length ws S EX R := by
  rintro ws S EX R - ⟨v, rfl, hv, hR⟩
  (simp! only [dl_is_integer])
  (refine Tw.st ?_; simp! only [])
  cases v <;> first
    | (simp only [oIsi, isiT, okB, exists_eq_left', wBlIf_t, wBlIf_f, T.bl.injEq, Bool.not_true, Bool.not_false]; exact hR)
    | (cases hv)
def lis_pair_b (j_is_integer : Nat) : CSs := (.cons (.ret (.and (.cons (.b2 .isi (.slot 0) (.ty .tuple)) (.cons (.cmp .Eq (.b1 .len (.slot 0)) (.int 2)) (.cons (.call j_is_integer (.cons (.idx (.slot 0) (.int 0)) .nil)) (.cons (.call j_is_integer (.cons (.idx (.slot 0) (.int 1)) .nil)) .nil)))))) .nil)
def dl_is_pair (j_is_integer : Nat) : DefC := ⟨"is_pair", ["value"], ["value"], lis_pair_b j_is_integer⟩
def sp_is_pair : FS := fun ws S _ R => ∃ v, ws = [.t v] ∧ knT v ∧ R (.t (.bl (isPairT v))) S
theorem gl_is_pair {fs : Nat → FS} {ct : CT} {j_is_integer : Nat} (h_is_integer : fs j_is_integer = sp_is_integer) : ∀ ws S EX R, ws.length = (dl_is_pair j_is_integer).ps.length → sp_is_pair ws S EX R → wDef (qB fs ct (dl_is_pair j_is_integer).body) (dl_is_pair j_is_integer).N.length ws S EX R := by
  rintro ws S EX R - ⟨v, rfl, hv, hR⟩
  (simp! only [h_is_integer, dl_is_pair])
  (refine Tw.st ?_; simp! only [h_is_integer])
  cases v with
  | tup xs =>
    match xs, hv, hR with
    | [], _, hR => (simp! only [h_is_integer, oIsi, isiT]); exact hR
    | [a], _, hR => (simp! only [h_is_integer, oIsi, isiT]); exact hR
    | [a, b], hv, hR =>
      (simp! only [h_is_integer, oIsi, isiT])
      refine ⟨a, rfl, hv a (by simp), ?_⟩
      (simp! only [h_is_integer])
      refine wBlIf_of (fun ha => ?_) fun ha => ?_
      · refine ⟨b, rfl, hv b (by simp), ?_⟩
        (simp! only [h_is_integer])
        rw [isPairT_2, ha] at hR
        exact hR
      · rw [isPairT_2, ha] at hR
        exact hR
    | a :: b :: c :: r, _, hR =>
      (simp! only [h_is_integer, oIsi, isiT])
      have e : decide (((r.length + 1 + 1 + 1 : Nat) : Int) = 2) = false := decide_eq_false (by omega)
      rw [e]
      (simp! only [h_is_integer])
      exact hR
  | _ => first
    | ((simp! only [h_is_integer, oIsi, isiT]); exact hR)
    | (cases hv)
def knU : T → Prop
  | .tup xs => ∀ x ∈ xs, knT x
  | t => t.tyN.isSome = true
def mxOf : T → Option Mx
  | .tup [.tup [.int a, .int b], .tup [.int c, .int d]] => some ⟨a, b, c, d⟩
  | _ => none
theorem mxOf_t (m : Mx) : mxOf m.t = some m := rfl
theorem mxOf_some {v : T} {m : Mx} (h : mxOf v = some m) : v = m.t := by
  unfold mxOf at h
  split at h
  · cases h
    rfl
  · cases h
def isUnitT (v : T) : Bool := match mxOf v with
  | some m => decide (m.det = 1)
  | none => false
def isMatT (v : T) : Bool := match mxOf v with
  | some m => decide m.ok
  | none => false
theorem mxOf_pairs {x y : T} (hx : isPairT x = true) (hy : isPairT y = true) : ∃ m : Mx, T.tup [x, y] = m.t := by
  obtain ⟨a, b, rfl⟩ := isPair_of hx
  obtain ⟨c, d, rfl⟩ := isPair_of hy
  exact ⟨⟨a, b, c, d⟩, rfl⟩
theorem mxOf_no {x y : T} (h : isPairT x = false ∨ isPairT y = false) : mxOf (.tup [x, y]) = none := by
  unfold mxOf
  split
  · rename_i e
    cases e
    rcases h with h | h <;> cases h
  · rfl
theorem mxOf_len {xs : List T} (h : xs.length ≠ 2) : mxOf (.tup xs) = none := by
  unfold mxOf
  split
  · rename_i e
    cases e
    exact absurd rfl h
  · rfl
/-- may be asked after -/
def knM (v : T) : Prop := knU v ∧ ∀ m : Mx, v = m.t → m.bd 100000
theorem knM_t {m : Mx} (h : m.bd 100000) : knM m.t := ⟨by
  unfold Mx.t knU
  refine all_cons (all_cons rfl (all_cons rfl all_nil)) (all_cons (all_cons rfl (all_cons rfl all_nil)) all_nil), fun n e => by
  have e2 := congrArg mxOf e
  rw [mxOf_t, mxOf_t] at e2
  cases e2
  exact h⟩
theorem bdW {x y : Int} {k : Nat} (hk : 0 < k) (h : 2 * k ≤ 1000000) (hx : x.natAbs < 2 ^ k) (hy : y.natAbs < 2 ^ k) : CMulW x y := mulW hk hk (by omega) hx hy
def lis_unit_1t_b (j_is_pair : Nat) : CSs := (.cons (.ret (.bl false)) .nil)
def lis_unit_b (j_is_pair : Nat) : CSs := (.cons (.iff (.or (.cons (.nt (.b2 .isi (.slot 0) (.ty .tuple))) (.cons (.cmp .NotEq (.b1 .len (.slot 0)) (.int 2)) (.cons (.nt (.call j_is_pair (.cons (.idx (.slot 0) (.int 0)) .nil))) (.cons (.nt (.call j_is_pair (.cons (.idx (.slot 0) (.int 1)) .nil))) .nil))))) (lis_unit_1t_b j_is_pair) .nil) (.cons (.asg (.tp (.cons (.tp (.cons (.nm 1) (.cons (.nm 2) .nil))) (.cons (.tp (.cons (.nm 3) (.cons (.nm 4) .nil))) .nil))) (.slot 0)) (.cons (.ret (.cmp .Eq (.bin .Sub (.bin .Mult (.slot 1) (.slot 4)) (.bin .Mult (.slot 2) (.slot 3))) (.int 1))) .nil)))
def dl_is_unit (j_is_pair : Nat) : DefC := ⟨"is_unit", ["value", "a", "b", "c", "d"], ["value"], lis_unit_b j_is_pair⟩
def sp_is_unit : FS := fun ws S _ R => ∃ v, ws = [.t v] ∧ knM v ∧ R (.t (.bl (isUnitT v))) S
theorem gl_is_unit {fs : Nat → FS} {ct : CT} {j_is_pair : Nat} (h_is_pair : fs j_is_pair = sp_is_pair) : ∀ ws S EX R, ws.length = (dl_is_unit j_is_pair).ps.length → sp_is_unit ws S EX R → wDef (qB fs ct (dl_is_unit j_is_pair).body) (dl_is_unit j_is_pair).N.length ws S EX R := by
  rintro ws S EX R - ⟨v, rfl, ⟨hv, hb⟩, hR⟩
  (simp! only [h_is_pair, dl_is_unit])
  (refine Tw.st ?_; simp! only [h_is_pair])
  cases v with
  | tup xs =>
    (simp! only [h_is_pair, oIsi, isiT])
    refine wBlIf_of (fun h1 => ?_) fun h1 => ?_
    · have hl : xs.length = 2 := by
        have := of_decide_eq_true h1
        omega
      match xs, hl, hv, hb, hR with
      | [x, y], _, hv, hb, hR =>
      (simp! only [h_is_pair])
      refine ⟨x, rfl, hv x (by simp), ?_⟩
      (simp! only [h_is_pair])
      refine wBlIf_of (fun hx => ?_) fun hx => ?_
      · refine ⟨y, rfl, hv y (by simp), ?_⟩
        (simp! only [h_is_pair])
        refine wBlIf_of (fun hy => ?_) fun hy => ?_
        · obtain ⟨m, e⟩ := mxOf_pairs hx hy
          have bm := hb m e
          rw [e] at hR
          obtain ⟨b1, b2, b3, b4⟩ := bm
          have e' : x = .tup [.int m.a, .int m.b] ∧ y = .tup [.int m.c, .int m.d] := by
            unfold Mx.t at e
            injection e with e
            injection e with e1 e
            injection e with e2 e
            exact ⟨e1, e2⟩
          obtain ⟨rfl, rfl⟩ := e'
          (refine Tw.st ?_; simp! only [h_is_pair])
          (refine Tw.st ?_; simp! only [h_is_pair])
          refine ⟨bdW (k := 100000) (by decide) (by decide) b1 b4, bdW (k := 100000) (by decide) (by decide) b2 b3, ?_⟩
          exact hR
        · rw [show isUnitT (.tup [x, y]) = false by unfold isUnitT; rw [mxOf_no (.inr hy)]] at hR
          (refine Tw.st ?_; simp! only [h_is_pair])
          exact hR
      · rw [show isUnitT (.tup [x, y]) = false by unfold isUnitT; rw [mxOf_no (.inl hx)]] at hR
        (refine Tw.st ?_; simp! only [h_is_pair])
        exact hR
    · rw [show isUnitT (.tup xs) = false by
        unfold isUnitT
        rw [mxOf_len fun e => by rw [e] at h1; exact absurd rfl (of_decide_eq_false h1)]] at hR
      (refine Tw.st ?_; simp! only [h_is_pair])
      exact hR
  | _ => first
    | ((simp! only [h_is_pair, oIsi, isiT]); (refine Tw.st ?_; simp! only [h_is_pair]); exact hR)
    | (cases hv)
def lnormal_of_2t_b : CSs := (.cons (.ret (.tup (.cons (.tup (.cons (.slot 1) (.cons (.slot 2) .nil))) (.cons (.tup (.cons (.slot 3) (.cons (.slot 4) .nil))) .nil)))) .nil)
def lnormal_of_b : CSs := (.cons (.asg (.tp (.cons (.tp (.cons (.nm 1) (.cons (.nm 2) .nil))) (.cons (.tp (.cons (.nm 3) (.cons (.nm 4) .nil))) .nil))) (.slot 0)) (.cons (.iff (.or (.cons (.cmp .Gt (.slot 3) (.int 0)) (.cons (.and (.cons (.cmp .Eq (.slot 3) (.int 0)) (.cons (.cmp .Gt (.slot 1) (.int 0)) .nil))) .nil))) lnormal_of_2t_b .nil) (.cons (.ret (.tup (.cons (.tup (.cons (.neg (.slot 1)) (.cons (.neg (.slot 2)) .nil))) (.cons (.tup (.cons (.neg (.slot 3)) (.cons (.neg (.slot 4)) .nil))) .nil)))) .nil)))
def dl_normal_of : DefC := ⟨"normal_of", ["rows", "a", "b", "c", "d"], ["rows"], lnormal_of_b⟩
def sp_normal_of : FS := fun ws S _ R => ∃ m : Mx, ws = [.t m.t] ∧ R (.t m.nrm.t) S
theorem gl_normal_of {fs : Nat → FS} {ct : CT} : ∀ ws S EX R, ws.length = (dl_normal_of).ps.length → sp_normal_of ws S EX R → wDef (qB fs ct (dl_normal_of).body) (dl_normal_of).N.length ws S EX R := by
  rintro ws S EX R - ⟨m, rfl, hR⟩
  (simp! only [dl_normal_of, Mx.t])
  (refine Tw.st ?_; simp! only [])
  (refine Tw.st ?_; simp! only [])
  refine Mx.wb_pos (fun h => ?_) fun h => ?_
  · rw [Mx.nrm_p h] at hR
    (refine Tw.st ?_; simp! only [])
    exact hR
  · rw [Mx.nrm_n h] at hR
    (refine Tw.st ?_; simp! only [])
    exact hR
def lis_matrix_b (j_is_unit j_normal_of : Nat) : CSs := (.cons (.ret (.and (.cons (.call j_is_unit (.cons (.slot 0) .nil)) (.cons (.cmp .Eq (.slot 0) (.call j_normal_of (.cons (.slot 0) .nil))) .nil)))) .nil)
def dl_is_matrix (j_is_unit j_normal_of : Nat) : DefC := ⟨"is_matrix", ["value"], ["value"], lis_matrix_b j_is_unit j_normal_of⟩
def sp_is_matrix : FS := fun ws S _ R => ∃ v, ws = [.t v] ∧ knM v ∧ R (.t (.bl (isMatT v))) S
theorem isUnit_of {v : T} (h : isUnitT v = true) : ∃ m : Mx, v = m.t ∧ m.det = 1 := by
  unfold isUnitT at h
  split at h
  · rename_i m e
    exact ⟨m, mxOf_some e, of_decide_eq_true h⟩
  · cases h
theorem isMat_of {v : T} (h : isMatT v = true) : ∃ m : Mx, v = m.t ∧ m.ok := by
  unfold isMatT at h
  split at h
  · rename_i m e
    exact ⟨m, mxOf_some e, of_decide_eq_true h⟩
  · cases h
theorem isMat_t {m : Mx} : isMatT m.t = decide m.ok := rfl
theorem isMat_no {v : T} (h : isUnitT v = false) : isMatT v = false := by
  unfold isUnitT at h
  unfold isMatT
  split
  · rename_i m e
    rw [e] at h
    exact decide_eq_false fun z => of_decide_eq_false h z.1
  · rfl
theorem gl_is_matrix {fs : Nat → FS} {ct : CT} {j_is_unit : Nat} {j_normal_of : Nat} (h_is_unit : fs j_is_unit = sp_is_unit) (h_normal_of : fs j_normal_of = sp_normal_of) : ∀ ws S EX R, ws.length = (dl_is_matrix j_is_unit j_normal_of).ps.length → sp_is_matrix ws S EX R → wDef (qB fs ct (dl_is_matrix j_is_unit j_normal_of).body) (dl_is_matrix j_is_unit j_normal_of).N.length ws S EX R := by
  rintro ws S EX R - ⟨v, rfl, hv, hR⟩
  (simp! only [h_is_unit, h_normal_of, dl_is_matrix])
  (refine Tw.st ?_; simp! only [h_is_unit, h_normal_of])
  refine ⟨v, rfl, hv, ?_⟩
  (simp! only [h_is_unit, h_normal_of])
  refine wBlIf_of (fun h => ?_) fun h => ?_
  · obtain ⟨m, rfl, hd⟩ := isUnit_of h
    refine ⟨m, rfl, ?_⟩
    (simp! only [h_is_unit, h_normal_of])
    rw [oEq_eq (Mx.t_ok _) (Mx.t_ok _), Mx.eq_t]
    rw [isMat_t] at hR
    have e : decide m.ok = decide (m = m.nrm) := by
      by_cases z : m = m.nrm
      · rw [decide_eq_true z, decide_eq_true (show m.ok from ⟨hd, z.symm⟩)]
      · rw [decide_eq_false z, decide_eq_false fun q : m.ok => z q.2.symm]
    rw [e] at hR
    exact hR
  · rw [isMat_no h] at hR
    exact hR
def lneed_matrix_1t_b (j_is_matrix : Nat) : CSs := (.cons (.raise0 "BadMatrix") .nil)
def lneed_matrix_b (j_is_matrix : Nat) : CSs := (.cons (.iff (.nt (.call j_is_matrix (.cons (.slot 0) .nil))) (lneed_matrix_1t_b j_is_matrix) .nil) .nil)
def dl_need_matrix (j_is_matrix : Nat) : DefC := ⟨"need_matrix", ["matrix"], ["matrix"], lneed_matrix_b j_is_matrix⟩
def sp_need_matrix : FS := fun ws S EX R => ∃ v, ws = [.t v] ∧ knM v ∧ (isMatT v = true → R (.t .non) S) ∧ (isMatT v = false → EX (.exc "BadMatrix") S)
theorem nm_ok {x : Mx} {S : Sto} {EX : T → Sto → Prop} {R : KW} (h : x.ok) (hb : x.bd 100000) (hR : R (.t .non) S) : sp_need_matrix [.t x.t] S EX R :=
  ⟨x.t, rfl, knM_t hb, fun _ => hR, fun e => by rw [isMat_t, decide_eq_true h] at e; cases e⟩
theorem nm_no {v : T} {S : Sto} {EX : T → Sto → Prop} {R : KW} (hv : knM v) (h : isMatT v = false) (hE : EX (.exc "BadMatrix") S) : sp_need_matrix [.t v] S EX R :=
  ⟨v, rfl, hv, (by rw [h]; intro e; cases e), fun _ => hE⟩
theorem gl_need_matrix {fs : Nat → FS} {ct : CT} {j_is_matrix : Nat} (h_is_matrix : fs j_is_matrix = sp_is_matrix) : ∀ ws S EX R, ws.length = (dl_need_matrix j_is_matrix).ps.length → sp_need_matrix ws S EX R → wDef (qB fs ct (dl_need_matrix j_is_matrix).body) (dl_need_matrix j_is_matrix).N.length ws S EX R := by
  rintro ws S EX R - ⟨v, rfl, hv, hR, hE⟩
  (simp! only [h_is_matrix, dl_need_matrix])
  (refine Tw.st ?_; simp! only [h_is_matrix])
  refine ⟨v, rfl, hv, ?_⟩
  (simp! only [h_is_matrix])
  cases hm : isMatT v with
  | true =>
    (simp! only [h_is_matrix])
    exact hR hm
  | false =>
    (simp! only [h_is_matrix])
    (refine Tw.st ?_; simp! only [h_is_matrix])
    exact hE hm
/-- one argument that is no matrix -/
def badM : FS := fun ws S EX _ => ∃ v, ws = [.t v] ∧ knM v ∧ isMatT v = false ∧ EX (.exc "BadMatrix") S
def ltimes_b (j_normal_of : Nat) : CSs := (.cons (.asg (.tp (.cons (.tp (.cons (.nm 2) (.cons (.nm 3) .nil))) (.cons (.tp (.cons (.nm 4) (.cons (.nm 5) .nil))) .nil))) (.slot 0)) (.cons (.asg (.tp (.cons (.tp (.cons (.nm 6) (.cons (.nm 7) .nil))) (.cons (.tp (.cons (.nm 8) (.cons (.nm 9) .nil))) .nil))) (.slot 1)) (.cons (.ret (.call j_normal_of (.cons (.tup (.cons (.tup (.cons (.bin .Add (.bin .Mult (.slot 2) (.slot 6)) (.bin .Mult (.slot 3) (.slot 8))) (.cons (.bin .Add (.bin .Mult (.slot 2) (.slot 7)) (.bin .Mult (.slot 3) (.slot 9))) .nil))) (.cons (.tup (.cons (.bin .Add (.bin .Mult (.slot 4) (.slot 6)) (.bin .Mult (.slot 5) (.slot 8))) (.cons (.bin .Add (.bin .Mult (.slot 4) (.slot 7)) (.bin .Mult (.slot 5) (.slot 9))) .nil))) .nil))) .nil))) .nil)))
def dl_times (j_normal_of : Nat) : DefC := ⟨"times", ["one", "other", "a", "b", "c", "d", "p", "q", "u", "v"], ["one", "other"], ltimes_b j_normal_of⟩
def sp_times : FS := fun ws S _ R => ∃ x y : Mx, ws = [.t x.t, .t y.t] ∧ x.bd 400000 ∧ y.bd 400000 ∧ R (.t (Mx.tm x y).t) S
theorem gl_times {fs : Nat → FS} {ct : CT} {j_normal_of : Nat} (h_normal_of : fs j_normal_of = sp_normal_of) : ∀ ws S EX R, ws.length = (dl_times j_normal_of).ps.length → sp_times ws S EX R → wDef (qB fs ct (dl_times j_normal_of).body) (dl_times j_normal_of).N.length ws S EX R := by
  rintro ws S EX R - ⟨x, y, rfl, ⟨x1, x2, x3, x4⟩, ⟨y1, y2, y3, y4⟩, hR⟩
  have cw : ∀ {p q : Int}, p.natAbs < 2 ^ 400000 → q.natAbs < 2 ^ 400000 → CMulW p q := fun h1 h2 => bdW (k := 400000) (by decide) (by decide) h1 h2
  (simp! only [h_normal_of, dl_times, Mx.t_def x, Mx.t_def y])
  (refine Tw.st ?_; simp! only [h_normal_of])
  (refine Tw.st ?_; simp! only [h_normal_of])
  (refine Tw.st ?_; simp! only [h_normal_of])
  refine ⟨cw x1 y1, cw x2 y3, cw x1 y2, cw x2 y4, cw x3 y1, cw x4 y3, cw x3 y2, cw x4 y4, x.mul y, rfl, ?_⟩
  (simp! only [h_normal_of])
  exact hR
def linverse_of_b (j_normal_of : Nat) : CSs := (.cons (.asg (.tp (.cons (.tp (.cons (.nm 1) (.cons (.nm 2) .nil))) (.cons (.tp (.cons (.nm 3) (.cons (.nm 4) .nil))) .nil))) (.slot 0)) (.cons (.ret (.call j_normal_of (.cons (.tup (.cons (.tup (.cons (.slot 4) (.cons (.neg (.slot 2)) .nil))) (.cons (.tup (.cons (.neg (.slot 3)) (.cons (.slot 1) .nil))) .nil))) .nil))) .nil))
def dl_inverse_of (j_normal_of : Nat) : DefC := ⟨"inverse_of", ["matrix", "a", "b", "c", "d"], ["matrix"], linverse_of_b j_normal_of⟩
def sp_inverse_of : FS := fun ws S _ R => ∃ x : Mx, ws = [.t x.t] ∧ R (.t (Mx.inv x).t) S
theorem gl_inverse_of {fs : Nat → FS} {ct : CT} {j_normal_of : Nat} (h_normal_of : fs j_normal_of = sp_normal_of) : ∀ ws S EX R, ws.length = (dl_inverse_of j_normal_of).ps.length → sp_inverse_of ws S EX R → wDef (qB fs ct (dl_inverse_of j_normal_of).body) (dl_inverse_of j_normal_of).N.length ws S EX R := by
  rintro ws S EX R - ⟨x, rfl, hR⟩
  (simp! only [h_normal_of, dl_inverse_of, Mx.t_def x])
  (refine Tw.st ?_; simp! only [h_normal_of])
  (refine Tw.st ?_; simp! only [h_normal_of])
  refine ⟨x.adj, rfl, ?_⟩
  (simp! only [h_normal_of])
  exact hR
def linverse_b (j_need_matrix j_inverse_of : Nat) : CSs := (.cons (.ex (.call j_need_matrix (.cons (.slot 0) .nil))) (.cons (.ret (.call j_inverse_of (.cons (.slot 0) .nil))) .nil))
def dl_inverse (j_need_matrix j_inverse_of : Nat) : DefC := ⟨"inverse", ["matrix"], ["matrix"], linverse_b j_need_matrix j_inverse_of⟩
def sp_inverse : FS := fun ws S EX R => (∃ x : Mx, ws = [.t x.t] ∧ x.ok ∧ x.bd 100000 ∧ R (.t (Mx.inv x).t) S) ∨ badM ws S EX R
theorem gl_inverse {fs : Nat → FS} {ct : CT} {j_need_matrix : Nat} {j_inverse_of : Nat} (h_need_matrix : fs j_need_matrix = sp_need_matrix) (h_inverse_of : fs j_inverse_of = sp_inverse_of) : ∀ ws S EX R, ws.length = (dl_inverse j_need_matrix j_inverse_of).ps.length → sp_inverse ws S EX R → wDef (qB fs ct (dl_inverse j_need_matrix j_inverse_of).body) (dl_inverse j_need_matrix j_inverse_of).N.length ws S EX R := by
  rintro ws S EX R - (⟨x, rfl, ho, hb, hR⟩ | ⟨v, rfl, hv, hm, hE⟩)
  · (simp! only [h_need_matrix, h_inverse_of, dl_inverse])
    (refine Tw.st ?_; simp! only [h_need_matrix, h_inverse_of])
    refine nm_ok ho hb ?_
    (simp! only [h_need_matrix, h_inverse_of])
    (refine Tw.st ?_; simp! only [h_need_matrix, h_inverse_of])
    refine ⟨x, rfl, ?_⟩
    (simp! only [h_need_matrix, h_inverse_of])
    exact hR
  · (simp! only [h_need_matrix, h_inverse_of, dl_inverse])
    (refine Tw.st ?_; simp! only [h_need_matrix, h_inverse_of])
    refine nm_no hv hm ?_
    (simp! only [h_need_matrix, h_inverse_of])
    exact hE
/-- the product of several -/
def prod (x : Mx) (l : List Mx) : Mx := l.foldl Mx.tm x
def c_IDENTITY : T := .tup [.tup [.int 1, .int 0], .tup [.int 0, .int 1]]
theorem one_t : Mx.one.t = c_IDENTITY := rfl
def lproduct_1b_b (j_need_matrix j_times k_IDENTITY : Nat) : CSs := (.cons (.ex (.call j_need_matrix (.cons (.slot 1) .nil))) .nil)
def lproduct_3b_b (j_need_matrix j_times k_IDENTITY : Nat) : CSs := (.cons (.asg (.nm 2) (.call j_times (.cons (.slot 2) (.cons (.slot 1) .nil)))) .nil)
def lproduct_b (j_need_matrix j_times k_IDENTITY : Nat) : CSs := (.cons (.fr (.nm 1) (.tup (.slot 0)) (lproduct_1b_b j_need_matrix j_times k_IDENTITY)) (.cons (.asg (.nm 2) (.cst k_IDENTITY)) (.cons (.fr (.nm 1) (.tup (.slot 0)) (lproduct_3b_b j_need_matrix j_times k_IDENTITY)) (.cons (.ret (.slot 2)) .nil))))
def dl_product (j_need_matrix j_times k_IDENTITY : Nat) : DefC := ⟨"product", ["matrices", "matrix", "found"], ["matrices"], lproduct_b j_need_matrix j_times k_IDENTITY⟩
def sp_product : FS := fun ws S EX R => (∃ l : List Mx, ws = l.map (fun x => W.t x.t) ∧ l.length ≤ 20 ∧ (∀ x ∈ l, x.ok ∧ x.bd 10000) ∧ R (.t (prod Mx.one l).t) S) ∨
  ∃ (l : List Mx) (v : T) (r : List T), ws = (l.map Mx.t ++ v :: r).map W.t ∧ l.length + r.length ≤ 20 ∧ (∀ x ∈ l, x.ok ∧ x.bd 10000) ∧ knM v ∧ isMatT v = false ∧ EX (.exc "BadMatrix") S
theorem sp_product_bad {v : T} {S : Sto} {EX : T → Sto → Prop} {R : KW} (l : List Mx) (r : List T) (h : l.length + r.length ≤ 20) (hl : ∀ x ∈ l, x.ok ∧ x.bd 10000) (hv : knM v) (hm : isMatT v = false) (hE : EX (.exc "BadMatrix") S) :
    sp_product ((l.map Mx.t ++ v :: r).map W.t) S EX R := .inr ⟨l, v, r, rfl, h, hl, hv, hm, hE⟩
theorem gl_product {fs : Nat → FS} {ct : CT} {j_need_matrix : Nat} {j_times : Nat} {k_IDENTITY : Nat} (h_need_matrix : fs j_need_matrix = sp_need_matrix) (h_times : fs j_times = sp_times) (h_IDENTITY : ct.c k_IDENTITY = c_IDENTITY) : ∀ ws S EX R, sp_product ws S EX R → ∃ a ts, ws = a ++ ts.map W.t ∧ a.length = 0 ∧ ts.length ≤ sizeLine ∧ wDef (qB fs ct (dl_product j_need_matrix j_times k_IDENTITY).body) (dl_product j_need_matrix j_times k_IDENTITY).N.length (a ++ [.t (.tup ts)]) S EX R := by
  rintro ws S EX R (⟨l, rfl, hl, hm, hR⟩ | ⟨l, v, r, rfl, hl, hm, hv, hno, hE⟩)
  · refine ⟨[], l.map Mx.t, by rw [List.nil_append, List.map_map]; rfl, rfl, by rw [List.length_map, sizeLine_eq]; omega, ?_⟩
    (simp! only [h_need_matrix, h_times, h_IDENTITY, dl_product])
    (refine Tw.st ?_; simp! only [h_need_matrix, h_times, h_IDENTITY])
    refine forL_inv (fun xs env S' => S' = S ∧ (∃ l' : List Mx, xs = l'.map Mx.t ∧ ∀ x ∈ l', x.ok ∧ x.bd 10000) ∧ ∃ w1 w2, env = [some (.t (.tup (l.map Mx.t))), w1, w2]) ?_ ?_ _ _ _ ⟨rfl, ⟨l, rfl, hm⟩, _, _, rfl⟩
    · rintro env S' ⟨rfl, -, w1, w2, rfl⟩
      (simp! only [h_need_matrix, h_times, h_IDENTITY])
      (refine Tw.st ?_; simp! only [h_need_matrix, h_times, h_IDENTITY])
      (refine Tw.st ?_; simp! only [h_need_matrix, h_times, h_IDENTITY])
      refine forL_inv (fun xs env S'' => S'' = S' ∧ ∃ (l' : List Mx) (y : Mx) (n : Nat), xs = l'.map Mx.t ∧ (∀ x ∈ l', x.ok ∧ x.bd 10000) ∧ y.bd n ∧ n + l'.length * 10001 ≤ 210000 ∧ prod y l' = prod Mx.one l ∧ ∃ w1, env = [some (.t (.tup (l.map Mx.t))), w1, some (.t y.t)]) ?_ ?_ _ _ _ ⟨rfl, l, Mx.one, 1, rfl, hm, Mx.bd_one, by omega, rfl, _, rfl⟩
      · rintro env S'' ⟨rfl, l', y, n, hx, -, -, -, hp, w1, rfl⟩
        have e : l' = [] := List.map_eq_nil_iff.mp hx.symm
        subst e
        (simp! only [h_need_matrix, h_times, h_IDENTITY])
        (refine Tw.st ?_; simp! only [h_need_matrix, h_times, h_IDENTITY])
        rw [show y = prod Mx.one l from hp]
        exact hR
      · rintro x xs env S'' Kn ⟨rfl, l', y, n, hx, hm', hy, hn, hp, w1, rfl⟩ hK
        cases l' with
        | nil => cases hx
        | cons z l' =>
          rw [List.map_cons, List.cons.injEq] at hx
          obtain ⟨rfl, rfl⟩ := hx
          obtain ⟨z1, z2⟩ := hm' z (by simp)
          rw [List.length_cons] at hn
          (simp! only [h_need_matrix, h_times, h_IDENTITY])
          (refine Tw.st ?_; simp! only [h_need_matrix, h_times, h_IDENTITY])
          refine ⟨y, z, rfl, Mx.bd_mono hy (by omega), Mx.bd_mono z2 (by decide), ?_⟩
          (simp! only [h_need_matrix, h_times, h_IDENTITY])
          exact hK _ _ ⟨rfl, l', Mx.tm y z, n + 10000 + 1, rfl, fun x hx => hm' x (List.mem_cons_of_mem _ hx), Mx.bd_tm hy z2 (Nat.le_refl _), by omega, hp, _, rfl⟩
    · rintro x xs env S' Kn ⟨rfl, ⟨l', hx, hm'⟩, w1, w2, rfl⟩ hK
      cases l' with
      | nil => cases hx
      | cons z l' =>
        rw [List.map_cons, List.cons.injEq] at hx
        obtain ⟨rfl, rfl⟩ := hx
        obtain ⟨z1, z2⟩ := hm' z (by simp)
        (simp! only [h_need_matrix, h_times, h_IDENTITY])
        (refine Tw.st ?_; simp! only [h_need_matrix, h_times, h_IDENTITY])
        refine nm_ok z1 (Mx.bd_mono z2 (by decide)) ?_
        (simp! only [h_need_matrix, h_times, h_IDENTITY])
        exact hK _ _ ⟨rfl, ⟨l', rfl, fun x hx => hm' x (List.mem_cons_of_mem _ hx)⟩, _, _, rfl⟩
  · refine ⟨[], l.map Mx.t ++ v :: r, rfl, rfl, by rw [List.length_append, List.length_map, List.length_cons, sizeLine_eq]; omega, ?_⟩
    (simp! only [h_need_matrix, h_times, h_IDENTITY, dl_product])
    (refine Tw.st ?_; simp! only [h_need_matrix, h_times, h_IDENTITY])
    refine forL_inv (fun xs env S' => S' = S ∧ (∃ l' : List Mx, xs = l'.map Mx.t ++ v :: r ∧ ∀ x ∈ l', x.ok ∧ x.bd 10000) ∧ ∃ w1 w2, env = [some (.t (.tup (l.map Mx.t ++ v :: r))), w1, w2]) ?_ ?_ _ _ _ ⟨rfl, ⟨l, rfl, hm⟩, _, _, rfl⟩
    · rintro env S' ⟨rfl, ⟨l', hx, -⟩, w1, w2, rfl⟩
      exact absurd hx (by simp)
    · rintro x xs env S' Kn ⟨rfl, ⟨l', hx, hm'⟩, w1, w2, rfl⟩ hK
      cases l' with
      | nil =>
        rw [List.map_nil, List.nil_append, List.cons.injEq] at hx
        obtain ⟨rfl, rfl⟩ := hx
        (simp! only [h_need_matrix, h_times, h_IDENTITY])
        (refine Tw.st ?_; simp! only [h_need_matrix, h_times, h_IDENTITY])
        refine nm_no hv hno ?_
        (simp! only [h_need_matrix, h_times, h_IDENTITY])
        exact hE
      | cons z l' =>
        rw [List.map_cons, List.cons_append, List.cons.injEq] at hx
        obtain ⟨rfl, rfl⟩ := hx
        obtain ⟨z1, z2⟩ := hm' z (by simp)
        (simp! only [h_need_matrix, h_times, h_IDENTITY])
        (refine Tw.st ?_; simp! only [h_need_matrix, h_times, h_IDENTITY])
        refine nm_ok z1 (Mx.bd_mono z2 (by decide)) ?_
        (simp! only [h_need_matrix, h_times, h_IDENTITY])
        exact hK _ _ ⟨rfl, ⟨l', rfl, fun x hx => hm' x (List.mem_cons_of_mem _ hx)⟩, _, _, rfl⟩
def l_law_signed_b : CSs := (.cons (.asg (.tp (.cons (.tp (.cons (.nm 1) (.cons (.nm 2) .nil))) (.cons (.tp (.cons (.nm 3) (.cons (.nm 4) .nil))) .nil))) (.slot 0)) (.cons (.ret (.ite (.or (.cons (.cmp .Gt (.slot 3) (.int 0)) (.cons (.and (.cons (.cmp .Eq (.slot 3) (.int 0)) (.cons (.cmp .Gt (.slot 1) (.int 0)) .nil))) .nil))) (.tup (.cons (.tup (.cons (.slot 1) (.cons (.slot 2) .nil))) (.cons (.tup (.cons (.slot 3) (.cons (.slot 4) .nil))) .nil))) (.tup (.cons (.tup (.cons (.bin .Sub (.int 0) (.slot 1)) (.cons (.bin .Sub (.int 0) (.slot 2)) .nil))) (.cons (.tup (.cons (.bin .Sub (.int 0) (.slot 3)) (.cons (.bin .Sub (.int 0) (.slot 4)) .nil))) .nil))))) .nil))
def dl__law_signed : DefC := ⟨"_law_signed", ["_law_rows", "_law_a", "_law_b", "_law_c", "_law_d"], ["_law_rows"], l_law_signed_b⟩
def sp__law_signed : FS := sp_normal_of
theorem gl__law_signed {fs : Nat → FS} {ct : CT} : ∀ ws S EX R, ws.length = (dl__law_signed).ps.length → sp__law_signed ws S EX R → wDef (qB fs ct (dl__law_signed).body) (dl__law_signed).N.length ws S EX R := by
  rintro ws S EX R - ⟨m, rfl, hR⟩
  (simp! only [dl__law_signed, Mx.t_def m])
  (refine Tw.st ?_; simp! only [])
  (refine Tw.st ?_; simp! only [])
  refine Mx.wb_pos (fun h => ?_) fun h => ?_
  · rw [Mx.nrm_p h] at hR
    exact hR
  · rw [Mx.nrm_n h] at hR
    rw [Int.zero_sub, Int.zero_sub, Int.zero_sub, Int.zero_sub]
    exact hR
def l_law_times_b (j__law_signed : Nat) : CSs := (.cons (.asg (.tp (.cons (.tp (.cons (.nm 2) (.cons (.nm 3) .nil))) (.cons (.tp (.cons (.nm 4) (.cons (.nm 5) .nil))) .nil))) (.slot 0)) (.cons (.asg (.tp (.cons (.tp (.cons (.nm 6) (.cons (.nm 7) .nil))) (.cons (.tp (.cons (.nm 8) (.cons (.nm 9) .nil))) .nil))) (.slot 1)) (.cons (.ret (.call j__law_signed (.cons (.tup (.cons (.tup (.cons (.bin .Add (.bin .Mult (.slot 2) (.slot 6)) (.bin .Mult (.slot 3) (.slot 8))) (.cons (.bin .Add (.bin .Mult (.slot 2) (.slot 7)) (.bin .Mult (.slot 3) (.slot 9))) .nil))) (.cons (.tup (.cons (.bin .Add (.bin .Mult (.slot 4) (.slot 6)) (.bin .Mult (.slot 5) (.slot 8))) (.cons (.bin .Add (.bin .Mult (.slot 4) (.slot 7)) (.bin .Mult (.slot 5) (.slot 9))) .nil))) .nil))) .nil))) .nil)))
def dl__law_times (j__law_signed : Nat) : DefC := ⟨"_law_times", ["_law_one", "_law_other", "_law_a", "_law_b", "_law_c", "_law_d", "_law_p", "_law_q", "_law_u", "_law_v"], ["_law_one", "_law_other"], l_law_times_b j__law_signed⟩
def sp__law_times : FS := sp_times
theorem gl__law_times {fs : Nat → FS} {ct : CT} {j__law_signed : Nat} (h__law_signed : fs j__law_signed = sp__law_signed) : ∀ ws S EX R, ws.length = (dl__law_times j__law_signed).ps.length → sp__law_times ws S EX R → wDef (qB fs ct (dl__law_times j__law_signed).body) (dl__law_times j__law_signed).N.length ws S EX R := by
  rintro ws S EX R - ⟨x, y, rfl, ⟨x1, x2, x3, x4⟩, ⟨y1, y2, y3, y4⟩, hR⟩
  have cw : ∀ {p q : Int}, p.natAbs < 2 ^ 400000 → q.natAbs < 2 ^ 400000 → CMulW p q := fun h1 h2 => bdW (k := 400000) (by decide) (by decide) h1 h2
  (simp! only [h__law_signed, dl__law_times, Mx.t_def x, Mx.t_def y])
  (refine Tw.st ?_; simp! only [h__law_signed])
  (refine Tw.st ?_; simp! only [h__law_signed])
  (refine Tw.st ?_; simp! only [h__law_signed])
  refine ⟨cw x1 y1, cw x2 y3, cw x1 y2, cw x2 y4, cw x3 y1, cw x4 y3, cw x3 y2, cw x4 y4, x.mul y, rfl, ?_⟩
  (simp! only [h__law_signed])
  exact hR
def l_law_back_b (j__law_signed : Nat) : CSs := (.cons (.asg (.tp (.cons (.tp (.cons (.nm 1) (.cons (.nm 2) .nil))) (.cons (.tp (.cons (.nm 3) (.cons (.nm 4) .nil))) .nil))) (.slot 0)) (.cons (.ret (.call j__law_signed (.cons (.tup (.cons (.tup (.cons (.slot 4) (.cons (.bin .Sub (.int 0) (.slot 2)) .nil))) (.cons (.tup (.cons (.bin .Sub (.int 0) (.slot 3)) (.cons (.slot 1) .nil))) .nil))) .nil))) .nil))
def dl__law_back (j__law_signed : Nat) : DefC := ⟨"_law_back", ["_law_matrix_here", "_law_a", "_law_b", "_law_c", "_law_d"], ["_law_matrix_here"], l_law_back_b j__law_signed⟩
def sp__law_back : FS := sp_inverse_of
theorem gl__law_back {fs : Nat → FS} {ct : CT} {j__law_signed : Nat} (h__law_signed : fs j__law_signed = sp__law_signed) : ∀ ws S EX R, ws.length = (dl__law_back j__law_signed).ps.length → sp__law_back ws S EX R → wDef (qB fs ct (dl__law_back j__law_signed).body) (dl__law_back j__law_signed).N.length ws S EX R := by
  rintro ws S EX R - ⟨x, rfl, hR⟩
  (simp! only [h__law_signed, dl__law_back, Mx.t_def x])
  (refine Tw.st ?_; simp! only [h__law_signed])
  (refine Tw.st ?_; simp! only [h__law_signed])
  refine ⟨x.adj, ?_, ?_⟩
  · rw [Int.zero_sub, Int.zero_sub]
    rfl
  (simp! only [h__law_signed])
  exact hR
def sL (l : List Nat) : Str := ⟨l.toArray⟩
theorem sL_append (a b : List Nat) : sL a ++ sL b = sL (a ++ b) := by
  show (⟨a.toArray ++ b.toArray⟩ : Str) = _
  rw [List.append_toArray]
  rfl
theorem sL_len (a : List Nat) : (sL a).length = a.length := by
  show a.toArray.size = _
  simp
theorem sL_inj {a b : List Nat} : sL a = sL b ↔ a = b := ⟨fun h => by
  have h2 := congrArg (fun z : Str => z.cps.toList) h
  simpa [sL] using h2, fun h => by rw [h]⟩
theorem sL_beq (a b : List Nat) : (sL a == sL b) = decide (a = b) := by
  by_cases h : a = b
  · subst h
    rw [decide_eq_true rfl]
    exact beq_self_eq_true _
  · rw [decide_eq_false h]
    exact beq_eq_false_iff_ne.mpr fun z => h (sL_inj.mp z)
theorem sL_of (x : Str) : x = sL x.cps.toList := by
  cases x
  rfl
theorem sL_list (l : List Nat) : strL (sL l) = l.map fun c => .str (sL [c]) := by
  unfold strL sL
  rfl
theorem ix_last {l : List Nat} {c : Nat} {k : T → Prop} (h : l.length < 1000000) : oIx (.str (sL (l ++ [c]))) (.int (-1)) k = k (.str (sL [c])) := by
  show okT (if (sL (l ++ [c])).length ≤ sizeLine then (atI (sL (l ++ [c])).cps.toList (-1)).map fun c => .str ⟨#[c]⟩ else none) k = _
  rw [if_pos (by rw [sL_len, sizeLine_eq, List.length_append, List.length_singleton]; omega)]
  have e : atI (sL (l ++ [c])).cps.toList (-1) = some c := by
    show atI (l ++ [c]) (-1) = some c
    unfold atI ixN
    rw [if_neg (by decide), if_pos (by rw [List.length_append, List.length_singleton]; omega)]
    show (l ++ [c])[(-1 + ((l ++ [c]).length : Int)).toNat]? = _
    rw [show (-1 + ((l ++ [c]).length : Int)).toNat = l.length by rw [List.length_append, List.length_singleton]; omega]
    simp
  rw [e]
  rfl
theorem s_S : Str.ofString "S" = sL [83] := by decide +kernel
theorem s_R : Str.ofString "R" = sL [82] := by decide +kernel
theorem s_r : Str.ofString "r" = sL [114] := by decide +kernel
theorem s_0 : Str.ofString "" = sL [] := by decide +kernel
def mS : Mx := ⟨0, -1, 1, 0⟩
def mR : Mx := ⟨0, -1, 1, 1⟩
def mr : Mx := ⟨-1, -1, 1, 0⟩
/-- a letter's matrix, by its code point -/
def lmx (c : Nat) : Mx := if c = 83 then mS else if c = 82 then mR else mr
def wmx (l : List Nat) : Mx := l.foldl (fun x c => Mx.tm x (lmx c)) Mx.one
theorem lmx_ok (c : Nat) : (lmx c).ok ∧ (lmx c).bd 1 := by
  unfold lmx
  split
  · exact ⟨by decide, by unfold mS Mx.bd; decide⟩
  · split
    · exact ⟨by decide, by unfold mR Mx.bd; decide⟩
    · exact ⟨by decide, by unfold mr Mx.bd; decide⟩
theorem wmx_fold (l : List Nat) : ∀ (x : Mx) (n : Nat), x.ok → x.bd n → (l.foldl (fun x c => Mx.tm x (lmx c)) x).ok ∧ (l.foldl (fun x c => Mx.tm x (lmx c)) x).bd (n + 2 * l.length) := by
  induction l with
  | nil => exact fun x n h1 h2 => ⟨h1, h2⟩
  | cons c l ih =>
    intro x n h1 h2
    obtain ⟨g1, g2⟩ := lmx_ok c
    obtain ⟨r1, r2⟩ := ih (Mx.tm x (lmx c)) (n + 2) (Mx.ok_tm h1 g1) (Mx.bd_tm h2 g2 (by omega))
    refine ⟨r1, ?_⟩
    rw [List.length_cons, show n + 2 * (l.length + 1) = n + 2 + 2 * l.length by omega]
    exact r2
theorem wmx_ok (l : List Nat) : (wmx l).ok := (wmx_fold l Mx.one 1 Mx.ok_one Mx.bd_one).1
theorem wmx_bd (l : List Nat) : (wmx l).bd (1 + 2 * l.length) := (wmx_fold l Mx.one 1 Mx.ok_one Mx.bd_one).2
def l_law_of_1t_b : CSs := (.cons (.ret (.tup (.cons (.tup (.cons (.int 0) (.cons (.neg (.int 1)) .nil))) (.cons (.tup (.cons (.int 1) (.cons (.int 0) .nil))) .nil)))) .nil)
def l_law_of_b : CSs := (.cons (.iff (.cmp .Eq (.slot 0) (.str "S")) l_law_of_1t_b .nil) (.cons (.ret (.ite (.cmp .Eq (.slot 0) (.str "R")) (.tup (.cons (.tup (.cons (.int 0) (.cons (.neg (.int 1)) .nil))) (.cons (.tup (.cons (.int 1) (.cons (.int 1) .nil))) .nil))) (.tup (.cons (.tup (.cons (.neg (.int 1)) (.cons (.neg (.int 1)) .nil))) (.cons (.tup (.cons (.int 1) (.cons (.int 0) .nil))) .nil))))) .nil))
def dl__law_of : DefC := ⟨"_law_of", ["_law_letter"], ["_law_letter"], l_law_of_b⟩
def sp__law_of : FS := fun ws S _ R => ∃ c : Nat, ws = [.t (.str (sL [c]))] ∧ R (.t (lmx c).t) S
theorem one_dec {a b : Nat} : decide ([a] = [b]) = decide (a = b) := by
  by_cases h : a = b
  · subst h
    rw [decide_eq_true rfl, decide_eq_true rfl]
  · rw [decide_eq_false h, decide_eq_false fun z => h (List.cons.inj z).1]
theorem gl__law_of {fs : Nat → FS} {ct : CT} : ∀ ws S EX R, ws.length = (dl__law_of).ps.length → sp__law_of ws S EX R → wDef (qB fs ct (dl__law_of).body) (dl__law_of).N.length ws S EX R := by
  rintro ws S EX R - ⟨c, rfl, hR⟩
  (simp! only [dl__law_of])
  (refine Tw.st ?_; simp! only [s_S, s_R, sL_beq, one_dec])
  unfold lmx at hR
  refine wBlIf_of (fun h => ?_) fun h => ?_
  · rw [if_pos (of_decide_eq_true h)] at hR
    (refine Tw.st ?_; simp! only [])
    exact hR
  · rw [if_neg (of_decide_eq_false h)] at hR
    (refine Tw.st ?_; simp! only [s_S, s_R, sL_beq, one_dec])
    refine wBlIf_of (fun h => ?_) fun h => ?_
    · rw [if_pos (of_decide_eq_true h)] at hR
      exact hR
    · rw [if_neg (of_decide_eq_false h)] at hR
      exact hR
def l_law_matrix_2b_b (j__law_times j__law_of : Nat) : CSs := (.cons (.asg (.nm 1) (.call j__law_times (.cons (.slot 1) (.cons (.call j__law_of (.cons (.slot 2) .nil)) .nil)))) .nil)
def l_law_matrix_b (j__law_times j__law_of : Nat) : CSs := (.cons (.asg (.nm 1) (.tup (.cons (.tup (.cons (.int 1) (.cons (.int 0) .nil))) (.cons (.tup (.cons (.int 0) (.cons (.int 1) .nil))) .nil)))) (.cons (.fr (.nm 2) (.str (.slot 0)) (l_law_matrix_2b_b j__law_times j__law_of)) (.cons (.ret (.slot 1)) .nil)))
def dl__law_matrix (j__law_times j__law_of : Nat) : DefC := ⟨"_law_matrix", ["_law_text_here", "_law_found", "_law_letter"], ["_law_text_here"], l_law_matrix_b j__law_times j__law_of⟩
def sp__law_matrix : FS := fun ws S _ R => ∃ l : List Nat, ws = [.t (.str (sL l))] ∧ l.length ≤ 10000 ∧ R (.t (wmx l).t) S
theorem gl__law_matrix {fs : Nat → FS} {ct : CT} {j__law_times : Nat} {j__law_of : Nat} (h__law_times : fs j__law_times = sp__law_times) (h__law_of : fs j__law_of = sp__law_of) : ∀ ws S EX R, ws.length = (dl__law_matrix j__law_times j__law_of).ps.length → sp__law_matrix ws S EX R → wDef (qB fs ct (dl__law_matrix j__law_times j__law_of).body) (dl__law_matrix j__law_times j__law_of).N.length ws S EX R := by
  rintro ws S EX R - ⟨l, rfl, hl, hR⟩
  (simp! only [h__law_times, h__law_of, dl__law_matrix])
  (refine Tw.st ?_; simp! only [h__law_times, h__law_of])
  (refine Tw.st ?_; simp! only [h__law_times, h__law_of, sL_list])
  refine forL_inv (fun xs env S' => S' = S ∧ ∃ (l' : List Nat) (y : Mx) (n : Nat), xs = (l'.map fun c => T.str (sL [c])) ∧ y.bd n ∧ n + 2 * l'.length ≤ 20001 ∧ l'.foldl (fun x c => Mx.tm x (lmx c)) y = wmx l ∧ ∃ w1, env = [some (.t (.str (sL l))), some (.t y.t), w1]) ?_ ?_ _ _ _ ⟨rfl, l, Mx.one, 1, rfl, Mx.bd_one, by omega, rfl, _, rfl⟩
  · rintro env S' ⟨rfl, l', y, n, hx, -, -, hp, w1, rfl⟩
    have e : l' = [] := List.map_eq_nil_iff.mp hx.symm
    subst e
    (simp! only [h__law_times, h__law_of])
    (refine Tw.st ?_; simp! only [h__law_times, h__law_of])
    rw [show y = wmx l from hp]
    exact hR
  · rintro x xs env S' Kn ⟨rfl, l', y, n, hx, hy, hn, hp, w1, rfl⟩ hK
    cases l' with
    | nil => cases hx
    | cons c l' =>
      rw [List.map_cons, List.cons.injEq] at hx
      obtain ⟨rfl, rfl⟩ := hx
      rw [List.length_cons] at hn
      (simp! only [h__law_times, h__law_of])
      (refine Tw.st ?_; simp! only [h__law_times, h__law_of])
      refine ⟨c, rfl, ?_⟩
      (simp! only [h__law_times, h__law_of])
      refine ⟨y, lmx c, rfl, Mx.bd_mono hy (by omega), Mx.bd_mono (lmx_ok c).2 (by decide), ?_⟩
      (simp! only [h__law_times, h__law_of])
      exact hK _ _ ⟨rfl, l', Mx.tm y (lmx c), n + 2, rfl, Mx.bd_tm hy (lmx_ok c).2 (by omega), by omega, hp, _, rfl⟩
/-- a word: letters S, R, r, in which S and the others take turns -/
def alt : List Nat → Prop
  | [] => True
  | [_] => True
  | a :: b :: r => ((a = 83) ↔ ¬ (b = 83)) ∧ alt (b :: r)
def Wd (l : List Nat) : Prop := (∀ c ∈ l, c = 83 ∨ c = 82 ∨ c = 114) ∧ alt l
theorem alt_push : ∀ {l : List Nat} {a b : Nat}, alt (l ++ [a]) → ((a = 83) ↔ ¬ (b = 83)) → alt (l ++ [a] ++ [b])
  | [], a, b, _, h => ⟨h, trivial⟩
  | [x], a, b, ⟨h1, _⟩, h => ⟨h1, h, trivial⟩
  | x :: y :: l, a, b, ⟨h1, h2⟩, h => ⟨h1, alt_push (l := y :: l) h2 h⟩
theorem wd_push {l : List Nat} {a b : Nat} (w : Wd (l ++ [a])) (hb : b = 83 ∨ b = 82 ∨ b = 114) (h : (a = 83) ↔ ¬ (b = 83)) : Wd (l ++ [a] ++ [b]) :=
  ⟨fun c hc => by
    rcases List.mem_append.mp hc with q | q
    · exact w.1 c q
    · rw [List.mem_singleton.mp q]
      exact hb, alt_push w.2 h⟩
theorem wd_one {b : Nat} (hb : b = 83 ∨ b = 82 ∨ b = 114) : Wd [b] := ⟨fun c hc => by rw [List.mem_singleton.mp hc]; exact hb, trivial⟩
def l_law_text_2b2t_b (j__law_next : Nat) : CSs := (.cons (.asg (.nm 2) (.ite (.cmp .Eq (.call j__law_next (.cons (.slot 0) (.cons (.int 2) .nil))) (.int 0)) (.str "S") (.slot 4))) .nil)
def l_law_text_2b2e_b (j__law_next : Nat) : CSs := (.cons (.asg (.nm 2) (.bin .Add (.slot 2) (.ite (.cmp .Eq (.idx (.slot 2) (.neg (.int 1))) (.str "S")) (.slot 4) (.str "S")))) .nil)
def l_law_text_2b_b (j__law_next : Nat) : CSs := (.cons (.asg (.nm 4) (.idx (.lst false (.cons (.str "R") (.cons (.str "r") .nil))) (.call j__law_next (.cons (.slot 0) (.cons (.int 2) .nil))))) (.cons (.iff (.cmp .Eq (.slot 2) (.str "")) (l_law_text_2b2t_b j__law_next) (l_law_text_2b2e_b j__law_next)) .nil))
def l_law_text_b (j__law_next : Nat) : CSs := (.cons (.asg (.nm 2) (.str "")) (.cons (.fr (.nm 3) (.rng1 (.slot 1)) (l_law_text_2b_b j__law_next)) (.cons (.ret (.slot 2)) .nil)))
def dl__law_text (j__law_next : Nat) : DefC := ⟨"_law_text", ["_law_source_here", "_law_size", "_law_found", "_law_k", "_law_turns"], ["_law_source_here", "_law_size"], l_law_text_b j__law_next⟩
def sp__law_text : FS := fun ws S _ R => ∃ i m n q, ws = [.ref i, .t (.int q)] ∧ S[i]? = some m ∧ Src n m ∧ 0 ≤ q ∧ q ≤ 1000 ∧ n + 2 * q ≤ 900000000 ∧ ∀ l m', Wd l → l.length = q.toNat → Src (n + 2 * q) m' → R (.t (.str (sL l))) (S.set i m')
theorem gl__law_text {fs : Nat → FS} {ct : CT} {j__law_next : Nat} (h__law_next : fs j__law_next = sp__law_next) : ∀ ws S EX R, ws.length = (dl__law_text j__law_next).ps.length → sp__law_text ws S EX R → wDef (qB fs ct (dl__law_text j__law_next).body) (dl__law_text j__law_next).N.length ws S EX R := by
  rintro ws S EX R - ⟨i, m, n, q, rfl, hm, hs, q0, q1, hn, hR⟩
  (simp! only [h__law_next, dl__law_text])
  (refine Tw.st ?_; simp! only [h__law_next])
  (refine Tw.st ?_; simp! only [h__law_next, s_0])
  refine ⟨by omega, by omega, ?_⟩
  refine forL_inv (fun xs env S' => ∃ (l : List Nat) (m' : MO), Wd l ∧ l.length + xs.length = q.toNat ∧ Src (n + 2 * l.length) m' ∧ S' = S.set i m' ∧ ∃ w1 w2, env = [some (.ref i), some (.t (.int q)), some (.t (.str (sL l))), w1, w2]) ?_ ?_ _ _ _ ⟨[], m, ⟨fun _ h => (nomatch h), trivial⟩, by rw [rngL_length]; simp, by simpa using hs, by
      rw [set_same hm], _, _, rfl⟩
  · rintro env S' ⟨l, m', hw, hl, hs', rfl, w1, w2, rfl⟩
    (simp! only [h__law_next])
    (refine Tw.st ?_; simp! only [h__law_next])
    rw [List.length_nil, Nat.add_zero] at hl
    exact hR l m' hw hl (hs'.mono (by omega))
  · rintro x xs env S' Kn ⟨l, m', hw, hl, hs', rfl, w1, w2, rfl⟩ hK
    rw [List.length_cons] at hl
    (simp! only [h__law_next])
    (refine Tw.st ?_; simp! only [h__law_next])
    refine sp_next (gs hm) hs' (by omega) (by decide) (by decide) fun r1 m1 a1 b1 s1 => ?_
    (simp! only [h__law_next])
    refine ix_mem a1 (by exact b1) fun t ht => ?_
    obtain ⟨b, rfl, hb⟩ : ∃ b, t = .str (sL [b]) ∧ (b = 82 ∨ b = 114) := by
      simp only [List.mem_cons, List.not_mem_nil, or_false] at ht
      rcases ht with rfl | rfl
      · exact ⟨82, by rw [s_R], .inl rfl⟩
      · exact ⟨114, by rw [s_r], .inr rfl⟩
    (refine Tw.st ?_; simp! only [h__law_next, s_0, sL_beq])
    have hb3 : b = 83 ∨ b = 82 ∨ b = 114 := .inr hb
    refine wBlIf_of (fun h => ?_) fun h => ?_
    · have e := of_decide_eq_true h
      subst e
      (refine Tw.st ?_; simp! only [h__law_next])
      refine sp_next (gs hm) s1 (by omega) (by decide) (by decide) fun r2 m2 a2 b2 s2 => ?_
      (simp! only [h__law_next])
      refine wBlIf_of (fun h2 => ?_) fun h2 => ?_
      · rw [s_S]
        exact hK _ _ ⟨[83], m2, wd_one (.inl rfl), by simp only [List.length_nil, List.length_singleton] at hl ⊢; omega, s2.mono (by show (_ : Int) ≤ n + 2 * ((1 : Nat) : Int); simp; omega), rfl, _, _, rfl⟩
      · exact hK _ _ ⟨[b], m2, wd_one hb3, by simp only [List.length_nil, List.length_singleton] at hl ⊢; omega, s2.mono (by show (_ : Int) ≤ n + 2 * ((1 : Nat) : Int); simp; omega), rfl, _, _, rfl⟩
    · have hne : l ≠ [] := of_decide_eq_false h
      obtain ⟨l0, c, rfl⟩ : ∃ l0 c, l = l0 ++ [c] := ⟨l.dropLast, l.getLast hne, (List.dropLast_concat_getLast hne).symm⟩
      rw [List.length_append, List.length_singleton] at hl hs'
      have hq : l0.length < 1000000 := by omega
      have hlen : (sL (l0 ++ [c])).length + 1 ≤ sizeLine := by rw [sL_len, sizeLine_eq, List.length_append, List.length_singleton]; omega
      rw [List.length_append, List.length_singleton] at s1
      (refine Tw.st ?_; simp! only [h__law_next])
      rw [ix_last hq]
      (simp! only [h__law_next, s_S, sL_beq, one_dec])
      have z : n + 2 * ((l0.length + 1 : Nat) : Int) + 1 ≤ n + 2 * ((l0.length + 1 + 1 : Nat) : Int) := by omega
      refine wBlIf_of (fun h2 => ?_) fun h2 => ?_
      · have e := of_decide_eq_true h2
        rw [sL_append]
        refine ⟨by rw [sL_len, sL_len, List.length_append, List.length_singleton, List.length_singleton]; omega, ?_⟩
        exact hK _ _ ⟨l0 ++ [c] ++ [b], m1, wd_push hw hb3 ⟨fun _ => by omega, fun _ => e⟩, by rw [List.length_append, List.length_append, List.length_singleton, List.length_singleton]; omega, by rw [List.length_append, List.length_append, List.length_singleton, List.length_singleton]; exact s1.mono z, rfl, _, _, rfl⟩
      · have e := of_decide_eq_false h2
        rw [sL_append]
        refine ⟨by rw [sL_len, sL_len, List.length_append, List.length_singleton, List.length_singleton]; omega, ?_⟩
        exact hK _ _ ⟨l0 ++ [c] ++ [83], m1, wd_push hw (.inl rfl) ⟨fun q => absurd q e, fun q => absurd rfl q⟩, by rw [List.length_append, List.length_append, List.length_singleton, List.length_singleton]; omega, by rw [List.length_append, List.length_append, List.length_singleton, List.length_singleton]; exact s1.mono z, rfl, _, _, rfl⟩
end Tw
set_option Elab.async false
set_option linter.all false
set_option maxRecDepth 100000
set_option maxHeartbeats 4000000
namespace Tw
set_option hygiene false in
local macro_rules | `(tactic| simp! only [$ls,*]) => `(tactic| try simp only [wDef, Tw.wpB_nil, qE_slot, qE_int, qE_str, qE_bl, qE_non, qE_cst, qE_ty, qE_tup, qE_lst, qE_emp, qE_bin, qE_neg, qE_cmp, qE_chn, qE_nt, qE_and, qE_or, qE_ite, qE_idx, qE_call, qE_b1, qE_b2, qE_lstOf, qE_app, qE_pop, qE_op, qL_nil, qL_cons, qI_op, oxW, ixW, b1xG, rzK, z1, z2, wZ1, wZ2, wSl2, wSlA, wSlB, wJoin, wIndex, wIndexT, isLW_t, isTW_t, wPopAt, wiEnum, wiZip, wiRng3, qE_comp, qE_compI, qA_nil, qA_cons, qAnd_nil, qAnd_cons1, qAnd_cons2, qOr_nil, qOr_cons1, qOr_cons2, qI_lst, qI_tup, qI_str, qI_rng1, qI_rng2, qG_nm, qG_tp, qGs_nil, qGs_cons, qS_asg, qS_asgC, qS_par, qS_par3, qS_aug, qS_setI, qS_ex, qS_iff, qS_fr, qS_whl, qS_ret, qS_retN, qS_brk, qS_cnt, qS_pas, qS_nev, qS_tryN, wTryN, qE_glb, qE_act, qE_callL, qS_raise0, qS_raise1, qS_tryAs, qS_tryNo, wRaise0, wRaise1, wTryAs, wTryNo, wActC_some, wAct, wCallL, wFld, wSeq, wNext, wAsg, wPar, wPar3, wAug, wSetI, wEx, wIf, wRet, wRetN, wBrk, wCnt, wNev, wFor, wiLst, wiTup, wiRng1, wiRng2, wComp, wSlot, wC, wOp1, wOp2, wB, waNil, waCons, wTup, wLst, mkL, wAnd, wOr, wNot, wIte, wChn, wCall, wApp, wPop, wLstOf, wEmp, wArity, CEs.len, gNm, gTp, gsNil, gsCons, gE, vw_0, vw_t1, vw_t2, dw_nil, dw_t, g1, g2, opG, auG, cmG, b1G, b2G, wBlIf_t, wBlIf_f, wBlIf_nt, cutW_tS, cutW_t, cutW_ref, okB, okT, W.t.injEq, Tw.T.bl.injEq, Tw.T.int.injEq, Tw.T.tup.injEq, Tw.T.lst.injEq, Tw.T.str.injEq, Tw.T.scr.injEq, W.ref.injEq, exists_eq_left', exists_eq_left, List.map_cons, List.map_nil, List.length_cons, List.length_nil, List.cons_append, List.nil_append, List.replicate_succ, List.replicate_zero, List.set_cons_zero, List.set_cons_succ, Nat.add_sub_cancel, Nat.sub_self, List.cons.injEq, and_true, true_and, Nat.reduceAdd, Nat.reduceSub, List.getElem?_cons_zero, List.getElem?_cons_succ, wYes, wipeE, List.take_length, oIsi2_ty, List.singleton_append, exists_const, sizeLine_eq, Nat.zero_le, Nat.reduceLeDiff, List.set_set, Int.reduceToNat, Int.reducePow, oEq_ii, oNe_ii, oIs_bb, oIsNot_bb, oIs_n, oIsNot_n, oLen_tup, oLen_lst, oLen_scr, oLt_ii, oLe_ii, oGt_ii, oGe_ii, oAdd_ii, oAugAdd_ii, oSub_ii, oMul_ii, oMod_ii, oDiv_ii, oPow_ii, oNeg_i, oAbs_i, oMax_ii, oMin_ii, oAdd_ll, oAdd_tt, oAdd_ss, oTuple_l, oTuple_t, oEq_str, oNe_str, beq_self_eq_true, Bool.not_true, Bool.not_false, take_set, take_push, take_set_push, oStr_i, ixT0, ixT1, ixT2, ixT3, ixL0, ixL1, ixL2, ixL3, $ls,*])
open PySem PySem.Spec PyProof.Rows L2
theorem half_odd {e : Nat} (h : (e : Int) % 2 = 1) : ∃ d, e = 2 * d + 1 := ⟨e / 2, by omega⟩
def lpower_of_2b1t_b (j_times k_IDENTITY : Nat) : CSs := (.cons (.asg (.nm 2) (.call j_times (.cons (.slot 2) (.cons (.slot 3) .nil)))) .nil)
def lpower_of_2b_b (j_times k_IDENTITY : Nat) : CSs := (.cons (.iff (.cmp .Eq (.bin .Mod (.slot 1) (.int 2)) (.int 1)) (lpower_of_2b1t_b j_times k_IDENTITY) .nil) (.cons (.asg (.nm 3) (.call j_times (.cons (.slot 3) (.cons (.slot 3) .nil)))) (.cons (.asg (.nm 1) (.bin .FloorDiv (.slot 1) (.int 2))) .nil)))
def lpower_of_b (j_times k_IDENTITY : Nat) : CSs := (.cons (.par 2 3 (.cons (.cst k_IDENTITY) (.cons (.slot 0) .nil))) (.cons (.whl (.cmp .Gt (.slot 1) (.int 0)) (lpower_of_2b_b j_times k_IDENTITY)) (.cons (.ret (.slot 2)) .nil)))
def dl_power_of (j_times k_IDENTITY : Nat) : DefC := ⟨"power_of", ["matrix", "exponent", "found", "factor"], ["matrix", "exponent"], lpower_of_b j_times k_IDENTITY⟩
def sp_power_of : FS := fun ws S _ R => ∃ (x : Mx) (q : Int), ws = [.t x.t, .t (.int q)] ∧ x.ok ∧ x.bd 200 ∧ 0 ≤ q ∧ q ≤ 200 ∧ R (.t (Mx.mpow x q.toNat).t) S
theorem gl_power_of {fs : Nat → FS} {ct : CT} {j_times : Nat} {k_IDENTITY : Nat} (h_times : fs j_times = sp_times) (h_IDENTITY : ct.c k_IDENTITY = c_IDENTITY) : ∀ ws S EX R, ws.length = (dl_power_of j_times k_IDENTITY).ps.length → sp_power_of ws S EX R → wDef (qB fs ct (dl_power_of j_times k_IDENTITY).body) (dl_power_of j_times k_IDENTITY).N.length ws S EX R := by
  rintro ws S EX R - ⟨x, q, rfl, hx, hb, q0, q1, hR⟩
  (simp! only [h_times, h_IDENTITY, dl_power_of])
  (refine Tw.st ?_; simp! only [h_times, h_IDENTITY])
  (refine Tw.st ?_; simp! only [h_times, h_IDENTITY])
  obtain ⟨n, rfl⟩ := Int.eq_ofNat_of_zero_le q0
  rw [show ((n : Int)).toNat = n by omega] at hR
  refine ⟨fun m env S' => S' = S ∧ ∃ (f g : Mx) (e a b : Nat), env = [some (.t x.t), some (.t (.int e)), some (.t f.t), some (.t g.t)] ∧ e = m ∧ f.ok ∧ g.ok ∧ f.bd a ∧ g.bd b ∧ a + (b + 1) * e ≤ 40201 ∧ Mx.tm f (Mx.mpow g e) = Mx.mpow x n, ⟨n, rfl, Mx.one, x, n, 1, 200, rfl, rfl, Mx.ok_one, hx, Mx.bd_one, hb, by omega, Mx.one_tm (Mx.mpow_ok hx n)⟩, ?_⟩
  rintro m env S' ⟨rfl, f, g, e, a, b, rfl, rfl, f1, v1, f2, v2, hab, hp⟩
  (simp! only [h_times, h_IDENTITY])
  refine wBlIf_of (fun hc => ?_) fun hc => ?_
  · have hc := of_decide_eq_true hc
    have he : 0 < e := by omega
    have hb1 : b + 1 ≤ (b + 1) * e := Nat.le_mul_of_pos_right _ he
    have gg := Mx.ok_tm v1 v1
    (refine Tw.st ?_; simp! only [h_times, h_IDENTITY])
    refine ⟨by decide, ?_⟩
    refine wBlIf_of (fun h2 => ?_) fun h2 => ?_
    · obtain ⟨d, rfl⟩ := half_odd (of_decide_eq_true h2)
      have e3 : (b + 1) * (2 * d + 1) = 2 * ((b + 1) * d) + (b + 1) := by rw [Nat.mul_add, Nat.mul_left_comm, Nat.mul_one]
      have e4 : (b + b + 1 + 1) * d = 2 * ((b + 1) * d) := by rw [show b + b + 1 + 1 = 2 * (b + 1) by omega, Nat.mul_assoc]
      (refine Tw.st ?_; simp! only [h_times, h_IDENTITY])
      refine ⟨f, g, rfl, Mx.bd_mono f2 (by omega), Mx.bd_mono v2 (by omega), ?_⟩
      (simp! only [h_times, h_IDENTITY])
      (refine Tw.st ?_; simp! only [h_times, h_IDENTITY])
      refine ⟨g, g, rfl, Mx.bd_mono v2 (by omega), Mx.bd_mono v2 (by omega), ?_⟩
      (simp! only [h_times, h_IDENTITY])
      (refine Tw.st ?_; simp! only [h_times, h_IDENTITY])
      refine ⟨⟨by decide, by decide⟩, d, by omega, Mx.tm f g, Mx.tm g g, d, a + b + 1, b + b + 1, ?_, rfl, Mx.ok_tm f1 v1, gg, Mx.bd_tm f2 v2 (Nat.le_refl _), Mx.bd_tm v2 v2 (Nat.le_refl _), by omega, ?_⟩
      · rw [show ((2 * d + 1 : Nat) : Int) / 2 = (d : Int) by omega]
        exact ⟨rfl, rfl, rfl⟩
      · rw [← hp, Mx.mpow_sq v1, Mx.tm_assoc f1.1 v1.1 (Mx.mpow_ok v1 _).1]
        have z := Mx.mpow_add v1 1 (2 * d)
        rw [Mx.mpow_one v1] at z
        rw [z, Nat.add_comm]
    · obtain ⟨d, rfl⟩ : ∃ d, e = 2 * d := ⟨e / 2, by have := of_decide_eq_false h2; omega⟩
      have e3 : (b + 1) * (2 * d) = 2 * ((b + 1) * d) := by rw [Nat.mul_left_comm]
      have e4 : (b + b + 1 + 1) * d = 2 * ((b + 1) * d) := by rw [show b + b + 1 + 1 = 2 * (b + 1) by omega, Nat.mul_assoc]
      (simp! only [h_times, h_IDENTITY])
      (refine Tw.st ?_; simp! only [h_times, h_IDENTITY])
      refine ⟨g, g, rfl, Mx.bd_mono v2 (by omega), Mx.bd_mono v2 (by omega), ?_⟩
      (simp! only [h_times, h_IDENTITY])
      (refine Tw.st ?_; simp! only [h_times, h_IDENTITY])
      refine ⟨⟨by decide, by decide⟩, d, by omega, f, Mx.tm g g, d, a, b + b + 1, ?_, rfl, f1, gg, f2, Mx.bd_tm v2 v2 (Nat.le_refl _), by omega, ?_⟩
      · rw [show ((2 * d : Nat) : Int) / 2 = (d : Int) by omega]
        exact ⟨rfl, rfl, rfl⟩
      · rw [← hp, Mx.mpow_sq v1]
  · have hc := of_decide_eq_false hc
    have e0 : e = 0 := by omega
    subst e0
    (refine Tw.st ?_; simp! only [h_times, h_IDENTITY])
    rw [show f = Mx.mpow x n from (Mx.tm_one f1).symm.trans hp]
    exact hR
def lpower_2t_b (j_need_matrix j_is_integer j_power_of j_inverse_of k_MAX_EXPONENT : Nat) : CSs := (.cons (.raise1 "BadNumber" "value" (.slot 1)) .nil)
def lpower_b (j_need_matrix j_is_integer j_power_of j_inverse_of k_MAX_EXPONENT : Nat) : CSs := (.cons (.ex (.call j_need_matrix (.cons (.slot 0) .nil))) (.cons (.iff (.or (.cons (.nt (.call j_is_integer (.cons (.slot 1) .nil))) (.cons (.nt (.chn .LtE .LtE (.neg (.cst k_MAX_EXPONENT)) (.slot 1) (.cst k_MAX_EXPONENT))) .nil))) (lpower_2t_b j_need_matrix j_is_integer j_power_of j_inverse_of k_MAX_EXPONENT) .nil) (.cons (.ret (.call j_power_of (.cons (.ite (.cmp .GtE (.slot 1) (.int 0)) (.slot 0) (.call j_inverse_of (.cons (.slot 0) .nil))) (.cons (.b1 .abs (.slot 1)) .nil)))) .nil)))
def dl_power (j_need_matrix j_is_integer j_power_of j_inverse_of k_MAX_EXPONENT : Nat) : DefC := ⟨"power", ["matrix", "exponent"], ["matrix", "exponent"], lpower_b j_need_matrix j_is_integer j_power_of j_inverse_of k_MAX_EXPONENT⟩
def c_MAX_EXPONENT : T := .int 200
def expT : T → Bool
  | .int q => decide (-200 ≤ q ∧ q ≤ 200)
  | _ => false
def sp_power : FS := fun ws S EX R => (∃ (x : Mx) (q : Int), ws = [.t x.t, .t (.int q)] ∧ x.ok ∧ x.bd 200 ∧ -200 ≤ q ∧ q ≤ 200 ∧ R (.t (Mx.zpow x q).t) S) ∨
  (∃ v w, ws = [.t v, .t w] ∧ knM v ∧ isMatT v = false ∧ EX (.exc "BadMatrix") S) ∨
  ∃ (x : Mx) (w : T), ws = [.t x.t, .t w] ∧ x.ok ∧ x.bd 100000 ∧ w.tyN.isSome = true ∧ expT w = false ∧ EX (.exc1 "BadNumber" "value" w) S
theorem gl_power {fs : Nat → FS} {ct : CT} {j_need_matrix : Nat} {j_is_integer : Nat} {j_power_of : Nat} {j_inverse_of : Nat} {k_MAX_EXPONENT : Nat} (h_need_matrix : fs j_need_matrix = sp_need_matrix) (h_is_integer : fs j_is_integer = sp_is_integer) (h_power_of : fs j_power_of = sp_power_of) (h_inverse_of : fs j_inverse_of = sp_inverse_of) (h_MAX_EXPONENT : ct.c k_MAX_EXPONENT = c_MAX_EXPONENT) : ∀ ws S EX R, ws.length = (dl_power j_need_matrix j_is_integer j_power_of j_inverse_of k_MAX_EXPONENT).ps.length → sp_power ws S EX R → wDef (qB fs ct (dl_power j_need_matrix j_is_integer j_power_of j_inverse_of k_MAX_EXPONENT).body) (dl_power j_need_matrix j_is_integer j_power_of j_inverse_of k_MAX_EXPONENT).N.length ws S EX R := by
  rintro ws S EX R - (⟨x, q, rfl, hx, hb, q0, q1, hR⟩ | ⟨v, w, rfl, hv, hm, hE⟩ | ⟨x, w, rfl, hx, hb, hw, hi, hE⟩)
  · (simp! only [h_need_matrix, h_is_integer, h_power_of, h_inverse_of, h_MAX_EXPONENT, dl_power])
    (refine Tw.st ?_; simp! only [h_need_matrix, h_is_integer, h_power_of, h_inverse_of, h_MAX_EXPONENT])
    refine nm_ok hx (Mx.bd_mono hb (by decide)) ?_
    (simp! only [h_need_matrix, h_is_integer, h_power_of, h_inverse_of, h_MAX_EXPONENT])
    (refine Tw.st ?_; simp! only [h_need_matrix, h_is_integer, h_power_of, h_inverse_of, h_MAX_EXPONENT])
    refine ⟨_, rfl, rfl, ?_⟩
    rw [show isIntT (.int q) = true from rfl]
    (simp! only [h_need_matrix, h_is_integer, h_power_of, h_inverse_of, h_MAX_EXPONENT, c_MAX_EXPONENT, decide_eq_true q0, decide_eq_true q1, Int.reduceNeg])
    (refine Tw.st ?_; simp! only [h_need_matrix, h_is_integer, h_power_of, h_inverse_of, h_MAX_EXPONENT])
    unfold Mx.zpow at hR
    refine wBlIf_of (fun h => ?_) fun h => ?_
    · have h0 := of_decide_eq_true h
      rw [if_pos h0] at hR
      rw [if_neg (by omega)]
      refine ⟨x, q, rfl, hx, hb, h0, q1, ?_⟩
      (simp! only [h_need_matrix, h_is_integer, h_power_of, h_inverse_of, h_MAX_EXPONENT])
      exact hR
    · have h0 := of_decide_eq_false h
      rw [if_neg h0] at hR
      refine ⟨x, rfl, ?_⟩
      (simp! only [h_need_matrix, h_is_integer, h_power_of, h_inverse_of, h_MAX_EXPONENT])
      rw [if_pos (by omega)]
      refine ⟨Mx.inv x, -q, rfl, Mx.ok_inv hx, Mx.bd_inv hb, by omega, by omega, ?_⟩
      (simp! only [h_need_matrix, h_is_integer, h_power_of, h_inverse_of, h_MAX_EXPONENT])
      exact hR
  · (simp! only [h_need_matrix, h_is_integer, h_power_of, h_inverse_of, h_MAX_EXPONENT, dl_power])
    (refine Tw.st ?_; simp! only [h_need_matrix, h_is_integer, h_power_of, h_inverse_of, h_MAX_EXPONENT])
    refine nm_no hv hm ?_
    (simp! only [h_need_matrix, h_is_integer, h_power_of, h_inverse_of, h_MAX_EXPONENT])
    exact hE
  · (simp! only [h_need_matrix, h_is_integer, h_power_of, h_inverse_of, h_MAX_EXPONENT, dl_power])
    (refine Tw.st ?_; simp! only [h_need_matrix, h_is_integer, h_power_of, h_inverse_of, h_MAX_EXPONENT])
    refine nm_ok hx hb ?_
    (simp! only [h_need_matrix, h_is_integer, h_power_of, h_inverse_of, h_MAX_EXPONENT])
    (refine Tw.st ?_; simp! only [h_need_matrix, h_is_integer, h_power_of, h_inverse_of, h_MAX_EXPONENT])
    refine ⟨_, rfl, hw, ?_⟩
    (simp! only [h_need_matrix, h_is_integer, h_power_of, h_inverse_of, h_MAX_EXPONENT])
    cases hq : isIntT w with
    | false =>
      (simp! only [h_need_matrix, h_is_integer, h_power_of, h_inverse_of, h_MAX_EXPONENT])
      (refine Tw.st ?_; simp! only [h_need_matrix, h_is_integer, h_power_of, h_inverse_of, h_MAX_EXPONENT])
      exact hE
    | true =>
      obtain ⟨q, rfl⟩ := isInt_of hq
      have hq2 : ¬ (-200 ≤ q ∧ q ≤ 200) := of_decide_eq_false hi
      (simp! only [h_need_matrix, h_is_integer, h_power_of, h_inverse_of, h_MAX_EXPONENT, c_MAX_EXPONENT, Int.reduceNeg])
      by_cases h1 : -200 ≤ q
      · rw [decide_eq_true h1]
        (simp! only [h_need_matrix, h_is_integer, h_power_of, h_inverse_of, h_MAX_EXPONENT])
        rw [decide_eq_false fun h => hq2 ⟨h1, h⟩]
        (simp! only [h_need_matrix, h_is_integer, h_power_of, h_inverse_of, h_MAX_EXPONENT])
        (refine Tw.st ?_; simp! only [h_need_matrix, h_is_integer, h_power_of, h_inverse_of, h_MAX_EXPONENT])
        exact hE
      · rw [decide_eq_false h1]
        (simp! only [h_need_matrix, h_is_integer, h_power_of, h_inverse_of, h_MAX_EXPONENT])
        (refine Tw.st ?_; simp! only [h_need_matrix, h_is_integer, h_power_of, h_inverse_of, h_MAX_EXPONENT])
        exact hE
def lorder_2t_b (j_need_matrix k_IDENTITY : Nat) : CSs := (.cons (.ret (.int 1)) .nil)
def lorder_b (j_need_matrix k_IDENTITY : Nat) : CSs := (.cons (.ex (.call j_need_matrix (.cons (.slot 0) .nil))) (.cons (.iff (.cmp .Eq (.slot 0) (.cst k_IDENTITY)) (lorder_2t_b j_need_matrix k_IDENTITY) .nil) (.cons (.asg (.nm 1) (.b1 .abs (.bin .Add (.idx (.idx (.slot 0) (.int 0)) (.int 0)) (.idx (.idx (.slot 0) (.int 1)) (.int 1))))) (.cons (.ret (.ite (.cmp .Eq (.slot 1) (.int 0)) (.int 2) (.ite (.cmp .Eq (.slot 1) (.int 1)) (.int 3) (.int 0)))) .nil))))
def dl_order (j_need_matrix k_IDENTITY : Nat) : DefC := ⟨"order", ["matrix", "trace"], ["matrix"], lorder_b j_need_matrix k_IDENTITY⟩
def sp_order : FS := fun ws S EX R => (∃ (x : Mx), ws = [.t x.t] ∧ x.ok ∧ x.bd 1000 ∧ R (.t (.int x.ord)) S) ∨ badM ws S EX R
theorem gl_order {fs : Nat → FS} {ct : CT} {j_need_matrix : Nat} {k_IDENTITY : Nat} (h_need_matrix : fs j_need_matrix = sp_need_matrix) (h_IDENTITY : ct.c k_IDENTITY = c_IDENTITY) : ∀ ws S EX R, ws.length = (dl_order j_need_matrix k_IDENTITY).ps.length → sp_order ws S EX R → wDef (qB fs ct (dl_order j_need_matrix k_IDENTITY).body) (dl_order j_need_matrix k_IDENTITY).N.length ws S EX R := by
  rintro ws S EX R - (⟨x, rfl, hx, hb, hR⟩ | ⟨v, rfl, hv, hm, hE⟩)
  · (simp! only [h_need_matrix, h_IDENTITY, dl_order])
    (refine Tw.st ?_; simp! only [h_need_matrix, h_IDENTITY])
    refine nm_ok hx (Mx.bd_mono hb (by decide)) ?_
    (simp! only [h_need_matrix, h_IDENTITY])
    (refine Tw.st ?_; simp! only [h_need_matrix, h_IDENTITY])
    rw [← one_t, oEq_eq (Mx.t_ok _) (Mx.t_ok _), Mx.eq_t]
    (simp! only [h_need_matrix, h_IDENTITY])
    unfold Mx.ord at hR
    refine wBlIf_of (fun h => ?_) fun h => ?_
    · rw [if_pos (of_decide_eq_true h)] at hR
      (refine Tw.st ?_; simp! only [h_need_matrix, h_IDENTITY])
      exact hR
    · rw [if_neg (of_decide_eq_false h)] at hR
      (refine Tw.st ?_; simp! only [h_need_matrix, h_IDENTITY, Mx.t_def x])
      obtain ⟨t, ht⟩ : ∃ t : Int, t = (if x.a + x.d < 0 then -(x.a + x.d) else x.a + x.d) := ⟨_, rfl⟩
      have e1 : t = ((x.a + x.d).natAbs : Int) := by
        rw [ht]
        split <;> omega
      rw [← ht]
      (refine Tw.st ?_; simp! only [h_need_matrix, h_IDENTITY])
      refine wBlIf_of (fun h => ?_) fun h => ?_
      · have z := of_decide_eq_true h
        rw [if_pos (by omega)] at hR
        exact hR
      · have z := of_decide_eq_false h
        rw [if_neg (by omega)] at hR
        refine wBlIf_of (fun h => ?_) fun h => ?_
        · have z := of_decide_eq_true h
          rw [if_pos (by omega)] at hR
          exact hR
        · have z := of_decide_eq_false h
          rw [if_neg (by omega)] at hR
          exact hR
  · (simp! only [h_need_matrix, h_IDENTITY, dl_order])
    (refine Tw.st ?_; simp! only [h_need_matrix, h_IDENTITY])
    refine nm_no hv hm ?_
    (simp! only [h_need_matrix, h_IDENTITY])
    exact hE
def lnormal_1t_b (j_is_unit j_normal_of : Nat) : CSs := (.cons (.raise0 "BadMatrix") .nil)
def lnormal_b (j_is_unit j_normal_of : Nat) : CSs := (.cons (.iff (.nt (.call j_is_unit (.cons (.slot 0) .nil))) (lnormal_1t_b j_is_unit j_normal_of) .nil) (.cons (.ret (.call j_normal_of (.cons (.slot 0) .nil))) .nil))
def dl_normal (j_is_unit j_normal_of : Nat) : DefC := ⟨"normal", ["rows"], ["rows"], lnormal_b j_is_unit j_normal_of⟩
def sp_normal : FS := fun ws S EX R => ∃ v : T, ws = [.t v] ∧ knM v ∧ (∀ m : Mx, v = m.t → m.det = 1 → R (.t m.nrm.t) S) ∧ (isUnitT v = false → EX (.exc "BadMatrix") S)
theorem gl_normal {fs : Nat → FS} {ct : CT} {j_is_unit : Nat} {j_normal_of : Nat} (h_is_unit : fs j_is_unit = sp_is_unit) (h_normal_of : fs j_normal_of = sp_normal_of) : ∀ ws S EX R, ws.length = (dl_normal j_is_unit j_normal_of).ps.length → sp_normal ws S EX R → wDef (qB fs ct (dl_normal j_is_unit j_normal_of).body) (dl_normal j_is_unit j_normal_of).N.length ws S EX R := by
  rintro ws S EX R - ⟨v, rfl, hv, hR, hE⟩
  (simp! only [h_is_unit, h_normal_of, dl_normal])
  (refine Tw.st ?_; simp! only [h_is_unit, h_normal_of])
  refine ⟨v, rfl, hv, ?_⟩
  (simp! only [h_is_unit, h_normal_of])
  refine wBlIf_of (fun h => ?_) fun h => ?_
  · obtain ⟨m, rfl, hd⟩ := isUnit_of h
    (refine Tw.st ?_; simp! only [h_is_unit, h_normal_of])
    refine ⟨m, rfl, ?_⟩
    (simp! only [h_is_unit, h_normal_of])
    exact hR m rfl hd
  · (refine Tw.st ?_; simp! only [h_is_unit, h_normal_of])
    exact hE h
theorem Mx.t_inj {x y : Mx} (h : x.t = y.t) : x = y := by
  have e := congrArg mxOf h
  rw [mxOf_t, mxOf_t] at e
  exact Option.some.inj e
def knTB : T → Bool
  | .tup xs => xs.all fun x => x.tyN.isSome
  | t => t.tyN.isSome
theorem knT_of {v : T} (h : knTB v = true) : knT v := by
  cases v <;> first
    | exact h
    | (intro x hx; exact List.all_eq_true.mp h x hx)
def bdB (m : Mx) : Bool := decide (m.a.natAbs < 2 ^ 100 ∧ m.b.natAbs < 2 ^ 100 ∧ m.c.natAbs < 2 ^ 100 ∧ m.d.natAbs < 2 ^ 100)
theorem bdB_of {m : Mx} (h : bdB m = true) : m.bd 100 := of_decide_eq_true (p := m.a.natAbs < 2 ^ 100 ∧ m.b.natAbs < 2 ^ 100 ∧ m.c.natAbs < 2 ^ 100 ∧ m.d.natAbs < 2 ^ 100) h
def knMB (v : T) : Bool := (match v with
  | .tup xs => xs.all knTB
  | t => t.tyN.isSome) && match mxOf v with
  | some m => bdB m
  | none => true
theorem knM_of {v : T} (h : knMB v = true) : knM v := by
  unfold knMB at h
  rw [Bool.and_eq_true] at h
  refine ⟨?_, fun m e => ?_⟩
  · have h := h.1
    cases v <;> first
      | exact h
      | (intro x hx; exact knT_of (List.all_eq_true.mp h x hx))
  · subst e
    rw [mxOf_t] at h
    exact Mx.bd_mono (k := 100) (bdB_of h.2) (by decide)
/-- known, no matrix, may be printed -/
def noMB (v : T) : Bool := knMB v && !isMatT v && v.prt
structure NoM (v : T) : Prop where
  kn : knM v
  no : isMatT v = false
  pr : v.prt = true
theorem noM_of {v : T} (h : noMB v = true) : NoM v := by
  unfold noMB at h
  simp only [Bool.and_eq_true, Bool.not_eq_true'] at h
  exact ⟨knM_of h.1.1, h.1.2, h.2⟩
theorem ix_all {xs : List T} {p : T → Bool} (h : xs.all p = true) {i : Int} (h0 : 0 ≤ i) (h1 : i < xs.length) {k : T → Prop} (hk : ∀ t, p t = true → k t) : oIx (.lst xs) (.int i) k :=
  ix_mem h0 h1 fun t ht => hk t (List.all_eq_true.mp h t ht)
def l_law_no_matrix_b (j__law_next : Nat) : CSs := (.cons (.asg (.nm 1) (.lst false (.cons .non (.cons (.bl true) (.cons (.int 0) (.cons (.int 1) (.cons (.str "") (.cons (.str "S") (.cons (.tup .nil) (.cons (.lst false .nil) (.cons (.emp 0) (.cons (.tup (.cons (.tup (.cons (.int 1) (.cons (.int 0) .nil))) .nil)) (.cons (.tup (.cons (.tup (.cons (.int 1) (.cons (.int 0) .nil))) (.cons (.tup (.cons (.int 0) (.cons (.int 2) .nil))) .nil))) (.cons (.tup (.cons (.tup (.cons (.int 0) (.cons (.int 1) .nil))) (.cons (.tup (.cons (.neg (.int 1)) (.cons (.int 0) .nil))) .nil))) (.cons (.tup (.cons (.tup (.cons (.neg (.int 1)) (.cons (.int 0) .nil))) (.cons (.tup (.cons (.int 0) (.cons (.neg (.int 1)) .nil))) .nil))) .nil))))))))))))))) (.cons (.asg (.nm 1) (.bin .Add (.slot 1) (.lst false (.cons (.lst false (.cons (.tup (.cons (.int 1) (.cons (.int 0) .nil))) (.cons (.tup (.cons (.int 0) (.cons (.int 1) .nil))) .nil))) (.cons (.tup (.cons (.tup (.cons (.int 1) (.cons (.int 0) .nil))) (.cons (.lst false (.cons (.int 0) (.cons (.int 1) .nil))) .nil))) (.cons (.tup (.cons (.tup (.cons (.bl true) (.cons (.int 0) .nil))) (.cons (.tup (.cons (.int 0) (.cons (.int 1) .nil))) .nil))) (.cons (.tup (.cons (.tup (.cons (.int 1) (.cons (.int 0) .nil))) (.cons (.tup (.cons (.int 0) (.cons (.int 1) .nil))) (.cons (.tup (.cons (.int 0) (.cons (.int 0) .nil))) .nil)))) (.cons (.tup (.cons (.int 1) (.cons (.int 0) (.cons (.int 0) (.cons (.int 1) .nil))))) .nil)))))))) (.cons (.ret (.idx (.bin .Add (.slot 1) (.lst false (.cons (.tup (.cons (.tup (.cons (.int 1) (.cons .non .nil))) (.cons (.tup (.cons (.int 0) (.cons (.int 1) .nil))) .nil))) (.cons (.tup (.cons (.tup (.cons (.int 0) (.cons (.int 0) .nil))) (.cons (.tup (.cons (.int 0) (.cons (.int 0) .nil))) .nil))) (.cons (.bin .Pow (.int 10) (.int 30)) (.cons (.tup (.cons (.tup (.cons (.int 2) (.cons (.int 1) .nil))) (.cons (.tup (.cons (.int 1) (.cons (.int 0) .nil))) .nil))) .nil)))))) (.call j__law_next (.cons (.slot 0) (.cons (.int 22) .nil))))) .nil)))
def dl__law_no_matrix (j__law_next : Nat) : DefC := ⟨"_law_no_matrix", ["_law_source_here", "_law_some"], ["_law_source_here"], l_law_no_matrix_b j__law_next⟩
def sp__law_no_matrix : FS := fun ws S _ R => ∃ i m n, ws = [.ref i] ∧ S[i]? = some m ∧ Src n m ∧ n ≤ 900000000 ∧ ∀ v m', NoM v → Src (n + 1) m' → R (.t v) (S.set i m')
theorem gl__law_no_matrix {fs : Nat → FS} {ct : CT} {j__law_next : Nat} (h__law_next : fs j__law_next = sp__law_next) : ∀ ws S EX R, ws.length = (dl__law_no_matrix j__law_next).ps.length → sp__law_no_matrix ws S EX R → wDef (qB fs ct (dl__law_no_matrix j__law_next).body) (dl__law_no_matrix j__law_next).N.length ws S EX R := by
  rintro ws S EX R - ⟨i, m, n, rfl, hm, hs, hn, hR⟩
  (simp! only [h__law_next, dl__law_no_matrix])
  (refine Tw.st ?_; simp! only [h__law_next])
  (refine Tw.st ?_; simp! only [h__law_next])
  (refine Tw.st ?_; simp! only [h__law_next])
  refine ⟨⟨by decide, by decide, by decide⟩, ?_⟩
  refine sp_next hm hs (by omega) (by decide) (by decide) fun r m' a b s => ?_
  (simp! only [h__law_next])
  refine ix_all (p := noMB) (by decide +kernel) a (by exact b) fun v hv => ?_
  (simp! only [h__law_next])
  exact hR v m' (noM_of hv) s
end Tw
set_option Elab.async false
set_option linter.all false
set_option maxRecDepth 100000
set_option maxHeartbeats 4000000
set_option exponentiation.threshold 1000
namespace K06
set_option hygiene false in
local macro_rules | `(tactic| simp! only [$ls,*]) => `(tactic| try simp only [wDef, Tw.wpB_nil, qE_slot, qE_int, qE_str, qE_bl, qE_non, qE_cst, qE_ty, qE_tup, qE_lst, qE_emp, qE_bin, qE_neg, qE_cmp, qE_chn, qE_nt, qE_and, qE_or, qE_ite, qE_idx, qE_call, qE_b1, qE_b2, qE_lstOf, qE_app, qE_pop, qE_op, qL_nil, qL_cons, qI_op, oxW, ixW, b1xG, rzK, z1, z2, wZ1, wZ2, wSl2, wSlA, wSlB, wJoin, wIndex, wIndexT, isLW_t, isTW_t, wPopAt, wiEnum, wiZip, wiRng3, qE_comp, qE_compI, qA_nil, qA_cons, qAnd_nil, qAnd_cons1, qAnd_cons2, qOr_nil, qOr_cons1, qOr_cons2, qI_lst, qI_tup, qI_str, qI_rng1, qI_rng2, qG_nm, qG_tp, qGs_nil, qGs_cons, qS_asg, qS_asgC, qS_par, qS_par3, qS_aug, qS_setI, qS_ex, qS_iff, qS_fr, qS_whl, qS_ret, qS_retN, qS_brk, qS_cnt, qS_pas, qS_nev, qS_tryN, wTryN, qE_glb, qE_act, qE_callL, qS_raise0, qS_raise1, qS_tryAs, qS_tryNo, wRaise0, wRaise1, wTryAs, wTryNo, wActC_some, wAct, wCallL, wFld, wSeq, wNext, wAsg, wPar, wPar3, wAug, wSetI, wEx, wIf, wRet, wRetN, wBrk, wCnt, wNev, wFor, wiLst, wiTup, wiRng1, wiRng2, wComp, wSlot, wC, wOp1, wOp2, wB, waNil, waCons, wTup, wLst, mkL, wAnd, wOr, wNot, wIte, wChn, wCall, wApp, wPop, wLstOf, wEmp, wArity, CEs.len, gNm, gTp, gsNil, gsCons, gE, vw_0, vw_t1, vw_t2, dw_nil, dw_t, g1, g2, opG, auG, cmG, b1G, b2G, wBlIf_t, wBlIf_f, wBlIf_nt, cutW_tS, cutW_t, cutW_ref, okB, okT, W.t.injEq, Tw.T.bl.injEq, Tw.T.int.injEq, Tw.T.tup.injEq, Tw.T.lst.injEq, Tw.T.str.injEq, Tw.T.scr.injEq, W.ref.injEq, exists_eq_left', exists_eq_left, List.map_cons, List.map_nil, List.length_cons, List.length_nil, List.cons_append, List.nil_append, List.replicate_succ, List.replicate_zero, List.set_cons_zero, List.set_cons_succ, Nat.add_sub_cancel, Nat.sub_self, List.cons.injEq, and_true, true_and, Nat.reduceAdd, Nat.reduceSub, List.getElem?_cons_zero, List.getElem?_cons_succ, wYes, wipeE, List.take_length, oIsi2_ty, List.singleton_append, exists_const, sizeLine_eq, Nat.zero_le, Nat.reduceLeDiff, List.set_set, Int.reduceToNat, Int.reducePow, oEq_ii, oNe_ii, oIs_bb, oIsNot_bb, oIs_n, oIsNot_n, oLen_tup, oLen_lst, oLen_scr, oLt_ii, oLe_ii, oGt_ii, oGe_ii, oAdd_ii, oAugAdd_ii, oSub_ii, oMul_ii, oMod_ii, oDiv_ii, oPow_ii, oNeg_i, oAbs_i, oMax_ii, oMin_ii, oAdd_ll, oAdd_tt, oAdd_ss, oTuple_l, oTuple_t, oEq_str, oNe_str, beq_self_eq_true, Bool.not_true, Bool.not_false, take_set, take_push, take_set_push, oStr_i, ixT0, ixT1, ixT2, ixT3, ixL0, ixL1, ixL2, ixL3, $ls,*])
open PySem PySem.Spec PyProof.Rows L2 Tw
abbrev top (i : Nat) : Stmt := PySem.Challenge.pw_cuspfloor_k06_errors_of_matrices.main.body.getD i (.Pass ⟨0, 0, 0, 0⟩)
abbrev d__law_source : DefC := dl__law_source
abbrev d__law_next : DefC := dl__law_next
abbrev d__law_no_matrix : DefC := dl__law_no_matrix 1
def b__law_no_exponent : CSs := (.cons (.ret (.idx (.lst false (.cons .non (.cons (.bl true) (.cons (.bl false) (.cons (.int 201) (.cons (.neg (.int 201)) (.cons (.bin .Pow (.int 10) (.int 30)) (.cons (.str "1") (.cons (.str "") (.cons (.tup .nil) (.cons (.tup (.cons (.int 1) .nil)) (.cons (.lst false (.cons (.int 2) .nil)) (.cons (.emp 0) (.cons (.tup (.cons (.tup (.cons (.int 1) (.cons (.int 0) .nil))) (.cons (.tup (.cons (.int 0) (.cons (.int 1) .nil))) .nil))) .nil)))))))))))))) (.call 1 (.cons (.slot 0) (.cons (.int 13) .nil))))) .nil)
def d__law_no_exponent : DefC := ⟨"_law_no_exponent", ["_law_source_here"], ["_law_source_here"], b__law_no_exponent⟩
abbrev d_is_integer : DefC := dl_is_integer
abbrev d_is_pair : DefC := dl_is_pair 4
abbrev d_is_unit : DefC := dl_is_unit 5
abbrev d_normal_of : DefC := dl_normal_of
abbrev d_is_matrix : DefC := dl_is_matrix 6 7
abbrev d_need_matrix : DefC := dl_need_matrix 8
abbrev d_times : DefC := dl_times 7
abbrev d_product : DefC := dl_product 9 10 0
abbrev d_inverse_of : DefC := dl_inverse_of 7
abbrev d_inverse : DefC := dl_inverse 9 12
abbrev d_order : DefC := dl_order 9 0
abbrev d_power_of : DefC := dl_power_of 10 0
abbrev d_power : DefC := dl_power 9 4 15 12 1
def b__law_wrong_2y : CSs := (.cons (.ex (.act 0)) .nil)
def b__law_wrong_2u : CSs := (.cons (.asg (.nm 1) (.slot 2)) .nil)
def b__law_wrong_3t : CSs := (.cons (.ret (.str "")) .nil)
def b__law_wrong_4t : CSs := (.cons (.ret (.bin .Add (.str "number ") (.b1 .repr (.op (.fld "value") (.cons (.slot 1) .nil))))) .nil)
def b__law_wrong : CSs := (.cons (.asg (.nm 1) .non) (.cons (.tryAs 2 ["MatrixError", "LimitError", "WalkError"] b__law_wrong_2y b__law_wrong_2u) (.cons (.iff (.cmp .Is (.slot 1) .non) b__law_wrong_3t .nil) (.cons (.iff (.op .isx (.cons (.slot 1) (.cons (.glb "BadNumber") .nil))) b__law_wrong_4t .nil) (.cons (.ret (.ite (.op .isx (.cons (.slot 1) (.cons (.glb "BadMatrix") .nil))) (.str "matrix") (.str "other"))) .nil)))))
def d__law_wrong : DefC := ⟨"_law_wrong", ["_law_deed", "_law_caught", "error"], ["_law_deed"], b__law_wrong⟩
def b__law_turn_right_9t : CSs := (.cons (.ret (.bl false)) .nil)
def b__law_turn_right : CSs := (.cons (.asg (.nm 1) (.idx (.lst false (.cons (.tup (.cons (.tup (.cons (.int 1) (.cons (.int 0) .nil))) (.cons (.tup (.cons (.int 0) (.cons (.int 1) .nil))) .nil))) (.cons (.tup (.cons (.tup (.cons (.int 0) (.cons (.neg (.int 1)) .nil))) (.cons (.tup (.cons (.int 1) (.cons (.int 0) .nil))) .nil))) (.cons (.tup (.cons (.tup (.cons (.int 2) (.cons (.int 1) .nil))) (.cons (.tup (.cons (.int 1) (.cons (.int 1) .nil))) .nil))) (.cons (.tup (.cons (.tup (.cons (.neg (.int 3)) (.cons (.int 4) .nil))) (.cons (.tup (.cons (.int 2) (.cons (.neg (.int 3)) .nil))) .nil))) .nil))))) (.call 1 (.cons (.slot 0) (.cons (.int 4) .nil))))) (.cons (.asg (.tp (.cons (.nm 2) (.cons (.nm 3) .nil))) (.tup (.cons (.call 2 (.cons (.slot 0) .nil)) (.cons (.call 3 (.cons (.slot 0) .nil)) .nil)))) (.cons (.asg (.nm 4) (.lst true (.cons (.callL 0 (.call 11 (.cons (.slot 2) .nil))) .nil))) (.cons (.ex (.app 4 (.callL 0 (.call 11 (.cons (.slot 1) (.cons (.slot 2) (.cons .non .nil))))))) (.cons (.ex (.app 4 (.callL 0 (.call 11 (.cons (.slot 2) (.cons (.slot 1) .nil)))))) (.cons (.ex (.app 4 (.callL 0 (.call 13 (.cons (.slot 2) .nil))))) (.cons (.ex (.app 4 (.callL 0 (.call 14 (.cons (.slot 2) .nil))))) (.cons (.ex (.app 4 (.callL 0 (.call 16 (.cons (.slot 2) (.cons (.slot 3) .nil)))))) (.cons (.iff (.or (.cons (.cmp .NotEq (.slot 4) (.bin .Mult (.lst false (.cons (.str "matrix") .nil)) (.int 6))) (.cons (.cmp .NotEq (.callL 0 (.call 16 (.cons (.slot 1) (.cons (.slot 3) .nil)))) (.bin .Add (.str "number ") (.b1 .repr (.slot 3)))) .nil))) b__law_turn_right_9t .nil) (.cons (.asg (.nm 4) (.lst true (.cons (.callL 0 (.call 11 (.cons (.slot 1) (.cons (.slot 1) .nil)))) .nil))) (.cons (.ex (.app 4 (.callL 0 (.call 16 (.cons (.slot 1) (.cons (.idx (.lst false (.cons (.neg (.int 200)) (.cons (.int 0) (.cons (.int 200) .nil)))) (.call 1 (.cons (.slot 0) (.cons (.int 3) .nil)))) .nil)))))) (.cons (.ex (.app 4 (.callL 0 (.call 8 (.cons (.slot 2) .nil))))) (.cons (.ret (.and (.cons (.cmp .Eq (.slot 4) (.lst false (.cons (.str "") (.cons (.str "") (.cons (.str "") .nil))))) (.cons (.cmp .Is (.call 8 (.cons (.slot 2) .nil)) (.bl false)) .nil)))) .nil)))))))))))))
def d__law_turn_right : DefC := ⟨"_law_turn_right", ["_law_source_here", "_law_good", "_law_bad", "_law_far", "_law_told"], ["_law_source_here"], b__law_turn_right⟩
abbrev d_normal : DefC := dl_normal 6 7
def b_law_1b2b1t : CSs := (.cons (.ret (.bl false)) .nil)
def b_law_1b2b : CSs := (.cons (.iff (.nt (.call 19 (.cons (.slot 2) .nil))) b_law_1b2b1t .nil) .nil)
def b_law_1b : CSs := (.cons (.asg (.nm 2) (.call 0 (.cons (.slot 0) (.cons (.slot 1) .nil)))) (.cons (.fr (.nm 3) (.rng1 (.int 6)) b_law_1b2b) .nil))
def b_law_2t : CSs := (.cons (.ret (.bl false)) .nil)
def b_law : CSs := (.cons (.fr (.nm 1) (.rng1 (.b2 .max (.int 1) (.b2 .min (.int 3) (.b1 .len (.slot 0))))) b_law_1b) (.cons (.iff (.cmp .NotEq (.lst false (.cons (.call 20 (.cons (.tup (.cons (.tup (.cons (.int 0) (.cons (.int 1) .nil))) (.cons (.tup (.cons (.neg (.int 1)) (.cons (.int 0) .nil))) .nil))) .nil)) (.cons (.call 20 (.cons (.tup (.cons (.tup (.cons (.neg (.int 1)) (.cons (.int 0) .nil))) (.cons (.tup (.cons (.int 0) (.cons (.neg (.int 1)) .nil))) .nil))) .nil)) .nil))) (.lst false (.cons (.tup (.cons (.tup (.cons (.int 0) (.cons (.neg (.int 1)) .nil))) (.cons (.tup (.cons (.int 1) (.cons (.int 0) .nil))) .nil))) (.cons (.tup (.cons (.tup (.cons (.int 1) (.cons (.int 0) .nil))) (.cons (.tup (.cons (.int 0) (.cons (.int 1) .nil))) .nil))) .nil)))) b_law_2t .nil) (.cons (.ret (.cmp .Eq (.callL 0 (.call 20 (.cons (.tup (.cons (.tup (.cons (.int 1) (.cons (.int 2) .nil))) (.cons (.tup (.cons (.int 3) (.cons (.int 4) .nil))) .nil))) .nil))) (.str "matrix"))) .nil)))
def d_law : DefC := ⟨"law", ["_law_script", "_law_k", "_law_source_here", "_law_turn"], ["_law_script"], b_law⟩
def nm : List (Str × Option Nat) := [("_law_source", some 2), ("_law_next", some 2), ("_law_no_matrix", some 1), ("_law_no_exponent", some 1), ("is_integer", some 1), ("is_pair", some 1), ("is_unit", some 1), ("normal_of", some 1), ("is_matrix", some 1), ("need_matrix", some 1), ("times", some 2), ("product", none), ("inverse_of", some 1), ("inverse", some 1), ("order", some 1), ("power_of", some 2), ("power", some 2), ("_law_source", some 2), ("_law_source", some 2), ("_law_turn_right", some 1), ("normal", some 1), ("_law_source", some 2), ("_law_source", some 2), ("law", some 1)]
def nt : List (Str × Nat) := [("_law_wrong", 17)]
def fr : List Str := ["len", "isinstance", "int", "bool", "tuple", "abs", "repr", "range", "max", "min", "BadWord", "BadFloor", "BadPlace", "BadExpression", "BadText", "TooLong", "TooMany", "NotMember"]
def ec : List Str := ["MatrixError", "LimitError", "WalkError", "BadMatrix", "BadNumber"]
def cst : List (Str × T) := [("IDENTITY", (.tup [(.tup [(.int 1), (.int 0)]), (.tup [(.int 0), (.int 1)])])), ("MAX_EXPONENT", (.int 200))]
def fn : List He.DefD := [dOf (top 24), dOf (top 25), dOf (top 26), dOf (top 27), dOf (top 9), dOf (top 10), dOf (top 11), dOf (top 12), dOf (top 13), dOf (top 14), dOf (top 15), dOf (top 19), dOf (top 16), dOf (top 20), dOf (top 22), dOf (top 17), dOf (top 21), dOf (top 28), dOf (top 29), dOf (top 18), dOf (top 30), dOfI "BadNumber" (top 5)]
def ns : List Str := ["_law_source", "_law_next", "_law_no_matrix", "_law_no_exponent", "is_integer", "is_pair", "is_unit", "normal_of", "is_matrix", "need_matrix", "times", "product", "inverse_of", "inverse", "order", "power_of", "power", "_law_wrong", "_law_turn_right", "normal", "law", "MatrixError", "LimitError", "WalkError", "BadMatrix", "BadNumber"]
def rw_ : RowD := ⟨fr, cst.map (·.1), nm, nt, ec⟩
theorem chk__law_source : chkD rw_ 0 false false d__law_source (top 24) = true := by decide +kernel
theorem bnd__law_source : BindOk d__law_source.ps (top 24) := fun _ _ _ _ _ _ _ us hl => match us, hl with
  | [_, _], _ => rfl
theorem chk__law_next : chkD rw_ 1 false false d__law_next (top 25) = true := by decide +kernel
theorem bnd__law_next : BindOk d__law_next.ps (top 25) := fun _ _ _ _ _ _ _ us hl => match us, hl with
  | [_, _], _ => rfl
theorem chk__law_no_matrix : chkD rw_ 2 false false d__law_no_matrix (top 26) = true := by decide +kernel
theorem bnd__law_no_matrix : BindOk d__law_no_matrix.ps (top 26) := fun _ _ _ _ _ _ _ us hl => match us, hl with
  | [_], _ => rfl
theorem chk__law_no_exponent : chkD rw_ 3 false false d__law_no_exponent (top 27) = true := by decide +kernel
theorem bnd__law_no_exponent : BindOk d__law_no_exponent.ps (top 27) := fun _ _ _ _ _ _ _ us hl => match us, hl with
  | [_], _ => rfl
theorem chk_is_integer : chkD rw_ 4 false false d_is_integer (top 9) = true := by decide +kernel
theorem bnd_is_integer : BindOk d_is_integer.ps (top 9) := fun _ _ _ _ _ _ _ us hl => match us, hl with
  | [_], _ => rfl
theorem chk_is_pair : chkD rw_ 5 false false d_is_pair (top 10) = true := by decide +kernel
theorem bnd_is_pair : BindOk d_is_pair.ps (top 10) := fun _ _ _ _ _ _ _ us hl => match us, hl with
  | [_], _ => rfl
theorem chk_is_unit : chkD rw_ 6 false false d_is_unit (top 11) = true := by decide +kernel
theorem bnd_is_unit : BindOk d_is_unit.ps (top 11) := fun _ _ _ _ _ _ _ us hl => match us, hl with
  | [_], _ => rfl
theorem chk_normal_of : chkD rw_ 7 false false d_normal_of (top 12) = true := by decide +kernel
theorem bnd_normal_of : BindOk d_normal_of.ps (top 12) := fun _ _ _ _ _ _ _ us hl => match us, hl with
  | [_], _ => rfl
theorem chk_is_matrix : chkD rw_ 8 false false d_is_matrix (top 13) = true := by decide +kernel
theorem bnd_is_matrix : BindOk d_is_matrix.ps (top 13) := fun _ _ _ _ _ _ _ us hl => match us, hl with
  | [_], _ => rfl
theorem chk_need_matrix : chkD rw_ 9 false false d_need_matrix (top 14) = true := by decide +kernel
theorem bnd_need_matrix : BindOk d_need_matrix.ps (top 14) := fun _ _ _ _ _ _ _ us hl => match us, hl with
  | [_], _ => rfl
theorem chk_times : chkD rw_ 10 false false d_times (top 15) = true := by decide +kernel
theorem bnd_times : BindOk d_times.ps (top 15) := fun _ _ _ _ _ _ _ us hl => match us, hl with
  | [_, _], _ => rfl
theorem chk_product : chkD rw_ 11 false false d_product (top 19) = true := by decide +kernel
theorem bnd_product : BindS [] "matrices" (top 19) := fun _ _ _ _ _ _ _ us rest hl => match us, rest, hl with
  | [], [], _ => rfl
  | [], _ :: _, _ => rfl
theorem chk_inverse_of : chkD rw_ 12 false false d_inverse_of (top 16) = true := by decide +kernel
theorem bnd_inverse_of : BindOk d_inverse_of.ps (top 16) := fun _ _ _ _ _ _ _ us hl => match us, hl with
  | [_], _ => rfl
theorem chk_inverse : chkD rw_ 13 false false d_inverse (top 20) = true := by decide +kernel
theorem bnd_inverse : BindOk d_inverse.ps (top 20) := fun _ _ _ _ _ _ _ us hl => match us, hl with
  | [_], _ => rfl
theorem chk_order : chkD rw_ 14 false false d_order (top 22) = true := by decide +kernel
theorem bnd_order : BindOk d_order.ps (top 22) := fun _ _ _ _ _ _ _ us hl => match us, hl with
  | [_], _ => rfl
theorem chk_power_of : chkD rw_ 15 false false d_power_of (top 17) = true := by decide +kernel
theorem bnd_power_of : BindOk d_power_of.ps (top 17) := fun _ _ _ _ _ _ _ us hl => match us, hl with
  | [_, _], _ => rfl
theorem chk_power : chkD rw_ 16 false false d_power (top 21) = true := by decide +kernel
theorem bnd_power : BindOk d_power.ps (top 21) := fun _ _ _ _ _ _ _ us hl => match us, hl with
  | [_, _], _ => rfl
theorem chk__law_wrong : chkD rw_ 17 false true d__law_wrong (top 28) = true := by decide +kernel
theorem bnd__law_wrong : BindOk d__law_wrong.ps (top 28) := fun _ _ _ _ _ _ _ us hl => match us, hl with
  | [_], _ => rfl
theorem chk__law_turn_right : chkD rw_ 19 true false d__law_turn_right (top 29) = true := by decide +kernel
theorem bnd__law_turn_right : BindOk d__law_turn_right.ps (top 29) := fun _ _ _ _ _ _ _ us hl => match us, hl with
  | [_], _ => rfl
theorem chk_normal : chkD rw_ 20 false false d_normal (top 18) = true := by decide +kernel
theorem bnd_normal : BindOk d_normal.ps (top 18) := fun _ _ _ _ _ _ _ us hl => match us, hl with
  | [_], _ => rfl
theorem chk_law : chkD rw_ 23 true false d_law (top 30) = true := by decide +kernel
theorem bnd_law : BindOk d_law.ps (top 30) := fun _ _ _ _ _ _ _ us hl => match us, hl with
  | [_], _ => rfl
def noEB (v : T) : Bool := v.tyN.isSome && !expT v && v.prt && decide (v.rp.length ≤ 1000)
structure NoE (v : T) : Prop where
  kn : v.tyN.isSome = true
  no : expT v = false
  pr : v.prt = true
  len : v.rp.length ≤ 1000
theorem noE_of {v : T} (h : noEB v = true) : NoE v := by
  unfold noEB at h
  simp only [Bool.and_eq_true, Bool.not_eq_true'] at h
  exact ⟨h.1.1.1, h.1.1.2, h.1.2, of_decide_eq_true h.2⟩
def sp__law_no_exponent : FS := fun ws S _ R => ∃ i m n, ws = [.ref i] ∧ S[i]? = some m ∧ Src n m ∧ n ≤ 900000000 ∧ ∀ v m', NoE v → Src (n + 1) m' → R (.t v) (S.set i m')
def sp__law_wrong : FS → FS := fun th ws S EX R => clT th [] S (fun e S' => (e = .exc "BadMatrix" ∧ R (.t (.str (Str.ofString "matrix"))) (S'.take S.length)) ∨ ∃ v, e = .exc1 "BadNumber" "value" v ∧ v.prt = true ∧ v.rp.length ≤ 1000 ∧ R (.t (.str (Str.ofString "number " ++ v.rp))) (S'.take S.length)) fun _ S' => R (.t (.str (Str.ofString ""))) (S'.take S.length)
def sp__law_turn_right : FS := fun ws S _ R => ∃ i m n, ws = [.ref i] ∧ S[i]? = some m ∧ Src n m ∧ n ≤ 700000000 ∧ ∀ m', Src (n + 10) m' → R (.t (.bl true)) (S.set i m')
def sp_law : FS := fun ws S _ R => ∃ ns, ws = [.t (.scr ns)] ∧ ns.length ≤ 63 ∧ S = [] ∧ ∀ S', R (.t (.bl true)) S'
def fs : Nat → FS
  | 0 => sp__law_source
  | 1 => sp__law_next
  | 2 => sp__law_no_matrix
  | 3 => sp__law_no_exponent
  | 4 => sp_is_integer
  | 5 => sp_is_pair
  | 6 => sp_is_unit
  | 7 => sp_normal_of
  | 8 => sp_is_matrix
  | 9 => sp_need_matrix
  | 10 => sp_times
  | 11 => sp_product
  | 12 => sp_inverse_of
  | 13 => sp_inverse
  | 14 => sp_order
  | 15 => sp_power_of
  | 16 => sp_power
  | 17 => sp__law_source
  | 18 => sp__law_source
  | 19 => sp__law_turn_right
  | 20 => sp_normal
  | 21 => sp__law_source
  | 22 => sp__law_source
  | _ => sp_law
def ft : Nat → FS → FS
  | _ => sp__law_wrong
def ct : CT := ⟨fun j => (cst.map (·.2)).getD j .non, ft, none⟩
theorem ft_0 : ct.ft 0 = sp__law_wrong := rfl
theorem fs_0 : fs 0 = sp__law_source := rfl
theorem fs_1 : fs 1 = sp__law_next := rfl
theorem fs_2 : fs 2 = sp__law_no_matrix := rfl
theorem fs_3 : fs 3 = sp__law_no_exponent := rfl
theorem fs_4 : fs 4 = sp_is_integer := rfl
theorem fs_5 : fs 5 = sp_is_pair := rfl
theorem fs_6 : fs 6 = sp_is_unit := rfl
theorem fs_7 : fs 7 = sp_normal_of := rfl
theorem fs_8 : fs 8 = sp_is_matrix := rfl
theorem fs_9 : fs 9 = sp_need_matrix := rfl
theorem fs_10 : fs 10 = sp_times := rfl
theorem fs_11 : fs 11 = sp_product := rfl
theorem fs_12 : fs 12 = sp_inverse_of := rfl
theorem fs_13 : fs 13 = sp_inverse := rfl
theorem fs_14 : fs 14 = sp_order := rfl
theorem fs_15 : fs 15 = sp_power_of := rfl
theorem fs_16 : fs 16 = sp_power := rfl
theorem fs_17 : fs 17 = sp__law_source := rfl
theorem fs_18 : fs 18 = sp__law_source := rfl
theorem fs_19 : fs 19 = sp__law_turn_right := rfl
theorem fs_20 : fs 20 = sp_normal := rfl
theorem fs_21 : fs 21 = sp__law_source := rfl
theorem fs_22 : fs 22 = sp__law_source := rfl
theorem fs_23 : fs 23 = sp_law := rfl
theorem ct_0 : ct.c 0 = c_IDENTITY := rfl
theorem ct_1 : ct.c 1 = (.int 200) := rfl
def g__law_source := gl__law_source (fs := fs) (ct := ct)
def g__law_next := gl__law_next (fs := fs) (ct := ct)
def g__law_no_matrix := gl__law_no_matrix (fs := fs) (ct := ct) (j__law_next := 1) rfl
def g_is_integer := gl_is_integer (fs := fs) (ct := ct)
def g_is_pair := gl_is_pair (fs := fs) (ct := ct) (j_is_integer := 4) rfl
def g_is_unit := gl_is_unit (fs := fs) (ct := ct) (j_is_pair := 5) rfl
def g_normal_of := gl_normal_of (fs := fs) (ct := ct)
def g_is_matrix := gl_is_matrix (fs := fs) (ct := ct) (j_is_unit := 6) (j_normal_of := 7) rfl rfl
def g_need_matrix := gl_need_matrix (fs := fs) (ct := ct) (j_is_matrix := 8) rfl
def g_times := gl_times (fs := fs) (ct := ct) (j_normal_of := 7) rfl
def g_product := gl_product (fs := fs) (ct := ct) (j_need_matrix := 9) (j_times := 10) (k_IDENTITY := 0) rfl rfl rfl
def g_inverse_of := gl_inverse_of (fs := fs) (ct := ct) (j_normal_of := 7) rfl
def g_inverse := gl_inverse (fs := fs) (ct := ct) (j_need_matrix := 9) (j_inverse_of := 12) rfl rfl
def g_order := gl_order (fs := fs) (ct := ct) (j_need_matrix := 9) (k_IDENTITY := 0) rfl rfl
def g_power_of := gl_power_of (fs := fs) (ct := ct) (j_times := 10) (k_IDENTITY := 0) rfl rfl
def g_power := gl_power (fs := fs) (ct := ct) (j_need_matrix := 9) (j_is_integer := 4) (j_power_of := 15) (j_inverse_of := 12) (k_MAX_EXPONENT := 1) rfl rfl rfl rfl rfl
def g_normal := gl_normal (fs := fs) (ct := ct) (j_is_unit := 6) (j_normal_of := 7) rfl rfl
theorem wr_mat {th : FS} {ws : List W} {S : Sto} {EX : T → Sto → Prop} {R : KW} (h : ∀ (E' : T → Sto → Prop) (R' : KW), E' (.exc "BadMatrix") S → th [] S E' R') (hR : R (.t (.str (Str.ofString "matrix"))) S) : sp__law_wrong th ws S EX R := clT.of (h _ _ (.inl ⟨rfl, by rw [List.take_length]; exact hR⟩))
theorem wr_num {th : FS} {ws : List W} {S : Sto} {EX : T → Sto → Prop} {R : KW} (v : T) (hv : v.prt = true) (hl : v.rp.length ≤ 1000) (h : ∀ (E' : T → Sto → Prop) (R' : KW), E' (.exc1 "BadNumber" "value" v) S → th [] S E' R') (hR : R (.t (.str (Str.ofString "number " ++ v.rp))) S) : sp__law_wrong th ws S EX R := clT.of (h _ _ (.inr ⟨v, rfl, hv, hl, by rw [List.take_length]; exact hR⟩))
theorem wr_no {th : FS} {ws : List W} {S : Sto} {EX : T → Sto → Prop} {R : KW} (S2 : Sto) (hl : S2.length = S.length) (h : ∀ (E' : T → Sto → Prop) (R' : KW), (∀ z, R' z S2) → th [] S E' R') (hR : R (.t (.str (Str.ofString ""))) S2) : sp__law_wrong th ws S EX R := clT.of (h _ _ fun _ => by rw [← hl, List.take_length]; exact hR)
theorem g__law_no_exponent : ∀ ws S EX R, ws.length = d__law_no_exponent.ps.length → sp__law_no_exponent ws S EX R → wDef (qB fs ct d__law_no_exponent.body) d__law_no_exponent.N.length ws S EX R := by
  rintro ws S EX R - ⟨i, m, n, rfl, hm, hs, hn, hR⟩
  (simp! only [fs_0, fs_1, fs_2, fs_3, fs_4, fs_5, fs_6, fs_7, fs_8, fs_9, fs_10, fs_11, fs_12, fs_13, fs_14, fs_15, fs_16, fs_17, fs_18, fs_19, fs_20, fs_21, fs_22, fs_23, ct_0, ct_1, ft_0, d__law_no_exponent])
  (refine Tw.st ?_; simp! only [fs_0, fs_1, fs_2, fs_3, fs_4, fs_5, fs_6, fs_7, fs_8, fs_9, fs_10, fs_11, fs_12, fs_13, fs_14, fs_15, fs_16, fs_17, fs_18, fs_19, fs_20, fs_21, fs_22, fs_23, ct_0, ct_1, ft_0])
  refine ⟨⟨by decide, by decide, by decide⟩, ?_⟩
  refine sp_next hm hs (by omega) (by decide) (by decide) fun r m' a b s => ?_
  (simp! only [fs_0, fs_1, fs_2, fs_3, fs_4, fs_5, fs_6, fs_7, fs_8, fs_9, fs_10, fs_11, fs_12, fs_13, fs_14, fs_15, fs_16, fs_17, fs_18, fs_19, fs_20, fs_21, fs_22, fs_23, ct_0, ct_1, ft_0])
  refine ix_all (p := noEB) (by decide +kernel) a (by exact b) fun v hv => ?_
  (simp! only [fs_0, fs_1, fs_2, fs_3, fs_4, fs_5, fs_6, fs_7, fs_8, fs_9, fs_10, fs_11, fs_12, fs_13, fs_14, fs_15, fs_16, fs_17, fs_18, fs_19, fs_20, fs_21, fs_22, fs_23, ct_0, ct_1, ft_0])
  exact hR v m' (noE_of hv) s
theorem g__law_wrong : ∀ m th S EX R, sp__law_wrong th [.ref m] S EX R → wDef (qB fs { ct with th := some (m, clT th) } d__law_wrong.body) d__law_wrong.N.length [.ref m] S EX R := by
  rintro m th S EX R h
  (simp! only [fs_0, fs_1, fs_2, fs_3, fs_4, fs_5, fs_6, fs_7, fs_8, fs_9, fs_10, fs_11, fs_12, fs_13, fs_14, fs_15, fs_16, fs_17, fs_18, fs_19, fs_20, fs_21, fs_22, fs_23, ct_0, ct_1, ft_0, d__law_wrong])
  (refine Tw.st ?_; simp! only [fs_0, fs_1, fs_2, fs_3, fs_4, fs_5, fs_6, fs_7, fs_8, fs_9, fs_10, fs_11, fs_12, fs_13, fs_14, fs_15, fs_16, fs_17, fs_18, fs_19, fs_20, fs_21, fs_22, fs_23, ct_0, ct_1, ft_0])
  (refine Tw.st ?_; simp! only [fs_0, fs_1, fs_2, fs_3, fs_4, fs_5, fs_6, fs_7, fs_8, fs_9, fs_10, fs_11, fs_12, fs_13, fs_14, fs_15, fs_16, fs_17, fs_18, fs_19, fs_20, fs_21, fs_22, fs_23, ct_0, ct_1, ft_0])
  (refine Tw.st ?_; simp! only [fs_0, fs_1, fs_2, fs_3, fs_4, fs_5, fs_6, fs_7, fs_8, fs_9, fs_10, fs_11, fs_12, fs_13, fs_14, fs_15, fs_16, fs_17, fs_18, fs_19, fs_20, fs_21, fs_22, fs_23, ct_0, ct_1, ft_0])
  refine clT.mono h (fun e S' hE => ?_) fun w S' hR => ?_
  · rcases hE with ⟨rfl, hR⟩ | ⟨v, rfl, hv, hlen, hR⟩
    · refine ⟨true, by decide +kernel, fun _ => ?_, fun h => nomatch h⟩
      (simp! only [fs_0, fs_1, fs_2, fs_3, fs_4, fs_5, fs_6, fs_7, fs_8, fs_9, fs_10, fs_11, fs_12, fs_13, fs_14, fs_15, fs_16, fs_17, fs_18, fs_19, fs_20, fs_21, fs_22, fs_23, ct_0, ct_1, ft_0])
      (refine Tw.st ?_; simp! only [fs_0, fs_1, fs_2, fs_3, fs_4, fs_5, fs_6, fs_7, fs_8, fs_9, fs_10, fs_11, fs_12, fs_13, fs_14, fs_15, fs_16, fs_17, fs_18, fs_19, fs_20, fs_21, fs_22, fs_23, ct_0, ct_1, ft_0])
      (simp! only [fs_0, fs_1, fs_2, fs_3, fs_4, fs_5, fs_6, fs_7, fs_8, fs_9, fs_10, fs_11, fs_12, fs_13, fs_14, fs_15, fs_16, fs_17, fs_18, fs_19, fs_20, fs_21, fs_22, fs_23, ct_0, ct_1, ft_0])
      (refine Tw.st ?_; simp! only [fs_0, fs_1, fs_2, fs_3, fs_4, fs_5, fs_6, fs_7, fs_8, fs_9, fs_10, fs_11, fs_12, fs_13, fs_14, fs_15, fs_16, fs_17, fs_18, fs_19, fs_20, fs_21, fs_22, fs_23, ct_0, ct_1, ft_0])
      (simp! only [fs_0, fs_1, fs_2, fs_3, fs_4, fs_5, fs_6, fs_7, fs_8, fs_9, fs_10, fs_11, fs_12, fs_13, fs_14, fs_15, fs_16, fs_17, fs_18, fs_19, fs_20, fs_21, fs_22, fs_23, ct_0, ct_1, ft_0, T.isNon])
      (refine Tw.st ?_; simp! only [fs_0, fs_1, fs_2, fs_3, fs_4, fs_5, fs_6, fs_7, fs_8, fs_9, fs_10, fs_11, fs_12, fs_13, fs_14, fs_15, fs_16, fs_17, fs_18, fs_19, fs_20, fs_21, fs_22, fs_23, ct_0, ct_1, ft_0])
      rw [isx_0 (b := false) (by decide +kernel)]
      (simp! only [fs_0, fs_1, fs_2, fs_3, fs_4, fs_5, fs_6, fs_7, fs_8, fs_9, fs_10, fs_11, fs_12, fs_13, fs_14, fs_15, fs_16, fs_17, fs_18, fs_19, fs_20, fs_21, fs_22, fs_23, ct_0, ct_1, ft_0])
      (refine Tw.st ?_; simp! only [fs_0, fs_1, fs_2, fs_3, fs_4, fs_5, fs_6, fs_7, fs_8, fs_9, fs_10, fs_11, fs_12, fs_13, fs_14, fs_15, fs_16, fs_17, fs_18, fs_19, fs_20, fs_21, fs_22, fs_23, ct_0, ct_1, ft_0])
      rw [isx_0 (b := true) (by decide +kernel)]
      (simp! only [fs_0, fs_1, fs_2, fs_3, fs_4, fs_5, fs_6, fs_7, fs_8, fs_9, fs_10, fs_11, fs_12, fs_13, fs_14, fs_15, fs_16, fs_17, fs_18, fs_19, fs_20, fs_21, fs_22, fs_23, ct_0, ct_1, ft_0])
      exact hR
    · refine ⟨true, mt_1 (by decide +kernel), fun _ => ?_, fun h => nomatch h⟩
      (simp! only [fs_0, fs_1, fs_2, fs_3, fs_4, fs_5, fs_6, fs_7, fs_8, fs_9, fs_10, fs_11, fs_12, fs_13, fs_14, fs_15, fs_16, fs_17, fs_18, fs_19, fs_20, fs_21, fs_22, fs_23, ct_0, ct_1, ft_0])
      (refine Tw.st ?_; simp! only [fs_0, fs_1, fs_2, fs_3, fs_4, fs_5, fs_6, fs_7, fs_8, fs_9, fs_10, fs_11, fs_12, fs_13, fs_14, fs_15, fs_16, fs_17, fs_18, fs_19, fs_20, fs_21, fs_22, fs_23, ct_0, ct_1, ft_0])
      (simp! only [fs_0, fs_1, fs_2, fs_3, fs_4, fs_5, fs_6, fs_7, fs_8, fs_9, fs_10, fs_11, fs_12, fs_13, fs_14, fs_15, fs_16, fs_17, fs_18, fs_19, fs_20, fs_21, fs_22, fs_23, ct_0, ct_1, ft_0])
      (refine Tw.st ?_; simp! only [fs_0, fs_1, fs_2, fs_3, fs_4, fs_5, fs_6, fs_7, fs_8, fs_9, fs_10, fs_11, fs_12, fs_13, fs_14, fs_15, fs_16, fs_17, fs_18, fs_19, fs_20, fs_21, fs_22, fs_23, ct_0, ct_1, ft_0])
      (simp! only [fs_0, fs_1, fs_2, fs_3, fs_4, fs_5, fs_6, fs_7, fs_8, fs_9, fs_10, fs_11, fs_12, fs_13, fs_14, fs_15, fs_16, fs_17, fs_18, fs_19, fs_20, fs_21, fs_22, fs_23, ct_0, ct_1, ft_0, T.isNon])
      (refine Tw.st ?_; simp! only [fs_0, fs_1, fs_2, fs_3, fs_4, fs_5, fs_6, fs_7, fs_8, fs_9, fs_10, fs_11, fs_12, fs_13, fs_14, fs_15, fs_16, fs_17, fs_18, fs_19, fs_20, fs_21, fs_22, fs_23, ct_0, ct_1, ft_0])
      rw [isx_1 (b := true) (by decide +kernel)]
      (simp! only [fs_0, fs_1, fs_2, fs_3, fs_4, fs_5, fs_6, fs_7, fs_8, fs_9, fs_10, fs_11, fs_12, fs_13, fs_14, fs_15, fs_16, fs_17, fs_18, fs_19, fs_20, fs_21, fs_22, fs_23, ct_0, ct_1, ft_0])
      (refine Tw.st ?_; simp! only [fs_0, fs_1, fs_2, fs_3, fs_4, fs_5, fs_6, fs_7, fs_8, fs_9, fs_10, fs_11, fs_12, fs_13, fs_14, fs_15, fs_16, fs_17, fs_18, fs_19, fs_20, fs_21, fs_22, fs_23, ct_0, ct_1, ft_0])
      refine ⟨_, _, rfl, by decide +kernel, ?_⟩
      rw [oRepr_eq hv]
      (simp! only [fs_0, fs_1, fs_2, fs_3, fs_4, fs_5, fs_6, fs_7, fs_8, fs_9, fs_10, fs_11, fs_12, fs_13, fs_14, fs_15, fs_16, fs_17, fs_18, fs_19, fs_20, fs_21, fs_22, fs_23, ct_0, ct_1, ft_0])
      exact ⟨Nat.le_trans (Nat.add_le_add_left hlen 7) (by decide), hR⟩
  · (refine Tw.st ?_; simp! only [fs_0, fs_1, fs_2, fs_3, fs_4, fs_5, fs_6, fs_7, fs_8, fs_9, fs_10, fs_11, fs_12, fs_13, fs_14, fs_15, fs_16, fs_17, fs_18, fs_19, fs_20, fs_21, fs_22, fs_23, ct_0, ct_1, ft_0])
    (simp! only [fs_0, fs_1, fs_2, fs_3, fs_4, fs_5, fs_6, fs_7, fs_8, fs_9, fs_10, fs_11, fs_12, fs_13, fs_14, fs_15, fs_16, fs_17, fs_18, fs_19, fs_20, fs_21, fs_22, fs_23, ct_0, ct_1, ft_0, T.isNon])
    (refine Tw.st ?_; simp! only [fs_0, fs_1, fs_2, fs_3, fs_4, fs_5, fs_6, fs_7, fs_8, fs_9, fs_10, fs_11, fs_12, fs_13, fs_14, fs_15, fs_16, fs_17, fs_18, fs_19, fs_20, fs_21, fs_22, fs_23, ct_0, ct_1, ft_0])
    exact hR
theorem tsp {S X : Sto} {i : Nat} {m : MO} (h : i < S.length) : ((S ++ X).set i m).take S.length = S.set i m := by
  rw [List.set_append_left _ _ h, ← List.length_set (i := i) (a := m) (as := S), List.take_left']
  rfl
theorem g__law_turn_right : ∀ ws S EX R, ws.length = d__law_turn_right.ps.length → sp__law_turn_right ws S EX R → wDef (qB fs ct d__law_turn_right.body) d__law_turn_right.N.length ws S EX R := by
  rintro ws S EX R - ⟨i, m, n, rfl, hm, hs, hn, hR⟩
  (simp! only [fs_0, fs_1, fs_2, fs_3, fs_4, fs_5, fs_6, fs_7, fs_8, fs_9, fs_10, fs_11, fs_12, fs_13, fs_14, fs_15, fs_16, fs_17, fs_18, fs_19, fs_20, fs_21, fs_22, fs_23, ct_0, ct_1, ft_0, d__law_turn_right])
  (refine Tw.st ?_; simp! only [fs_0, fs_1, fs_2, fs_3, fs_4, fs_5, fs_6, fs_7, fs_8, fs_9, fs_10, fs_11, fs_12, fs_13, fs_14, fs_15, fs_16, fs_17, fs_18, fs_19, fs_20, fs_21, fs_22, fs_23, ct_0, ct_1, ft_0])
  refine sp_next hm hs (by omega) (by decide) (by decide) fun r1 m1 a1 b1 s1 => ?_
  (simp! only [fs_0, fs_1, fs_2, fs_3, fs_4, fs_5, fs_6, fs_7, fs_8, fs_9, fs_10, fs_11, fs_12, fs_13, fs_14, fs_15, fs_16, fs_17, fs_18, fs_19, fs_20, fs_21, fs_22, fs_23, ct_0, ct_1, ft_0])
  refine ix_all (p := fun v => isMatT v && knMB v) (by decide +kernel) a1 (by exact b1) fun g hg => ?_
  rw [Bool.and_eq_true] at hg
  obtain ⟨x, rfl, hx⟩ := isMat_of hg.1
  have hb : x.bd 100 := by
    have z := hg.2
    unfold knMB at z
    rw [Bool.and_eq_true, mxOf_t] at z
    exact bdB_of z.2
  (simp! only [fs_0, fs_1, fs_2, fs_3, fs_4, fs_5, fs_6, fs_7, fs_8, fs_9, fs_10, fs_11, fs_12, fs_13, fs_14, fs_15, fs_16, fs_17, fs_18, fs_19, fs_20, fs_21, fs_22, fs_23, ct_0, ct_1, ft_0])
  (refine Tw.st ?_; simp! only [fs_0, fs_1, fs_2, fs_3, fs_4, fs_5, fs_6, fs_7, fs_8, fs_9, fs_10, fs_11, fs_12, fs_13, fs_14, fs_15, fs_16, fs_17, fs_18, fs_19, fs_20, fs_21, fs_22, fs_23, ct_0, ct_1, ft_0])
  refine ⟨i, m1, _, rfl, gs hm, s1, by omega, fun v m2 hv s2 => ?_⟩
  (simp! only [fs_0, fs_1, fs_2, fs_3, fs_4, fs_5, fs_6, fs_7, fs_8, fs_9, fs_10, fs_11, fs_12, fs_13, fs_14, fs_15, fs_16, fs_17, fs_18, fs_19, fs_20, fs_21, fs_22, fs_23, ct_0, ct_1, ft_0])
  refine ⟨i, m2, _, rfl, gs hm, s2, by omega, fun w m3 hw s3 => ?_⟩
  rw [List.set_set]
  obtain ⟨S0, hS0⟩ : ∃ S0, S0 = S.set i m3 := ⟨_, rfl⟩
  have h0 : S0[i]? = some m3 := by rw [hS0]; exact gs hm
  have hl : S.length = S0.length := by rw [hS0, List.length_set]
  have hR0 : ∀ m', Src (n + 10) m' → R (.t (.bl true)) (S0.set i m') := fun m' h => by
    rw [hS0, List.set_set]
    exact hR m' h
  rw [← hS0, hl]
  (simp! only [fs_0, fs_1, fs_2, fs_3, fs_4, fs_5, fs_6, fs_7, fs_8, fs_9, fs_10, fs_11, fs_12, fs_13, fs_14, fs_15, fs_16, fs_17, fs_18, fs_19, fs_20, fs_21, fs_22, fs_23, ct_0, ct_1, ft_0])
  (refine Tw.st ?_; simp! only [fs_0, fs_1, fs_2, fs_3, fs_4, fs_5, fs_6, fs_7, fs_8, fs_9, fs_10, fs_11, fs_12, fs_13, fs_14, fs_15, fs_16, fs_17, fs_18, fs_19, fs_20, fs_21, fs_22, fs_23, ct_0, ct_1, ft_0])
  refine wr_mat (fun E' R' hE => sp_product_bad (v := v) [] [] (by decide) (fun _ h => nomatch h) hv.kn hv.no hE) ?_
  (simp! only [fs_0, fs_1, fs_2, fs_3, fs_4, fs_5, fs_6, fs_7, fs_8, fs_9, fs_10, fs_11, fs_12, fs_13, fs_14, fs_15, fs_16, fs_17, fs_18, fs_19, fs_20, fs_21, fs_22, fs_23, ct_0, ct_1, ft_0])
  (refine Tw.st ?_; simp! only [fs_0, fs_1, fs_2, fs_3, fs_4, fs_5, fs_6, fs_7, fs_8, fs_9, fs_10, fs_11, fs_12, fs_13, fs_14, fs_15, fs_16, fs_17, fs_18, fs_19, fs_20, fs_21, fs_22, fs_23, ct_0, ct_1, ft_0])
  refine ⟨_, _, rfl, push_get, ?_⟩
  refine wr_mat (fun E' R' hE => sp_product_bad (v := v) [x] [.non] (by simp) (fun z h => by rw [List.mem_singleton.mp h]; exact ⟨hx, Mx.bd_mono hb (by decide)⟩) hv.kn hv.no hE) ?_
  rw [take_push]
  refine ⟨_, rfl, _, _, push_get, rfl, by decide, ?_⟩
  rw [set_push]
  (simp! only [fs_0, fs_1, fs_2, fs_3, fs_4, fs_5, fs_6, fs_7, fs_8, fs_9, fs_10, fs_11, fs_12, fs_13, fs_14, fs_15, fs_16, fs_17, fs_18, fs_19, fs_20, fs_21, fs_22, fs_23, ct_0, ct_1, ft_0])
  (refine Tw.st ?_; simp! only [fs_0, fs_1, fs_2, fs_3, fs_4, fs_5, fs_6, fs_7, fs_8, fs_9, fs_10, fs_11, fs_12, fs_13, fs_14, fs_15, fs_16, fs_17, fs_18, fs_19, fs_20, fs_21, fs_22, fs_23, ct_0, ct_1, ft_0])
  refine ⟨_, _, rfl, push_get, ?_⟩
  refine wr_mat (fun E' R' hE => sp_product_bad (v := v) [] [x.t] (by simp) (fun _ h => nomatch h) hv.kn hv.no hE) ?_
  rw [take_push]
  refine ⟨_, rfl, _, _, push_get, rfl, by decide, ?_⟩
  rw [set_push]
  (simp! only [fs_0, fs_1, fs_2, fs_3, fs_4, fs_5, fs_6, fs_7, fs_8, fs_9, fs_10, fs_11, fs_12, fs_13, fs_14, fs_15, fs_16, fs_17, fs_18, fs_19, fs_20, fs_21, fs_22, fs_23, ct_0, ct_1, ft_0])
  (refine Tw.st ?_; simp! only [fs_0, fs_1, fs_2, fs_3, fs_4, fs_5, fs_6, fs_7, fs_8, fs_9, fs_10, fs_11, fs_12, fs_13, fs_14, fs_15, fs_16, fs_17, fs_18, fs_19, fs_20, fs_21, fs_22, fs_23, ct_0, ct_1, ft_0])
  refine ⟨_, _, rfl, push_get, ?_⟩
  refine wr_mat (fun E' R' hE => .inr ⟨v, rfl, hv.kn, hv.no, hE⟩) ?_
  rw [take_push]
  refine ⟨_, rfl, _, _, push_get, rfl, by decide, ?_⟩
  rw [set_push]
  (simp! only [fs_0, fs_1, fs_2, fs_3, fs_4, fs_5, fs_6, fs_7, fs_8, fs_9, fs_10, fs_11, fs_12, fs_13, fs_14, fs_15, fs_16, fs_17, fs_18, fs_19, fs_20, fs_21, fs_22, fs_23, ct_0, ct_1, ft_0])
  (refine Tw.st ?_; simp! only [fs_0, fs_1, fs_2, fs_3, fs_4, fs_5, fs_6, fs_7, fs_8, fs_9, fs_10, fs_11, fs_12, fs_13, fs_14, fs_15, fs_16, fs_17, fs_18, fs_19, fs_20, fs_21, fs_22, fs_23, ct_0, ct_1, ft_0])
  refine ⟨_, _, rfl, push_get, ?_⟩
  refine wr_mat (fun E' R' hE => .inr ⟨v, rfl, hv.kn, hv.no, hE⟩) ?_
  rw [take_push]
  refine ⟨_, rfl, _, _, push_get, rfl, by decide, ?_⟩
  rw [set_push]
  (simp! only [fs_0, fs_1, fs_2, fs_3, fs_4, fs_5, fs_6, fs_7, fs_8, fs_9, fs_10, fs_11, fs_12, fs_13, fs_14, fs_15, fs_16, fs_17, fs_18, fs_19, fs_20, fs_21, fs_22, fs_23, ct_0, ct_1, ft_0])
  (refine Tw.st ?_; simp! only [fs_0, fs_1, fs_2, fs_3, fs_4, fs_5, fs_6, fs_7, fs_8, fs_9, fs_10, fs_11, fs_12, fs_13, fs_14, fs_15, fs_16, fs_17, fs_18, fs_19, fs_20, fs_21, fs_22, fs_23, ct_0, ct_1, ft_0])
  refine ⟨_, _, rfl, push_get, ?_⟩
  refine wr_mat (fun E' R' hE => .inr (.inl ⟨v, w, rfl, hv.kn, hv.no, hE⟩)) ?_
  rw [take_push]
  refine ⟨_, rfl, _, _, push_get, rfl, by decide, ?_⟩
  rw [set_push]
  (simp! only [fs_0, fs_1, fs_2, fs_3, fs_4, fs_5, fs_6, fs_7, fs_8, fs_9, fs_10, fs_11, fs_12, fs_13, fs_14, fs_15, fs_16, fs_17, fs_18, fs_19, fs_20, fs_21, fs_22, fs_23, ct_0, ct_1, ft_0])
  (refine Tw.st ?_; simp! only [fs_0, fs_1, fs_2, fs_3, fs_4, fs_5, fs_6, fs_7, fs_8, fs_9, fs_10, fs_11, fs_12, fs_13, fs_14, fs_15, fs_16, fs_17, fs_18, fs_19, fs_20, fs_21, fs_22, fs_23, ct_0, ct_1, ft_0])
  refine ⟨by decide, by decide, by decide +kernel, ?_⟩
  dsimp only
  rw [vw_rt push_get]
  dsimp only
  rw [show (List.replicate (6 : Int).toNat [T.str (Str.ofString "matrix")]).flatten = [.str (Str.ofString "matrix"), .str (Str.ofString "matrix"), .str (Str.ofString "matrix"), .str (Str.ofString "matrix"), .str (Str.ofString "matrix"), .str (Str.ofString "matrix")] from rfl]
  rw [oNe_no (by decide +kernel) (by decide +kernel) (by decide +kernel)]
  (simp! only [fs_0, fs_1, fs_2, fs_3, fs_4, fs_5, fs_6, fs_7, fs_8, fs_9, fs_10, fs_11, fs_12, fs_13, fs_14, fs_15, fs_16, fs_17, fs_18, fs_19, fs_20, fs_21, fs_22, fs_23, ct_0, ct_1, ft_0])
  refine wr_num w hw.pr hw.len (fun E' R' hE => .inr (.inr ⟨x, w, rfl, hx, Mx.bd_mono hb (by decide), hw.kn, hw.no, hE⟩)) ?_
  rw [take_push]
  refine ⟨_, rfl, ?_⟩
  rw [oRepr_eq hw.pr]
  (simp! only [fs_0, fs_1, fs_2, fs_3, fs_4, fs_5, fs_6, fs_7, fs_8, fs_9, fs_10, fs_11, fs_12, fs_13, fs_14, fs_15, fs_16, fs_17, fs_18, fs_19, fs_20, fs_21, fs_22, fs_23, ct_0, ct_1, ft_0])
  refine ⟨Nat.le_trans (Nat.add_le_add_left hw.len 7) (by decide), ?_⟩
  (simp! only [fs_0, fs_1, fs_2, fs_3, fs_4, fs_5, fs_6, fs_7, fs_8, fs_9, fs_10, fs_11, fs_12, fs_13, fs_14, fs_15, fs_16, fs_17, fs_18, fs_19, fs_20, fs_21, fs_22, fs_23, ct_0, ct_1, ft_0])
  generalize hS1 : S0 ++ [MO.lst [.str (Str.ofString "matrix"), .str (Str.ofString "matrix"), .str (Str.ofString "matrix"), .str (Str.ofString "matrix"), .str (Str.ofString "matrix"), .str (Str.ofString "matrix")]] = S1
  have h1 : S1[i]? = some m3 := by
    rw [← hS1, List.getElem?_append_left (List.getElem?_eq_some_iff.mp h0).1]
    exact h0
  have hi := (List.getElem?_eq_some_iff.mp h1).1
  have hR1 : ∀ m' X, Src (n + 10) m' → R (.t (.bl true)) ((S1.set i m' ++ [X]).take S0.length) := fun m' X h => by
    rw [← hS1, List.set_append_left _ _ (List.getElem?_eq_some_iff.mp h0).1, List.append_assoc, List.take_append_of_le_length (by rw [List.length_set]; exact Nat.le_refl _), ← List.length_set (i := i) (a := m'), List.take_length]
    exact hR0 m' h
  (refine Tw.st ?_; simp! only [fs_0, fs_1, fs_2, fs_3, fs_4, fs_5, fs_6, fs_7, fs_8, fs_9, fs_10, fs_11, fs_12, fs_13, fs_14, fs_15, fs_16, fs_17, fs_18, fs_19, fs_20, fs_21, fs_22, fs_23, ct_0, ct_1, ft_0])
  refine wr_no _ rfl (fun E' R' hR' => .inl ⟨[x, x], rfl, by simp, fun z h => ?_, hR' _⟩) ?_
  · simp only [List.mem_cons, List.not_mem_nil, or_false, or_self] at h
    rw [h]
    exact ⟨hx, Mx.bd_mono hb (by decide)⟩
  (simp! only [fs_0, fs_1, fs_2, fs_3, fs_4, fs_5, fs_6, fs_7, fs_8, fs_9, fs_10, fs_11, fs_12, fs_13, fs_14, fs_15, fs_16, fs_17, fs_18, fs_19, fs_20, fs_21, fs_22, fs_23, ct_0, ct_1, ft_0])
  (refine Tw.st ?_; simp! only [fs_0, fs_1, fs_2, fs_3, fs_4, fs_5, fs_6, fs_7, fs_8, fs_9, fs_10, fs_11, fs_12, fs_13, fs_14, fs_15, fs_16, fs_17, fs_18, fs_19, fs_20, fs_21, fs_22, fs_23, ct_0, ct_1, ft_0])
  refine ⟨_, _, rfl, push_get, ?_⟩
  refine clT.of ?_
  dsimp only
  refine sp_next (m := m3) (by rw [List.append_assoc, List.getElem?_append_left hi]; exact h1) s3 (by omega) (by decide) (by decide) fun r4 m4 a4 b4 s4 => ?_
  (simp! only [fs_0, fs_1, fs_2, fs_3, fs_4, fs_5, fs_6, fs_7, fs_8, fs_9, fs_10, fs_11, fs_12, fs_13, fs_14, fs_15, fs_16, fs_17, fs_18, fs_19, fs_20, fs_21, fs_22, fs_23, ct_0, ct_1, ft_0])
  refine ix_mem a4 (by exact b4) fun t ht => ?_
  obtain ⟨q, rfl, q0, q1⟩ : ∃ q : Int, t = .int q ∧ -200 ≤ q ∧ q ≤ 200 := by
    simp only [List.mem_cons, List.not_mem_nil, or_false] at ht
    rcases ht with rfl | rfl | rfl
    · exact ⟨_, rfl, by decide, by decide⟩
    · exact ⟨_, rfl, by decide, by decide⟩
    · exact ⟨_, rfl, by decide, by decide⟩
  (simp! only [fs_0, fs_1, fs_2, fs_3, fs_4, fs_5, fs_6, fs_7, fs_8, fs_9, fs_10, fs_11, fs_12, fs_13, fs_14, fs_15, fs_16, fs_17, fs_18, fs_19, fs_20, fs_21, fs_22, fs_23, ct_0, ct_1, ft_0])
  refine .inl ⟨x, q, rfl, hx, Mx.bd_mono hb (by decide), q0, q1, ?_⟩
  (simp! only [fs_0, fs_1, fs_2, fs_3, fs_4, fs_5, fs_6, fs_7, fs_8, fs_9, fs_10, fs_11, fs_12, fs_13, fs_14, fs_15, fs_16, fs_17, fs_18, fs_19, fs_20, fs_21, fs_22, fs_23, ct_0, ct_1, ft_0])
  rw [tsp (S := S1 ++ [MO.lst [.str (Str.ofString "")]]) (by rw [List.length_append]; omega), List.set_append_left _ _ hi]
  have hl2 : S1.length = (S1.set i m4).length := by rw [List.length_set]
  have hR2 := hR1 m4
  generalize S1.set i m4 = S2 at hl2 hR2
  rw [hl2]
  refine ⟨_, _, push_get, rfl, by decide, ?_⟩
  rw [set_push]
  (simp! only [fs_0, fs_1, fs_2, fs_3, fs_4, fs_5, fs_6, fs_7, fs_8, fs_9, fs_10, fs_11, fs_12, fs_13, fs_14, fs_15, fs_16, fs_17, fs_18, fs_19, fs_20, fs_21, fs_22, fs_23, ct_0, ct_1, ft_0])
  (refine Tw.st ?_; simp! only [fs_0, fs_1, fs_2, fs_3, fs_4, fs_5, fs_6, fs_7, fs_8, fs_9, fs_10, fs_11, fs_12, fs_13, fs_14, fs_15, fs_16, fs_17, fs_18, fs_19, fs_20, fs_21, fs_22, fs_23, ct_0, ct_1, ft_0])
  refine ⟨_, _, rfl, push_get, ?_⟩
  refine wr_no _ rfl (fun E' R' hR' => ⟨v, rfl, hv.kn, hR' _⟩) ?_
  rw [take_push]
  refine ⟨_, rfl, _, _, push_get, rfl, by decide, ?_⟩
  rw [set_push]
  (refine Tw.st ?_; simp! only [fs_0, fs_1, fs_2, fs_3, fs_4, fs_5, fs_6, fs_7, fs_8, fs_9, fs_10, fs_11, fs_12, fs_13, fs_14, fs_15, fs_16, fs_17, fs_18, fs_19, fs_20, fs_21, fs_22, fs_23, ct_0, ct_1, ft_0])
  rw [vw_rt push_get]
  dsimp only
  rw [oEq_yes (by decide +kernel) (by decide +kernel) (by decide +kernel)]
  (simp! only [fs_0, fs_1, fs_2, fs_3, fs_4, fs_5, fs_6, fs_7, fs_8, fs_9, fs_10, fs_11, fs_12, fs_13, fs_14, fs_15, fs_16, fs_17, fs_18, fs_19, fs_20, fs_21, fs_22, fs_23, ct_0, ct_1, ft_0])
  refine ⟨v, rfl, hv.kn, ?_⟩
  rw [hv.no]
  (simp! only [fs_0, fs_1, fs_2, fs_3, fs_4, fs_5, fs_6, fs_7, fs_8, fs_9, fs_10, fs_11, fs_12, fs_13, fs_14, fs_15, fs_16, fs_17, fs_18, fs_19, fs_20, fs_21, fs_22, fs_23, ct_0, ct_1, ft_0])
  exact hR2 _ (s4.mono (by omega))
theorem cells {n : Nat} : ∃ c : Int, c = (if (if (n : Int) < 3 then (n : Int) else 3) > 1 then if (n : Int) < 3 then (n : Int) else 3 else 1) ∧ 1 ≤ c ∧ c ≤ 3 := ⟨_, rfl, by split <;> split <;> omega, by split <;> split <;> omega⟩
theorem g_law : ∀ ws S EX R, ws.length = d_law.ps.length → sp_law ws S EX R → wDef (qB fs ct d_law.body) d_law.N.length ws S EX R := by
  rintro ws S EX R - ⟨ns, rfl, hl, rfl, hR⟩
  (simp! only [fs_0, fs_1, fs_2, fs_3, fs_4, fs_5, fs_6, fs_7, fs_8, fs_9, fs_10, fs_11, fs_12, fs_13, fs_14, fs_15, fs_16, fs_17, fs_18, fs_19, fs_20, fs_21, fs_22, fs_23, ct_0, ct_1, ft_0, d_law])
  (refine Tw.st ?_; simp! only [fs_0, fs_1, fs_2, fs_3, fs_4, fs_5, fs_6, fs_7, fs_8, fs_9, fs_10, fs_11, fs_12, fs_13, fs_14, fs_15, fs_16, fs_17, fs_18, fs_19, fs_20, fs_21, fs_22, fs_23, ct_0, ct_1, ft_0])
  obtain ⟨c, hc, c1, c2⟩ := cells (n := ns.length)
  rw [← hc]
  refine ⟨by omega, by omega, ?_⟩
  refine forL_inv (fun xs env S => (∀ x ∈ xs, ∃ k : Int, x = .int k ∧ 0 ≤ k ∧ k ≤ 1000) ∧ ∃ w1 w2 w3, env = [some (.t (.scr ns)), w1, w2, w3]) ?_ ?_ _ _ _ ⟨fun x hx => ?_, _, _, _, rfl⟩
  · rintro env S ⟨-, v1, v2, v3, rfl⟩
    (simp! only [fs_0, fs_1, fs_2, fs_3, fs_4, fs_5, fs_6, fs_7, fs_8, fs_9, fs_10, fs_11, fs_12, fs_13, fs_14, fs_15, fs_16, fs_17, fs_18, fs_19, fs_20, fs_21, fs_22, fs_23, ct_0, ct_1, ft_0])
    (refine Tw.st ?_; simp! only [fs_0, fs_1, fs_2, fs_3, fs_4, fs_5, fs_6, fs_7, fs_8, fs_9, fs_10, fs_11, fs_12, fs_13, fs_14, fs_15, fs_16, fs_17, fs_18, fs_19, fs_20, fs_21, fs_22, fs_23, ct_0, ct_1, ft_0])
    refine ⟨(⟨0, 1, -1, 0⟩ : Mx).t, rfl, knM_t (Mx.bd_mono (k := 3) ⟨by decide, by decide, by decide, by decide⟩ (by decide)), fun m e _ => ?_, fun h => by cases h⟩
    obtain rfl := Mx.t_inj e
    (simp! only [fs_0, fs_1, fs_2, fs_3, fs_4, fs_5, fs_6, fs_7, fs_8, fs_9, fs_10, fs_11, fs_12, fs_13, fs_14, fs_15, fs_16, fs_17, fs_18, fs_19, fs_20, fs_21, fs_22, fs_23, ct_0, ct_1, ft_0])
    refine ⟨(⟨-1, 0, 0, -1⟩ : Mx).t, rfl, knM_t (Mx.bd_mono (k := 3) ⟨by decide, by decide, by decide, by decide⟩ (by decide)), fun m e _ => ?_, fun h => by cases h⟩
    obtain rfl := Mx.t_inj e
    (simp! only [fs_0, fs_1, fs_2, fs_3, fs_4, fs_5, fs_6, fs_7, fs_8, fs_9, fs_10, fs_11, fs_12, fs_13, fs_14, fs_15, fs_16, fs_17, fs_18, fs_19, fs_20, fs_21, fs_22, fs_23, ct_0, ct_1, ft_0])
    rw [oNe_no (by decide +kernel) (by decide +kernel) (by decide +kernel)]
    (simp! only [fs_0, fs_1, fs_2, fs_3, fs_4, fs_5, fs_6, fs_7, fs_8, fs_9, fs_10, fs_11, fs_12, fs_13, fs_14, fs_15, fs_16, fs_17, fs_18, fs_19, fs_20, fs_21, fs_22, fs_23, ct_0, ct_1, ft_0])
    (refine Tw.st ?_; simp! only [fs_0, fs_1, fs_2, fs_3, fs_4, fs_5, fs_6, fs_7, fs_8, fs_9, fs_10, fs_11, fs_12, fs_13, fs_14, fs_15, fs_16, fs_17, fs_18, fs_19, fs_20, fs_21, fs_22, fs_23, ct_0, ct_1, ft_0])
    refine wr_mat (fun E' R' hE => ⟨(⟨1, 2, 3, 4⟩ : Mx).t, rfl, knM_t (Mx.bd_mono (k := 3) ⟨by decide, by decide, by decide, by decide⟩ (by decide)), fun m e hd => ?_, fun _ => hE⟩) ?_
    · obtain rfl := Mx.t_inj e
      cases hd
    (simp! only [fs_0, fs_1, fs_2, fs_3, fs_4, fs_5, fs_6, fs_7, fs_8, fs_9, fs_10, fs_11, fs_12, fs_13, fs_14, fs_15, fs_16, fs_17, fs_18, fs_19, fs_20, fs_21, fs_22, fs_23, ct_0, ct_1, ft_0])
    exact hR _
  · rintro x xs env S Kn ⟨hx, v1, v2, v3, rfl⟩ hK
    obtain ⟨k, rfl, k0, k1⟩ := hx x (by simp)
    (simp! only [fs_0, fs_1, fs_2, fs_3, fs_4, fs_5, fs_6, fs_7, fs_8, fs_9, fs_10, fs_11, fs_12, fs_13, fs_14, fs_15, fs_16, fs_17, fs_18, fs_19, fs_20, fs_21, fs_22, fs_23, ct_0, ct_1, ft_0])
    (refine Tw.st ?_; simp! only [fs_0, fs_1, fs_2, fs_3, fs_4, fs_5, fs_6, fs_7, fs_8, fs_9, fs_10, fs_11, fs_12, fs_13, fs_14, fs_15, fs_16, fs_17, fs_18, fs_19, fs_20, fs_21, fs_22, fs_23, ct_0, ct_1, ft_0])
    refine ⟨ns, k, rfl, k0, k1, fun m hm => ?_⟩
    (simp! only [fs_0, fs_1, fs_2, fs_3, fs_4, fs_5, fs_6, fs_7, fs_8, fs_9, fs_10, fs_11, fs_12, fs_13, fs_14, fs_15, fs_16, fs_17, fs_18, fs_19, fs_20, fs_21, fs_22, fs_23, ct_0, ct_1, ft_0])
    (refine Tw.st ?_; simp! only [fs_0, fs_1, fs_2, fs_3, fs_4, fs_5, fs_6, fs_7, fs_8, fs_9, fs_10, fs_11, fs_12, fs_13, fs_14, fs_15, fs_16, fs_17, fs_18, fs_19, fs_20, fs_21, fs_22, fs_23, ct_0, ct_1, ft_0])
    refine ⟨by decide, by decide, ?_⟩
    refine forL_inv (fun ys env T => ∃ w3 m n, env = [some (.t (.scr ns)), some (.t (.int k)), some (.ref S.length), w3] ∧ T[S.length]? = some m ∧ Src n m ∧ n + 200 * ys.length ≤ 100000) ?_ ?_ _ _ _ ?_
    · rintro env T ⟨v3, m', n', rfl, h1, h2, h3⟩
      exact hK _ _ ⟨fun x hx' => hx x (List.mem_cons_of_mem _ hx'), _, _, _, rfl⟩
    · rintro y ys env T Kn2 ⟨v3, m', n', rfl, h1, h2, h3⟩ hK2
      rw [List.length_cons] at h3
      (simp! only [fs_0, fs_1, fs_2, fs_3, fs_4, fs_5, fs_6, fs_7, fs_8, fs_9, fs_10, fs_11, fs_12, fs_13, fs_14, fs_15, fs_16, fs_17, fs_18, fs_19, fs_20, fs_21, fs_22, fs_23, ct_0, ct_1, ft_0])
      (refine Tw.st ?_; simp! only [fs_0, fs_1, fs_2, fs_3, fs_4, fs_5, fs_6, fs_7, fs_8, fs_9, fs_10, fs_11, fs_12, fs_13, fs_14, fs_15, fs_16, fs_17, fs_18, fs_19, fs_20, fs_21, fs_22, fs_23, ct_0, ct_1, ft_0])
      refine ⟨_, m', _, rfl, h1, h2, by omega, fun m2 s2 => ?_⟩
      (simp! only [fs_0, fs_1, fs_2, fs_3, fs_4, fs_5, fs_6, fs_7, fs_8, fs_9, fs_10, fs_11, fs_12, fs_13, fs_14, fs_15, fs_16, fs_17, fs_18, fs_19, fs_20, fs_21, fs_22, fs_23, ct_0, ct_1, ft_0])
      exact hK2 _ _ ⟨_, m2, _, rfl, gs h1, s2, by omega⟩
    · refine ⟨_, m, 3000, rfl, push_get, hm, ?_⟩
      rw [rngL_length]
      decide
  · obtain ⟨i, rfl, h1, h2⟩ := mem_rngL hx
    exact ⟨i, rfl, by omega, by omega⟩
theorem ok_law : ∀ ns : List Int, ns.length ≤ 63 → (∀ z ∈ ns, Builtin.Int.intBits z ≤ 1048576) → fs 23 [.t (.scr ns)] [] (fun _ _ => False) fun z _ => z = .t (.bl true) := fun ns h _ => ⟨ns, rfl, h, rfl, fun _ => rfl⟩
section
variable {P : Program} {w : World} {K : PySem.W.Frag} {mg : Str → Option Value} {h : Heap}
theorem ec_ns : ∀ x ∈ ec, x ∈ ns := by decide +kernel
theorem mod_ok (X : K.In h) (G : h.Ns mainGlobals mg) (c : He.SaysD [] fn K) (e : exB fr cst ns K = true) (e2 : errB K = true) (base : Heap) (hcd : ∀ q cdv, PySem.W.codeIn K cdv q = true → CodeOk K mg base cdv q) : ModOk K mg base ct rw_ :=
  ⟨exB_free X G e, exB_cst X G e, fun x hx => ⟨_, exB_glo X G e x (ec_ns x hx)⟩, errOk_of X G e2 (errInit (.inl (exB_free X G e "BadWord" (by decide +kernel))) (.inl (exB_free X G e "BadFloor" (by decide +kernel))) (.inl (exB_free X G e "BadPlace" (by decide +kernel))) (.inr (init_of (st := top 5) c 21 rfl ⟨_, _, _, _, _, _, .inr (.inr (.inl ⟨rfl, rfl, rfl, rfl⟩))⟩)) (.inl (exB_free X G e "BadExpression" (by decide +kernel))) (.inl (exB_free X G e "BadText" (by decide +kernel))) (.inl (exB_free X G e "TooLong" (by decide +kernel))) (.inl (exB_free X G e "TooMany" (by decide +kernel))) (.inl (exB_free X G e "NotMember" (by decide +kernel)))), hcd⟩
theorem keeps_all (X : K.In h) (G : h.Ns mainGlobals mg) (c : He.SaysD [] fn K) (e : exB fr cst ns K = true) (e2 : errB K = true) (base : Heap) (hcd : ∀ q cdv, PySem.W.codeIn K cdv q = true → CodeOk K mg base cdv q) : Keeps P w K mg base fs ct rw_ 24 := by
  have hg : ∀ y ∈ ns, mg y = some (.ref (He.ga K y)) := exB_glo X G e
  have M := mod_ok X G c e e2 base hcd
  have k0 : Keeps P w K mg base fs ct rw_ 0 := Keeps.zero
  have k1 := k0.nextQ M (by decide +kernel) (d := d__law_source) rfl (stands_of hg (by decide +kernel) c 0 rfl bnd__law_source) chk__law_source rfl g__law_source
  have k2 := k1.nextQ M (by decide +kernel) (d := d__law_next) rfl (stands_of hg (by decide +kernel) c 1 rfl bnd__law_next) chk__law_next rfl g__law_next
  have k3 := k2.nextQ M (by decide +kernel) (d := d__law_no_matrix) rfl (stands_of hg (by decide +kernel) c 2 rfl bnd__law_no_matrix) chk__law_no_matrix rfl g__law_no_matrix
  have k4 := k3.nextQ M (by decide +kernel) (d := d__law_no_exponent) rfl (stands_of hg (by decide +kernel) c 3 rfl bnd__law_no_exponent) chk__law_no_exponent rfl g__law_no_exponent
  have k5 := k4.nextQ M (by decide +kernel) (d := d_is_integer) rfl (stands_of hg (by decide +kernel) c 4 rfl bnd_is_integer) chk_is_integer rfl g_is_integer
  have k6 := k5.nextQ M (by decide +kernel) (d := d_is_pair) rfl (stands_of hg (by decide +kernel) c 5 rfl bnd_is_pair) chk_is_pair rfl g_is_pair
  have k7 := k6.nextQ M (by decide +kernel) (d := d_is_unit) rfl (stands_of hg (by decide +kernel) c 6 rfl bnd_is_unit) chk_is_unit rfl g_is_unit
  have k8 := k7.nextQ M (by decide +kernel) (d := d_normal_of) rfl (stands_of hg (by decide +kernel) c 7 rfl bnd_normal_of) chk_normal_of rfl g_normal_of
  have k9 := k8.nextQ M (by decide +kernel) (d := d_is_matrix) rfl (stands_of hg (by decide +kernel) c 8 rfl bnd_is_matrix) chk_is_matrix rfl g_is_matrix
  have k10 := k9.nextQ M (by decide +kernel) (d := d_need_matrix) rfl (stands_of hg (by decide +kernel) c 9 rfl bnd_need_matrix) chk_need_matrix rfl g_need_matrix
  have k11 := k10.nextQ M (by decide +kernel) (d := d_times) rfl (stands_of hg (by decide +kernel) c 10 rfl bnd_times) chk_times rfl g_times
  obtain ⟨fd11, F11⟩ := c.def_ 11 (d := ⟨("product", none), "product", "product", defArgs (top 19), defBody (top 19), defScope (top 19), [], []⟩) rfl
  have k12 := k11.nextSQ M (by decide +kernel) (d := d_product) (st := top 19) rfl (hg "product" (by decide +kernel)) F11 bnd_product rfl chk_product rfl g_product
  have k13 := k12.nextQ M (by decide +kernel) (d := d_inverse_of) rfl (stands_of hg (by decide +kernel) c 12 rfl bnd_inverse_of) chk_inverse_of rfl g_inverse_of
  have k14 := k13.nextQ M (by decide +kernel) (d := d_inverse) rfl (stands_of hg (by decide +kernel) c 13 rfl bnd_inverse) chk_inverse rfl g_inverse
  have k15 := k14.nextQ M (by decide +kernel) (d := d_order) rfl (stands_of hg (by decide +kernel) c 14 rfl bnd_order) chk_order rfl g_order
  have k16 := k15.nextQ M (by decide +kernel) (d := d_power_of) rfl (stands_of hg (by decide +kernel) c 15 rfl bnd_power_of) chk_power_of rfl g_power_of
  have k17 := k16.nextQ M (by decide +kernel) (d := d_power) rfl (stands_of hg (by decide +kernel) c 16 rfl bnd_power) chk_power rfl g_power
  have k18 := k17.nextTQ 0 M (by decide) rfl rfl rfl (i := 0) (d := d__law_wrong) rfl (nt_one 0 17 (by decide +kernel)) (stands_of hg (by decide +kernel) c 17 rfl bnd__law_wrong) rfl chk__law_wrong g__law_wrong
  have k19 := k18.dup 0 (by decide) rfl (by decide +kernel) rfl rfl
  have k20 := k19.nextQ M (by decide +kernel) (d := d__law_turn_right) rfl (stands_of hg (by decide +kernel) c 18 rfl bnd__law_turn_right) chk__law_turn_right rfl g__law_turn_right
  have k21 := k20.nextQ M (by decide +kernel) (d := d_normal) rfl (stands_of hg (by decide +kernel) c 19 rfl bnd_normal) chk_normal rfl g_normal
  have k22 := k21.dup 0 (by decide) rfl (by decide +kernel) rfl rfl
  have k23 := k22.dup 0 (by decide) rfl (by decide +kernel) rfl rfl
  have k24 := k23.nextQ M (by decide +kernel) (d := d_law) rfl (stands_of hg (by decide +kernel) c 20 rfl bnd_law) chk_law rfl g_law
  exact k24
end
abbrev loose : List PySem.Str := ["MatrixError", "LimitError", "WalkError", "BadMatrix", "BadNumber", "IDENTITY", "MAX_EXPONENT", "is_integer", "is_pair", "is_unit", "normal_of", "is_matrix", "need_matrix", "times", "inverse_of", "power_of", "normal", "product", "inverse", "power", "order", "_law_source", "_law_next", "_law_no_matrix", "_law_no_exponent", "_law_wrong", "_law_turn_right"]
abbrev R0 : PySem.W.OpenRow := PySem.W.OpenLaw.row PySem.Challenge.rw_cuspfloor_k06_errors_of_matrices
abbrev hk : PySem.W.Hook := hkW 4 fr cst ns fn
theorem run (w : World) : HandSHeadRun.RunEq R0 (PySem.W.view R0.prog [30]) hk (obW 4 fr cst ns fn) 8000 loose w := by
  intro os
  kernel_rfl
end K06
open PySem PySem.W PySem.Calls PyProof.Rows
theorem PySem.Challenge.cw_cuspfloor_k06_errors_of_matrices_holds : PySem.Challenge.rw_cuspfloor_k06_errors_of_matrices.Holds := by
  w_on; o_law
  refine HandSHeadRun.head_any (r := OpenLaw.row PySem.Challenge.rw_cuspfloor_k06_errors_of_matrices) (q := view (OpenLaw.row PySem.Challenge.rw_cuspfloor_k06_errors_of_matrices).prog [30]) (H := K06.hk) (ob := Tw.obW 4 K06.fr K06.cst K06.ns K06.fn) (M := 8000) (loose := K06.loose) (d := HandSHeadRun.topDef (OpenLaw.row PySem.Challenge.rw_cuspfloor_k06_errors_of_matrices).prog 30) (kwd := []) Tw.obW_eq
    (by kernel_rfl) (fun s => by kernel_rfl) K06.run (by kernel_rfl) (by kernel_rfl) (by kernel_rfl) (by rfl) (by first | assumption | decide +kernel) (by decide +kernel) ⟨rfl, rfl, rfl, rfl, rfl, by decide +kernel⟩ ?hw ?hc
  case hw => w_witness2
  case hc =>
    have ed : (HandSHeadRun.topDef (OpenLaw.row PySem.Challenge.rw_cuspfloor_k06_errors_of_matrices).prog 30).name = ("law" : PySem.Str) := by kernel_rfl
    refine Tw.walk_end (l := PySem.Challenge.rw_cuspfloor_k06_errors_of_matrices) (n := 63) (k := 24) (fs := K06.fs) (ct := K06.ct) (r := K06.rw_) (j := 23) rfl (by decide) (by kernel_rfl) ⟨rfl, by decide, by decide⟩ (by decide) (by rw [ed]; rfl) K06.ok_law ?F
    intro w mg h Y G
    obtain ⟨K, KX, c, e, e2, e3, e4⟩ := Y
    exact ⟨K, KX, e3, e4, fun base hb => K06.keeps_all (P := (PySem.Challenge.rw_cuspfloor_k06_errors_of_matrices).prog) (w := w) KX G c e e2 base hb⟩
