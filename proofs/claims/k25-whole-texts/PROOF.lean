import PyProof.Rows.All
import HandS.ForMost
import HandS.Exc
import HandS.ExcOwn
import HandS.TryOnly
import HandS.CallSlots
import HandS.Defaults
import HandS.WordsExc
import HandS.TupAny
import HandS.TupMul
import HandS.Deep
import HandS.IsInst
import HandS.StrMore
import KE.GoesMore
import HandS.Zip
import KE.KStateDown
import HandS.Head0
import HandS.Head1
import HandS.Head2
import HandS.HeadEnd
import HandS.HeadHook1
import HandS.HeadHook2
import HandS.Codes
import PySem.Challenge.RW_ticktree_k25_whole_texts
set_option Elab.async false
set_option linter.all false
set_option maxRecDepth 100000
set_option maxHeartbeats 4000000
/-! FL: functional readings over HandS. Data as plain trees, mutable lists and dicts as numbered cells of a store; every construct of Python is a Lean function on (slots, store). -/
namespace FL
open PySem PySem.Spec PyProof.Rows L2

/-- a value: data, or the mutable thing of that number -/
inductive W where
  | d (x : PyData)
  | c (n : Nat)
  | s (ns : List Int)
  | t (n : String)

/-- what a mutable thing holds -/
inductive C where
  | lst (xs : List PyData)
  | fz (x : PyData)
  | dS (kvs : List (Str × PyData))
  | dT (kvs : List (List Int × PyData))

abbrev Sto := List C
abbrev Ev := List (Option W)

inductive Res (α : Type) where
  | bad
  | ok (a : α) (st : Sto)
  | ex (c : Str) (st : Sto)

def Res.bind {α β : Type} (r : Res α) (k : α → Sto → Res β) : Res β := match r with
  | .bad => .bad
  | .ok a st => k a st
  | .ex c st => .ex c st
def Res.of {α : Type} (o : Option α) (st : Sto) : Res α := match o with
  | some a => .ok a st
  | none => .bad
def Res.of2 {α : Type} (o : Option (α × Sto)) : Res α := match o with
  | some (a, st) => .ok a st
  | none => .bad

abbrev FE := Ev → Sto → Res W
abbrev FT := Ev → Sto → Res Bool
abbrev FA := Ev → Sto → Res (List W)
/-- how a statement ends -/
inductive RS where
  | bad
  | nx (e : Ev) (st : Sto)
  | bk (e : Ev) (st : Sto)
  | ct (e : Ev) (st : Sto)
  | rt (w : W) (st : Sto)
  | ex (c : Str) (e : Ev) (st : Sto)
abbrev FS := Ev → Sto → RS

/-! ### the relation -/
mutual
/-- data: None, bools, ints, texts, tracked lists, tuples -/
inductive Dq (K : PySem.W.Frag) (H : Hp) : V → PyData → Prop
  | non : Dq K H .non .none
  | bl (b : Bool) : Dq K H (.bl b) (.bool b)
  | int (i : Int) : Dq K H (.int i) (.int i)
  | str (x : Str) : Dq K H (.str x) (.str x)
  | lst {a : Addr} {xs : List V} {ds : List PyData} : H a = some (.lst xs) → DqAll K H xs ds → Dq K H (.ref a) (.list ds)
  | tup {a : Addr} {xs : List V} {ds : List PyData} : SqT K H a xs → DqAll K H xs ds → Dq K H (.ref a) (.tuple ds)
inductive DqAll (K : PySem.W.Frag) (H : Hp) : List V → List PyData → Prop
  | nil : DqAll K H [] []
  | cons {v : V} {vs : List V} {d : PyData} {ds : List PyData} : Dq K H v d → DqAll K H vs ds → DqAll K H (v :: vs) (d :: ds)
end
mutual
theorem Dq.dp {K : PySem.W.Frag} {F : Hp} : ∀ {d : PyData} {v : V}, Dq K F v d → Dp K F v d
  | .none, _, h => by cases h; exact .non
  | .bool b, _, h => by cases h; exact .bl b
  | .int i, _, h => by cases h; exact .int i
  | .str x, _, h => by cases h; exact .str x
  | .list ds, _, h => by
    cases h with
    | lst h1 h2 => exact .lst (SqL.of h1) (DqAll.dp h2)
  | .tuple ds, _, h => by
    cases h with
    | tup h1 h2 => exact .tup h1 (DqAll.dp h2)
  | .dict _, _, h => by cases h
theorem DqAll.dp {K : PySem.W.Frag} {F : Hp} : ∀ {ds : List PyData} {vs : List V}, DqAll K F vs ds → DpAll K F vs ds
  | [], _, h => by cases h; exact .nil
  | d :: ds, _, h => by
    cases h with
    | cons h1 h2 => exact .cons (Dq.dp h1) (DqAll.dp h2)
end
structure Wd where
  ι : List (List Addr)
  F : Hp

def RV (K : PySem.W.Frag) (m : Wd) (v : V) : W → Prop
  | .d x => Dq K m.F v x
  | .c n => ∃ a r, m.ι[n]? = some (a :: r) ∧ v = .ref a
  | .s ns => ∃ a, v = .ref a ∧ SqL K m.F a (ns.map V.int)
  | .t n => v = .ty n
inductive RVs (K : PySem.W.Frag) (m : Wd) : List V → List W → Prop
  | nil : RVs K m [] []
  | cons {v vs w ws} : RV K m v w → RVs K m vs ws → RVs K m (v :: vs) (w :: ws)

def COk (K : PySem.W.Frag) (F H : Hp) (as : List Addr) : C → Prop
  | .lst ds => ∃ a xs, as = [a] ∧ F a = none ∧ H a = some (.lst xs) ∧ DqAll K F xs ds
  | .fz d => ∃ a o, as = [a] ∧ F a = some o ∧ Dq K F (.ref a) d
  | .dS kvs => ∃ a ks, as = [a] ∧ F a = none ∧ H a = some (.dK ks) ∧ Paired (fun (p : Key × V) (q : Str × PyData) => p.1 = .inr q.1 ∧ Dq K F p.2 q.2) ks kvs
  | .dT kvs => ∃ a ks, as = [a] ∧ F a = none ∧ H a = some (.dT ks) ∧ Paired (fun (p : List Key × V) (q : List Int × PyData) => p.1 = q.1.map Sum.inl ∧ Dq K F p.2 q.2) ks kvs

structure Rel (K : PySem.W.Frag) (m : Wd) (H : Hp) (st : Sto) : Prop where
  same : Same m.F H
  len : m.ι.length = st.length
  nd : m.ι.flatten.Nodup
  cell : ∀ (n : Nat) (as : List Addr) (c : C), m.ι[n]? = some as → st[n]? = some c → COk K m.F H as c

structure Step (m m' : Wd) (H H' : Hp) : Prop where
  len : m.ι.length ≤ m'.ι.length
  pre : ∀ (n : Nat) (a : Addr) (r : List Addr), m.ι[n]? = some (a :: r) → ∃ r', m'.ι[n]? = some (a :: r')
  fro : Same m.F m'.F
  fr : ∀ (a : Addr) (o : HO), H a = some o → a ∉ m.ι.flatten → H' a = some o
  new : ∀ a ∈ m'.ι.flatten, a ∈ m.ι.flatten ∨ H a = none
  fn : ∀ a, m.F a = none → m'.F a ≠ none → a ∈ m.ι.flatten ∨ H a = none

theorem Same.refl (H : Hp) : Same H H := fun _ _ h => h

section
variable {K : PySem.W.Frag} {m m' m'' : Wd} {H H' H'' : Hp} {st st' : Sto} {F F' : Hp}

theorem Step.refl : Step m m H H := ⟨Nat.le_refl _, fun _ _ r h => ⟨r, h⟩, Same.refl _, fun _ _ h _ => h, fun _ h => .inl h, fun _ h n => absurd h n⟩
theorem Step.trans (a : Step m m' H H') (b : Step m' m'' H' H'') : Step m m'' H H'' := by
  refine ⟨Nat.le_trans a.len b.len, fun n x r h => ?_, fun p o h => b.fro p o (a.fro p o h), fun p o h hn => ?_, fun p hp => ?_, fun p h n => ?_⟩
  · obtain ⟨r', h'⟩ := a.pre n x r h
    exact b.pre n x r' h'
  · refine b.fr p o (a.fr p o h hn) fun hm => ?_
    rcases a.new p hm with z | z
    · exact hn z
    · rw [z] at h; cases h
  · rcases b.new p hp with z | z
    · exact a.new p z
    · by_cases hm : p ∈ m.ι.flatten
      · exact .inl hm
      · refine .inr ?_
        cases e : H p with
        | none => rfl
        | some o =>
          have := a.fr p o e hm
          rw [z] at this; cases this
  · by_cases h1 : m'.F p = none
    · rcases b.fn p h1 n with z | z
      · exact a.new p z
      · by_cases hm : p ∈ m.ι.flatten
        · exact .inl hm
        · refine .inr ?_
          cases e : H p with
          | none => rfl
          | some o =>
            have := a.fr p o e hm
            rw [z] at this; cases this
    · exact a.fn p h h1

theorem sq_same {a : Addr} {xs : List V} (s : Same F F') (h : SqL K F a xs) : SqL K F' a xs := by
  rcases h with h | h
  · rcases h with h | ⟨o, h⟩
    · exact .inl (.inl (s _ _ h))
    · exact .inl (.inr ⟨o, s _ _ h⟩)
  · exact .inr h
theorem sqt_same {a : Addr} {xs : List V} (s : Same F F') (h : SqT K F a xs) : SqT K F' a xs := by
  rcases h with h | h
  · rcases h with h | ⟨o, h⟩
    · exact .inl (.inl (s _ _ h))
    · exact .inl (.inr ⟨o, s _ _ h⟩)
  · exact .inr h
mutual
theorem dp_same (s : Same F F') : ∀ {d : PyData} {v : V}, Dq K F v d → Dq K F' v d
  | .none, _, h => by cases h; exact .non
  | .bool b, _, h => by cases h; exact .bl b
  | .int i, _, h => by cases h; exact .int i
  | .str x, _, h => by cases h; exact .str x
  | .list ds, _, h => by
    cases h with
    | lst h1 h2 => exact .lst (s _ _ h1) (dpAll_same s h2)
  | .tuple ds, _, h => by
    cases h with
    | tup h1 h2 => exact .tup (sqt_same s h1) (dpAll_same s h2)
  | .dict _, _, h => by cases h
theorem dpAll_same (s : Same F F') : ∀ {ds : List PyData} {vs : List V}, DqAll K F vs ds → DqAll K F' vs ds
  | [], _, h => by cases h; exact .nil
  | d :: ds, _, h => by
    cases h with
    | cons h1 h2 => exact .cons (dp_same s h1) (dpAll_same s h2)
end
theorem RV.mono {v : V} {w : W} (s : Step m m' H H') (h : RV K m v w) : RV K m' v w := by
  cases w with
  | d x => exact dp_same s.fro h
  | c n =>
    obtain ⟨a, r, h1, h2⟩ := h
    obtain ⟨r', h3⟩ := s.pre n a r h1
    exact ⟨a, r', h3, h2⟩
  | s ns =>
    obtain ⟨a, h1, h2⟩ := h
    exact ⟨a, h1, sq_same s.fro h2⟩
  | t n => exact h
theorem RVs.mono {vs : List V} {ws : List W} (s : Step m m' H H') (h : RVs K m vs ws) : RVs K m' vs ws := by
  induction h with
  | nil => exact .nil
  | cons h _ ih => exact .cons (h.mono s) ih
theorem RVs.length {vs : List V} {ws : List W} (h : RVs K m vs ws) : vs.length = ws.length := by
  induction h with
  | nil => rfl
  | cons _ _ ih => simp [ih]

def RE (K : PySem.W.Frag) (m : Wd) (env : Ev) (σ : L2.St) : Prop :=
  env.length = σ.length ∧ ∀ (i : Nat) (w : W), env[i]? = some (some w) → ∃ v, σ[i]? = some (some v) ∧ RV K m v w
theorem RE.mono {env : Ev} {σ : L2.St} (s : Step m m' H H') (h : RE K m env σ) : RE K m' env σ :=
  ⟨h.1, fun i w e => let ⟨v, e1, e2⟩ := h.2 i w e; ⟨v, e1, e2.mono s⟩⟩
theorem RE.set {env : Ev} {σ : L2.St} {i : Nat} {v : V} {w : W} (h : RE K m env σ) (r : RV K m v w) : RE K m (env.set i (some w)) (σ.set i (some v)) := by
  refine ⟨by simp [h.1], fun j u e => ?_⟩
  by_cases hj : i = j
  · subst hj
    by_cases hl : i < env.length
    · rw [List.getElem?_set_self hl] at e
      cases e
      exact ⟨v, List.getElem?_set_self (by rw [← h.1]; exact hl), r⟩
    · rw [List.getElem?_eq_none (by simp; omega)] at e; cases e
  · rw [List.getElem?_set_ne hj] at e ⊢
    exact h.2 j u e
/-- what is known of no slot -/
theorem RE.wipe {env : Ev} {σ : L2.St} (h : RE K m env σ) (i : Nat) : RE K m (env.set i none) σ := by
  refine ⟨by simp [h.1], fun j u e => ?_⟩
  by_cases hj : i = j
  · subst hj
    by_cases hl : i < env.length
    · rw [List.getElem?_set_self hl] at e; cases e
    · rw [List.getElem?_eq_none (by simp; omega)] at e; cases e
  · rw [List.getElem?_set_ne hj] at e
    exact h.2 j u e
end

/-! ### what is wanted behind -/
section
variable {K : PySem.W.Frag} {m m' : Wd} {H H' : Hp}
def Po (K : PySem.W.Frag) (Wx : WX) (cl : Str → Value) (σ : L2.St) (m : Wd) (H : Hp) {α : Type} (R : Wd → Hp → Sto → α → Prop) : Res α → Prop
  | .bad => False
  | .ok a st' => ∀ m' H', Step m m' H H' → Rel K m' H' st' → R m' H' st' a
  | .ex c st' => ∀ m' H', Step m m' H H' → Rel K m' H' st' → Wx (cl c) none σ H'
variable {Wx : WX} {cl : Str → Value} {σ : L2.St} {α β : Type}
theorem Po.mono {R R' : Wd → Hp → Sto → α → Prop} {r : Res α} (h : Po K Wx cl σ m H R r) (s : Step m m' H H') (f : ∀ m2 H2 st a, Step m' m2 H' H2 → Rel K m2 H2 st → R m2 H2 st a → R' m2 H2 st a) : Po K Wx cl σ m' H' R' r := by
  cases r with
  | bad => exact h
  | ok a st => exact fun m2 H2 s2 rl => f _ _ _ _ s2 rl (h m2 H2 (s.trans s2) rl)
  | ex c st => exact fun m2 H2 s2 rl => h m2 H2 (s.trans s2) rl
theorem Po.bind {R : Wd → Hp → Sto → β → Prop} {r : Res α} {k : α → Sto → Res β} (h : Po K Wx cl σ m H R (r.bind k)) : Po K Wx cl σ m H (fun m1 H1 st1 a => Po K Wx cl σ m1 H1 R (k a st1)) r := by
  cases r with
  | bad => exact h
  | ok a st => exact fun m1 H1 s1 _ => Po.mono (r := k a st) h s1 fun _ _ _ _ _ _ q => q
  | ex c st => exact h
theorem Po.of {R : Wd → Hp → Sto → α → Prop} {o : Option α} {st : Sto} (h : Po K Wx cl σ m H R (Res.of o st)) (rl : Rel K m H st) : ∃ a, o = some a ∧ R m H st a := by
  cases o with
  | none => exact False.elim h
  | some a => exact ⟨a, rfl, h m H .refl rl⟩
theorem Po.of2 {R : Wd → Hp → Sto → α → Prop} {o : Option (α × Sto)} (h : Po K Wx cl σ m H R (Res.of2 o)) : ∃ a st', o = some (a, st') ∧ ∀ m' H', Step m m' H H' → Rel K m' H' st' → R m' H' st' a := by
  cases o with
  | none => exact False.elim h
  | some p => exact ⟨p.1, p.2, rfl, h⟩
end

/-! ### judgements -/
abbrev clX (X : Cx) : Str → Value := fun c => (X.mg c).getD .none
def rdE (X : Cx) (Wx : WX) (f : FE) : TE := fun σ H Q => ∃ m env st, Rel X.K m H st ∧ RE X.K m env σ ∧ Po X.K Wx (clX X) σ m H (fun m' H' _ w => ∀ v, RV X.K m' v w → Q v H') (f env st)
def rdT (X : Cx) (Wx : WX) (f : FT) : TT := fun σ H Q => ∃ m env st, Rel X.K m H st ∧ RE X.K m env σ ∧ Po X.K Wx (clX X) σ m H (fun _ H' _ b => Q b H') (f env st)
def rdA (X : Cx) (Wx : WX) (f : FA) : TA := fun σ H Q => ∃ m env st, Rel X.K m H st ∧ RE X.K m env σ ∧ Po X.K Wx (clX X) σ m H (fun m' H' _ ws => ∀ vs, RVs X.K m' vs ws → Q vs H') (f env st)
end FL
set_option Elab.async false
set_option linter.all false
set_option maxRecDepth 100000
set_option maxHeartbeats 4000000
namespace FL
open PySem PySem.Spec PyProof.Rows L2

/-! ### in a row -/
section
variable {X : Cx} {Wx : WX} {m : Wd} {env : Ev} {st : Sto} {σ : L2.St} {H : Hp} {α : Type} {R : Wd → Hp → Sto → α → Prop}
theorem seqE {fa : FE} {k : W → Sto → Res α} (rl : Rel X.K m H st) (re : RE X.K m env σ) (h : Po X.K Wx (clX X) σ m H R ((fa env st).bind k)) :
    rdE X Wx fa σ H (fun x H1 => ∃ m1 st1 w, Step m m1 H H1 ∧ Rel X.K m1 H1 st1 ∧ RE X.K m1 env σ ∧ RV X.K m1 x w ∧ Po X.K Wx (clX X) σ m1 H1 R (k w st1)) := by
  refine ⟨m, env, st, rl, re, ?_⟩
  have h1 := Po.bind h
  cases e : fa env st with
  | bad => rw [e] at h1; exact h1
  | ok w st1 => rw [e] at h1; exact fun m1 H1 s1 r1 v rv => ⟨m1, st1, w, s1, r1, re.mono s1, rv, h1 m1 H1 s1 r1⟩
  | ex c st1 => rw [e] at h1; exact h1
theorem seqT {fa : FT} {k : Bool → Sto → Res α} (rl : Rel X.K m H st) (re : RE X.K m env σ) (h : Po X.K Wx (clX X) σ m H R ((fa env st).bind k)) :
    rdT X Wx fa σ H (fun b H1 => ∃ m1 st1, Step m m1 H H1 ∧ Rel X.K m1 H1 st1 ∧ RE X.K m1 env σ ∧ Po X.K Wx (clX X) σ m1 H1 R (k b st1)) := by
  refine ⟨m, env, st, rl, re, ?_⟩
  have h1 := Po.bind h
  cases e : fa env st with
  | bad => rw [e] at h1; exact h1
  | ok w st1 => rw [e] at h1; exact fun m1 H1 s1 r1 => ⟨m1, st1, s1, r1, re.mono s1, h1 m1 H1 s1 r1⟩
  | ex c st1 => rw [e] at h1; exact h1
theorem seqA {fa : FA} {k : List W → Sto → Res α} (rl : Rel X.K m H st) (re : RE X.K m env σ) (h : Po X.K Wx (clX X) σ m H R ((fa env st).bind k)) :
    rdA X Wx fa σ H (fun xs H1 => ∃ m1 st1 ws, Step m m1 H H1 ∧ Rel X.K m1 H1 st1 ∧ RE X.K m1 env σ ∧ RVs X.K m1 xs ws ∧ Po X.K Wx (clX X) σ m1 H1 R (k ws st1)) := by
  refine ⟨m, env, st, rl, re, ?_⟩
  have h1 := Po.bind h
  cases e : fa env st with
  | bad => rw [e] at h1; exact h1
  | ok w st1 => rw [e] at h1; exact fun m1 H1 s1 r1 v rv => ⟨m1, st1, w, s1, r1, re.mono s1, rv, h1 m1 H1 s1 r1⟩
  | ex c st1 => rw [e] at h1; exact h1
theorem rdE.imp {f : FE} {Q Q' : VK} (h : rdE X Wx f σ H Q) (q : ∀ v H', Q v H' → Q' v H') : rdE X Wx f σ H Q' := by
  obtain ⟨m, env, st, rl, re, p⟩ := h
  exact ⟨m, env, st, rl, re, p.mono .refl fun _ _ _ _ _ _ z v rv => q _ _ (z v rv)⟩
theorem rdT.imp {f : FT} {Q Q' : Bool → Hp → Prop} (h : rdT X Wx f σ H Q) (q : ∀ v H', Q v H' → Q' v H') : rdT X Wx f σ H Q' := by
  obtain ⟨m, env, st, rl, re, p⟩ := h
  exact ⟨m, env, st, rl, re, p.mono .refl fun _ _ _ _ _ _ z => q _ _ z⟩
theorem rdA.imp {f : FA} {Q Q' : List V → Hp → Prop} (h : rdA X Wx f σ H Q) (q : ∀ v H', Q v H' → Q' v H') : rdA X Wx f σ H Q' := by
  obtain ⟨m, env, st, rl, re, p⟩ := h
  exact ⟨m, env, st, rl, re, p.mono .refl fun _ _ _ _ _ _ z v rv => q _ _ (z v rv)⟩
theorem peI {e : Expr} {t t' : TE} (h : PE X e t) (f : ∀ σ H Q, t' σ H Q → t σ H Q) : PE X e t' := ⟨fun pins s σ H Q I q => h.run pins s σ H Q I (f σ H Q q)⟩
theorem ptI {e : Expr} {t t' : TT} (h : PT X e t) (f : ∀ σ H Q, t' σ H Q → t σ H Q) : PT X e t' := ⟨fun pins s σ H Q I q => h.run pins s σ H Q I (f σ H Q q)⟩
theorem pwI {e : Expr} {t t' : TT} (h : PW X e t) (f : ∀ σ H Q, t' σ H Q → t σ H Q) : PW X e t' := ⟨fun wh pins s σ H Q I q => h.run wh pins s σ H Q I (f σ H Q q)⟩
theorem paI {e : List Expr} {t t' : TA} (h : PA X e t) (f : ∀ σ H Q, t' σ H Q → t σ H Q) : PA X e t' := ⟨fun p pins s σ H Q I q => h.run p pins s σ H Q I (f σ H Q q)⟩
end
abbrev JE (X : Cx) (Wx : WX) (e : Expr) (f : FE) : Prop := PE X e (rdE X Wx f)
abbrev JT (X : Cx) (Wx : WX) (e : Expr) (f : FT) : Prop := PT X e (rdT X Wx f)
abbrev JW (X : Cx) (Wx : WX) (e : Expr) (f : FT) : Prop := PW X e (rdT X Wx f)
abbrev JA (X : Cx) (Wx : WX) (e : List Expr) (f : FA) : Prop := PA X e (rdA X Wx f)

/-! ### reading a value -/
def view (w : W) (st : Sto) : Option PyData := match w with
  | .d x => some x
  | .c n => (match st[n]? with
    | some (.lst ds) => some (.list ds)
    | some (.fz x) => some x
    | _ => none)
  | .s ns => some (.list (ns.map PyData.int))
  | .t _ => none
theorem dq_ints {K : PySem.W.Frag} {F : Hp} : ∀ ns : List Int, DqAll K F (ns.map V.int) (ns.map PyData.int)
  | [] => .nil
  | i :: r => .cons (.int i) (dq_ints r)
/-- a value that is no script -/
def W.own : W → Bool
  | .s _ => false
  | _ => true
section
variable {K : PySem.W.Frag} {m : Wd} {H : Hp} {st : Sto}
theorem Rel.at (rl : Rel K m H st) {n : Nat} {a : Addr} {r : List Addr} {c : C} (h : m.ι[n]? = some (a :: r)) (hc : st[n]? = some c) : COk K m.F H (a :: r) c := rl.cell n _ c h hc
/-- list data: its items stand in the frozen part -/
theorem view_list {v : V} {w : W} {ds : List PyData} (rl : Rel K m H st) (rv : RV K m v w) (h : view w st = some (.list ds)) : ∃ a xs, v = .ref a ∧ SqL K H a xs ∧ DqAll K m.F xs ds := by
  cases w with
  | d x =>
    cases h
    cases rv with
    | lst h1 h2 => exact ⟨_, _, rfl, SqL.of (rl.same _ _ h1), h2⟩
  | s ns =>
    cases h
    obtain ⟨a, e, h2⟩ := rv
    exact ⟨a, _, e, sq_same rl.same h2, dq_ints ns⟩
  | t n => cases h
  | c n =>
    obtain ⟨a, r, h1, rfl⟩ := rv
    unfold view at h
    cases e : st[n]? with
    | none => simp [e] at h
    | some c =>
      have ck := rl.at h1 e
      cases c with
      | lst xs =>
        simp [e] at h
        subst h
        obtain ⟨a', ys, e1, _, e3, e4⟩ := ck
        cases e1
        exact ⟨a, ys, rfl, SqL.of e3, e4⟩
      | fz x =>
        simp [e] at h
        subst h
        obtain ⟨a', _, e1, _, e2⟩ := ck
        cases e1
        cases e2 with
        | lst h1 h2 => exact ⟨_, _, rfl, SqL.of (rl.same _ _ h1), h2⟩
      | dS _ => simp [e] at h
      | dT _ => simp [e] at h
theorem view_tup {v : V} {w : W} {ds : List PyData} (rl : Rel K m H st) (rv : RV K m v w) (h : view w st = some (.tuple ds)) : ∃ a xs, v = .ref a ∧ SqT K H a xs ∧ DqAll K m.F xs ds := by
  cases w with
  | d x =>
    cases h
    cases rv with
    | tup h1 h2 => exact ⟨_, _, rfl, sqt_same rl.same h1, h2⟩
  | s ns => cases h
  | t n => cases h
  | c n =>
    obtain ⟨a, r, h1, rfl⟩ := rv
    unfold view at h
    cases e : st[n]? with
    | none => simp [e] at h
    | some c =>
      have ck := rl.at h1 e
      cases c with
      | lst xs => simp [e] at h
      | fz x =>
        simp [e] at h
        subst h
        obtain ⟨a', _, e1, _, e2⟩ := ck
        cases e1
        cases e2 with
        | tup h1 h2 => exact ⟨_, _, rfl, sqt_same rl.same h1, h2⟩
      | dS _ => simp [e] at h
      | dT _ => simp [e] at h
theorem view_dp {v : V} {w : W} {d : PyData} (rl : Rel K m H st) (rv : RV K m v w) (h : view w st = some d) : Dp K H v d := by
  cases w with
  | d x => cases h; exact (dp_same rl.same rv).dp
  | s ns =>
    cases h
    obtain ⟨a, e, h2⟩ := rv
    subst e
    exact .lst (sq_same rl.same h2) (dq_ints ns).dp
  | t n => cases h
  | c n =>
    obtain ⟨a, r, h1, rfl⟩ := rv
    unfold view at h
    cases e : st[n]? with
    | none => simp [e] at h
    | some c =>
      have ck := rl.at h1 e
      cases c with
      | lst xs =>
        simp [e] at h
        subst h
        obtain ⟨a', ys, e1, _, e3, e4⟩ := ck
        cases e1
        exact .lst (SqL.of e3) (dpAll_same rl.same e4).dp
      | fz x =>
        simp [e] at h
        subst h
        obtain ⟨a', _, e1, _, e2⟩ := ck
        cases e1
        exact (dp_same rl.same e2).dp
      | dS _ => simp [e] at h
      | dT _ => simp [e] at h
/-- the same of a list that is no script -/
theorem view_listS {v : V} {w : W} {ds : List PyData} (rl : Rel K m H st) (rv : RV K m v w) (h : view w st = some (.list ds)) (hs : w.own = true) : ∃ a xs, v = .ref a ∧ H a = some (.lst xs) ∧ DqAll K m.F xs ds := by
  cases w with
  | d x =>
    cases h
    cases rv with
    | lst h1 h2 => exact ⟨_, _, rfl, rl.same _ _ h1, h2⟩
  | s ns => cases hs
  | t n => cases h
  | c n =>
    obtain ⟨a, r, h1, rfl⟩ := rv
    unfold view at h
    cases e : st[n]? with
    | none => simp [e] at h
    | some c =>
      have ck := rl.at h1 e
      cases c with
      | lst xs =>
        simp [e] at h
        subst h
        obtain ⟨a', ys, e1, _, e3, e4⟩ := ck
        cases e1
        exact ⟨a, ys, rfl, e3, e4⟩
      | fz x =>
        simp [e] at h
        subst h
        obtain ⟨a', _, e1, _, e2⟩ := ck
        cases e1
        cases e2 with
        | lst h1 h2 => exact ⟨_, _, rfl, rl.same _ _ h1, h2⟩
      | dS _ => simp [e] at h
      | dT _ => simp [e] at h
theorem view_int {v : V} {w : W} {i : Int} (rl : Rel K m H st) (rv : RV K m v w) (h : view w st = some (.int i)) : v = .int i := by
  cases view_dp rl rv h; rfl
theorem view_str {v : V} {w : W} {i : Str} (rl : Rel K m H st) (rv : RV K m v w) (h : view w st = some (.str i)) : v = .str i := by
  cases view_dp rl rv h; rfl
theorem view_bool {v : V} {w : W} {i : Bool} (rl : Rel K m H st) (rv : RV K m v w) (h : view w st = some (.bool i)) : v = .bl i := by
  cases view_dp rl rv h; rfl
theorem view_none {v : V} {w : W} (rl : Rel K m H st) (rv : RV K m v w) (h : view w st = some .none) : v = .non := by
  cases view_dp rl rv h; rfl
theorem dpAll_len {F : Hp} : ∀ {ds : List PyData} {xs : List V}, DqAll K F xs ds → xs.length = ds.length
  | [], _, h => by cases h; rfl
  | _ :: ds, _, h => by
    cases h with
    | cons _ h => simp [dpAll_len h]
theorem dpAll_get {F : Hp} : ∀ {ds : List PyData} {xs : List V} {i : Nat} {d : PyData}, DqAll K F xs ds → ds[i]? = some d → ∃ x, xs[i]? = some x ∧ Dq K F x d
  | d' :: ds, _, 0, d, h, e => by
    cases h with
    | cons h1 h2 => simp at e; subst e; exact ⟨_, rfl, h1⟩
  | _ :: ds, _, i + 1, d, h, e => by
    cases h with
    | cons h1 h2 =>
      obtain ⟨x, e1, e2⟩ := dpAll_get h2 (by simpa using e)
      exact ⟨x, by simpa using e1, e2⟩
theorem dpAll_app {F : Hp} : ∀ {ds es : List PyData} {xs ys : List V}, DqAll K F xs ds → DqAll K F ys es → DqAll K F (xs ++ ys) (ds ++ es)
  | [], _, _, _, h, h' => by cases h; exact h'
  | _ :: ds, _, _, _, h, h' => by
    cases h with
    | cons h1 h2 => exact .cons h1 (dpAll_app h2 h')
theorem dpAll_drop {F : Hp} : ∀ {ds : List PyData} {xs : List V} (n : Nat), DqAll K F xs ds → DqAll K F (xs.drop n) (ds.drop n)
  | _, _, 0, h => h
  | [], _, n + 1, h => by cases h; exact .nil
  | _ :: ds, _, n + 1, h => by
    cases h with
    | cons h1 h2 => exact dpAll_drop n h2
theorem dpAll_take {F : Hp} : ∀ {ds : List PyData} {xs : List V} (n : Nat), DqAll K F xs ds → DqAll K F (xs.take n) (ds.take n)
  | [], _, 0, h => by cases h; exact .nil
  | [], _, n + 1, h => by cases h; exact .nil
  | _ :: ds, _, 0, h => by
    cases h with
    | cons h1 h2 => exact .nil
  | _ :: ds, _, n + 1, h => by
    cases h with
    | cons h1 h2 => exact .cons h1 (dpAll_take n h2)
theorem dpAll_set {F : Hp} : ∀ {ds : List PyData} {xs : List V} {d : PyData} {x : V} (n : Nat), DqAll K F xs ds → Dq K F x d → DqAll K F (xs.set n x) (ds.set n d)
  | [], _, _, _, n, h, _ => by cases h; exact .nil
  | _ :: ds, _, _, _, 0, h, hd => by
    cases h with
    | cons h1 h2 => exact .cons hd h2
  | _ :: ds, _, _, _, n + 1, h, hd => by
    cases h with
    | cons h1 h2 => exact .cons h1 (dpAll_set n h2 hd)
theorem dpAll_of {F : Hp} {m : Wd} (hm : m.F = F) : ∀ {ds : List PyData} {xs : List V}, RVs K m xs (ds.map W.d) → DqAll K F xs ds
  | [], _, h => by cases h; exact .nil
  | _ :: ds, _, h => by
    cases h with
    | cons h1 h2 => exact .cons (hm ▸ h1) (dpAll_of hm h2)
theorem atI_dp {F : Hp} {ds : List PyData} {xs : List V} {i : Int} {d : PyData} (h : DqAll K F xs ds) (e : atI ds i = some d) : ∃ x, atI xs i = some x ∧ Dq K F x d := by
  unfold atI at e ⊢
  rw [dpAll_len h]
  cases q : ixN ds.length i with
  | none => rw [q] at e; cases e
  | some j =>
    rw [q] at e
    exact dpAll_get h e
/-- all cells are tracked -/
theorem Rel.tr (rl : Rel K m H st) {a : Addr} (ha : a ∈ m.ι.flatten) : ∃ o, H a = some o := by
  obtain ⟨as, h1, h2⟩ := List.mem_flatten.mp ha
  obtain ⟨n, h3⟩ := List.mem_iff_getElem?.mp h1
  have hl : n < st.length := by rw [← rl.len]; exact (List.getElem?_eq_some_iff.mp h3).1
  have ck := rl.cell n as st[n] h3 (List.getElem?_eq_getElem hl)
  cases e : st[n] with
  | lst ds =>
    rw [e] at ck
    obtain ⟨b, xs, rfl, _, h5, _⟩ := ck
    simp at h2; subst h2
    exact ⟨_, h5⟩
  | fz x =>
    rw [e] at ck
    obtain ⟨b, o, rfl, h5, _⟩ := ck
    simp at h2; subst h2
    exact ⟨_, rl.same _ _ h5⟩
  | dS kvs =>
    rw [e] at ck
    obtain ⟨b, xs, rfl, _, h5, _⟩ := ck
    simp at h2; subst h2
    exact ⟨_, h5⟩
  | dT kvs =>
    rw [e] at ck
    obtain ⟨b, xs, rfl, _, h5, _⟩ := ck
    simp at h2; subst h2
    exact ⟨_, h5⟩
theorem Rel.new (rl : Rel K m H st) {p : Addr} (hp : H p = none) : p ∉ m.ι.flatten := fun h => by
  obtain ⟨o, e⟩ := rl.tr h
  rw [hp] at e; cases e
theorem Rel.newF (rl : Rel K m H st) {p : Addr} (hp : H p = none) : m.F p = none := by
  cases e : m.F p with
  | none => rfl
  | some o => rw [rl.same _ _ e] at hp; cases hp
/-- the content of a cell stands, if the frozen part grows elsewhere and the heap keeps its address -/
theorem COk.mono {F F' H H' : Hp} {as : List Addr} {c : C} (h : COk K F H as c) (s : Same F F') (hF : ∀ a ∈ as, F a = none → F' a = none) (hH : ∀ a ∈ as, ∀ o, H a = some o → H' a = some o) : COk K F' H' as c := by
  cases c with
  | lst ds =>
    obtain ⟨a, xs, rfl, h1, h2, h3⟩ := h
    exact ⟨a, xs, rfl, hF a (by simp) h1, hH a (by simp) _ h2, dpAll_same s h3⟩
  | fz x =>
    obtain ⟨a, o, rfl, h1, h2⟩ := h
    exact ⟨a, o, rfl, s _ _ h1, dp_same s h2⟩
  | dS kvs =>
    obtain ⟨a, xs, rfl, h1, h2, h3⟩ := h
    exact ⟨a, xs, rfl, hF a (by simp) h1, hH a (by simp) _ h2, Paired.mapP h3 fun _ _ z => ⟨z.1, dp_same s z.2⟩⟩
  | dT kvs =>
    obtain ⟨a, xs, rfl, h1, h2, h3⟩ := h
    exact ⟨a, xs, rfl, hF a (by simp) h1, hH a (by simp) _ h2, Paired.mapP h3 fun _ _ z => ⟨z.1, dp_same s z.2⟩⟩
theorem mem_ι {n : Nat} {as : List Addr} {a : Addr} (h : m.ι[n]? = some as) (ha : a ∈ as) : a ∈ m.ι.flatten := List.mem_flatten.mpr ⟨as, List.mem_of_getElem? h, ha⟩
/-- a new frozen thing -/
theorem Rel.allocF (rl : Rel K m H st) {p : Addr} {o : HO} (hp : H p = none) : Rel K ⟨m.ι, upd m.F p o⟩ (upd H p o) st ∧ Step m ⟨m.ι, upd m.F p o⟩ H (upd H p o) := by
  have hF := rl.newF hp
  have s : Same m.F (upd m.F p o) := fun b u q => by rw [upd_ne (ne_of_none q hF)]; exact q
  refine ⟨⟨fun b u q => ?_, rl.len, rl.nd, fun n as c h1 h2 => ?_⟩, ⟨Nat.le_refl _, fun _ _ r h => ⟨r, h⟩, s, fun a u e _ => by rw [upd_ne (ne_of_none e hp)]; exact e, fun a h => .inl h, fun a h n => ?_⟩⟩
  · by_cases hb : b = p
    · subst hb
      have q' : upd m.F b o b = some u := q
      rw [upd_same] at q' ⊢
      exact q'
    · have q' : upd m.F p o b = some u := q
      rw [upd_ne hb] at q' ⊢
      exact rl.same b u q'
  · refine (rl.cell n as c h1 h2).mono s (fun a ha e => ?_) fun a ha u e => ?_
    · have : a ≠ p := fun z => rl.new hp (z ▸ mem_ι h1 ha)
      show upd m.F p o a = none
      rw [upd_ne this]; exact e
    · rw [upd_ne (ne_of_none e hp)]; exact e
  · by_cases ha : a = p
    · subst ha; exact .inr hp
    · have n' : upd m.F p o a ≠ none := n
      rw [upd_ne ha] at n'
      exact absurd h n'
/-- a new cell -/
theorem Rel.allocC (rl : Rel K m H st) {p : Addr} {o : HO} {c : C} (hp : H p = none) (hc : COk K m.F (upd H p o) [p] c) : Rel K ⟨m.ι ++ [[p]], m.F⟩ (upd H p o) (st ++ [c]) ∧ Step m ⟨m.ι ++ [[p]], m.F⟩ H (upd H p o) := by
  have hn := rl.new hp
  refine ⟨⟨fun b u q => ?_, by simp [rl.len], ?_, fun n as c' h1 h2 => ?_⟩, ⟨by simp, fun n a r h => ⟨r, ?_⟩, fun _ _ z => z, fun a u e _ => by rw [upd_ne (ne_of_none e hp)]; exact e, fun a h => ?_, fun _ h n => absurd h n⟩⟩
  · have := rl.same b u q
    rw [upd_ne (ne_of_none this hp)]; exact this
  · show (m.ι ++ [[p]]).flatten.Nodup
    rw [List.flatten_append]
    refine List.nodup_append.mpr ⟨rl.nd, by simp, fun a ha b hb => ?_⟩
    simp at hb
    subst hb
    exact fun z => hn (z ▸ ha)
  · by_cases hl : n < m.ι.length
    · have h1' : m.ι[n]? = some as := by
        have z : (m.ι ++ [[p]])[n]? = some as := h1
        rwa [List.getElem?_append_left hl] at z
      have h2' : st[n]? = some c' := by rwa [List.getElem?_append_left (by rw [← rl.len]; exact hl)] at h2
      refine (rl.cell n as c' h1' h2').mono (fun _ _ z => z) (fun _ _ z => z) fun a ha u e => ?_
      rw [upd_ne (ne_of_none e hp)]; exact e
    · have hn' : n = m.ι.length := by
        have z : (m.ι ++ [[p]])[n]? = some as := h1
        have := (List.getElem?_eq_some_iff.mp z).1
        simp at this
        omega
      subst hn'
      have z : (m.ι ++ [[p]])[m.ι.length]? = some as := h1
      rw [rl.len] at h2
      simp at z h2
      subst z h2
      exact hc
  · show (m.ι ++ [[p]])[n]? = _
    rw [List.getElem?_append_left (List.getElem?_eq_some_iff.mp h).1]; exact h
  · have z : a ∈ (m.ι ++ [[p]]).flatten := h
    rw [List.flatten_append, List.mem_append] at z
    rcases z with z | z
    · exact .inl z
    · simp at z; subst z; exact .inr hp
theorem nodup_flat : ∀ {l : List (List Addr)} {i j : Nat} {as bs : List Addr} {a : Addr}, l.flatten.Nodup → l[i]? = some as → l[j]? = some bs → a ∈ as → a ∈ bs → i = j
  | [], i, _, _, _, _, _, h, _, _, _ => by simp at h
  | x :: l, 0, 0, _, _, _, _, _, _, _, _ => rfl
  | x :: l, 0, j + 1, as, bs, a, nd, h1, h2, ha, hb => by
    simp at h1 h2
    subst h1
    rw [List.flatten_cons] at nd
    exact absurd rfl ((List.nodup_append.mp nd).2.2 a ha a (List.mem_flatten.mpr ⟨bs, List.mem_of_getElem? h2, hb⟩))
  | x :: l, i + 1, 0, as, bs, a, nd, h1, h2, ha, hb => by
    simp at h1 h2
    subst h2
    rw [List.flatten_cons] at nd
    exact absurd rfl ((List.nodup_append.mp nd).2.2 a hb a (List.mem_flatten.mpr ⟨as, List.mem_of_getElem? h1, ha⟩))
  | x :: l, i + 1, j + 1, as, bs, a, nd, h1, h2, ha, hb => by
    simp at h1 h2
    rw [List.flatten_cons] at nd
    exact congrArg (· + 1) (nodup_flat (List.nodup_append.mp nd).2.1 h1 h2 ha hb)
/-- a cell of one address gets another content -/
theorem Rel.write (rl : Rel K m H st) {n : Nat} {p : Addr} {o : HO} {c : C} (hn : m.ι[n]? = some [p]) (hF : m.F p = none) (hc : COk K m.F (upd H p o) [p] c) : Rel K m (upd H p o) (st.set n c) ∧ Step m m H (upd H p o) := by
  have hm : p ∈ m.ι.flatten := mem_ι hn (by simp)
  refine ⟨⟨fun b u q => ?_, by simp [rl.len], rl.nd, fun k as c' h1 h2 => ?_⟩, ⟨Nat.le_refl _, fun _ _ r h => ⟨r, h⟩, Same.refl _, fun a u e ha => by rw [upd_ne (show a ≠ p from fun z => ha (by rw [z]; exact hm))]; exact e, fun a h => .inl h, fun _ h n => absurd h n⟩⟩
  · rw [upd_ne (ne_of_none q hF)]; exact rl.same b u q
  · by_cases hk : n = k
    · subst hk
      rw [hn] at h1; cases h1
      rw [List.getElem?_set_self (by rw [← rl.len]; exact (List.getElem?_eq_some_iff.mp hn).1)] at h2
      cases h2
      exact hc
    · rw [List.getElem?_set_ne hk] at h2
      refine (rl.cell k as c' h1 h2).mono (fun _ _ z => z) (fun _ _ z => z) fun a ha u e => ?_
      have : a ≠ p := fun z => hk (nodup_flat rl.nd hn h1 (by simp) (z ▸ ha))
      rw [upd_ne this]; exact e
/-- a list cell is frozen -/
theorem Rel.freeze (rl : Rel K m H st) {n : Nat} {a : Addr} {r : List Addr} {ds : List PyData} (hn : m.ι[n]? = some (a :: r)) (hc : st[n]? = some (.lst ds)) :
    ∃ m', Rel K m' H (st.set n (.fz (.list ds))) ∧ Step m m' H H ∧ Dq K m'.F (.ref a) (.list ds) := by
  obtain ⟨a', xs, e, hF, hH, hd⟩ := rl.at hn hc
  cases e
  have s : Same m.F (upd m.F a (.lst xs)) := fun b u q => by rw [upd_ne (ne_of_none q hF)]; exact q
  have hdp : Dq K (upd m.F a (.lst xs)) (.ref a) (.list ds) := .lst upd_same (dpAll_same s hd)
  refine ⟨⟨m.ι, upd m.F a (.lst xs)⟩, ⟨fun b u q => ?_, by simp [rl.len], rl.nd, fun k as c' h1 h2 => ?_⟩, ⟨Nat.le_refl _, fun _ _ r h => ⟨r, h⟩, s, fun _ _ e _ => e, fun _ h => .inl h, fun b h n => ?_⟩, hdp⟩
  · by_cases hb : b = a
    · subst hb
      have q' : upd m.F b (.lst xs) b = some u := q
      rw [upd_same] at q'; cases q'
      exact hH
    · have q' : upd m.F a (.lst xs) b = some u := q
      rw [upd_ne hb] at q'
      exact rl.same b u q'
  · by_cases hk : n = k
    · subst hk
      have h1' : m.ι[n]? = some as := h1
      rw [hn] at h1'; cases h1'
      rw [List.getElem?_set_self (by rw [← rl.len]; exact (List.getElem?_eq_some_iff.mp hn).1)] at h2
      cases h2
      exact ⟨a, _, rfl, upd_same, hdp⟩
    · rw [List.getElem?_set_ne hk] at h2
      refine (rl.cell k as c' h1 h2).mono s (fun b hb e => ?_) fun _ _ _ e => e
      have : b ≠ a := fun z => hk (nodup_flat rl.nd hn h1 (by simp) (z ▸ hb))
      show upd m.F a (.lst xs) b = none
      rw [upd_ne this]; exact e
  · by_cases hb : b = a
    · subst hb; exact .inl (mem_ι hn (by simp))
    · have n' : upd m.F a (.lst xs) b ≠ none := n
      rw [upd_ne hb] at n'
      exact absurd h n'
end
end FL
set_option Elab.async false
set_option linter.all false
set_option maxRecDepth 100000
set_option maxHeartbeats 4000000
namespace FL
open PySem PySem.Spec PyProof.Rows L2
def LIM : Nat := 1000000
theorem LIM_le {n : Nat} (h : n ≤ LIM) : n ≤ sizeLine := Nat.le_trans h (by rw [sizeLine_eq]; decide)
theorem LIM_lt {n : Nat} (h : n ≤ LIM) : n < sizeLine := Nat.lt_of_le_of_lt h (by rw [sizeLine_eq]; decide)
section
variable {X : Cx} {Wx : WX}
/-! ### names, constants -/
def fVar (i : Nat) : FE := fun env st => match env[i]? with
  | some (some w) => .ok w st
  | _ => .bad
theorem je_var (i : Nat) {x : Str} {pos : Pos} (hN : X.N[i]? = some x := by rfl) (hv : Vis X.env.scope x := by first | exact Or.inl rfl | exact Or.inr (Or.inl rfl) | exact Or.inr (Or.inr rfl)) (hd : (x == ("__debug__" : Str)) = false := by decide) (hcd : (x == ("__classdict__" : Str)) = false := by decide) :
    JE X Wx (.Name x pos) (fVar i) := peI (pe_var hN hv hd hcd) fun σ H Q ⟨m, env, st, rl, re, p⟩ => by
  unfold fVar at p
  cases e : env[i]? with
  | none => rw [e] at p; exact p.elim
  | some o =>
    cases o with
    | none => rw [e] at p; exact p.elim
    | some w =>
      rw [e] at p
      obtain ⟨v, h1, h2⟩ := re.2 i w e
      exact ⟨v, h1, p m H .refl rl v h2⟩
def fC (x : PyData) : FE := fun _ st => .ok (.d x) st
theorem fC_rd {v : V} {x : PyData} {σ : L2.St} {H : Hp} {Q : VK} (hd : ∀ F, Dq X.K F v x) (h : rdE X Wx (fC x) σ H Q) : Q v H := by
  obtain ⟨m, env, st, rl, re, p⟩ := h
  exact p m H .refl rl v (hd _)
theorem je_int {i j pos} : JE X Wx (.Constant (.int i) j pos) (fC (.int i)) := peI pe_int fun _ _ _ h => fC_rd (fun _ => .int i) h
theorem je_bl {b j pos} : JE X Wx (.Constant (.bool b) j pos) (fC (.bool b)) := peI pe_bl fun _ _ _ h => fC_rd (fun _ => .bl b) h
theorem je_non {j pos} : JE X Wx (.Constant .none j pos) (fC .none) := peI pe_non fun _ _ _ h => fC_rd (fun _ => .non) h
theorem je_str {x j pos} : JE X Wx (.Constant (.str x) j pos) (fC (.str x)) := peI pe_str fun _ _ _ h => fC_rd (fun _ => .str x) h
theorem je_neg {i j pos p2} : JE X Wx (.UnaryOp .USub (.Constant (.int i) j pos) p2) (fC (.int (-i))) := peI (pe_un un_neg pe_int) fun _ _ _ h => ⟨i, rfl, fC_rd (v := .int (-i)) (fun _ => .int (-i)) h⟩
/-- a global that holds data -/
structure GD (K : PySem.W.Frag) (mg : Str → Option Value) (x : Str) (d : PyData) : Prop where
  ex : ∃ u v, mg x = some u ∧ RelV v u ∧ ∀ F, Dq K F v d
theorem je_glob {x : Str} {d : PyData} {pos : Pos} (g : GD X.K X.mg x d) (hg : Gl X x := by rfl) (hd : (x == ("__debug__" : Str)) = false := by decide) : JE X Wx (.Name x pos) (fC d) := by
  obtain ⟨u, v, h1, h2, h3⟩ := g.ex
  exact peI (pe_glob hg h1 h2 hd) fun _ _ _ h => fC_rd h3 h

/-! ### argument lists, displays -/
def fNil : FA := fun _ st => .ok [] st
def fCons (fa : FE) (fr : FA) : FA := fun env st => (fa env st).bind fun w st1 => (fr env st1).bind fun ws st2 => .ok (w :: ws) st2
variable {e a b c : Expr} {es : List Expr} {fe fa fb fc : FE} {fas : FA} {pos : Pos}
theorem ja_nil : JA X Wx [] fNil := paI pa_nil fun σ H Q ⟨m, env, st, rl, re, p⟩ => p m H .refl rl [] .nil
theorem ja_cons (ha : JE X Wx e fe) (hr : JA X Wx es fas) (hs : starEach (e :: es) X.env = (false, eval e X.env) :: starEach es X.env := by rfl) : JA X Wx (e :: es) (fCons fe fas) :=
  paI (pa_cons ha hr hs) fun σ H Q ⟨m, env, st, rl, re, p⟩ =>
    (seqE rl re p).imp fun x H1 ⟨m1, st1, w, s1, rl1, re1, rv1, p1⟩ => (seqA rl1 re1 p1).imp fun xs H2 ⟨m2, st2, ws, s2, rl2, re2, rv2, p2⟩ => p2 m2 H2 .refl rl2 _ (.cons (rv1.mono s2) rv2)
def LenA (fas : FA) (n : Nat) : Prop := ∀ env st ws st', fas env st = .ok ws st' → ws.length = n
theorem ln0 : LenA fNil 0 := fun env st ws st' h => by cases h; rfl
theorem ln1 {n : Nat} (h : LenA fas n) : LenA (fCons fe fas) (n + 1) := fun env st ws st' e => by
  unfold fCons at e
  cases e1 : fe env st with
  | bad => rw [e1] at e; cases e
  | ex c s => rw [e1] at e; cases e
  | ok w st1 =>
    rw [e1] at e
    cases e2 : fas env st1 with
    | bad => simp [Res.bind, e2] at e
    | ex c s => simp [Res.bind, e2] at e
    | ok ws' st2 =>
      simp [Res.bind, e2] at e
      rw [← e.1, List.length_cons, h env st1 ws' st2 e2]
/-- a value as data; a mutable list is frozen -/
def frz1 (w : W) (st : Sto) : Option (PyData × Sto) := match w with
  | .d x => some (x, st)
  | .c n => (match st[n]? with
    | some (.lst ds) => some (.list ds, st.set n (.fz (.list ds)))
    | some (.fz x) => some (x, st)
    | _ => none)
  | .s _ => none
  | .t _ => none
def frzAll : List W → Sto → Option (List PyData × Sto)
  | [], st => some ([], st)
  | w :: ws, st => (frz1 w st).bind fun p => (frzAll ws p.2).bind fun q => some (p.1 :: q.1, q.2)
theorem frz1_ok {K : PySem.W.Frag} {m : Wd} {H : Hp} {st st' : Sto} {v : V} {w : W} {d : PyData} (rl : Rel K m H st) (rv : RV K m v w) (h : frz1 w st = some (d, st')) : ∃ m', Rel K m' H st' ∧ Step m m' H H ∧ Dq K m'.F v d := by
  cases w with
  | d x => cases h; exact ⟨m, rl, .refl, rv⟩
  | s ns => cases h
  | t n => cases h
  | c n =>
    obtain ⟨a, r, h1, rfl⟩ := rv
    unfold frz1 at h
    cases e : st[n]? with
    | none => simp [e] at h
    | some c =>
      cases c with
      | lst xs =>
        simp [e] at h
        obtain ⟨rfl, rfl⟩ := h
        exact rl.freeze h1 e
      | fz x =>
        simp [e] at h
        obtain ⟨rfl, rfl⟩ := h
        obtain ⟨a', _, e1, _, e2⟩ := rl.at h1 e
        cases e1
        exact ⟨m, rl, .refl, e2⟩
      | dS _ => simp [e] at h
      | dT _ => simp [e] at h
theorem frzAll_ok {K : PySem.W.Frag} {H : Hp} : ∀ {ws : List W} {vs : List V} {m : Wd} {st st' : Sto} {ds : List PyData}, Rel K m H st → RVs K m vs ws → frzAll ws st = some (ds, st') → ∃ m', Rel K m' H st' ∧ Step m m' H H ∧ DqAll K m'.F vs ds
  | [], _, m, st, st', ds, rl, rv, h => by
    cases rv
    cases h
    exact ⟨m, rl, .refl, .nil⟩
  | w :: ws, _, m, st, st', ds, rl, rv, h => by
    cases rv with
    | cons r1 r2 =>
      unfold frzAll at h
      cases e : frz1 w st with
      | none => rw [e] at h; cases h
      | some p =>
        rw [e] at h
        simp only [Option.bind_some] at h
        cases e2 : frzAll ws p.2 with
        | none => rw [e2] at h; cases h
        | some q =>
          rw [e2] at h
          cases h
          obtain ⟨m1, rl1, s1, d1⟩ := frz1_ok (d := p.1) (st' := p.2) rl r1 e
          obtain ⟨m2, rl2, s2, d2⟩ := frzAll_ok rl1 (r2.mono s1) e2
          exact ⟨m2, rl2, s1.trans s2, .cons (dp_same s2.fro d1) d2⟩
theorem seqAL {m : Wd} {env : Ev} {st : Sto} {σ : L2.St} {H : Hp} {α : Type} {R : Wd → Hp → Sto → α → Prop} {fa : FA} {k : List W → Sto → Res α} (rl : Rel X.K m H st) (re : RE X.K m env σ) (h : Po X.K Wx (clX X) σ m H R ((fa env st).bind k)) :
    rdA X Wx fa σ H (fun xs H1 => ∃ m1 st1 ws, Step m m1 H H1 ∧ Rel X.K m1 H1 st1 ∧ RE X.K m1 env σ ∧ RVs X.K m1 xs ws ∧ Po X.K Wx (clX X) σ m1 H1 R (k ws st1) ∧ fa env st = .ok ws st1) := by
  refine ⟨m, env, st, rl, re, ?_⟩
  have h1 := Po.bind h
  cases e : fa env st with
  | bad => rw [e] at h1; exact h1
  | ok w st1 => rw [e] at h1; exact fun m1 H1 s1 r1 v rv => ⟨m1, st1, w, s1, r1, re.mono s1, rv, h1 m1 H1 s1 r1, rfl⟩
  | ex c st1 => rw [e] at h1; exact h1
def fTup (fas : FA) : FE := fun env st => (fas env st).bind fun ws st1 => Res.of2 ((frzAll ws st1).bind fun p => some (.d (.tuple p.1), p.2))
def fLst (fas : FA) : FE := fun env st => (fas env st).bind fun ws st1 => Res.of2 ((frzAll ws st1).bind fun p => some (.d (.list p.1), p.2))
def fNew (fas : FA) : FE := fun env st => (fas env st).bind fun ws st1 => Res.of2 ((frzAll ws st1).bind fun p => some (.c p.2.length, p.2 ++ [.lst p.1]))
theorem le1000 {n : Nat} (h : n ≤ 1000) : n ≤ sizeLine := Nat.le_of_lt (small1000 h)
theorem je_tup {x1} {n : Nat} (h : JA X Wx es fas) (hl : LenA fas n) (hn : n ≤ 1000 := by decide) : JE X Wx (.Tuple es x1 pos) (fTup fas) := peI (pe_tup h) fun σ H Q ⟨m, env, st, rl, re, p⟩ =>
  (seqAL rl re p).imp fun xs H1 ⟨m1, st1, ws, s1, rl1, re1, rv1, p1, hws⟩ => by
    obtain ⟨w, st', e, q⟩ := Po.of2 p1
    cases e1 : frzAll ws st1 with
    | none => rw [e1] at e; cases e
    | some pp =>
      rw [e1] at e
      simp only [Option.bind_some] at e
      · cases e
        obtain ⟨m2, rl2, s2, d2⟩ := frzAll_ok rl1 rv1 e1
        refine ⟨le1000 (by rw [rv1.length, hl _ _ _ _ hws]; exact hn), fun t ht => ?_⟩
        obtain ⟨rl3, s3⟩ := rl2.allocF (o := .tup xs) ht
        exact q _ _ (s2.trans s3) rl3 _ (.tup (SqT.of upd_same) (dpAll_same s3.fro d2))
theorem je_lst {n : Nat} (h : JA X Wx es fas) (hl : LenA fas n) (hn : n ≤ 1000 := by decide) : JE X Wx (.List es pos) (fLst fas) := peI (pe_lst h) fun σ H Q ⟨m, env, st, rl, re, p⟩ =>
  (seqAL rl re p).imp fun xs H1 ⟨m1, st1, ws, s1, rl1, re1, rv1, p1, hws⟩ => by
    obtain ⟨w, st', e, q⟩ := Po.of2 p1
    cases e1 : frzAll ws st1 with
    | none => rw [e1] at e; cases e
    | some pp =>
      rw [e1] at e
      simp only [Option.bind_some] at e
      · cases e
        obtain ⟨m2, rl2, s2, d2⟩ := frzAll_ok rl1 rv1 e1
        refine ⟨le1000 (by rw [rv1.length, hl _ _ _ _ hws]; exact hn), fun t ht => ?_⟩
        obtain ⟨rl3, s3⟩ := rl2.allocF (o := .lst xs) ht
        exact q _ _ (s2.trans s3) rl3 _ (.lst upd_same (dpAll_same s3.fro d2))
theorem je_new {n : Nat} (h : JA X Wx es fas) (hl : LenA fas n) (hn : n ≤ 1000 := by decide) : JE X Wx (.List es pos) (fNew fas) := peI (pe_lst h) fun σ H Q ⟨m, env, st, rl, re, p⟩ =>
  (seqAL rl re p).imp fun xs H1 ⟨m1, st1, ws, s1, rl1, re1, rv1, p1, hws⟩ => by
    obtain ⟨w, st', e, q⟩ := Po.of2 p1
    cases e1 : frzAll ws st1 with
    | none => rw [e1] at e; cases e
    | some pp =>
      rw [e1] at e
      simp only [Option.bind_some] at e
      · cases e
        obtain ⟨m2, rl2, s2, d2⟩ := frzAll_ok rl1 rv1 e1
        refine ⟨le1000 (by rw [rv1.length, hl _ _ _ _ hws]; exact hn), fun t ht => ?_⟩
        obtain ⟨rl3, s3⟩ := rl2.allocC (o := .lst xs) (c := .lst pp.1) ht ⟨t, xs, rfl, rl2.newF ht, upd_same, d2⟩
        exact q _ _ (s2.trans s3) rl3 _ ⟨t, [], by rw [← rl2.len]; simp, rfl⟩
/-! ### operators -/
theorem op_any {f : Value → Value → Sem Value} : OpR X f (fun x y H Q => ∃ r, OpR X f r ∧ r x y H Q) := fun pins s σ H x y v u Q I rx ry h => by
  obtain ⟨r, h1, h2⟩ := h
  exact h1 pins s σ H x y v u Q I rx ry h2
/-- a Lean function stands for an operator -/
def OpS (X : Cx) (f : Value → Value → Sem Value) (g : W → W → Sto → Option (W × Sto)) : Prop :=
  ∀ (m : Wd) (H : Hp) (st st' : Sto) (x y w : W) (v u : V) (Q : VK), Rel X.K m H st → RV X.K m v x → RV X.K m u y → g x y st = some (w, st') →
    (∀ m' H' z, Step m m' H H' → Rel X.K m' H' st' → RV X.K m' z w → Q z H') → ∃ r, OpR X f r ∧ r v u H Q
def fBin (g : W → W → Sto → Option (W × Sto)) (fa fb : FE) : FE := fun env st => (fa env st).bind fun x st1 => (fb env st1).bind fun y st2 => Res.of2 (g x y st2)
theorem bin_rd {f : Value → Value → Sem Value} {g : W → W → Sto → Option (W × Sto)} (ho : OpS X f g) {σ : L2.St} {H : Hp} {Q : VK} (h : rdE X Wx (fBin g fa fb) σ H Q) : tOp (fun x y H Q => ∃ r, OpR X f r ∧ r x y H Q) (rdE X Wx fa) (rdE X Wx fb) σ H Q := by
  obtain ⟨m, env, st, rl, re, p⟩ := h
  refine (seqE rl re p).imp fun x H1 ⟨m1, st1, w, s1, rl1, re1, rv1, p1⟩ => (seqE rl1 re1 p1).imp fun y H2 ⟨m2, st2, w2, s2, rl2, re2, rv2, p2⟩ => ?_
  obtain ⟨z, st', e, q⟩ := Po.of2 p2
  exact ho m2 H2 st2 st' w w2 z x y Q rl2 (rv1.mono s2) rv2 e fun m' H' z' s' rl' rv' => q m' H' s' rl' z' rv'
theorem je_bin {op : Operator} {g : W → W → Sto → Option (W × Sto)} (ho : OpS X (binaryOp op) g) (ha : JE X Wx a fa) (hb : JE X Wx b fb) : JE X Wx (.BinOp a op b pos) (fBin g fa fb) :=
  peI (pe_op op_any ha hb) fun σ H Q h => bin_rd ho h
theorem je_cmp {op : CmpOp} {g : W → W → Sto → Option (W × Sto)} (ho : OpS X (compareOp op) g) (ha : JE X Wx a fa) (hb : JE X Wx b fb) (hm : behindInMarks op b = false := by first | exact nomark _ | rfl) : JE X Wx (.Compare a [op] [b] pos) (fBin g fa fb) :=
  peI (pe_cmpR op_any ha hb hm) fun σ H Q h => bin_rd ho h
/-- a bool as a test -/
def toB (w : W) : Option Bool := match w with
  | .d (.bool b) => some b
  | _ => none
def fTest (fa : FE) : FT := fun env st => (fa env st).bind fun w st1 => Res.of (toB w) st1
theorem test_rd {t : TE} {σ : L2.St} {H : Hp} {Q : Bool → Hp → Prop} (h : rdT X Wx (fTest fa) σ H Q) (ht : ∀ Q, rdE X Wx fa σ H Q → t σ H Q) : t σ H fun x H' => ∃ k, x = .bl k ∧ Q k H' := by
  obtain ⟨m, env, st, rl, re, p⟩ := h
  refine ht _ ((seqE rl re p).imp fun x H1 ⟨m1, st1, w, s1, rl1, re1, rv1, p1⟩ => ?_)
  obtain ⟨b, e, q⟩ := Po.of p1 rl1
  unfold toB at e
  split at e
  · cases e
    cases rv1
    exact ⟨_, rfl, q⟩
  · cases e
theorem jt_cmp {op : CmpOp} {g : W → W → Sto → Option (W × Sto)} (ho : OpS X (compareOp op) g) (ha : JE X Wx a fa) (hb : JE X Wx b fb) (hm : behindInMarks op b = false := by first | exact nomark _ | rfl) : JT X Wx (.Compare a [op] [b] pos) (fTest (fBin g fa fb)) :=
  ptI (pt_cmpR op_any ha hb hm) fun σ H Q h => test_rd h fun Q q => bin_rd ho q
theorem jt_val (h : JE X Wx e fe) (he : ∀ whole, isTrue e X.env whole = (do let v ← whole; standAt e.pos; holding [v] (truthy v)) := by intro _; rfl) : JT X Wx e (fTest fe) :=
  ptI (pt_val h he) fun σ H Q h => test_rd h fun Q q => q
/-! chains -/
def fChain (g g' : W → W → Sto → Option (W × Sto)) (fa fb fc : FE) : FE := fun env st => (fa env st).bind fun x st1 => (fb env st1).bind fun y st2 => (Res.of2 (g x y st2)).bind fun z st3 => (Res.of (toB z) st3).bind fun k st4 =>
  if k then (fc env st4).bind fun u st5 => Res.of2 (g' y u st5) else .ok (.d (.bool false)) st4
theorem chain_rd {f f' : Value → Value → Sem Value} {g g' : W → W → Sto → Option (W × Sto)} (ho : OpS X f g) (ho' : OpS X f' g') {σ : L2.St} {H : Hp} {Q : VK} (h : rdE X Wx (fChain g g' fa fb fc) σ H Q) :
    tChain (fun x y H Q => ∃ r, OpR X f r ∧ r x y H Q) (fun x y H Q => ∃ r, OpR X f' r ∧ r x y H Q) (rdE X Wx fa) (rdE X Wx fb) (rdE X Wx fc) σ H Q := by
  obtain ⟨m, env, st, rl, re, p⟩ := h
  refine (seqE rl re p).imp fun x H1 ⟨m1, st1, w, s1, rl1, re1, rv1, p1⟩ => (seqE rl1 re1 p1).imp fun y H2 ⟨m2, st2, w2, s2, rl2, re2, rv2, p2⟩ => ?_
  obtain ⟨z, st3, e, q⟩ := Po.of2 (Po.bind p2)
  refine ho m2 H2 st2 st3 w w2 z x y _ rl2 (rv1.mono s2) rv2 e fun m3 H3 z' s3 rl3 rv3 => ?_
  obtain ⟨k, e, q2⟩ := Po.of (Po.bind (q m3 H3 s3 rl3)) rl3
  unfold toB at e
  split at e
  · cases e
    cases rv3
    refine ⟨_, rfl, ?_⟩
    cases k with
    | true =>
      rw [if_pos rfl]
      refine (seqE rl3 (re2.mono s3) q2).imp fun u H4 ⟨m4, st4, w4, s4, rl4, re4, rv4, p4⟩ => ?_
      obtain ⟨z, st', e, q⟩ := Po.of2 p4
      exact ho' m4 H4 st4 st' w2 w4 z y u Q rl4 ((rv2.mono s3).mono s4) rv4 e fun m' H' z' s' rl' rv' => q m' H' s' rl' z' rv'
    | false => exact q2 m3 H3 .refl rl3 _ (.bl false)
  · cases e
theorem je_chain {op op' : CmpOp} {g g' : W → W → Sto → Option (W × Sto)} (ho : OpS X (compareOp op) g) (ho' : OpS X (compareOp op') g') (ha : JE X Wx a fa) (hb : JE X Wx b fb) (hc : JE X Wx c fc)
    (h1 : lastMarks [op, op'] [b, c] = false := by with_unfolding_all rfl) : JE X Wx (.Compare a [op, op'] [b, c] pos) (fChain g g' fa fb fc) :=
  peI (pe_chain op_any op_any ha hb hc h1) fun σ H Q h => chain_rd ho ho' h
theorem jt_chain {op op' : CmpOp} {g g' : W → W → Sto → Option (W × Sto)} (ho : OpS X (compareOp op) g) (ho' : OpS X (compareOp op') g') (ha : JE X Wx a fa) (hb : JE X Wx b fb) (hc : JE X Wx c fc)
    (h1 : lastMarks [op, op'] [b, c] = false := by with_unfolding_all rfl) : JT X Wx (.Compare a [op, op'] [b, c] pos) (fTest (fChain g g' fa fb fc)) :=
  ptI (pt_chain op_any op_any ha hb hc h1) fun σ H Q h => test_rd h fun Q q => chain_rd ho ho' q

/-! ### and, or, not, if -/
variable {ft fu : FT} {rest : List Expr}
def fAnd (ft fu : FT) : FT := fun env st => (ft env st).bind fun k st1 => if k then fu env st1 else .ok false st1
def fOr (ft fu : FT) : FT := fun env st => (ft env st).bind fun k st1 => if k then .ok true st1 else fu env st1
def fNot (ft : FT) : FT := fun env st => (ft env st).bind fun k st1 => .ok (!k) st1
theorem jw_and1 (ha : JT X Wx a ft) : JW X Wx (.BoolOp .And [a] pos) ft := pw_and1 ha
theorem jw_or1 (ha : JT X Wx a ft) : JW X Wx (.BoolOp .Or [a] pos) ft := pw_or1 ha
theorem jw_and (ha : JT X Wx a ft) (hb : JW X Wx (.BoolOp .And (b :: rest) pos) fu) : JW X Wx (.BoolOp .And (a :: b :: rest) pos) (fAnd ft fu) := pwI (pw_and ha hb) fun σ H Q ⟨m, env, st, rl, re, p⟩ =>
  (seqT rl re p).imp fun k H1 ⟨m1, st1, s1, rl1, re1, p1⟩ => by
    cases k with
    | true => exact ⟨m1, env, st1, rl1, re1, p1⟩
    | false => exact p1 m1 H1 .refl rl1
theorem jw_or (ha : JT X Wx a ft) (hb : JW X Wx (.BoolOp .Or (b :: rest) pos) fu) : JW X Wx (.BoolOp .Or (a :: b :: rest) pos) (fOr ft fu) := pwI (pw_or ha hb) fun σ H Q ⟨m, env, st, rl, re, p⟩ =>
  (seqT rl re p).imp fun k H1 ⟨m1, st1, s1, rl1, re1, p1⟩ => by
    cases k with
    | false => exact ⟨m1, env, st1, rl1, re1, p1⟩
    | true => exact p1 m1 H1 .refl rl1
theorem jt_w (h : JW X Wx e ft) : JT X Wx e ft := h.pt
theorem jt_not (ha : JT X Wx a ft) : JT X Wx (.UnaryOp .Not a pos) (fNot ft) := ptI (pt_not ha) fun σ H Q ⟨m, env, st, rl, re, p⟩ =>
  (seqT rl re p).imp fun k H1 ⟨m1, st1, s1, rl1, re1, p1⟩ => p1 m1 H1 .refl rl1
def fAndV (fa fb : FE) : FE := fun env st => (fa env st).bind fun w st1 => (Res.of (toB w) st1).bind fun k st2 => if k then fb env st2 else .ok (.d (.bool false)) st2
def fOrV (fa fb : FE) : FE := fun env st => (fa env st).bind fun w st1 => (Res.of (toB w) st1).bind fun k st2 => if k then .ok (.d (.bool true)) st2 else fb env st2
def fNotV (fa : FE) : FE := fun env st => (fa env st).bind fun w st1 => (Res.of (toB w) st1).bind fun k st2 => .ok (.d (.bool (!k))) st2
theorem je_one {op} (h : JE X Wx a fa) : JE X Wx (.BoolOp op [a] pos) fa := pe_one h
theorem je_and (ha : JE X Wx a fa) (hb : JE X Wx (.BoolOp .And (b :: rest) pos) fb) : JE X Wx (.BoolOp .And (a :: b :: rest) pos) (fAndV fa fb) := peI (pe_and ha hb) fun σ H Q ⟨m, env, st, rl, re, p⟩ =>
  (seqE rl re p).imp fun x H1 ⟨m1, st1, w, s1, rl1, re1, rv1, p1⟩ => by
    obtain ⟨k, e, q⟩ := Po.of (Po.bind p1) rl1
    unfold toB at e
    split at e
    · cases e
      cases rv1
      refine ⟨_, rfl, ?_⟩
      cases k with
      | true => exact ⟨m1, env, st1, rl1, re1, q⟩
      | false => exact q m1 H1 .refl rl1 _ (.bl false)
    · cases e
theorem je_or (ha : JE X Wx a fa) (hb : JE X Wx (.BoolOp .Or (b :: rest) pos) fb) : JE X Wx (.BoolOp .Or (a :: b :: rest) pos) (fOrV fa fb) := peI (pe_or ha hb) fun σ H Q ⟨m, env, st, rl, re, p⟩ =>
  (seqE rl re p).imp fun x H1 ⟨m1, st1, w, s1, rl1, re1, rv1, p1⟩ => by
    obtain ⟨k, e, q⟩ := Po.of (Po.bind p1) rl1
    unfold toB at e
    split at e
    · cases e
      cases rv1
      refine ⟨_, rfl, ?_⟩
      cases k with
      | false => exact ⟨m1, env, st1, rl1, re1, q⟩
      | true => exact q m1 H1 .refl rl1 _ (.bl true)
    · cases e
theorem je_not (ha : JE X Wx a fa) : JE X Wx (.UnaryOp .Not a pos) (fNotV fa) := peI (pe_not ha) fun σ H Q ⟨m, env, st, rl, re, p⟩ =>
  (seqE rl re p).imp fun x H1 ⟨m1, st1, w, s1, rl1, re1, rv1, p1⟩ => by
    obtain ⟨k, e, q⟩ := Po.of (Po.bind p1) rl1
    unfold toB at e
    split at e
    · cases e
      cases rv1
      exact ⟨_, rfl, q m1 H1 .refl rl1 _ (.bl _)⟩
    · cases e
def fIf (ft : FT) (fa fb : FE) : FE := fun env st => (ft env st).bind fun k st1 => if k then fa env st1 else fb env st1
theorem je_if (hc : JT X Wx c ft) (ha : JE X Wx a fa) (hb : JE X Wx b fb) : JE X Wx (.IfExp c a b pos) (fIf ft fa fb) := peI (pe_ifExp hc ha hb) fun σ H Q ⟨m, env, st, rl, re, p⟩ =>
  (seqT rl re p).imp fun k H1 ⟨m1, st1, s1, rl1, re1, p1⟩ => by
    cases k with
    | true => exact ⟨m1, env, st1, rl1, re1, p1⟩
    | false => exact ⟨m1, env, st1, rl1, re1, p1⟩
end
end FL
set_option Elab.async false
set_option linter.all false
set_option maxRecDepth 100000
set_option maxHeartbeats 4000000
namespace FL
open PySem PySem.Spec PyProof.Rows L2
/-! ### operators on data -/
def viewO (w : W) (st : Sto) : Option PyData := if w.own then view w st else none
theorem viewO_of {w : W} {st : Sto} {d : PyData} (h : viewO w st = some d) : view w st = some d ∧ w.own = true := by
  unfold viewO at h
  split at h
  · rename_i e; exact ⟨h, e⟩
  · cases h
def pure2 (h : PyData → PyData → Option PyData) : W → W → Sto → Option (W × Sto) := fun x y st => (viewO x st).bind fun a => (viewO y st).bind fun b => (h a b).bind fun r => some (.d r, st)
def pure2S (h : PyData → PyData → Option PyData) : W → W → Sto → Option (W × Sto) := fun x y st => (view x st).bind fun a => (view y st).bind fun b => (h a b).bind fun r => some (.d r, st)
section
variable {X : Cx}
def OpD (X : Cx) (f : Value → Value → Sem Value) (h : PyData → PyData → Option PyData) : Prop :=
  ∀ (m : Wd) (H : Hp) (st : Sto) (x y : W) (a b r : PyData) (v u : V) (Q : VK), Rel X.K m H st → RV X.K m v x → RV X.K m u y → view x st = some a → view y st = some b → x.own = true → y.own = true → h a b = some r →
    (∀ m' H' z, Step m m' H H' → Rel X.K m' H' st → RV X.K m' z (.d r) → Q z H') → ∃ R, OpR X f R ∧ R v u H Q
theorem opS {f : Value → Value → Sem Value} {h : PyData → PyData → Option PyData} (o : OpD X f h) : OpS X f (pure2 h) := by
  intro m H st st' x y w v u Q rl rv ru e q
  unfold pure2 at e
  cases e1 : viewO x st with
  | none => rw [e1] at e; cases e
  | some a =>
    rw [e1] at e
    cases e2 : viewO y st with
    | none => rw [e2] at e; cases e
    | some b =>
      rw [e2] at e
      simp only [Option.bind_some] at e
      cases e3 : h a b with
      | none => rw [e3] at e; cases e
      | some r =>
        rw [e3] at e
        cases e
        obtain ⟨h1, h2⟩ := viewO_of e1
        obtain ⟨h3, h4⟩ := viewO_of e2
        exact o m H st x y a b r v u Q rl rv ru h1 h3 h2 h4 e3 q
def OpD' (X : Cx) (f : Value → Value → Sem Value) (h : PyData → PyData → Option PyData) : Prop :=
  ∀ (m : Wd) (H : Hp) (st : Sto) (x y : W) (a b r : PyData) (v u : V) (Q : VK), Rel X.K m H st → RV X.K m v x → RV X.K m u y → view x st = some a → view y st = some b → h a b = some r →
    (∀ m' H' z, Step m m' H H' → Rel X.K m' H' st → RV X.K m' z (.d r) → Q z H') → ∃ R, OpR X f R ∧ R v u H Q
theorem opS' {f : Value → Value → Sem Value} {h : PyData → PyData → Option PyData} (o : OpD' X f h) : OpS X f (pure2S h) := by
  intro m H st st' x y w v u Q rl rv ru e q
  unfold pure2S at e
  cases e1 : view x st with
  | none => rw [e1] at e; cases e
  | some a =>
    rw [e1] at e
    cases e2 : view y st with
    | none => rw [e2] at e; cases e
    | some b =>
      rw [e2] at e
      simp only [Option.bind_some] at e
      cases e3 : h a b with
      | none => rw [e3] at e; cases e
      | some r =>
        rw [e3] at e
        cases e
        exact o m H st x y a b r v u Q rl rv ru e1 e2 e3 q

def addD : PyData → PyData → Option PyData
  | .int i, .int j => some (.int (i + j))
  | .str i, .str j => if i.length + j.length ≤ LIM then some (.str (i ++ j)) else none
  | .tuple a, .tuple b => if a.length + b.length ≤ LIM then some (.tuple (a ++ b)) else none
  | .list a, .list b => if a.length + b.length ≤ LIM then some (.list (a ++ b)) else none
  | _, _ => none
theorem op_addD : OpD X (binaryOp .Add) addD := by
  intro m H st x y a b r v u Q rl rv ru ha hb ox oy e q
  cases a with
  | int i =>
    cases b with
    | int j =>
      cases e
      cases view_int rl rv ha
      cases view_int rl ru hb
      exact ⟨_, op_add, i, j, rfl, rfl, q m H _ .refl rl (.int _)⟩
    | _ => cases e
  | str i =>
    cases b with
    | str j =>
      change (if i.length + j.length ≤ LIM then some (PyData.str (i ++ j)) else none) = some r at e
      split at e
      · rename_i hz
        cases e
        cases view_str rl rv ha
        cases view_str rl ru hb
        exact ⟨_, op_add_str, i, j, rfl, rfl, LIM_le hz, q m H _ .refl rl (.str _)⟩
      · cases e
    | _ => cases e
  | tuple i =>
    cases b with
    | tuple j =>
      change (if i.length + j.length ≤ LIM then some (PyData.tuple (i ++ j)) else none) = some r at e
      split at e
      · rename_i hz
        cases e
        obtain ⟨pa, xs, rfl, h1, h2⟩ := view_tup rl rv ha
        obtain ⟨pb, ys, rfl, h3, h4⟩ := view_tup rl ru hb
        refine ⟨_, op_catA, pa, pb, xs, ys, rfl, rfl, h1, h3, LIM_le (by rw [dpAll_len h2, dpAll_len h4]; exact hz), fun z => ?_, fun _ z => ?_, fun _ _ p hp => ?_⟩
        · subst z
          cases i with
          | nil =>
            have hv : Dq X.K m.F (.ref pb) (.tuple j) := by
              cases y with
              | d y => cases hb; exact ru
              | s _ => cases oy
              | t _ => cases hb
              | c n =>
                obtain ⟨a', r', k1, k2⟩ := ru
                cases k2
                unfold view at hb
                cases e : st[n]? with
                | none => simp [e] at hb
                | some c =>
                  cases c with
                  | fz x =>
                    simp [e] at hb
                    subst hb
                    obtain ⟨_, _, k3, _, k4⟩ := rl.at k1 e
                    cases k3
                    exact k4
                  | _ => simp [e] at hb
            exact q m H _ .refl rl hv
          | cons _ _ => cases h2
        · subst z
          cases j with
          | nil =>
            have hv : Dq X.K m.F (.ref pa) (.tuple i) := by
              cases x with
              | d y => cases ha; exact rv
              | s _ => cases ox
              | t _ => cases ha
              | c n =>
                obtain ⟨a', r', k1, k2⟩ := rv
                cases k2
                unfold view at ha
                cases e : st[n]? with
                | none => simp [e] at ha
                | some c =>
                  cases c with
                  | fz x =>
                    simp [e] at ha
                    subst ha
                    obtain ⟨_, _, k3, _, k4⟩ := rl.at k1 e
                    cases k3
                    exact k4
                  | _ => simp [e] at ha
            rw [List.append_nil] at q
            exact q m H _ .refl rl hv
          | cons _ _ => cases h4
        · obtain ⟨rl3, s3⟩ := rl.allocF (o := .tup (xs ++ ys)) hp
          exact q _ _ _ s3 rl3 (.tup (SqT.of upd_same) (dpAll_same s3.fro (dpAll_app h2 h4)))
      · cases e
    | _ => cases e
  | list i =>
    cases b with
    | list j =>
      change (if i.length + j.length ≤ LIM then some (PyData.list (i ++ j)) else none) = some r at e
      split at e
      · rename_i hz
        cases e
        obtain ⟨pa, xs, rfl, h1, h2⟩ := view_listS rl rv ha ox
        obtain ⟨pb, ys, rfl, h3, h4⟩ := view_listS rl ru hb oy
        refine ⟨_, op_cat, pa, pb, xs, ys, rfl, rfl, h1, h3, LIM_le (by rw [dpAll_len h2, dpAll_len h4]; exact hz), fun p hp => ?_⟩
        obtain ⟨rl3, s3⟩ := rl.allocF (o := .lst (xs ++ ys)) hp
        exact q _ _ _ s3 rl3 (.lst upd_same (dpAll_same s3.fro (dpAll_app h2 h4)))
      · cases e
    | _ => cases e
  | _ => cases e
def intD (g : Int → Int → Option PyData) : PyData → PyData → Option PyData
  | .int i, .int j => g i j
  | _, _ => none
theorem op_intD {f : Value → Value → Sem Value} {g : Int → Int → Option PyData} (h : ∀ i j r, g i j = some r → (∀ F, ∃ z, Dq X.K F z r) ∧ ∃ R, OpR X f R ∧ ∀ (H : Hp) (Q : VK), (∀ z, (∀ F, Dq X.K F z r) → Q z H) → R (.int i) (.int j) H Q) : OpD' X f (intD g) := by
  intro m H st x y a b r v u Q rl rv ru ha hb e q
  cases a with
  | int i =>
    cases b with
    | int j =>
      cases view_int rl rv ha
      cases view_int rl ru hb
      obtain ⟨_, R, h1, h2⟩ := h i j r e
      exact ⟨R, h1, h2 H Q fun z hz => q m H z .refl rl (hz _)⟩
    | _ => cases e
  | _ => cases e
def subD := intD fun i j => some (.int (i - j))
theorem op_subD : OpD' X (binaryOp .Sub) subD := op_intD fun i j r e => by
  cases e; exact ⟨fun _ => ⟨_, .int _⟩, _, op_sub, fun H Q q => ⟨i, j, rfl, rfl, q _ fun _ => .int _⟩⟩
def small64 (i : Int) : Bool := decide (-(2 ^ 64) < i) && decide (i < 2 ^ 64)
def mulI := intD fun i j => if small64 i || small64 j then some (.int (i * j)) else none
theorem op_mulI : OpD' X (binaryOp .Mult) mulI := op_intD fun i j r e => by
  split at e
  · rename_i h
    cases e
    refine ⟨fun _ => ⟨_, .int _⟩, _, op_mul, fun H Q q => ⟨i, j, rfl, rfl, ?_, q _ fun _ => .int _⟩⟩
    simp only [small64, Bool.or_eq_true, Bool.and_eq_true, decide_eq_true_eq] at h
    exact h
  · cases e
def modD := intD fun i j => if 0 < j then some (.int (i % j)) else none
theorem op_modD : OpD' X (binaryOp .Mod) modD := op_intD fun i j r e => by
  split at e
  · rename_i h
    cases e
    exact ⟨fun _ => ⟨_, .int _⟩, _, op_mod, fun H Q q => ⟨i, j, rfl, rfl, h, q _ fun _ => .int _⟩⟩
  · cases e
def fdivD := intD fun i j => if 0 < j ∧ j < 1073741824 then some (.int (i / j)) else none
theorem op_fdivD : OpD' X (binaryOp .FloorDiv) fdivD := op_intD fun i j r e => by
  split at e
  · rename_i h
    cases e
    exact ⟨fun _ => ⟨_, .int _⟩, _, op_fdiv, fun H Q q => ⟨i, j, rfl, rfl, h, q _ fun _ => .int _⟩⟩
  · cases e
def gtD := intD fun i j => some (.bool (decide (j < i)))
def geD := intD fun i j => some (.bool (decide (j ≤ i)))
theorem op_gtD : OpD' X (compareOp .Gt) gtD := op_intD fun i j r e => by
  cases e; exact ⟨fun _ => ⟨_, .bl _⟩, _, op_gt, fun H Q q => ⟨i, j, rfl, rfl, q _ fun _ => .bl _⟩⟩
theorem op_geD : OpD' X (compareOp .GtE) geD := op_intD fun i j r e => by
  cases e; exact ⟨fun _ => ⟨_, .bl _⟩, _, op_ge, fun H Q q => ⟨i, j, rfl, rfl, q _ fun _ => .bl _⟩⟩
/-- ints or texts -/
def ltD : PyData → PyData → Option PyData
  | .int i, .int j => some (.bool (decide (i < j)))
  | .str i, .str j => some (.bool (decide (i.cps.toList < j.cps.toList)))
  | _, _ => none
def leD : PyData → PyData → Option PyData
  | .int i, .int j => some (.bool (decide (i ≤ j)))
  | .str i, .str j => some (.bool (!decide (j.cps.toList < i.cps.toList)))
  | _, _ => none
theorem op_ltD : OpD' X (compareOp .Lt) ltD := by
  intro m H st x y a b r v u Q rl rv ru ha hb e q
  cases a with
  | int i =>
    cases b with
    | int j =>
      cases e
      cases view_int rl rv ha
      cases view_int rl ru hb
      exact ⟨_, op_lt, i, j, rfl, rfl, q m H _ .refl rl (.bl _)⟩
    | _ => cases e
  | str i =>
    cases b with
    | str j =>
      cases e
      cases view_str rl rv ha
      cases view_str rl ru hb
      exact ⟨_, op_lt_str, i, j, rfl, rfl, q m H _ .refl rl (.bl _)⟩
    | _ => cases e
  | _ => cases e
theorem op_leD : OpD' X (compareOp .LtE) leD := by
  intro m H st x y a b r v u Q rl rv ru ha hb e q
  cases a with
  | int i =>
    cases b with
    | int j =>
      cases e
      cases view_int rl rv ha
      cases view_int rl ru hb
      exact ⟨_, op_le, i, j, rfl, rfl, q m H _ .refl rl (.bl _)⟩
    | _ => cases e
  | str i =>
    cases b with
    | str j =>
      cases e
      cases view_str rl rv ha
      cases view_str rl ru hb
      exact ⟨_, op_le_str, i, j, rfl, rfl, q m H _ .refl rl (.bl _)⟩
    | _ => cases e
  | _ => cases e
def eqB : PyData → PyData → Option Bool
  | .int i, .int j => some (i == j)
  | .str i, .str j => some (i == j)
  | .bool i, .bool j => some (i == j)
  | a, b => if SeqAt.shaped a && SeqAt.shaped b then some (PyData.eqv a b) else none
def eqD (a b : PyData) : Option PyData := (eqB a b).map PyData.bool
def neD (a b : PyData) : Option PyData := (eqB a b).map fun k => PyData.bool (!k)
theorem op_eqDD (hu : X.A.units + 64 < cLine) : OpD' X (compareOp .Eq) eqD := by
  intro m H st x y a b r v u Q rl rv ru ha hb e q
  have gen : ∀ k, (SeqAt.shaped a && SeqAt.shaped b) = true → r = .bool k → PyData.eqv a b = k → ∃ R, OpR X (compareOp .Eq) R ∧ R v u H Q := fun k h1 h2 h3 => by
    subst h2
    obtain ⟨s1, s2⟩ := Bool.and_eq_true_iff.mp h1
    exact ⟨_, op_eqD hu, a, b, view_dp rl rv ha, view_dp rl ru hb, s1, s2, q m H _ .refl rl (by rw [h3]; exact .bl _)⟩
  unfold eqD eqB at e
  split at e
  · cases e
    cases view_int rl rv ha
    cases view_int rl ru hb
    exact ⟨_, op_eq, rfl, q m H _ .refl rl (by rw [dec_int]; exact .bl _)⟩
  · cases e
    cases view_str rl rv ha
    cases view_str rl ru hb
    exact ⟨_, op_eq, rfl, q m H _ .refl rl (by rw [dec_str]; exact .bl _)⟩
  · cases e
    cases view_bool rl rv ha
    cases view_bool rl ru hb
    exact ⟨_, op_eq, rfl, q m H _ .refl rl (by rw [dec_bl]; exact .bl _)⟩
  · split at e
    · rename_i h
      cases e
      exact gen _ h rfl rfl
    · cases e
theorem op_neDD (hu : X.A.units + 64 < cLine) : OpD' X (compareOp .NotEq) neD := by
  intro m H st x y a b r v u Q rl rv ru ha hb e q
  have gen : ∀ k, (SeqAt.shaped a && SeqAt.shaped b) = true → r = .bool (!k) → PyData.eqv a b = k → ∃ R, OpR X (compareOp .NotEq) R ∧ R v u H Q := fun k h1 h2 h3 => by
    subst h2
    obtain ⟨s1, s2⟩ := Bool.and_eq_true_iff.mp h1
    exact ⟨_, op_neD hu, a, b, view_dp rl rv ha, view_dp rl ru hb, s1, s2, q m H _ .refl rl (by rw [h3]; exact .bl _)⟩
  unfold neD eqB at e
  split at e
  · cases e
    cases view_int rl rv ha
    cases view_int rl ru hb
    exact ⟨_, op_ne, rfl, q m H _ .refl rl (by rw [dec_int]; exact .bl _)⟩
  · cases e
    cases view_str rl rv ha
    cases view_str rl ru hb
    exact ⟨_, op_ne, rfl, q m H _ .refl rl (by rw [dec_str]; exact .bl _)⟩
  · cases e
    cases view_bool rl rv ha
    cases view_bool rl ru hb
    exact ⟨_, op_ne, rfl, q m H _ .refl rl (by rw [dec_bl]; exact .bl _)⟩
  · split at e
    · rename_i h
      cases e
      exact gen _ h rfl rfl
    · cases e
/-! is None -/
def isNo : W → Bool
  | .d .none => true
  | _ => false
def isNW (neg : Bool) : W → W → Sto → Option (W × Sto) := fun x y st => match y with
  | .d .none => some (.d (.bool (if neg then !isNo x else isNo x)), st)
  | _ => none
theorem isN_dec {K : PySem.W.Frag} {m : Wd} {v : V} {x : W} (rv : RV K m v x) : decide (v = V.non) = isNo x := by
  cases x with
  | d y =>
    cases rv <;> simp [isNo]
  | c n => obtain ⟨a, r, _, rfl⟩ := rv; simp [isNo]
  | s n => obtain ⟨a, rfl, _⟩ := rv; simp [isNo]
  | t n => cases (show v = .ty n from rv); simp [isNo]
theorem op_isND : OpS X (compareOp .Is) (isNW false) := by
  intro m H st st' x y w v u Q rl rv ru e q
  unfold isNW at e
  split at e
  · cases e
    cases ru
    refine ⟨_, op_isN, rfl, q m H _ .refl rl ?_⟩
    rw [isN_dec rv, if_neg Bool.false_ne_true]
    exact .bl _
  · cases e
theorem op_notND : OpS X (compareOp .IsNot) (isNW true) := by
  intro m H st st' x y w v u Q rl rv ru e q
  unfold isNW at e
  split at e
  · cases e
    cases ru
    refine ⟨_, op_notN, rfl, q m H _ .refl rl ?_⟩
    rw [isN_dec rv, if_pos rfl]
    exact .bl _
  · cases e
/-! in -/
def flatD : PyData → Bool
  | .none => true
  | .bool _ => true
  | .int _ => true
  | .str _ => true
  | _ => false
theorem flat_of {K : PySem.W.Frag} {F : Hp} {v : V} {d : PyData} (h : Dp K F v d) (f : flatD d = true) : flatV v = true := by
  cases h <;> first | rfl | cases f
theorem eqV_eqv {K : PySem.W.Frag} {F : Hp} {v u : V} {d e : PyData} (h : Dp K F v d) (h' : Dp K F u e) (f : flatD d = true) (f' : flatD e = true) : eqV v u = PyData.eqv d e := by
  cases h <;> cases h' <;> first | rfl | cases f | cases f' | simp [eqV, PyData.eqv]
theorem inV_eqv {K : PySem.W.Frag} {F : Hp} {v : V} {d : PyData} (h : Dp K F v d) (f : flatD d = true) : ∀ {xs : List V} {ds : List PyData}, DpAll K F xs ds → ds.all flatD = true → (xs.all flatV = true ∧ inV v xs = ds.any fun y => PyData.eqv y d)
  | [], _, hs, _ => by cases hs; exact ⟨rfl, rfl⟩
  | x :: xs, _, hs, fs => by
    cases hs with
    | cons h1 h2 =>
      rw [List.all_cons, Bool.and_eq_true] at fs
      obtain ⟨i1, i2⟩ := inV_eqv h f h2 fs.2
      refine ⟨by rw [List.all_cons, flat_of h1 fs.1, i1]; rfl, ?_⟩
      unfold inV at i2 ⊢
      rw [List.any_cons, List.any_cons, eqV_eqv h1 h fs.1 f, i2]
def inB (a : PyData) : PyData → Option Bool
  | .tuple ds => if flatD a && ds.all flatD then some (ds.any fun y => PyData.eqv y a) else none
  | .list ds => if flatD a && ds.all flatD then some (ds.any fun y => PyData.eqv y a) else if SeqAt.shaped a && SeqAt.shaped (.list ds) then some (ds.any fun y => PyData.eqv y a) else none
  | .str z => (match a with
    | .str x => (match x.cps.toList with
      | [c] => some (decide (c ∈ z.cps.toList))
      | _ => none)
    | _ => none)
  | _ => none
def inD (a b : PyData) : Option PyData := (inB a b).map PyData.bool
def ninD (a b : PyData) : Option PyData := (inB a b).map fun k => PyData.bool (!k)
theorem op_inDD (hu : X.A.units + 65 < cLine) : OpD' X (compareOp .In) inD := by
  intro m H st x y a b r v u Q rl rv ru ha hb e q
  unfold inD inB at e
  split at e
  · split at e
    · rename_i ds h
      cases e
      obtain ⟨f1, f2⟩ := Bool.and_eq_true_iff.mp h
      obtain ⟨pa, xs, rfl, h1, h2⟩ := view_tup rl ru hb
      obtain ⟨i1, i2⟩ := inV_eqv (view_dp rl rv ha) f1 (dpAll_same rl.same h2).dp f2
      exact ⟨_, op_in_seq, pa, xs, rfl, .inr h1, flat_of (view_dp rl rv ha) f1, i1, q m H _ .refl rl (by rw [if_neg Bool.false_ne_true, i2]; exact .bl _)⟩
    · cases e
  · split at e
    · rename_i ds h
      cases e
      obtain ⟨f1, f2⟩ := Bool.and_eq_true_iff.mp h
      obtain ⟨pa, xs, rfl, h1, h2⟩ := view_list rl ru hb
      obtain ⟨i1, i2⟩ := inV_eqv (view_dp rl rv ha) f1 (dpAll_same rl.same h2).dp f2
      exact ⟨_, op_in_seq, pa, xs, rfl, .inl h1, flat_of (view_dp rl rv ha) f1, i1, q m H _ .refl rl (by rw [if_neg Bool.false_ne_true, i2]; exact .bl _)⟩
    · split at e
      · rename_i h
        cases e
        obtain ⟨f1, f2⟩ := Bool.and_eq_true_iff.mp h
        exact ⟨_, op_inD hu, a, _, view_dp rl rv ha, view_dp rl ru hb, f1, f2, q m H _ .refl rl (.bl _)⟩
      · cases e
  · split at e
    · split at e
      · rename_i z _ x _ c hc
        cases e
        cases view_str rl rv ha
        cases view_str rl ru hb
        have ex : x = ⟨#[c]⟩ := by
          cases x with
          | mk cps =>
            congr 1
            apply Array.ext'
            exact hc
        exact ⟨_, op_in_sign, c, z, by rw [ex], rfl, q m H _ .refl rl (.bl _)⟩
      · cases e
    · cases e
  · cases e
theorem op_ninDD (hu : X.A.units + 65 < cLine) : OpD' X (compareOp .NotIn) ninD := by
  intro m H st x y a b r v u Q rl rv ru ha hb e q
  unfold ninD inB at e
  split at e
  · split at e
    · rename_i ds h
      cases e
      obtain ⟨f1, f2⟩ := Bool.and_eq_true_iff.mp h
      obtain ⟨pa, xs, rfl, h1, h2⟩ := view_tup rl ru hb
      obtain ⟨i1, i2⟩ := inV_eqv (view_dp rl rv ha) f1 (dpAll_same rl.same h2).dp f2
      exact ⟨_, op_notIn_seq, pa, xs, rfl, .inr h1, flat_of (view_dp rl rv ha) f1, i1, q m H _ .refl rl (by rw [if_pos rfl, i2]; exact .bl _)⟩
    · cases e
  · split at e
    · rename_i ds h
      cases e
      obtain ⟨f1, f2⟩ := Bool.and_eq_true_iff.mp h
      obtain ⟨pa, xs, rfl, h1, h2⟩ := view_list rl ru hb
      obtain ⟨i1, i2⟩ := inV_eqv (view_dp rl rv ha) f1 (dpAll_same rl.same h2).dp f2
      exact ⟨_, op_notIn_seq, pa, xs, rfl, .inl h1, flat_of (view_dp rl rv ha) f1, i1, q m H _ .refl rl (by rw [if_pos rfl, i2]; exact .bl _)⟩
    · split at e
      · rename_i h
        cases e
        obtain ⟨f1, f2⟩ := Bool.and_eq_true_iff.mp h
        exact ⟨_, op_notInD hu, a, _, view_dp rl rv ha, view_dp rl ru hb, f1, f2, q m H _ .refl rl (.bl _)⟩
      · cases e
  · split at e
    · split at e
      · rename_i z _ x _ c hc
        cases e
        cases view_str rl rv ha
        cases view_str rl ru hb
        have ex : x = ⟨#[c]⟩ := by
          cases x with
          | mk cps =>
            congr 1
            apply Array.ext'
            exact hc
        exact ⟨_, op_notIn_sign, c, z, by rw [ex], rfl, q m H _ .refl rl (.bl _)⟩
      · cases e
    · cases e
  · cases e
end
end FL
set_option Elab.async false
set_option linter.all false
set_option maxRecDepth 100000
set_option maxHeartbeats 4000000
/-! enumerate(tuple) -/
namespace PySem
open Sem (wp)
open AutoSeq1 (wpAny_loadPart')
theorem fl_enum_newT (l : Addr) (items : Array Value) (n : Nat) (dct : Option Addr) (sl : Array (Option Value)) :
    Meets (Builtin.«enumerate.__new__» ⟨[.type "enumerate", .ref l], []⟩) (fun _ R s => s.heap.get? l = some { cls := .type "tuple", dict := dct, data := .seq items n, slots := sl } ∧
      R (.ok (.ret (.ref (s.heap.push { cls := .type "tuple_iterator", data := .fields #[.ref l, .int 0 0] }).objs.size)))
        { s with heap := (s.heap.push { cls := .type "tuple_iterator", data := .fields #[.ref l, .int 0 0] }).push { cls := .type "enumerate", data := .fields #[.none, .bool false, .ref s.heap.objs.size, rawInt 0, .none, .none] } }) :=
  .of_wp fun prog w A R s h => by
    obtain ⟨hp, g, d, tk, os⟩ := s; obtain ⟨hl, h⟩ := h
    have hsub := sub_enumerate
    have hL : Heap.IsTuple (Shared.heap ⟨hp, g, d, tk, os⟩) l items := ⟨_, hl, rfl, n, rfl⟩
    wp_walk using wpAny_loadPart' hl
    refine wpAny_stack_any fun st => wpAny_pure ?_
    split
    · rename_i c _ _ _ _ _
      cases (c == Value.type "enumerate")
      · wp_walk using wpAny_loadPart' hl, wpAny_pyIter_tuple hL
        exact ⟨_, rfl, h⟩
      · wp_walk using wpAny_loadPart' hl, wpAny_pyIter_tuple hL
        exact ⟨_, rfl, h⟩
    · wp_walk using wpAny_loadPart' hl, wpAny_pyIter_tuple hL
      exact ⟨_, rfl, h⟩
section
variable {prog : Program} {w : World} {A : Around} {E : Value → Shared → Prop} {s : Shared}
theorem fl_enumerate_tuple {l : Addr} {items : Array Value} {Q : Value → Shared → Prop} (hL : s.heap.IsTuple l items)
    (h : ∀ h', IsEnum h' (s.heap.objs.size + 1) s.heap.objs.size 0 .none → h'.IsTupleIter s.heap.objs.size l 0 → h'.objs.size = s.heap.objs.size + 2 →
      (∀ b o, s.heap.get? b = some o → h'.get? b = some o) → Q (.ref (s.heap.objs.size + 1)) { s with heap := h' }) :
    wpAny (model prog w) A (call (.type "enumerate") [.ref l]) Q E s := by
  obtain ⟨⟨c, dct, dt, sl⟩, hl, hc, n, hd⟩ := hL
  replace hc : c = .type "tuple" := hc
  replace hd : dt = .seq items n := hd
  subst hc hd
  refine callType_new F.called_enumerate (by decide) (F.typeCall_enumerate_1 _) (F.newCall_enumerate_1 _) (fun obj => F.args_object_init_2 obj _) F.entry_enumerate_new
    (fl_enum_newT l items n dct sl) ⟨hl, ?_⟩
  have hz : (s.heap.push { cls := .type "tuple_iterator", data := .fields #[.ref l, .int 0 0] }).objs.size = s.heap.objs.size + 1 := Heap.size_push ..
  show _ ∧ _
  rw [hz]
  have he : IsEnum ((s.heap.push { cls := .type "tuple_iterator", data := .fields #[.ref l, .int 0 0] }).push
      { cls := .type "enumerate", data := .fields #[.none, .bool false, .ref s.heap.objs.size, rawInt 0, .none, .none] }) (s.heap.objs.size + 1) s.heap.objs.size 0 .none := by
    have := Heap.get?_push_size (s.heap.push { cls := .type "tuple_iterator", data := .fields #[.ref l, .int 0 0] })
      (o := { cls := .type "enumerate", data := .fields #[.none, .bool false, .ref s.heap.objs.size, rawInt 0, .none, .none] }) rfl
    rw [hz] at this; exact this
  refine ⟨⟨_, he, rfl⟩, h _ he ⟨_, Heap.get?_push_of_some _ (Heap.get?_push_size _ rfl), rfl, rfl⟩ (by rw [Heap.size_push, hz]) fun b o x => Heap.get?_push_of_some _ (Heap.get?_push_of_some _ x)⟩
end
end PySem
namespace FL
open PySem PySem.Spec PyProof.Rows L2
def IteT (K : PySem.W.Frag) (a : Addr) : It :=
  ⟨fun i H => ∃ (xs : List V) (x : V), SqT K H a xs ∧ xs[i]? = some x, fun i H v H' => ∃ T x, v = .ref T ∧ H T = none ∧ H' = upd H T (.tup [.int (i : Nat), x]) ∧ ∀ xs, SqT K H a xs → xs[i]? = some x, fun i H => ∃ xs : List V, SqT K H a xs ∧ xs.length ≤ i⟩
theorem turn_enumT {P : Program} {w : World} {K : PySem.W.Frag} {elts : List Expr} {kk : Nat} {tpos : Pos} (a e it : Addr) (hea : e ≠ a) (hia : it ≠ a) :
    Turn P w K (.Tuple elts kk tpos) (IteT K a) [e, it] e (fun i h => (∃ old, IsEnum h e it ((i : Nat) : Int) old) ∧ h.IsTupleIter it a i ∧ e ≠ it) where
  mem := by simp
  obj := fun i h st b hb => by
    obtain ⟨⟨old, he⟩, ⟨o, ho, hc, hd⟩, _⟩ := st
    have e' : b = e ∨ b = it := by simpa using hb
    rcases e' with z | z
    · rw [z]; exact ⟨_, he, fun v q => nomatch q⟩
    · rw [z]; exact ⟨o, ho, fun v q => by rw [hd] at q; cases q⟩
  keep := fun i h h' st k => let ⟨⟨old, he⟩, hi, hne⟩ := st; ⟨⟨old, k e (by simp) _ he⟩, hi.at fun o q => k it (by simp) o q, hne⟩
  item := by
    intro X hP hw hK hc i pins s σ H E I hf st hg
    subst hP hw hK
    obtain ⟨⟨old, he⟩, hit, hne⟩ := st
    obtain ⟨xs, x, hq, hx⟩ := hg
    obtain ⟨its, rv, p, hz⟩ := I.tuple hq
    obtain ⟨u, hu, ru⟩ := rv.get hx
    have hel : e < s.heap.objs.size := Heap.lt_size he
    have hil : it < s.heap.objs.size := by obtain ⟨_, q, _⟩ := hit; exact Heap.lt_size q
    have D := Draws.tuple (prog := X.prog) (w := X.w) (A := X.A.in1) (I.ok.hd hc) it a (Ne.symm hia) its.toArray
    have hu' : its.toArray[i]? = some u := by simpa using hu
    have hlt : i < its.toArray.size := (Array.getElem?_eq_some_iff.mp hu').1
    refine wpAny_pyNext_enum_itemD D he ⟨hit, p⟩ hlt hne (by simp [hne, hea]) fun x' h' tk hx' ho hit' hT hsz hk => ?_
    have ex : x' = u := Option.some.inj (hx'.symm.trans hu')
    subst ex
    refine ⟨_, rfl, wpAny_letOwnedTupleGo_enum (s := { s with heap := h', toks := tk + 1 }) ho fun h'' he' sb => ?_⟩
    have hT2 : h''.get? s.heap.objs.size = some { cls := .type "tuple", data := .seq #[.int i tk, x'] } := (sb.2 _ (Nat.ne_of_gt hel)).trans hT
    have new : ObjOk X.prog X.w (upd H s.heap.objs.size (.tup [.int (i : Nat), x])) h'' s.heap.objs.size (.tup [.int (i : Nat), x]) :=
      ⟨by show 2 ≤ sizeLine; decide, [.int i tk, x'], .cons ⟨_, rfl⟩ (.cons ru .nil), ⟨_, hT2, rfl, _, rfl⟩⟩
    have I1 : Inv X pins σ (upd H s.heap.objs.size (.tup [.int (i : Nat), x])) { s with heap := h'', toks := tk + 1 } :=
      I.turnedNew (ch := [e, it]) (fun b ob hb q => (sb.2 b (fun z => hb (by simp [z]))).trans (hk b ob (fun z => hb (by simp [z])) (fun z => hb (by simp [z])) q)) hf (Nat.le_refl _) new
    refine ⟨.ref s.heap.objs.size, _, I1, rfl, ⟨_, x, rfl, I.hok.fresh (Nat.le_refl _), rfl, fun ys hy => by rw [I.tuple_inj hy hq]; exact hx⟩, ⟨⟨x', ?_⟩, hit'.1.at fun o q => (sb.2 it (Ne.symm hne)).trans q, hne⟩, fun b hb => ?_⟩
    · have e1 : ((i + 1 : Nat) : Int) = (i : Int) + 1 := by omega
      rw [e1]; exact he'
    · have hb' : b < s.heap.objs.size := by
        have e' : b = e ∨ b = it := by simpa using hb
        rcases e' with z | z
        · rw [z]; exact hel
        · rw [z]; exact hil
      rw [upd_ne (Nat.ne_of_lt hb')]
      exact (hf b hb).1
  done := by
    intro X hP hw hK hc i pins s σ H E I hf st hg
    subst hP hw hK
    obtain ⟨⟨old, he⟩, hit, hne⟩ := st
    obtain ⟨xs, hq, hx⟩ := hg
    obtain ⟨its, rv, p, hz⟩ := I.tuple hq
    obtain ⟨f0, f1, f2, f3, f4, f5⟩ := hf it (by simp)
    have hl := rv.length
    have D : Draws X.prog X.w X.A.in1 it [it, a] 0 (fun j v => its.toArray[j]? = some v) (fun j h => h.IsTupleIter it a i ∧ h.IsTuple a its.toArray) :=
      ⟨fun _ _ st => let ⟨o, ho, _⟩ := st.1; ⟨o, ho⟩, fun _ _ _ st hk => ⟨st.1.at fun o e => hk it (by simp) o e, st.2.at fun o e => hk a (by simp) o e⟩,
       fun j s Q E hj st hQ => absurd hj (Nat.not_lt_zero _), fun s Q E st hE => wpAny_nextOf_tuple_end (I.ok.hd hc) st.1 st.2 (by simp; omega) hE⟩
    exact wpAny_pyNext_enum_endD D he ⟨hit, p⟩ fun h' eb => ⟨rfl, I.turned (t' := s.toks) (fun b o hb q => eb b o hb q) f0 f1 f3 f4 f5⟩
  self := fun A i s Q E st h => let ⟨⟨_, he⟩, _⟩ := st; wpAny_pyIter_enum he h
/-- what enumerate walks: a list or a tuple -/
def iEnumA (K : PySem.W.Frag) (ta : TA) : TI := fun σ H R => ta σ H fun vs H1 => ∃ a xs, vs = [.ref a] ∧ ((SqL K H1 a xs ∧ R (Ite K a) H1) ∨ (SqT K H1 a xs ∧ R (IteT K a) H1))
theorem pi_enumA {X : Cx} {e : Expr} {ta : TA} {p pos tpos : Pos} {elts : List Expr} {kk : Nat} (hg : Gl X "enumerate") (hm : X.mg "enumerate" = none) (ha : PA X [e] ta) (hs : starEach [e] X.env = [(false, eval e X.env)] := by rfl) :
    PI X (.Tuple elts kk tpos) (.Call (.Name "enumerate" p) [e] [] pos) (iEnumA X.K ta) := by
  refine ⟨fun pins s σ H R I h => ?_⟩
  refine Call_ (ld_blt I hg hm boot_enumerate (PyProof.Rows.callWith_type1 (thn (ha.run pos pins s σ H _ I h) fun us s1 ⟨vs, H1, I1, r1, q1⟩ => ?_) hs rfl))
  obtain ⟨a, xs, ex, hq⟩ := q1
  subst ex
  cases r1 with
  | cons r rr =>
    cases rr
    cases r
    have fresh2 : ∀ b, b ∈ [s1.heap.objs.size + 1, s1.heap.objs.size] → FpOk X pins H1 b := fun b hb => by
      have e' : b = s1.heap.objs.size + 1 ∨ b = s1.heap.objs.size := by simpa using hb
      have hle : s1.heap.objs.size ≤ b := by
        rcases e' with z | z
        · rw [z]; exact Nat.le_add_right _ _
        · rw [z]; exact Nat.le_refl _
      exact I1.fpOk hle (I1.hok.fresh hle)
    rcases hq with ⟨hq, q⟩ | ⟨hq, q⟩
    · obtain ⟨its, rv, p', hz⟩ := I1.list hq
      refine call_enumerate_list p'.isList fun h' he hit hsz hk => wpAny_pyIter_enum he ?_
      have I2 : Inv X pins σ H1 { s1 with heap := h' } := I1.kept (t' := s1.toks) hk
      exact ⟨s1.heap.objs.size + 1, [s1.heap.objs.size + 1, s1.heap.objs.size], _, _, H1, rfl, I2, turn_enum a (s1.heap.objs.size + 1) s1.heap.objs.size, ⟨⟨.none, he⟩, hit, Nat.succ_ne_self _⟩, fresh2, q⟩
    · obtain ⟨its, rv, p', hz⟩ := I1.tuple hq
      obtain ⟨o, ho, _⟩ := id p'
      have hlt := Heap.lt_size ho
      refine fl_enumerate_tuple (show s1.heap.IsTuple a its.toArray from p') fun h' he hit hsz hk => wpAny_pyIter_enum he ?_
      have I2 : Inv X pins σ H1 { s1 with heap := h' } := I1.kept (t' := s1.toks) hk
      exact ⟨s1.heap.objs.size + 1, [s1.heap.objs.size + 1, s1.heap.objs.size], _, _, H1, rfl, I2, turn_enumT a (s1.heap.objs.size + 1) s1.heap.objs.size (Nat.ne_of_gt (Nat.lt_succ_of_lt hlt)) (Nat.ne_of_gt hlt), ⟨⟨.none, he⟩, hit, Nat.succ_ne_self _⟩, fresh2, q⟩
/-- a list or a tuple, walked -/
def iSeq (K : PySem.W.Frag) (tl : TE) : TI := fun σ H R => tl σ H fun x H1 => ∃ a xs, x = .ref a ∧ ((SqL K H1 a xs ∧ R (Itl K a) H1) ∨ (SqT K H1 a xs ∧ R (Itt K a) H1))
theorem pi_seq {X : Cx} {tg l : Expr} {tl : TE} (hl : PE X l tl) : PI X tg l (iSeq X.K tl) := by
  refine ⟨fun pins s σ H R I h => ?_⟩
  refine thn (hl.run pins s σ H _ I h) fun v s1 ⟨x, H1, I1, r1, q1⟩ => ?_
  obtain ⟨a, xs, e, hq⟩ := q1
  subst e
  cases r1
  have fr : ∀ b, b ∈ [s1.heap.objs.size] → FpOk X pins H1 b := fun b hb => by
    have e : b = s1.heap.objs.size := by simpa using hb
    subst e
    exact I1.fpOk (Nat.le_refl _) (I1.hok.fresh (Nat.le_refl _))
  rcases hq with ⟨hq, q⟩ | ⟨hq, q⟩
  · obtain ⟨its, rv, p, hz⟩ := I1.list hq
    refine wpAny_pyIter_list p.isList ?_
    exact ⟨s1.heap.objs.size, [s1.heap.objs.size], _, _, H1, rfl, I1.kept (t' := s1.toks) fun b o e => Heap.get?_push_of_some _ e, turn_list a _, ⟨_, Heap.get?_push_size _ rfl, rfl, rfl⟩, fr, q⟩
  · obtain ⟨its, rv, p, hz⟩ := I1.tuple hq
    refine wpAny_pyIter_tuple (show s1.heap.IsTuple a its.toArray from p) ?_
    exact ⟨s1.heap.objs.size, [s1.heap.objs.size], _, _, H1, rfl, I1.kept (t' := s1.toks) fun b o e => Heap.get?_push_of_some _ e, turn_tuple a _, ⟨_, Heap.get?_push_size _ rfl, rfl, rfl⟩, fr, q⟩
end FL
set_option Elab.async false
set_option linter.all false
set_option maxRecDepth 100000
set_option maxHeartbeats 4000000
namespace FL
open PySem PySem.Spec PyProof.Rows L2
section
variable {X : Cx} {Wx : WX} {e a b o : Expr} {es : List Expr} {fe fa fb fo : FE} {fas : FA} {pos : Pos}
/-! ### subscripts -/
theorem ix_any : IxR X (fun x y H Q => ∃ r, IxR X r ∧ r x y H Q) := fun value slice pins s σ H x y v u Q I rx ry h hs => by
  obtain ⟨r, h1, h2⟩ := h
  exact h1 value slice pins s σ H x y v u Q I rx ry h2 hs
def ixB (a : PyData) (i : Int) : Option PyData := match a with
  | .list ds => atI ds i
  | .tuple ds => atI ds i
  | .str z => if z.length ≤ LIM then (atI z.cps.toList i).map fun c => PyData.str ⟨#[c]⟩ else none
  | _ => none
def ixW : W → W → Sto → Option (W × Sto) := fun x y st => (view x st).bind fun a => (match view y st with
  | some (.int i) => (ixB a i).map fun r => (.d r, st)
  | _ => none)
theorem je_ix (ha : JE X Wx a fa) (hb : JE X Wx b fb) (hs : PlainIx b := by exact fun _ _ => rfl) : JE X Wx (.Subscript a b pos) (fBin ixW fa fb) :=
  peI (pe_ix ix_any ha hb hs) fun σ H Q ⟨m, env, st, rl, re, p⟩ => by
    refine (seqE rl re p).imp fun x H1 ⟨m1, st1, w, s1, rl1, re1, rv1, p1⟩ => (seqE rl1 re1 p1).imp fun y H2 ⟨m2, st2, w2, s2, rl2, re2, rv2, p2⟩ => ?_
    obtain ⟨z, st', e, q⟩ := Po.of2 p2
    have rv1 := rv1.mono s2
    unfold ixW at e
    cases e1 : view w st2 with
    | none => rw [e1] at e; cases e
    | some d =>
      rw [e1] at e
      simp only [Option.bind_some] at e
      split at e
      · rename_i i e2
        cases view_int rl2 rv2 e2
        cases e3 : ixB d i with
        | none => rw [e3] at e; cases e
        | some r =>
          rw [e3] at e
          cases e
          unfold ixB at e3
          split at e3
          · obtain ⟨pa, xs, rfl, h1, h2⟩ := view_list rl2 rv1 e1
            obtain ⟨u, h3, h4⟩ := atI_dp h2 e3
            exact ⟨_, ix_list, pa, xs, i, u, rfl, rfl, h1, h3, q m2 H2 .refl rl2 u h4⟩
          · obtain ⟨pa, xs, rfl, h1, h2⟩ := view_tup rl2 rv1 e1
            obtain ⟨u, h3, h4⟩ := atI_dp h2 e3
            exact ⟨_, ix_tup, pa, xs, i, u, rfl, rfl, h1, h3, q m2 H2 .refl rl2 u h4⟩
          · rename_i z
            cases view_str rl2 rv1 e1
            split at e3
            · rename_i hz
              cases e4 : atI z.cps.toList i with
              | none => rw [e4] at e3; cases e3
              | some c =>
                rw [e4] at e3
                cases e3
                exact ⟨_, ix_str, z, i, c, rfl, rfl, LIM_le hz, e4, q m2 H2 .refl rl2 _ (.str _)⟩
            · cases e3
          · cases e3
      · cases e
/-! ### slices -/
abbrev FO := Ev → Sto → Res (Option Int)
def rdO (X : Cx) (Wx : WX) (f : FO) : TO := fun σ H Q => ∃ m env st, Rel X.K m H st ∧ RE X.K m env σ ∧ Po X.K Wx (clX X) σ m H (fun _ H' _ b => Q b H') (f env st)
abbrev JO (X : Cx) (Wx : WX) (e : Option Expr) (f : FO) : Prop := PO X e (rdO X Wx f)
theorem poI {e : Option Expr} {t t' : TO} (h : PO X e t) (f : ∀ σ H Q, t' σ H Q → t σ H Q) : PO X e t' := ⟨fun pins s σ H Q I q => h.run pins s σ H Q I (f σ H Q q)⟩
def fNoPart : FO := fun _ st => .ok none st
def fPart (fa : FE) : FO := fun env st => (fa env st).bind fun w st1 => Res.of (match view w st1 with | some (.int i) => some (some i) | _ => none) st1
theorem jo_none : JO X Wx none fNoPart := poI po_none fun σ H Q ⟨m, env, st, rl, re, p⟩ => p m H .refl rl
theorem jo_some (h : JE X Wx e fe) : JO X Wx (some e) (fPart fe) := poI (po_some h) fun σ H Q ⟨m, env, st, rl, re, p⟩ =>
  (seqE rl re p).imp fun x H1 ⟨m1, st1, w, s1, rl1, re1, rv1, p1⟩ => by
    obtain ⟨z, e, q⟩ := Po.of p1 rl1
    split at e
    · rename_i i e2
      cases e
      exact ⟨i, view_int rl1 rv1 e2, q⟩
    · cases e
theorem rdO.imp {f : FO} {σ : L2.St} {H : Hp} {Q Q' : Option Int → Hp → Prop} (h : rdO X Wx f σ H Q) (q : ∀ v H', Q v H' → Q' v H') : rdO X Wx f σ H Q' := by
  obtain ⟨m, env, st, rl, re, p⟩ := h
  exact ⟨m, env, st, rl, re, p.mono .refl fun _ _ _ _ _ _ z => q _ _ z⟩
theorem seqO {m : Wd} {env : Ev} {st : Sto} {σ : L2.St} {H : Hp} {α : Type} {R : Wd → Hp → Sto → α → Prop} {fa : FO} {k : Option Int → Sto → Res α} (rl : Rel X.K m H st) (re : RE X.K m env σ) (h : Po X.K Wx (clX X) σ m H R ((fa env st).bind k)) :
    rdO X Wx fa σ H (fun b H1 => ∃ m1 st1, Step m m1 H H1 ∧ Rel X.K m1 H1 st1 ∧ RE X.K m1 env σ ∧ Po X.K Wx (clX X) σ m1 H1 R (k b st1)) := by
  refine ⟨m, env, st, rl, re, ?_⟩
  have h1 := Po.bind h
  cases e : fa env st with
  | bad => rw [e] at h1; exact h1
  | ok w st1 => rw [e] at h1; exact fun m1 H1 s1 r1 => ⟨m1, st1, s1, r1, re.mono s1, h1 m1 H1 s1 r1⟩
  | ex c st1 => rw [e] at h1; exact h1
def cutL {α : Type} (xs : List α) (lo hi : Option Int) : List α := (xs.drop (HT.sIx xs.length 0 lo)).take (HT.sIx xs.length xs.length hi - HT.sIx xs.length 0 lo)
def slB (a : PyData) (lo hi : Option Int) : Option PyData := match a with
  | .list ds => some (.list (cutL ds lo hi))
  | .tuple ds => some (.tuple (cutL ds lo hi))
  | .str z => if z.length ≤ LIM then some (.str (cutS z lo hi)) else none
  | _ => none
def fSl (fa : FE) (fl fh : FO) : FE := fun env st => (fa env st).bind fun x st1 => (fl env st1).bind fun lo st2 => (fh env st2).bind fun hi st3 => Res.of ((viewO x st3).bind fun a => (slB a lo hi).map W.d) st3
theorem sl_any : SlR X (fun x lo hi H Q => ∃ r, SlR X r ∧ r x lo hi H Q) := fun pins s σ H x v vl vu lo hi sl Q I rx hs pl pu h => by
  obtain ⟨r, h1, h2⟩ := h
  exact h1 pins s σ H x v vl vu lo hi sl Q I rx hs pl pu h2
theorem dpAll_cut {K : PySem.W.Frag} {F : Hp} {ds : List PyData} {xs : List V} (h : DqAll K F xs ds) (lo hi : Option Int) : DqAll K F (cutV xs lo hi) (cutL ds lo hi) := by
  unfold cutV cutL
  rw [dpAll_len h]
  exact dpAll_take _ (dpAll_drop _ h)
theorem je_sl {lo hi : Option Expr} {fl fh : FO} {p2 : Pos} (ha : JE X Wx a fa) (hl : JO X Wx lo fl) (hh : JO X Wx hi fh) : JE X Wx (.Subscript a (.Slice lo hi none p2) pos) (fSl fa fl fh) :=
  peI (pe_slice sl_any ha hl hh) fun σ H Q ⟨m, env, st, rl, re, p⟩ => by
    refine (seqE rl re p).imp fun x H1 ⟨m1, st1, w, s1, rl1, re1, rv1, p1⟩ => (seqO rl1 re1 p1).imp fun lo H2 ⟨m2, st2, s2, rl2, re2, p2⟩ => (seqO rl2 re2 p2).imp fun hi H3 ⟨m3, st3, s3, rl3, re3, p3⟩ => ?_
    obtain ⟨z, e, q⟩ := Po.of p3 rl3
    have rv3 := (rv1.mono s2).mono s3
    have q : ∀ m' H', Step m3 m' H3 H' → Rel X.K m' H' st3 → ∀ v, RV X.K m' v z → Q v H' := by
      have p3' := p3
      rw [e] at p3'
      exact p3'
    cases e1 : viewO w st3 with
    | none => rw [e1] at e; cases e
    | some d =>
      rw [e1] at e
      simp only [Option.bind_some] at e
      obtain ⟨v1, ow⟩ := viewO_of e1
      cases e2 : slB d lo hi with
      | none => rw [e2] at e; cases e
      | some r =>
        rw [e2] at e
        cases e
        unfold slB at e2
        split at e2
        · cases e2
          obtain ⟨pa, xs, rfl, h1, h2⟩ := view_list rl3 rv3 v1
          refine ⟨_, sl_list, pa, xs, rfl, h1, fun t ht => ?_⟩
          obtain ⟨rl4, s4⟩ := rl3.allocF (o := .lst (cutV xs lo hi)) ht
          exact q _ _ s4 rl4 _ (.lst upd_same (dpAll_same s4.fro (dpAll_cut h2 lo hi)))
        · rename_i ds
          cases e2
          obtain ⟨pa, xs, hv, h1, h2⟩ := view_tup rl3 rv3 v1
          refine ⟨_, sl_tupA, pa, xs, hv, h1, fun hw => ?_, fun _ t ht => ?_⟩
          · have ec : cutL ds lo hi = ds := by
              unfold cutL
              rw [dpAll_len h2] at hw
              rw [hw.1, hw.2]
              simp
            rw [ec] at q
            refine q m3 H3 .refl rl3 _ ?_
            rw [← hv]
            cases w with
            | d y => cases v1; exact rv3
            | s _ => cases ow
            | t _ => cases v1
            | c n =>
              obtain ⟨a', r', k1, k2⟩ := rv3
              unfold view at v1
              cases e : st3[n]? with
              | none => simp [e] at v1
              | some c =>
                cases c with
                | fz x =>
                  simp [e] at v1
                  subst v1
                  obtain ⟨_, _, k3, _, k4⟩ := rl3.at k1 e
                  cases k3
                  rw [k2]
                  exact k4
                | _ => simp [e] at v1
          · obtain ⟨rl4, s4⟩ := rl3.allocF (o := .tup (cutV xs lo hi)) ht
            exact q _ _ s4 rl4 _ (.tup (SqT.of upd_same) (dpAll_same s4.fro (dpAll_cut h2 lo hi)))
        · split at e2
          · rename_i hz
            cases e2
            cases view_str rl3 rv3 v1
            exact ⟨_, sl_str, _, rfl, LIM_le hz, q m3 H3 .refl rl3 _ (.str _)⟩
          · cases e2
        · cases e2

/-! ### calls of builtins -/
def CallS (X : Cx) (f : Value) (g : List W → Sto → Option (W × Sto)) : Prop :=
  ∀ (m : Wd) (H : Hp) (st st' : Sto) (ws : List W) (w : W) (vs : List V) (Q : VK), Rel X.K m H st → RVs X.K m vs ws → g ws st = some (w, st') →
    (∀ m' H' z, Step m m' H H' → Rel X.K m' H' st' → RV X.K m' z w → Q z H') → ∃ r, CallR X f r ∧ r vs H Q
theorem call_any {f : Value} : CallR X f (fun vs H Q => ∃ r, CallR X f r ∧ r vs H Q) := fun pins s σ H xs us Q I r h => by
  obtain ⟨r', h1, h2⟩ := h
  exact h1 pins s σ H xs us Q I r h2
def fCB (g : List W → Sto → Option (W × Sto)) (fas : FA) : FE := fun env st => (fas env st).bind fun ws st1 => Res.of2 (g ws st1)
theorem cb_rd {f : Value} {g : List W → Sto → Option (W × Sto)} (hc : CallS X f g) {σ : L2.St} {H : Hp} {Q : VK} (h : rdE X Wx (fCB g fas) σ H Q) : tCB (fun vs H Q => ∃ r, CallR X f r ∧ r vs H Q) (rdA X Wx fas) σ H Q := by
  obtain ⟨m, env, st, rl, re, p⟩ := h
  refine (seqA rl re p).imp fun xs H1 ⟨m1, st1, ws, s1, rl1, re1, rv1, p1⟩ => ?_
  obtain ⟨z, st', e, q⟩ := Po.of2 p1
  exact hc m1 H1 st1 st' ws z xs Q rl1 rv1 e fun m' H' z' s' rl' rv' => q m' H' s' rl' z' rv'
theorem je_cb {id : String} {x : Str} {p : Pos} {g : List W → Sto → Option (W × Sto)} (hc : CallS X (.builtin id) g) (hm : X.mg x = none) (hv : bootBuiltins x = some (.builtin id)) (ha : JA X Wx (e :: es) fas) (hg : Gl X x := by rfl) (hn : x ≠ "__name__" := by decide) (hdb : (x == ("__debug__" : Str)) = false := by decide)
    (he : starEach (e :: es) X.env = (false, eval e X.env) :: starEach es X.env := by rfl) (hpl : (backTo pos (starEach es X.env)).any (·.1) = false := by rfl) : JE X Wx (.Call (.Name x p) (e :: es) [] pos) (fCB g fas) :=
  peI (pe_callB call_any hg hm hv ha hn hdb he hpl) fun σ H Q h => cb_rd hc h
theorem je_cty {T : String} {x : Str} {p : Pos} {g : List W → Sto → Option (W × Sto)} (hc : CallS X (.type T) g) (hm : X.mg x = none) (hv : bootBuiltins x = some (.type T)) (ha : JA X Wx (e :: es) fas) (hg : Gl X x := by rfl) (hn : x ≠ "__name__" := by decide) (hdb : (x == ("__debug__" : Str)) = false := by decide)
    (he : starEach (e :: es) X.env = (false, eval e X.env) :: starEach es X.env := by rfl) (hpl : (backTo pos (starEach es X.env)).any (·.1) = false := by rfl) : JE X Wx (.Call (.Name x p) (e :: es) [] pos) (fCB g fas) :=
  peI (pe_callTy call_any hg hm hv ha hn hdb he hpl) fun σ H Q h => cb_rd hc h
/-- a builtin class by its name -/
def fTy (n : String) : FE := fun _ st => .ok (.t n) st
theorem je_ty {n : String} {x : Str} (hm : X.mg x = none) (hv : bootBuiltins x = some (.type n)) (hg : Gl X x := by rfl) (hn : x ≠ "__name__" := by decide) (hd : (x == ("__debug__" : Str)) = false := by decide) : JE X Wx (.Name x pos) (fTy n) :=
  peI (pe_bltn (v := .ty n) hg hm hv rfl hn hd) fun σ H Q ⟨m, env, st, rl, re, p⟩ => p m H .refl rl _ rfl
/-! len -/
def lenB : PyData → Option Nat
  | .list ds => some ds.length
  | .tuple ds => some ds.length
  | .str z => if z.length ≤ LIM then some z.length else none
  | _ => none
def lenW : List W → Sto → Option (W × Sto) := fun ws st => match ws with
  | [.c n] => (match st[n]? with
    | some (.lst ds) => some (.d (.int (ds.length : Nat)), st)
    | some (.fz d) => (lenB d).map fun n => (.d (.int (n : Nat)), st)
    | some (.dS kvs) => some (.d (.int (kvs.length : Nat)), st)
    | _ => none)
  | [w] => (view w st).bind fun a => (lenB a).map fun n => (.d (.int (n : Nat)), st)
  | _ => none
theorem paired_len {α β : Type} {R : α → β → Prop} : ∀ {xs : List α} {ys : List β}, Paired R xs ys → xs.length = ys.length
  | _, _, .nil => rfl
  | _, _, .cons _ t => by simp [paired_len t]
theorem lenB_rd {m : Wd} {H : Hp} {st : Sto} {w : W} {v : V} {a : PyData} {n : Nat} {Q : VK} (rl : Rel X.K m H st) (rv : RV X.K m v w) (e1 : view w st = some a) (e2 : lenB a = some n) (q : Q (.int (n : Nat)) H) :
    ∃ r, CallR X (.builtin "len") r ∧ r [v] H Q := by
  unfold lenB at e2
  split at e2
  · cases e2
    obtain ⟨pa, xs, rfl, h1, h2⟩ := view_list rl rv e1
    exact ⟨_, call_len_seq, pa, xs, rfl, .inl h1, by rw [dpAll_len h2]; exact q⟩
  · cases e2
    obtain ⟨pa, xs, rfl, h1, h2⟩ := view_tup rl rv e1
    exact ⟨_, call_len_seq, pa, xs, rfl, .inr h1, by rw [dpAll_len h2]; exact q⟩
  · split at e2
    · rename_i hz
      cases e2
      cases view_str rl rv e1
      exact ⟨_, call_len, _, _, rfl, ⟨LIM_le hz, rfl⟩, q⟩
    · cases e2
  · cases e2
theorem cs_len : CallS X (.builtin "len") lenW := by
  intro m H st st' ws w vs Q rl rv e q
  cases rv with
  | nil => cases e
  | cons r1 r2 =>
    rename_i v1 vs1 w1 ws1
    cases r2 with
    | cons _ _ => unfold lenW at e; cases w1 <;> cases e
    | nil =>
      have fin : ∀ (a : PyData) (n : Nat), view w1 st = some a → lenB a = some n → w = .d (.int (n : Nat)) → st' = st → ∃ r, CallR X (.builtin "len") r ∧ r [v1] H Q := fun a n h1 h2 h3 h4 => by
        subst h3 h4
        exact lenB_rd rl r1 h1 h2 (q m H _ .refl rl (.int _))
      cases w1 with
      | c n =>
        unfold lenW at e
        obtain ⟨a, r, k1, k2⟩ := id r1
        cases e1 : st[n]? with
        | none => simp [e1] at e
        | some c =>
          cases c with
          | lst ds =>
            simp [e1] at e
            exact fin (.list ds) ds.length (by unfold view; simp [e1]) rfl e.1.symm e.2.symm
          | fz d =>
            simp [e1] at e
            obtain ⟨n', h1, h2, h3⟩ := e
            exact fin d n' (by unfold view; simp [e1]) h1 h2.symm h3.symm
          | dS kvs =>
            simp [e1] at e
            obtain ⟨rfl, rfl⟩ := e
            obtain ⟨a', ks, k3, _, k5, k6⟩ := rl.at k1 e1
            cases k3
            rw [k2]
            refine ⟨_, call_lenD, a, ks, rfl, k5, ?_⟩
            rw [paired_len k6]
            exact q m H _ .refl rl (.int _)
          | dT kvs => simp [e1] at e
      | d x =>
        unfold lenW at e
        simp [view] at e
        obtain ⟨n', h1, h2, h3⟩ := e
        exact fin x n' rfl h1 h2.symm h3.symm
      | s ns =>
        unfold lenW at e
        simp [view] at e
        obtain ⟨n', h1, h2, h3⟩ := e
        exact fin _ n' rfl h1 h2.symm h3.symm
      | t n => unfold lenW at e; cases e
end
end FL
set_option Elab.async false
set_option linter.all false
set_option maxRecDepth 100000
set_option maxHeartbeats 4000000
namespace FL
open PySem PySem.Spec PyProof.Rows L2
section
variable {X : Cx} {Wx : WX} {e a b o : Expr} {es : List Expr} {fe fa fb fo : FE} {fas : FA} {pos : Pos}
/-- one argument that is read -/
def rd1 (h : PyData → Option PyData) : List W → Sto → Option (W × Sto) := fun ws st => match ws with
  | [w] => (view w st).bind fun a => (h a).map fun r => (.d r, st)
  | _ => none
theorem cs_rd1 {f : Value} {h : PyData → Option PyData} (hh : ∀ (m : Wd) (H : Hp) (st : Sto) (w : W) (v : V) (a r : PyData) (Q : VK), Rel X.K m H st → RV X.K m v w → view w st = some a → h a = some r →
    (∀ m' H' z, Step m m' H H' → Rel X.K m' H' st → RV X.K m' z (.d r) → Q z H') → ∃ R, CallR X f R ∧ R [v] H Q) : CallS X f (rd1 h) := by
  intro m H st st' ws w vs Q rl rv e q
  unfold rd1 at e
  split at e
  · rename_i w1
    cases rv with
    | cons r1 r2 =>
      cases r2
      cases e1 : view w1 st with
      | none => rw [e1] at e; cases e
      | some a =>
        rw [e1] at e
        simp only [Option.bind_some] at e
        cases e2 : h a with
        | none => rw [e2] at e; cases e
        | some r =>
          rw [e2] at e
          cases e
          exact hh m H st w1 _ a r Q rl r1 e1 e2 q
  · cases e
/-! ### isinstance -/
def tyD : PyData → String
  | .none => "NoneType"
  | .bool _ => "bool"
  | .int _ => "int"
  | .str _ => "str"
  | .list _ => "list"
  | .tuple _ => "tuple"
  | .dict _ => "dict"
def isi (d : PyData) (n : String) : Option Bool :=
  if n = "int" then some (match d with | .int _ => true | .bool _ => true | _ => false)
  else if n = "bool" then some (match d with | .bool _ => true | _ => false)
  else if n = "str" then some (match d with | .str _ => true | _ => false)
  else if n = "tuple" then some (match d with | .tuple _ => true | _ => false)
  else if n = "list" then some (match d with | .list _ => true | _ => false)
  else none
theorem ty_of {K : PySem.W.Frag} {H : Hp} {v : V} {d : PyData} (h : Dp K H v d) : TyX K H v (.type (tyD d)) := by
  cases h with
  | non => exact .base .non
  | bl b => exact .base (.bl b)
  | int i => exact .base (.int i)
  | str x => exact .base (.str x)
  | lst h1 _ =>
    rcases h1 with h1 | ⟨o, its, n, h1, h2, _⟩
    · rcases h1 with h1 | ⟨o, h1⟩
      · exact .base (.lst h1)
      · exact .base (.frz h1)
    · exact .kList h1 h2
  | tup h1 _ =>
    rcases h1 with h1 | ⟨o, its, n, h1, h2, _⟩
    · rcases h1 with h1 | ⟨o, h1⟩
      · exact .base (.tup h1)
      · exact .fTuple h1
    · exact .kTuple h1 h2
theorem kit_all : ∀ a ∈ ["NoneType", "bool", "int", "str", "list", "tuple"], ∀ n ∈ ["int", "bool", "str", "tuple", "list"], kitB a n = some (decide (a = n) || (decide (a = "bool") && decide (n = "int"))) := by decide +kernel
theorem isi_kit {K : PySem.W.Frag} {H : Hp} {v : V} {d : PyData} {n : String} {k : Bool} (h : Dp K H v d) (e : isi d n = some k) : kitB (tyD d) n = some k := by
  have hn : n ∈ ["int", "bool", "str", "tuple", "list"] := by
    unfold isi at e
    split at e
    · subst_vars; simp
    split at e
    · subst_vars; simp
    split at e
    · subst_vars; simp
    split at e
    · subst_vars; simp
    split at e
    · subst_vars; simp
    · cases e
  have ha : tyD d ∈ ["NoneType", "bool", "int", "str", "list", "tuple"] := by cases h <;> simp [tyD]
  rw [kit_all _ ha _ hn]
  rw [← e]
  simp at hn
  rcases hn with rfl | rfl | rfl | rfl | rfl <;> cases h <;> simp [isi, tyD]
def isiW : List W → Sto → Option (W × Sto) := fun ws st => match ws with
  | [x, .t n] => (view x st).bind fun d => (isi d n).map fun k => (.d (.bool k), st)
  | _ => none
theorem cs_isi : CallS X (.builtin "isinstance") isiW := by
  intro m H st st' ws w vs Q rl rv e q
  unfold isiW at e
  split at e
  · rename_i x n
    cases rv with
    | cons r1 r2 =>
      cases r2 with
      | cons r2 r3 =>
        cases r3
        cases e1 : view x st with
        | none => rw [e1] at e; cases e
        | some d =>
          rw [e1] at e
          simp only [Option.bind_some] at e
          cases e2 : isi d n with
          | none => rw [e2] at e; cases e
          | some k =>
            rw [e2] at e
            cases e
            have hd := view_dp rl r1 e1
            rename_i u
            cases (show u = .ty n from r2)
            exact ⟨_, call_isi, _, _, _, _, _, rfl, .ty n, ty_of hd, kit_ty (isi_kit hd e2), q m H _ .refl rl (.bl _)⟩
  · cases e
/-! ### all, any, sum, max -/
def boolsOf : List PyData → Option (List Bool)
  | [] => some []
  | .bool b :: r => (boolsOf r).map (b :: ·)
  | _ => none
def intsOf : List PyData → Option (List Int)
  | [] => some []
  | .int b :: r => (intsOf r).map (b :: ·)
  | _ => none
def strsOf : List PyData → Option (List Str)
  | [] => some []
  | .str b :: r => (strsOf r).map (b :: ·)
  | _ => none
theorem bools_v {K : PySem.W.Frag} {F : Hp} : ∀ {ds : List PyData} {xs : List V} {bs : List Bool}, DqAll K F xs ds → boolsOf ds = some bs → xs = bs.map V.bl
  | [], _, _, h, e => by cases h; cases e; rfl
  | .bool b :: r, _, _, h, e => by
    cases h with
    | cons h1 h2 =>
      cases h1
      cases e2 : boolsOf r with
      | none => simp [boolsOf, e2] at e
      | some bs =>
        simp [boolsOf, e2] at e
        subst e
        rw [bools_v h2 e2]; rfl
  | .none :: r, _, _, h, e => by cases e
  | .int _ :: r, _, _, h, e => by cases e
  | .str _ :: r, _, _, h, e => by cases e
  | .list _ :: r, _, _, h, e => by cases e
  | .tuple _ :: r, _, _, h, e => by cases e
  | .dict _ :: r, _, _, h, e => by cases e
theorem ints_v {K : PySem.W.Frag} {F : Hp} : ∀ {ds : List PyData} {xs : List V} {bs : List Int}, DqAll K F xs ds → intsOf ds = some bs → xs = bs.map V.int
  | [], _, _, h, e => by cases h; cases e; rfl
  | .int b :: r, _, _, h, e => by
    cases h with
    | cons h1 h2 =>
      cases h1
      cases e2 : intsOf r with
      | none => simp [intsOf, e2] at e
      | some bs =>
        simp [intsOf, e2] at e
        subst e
        rw [ints_v h2 e2]; rfl
  | .none :: r, _, _, h, e => by cases e
  | .bool _ :: r, _, _, h, e => by cases e
  | .str _ :: r, _, _, h, e => by cases e
  | .list _ :: r, _, _, h, e => by cases e
  | .tuple _ :: r, _, _, h, e => by cases e
  | .dict _ :: r, _, _, h, e => by cases e
theorem strs_v {K : PySem.W.Frag} {F : Hp} : ∀ {ds : List PyData} {xs : List V} {bs : List Str}, DqAll K F xs ds → strsOf ds = some bs → xs = bs.map V.str
  | [], _, _, h, e => by cases h; cases e; rfl
  | .str b :: r, _, _, h, e => by
    cases h with
    | cons h1 h2 =>
      cases h1
      cases e2 : strsOf r with
      | none => simp [strsOf, e2] at e
      | some bs =>
        simp [strsOf, e2] at e
        subst e
        rw [strs_v h2 e2]; rfl
  | .none :: r, _, _, h, e => by cases e
  | .bool _ :: r, _, _, h, e => by cases e
  | .int _ :: r, _, _, h, e => by cases e
  | .list _ :: r, _, _, h, e => by cases e
  | .tuple _ :: r, _, _, h, e => by cases e
  | .dict _ :: r, _, _, h, e => by cases e
def allD : PyData → Option PyData
  | .list ds => (boolsOf ds).map fun bs => .bool (bs.all id)
  | _ => none
def anyD : PyData → Option PyData
  | .list ds => (boolsOf ds).map fun bs => .bool (bs.any id)
  | _ => none
def sumD : PyData → Option PyData
  | .list ds => (intsOf ds).map fun bs => .int bs.sum
  | _ => none
def maxL : List Int → Option Int
  | [] => none
  | x :: r => some (r.foldl max x)
def maxD : PyData → Option PyData
  | .list ds => (intsOf ds).bind fun bs => (maxL bs).map PyData.int
  | _ => none
theorem cs_all (hc : X.calm = true) : CallS X (.builtin "all") (rd1 allD) := cs_rd1 fun m H st w v a r Q rl rv e1 e2 q => by
  cases a with
  | list ds =>
    obtain ⟨pa, xs, rfl, h1, h2⟩ := view_list rl rv e1
    cases e3 : boolsOf ds with
    | none => simp [allD, e3] at e2
    | some bs =>
      simp [allD, e3] at e2
      subst e2
      cases bools_v h2 e3
      exact ⟨_, cr_all hc, pa, bs, rfl, h1, q m H _ .refl rl (by first | exact .bl _ | (simp; exact .bl _))⟩
  | _ => cases e2
theorem cs_any (hc : X.calm = true) : CallS X (.builtin "any") (rd1 anyD) := cs_rd1 fun m H st w v a r Q rl rv e1 e2 q => by
  cases a with
  | list ds =>
    obtain ⟨pa, xs, rfl, h1, h2⟩ := view_list rl rv e1
    cases e3 : boolsOf ds with
    | none => simp [anyD, e3] at e2
    | some bs =>
      simp [anyD, e3] at e2
      subst e2
      cases bools_v h2 e3
      exact ⟨_, cr_any hc, pa, bs, rfl, h1, q m H _ .refl rl (by first | exact .bl _ | (simp; exact .bl _))⟩
  | _ => cases e2
theorem cs_sum (hc : X.calm = true) : CallS X (.builtin "sum") (rd1 sumD) := cs_rd1 fun m H st w v a r Q rl rv e1 e2 q => by
  cases a with
  | list ds =>
    obtain ⟨pa, xs, rfl, h1, h2⟩ := view_list rl rv e1
    cases e3 : intsOf ds with
    | none => simp [sumD, e3] at e2
    | some bs =>
      simp [sumD, e3] at e2
      subst e2
      cases ints_v h2 e3
      exact ⟨_, cr_sum hc, pa, bs, rfl, h1, q m H _ .refl rl (.int _)⟩
  | _ => cases e2
theorem foldl_max_ge : ∀ (l : List Int) (x : Int), x ≤ l.foldl max x ∧ ∀ y ∈ l, y ≤ l.foldl max x
  | [], x => ⟨Int.le_refl _, fun _ h => by cases h⟩
  | z :: r, x => by
    obtain ⟨h1, h2⟩ := foldl_max_ge r (max x z)
    rw [List.foldl_cons]
    refine ⟨Int.le_trans (Int.le_max_left x z) h1, fun y hy => ?_⟩
    rcases List.mem_cons.mp hy with rfl | hy
    · exact Int.le_trans (Int.le_max_right x y) h1
    · exact h2 y hy
theorem foldl_max_mem : ∀ (l : List Int) (x : Int), l.foldl max x = x ∨ l.foldl max x ∈ l
  | [], x => .inl rfl
  | z :: r, x => by
    rw [List.foldl_cons]
    rcases foldl_max_mem r (max x z) with h | h
    · rw [h]
      rcases Int.le_total x z with q | q
      · rw [Int.max_eq_right q]; exact .inr (List.mem_cons_self)
      · rw [Int.max_eq_left q]; exact .inl rfl
    · exact .inr (List.mem_cons_of_mem _ h)
theorem cs_max (hc : X.calm = true) : CallS X (.builtin "max") (rd1 maxD) := cs_rd1 fun m H st w v a r Q rl rv e1 e2 q => by
  cases a with
  | list ds =>
    obtain ⟨pa, xs, rfl, h1, h2⟩ := view_list rl rv e1
    cases e3 : intsOf ds with
    | none => simp [maxD, e3] at e2
    | some bs =>
      cases bs with
      | nil => simp [maxD, e3, maxL] at e2
      | cons x l =>
        simp [maxD, e3, maxL] at e2
        subst e2
        cases ints_v h2 e3
        refine ⟨_, cr_max hc, pa, x :: l, rfl, h1, Nat.succ_pos _, fun k hk hm => ?_⟩
        have e : k = l.foldl max x := by
          obtain ⟨g1, g2⟩ := foldl_max_ge l x
          apply Int.le_antisymm
          · rcases List.mem_cons.mp hk with rfl | hk
            · exact g1
            · exact g2 k hk
          · rcases foldl_max_mem l x with z | z
            · rw [z]; exact hm x List.mem_cons_self
            · exact hm _ (List.mem_cons_of_mem _ z)
        subst e
        exact q m H _ .refl rl (.int _)
  | _ => cases e2
/-! ### tuple, list, int, str -/
def tupD : PyData → Option PyData
  | .list ds => some (.tuple ds)
  | _ => none
theorem cs_tuple : CallS X (.type "tuple") (rd1 tupD) := cs_rd1 fun m H st w v a r Q rl rv e1 e2 q => by
  cases a with
  | list ds =>
    cases e2
    obtain ⟨pa, xs, rfl, h1, h2⟩ := view_list rl rv e1
    refine ⟨_, call_tuple_of, pa, xs, rfl, .inl ⟨h1, fun t ht => ?_⟩⟩
    obtain ⟨rl4, s4⟩ := rl.allocF (o := .tup xs) ht
    exact q _ _ _ s4 rl4 (.tup (SqT.of upd_same) (dpAll_same s4.fro h2))
  | _ => cases e2
def listD : PyData → Option PyData
  | .list ds => some (.list ds)
  | .tuple ds => some (.list ds)
  | _ => none
theorem cs_list : CallS X (.type "list") (rd1 listD) := cs_rd1 fun m H st w v a r Q rl rv e1 e2 q => by
  have fin : ∀ pa xs ds, v = .ref pa → (SqL X.K H pa xs ∨ SqT X.K H pa xs) → DqAll X.K m.F xs ds → r = .list ds → ∃ R, CallR X (.type "list") R ∧ R [v] H Q := fun pa xs ds hv h1 h2 h3 => by
    subst hv h3
    refine ⟨_, call_list_of, pa, xs, rfl, h1, fun t ht => ?_⟩
    obtain ⟨rl4, s4⟩ := rl.allocF (o := .lst xs) ht
    exact q _ _ _ s4 rl4 (.lst upd_same (dpAll_same s4.fro h2))
  cases a with
  | list ds =>
    cases e2
    obtain ⟨pa, xs, hv, h1, h2⟩ := view_list rl rv e1
    exact fin pa xs ds hv (.inl h1) h2 rfl
  | tuple ds =>
    cases e2
    obtain ⟨pa, xs, hv, h1, h2⟩ := view_tup rl rv e1
    exact fin pa xs ds hv (.inr h1) h2 rfl
  | _ => cases e2
/-- list(..) as a new cell -/
def listN : List W → Sto → Option (W × Sto) := fun ws st => match ws with
  | [w] => (view w st).bind fun a => (match a with
    | .list ds => some (.c st.length, st ++ [.lst ds])
    | .tuple ds => some (.c st.length, st ++ [.lst ds])
    | _ => none)
  | _ => none
theorem cs_listN : CallS X (.type "list") listN := by
  intro m H st st' ws w vs Q rl rv e q
  unfold listN at e
  split at e
  · rename_i w1
    cases rv with
    | cons r1 r2 =>
      cases r2
      rename_i v1
      have fin : ∀ pa xs ds, v1 = .ref pa → (SqL X.K H pa xs ∨ SqT X.K H pa xs) → DqAll X.K m.F xs ds → w = .c st.length → st' = st ++ [.lst ds] → ∃ R, CallR X (.type "list") R ∧ R [v1] H Q := fun pa xs ds hv h1 h2 h3 h4 => by
        subst hv h3 h4
        refine ⟨_, call_list_of, pa, xs, rfl, h1, fun t ht => ?_⟩
        obtain ⟨rl4, s4⟩ := rl.allocC (o := .lst xs) (c := .lst ds) ht ⟨t, xs, rfl, rl.newF ht, upd_same, h2⟩
        exact q _ _ _ s4 rl4 ⟨t, [], by rw [← rl.len]; simp, rfl⟩
      cases e1 : view w1 st with
      | none => rw [e1] at e; cases e
      | some a =>
        rw [e1] at e
        simp only [Option.bind_some] at e
        split at e
        · cases e
          obtain ⟨pa, xs, hv, h1, h2⟩ := view_list rl r1 e1
          exact fin pa xs _ hv (.inl h1) h2 rfl rfl
        · cases e
          obtain ⟨pa, xs, hv, h1, h2⟩ := view_tup rl r1 e1
          exact fin pa xs _ hv (.inr h1) h2 rfl rfl
        · cases e
  · cases e
def toI : PyData → Option PyData
  | .int i => some (.int i)
  | .bool k => some (.int (if k then 1 else 0))
  | .str x => if x.length ≤ 640 then (PySem.intText? x).map PyData.int else none
  | _ => none
theorem cs_int : CallS X (.type "int") (rd1 toI) := cs_rd1 fun m H st w v a r Q rl rv e1 e2 q => by
  cases a with
  | int i =>
    cases e2
    cases view_int rl rv e1
    exact ⟨_, call_int1, .inl ⟨i, rfl, q m H _ .refl rl (.int _)⟩⟩
  | bool k =>
    cases e2
    cases view_bool rl rv e1
    exact ⟨_, call_int1, .inr ⟨k, rfl, q m H _ .refl rl (.int _)⟩⟩
  | str x =>
    cases view_str rl rv e1
    change (if x.length ≤ 640 then (PySem.intText? x).map PyData.int else none) = some r at e2
    split at e2
    · rename_i hz
      cases e3 : PySem.intText? x with
      | none => rw [e3] at e2; cases e2
      | some n =>
        rw [e3] at e2
        cases e2
        exact ⟨_, call_int_str, x, n, rfl, e3, hz, q m H _ .refl rl (.int _)⟩
    · cases e2
  | _ => cases e2
def toS : PyData → Option PyData
  | .int i => if i.natAbs < 1000000 then some (.str (toString i)) else none
  | _ => none
theorem cs_str : CallS X (.type "str") (rd1 toS) := cs_rd1 fun m H st w v a r Q rl rv e1 e2 q => by
  cases a with
  | int i =>
    cases view_int rl rv e1
    change (if i.natAbs < 1000000 then some (PyData.str (toString i)) else none) = some r at e2
    split at e2
    · rename_i hz
      cases e2
      refine ⟨_, call_str_int, i, rfl, ?_, q m H _ .refl rl (.str _)⟩
      by_cases h0 : i.natAbs = 0
      · rw [h0]; decide
      · have : i.natAbs.log2 < 20 := (Nat.log2_lt h0).mpr (Nat.lt_of_lt_of_le hz (by decide))
        omega
    · cases e2
  | _ => cases e2
/-! ### methods of builtins -/
def tyW (T : String) (w : W) (st : Sto) : Bool := match w with
  | .c n => (match st[n]? with
    | some (.lst _) => T == "list"
    | some (.fz (.list _)) => T == "list"
    | some (.dS _) => T == "dict"
    | some (.dT _) => T == "dict"
    | _ => false)
  | .d (.list _) => T == "list"
  | .d (.str _) => T == "str"
  | _ => false
theorem tyW_ok {m : Wd} {H : Hp} {st : Sto} {w : W} {v : V} {T : String} (rl : Rel X.K m H st) (rv : RV X.K m v w) (h : tyW T w st = true) : tyV X.K T v H := by
  unfold tyW at h
  split at h
  · rename_i n
    obtain ⟨a, r, k1, rfl⟩ := rv
    split at h
    · rename_i ds e
      obtain ⟨_, xs, k3, _, k5, _⟩ := rl.at k1 e
      cases k3
      exact .inl ⟨by simpa using h, _, SqL.of k5⟩
    · rename_i ds e
      obtain ⟨_, _, k3, _, k5⟩ := rl.at k1 e
      cases k3
      cases k5 with
      | lst h1 h2 => exact .inl ⟨by simpa using h, _, SqL.of (rl.same _ _ h1)⟩
    · rename_i ds e
      obtain ⟨_, xs, k3, _, k5, _⟩ := rl.at k1 e
      cases k3
      exact .inr (.inr (.inl ⟨by simpa using h, .inl ⟨_, k5⟩⟩))
    · rename_i ds e
      obtain ⟨_, xs, k3, _, k5, _⟩ := rl.at k1 e
      cases k3
      exact .inr (.inr (.inl ⟨by simpa using h, .inr ⟨_, k5⟩⟩))
    · cases h
  · cases rv with
    | lst h1 h2 => exact .inl ⟨by simpa using h, _, SqL.of (rl.same _ _ h1)⟩
  · cases rv
    show T = "str"
    simpa using h
  · cases h
def MtS (X : Cx) (id : String) (g : W → List W → Sto → Option (W × Sto)) : Prop :=
  ∀ (m : Wd) (H : Hp) (st st' : Sto) (x : W) (ws : List W) (w : W) (v : V) (vs : List V) (Q : VK), Rel X.K m H st → RV X.K m v x → RVs X.K m vs ws → g x ws st = some (w, st') →
    (∀ m' H' z, Step m m' H H' → Rel X.K m' H' st' → RV X.K m' z w → Q z H') → ∃ r, MtR X id r ∧ r v vs H Q
theorem mt_any {id : String} : MtR X id (fun v vs H Q => ∃ r, MtR X id r ∧ r v vs H Q) := fun pins s σ H x xs v us Q I rx rs h => by
  obtain ⟨r', h1, h2⟩ := h
  exact h1 pins s σ H x xs v us Q I rx rs h2
def fMt (T : String) (g : W → List W → Sto → Option (W × Sto)) (fo : FE) (fas : FA) : FE := fun env st => (fo env st).bind fun x st1 => if tyW T x st1 then (fas env st1).bind fun ws st2 => Res.of2 (g x ws st2) else .bad
theorem je_mt {T id : String} {name : Str} {apos cpos : Pos} {g : W → List W → Sto → Option (W × Sto)} (hm : MtS X id g) (pa : PlainAttrs T) (slot : Slot T name id) (hty : typeOf (.builtin id) = pure (.type "method_descriptor")) (ho : JE X Wx o fo) (ha : JA X Wx (e :: es) fas)
    (hbase : attributeBase o name X.env (eval o X.env) = eval o X.env := by rfl)
    (hfew : ((backTo cpos (starEach (e :: es) X.env)).all (fun x => !x.1) && (backToKw cpos (keywordEach [] X.env)).all (fun x => x.1.isSome)
      && decide ((e :: es).length + ([] : List Keyword).length + (if ([] : List Keyword).isEmpty then 0 else 1) < 30)) = true := by rfl)
    (hline : (apos.endLine == cpos.line) = true := by rfl) (hs : starEach (e :: es) X.env = (false, eval e X.env) :: starEach es X.env := by rfl) (hplain : (backTo cpos (starEach es X.env)).any (·.1) = false := by rfl) :
    JE X Wx (.Call (.Attribute o name apos) (e :: es) [] cpos) (fMt T g fo fas) :=
  peI (pe_bm pa slot hty mt_any ho ha hbase hfew hline hs hplain) fun σ H Q ⟨m, env, st, rl, re, p⟩ => by
    refine (seqE rl re p).imp fun x H1 ⟨m1, st1, w, s1, rl1, re1, rv1, p1⟩ => ?_
    split at p1
    · rename_i ht
      refine ⟨tyW_ok rl1 rv1 ht, (seqA rl1 re1 p1).imp fun xs H2 ⟨m2, st2, ws, s2, rl2, re2, rv2, p2⟩ => ?_⟩
      obtain ⟨z, st', e, q⟩ := Po.of2 p2
      exact hm m2 H2 st2 st' w ws z x xs Q rl2 (rv1.mono s2) rv2 e fun m' H' z' s' rl' rv' => q m' H' s' rl' z' rv'
    · exact p1.elim
def fMt0 (T : String) (g : W → List W → Sto → Option (W × Sto)) (fo : FE) : FE := fun env st => (fo env st).bind fun x st1 => if tyW T x st1 then Res.of2 (g x [] st1) else .bad
theorem je_mt0 {T id : String} {name : Str} {apos cpos : Pos} {g : W → List W → Sto → Option (W × Sto)} (hm : MtS X id g) (pa : PlainAttrs T) (slot : Slot T name id) (hty : typeOf (.builtin id) = pure (.type "method_descriptor")) (ho : JE X Wx o fo)
    (hbase : attributeBase o name X.env (eval o X.env) = eval o X.env := by rfl) (hline : (apos.endLine == cpos.line) = true := by rfl) :
    JE X Wx (.Call (.Attribute o name apos) [] [] cpos) (fMt0 T g fo) :=
  peI (pe_bm0 pa slot hty mt_any ho hbase hline) fun σ H Q ⟨m, env, st, rl, re, p⟩ => by
    refine (seqE rl re p).imp fun x H1 ⟨m1, st1, w, s1, rl1, re1, rv1, p1⟩ => ?_
    split at p1
    · rename_i ht
      refine ⟨tyW_ok rl1 rv1 ht, ?_⟩
      obtain ⟨z, st', e, q⟩ := Po.of2 p1
      exact hm m1 H1 st1 st' w [] z x [] Q rl1 rv1 .nil e fun m' H' z' s' rl' rv' => q m' H' s' rl' z' rv'
    · exact p1.elim
/-! append, extend, pop -/
def appW : W → List W → Sto → Option (W × Sto) := fun x ws st => match x, ws with
  | .c n, [w] => (frz1 w st).bind fun p => (match p.2[n]? with
    | some (.lst ds) => if ds.length < LIM then some (.d .none, p.2.set n (.lst (ds ++ [p.1]))) else none
    | _ => none)
  | _, _ => none
theorem ms_append : MtS X "list.append" appW := by
  intro m H st st' x ws w v vs Q rl rv rs e q
  unfold appW at e
  split at e
  · rename_i n w1
    cases rs with
    | cons r1 r2 =>
      cases r2
      cases e1 : frz1 w1 st with
      | none => rw [e1] at e; cases e
      | some p =>
        rw [e1] at e
        simp only [Option.bind_some] at e
        obtain ⟨m1, rl1, s1, d1⟩ := frz1_ok (d := p.1) (st' := p.2) rl r1 e1
        obtain ⟨a, r, k1, k2⟩ := rv.mono s1
        split at e
        · rename_i ds e2
          split at e
          · rename_i hz
            cases e
            obtain ⟨_, xs, k3, k4, k5, k6⟩ := rl1.at k1 e2
            cases k3
            refine ⟨_, mt_append, a, xs, _, k2, rfl, k5, LIM_lt (Nat.le_of_lt (by rw [dpAll_len k6]; exact hz)), ?_⟩
            have hd := dpAll_app k6 (DqAll.cons d1 .nil)
            obtain ⟨rl2, s2⟩ := rl1.write (o := .lst (xs ++ [_])) (c := .lst (ds ++ [p.1])) k1 k4 ⟨a, _, rfl, k4, upd_same, hd⟩
            exact q _ _ _ (s1.trans s2) rl2 .non
          · cases e
        · cases e
  · cases e
def extW : W → List W → Sto → Option (W × Sto) := fun x ws st => match x, ws with
  | .c n, [w] => (viewO w st).bind fun a => (match a with
    | .list es => (match st[n]? with
      | some (.lst ds) => if ds.length + es.length ≤ LIM then some (.d .none, st.set n (.lst (ds ++ es))) else none
      | _ => none)
    | _ => none)
  | _, _ => none
theorem ms_extend : MtS X "list.extend" extW := by
  intro m H st st' x ws w v vs Q rl rv rs e q
  unfold extW at e
  split at e
  · rename_i n w1
    cases rs with
    | cons r1 r2 =>
      cases r2
      cases e1 : viewO w1 st with
      | none => rw [e1] at e; cases e
      | some a =>
        rw [e1] at e
        simp only [Option.bind_some] at e
        obtain ⟨v1, o1⟩ := viewO_of e1
        split at e
        · rename_i es
          obtain ⟨b, ys, hv, h1, h2⟩ := view_listS rl r1 v1 o1
          obtain ⟨a, r, k1, k2⟩ := rv
          split at e
          · rename_i ds e2
            split at e
            · rename_i hz
              cases e
              obtain ⟨_, xs, k3, k4, k5, k6⟩ := rl.at k1 e2
              cases k3
              refine ⟨_, mt_extend, a, b, xs, ys, k2, by rw [hv], k5, h1, LIM_le (by rw [dpAll_len k6, dpAll_len h2]; exact hz), ?_⟩
              obtain ⟨rl2, s2⟩ := rl.write (o := .lst (xs ++ ys)) (c := .lst (ds ++ es)) k1 k4 ⟨a, _, rfl, k4, upd_same, dpAll_app k6 h2⟩
              exact q _ _ _ s2 rl2 .non
            · cases e
          · cases e
        · cases e
  · cases e
/-! texts -/
def stripW : W → List W → Sto → Option (W × Sto) := fun x ws st => match x, ws with
  | .d (.str a), [.d (.str b)] => if a.length ≤ LIM then some (.d (.str (Txt.stripChars a b)), st) else none
  | _, _ => none
theorem ms_strip : MtS X "str.strip" stripW := by
  intro m H st st' x ws w v vs Q rl rv rs e q
  unfold stripW at e
  split at e
  · split at e
    · rename_i hz
      cases e
      cases rs with
      | cons r1 r2 =>
        cases r2
        cases rv
        cases r1
        exact ⟨_, mt_stripChars, _, _, rfl, rfl, LIM_le hz, q m H _ .refl rl (.str _)⟩
    · cases e
  · cases e
theorem dq_strs {K : PySem.W.Frag} {F : Hp} : ∀ ys : List Str, DqAll K F (ys.map V.str) (ys.map PyData.str)
  | [] => .nil
  | i :: r => .cons (.str i) (dq_strs r)
def splitW : W → List W → Sto → Option (W × Sto) := fun x ws st => match x, ws with
  | .d (.str a), [.d (.str b)] => if (b.length == 0) = false ∧ a.length ≤ LIM then some (.d (.list ((Txt.split a b).map PyData.str)), st) else none
  | _, _ => none
theorem ms_split : MtS X "str.split" splitW := by
  intro m H st st' x ws w v vs Q rl rv rs e q
  unfold splitW at e
  split at e
  · split at e
    · rename_i hz
      cases e
      cases rs with
      | cons r1 r2 =>
        cases r2
        cases rv
        cases r1
        refine ⟨_, mt_split, _, _, rfl, rfl, hz.1, ?_, fun p hp => ?_⟩
        · have := hz.2
          rw [sizeLine_eq]
          unfold LIM at this
          omega
        · obtain ⟨rl4, s4⟩ := rl.allocF (o := .lst _) hp
          exact q _ _ _ s4 rl4 (.lst upd_same (dq_strs _))
    · cases e
  · cases e
def joinW : W → List W → Sto → Option (W × Sto) := fun x ws st => match x, ws with
  | .d (.str a), [w] => (match view w st with
    | some (.list ds) => (strsOf ds).bind fun ys => if (ys.map (·.length)).sum + ys.length * a.length ≤ LIM then some (.d (.str (Txt.join a ys)), st) else none
    | _ => none)
  | _, _ => none
theorem ms_join : MtS X "str.join" joinW := by
  intro m H st st' x ws w v vs Q rl rv rs e q
  unfold joinW at e
  split at e
  · split at e
    · rename_i ds e1
      cases rs with
      | cons r1 r2 =>
        cases r2
        cases rv
        obtain ⟨pa, xs, rfl, h1, h2⟩ := view_list rl r1 e1
        cases e3 : strsOf ds with
        | none => rw [e3] at e; cases e
        | some ys =>
          rw [e3] at e
          simp only [Option.bind_some] at e
          split at e
          · rename_i hz
            cases e
            cases strs_v h2 e3
            exact ⟨_, mt_join, _, pa, ys, rfl, rfl, .inl h1, Nat.le_trans hz (by decide), q m H _ .refl rl (.str _)⟩
          · cases e
    · cases e
  · cases e
/-! ### calls of own defs -/
/-- what a def's Lean function promises -/
def spF (K : PySem.W.Frag) (mg : Str → Option Value) (n : Nat) (g : List W → Sto → Res W) : Sp := fun vs H Q E => vs.length = n ∧ ∃ m ws st, Rel K m H st ∧ RVs K m vs ws ∧
  Po K (fun cls d _ H' => E cls d H') (fun c => (mg c).getD .none) [] m H (fun m' H' _ w => ∀ v, RV K m' v w → Q v H') (g ws st)
/-- the def x of the module keeps its Lean function g -/
structure FnG (P : Program) (w : World) (K : PySem.W.Frag) (mg : Str → Option Value) (base : Heap) (k : Nat) (x : Str) (ps : List Str) (g : List W → Sto → Res W) : Prop where
  ex : ∃ f fd, mg x = some (.ref f) ∧ PySem.W.keepIn K (.ref f) = true ∧ Binds K fd ps [] ∧ FnOk P w K mg base (L2.CX P w) k f fd ps (spF K mg ps.length g)
def fCall (g : List W → Sto → Res W) (fas : FA) : FE := fun env st => (fas env st).bind fun ws st1 => g ws st1
theorem je_call {k : Nat} {x : Str} {p : Pos} {ps : List Str} {g : List W → Sto → Res W} (F : FnG X.prog X.w X.K X.mg X.base k x ps g) (hr : Room k X.A) (tk : Takes X Wx) (hn : (e :: es).length = ps.length) (ha : JA X Wx (e :: es) fas) (hl : LenA fas (e :: es).length)
    (hg : Gl X x := by rfl) (hdb : (x == ("__debug__" : Str)) = false := by decide) (he : starEach (e :: es) X.env = (false, eval e X.env) :: starEach es X.env := by rfl) (hpl : (backTo pos (starEach es X.env)).any (·.1) = false := by rfl) :
    JE X Wx (.Call (.Name x p) (e :: es) [] pos) (fCall g fas) := by
  obtain ⟨f, fd, hm, hk, hb, F⟩ := F.ex
  refine peI (pe_callSD F hr hg hm hk hb .nil (fun σ => passAt tk σ) ha hdb he hpl) fun σ H Q ⟨m, env, st, rl, re, p⟩ => ?_
  have p' := p
  unfold fCall at p'
  cases e1 : fas env st with
  | bad => rw [e1] at p'; exact p'.elim
  | ex c st1 =>
    refine ⟨m, env, st, rl, re, ?_⟩
    rw [e1] at p' ⊢
    exact p'
  | ok ws0 st0 =>
  refine ⟨m, env, st, rl, re, ?_⟩
  rw [e1] at p' ⊢
  intro m1 H1 s1 rl1 vs rv1
  refine ⟨?_, m1, ws0, st0, rl1, by rw [List.append_nil]; exact rv1, ?_⟩
  · rw [List.append_nil, rv1.length, hl env st ws0 st0 e1, hn]
  · have p2 : Po X.K Wx (clX X) σ m1 H1 (fun m' H' _ w => ∀ v, RV X.K m' v w → Q v H') (g ws0 st0) := Po.mono (r := g ws0 st0) p' s1 fun _ _ _ _ _ _ q => q
    cases e2 : g ws0 st0 with
    | bad => rw [e2] at p2; exact p2
    | ok w st2 => rw [e2] at p2; exact p2
    | ex c st2 => rw [e2] at p2; exact p2
end
end FL
set_option Elab.async false
set_option linter.all false
set_option maxRecDepth 100000
set_option maxHeartbeats 4000000
namespace FL
open PySem PySem.Spec PyProof.Rows L2
/-! ### statements -/
def PoS (K : PySem.W.Frag) (Wx : WX) (cl : Str → Value) (m : Wd) (H : Hp) (D : Ends) : RS → Prop
  | .bad => False
  | .nx e st' => ∀ m' H' σ', Step m m' H H' → Rel K m' H' st' → RE K m' e σ' → D.nx σ' H'
  | .bk e st' => ∀ m' H' σ', Step m m' H H' → Rel K m' H' st' → RE K m' e σ' → D.bk σ' H'
  | .ct e st' => ∀ m' H' σ', Step m m' H H' → Rel K m' H' st' → RE K m' e σ' → D.ct σ' H'
  | .rt w st' => ∀ m' H' v, Step m m' H H' → Rel K m' H' st' → RV K m' v w → D.rt v H'
  | .ex c e st' => ∀ m' H' σ', Step m m' H H' → Rel K m' H' st' → RE K m' e σ' → Wx (cl c) none σ' H'
def rdS (X : Cx) (Wx : WX) (f : FS) : TS := fun D σ H => ∃ m env st, Rel X.K m H st ∧ RE X.K m env σ ∧ PoS X.K Wx (clX X) m H D (f env st)
abbrev JS (X : Cx) (Wx : WX) (s : Stmt) (f : FS) : Prop := PS X s (rdS X Wx f)
abbrev JB (X : Cx) (Wx : WX) (s : List Stmt) (f : FS) : Prop := PSs X s (rdS X Wx f)
def RS.ofE {α : Type} (r : Res α) (env : Ev) (k : α → Sto → RS) : RS := match r with
  | .bad => .bad
  | .ok a st => k a st
  | .ex c st => .ex c env st
section
variable {X : Cx} {Wx : WX} {m m' : Wd} {H H' : Hp} {st : Sto} {env : Ev} {σ : L2.St} {D : Ends}
theorem PoS.mono {r : RS} (h : PoS X.K Wx (clX X) m H D r) (s : Step m m' H H') : PoS X.K Wx (clX X) m' H' D r := by
  cases r with
  | bad => exact h
  | nx e st => exact fun m2 H2 σ2 s2 => h m2 H2 σ2 (s.trans s2)
  | bk e st => exact fun m2 H2 σ2 s2 => h m2 H2 σ2 (s.trans s2)
  | ct e st => exact fun m2 H2 σ2 s2 => h m2 H2 σ2 (s.trans s2)
  | rt w st => exact fun m2 H2 σ2 s2 => h m2 H2 σ2 (s.trans s2)
  | ex c e st => exact fun m2 H2 σ2 s2 => h m2 H2 σ2 (s.trans s2)
theorem sE {fa : FE} {k : W → Sto → RS} (rl : Rel X.K m H st) (re : RE X.K m env σ) (h : PoS X.K Wx (clX X) m H D (RS.ofE (fa env st) env k)) :
    rdE X Wx fa σ H (fun x H1 => ∃ m1 st1 w, Step m m1 H H1 ∧ Rel X.K m1 H1 st1 ∧ RE X.K m1 env σ ∧ RV X.K m1 x w ∧ PoS X.K Wx (clX X) m1 H1 D (k w st1)) := by
  refine ⟨m, env, st, rl, re, ?_⟩
  cases e : fa env st with
  | bad => rw [e] at h; exact h
  | ok w st1 => rw [e] at h; exact fun m1 H1 s1 r1 v rv => ⟨m1, st1, w, s1, r1, re.mono s1, rv, PoS.mono (r := k w st1) h s1⟩
  | ex c st1 => rw [e] at h; exact fun m1 H1 s1 r1 => h m1 H1 σ s1 r1 (re.mono s1)
theorem sT {fa : FT} {k : Bool → Sto → RS} (rl : Rel X.K m H st) (re : RE X.K m env σ) (h : PoS X.K Wx (clX X) m H D (RS.ofE (fa env st) env k)) :
    rdT X Wx fa σ H (fun b H1 => ∃ m1 st1, Step m m1 H H1 ∧ Rel X.K m1 H1 st1 ∧ RE X.K m1 env σ ∧ PoS X.K Wx (clX X) m1 H1 D (k b st1)) := by
  refine ⟨m, env, st, rl, re, ?_⟩
  cases e : fa env st with
  | bad => rw [e] at h; exact h
  | ok w st1 => rw [e] at h; exact fun m1 H1 s1 r1 => ⟨m1, st1, s1, r1, re.mono s1, PoS.mono (r := k w st1) h s1⟩
  | ex c st1 => rw [e] at h; exact fun m1 H1 s1 r1 => h m1 H1 σ s1 r1 (re.mono s1)
theorem psI {s : Stmt} {t t' : TS} (h : PS X s t) (f : ∀ D σ H, t' D σ H → t D σ H) : PS X s t' := ⟨fun pins s σ H D I q => h.run pins s σ H D I (f D σ H q)⟩
theorem pssI {s : List Stmt} {t t' : TS} (h : PSs X s t) (f : ∀ D σ H, t' D σ H → t D σ H) : PSs X s t' := ⟨fun pins s σ H D I q => h.run pins s σ H D I (f D σ H q)⟩
end
section
variable {X : Cx} {Wx : WX} {e a b c o : Expr} {es : List Expr} {fe fa fb fo : FE} {ft : FT} {fas : FA} {pos : Pos} {s : Stmt} {ss tt : List Stmt} {f g : FS}
def fSkip : FS := fun env st => .nx env st
def fSeq (f g : FS) : FS := fun env st => match f env st with
  | .nx e st1 => g e st1
  | r => r
theorem jb_nil : JB X Wx [] fSkip := pssI pss_nil fun D σ H ⟨m, env, st, rl, re, p⟩ => p m H σ .refl rl re
theorem jb_one (h : JS X Wx s f) : JB X Wx [s] f := pss_one h
theorem jb_cons (h1 : JS X Wx s f) (h2 : JB X Wx ss g) : JB X Wx (s :: ss) (fSeq f g) := pssI (pss_cons h1 h2) fun D σ H ⟨m, env, st, rl, re, p⟩ => by
  refine ⟨m, env, st, rl, re, ?_⟩
  unfold fSeq at p
  cases e : f env st with
  | bad => rw [e] at p; exact p
  | nx e1 st1 => rw [e] at p; exact fun m1 H1 σ1 s1 rl1 re1 => ⟨m1, e1, st1, rl1, re1, PoS.mono (r := g e1 st1) p s1⟩
  | bk e1 st1 => rw [e] at p; exact p
  | ct e1 st1 => rw [e] at p; exact p
  | rt w st1 => rw [e] at p; exact p
  | ex c e1 st1 => rw [e] at p; exact p
theorem js_pass : JS X Wx (.Pass pos) fSkip := psI ps_pass fun D σ H ⟨m, env, st, rl, re, p⟩ => p m H σ .refl rl re
def fBad : FS := fun _ _ => .bad
theorem js_never : JS X Wx s fBad := psI ps_never fun D σ H ⟨m, env, st, rl, re, p⟩ => p
def fEx (fe : FE) : FS := fun env st => RS.ofE (fe env st) env fun _ st1 => .nx env st1
theorem js_expr (he : JE X Wx e fe) (hs : swapsWith e none pos.line X.env = pure false := by rfl) : JS X Wx (.Expr e pos) (fEx fe) := psI (ps_expr he hs) fun D σ H ⟨m, env, st, rl, re, p⟩ =>
  (sE rl re p).imp fun x H1 ⟨m1, st1, w, s1, rl1, re1, rv1, p1⟩ => p1 m1 H1 σ .refl rl1 re1
/-- what is handed back: data (a list that was made is frozen); a cell that is no list as it is -/
def retW (w : W) (st : Sto) : RS := match w with
  | .c n => (match st[n]? with
    | some (.lst ds) => .rt (.d (.list ds)) (st.set n (.fz (.list ds)))
    | some (.fz x) => .rt (.d x) st
    | some _ => .rt (.c n) st
    | none => .bad)
  | w => .rt w st
def fRet (fe : FE) : FS := fun env st => RS.ofE (fe env st) env fun w st1 => retW w st1
theorem js_ret (he : JE X Wx e fe) : JS X Wx (.Return (some e) pos) (fRet fe) := psI (ps_ret he) fun D σ H ⟨m, env, st, rl, re, p⟩ =>
  (sE rl re p).imp fun x H1 ⟨m1, st1, w, s1, rl1, re1, rv1, p1⟩ => by
    unfold retW at p1
    split at p1
    · rename_i n
      split at p1
      · rename_i ds e1
        obtain ⟨a, r, k1, rfl⟩ := rv1
        obtain ⟨m2, rl2, s2, d2⟩ := rl1.freeze k1 e1
        exact p1 m2 H1 _ s2 rl2 d2
      · rename_i ds e1
        obtain ⟨a, r, k1, rfl⟩ := rv1
        obtain ⟨_, _, k3, _, k4⟩ := rl1.at k1 e1
        cases k3
        exact p1 m1 H1 _ .refl rl1 k4
      · exact p1 m1 H1 _ .refl rl1 rv1
      · exact p1.elim
    · exact p1 m1 H1 _ .refl rl1 rv1
def fRetN : FS := fun env st => .rt (.d .none) st
theorem js_retN : JS X Wx (.Return none pos) fRetN := psI ps_retN fun D σ H ⟨m, env, st, rl, re, p⟩ => p m H _ .refl rl .non
def fIfS (ft : FT) (f g : FS) : FS := fun env st => RS.ofE (ft env st) env fun k st1 => if k then f env st1 else g env st1
theorem js_if (hc : JT X Wx c ft) (ha : JB X Wx ss f) (hb : JB X Wx tt g) : JS X Wx (.If c ss tt pos) (fIfS ft f g) := psI (ps_if hc ha hb) fun D σ H ⟨m, env, st, rl, re, p⟩ =>
  (sT rl re p).imp fun k H1 ⟨m1, st1, s1, rl1, re1, p1⟩ => by
    cases k with
    | true => exact ⟨m1, env, st1, rl1, re1, p1⟩
    | false => exact ⟨m1, env, st1, rl1, re1, p1⟩
/-! targets -/
abbrev FG := W → Ev → Sto → Option (Ev × Sto)
def rdG (X : Cx) (g : FG) : TG := fun v σ H Q => ∃ m env st w e' st', Rel X.K m H st ∧ RE X.K m env σ ∧ RV X.K m v w ∧ g w env st = some (e', st') ∧ ∀ m' H' σ', Step m m' H H' → Rel X.K m' H' st' → RE X.K m' e' σ' → Q σ' H'
abbrev JG (X : Cx) (t : Expr) (g : FG) : Prop := PG X t (rdG X g)
theorem pgI {t : Expr} {g g' : TG} (h : PG X t g) (f : ∀ v σ H Q, g' v σ H Q → g v σ H Q) : PG X t g' := ⟨fun pins s σ H v u Q I r q => h.run pins s σ H v u Q I r (f v σ H Q q)⟩
def gN (i : Nat) : FG := fun w env st => some (env.set i (some w), st)
theorem jg_name {i : Nat} {x : Str} (hN : X.N.Nodup) (hi : X.N[i]? = some x := by rfl) (hx : Loc X.env.scope x := by first | exact Or.inl rfl | exact Or.inr rfl) (hf : X.fn x = true ∨ X.env.scope.names.lookup x = some .local := by first | exact .inl rfl | exact .inr rfl) : JG X (.Name x pos) (gN i) :=
  pgI (pg_name hN hi hx hf) fun v σ H Q ⟨m, env, st, w, e', st', rl, re, rv, h1, h2⟩ => by
    cases h1
    exact h2 m H _ .refl rl (re.set rv)
abbrev FGs := List W → Ev → Sto → Option (Ev × Sto)
def rdGs (X : Cx) (g : FGs) : TGs := fun vs σ H Q => ∃ m env st ws e' st', Rel X.K m H st ∧ RE X.K m env σ ∧ RVs X.K m vs ws ∧ g ws env st = some (e', st') ∧ ∀ m' H' σ', Step m m' H H' → Rel X.K m' H' st' → RE X.K m' e' σ' → Q σ' H'
abbrev JGs (X : Cx) (t : List Expr) (g : FGs) : Prop := PGs X t (rdGs X g)
theorem pgsI {t : List Expr} {g g' : TGs} (h : PGs X t g) (f : ∀ v σ H Q, g' v σ H Q → g v σ H Q) : PGs X t g' := ⟨fun pins s σ H v u Q I r q => h.run pins s σ H v u Q I r (f v σ H Q q)⟩
def gsNil : FGs := fun ws env st => match ws with
  | [] => some (env, st)
  | _ => none
def gsCons (g : FG) (gs : FGs) : FGs := fun ws env st => match ws with
  | w :: r => (g w env st).bind fun p => gs r p.1 p.2
  | [] => none
theorem jgs_nil : JGs X [] gsNil := pgsI pgs_nil fun v σ H Q ⟨m, env, st, w, e', st', rl, re, rv, h1, h2⟩ => by
  unfold gsNil at h1
  split at h1
  · cases h1
    cases rv
    exact ⟨rfl, h2 m H σ .refl rl re⟩
  · cases h1
theorem jgs_cons {t : Expr} {ts : List Expr} {gt : FG} {gs : FGs} (h1 : JG X t gt) (h2 : JGs X ts gs) (hs : (assignEach (t :: ts) X.env).map (·.2) = assign t X.env :: (assignEach ts X.env).map (·.2) := by rfl) : JGs X (t :: ts) (gsCons gt gs) :=
  pgsI (pgs_cons h1 h2 hs) fun v σ H Q ⟨m, env, st, ws, e', st', rl, re, rv, k1, k2⟩ => by
    unfold gsCons at k1
    split at k1
    · rename_i w r
      cases rv with
      | cons r1 r2 =>
        cases e1 : gt w env st with
        | none => rw [e1] at k1; cases k1
        | some p =>
          rw [e1] at k1
          simp only [Option.bind_some] at k1
          refine ⟨_, _, rfl, m, env, st, w, p.1, p.2, rl, re, r1, e1, fun m1 H1 σ1 s1 rl1 re1 => ?_⟩
          exact ⟨m1, p.1, p.2, r, e', st', rl1, re1, r2.mono s1, k1, fun m2 H2 σ2 s2 => k2 m2 H2 σ2 (s1.trans s2)⟩
    · cases k1
def gTup (n : Nat) (gs : FGs) : FG := fun w env st => match view w st with
  | some (.tuple ds) => if ds.length = n then gs (ds.map W.d) env st else none
  | _ => none
theorem rvs_of {K : PySem.W.Frag} {m : Wd} : ∀ {ds : List PyData} {xs : List V}, DqAll K m.F xs ds → RVs K m xs (ds.map W.d)
  | [], _, h => by cases h; exact .nil
  | _ :: ds, _, h => by
    cases h with
    | cons h1 h2 => exact .cons h1 (rvs_of h2)
theorem jg_tup {k : Nat} {gs : FGs} {n : Nat} (hc : X.calm = true) (h : JGs X es gs) (hn : (assignEach es X.env).length = n := by rfl) (hst : (assignEach es X.env).findIdx? (·.1) = none := by rfl) : JG X (.Tuple es k pos) (gTup n gs) :=
  pgI (pg_tup hc h hn hst) fun v σ H Q ⟨m, env, st, w, e', st', rl, re, rv, k1, k2⟩ => by
    unfold gTup at k1
    split at k1
    · rename_i ds e1
      split at k1
      · rename_i hl
        obtain ⟨a, xs, rfl, h1, h2⟩ := view_tup rl rv e1
        exact ⟨a, xs, rfl, h1, by rw [dpAll_len h2]; exact hl, m, env, st, _, e', st', rl, re, rvs_of h2, k1, k2⟩
      · cases k1
    · cases k1
def RS.ofG (o : Option (Ev × Sto)) : RS := match o with
  | some p => .nx p.1 p.2
  | none => .bad
def fAsg (fe : FE) (g : FG) : FS := fun env st => RS.ofE (fe env st) env fun w st1 => RS.ofG (g w env st1)
theorem asg_rd {g : FG} {D : Ends} {σ : L2.St} {H : Hp} (h : rdS X Wx (fAsg fe g) D σ H) : tAsg (rdE X Wx fe) (rdG X g) D σ H := by
  obtain ⟨m, env, st, rl, re, p⟩ := h
  refine (sE rl re p).imp fun x H1 ⟨m1, st1, w, s1, rl1, re1, rv1, p1⟩ => ?_
  cases e : g w env st1 with
  | none => rw [e] at p1; exact p1.elim
  | some q => rw [e] at p1; exact ⟨m1, env, st1, w, q.1, q.2, rl1, re1, rv1, e, p1⟩
theorem js_asg {tg : Expr} {g : FG} (he : JE X Wx e fe) (hg : JG X tg g) (hs : swapsWithSole [tg] e pos.line X.env = pure false := by rfl) (hw : swappedStores [tg] e X.env = pure none := by rfl)
    (h1 : (assignEach [tg] X.env).map (·.2) = [assign tg X.env] := by rfl) : JS X Wx (.Assign [tg] e pos) (fAsg fe g) := psI (ps_asg he hg hs hw h1) fun D σ H h => asg_rd h
theorem gN_rd {i : Nat} {v : V} {σ : L2.St} {H : Hp} {Q : L2.St → Hp → Prop} (h : rdG X (gN i) v σ H Q) : gName i v σ H Q := by
  obtain ⟨m, env, st, w, e', st', rl, re, rv, h1, h2⟩ := h
  cases h1
  exact h2 m H _ .refl rl (re.set rv)
theorem js_set {i : Nat} {x : Str} {pos' : Pos} (hN : X.N.Nodup) (he : JE X Wx e fe) (hi : X.N[i]? = some x := by rfl) (hx : Loc X.env.scope x := by first | exact Or.inl rfl | exact Or.inr rfl) (hs : swapsWith e (some (.Name x pos')) pos.line X.env = pure false := by rfl) (hf : X.fn x = true ∨ X.env.scope.names.lookup x = some .local := by first | exact .inl rfl | exact .inr rfl) :
    JS X Wx (.Assign [.Name x pos'] e pos) (fAsg fe (gN i)) := psI (ps_set hN hi hx he hs hf) fun D σ H h => (asg_rd h).imp fun v H' q => gN_rd q
/-! o[i] = e on a list -/
def setLW (x y w : W) (st : Sto) : Option Sto := match x, view y st with
  | .c n, some (.int i) => (frz1 w st).bind fun p => (match p.2[n]? with
    | some (.lst ds) => (ixN ds.length i).map fun j => p.2.set n (.lst (ds.set j p.1))
    | _ => none)
  | _, _ => none
def gSubL (fo fi : FE) : FG := fun w env st => match fo env st with
  | .ok x st1 => (match fi env st1 with
    | .ok y st2 => (setLW x y w st2).map fun st3 => (env, st3)
    | _ => none)
  | _ => none
theorem jg_subL {i : Expr} {fi : FE} (ho : JE X.nox (fun _ _ _ _ => False) o fo) (hi : JE X.nox (fun _ _ _ _ => False) i fi)
    (ha : ∀ v, assign (.Subscript o i pos) X.env v = (do
      let ov ← holding [v] (eval o X.env)
      let iv ← holding [v, ov] (eval i X.env)
      standAt pos
      holding [v, ov, iv] (setItem ov iv v)
      release [v, ov, iv] []) := by intro _; rfl) : JG X (.Subscript o i pos) (gSubL fo fi) :=
  pgI (pg_sub ho.nox hi.nox set_list ha) fun v σ H Q ⟨m, env, st, w, e', st', rl, re, rv, k1, k2⟩ => by
    unfold gSubL at k1
    split at k1
    · rename_i x st1 e1
      split at k1
      · rename_i y st2 e2
        refine ⟨m, env, st, rl, re, ?_⟩
        rw [e1]
        intro m1 H1 s1 rl1 ov rov
        refine ⟨m1, env, st1, rl1, re.mono s1, ?_⟩
        rw [e2]
        intro m2 H2 s2 rl2 iv riv
        cases e3 : setLW x y w st2 with
        | none => rw [e3] at k1; cases k1
        | some st3 =>
          rw [e3] at k1
          cases k1
          unfold setLW at e3
          split at e3
          · rename_i n i hi
            cases view_int rl2 riv hi
            cases e4 : frz1 w st2 with
            | none => rw [e4] at e3; cases e3
            | some p =>
              rw [e4] at e3
              simp only [Option.bind_some] at e3
              obtain ⟨m3, rl3, s3, d3⟩ := frz1_ok (d := p.1) (st' := p.2) rl2 ((rv.mono s1).mono s2) e4
              obtain ⟨a, r, k3, k4⟩ := (rov.mono s2).mono s3
              split at e3
              · rename_i ds e5
                cases e6 : ixN ds.length i with
                | none => rw [e6] at e3; cases e3
                | some j =>
                  rw [e6] at e3
                  cases e3
                  obtain ⟨_, xs, k5, k6, k7, k8⟩ := rl3.at k3 e5
                  cases k5
                  refine ⟨a, xs, i, j, k4, rfl, k7, by rw [dpAll_len k8]; exact e6, ?_⟩
                  obtain ⟨rl4, s4⟩ := rl3.write (o := .lst (xs.set j v)) (c := .lst (ds.set j p.1)) k3 k6 ⟨a, _, rfl, k6, upd_same, dpAll_set j k8 d3⟩
                  exact k2 m3 _ σ (((s1.trans s2).trans s3).trans s4) rl4 (re.mono ((s1.trans s2).trans (s3.trans s4)))
              · cases e3
          · cases e3
      · cases k1
    · cases k1
/-! ### while -/
def fWhile : Nat → FT → FS → FS
  | 0, _, _ => fun _ _ => .bad
  | n + 1, ft, fb => fun env st => RS.ofE (ft env st) env fun k st1 => if k then (match fb env st1 with
    | .nx e st2 => fWhile n ft fb e st2
    | .ct e st2 => fWhile n ft fb e st2
    | .bk e st2 => .nx e st2
    | r => r) else .nx env st1
theorem js_while (n : Nat) (hp : PassesOwn (model X.prog X.w) X.A X.env X.xe) (hc : JT X Wx c ft) (hb : JB X Wx ss f) : JS X Wx (.While c ss [] pos) (fWhile n ft f) := psI (ps_while hp hc hb) fun D σ H ⟨m, env, st, rl, re, p⟩ => by
  refine ⟨fun k σ H => ∃ m env st, Rel X.K m H st ∧ RE X.K m env σ ∧ PoS X.K Wx (clX X) m H D (fWhile k ft f env st), ⟨n, m, env, st, rl, re, p⟩, ?_⟩
  rintro k σ H ⟨m, env, st, rl, re, p⟩
  cases k with
  | zero => exact p.elim
  | succ k =>
    refine (sT rl re p).imp fun b H1 ⟨m1, st1, s1, rl1, re1, p1⟩ => ?_
    cases b with
    | false => exact p1 m1 H1 σ .refl rl1 re1
    | true =>
      rw [if_pos rfl] at p1 ⊢
      refine ⟨fun σ' H' => ∃ m env st, Rel X.K m H' st ∧ RE X.K m env σ' ∧ PoS X.K Wx (clX X) m H' D (fWhile k ft f env st), fun σ' H' h => ⟨k, Nat.lt_succ_self _, h⟩, m1, env, st1, rl1, re1, ?_⟩
      cases e : f env st1 with
      | bad => rw [e] at p1; exact p1
      | nx e2 st2 => rw [e] at p1; exact fun m2 H2 σ2 s2 rl2 re2 => ⟨m2, e2, st2, rl2, re2, PoS.mono (r := fWhile k ft f e2 st2) p1 s2⟩
      | ct e2 st2 => rw [e] at p1; exact fun m2 H2 σ2 s2 rl2 re2 => ⟨m2, e2, st2, rl2, re2, PoS.mono (r := fWhile k ft f e2 st2) p1 s2⟩
      | bk e2 st2 => rw [e] at p1; exact p1
      | rt w st2 => rw [e] at p1; exact p1
      | ex c e2 st2 => rw [e] at p1; exact p1
/-! ### what is walked -/
abbrev FI := Ev → Sto → Res (List PyData)
structure ItOk (K : PySem.W.Frag) (m : Wd) (J : It) (ds : List PyData) : Prop where
  go : ∀ (m1 : Wd) (H1 : Hp) (st1 : Sto), Same m.F m1.F → Rel K m1 H1 st1 → ∀ i d, ds[i]? = some d → J.go i H1 ∧ ∀ x H2, J.yld i H1 x H2 → ∃ m2, m2.ι = m1.ι ∧ Step m1 m2 H1 H2 ∧ Rel K m2 H2 st1 ∧ Dq K m2.F x d
  stop : ∀ (m1 : Wd) (H1 : Hp) (st1 : Sto), Same m.F m1.F → Rel K m1 H1 st1 → ∀ i, ds[i]? = none → J.stop i H1
def rdI (X : Cx) (Wx : WX) (f : FI) : TI := fun σ H R => ∃ m env st, Rel X.K m H st ∧ RE X.K m env σ ∧ Po X.K Wx (clX X) σ m H (fun m' H' _ ds => ∀ J, ItOk X.K m' J ds → R J H') (f env st)
abbrev JI (X : Cx) (Wx : WX) (tg it : Expr) (f : FI) : Prop := PI X tg it (rdI X Wx f)
theorem piI {tg it : Expr} {w w' : TI} (h : PI X tg it w) (f : ∀ σ H R, w' σ H R → w σ H R) : PI X tg it w' := ⟨fun pins s σ H R I q => h.run pins s σ H R I (f σ H R q)⟩
theorem itl_ok {K : PySem.W.Frag} {m : Wd} {a : Addr} {xs : List V} {ds : List PyData} (h1 : m.F a = some (.lst xs)) (h2 : DqAll K m.F xs ds) : ItOk K m (Itl K a) ds where
  go := fun m1 H1 st1 sm rl i d hd => by
    obtain ⟨x, h3, h4⟩ := dpAll_get h2 hd
    have h5 : SqL K H1 a xs := SqL.of (rl.same _ _ (sm _ _ h1))
    exact ⟨⟨xs, x, h5, h3⟩, fun y H2 ⟨e, hy⟩ => by
      subst e
      have : some y = some x := (hy xs h5).symm.trans h3
      cases this
      exact ⟨m1, rfl, .refl, rl, dp_same sm h4⟩⟩
  stop := fun m1 H1 st1 sm rl i hd => ⟨xs, SqL.of (rl.same _ _ (sm _ _ h1)), by rw [dpAll_len h2]; exact List.getElem?_eq_none_iff.mp hd⟩
theorem sqT_inj {K : PySem.W.Frag} {H : Hp} {a : Addr} {xs ys : List V} (h1 : SqT K H a xs) (h2 : SqT K H a ys) (hk : ∀ o, K.lookup a = some o → H a = none) : xs = ys := by
  rcases h1 with h1 | ⟨o, its, n, k1, k2, k3, k4, k5⟩
  · rcases h2 with h2 | ⟨o, its, n, k1, k2, k3, k4, k5⟩
    · rcases h1 with h1 | ⟨o1, h1⟩ <;> rcases h2 with h2 | ⟨o2, h2⟩ <;> rw [h1] at h2 <;> cases h2 <;> rfl
    · have := hk o k1
      rcases h1 with h1 | ⟨o1, h1⟩ <;> rw [h1] at this <;> cases this
  · rcases h2 with h2 | ⟨o', its', n', k1', k2', k3', k4', k5'⟩
    · have := hk o k1
      rcases h2 with h2 | ⟨o1, h2⟩ <;> rw [h2] at this <;> cases this
    · rw [k1] at k1'
      cases k1'
      rw [k3] at k3'
      cases k3'
      exact k5.inj k5'
end
end FL
set_option Elab.async false
set_option linter.all false
set_option maxRecDepth 100000
set_option maxHeartbeats 4000000
namespace FL
open PySem PySem.Spec PyProof.Rows L2
section
variable {K : PySem.W.Frag} {m : Wd} {a b : Addr} {xs ys : List V} {ds es : List PyData}
theorem itt_ok (h1 : SqT K m.F a xs) (h2 : DqAll K m.F xs ds) : ItOk K m (Itt K a) ds where
  go := fun m1 H1 st1 sm rl i d hd => by
    obtain ⟨x, h3, h4⟩ := dpAll_get h2 hd
    have h5 : SqT K H1 a xs := sqt_same rl.same (sqt_same sm h1)
    exact ⟨⟨xs, x, h5, h3⟩, fun y H2 ⟨e, hy⟩ => by
      subst e
      have : some y = some x := (hy xs h5).symm.trans h3
      cases this
      exact ⟨m1, rfl, .refl, rl, dp_same sm h4⟩⟩
  stop := fun m1 H1 st1 sm rl i hd => ⟨xs, sqt_same rl.same (sqt_same sm h1), by rw [dpAll_len h2]; exact List.getElem?_eq_none_iff.mp hd⟩
/-- pairs (i, d) -/
def enumD : Nat → List PyData → List PyData
  | _, [] => []
  | i, d :: r => .tuple [.int (i : Nat), d] :: enumD (i + 1) r
theorem enumD_get : ∀ (ds : List PyData) (k i : Nat), (enumD k ds)[i]? = (ds[i]?).map fun d => .tuple [.int ((k + i : Nat) : Int), d]
  | [], k, i => by simp [enumD]
  | d :: r, k, 0 => by simp [enumD]
  | d :: r, k, i + 1 => by
    rw [enumD, List.getElem?_cons_succ, enumD_get r (k + 1) i, List.getElem?_cons_succ]
    have : k + 1 + i = k + (i + 1) := by omega
    rw [this]
theorem new_tup {m1 : Wd} {H1 : Hp} {st1 : Sto} {T : Addr} {vs : List V} {fs : List PyData} (rl : Rel K m1 H1 st1) (hT : H1 T = none) (hd : DqAll K m1.F vs fs) :
    ∃ m2, m2.ι = m1.ι ∧ Step m1 m2 H1 (upd H1 T (.tup vs)) ∧ Rel K m2 (upd H1 T (.tup vs)) st1 ∧ Dq K m2.F (.ref T) (.tuple fs) := by
  obtain ⟨rl3, s3⟩ := rl.allocF (o := .tup vs) hT
  exact ⟨⟨m1.ι, upd m1.F T (.tup vs)⟩, rfl, s3, rl3, .tup (SqT.of upd_same) (dpAll_same s3.fro hd)⟩
theorem ite_ok (h1 : m.F a = some (.lst xs)) (h2 : DqAll K m.F xs ds) : ItOk K m (Ite K a) (enumD 0 ds) where
  go := fun m1 H1 st1 sm rl i d hd => by
    rw [enumD_get] at hd
    cases e1 : ds[i]? with
    | none => rw [e1] at hd; cases hd
    | some d0 =>
      rw [e1] at hd
      cases hd
      obtain ⟨x, h3, h4⟩ := dpAll_get h2 e1
      have h5 : SqL K H1 a xs := SqL.of (rl.same _ _ (sm _ _ h1))
      refine ⟨⟨xs, x, h5, h3⟩, fun y H2 ⟨T, x', hv, hT, hH, hy⟩ => ?_⟩
      have : some x' = some x := (hy xs h5).symm.trans h3
      cases this
      subst hv hH
      simp only [Nat.zero_add]
      exact new_tup rl hT (.cons (.int _) (.cons (dp_same sm h4) .nil))
  stop := fun m1 H1 st1 sm rl i hd => ⟨xs, SqL.of (rl.same _ _ (sm _ _ h1)), by
    rw [enumD_get, Option.map_eq_none_iff] at hd
    rw [dpAll_len h2]; exact List.getElem?_eq_none_iff.mp hd⟩
theorem iteT_ok (h1 : SqT K m.F a xs) (h2 : DqAll K m.F xs ds) : ItOk K m (IteT K a) (enumD 0 ds) where
  go := fun m1 H1 st1 sm rl i d hd => by
    rw [enumD_get] at hd
    cases e1 : ds[i]? with
    | none => rw [e1] at hd; cases hd
    | some d0 =>
      rw [e1] at hd
      cases hd
      obtain ⟨x, h3, h4⟩ := dpAll_get h2 e1
      have h5 : SqT K H1 a xs := sqt_same rl.same (sqt_same sm h1)
      refine ⟨⟨xs, x, h5, h3⟩, fun y H2 ⟨T, x', hv, hT, hH, hy⟩ => ?_⟩
      have : some x' = some x := (hy xs h5).symm.trans h3
      cases this
      subst hv hH
      simp only [Nat.zero_add]
      exact new_tup rl hT (.cons (.int _) (.cons (dp_same sm h4) .nil))
  stop := fun m1 H1 st1 sm rl i hd => ⟨xs, sqt_same rl.same (sqt_same sm h1), by
    rw [enumD_get, Option.map_eq_none_iff] at hd
    rw [dpAll_len h2]; exact List.getElem?_eq_none_iff.mp hd⟩
/-- pairs of two -/
def zipD : List PyData → List PyData → List PyData
  | d :: r, e :: s => .tuple [d, e] :: zipD r s
  | _, _ => []
theorem zipD_get : ∀ (ds es : List PyData) (i : Nat) (z : PyData), (zipD ds es)[i]? = some z → ∃ d e, ds[i]? = some d ∧ es[i]? = some e ∧ z = .tuple [d, e]
  | [], _, i, z, h => by simp [zipD] at h
  | _ :: _, [], i, z, h => by simp [zipD] at h
  | d :: r, e :: s, 0, z, h => by simp [zipD] at h; exact ⟨d, e, rfl, rfl, h.symm⟩
  | d :: r, e :: s, i + 1, z, h => by
    rw [zipD, List.getElem?_cons_succ] at h
    obtain ⟨d', e', h1, h2, h3⟩ := zipD_get r s i z h
    exact ⟨d', e', by simpa using h1, by simpa using h2, h3⟩
theorem zipD_none : ∀ (ds es : List PyData) (i : Nat), (zipD ds es)[i]? = none → ds.length ≤ i ∨ es.length ≤ i
  | [], _, i, h => .inl (Nat.zero_le _)
  | _ :: _, [], i, h => .inr (Nat.zero_le _)
  | d :: r, e :: s, 0, h => by simp [zipD] at h
  | d :: r, e :: s, i + 1, h => by
    rw [zipD, List.getElem?_cons_succ] at h
    rcases zipD_none r s i h with z | z
    · exact .inl (by simp; omega)
    · exact .inr (by simp; omega)
theorem itz_ok (h1 : m.F a = some (.lst xs)) (h2 : DqAll K m.F xs ds) (h1' : m.F b = some (.lst ys)) (h2' : DqAll K m.F ys es) : ItOk K m (Itz K a b) (zipD ds es) where
  go := fun m1 H1 st1 sm rl i d hd => by
    obtain ⟨d0, e0, e1, e2, rfl⟩ := zipD_get ds es i d hd
    obtain ⟨x, h3, h4⟩ := dpAll_get h2 e1
    obtain ⟨y, h3', h4'⟩ := dpAll_get h2' e2
    have h5 : SqL K H1 a xs := SqL.of (rl.same _ _ (sm _ _ h1))
    have h5' : SqL K H1 b ys := SqL.of (rl.same _ _ (sm _ _ h1'))
    refine ⟨⟨xs, ys, x, y, h5, h5', h3, h3'⟩, fun v H2 ⟨T, x', y', hv, hT, hH, hx, hy⟩ => ?_⟩
    have q1 : some x' = some x := (hx xs h5).symm.trans h3
    have q2 : some y' = some y := (hy ys h5').symm.trans h3'
    cases q1
    cases q2
    subst hv hH
    exact new_tup rl hT (.cons (dp_same sm h4) (.cons (dp_same sm h4') .nil))
  stop := fun m1 H1 st1 sm rl i hd => ⟨xs, ys, SqL.of (rl.same _ _ (sm _ _ h1)), SqL.of (rl.same _ _ (sm _ _ h1')), by
    rw [dpAll_len h2, dpAll_len h2']; exact zipD_none ds es i hd⟩
theorem itzT_ok (h1 : SqT K m.F a xs) (h2 : DqAll K m.F xs ds) (h1' : SqT K m.F b ys) (h2' : DqAll K m.F ys es) : ItOk K m (RZ.ItzT K a b) (zipD ds es) where
  go := fun m1 H1 st1 sm rl i d hd => by
    obtain ⟨d0, e0, e1, e2, rfl⟩ := zipD_get ds es i d hd
    obtain ⟨x, h3, h4⟩ := dpAll_get h2 e1
    obtain ⟨y, h3', h4'⟩ := dpAll_get h2' e2
    have h5 : SqT K H1 a xs := sqt_same rl.same (sqt_same sm h1)
    have h5' : SqT K H1 b ys := sqt_same rl.same (sqt_same sm h1')
    refine ⟨⟨xs, ys, x, y, h5, h5', h3, h3'⟩, fun v H2 ⟨T, x', y', hv, hT, hH, hx, hy⟩ => ?_⟩
    have q1 : some x' = some x := (hx xs h5).symm.trans h3
    have q2 : some y' = some y := (hy ys h5').symm.trans h3'
    cases q1
    cases q2
    subst hv hH
    exact new_tup rl hT (.cons (dp_same sm h4) (.cons (dp_same sm h4') .nil))
  stop := fun m1 H1 st1 sm rl i hd => ⟨xs, ys, sqt_same rl.same (sqt_same sm h1), sqt_same rl.same (sqt_same sm h1'), by
    rw [dpAll_len h2, dpAll_len h2']; exact zipD_none ds es i hd⟩
def rangeD (lo : Int) : Nat → List PyData
  | 0 => []
  | n + 1 => .int lo :: rangeD (lo + 1) n
theorem rangeD_get : ∀ (n : Nat) (lo : Int) (i : Nat), (rangeD lo n)[i]? = if i < n then some (.int (lo + i)) else none
  | 0, lo, i => by simp [rangeD]
  | n + 1, lo, 0 => by simp [rangeD]
  | n + 1, lo, i + 1 => by
    rw [rangeD, List.getElem?_cons_succ, rangeD_get n (lo + 1) i]
    by_cases h : i < n
    · rw [if_pos h, if_pos (by omega)]
      congr 2
      omega
    · rw [if_neg h, if_neg (by omega)]
theorem itr_ok (lo : Int) (n : Nat) : ItOk K m (Itr lo n) (rangeD lo n) where
  go := fun m1 H1 st1 sm rl i d hd => by
    rw [rangeD_get] at hd
    split at hd
    · rename_i hl
      cases hd
      exact ⟨hl, fun x H2 ⟨e1, e2⟩ => by subst e1 e2; exact ⟨m1, rfl, .refl, rl, .int _⟩⟩
    · cases hd
  stop := fun m1 H1 st1 sm rl i hd => by
    rw [rangeD_get] at hd
    split at hd
    · cases hd
    · rename_i hl; exact Nat.le_of_not_lt hl
end
section
variable {X : Cx} {Wx : WX} {tg e e2 a : Expr} {fe fa fb : FE} {fas : FA} {pos p : Pos}
theorem seqI {m : Wd} {env : Ev} {st : Sto} {σ : L2.St} {H : Hp} {fi : FI} {R : It → Hp → Prop} (h : rdI X Wx fi σ H R) : ∃ m env st, Rel X.K m H st ∧ RE X.K m env σ ∧ Po X.K Wx (clX X) σ m H (fun m' H' _ ds => ∀ J, ItOk X.K m' J ds → R J H') (fi env st) := h
/-- one value as data: its items -/
def seqOf (x : PyData) : Option (List PyData) := match x with
  | .list ds => some ds
  | .tuple ds => some ds
  | _ => none
def fItems (fe : FE) : FI := fun env st => (fe env st).bind fun w st1 => Res.of2 ((frz1 w st1).bind fun q => (seqOf q.1).map fun ds => (ds, q.2))
theorem ji_seq (he : JE X Wx e fe) : JI X Wx tg e (fItems fe) := piI (pi_seq he) fun σ H R ⟨m, env, st, rl, re, p⟩ =>
  (seqE rl re p).imp fun x H1 ⟨m1, st1, w, s1, rl1, re1, rv1, p1⟩ => by
    obtain ⟨ds, st', e, q⟩ := Po.of2 p1
    cases e1 : frz1 w st1 with
    | none => rw [e1] at e; cases e
    | some pp =>
      rw [e1] at e
      simp only [Option.bind_some] at e
      obtain ⟨m2, rl2, s2, d2⟩ := frz1_ok (d := pp.1) (st' := pp.2) rl1 rv1 e1
      cases e2 : seqOf pp.1 with
      | none => rw [e2] at e; cases e
      | some ds' =>
        rw [e2] at e
        cases e
        unfold seqOf at e2
        split at e2
        · rename_i e3
          cases e2
          rw [e3] at d2
          cases d2 with
          | lst h1 h2 => exact ⟨_, _, rfl, .inl ⟨SqL.of (rl2.same _ _ h1), q m2 H1 s2 rl2 _ (itl_ok h1 h2)⟩⟩
        · rename_i e3
          cases e2
          rw [e3] at d2
          cases d2 with
          | tup h1 h2 => exact ⟨_, _, rfl, .inr ⟨sqt_same rl2.same h1, q m2 H1 s2 rl2 _ (itt_ok h1 h2)⟩⟩
        · cases e2
def one1 {α : Type} (ws : List W) (k : W → Option α) : Option α := match ws with
  | [w] => k w
  | _ => none
def fEnum (fas : FA) : FI := fun env st => (fas env st).bind fun ws st1 => Res.of2 (one1 ws fun w => (frz1 w st1).bind fun q => (seqOf q.1).map fun ds => (enumD 0 ds, q.2))
theorem ji_enum {tpos : Pos} {elts : List Expr} {kk : Nat} (hm : X.mg "enumerate" = none) (ha : JA X Wx [e] fas) (hg : Gl X "enumerate" := by rfl) (hs : starEach [e] X.env = [(false, eval e X.env)] := by rfl) : JI X Wx (.Tuple elts kk tpos) (.Call (.Name "enumerate" p) [e] [] pos) (fEnum fas) :=
  piI (pi_enumA hg hm ha hs) fun σ H R ⟨m, env, st, rl, re, p⟩ =>
  (seqA rl re p).imp fun xs H1 ⟨m1, st1, ws, s1, rl1, re1, rv1, p1⟩ => by
    obtain ⟨ds, st', e, q⟩ := Po.of2 p1
    unfold one1 at e
    split at e
    · rename_i w
      have e : ((frz1 w st1).bind fun q => Option.map (fun ds => (enumD 0 ds, q.snd)) (seqOf q.fst)) = some (ds, st') := e
      cases rv1 with
      | cons r1 r2 =>
        cases r2
        cases e1 : frz1 w st1 with
        | none => rw [e1] at e; cases e
        | some pp =>
          rw [e1] at e
          simp only [Option.bind_some] at e
          obtain ⟨m2, rl2, s2, d2⟩ := frz1_ok (d := pp.1) (st' := pp.2) rl1 r1 e1
          cases e2 : seqOf pp.1 with
          | none => rw [e2] at e; cases e
          | some ds' =>
            rw [e2] at e
            cases e
            unfold seqOf at e2
            split at e2
            · rename_i e3
              cases e2
              rw [e3] at d2
              cases d2 with
              | lst h1 h2 => exact ⟨_, _, rfl, .inl ⟨SqL.of (rl2.same _ _ h1), q m2 H1 s2 rl2 _ (ite_ok h1 h2)⟩⟩
            · rename_i e3
              cases e2
              rw [e3] at d2
              cases d2 with
              | tup h1 h2 => exact ⟨_, _, rfl, .inr ⟨sqt_same rl2.same h1, q m2 H1 s2 rl2 _ (iteT_ok h1 h2)⟩⟩
            · cases e2
    · cases e
def zipOf : PyData → PyData → Option (List PyData)
  | .list ds, .list es => some (zipD ds es)
  | .tuple ds, .tuple es => some (zipD ds es)
  | _, _ => none
def fZip (fas : FA) : FI := fun env st => (fas env st).bind fun ws st1 => Res.of2 ((frzAll ws st1).bind fun q => (match q.1 with
  | [x, y] => (zipOf x y).map fun ds => (ds, q.2)
  | _ => none))
theorem ji_zip {tpos : Pos} {elts : List Expr} {kk : Nat} (hm : X.mg "zip" = none) (ha : JA X Wx [e, e2] fas) (hg : Gl X "zip" := by rfl) (hs : starEach [e, e2] X.env = (false, eval e X.env) :: starEach [e2] X.env := by rfl) (hpl : (backTo pos (starEach [e2] X.env)).any (·.1) = false := by rfl) : JI X Wx (.Tuple elts kk tpos) (.Call (.Name "zip" p) [e, e2] [] pos) (fZip fas) :=
  piI (RZ.pi_zipA hg hm ha hs hpl) fun σ H R ⟨m, env, st, rl, re, p⟩ =>
  (seqA rl re p).imp fun xs H1 ⟨m1, st1, ws, s1, rl1, re1, rv1, p1⟩ => by
    obtain ⟨ds, st', e, q⟩ := Po.of2 p1
    cases e1 : frzAll ws st1 with
    | none => rw [e1] at e; cases e
    | some pp =>
      rw [e1] at e
      simp only [Option.bind_some] at e
      obtain ⟨m2, rl2, s2, d2⟩ := frzAll_ok rl1 rv1 e1
      split at e
      · rename_i x y e3
        rw [e3] at d2
        cases d2 with
        | cons dx d2 =>
          cases d2 with
          | cons dy d2 =>
            cases d2
            cases e4 : zipOf x y with
            | none => rw [e4] at e; cases e
            | some ds' =>
              rw [e4] at e
              cases e
              unfold zipOf at e4
              split at e4
              · cases e4
                cases dx with
                | lst h1 h2 =>
                  cases dy with
                  | lst h3 h4 => exact ⟨_, _, _, _, rfl, .inl ⟨SqL.of (rl2.same _ _ h1), SqL.of (rl2.same _ _ h3), q m2 H1 s2 rl2 _ (itz_ok h1 h2 h3 h4)⟩⟩
              · cases e4
                cases dx with
                | tup h1 h2 =>
                  cases dy with
                  | tup h3 h4 => exact ⟨_, _, _, _, rfl, .inr ⟨sqt_same rl2.same h1, sqt_same rl2.same h3, q m2 H1 s2 rl2 _ (itzT_ok h1 h2 h3 h4)⟩⟩
              · cases e4
      · cases e
def inR (i : Int) : Bool := decide (-(2 ^ 62) ≤ i) && decide (i < 2 ^ 62)
def fRng1 (fas : FA) : FI := fun env st => (fas env st).bind fun ws st1 => Res.of (match ws with
  | [.d (.int j)] => if inR j then some (rangeD 0 j.toNat) else none
  | _ => none) st1
theorem ji_rng1 (hm : X.mg "range" = none) (ha : JA X Wx [e] fas) (hg : Gl X "range" := by rfl) (hs : starEach [e] X.env = [(false, eval e X.env)] := by rfl) : JI X Wx tg (.Call (.Name "range" p) [e] [] pos) (fRng1 fas) :=
  piI (pi_range1 hg hm ha hs) fun σ H R ⟨m, env, st, rl, re, p⟩ =>
  (seqA rl re p).imp fun xs H1 ⟨m1, st1, ws, s1, rl1, re1, rv1, p1⟩ => by
    obtain ⟨ds, e, q⟩ := Po.of p1 rl1
    split at e
    · rename_i j
      split at e
      · rename_i hz
        cases e
        cases rv1 with
        | cons r1 r2 =>
          cases r2
          cases r1
          simp only [inR, Bool.and_eq_true, decide_eq_true_eq] at hz
          exact ⟨j, rfl, hz.1, hz.2, q _ (itr_ok 0 j.toNat)⟩
      · cases e
    · cases e
def fRng2 (fas : FA) : FI := fun env st => (fas env st).bind fun ws st1 => Res.of (match ws with
  | [.d (.int i), .d (.int j)] => if inR i && inR j then some (rangeD i (j - i).toNat) else none
  | _ => none) st1
theorem ji_rng2 (hm : X.mg "range" = none) (ha : JA X Wx [e, e2] fas) (hg : Gl X "range" := by rfl) (hs : starEach [e, e2] X.env = [(false, eval e X.env), (false, eval e2 X.env)] := by rfl) (hs2 : starEach [e2] X.env = [(false, eval e2 X.env)] := by rfl) : JI X Wx tg (.Call (.Name "range" p) [e, e2] [] pos) (fRng2 fas) :=
  piI (pi_range2 hg hm ha hs hs2) fun σ H R ⟨m, env, st, rl, re, p⟩ =>
  (seqA rl re p).imp fun xs H1 ⟨m1, st1, ws, s1, rl1, re1, rv1, p1⟩ => by
    obtain ⟨ds, e, q⟩ := Po.of p1 rl1
    split at e
    · rename_i i j
      split at e
      · rename_i hz
        cases e
        cases rv1 with
        | cons r1 r2 =>
          cases r2 with
          | cons r2 r3 =>
            cases r3
            cases r1
            cases r2
            simp only [inR, Bool.and_eq_true, decide_eq_true_eq] at hz
            exact ⟨i, j, rfl, ⟨hz.1.1, hz.1.2, hz.2.1, hz.2.2⟩, q _ (itr_ok i _)⟩
      · cases e
    · cases e
/-! ### for -/
def fLoop (g : FG) (fb : FS) : List PyData → FS
  | [] => fun env st => .nx env st
  | d :: ds => fun env st => match g (.d d) env st with
    | some p => (match fb p.1 p.2 with
      | .nx e st2 => fLoop g fb ds e st2
      | .ct e st2 => fLoop g fb ds e st2
      | .bk e st2 => .nx e st2
      | r => r)
    | none => .bad
def fFor (fi : FI) (g : FG) (fb : FS) : FS := fun env st => RS.ofE (fi env st) env fun ds st1 => fLoop g fb ds env st1
variable {ss : List Stmt} {f : FS}
theorem js_for {iter : Expr} {fi : FI} {g : FG} (hp : PassesOwn (model X.prog X.w) X.A X.env X.xe) (hc : X.calm = true) (hi : JI X Wx tg iter fi) (hg : JG X tg g) (hb : JB X Wx ss f)
    (hs : ∀ x, foldedSetIterable iter X.env x = pure x := by intro _; rfl) : JS X Wx (.For tg iter ss [] pos) (fFor fi g f) := psI (ps_for hp hc hi hg hb hs) fun D σ H ⟨m, env, st, rl, re, p⟩ => by
  refine ⟨m, env, st, rl, re, ?_⟩
  unfold fFor at p
  cases e1 : fi env st with
  | bad => rw [e1] at p; exact p
  | ex c st1 => rw [e1] at p; exact fun m1 H1 s1 r1 => p m1 H1 σ s1 r1 (re.mono s1)
  | ok ds st1 =>
    rw [e1] at p
    intro m1 H1 s1 rl1 J ok
    have p1 : PoS X.K Wx (clX X) m1 H1 D (fLoop g f ds env st1) := PoS.mono (r := fLoop g f ds env st1) p s1
    refine ⟨fun i k σ H => k = ds.length - i ∧ i ≤ ds.length ∧ ∃ m2 env st, Same m1.F m2.F ∧ Rel X.K m2 H st ∧ RE X.K m2 env σ ∧ PoS X.K Wx (clX X) m2 H D (fLoop g f (ds.drop i) env st),
      ⟨ds.length, by simp, Nat.zero_le _, m1, env, st1, Same.refl _, rl1, re.mono s1, p1⟩, ?_⟩
    rintro i k σ2 H2 ⟨rfl, hi, m2, env2, st2, sm, rl2, re2, p2⟩
    by_cases hl : i < ds.length
    · refine .inr ?_
      have hd : ds[i]? = some ds[i] := List.getElem?_eq_getElem hl
      rw [List.drop_eq_getElem_cons hl] at p2
      obtain ⟨go, step⟩ := ok.go m2 H2 st2 sm rl2 i _ hd
      refine ⟨go, fun σ' H' => i + 1 ≤ ds.length ∧ ∃ m3 env st, Same m1.F m3.F ∧ Rel X.K m3 H' st ∧ RE X.K m3 env σ' ∧ PoS X.K Wx (clX X) m3 H' D (fLoop g f (ds.drop (i + 1)) env st), fun σ' H' h => ⟨ds.length - (i + 1), by omega, rfl, h.1, h.2⟩, fun x H3 y => ?_⟩
      obtain ⟨m3, _, s3, rl3, dx⟩ := step x H3 y
      have p2 : PoS X.K Wx (clX X) m3 H3 D (fLoop g f (ds[i] :: ds.drop (i + 1)) env2 st2) := PoS.mono (r := fLoop g f (ds[i] :: ds.drop (i + 1)) env2 st2) p2 s3
      unfold fLoop at p2
      cases e2 : g (.d ds[i]) env2 st2 with
      | none => rw [e2] at p2; exact p2.elim
      | some q =>
        rw [e2] at p2
        refine ⟨m3, env2, st2, .d ds[i], q.1, q.2, rl3, re2.mono s3, dx, e2, fun m4 H4 σ4 s4 rl4 re4 => ⟨m4, q.1, q.2, rl4, re4, ?_⟩⟩
        have sm4 : Same m1.F m4.F := fun b o z => s4.fro b o (s3.fro b o (sm b o z))
        cases e3 : f q.1 q.2 with
        | bad => simp only [e3] at p2; exact p2
        | nx e5 st5 => simp only [e3] at p2; exact fun m5 H5 σ5 s5 rl5 re5 => ⟨hl, m5, e5, st5, fun b o z => s5.fro b o (sm4 b o z), rl5, re5, PoS.mono (r := fLoop g f _ e5 st5) p2 (s4.trans s5)⟩
        | ct e5 st5 => simp only [e3] at p2; exact fun m5 H5 σ5 s5 rl5 re5 => ⟨hl, m5, e5, st5, fun b o z => s5.fro b o (sm4 b o z), rl5, re5, PoS.mono (r := fLoop g f _ e5 st5) p2 (s4.trans s5)⟩
        | bk e5 st5 => simp only [e3] at p2; exact fun m5 H5 σ5 s5 => p2 m5 H5 σ5 (s4.trans s5)
        | rt w st5 => simp only [e3] at p2; exact fun m5 H5 σ5 s5 => p2 m5 H5 σ5 (s4.trans s5)
        | ex c e5 st5 => simp only [e3] at p2; exact fun m5 H5 σ5 s5 => p2 m5 H5 σ5 (s4.trans s5)
    · have hi' : i = ds.length := by omega
      subst hi'
      rw [List.drop_length] at p2
      exact .inl ⟨ok.stop m2 H2 st2 sm rl2 _ (by simp), p2 m2 H2 σ2 .refl rl2 re2⟩
end
end FL
set_option Elab.async false
set_option linter.all false
set_option maxRecDepth 100000
set_option maxHeartbeats 4000000
namespace FL
open PySem PySem.Spec PyProof.Rows L2
/-! ### comprehensions -/
def wipeE (env : Ev) : List Nat → Ev
  | [] => env
  | v :: vs => (wipeE env vs).set v none
section
variable {K : PySem.W.Frag} {m m0 m' : Wd} {H H0 H' : Hp} {st : Sto}
theorem re_wiped {env : Ev} {σ : L2.St} (h : RE K m env σ) : ∀ vs, RE K m (wipeE env vs) (L2.wipe σ vs)
  | [] => h
  | v :: vs => by
    have ih := re_wiped h vs
    unfold wipeE L2.wipe
    refine ⟨by simp [ih.1], fun j u e => ?_⟩
    by_cases hj : v = j
    · subst hj
      by_cases hl : v < (wipeE env vs).length
      · rw [List.getElem?_set_self hl] at e; cases e
      · rw [List.getElem?_eq_none (by simp; omega)] at e; cases e
    · rw [List.getElem?_set_ne hj] at e ⊢
      exact ih.2 j u e
theorem wipe_set {σ : L2.St} {i : Nat} {x : Option V} : ∀ {vs : List Nat}, i ∈ vs → L2.wipe (σ.set i x) vs = L2.wipe σ vs
  | v :: vs, h => by
    unfold L2.wipe
    by_cases hv : i ∈ vs
    · rw [wipe_set hv]
    · have hi : i = v := by
        rcases List.mem_cons.mp h with z | z
        · exact z
        · exact absurd z hv
      subst hi
      have : ∀ (ws : List Nat), i ∉ ws → L2.wipe (σ.set i x) ws = (L2.wipe σ ws).set i x := by
        intro ws
        induction ws with
        | nil => intro _; rfl
        | cons w ws ih =>
          intro hw
          unfold L2.wipe
          rw [ih (fun z => hw (List.mem_cons_of_mem _ z)), List.set_comm _ _ (fun z => hw (by rw [z]; exact List.mem_cons_self))]
      rw [this vs hv, List.set_set]
/-- a target that leaves the store -/
def GS (g : FG) : Prop := ∀ w env st e' st', g w env st = some (e', st') → st' = st
def GSs (g : FGs) : Prop := ∀ w env st e' st', g w env st = some (e', st') → st' = st
/-- a target's own reading and its Lean function -/
def GOk (K : PySem.W.Frag) (tG : TG) (g : FG) (vs : List Nat) : Prop := GS g ∧ ∀ (v : V) (σ : L2.St) (H : Hp) (Q : L2.St → Hp → Prop) (m : Wd) (env e' : Ev) (st st' : Sto) (w : W), Rel K m H st → RE K m env σ → RV K m v w → g w env st = some (e', st') →
  (∀ σ', L2.wipe σ' vs = L2.wipe σ vs → RE K m e' σ' → Q σ' H) → tG v σ H Q
theorem gok_name {i : Nat} {vs : List Nat} (h : i ∈ vs) : GOk K (gName i) (gN i) vs := ⟨fun w env st e' st' e => by cases e; rfl, fun v σ H Q m env e' st st' w rl re rv e q => by
  cases e
  exact q _ (wipe_set h) (re.set rv)⟩
def GOks (K : PySem.W.Frag) (tG : TGs) (g : FGs) (vs : List Nat) : Prop := GSs g ∧ ∀ (xs : List V) (σ : L2.St) (H : Hp) (Q : L2.St → Hp → Prop) (m : Wd) (env e' : Ev) (st st' : Sto) (ws : List W), Rel K m H st → RE K m env σ → RVs K m xs ws → g ws env st = some (e', st') →
  (∀ σ', L2.wipe σ' vs = L2.wipe σ vs → RE K m e' σ' → Q σ' H) → tG xs σ H Q
theorem goks_nil {vs : List Nat} : GOks K gNil gsNil vs := by
  refine ⟨fun w env st e' st' e => ?_, fun xs σ H Q m env e' st st' ws rl re rv e q => ?_⟩
  · unfold gsNil at e
    split at e
    · cases e; rfl
    · cases e
  · unfold gsNil at e
    split at e
    · cases e
      cases rv
      exact ⟨rfl, q σ rfl re⟩
    · cases e
theorem goks_cons {t : TG} {ts : TGs} {g : FG} {gs : FGs} {vs : List Nat} (h1 : GOk K t g vs) (h2 : GOks K ts gs vs) : GOks K (gCons t ts) (gsCons g gs) vs := by
  refine ⟨fun w env st e' st' e => ?_, fun xs σ H Q m env e' st st' ws rl re rv e q => ?_⟩
  · unfold gsCons at e
    split at e
    · rename_i w r
      cases e1 : g w env st with
      | none => rw [e1] at e; cases e
      | some p =>
        rw [e1] at e
        simp only [Option.bind_some] at e
        exact (h2.1 _ _ _ _ _ e).trans (h1.1 _ _ _ p.1 p.2 e1)
    · cases e
  · unfold gsCons at e
    split at e
    · rename_i w r
      cases rv with
      | cons r1 r2 =>
        cases e1 : g w env st with
        | none => rw [e1] at e; cases e
        | some p =>
          rw [e1] at e
          simp only [Option.bind_some] at e
          obtain ⟨p1, p2⟩ := p
          have hst := h1.1 _ _ _ p1 p2 e1
          subst hst
          exact ⟨_, _, rfl, h1.2 _ σ H _ m env p1 p2 p2 w rl re r1 e1 fun σ' hw re' => h2.2 _ σ' H Q m p1 e' p2 st' r rl re' r2 e fun σ2 hw2 re2 => q σ2 (hw2.trans hw) re2⟩
    · cases e
theorem gok_tup {ts : TGs} {gs : FGs} {n : Nat} {vs : List Nat} (h : GOks K ts gs vs) : GOk K (L2.gTup K n ts) (gTup n gs) vs := by
  refine ⟨fun w env st e' st' e => ?_, fun v σ H Q m env e' st st' w rl re rv e q => ?_⟩
  · unfold gTup at e
    split at e
    · split at e
      · exact h.1 _ _ _ _ _ e
      · cases e
    · cases e
  · unfold gTup at e
    split at e
    · rename_i ds e1
      split at e
      · rename_i hl
        obtain ⟨a, xs, rfl, h1, h2⟩ := view_tup rl rv e1
        exact ⟨a, xs, rfl, h1, by rw [dpAll_len h2]; exact hl, h.2 xs σ H Q m env e' st st' _ rl re (rvs_of h2) e q⟩
      · cases e
    · cases e
/-- something that is not ours changes -/
theorem Rel.other (rl : Rel K m H st) {D : Addr} {o : HO} (h1 : D ∉ m.ι.flatten) (h2 : m.F D = none) : Rel K m (upd H D o) st := by
  refine ⟨fun b u q => ?_, rl.len, rl.nd, fun n as c h3 h4 => ?_⟩
  · rw [upd_ne (ne_of_none q h2)]; exact rl.same b u q
  · refine (rl.cell n as c h3 h4).mono (fun _ _ z => z) (fun _ _ z => z) fun a ha u e => ?_
    rw [upd_ne (show a ≠ D from fun z => h1 (z ▸ mem_ι h3 ha))]; exact e
theorem Step.upd {D : Addr} {o : HO} (s : Step m0 m H0 H) (h : H0 D = none) : Step m0 m H0 (L2.upd H D o) :=
  ⟨s.len, s.pre, s.fro, fun a u e ha => by rw [upd_ne (ne_of_none e h)]; exact s.fr a u e ha, s.new, s.fn⟩
/-- a tracked thing of no cell is frozen data from now on -/
theorem Rel.adopt (rl : Rel K m H st) {D : Addr} {o : HO} (h1 : D ∉ m.ι.flatten) (h2 : m.F D = none) (h3 : H D = some o) (s0 : Step m0 m H0 H) (h0 : H0 D = none) : Rel K ⟨m.ι, L2.upd m.F D o⟩ H st ∧ Same m.F (L2.upd m.F D o) ∧ Step m0 ⟨m.ι, L2.upd m.F D o⟩ H0 H := by
  have s : Same m.F (L2.upd m.F D o) := fun b u q => by rw [upd_ne (ne_of_none q h2)]; exact q
  refine ⟨⟨fun b u q => ?_, rl.len, rl.nd, fun n as c k1 k2 => ?_⟩, s, ⟨s0.len, s0.pre, fun b u q => s b u (s0.fro b u q), s0.fr, s0.new, fun a h n => ?_⟩⟩
  · by_cases hb : b = D
    · subst hb
      have q' : L2.upd m.F b o b = some u := q
      rw [upd_same] at q'; cases q'
      exact h3
    · have q' : L2.upd m.F D o b = some u := q
      rw [upd_ne hb] at q'
      exact rl.same b u q'
  · refine (rl.cell n as c k1 k2).mono s (fun a ha e => ?_) fun _ _ _ e => e
    have : a ≠ D := fun z => h1 (z ▸ mem_ι k1 ha)
    show L2.upd m.F D o a = none
    rw [upd_ne this]; exact e
  · by_cases ha : a = D
    · subst ha; exact .inr h0
    · have n' : L2.upd m.F D o a ≠ none := n
      rw [upd_ne ha] at n'
      exact s0.fn a h n'
/-- .. or a new cell -/
theorem Rel.adoptC (rl : Rel K m H st) {D : Addr} {c : C} (h1 : D ∉ m.ι.flatten) (hc : COk K m.F H [D] c) (s0 : Step m0 m H0 H) (h0 : H0 D = none) : Rel K ⟨m.ι ++ [[D]], m.F⟩ H (st ++ [c]) ∧ Step m0 ⟨m.ι ++ [[D]], m.F⟩ H0 H := by
  refine ⟨⟨rl.same, by simp [rl.len], ?_, fun n as c' h1 h2 => ?_⟩, ⟨Nat.le_trans s0.len (by simp), fun n a r h => ?_, s0.fro, s0.fr, fun a h => ?_, s0.fn⟩⟩
  · show (m.ι ++ [[D]]).flatten.Nodup
    rw [List.flatten_append]
    refine List.nodup_append.mpr ⟨rl.nd, by simp, fun a ha b hb => ?_⟩
    simp at hb
    subst hb
    exact fun z => h1 (z ▸ ha)
  · by_cases hl : n < m.ι.length
    · have h1' : m.ι[n]? = some as := by
        have z : (m.ι ++ [[D]])[n]? = some as := h1
        rwa [List.getElem?_append_left hl] at z
      have h2' : st[n]? = some c' := by rwa [List.getElem?_append_left (by rw [← rl.len]; exact hl)] at h2
      exact rl.cell n as c' h1' h2'
    · have hn' : n = m.ι.length := by
        have z : (m.ι ++ [[D]])[n]? = some as := h1
        have := (List.getElem?_eq_some_iff.mp z).1
        simp at this
        omega
      subst hn'
      have z : (m.ι ++ [[D]])[m.ι.length]? = some as := h1
      rw [rl.len] at h2
      simp at z h2
      subst z h2
      exact hc
  · obtain ⟨r', e⟩ := s0.pre n a r h
    exact ⟨r', by show (m.ι ++ [[D]])[n]? = _; rw [List.getElem?_append_left (List.getElem?_eq_some_iff.mp e).1]; exact e⟩
  · have z : a ∈ (m.ι ++ [[D]]).flatten := h
    rw [List.flatten_append, List.mem_append] at z
    rcases z with z | z
    · exact s0.new a z
    · simp at z; subst z; exact .inr h0
end
def fYes : FT := fun _ st => .ok true st
def compGo (g : FG) (ft : FT) (fe : FE) (env : Ev) : List PyData → Sto → Res (List PyData)
  | [], st => .ok [] st
  | d :: ds, st => (match g (.d d) env st with
    | some p => (match ft p.1 p.2 with
      | .ok true st2 => (match fe p.1 st2 with
        | .ok w st3 => (Res.of2 (frz1 w st3)).bind fun x st4 => (compGo g ft fe env ds st4).bind fun r st5 => .ok (x :: r) st5
        | _ => .bad)
      | .ok false st2 => compGo g ft fe env ds st2
      | _ => .bad)
    | none => .bad)
def fComp (fi : FI) (g : FG) (ft : FT) (fe : FE) (vs : List Nat) : FE := fun env st => (fi env st).bind fun ds st1 => match compGo g ft fe (wipeE env vs) ds st1 with
  | .ok r st2 => if r.length ≤ LIM then .ok (.d (.list r)) st2 else .bad
  | _ => .bad
def fCompN (fi : FI) (g : FG) (ft : FT) (fe : FE) (vs : List Nat) : FE := fun env st => (fi env st).bind fun ds st1 => match compGo g ft fe (wipeE env vs) ds st1 with
  | .ok r st2 => if r.length ≤ LIM then .ok (.c st2.length) (st2 ++ [.lst r]) else .bad
  | _ => .bad
abbrev WF : WX := fun _ _ _ _ => False
section
variable {X : Cx} {Wx : WX}
theorem ptsI {ifs : List Expr} {t t' : TT} (h : PTs X ifs t) (f : ∀ σ H Q, t' σ H Q → t σ H Q) : PTs X ifs t' := ⟨fun pins s σ H Q I q => h.run pins s σ H Q I (f σ H Q q)⟩
theorem jts_nil : PTs X [] (rdT X WF fYes) := ptsI pts_nil fun σ H Q ⟨m, env, st, rl, re, p⟩ => p m H .refl rl
theorem jts_one {c : Expr} {ft : FT} (h : JT X WF c ft) : PTs X [c] (rdT X WF ft) := pts_one h
/-- the walk of a comprehension -/
theorem lc_go {tG : TG} {g : FG} {ft : FT} {fe : FE} {vs : List Nat} (hG : GOk X.K tG g vs) {σ : L2.St} {m1 : Wd} {H1 : Hp} {st1 st2 : Sto} {env : Ev} {J : It} {ds r : List PyData} {Qd : Addr → Hp → Prop}
    (rl1 : Rel X.K m1 H1 st1) (re1 : RE X.K m1 env σ) (ok : ItOk X.K m1 J ds) (hgo : compGo g ft fe (wipeE env vs) ds st1 = .ok r st2) (hlen : r.length ≤ LIM)
    (hQ : ∀ D m2 H2 xs, H1 D = none → Step m1 m2 H1 H2 → Rel X.K m2 H2 st2 → D ∉ m2.ι.flatten → m2.F D = none → H2 D = some (.lst xs) → DqAll X.K m2.F xs r → Qd D H2) (D : Addr) (hD : H1 D = none) :
    ∃ W : Nat → Nat → Hp → Prop, (∃ m, W 0 m (upd H1 D (.lst []))) ∧ ∀ i m H, W i m H → (J.stop i H ∧ Qd D H) ∨ (J.go i H ∧ ∃ Nx : Hp → Prop, (∀ H', Nx H' → ∃ m', m' < m ∧ W (i + 1) m' H') ∧
      ∀ x H', J.yld i H x H' → tG x (L2.wipe σ vs) H' fun σ2 H2 => L2.wipe σ2 vs = L2.wipe σ vs ∧ rdT X WF ft σ2 H2 fun b H3 => if b = true then rdE X WF fe σ2 H3 fun y H4 => ∃ acc, H4 D = some (.lst acc) ∧ acc.length < sizeLine ∧ Nx (upd H4 D (.lst (acc ++ [y]))) else Nx H3) := by
  refine ⟨fun i k H => k = ds.length - i ∧ i ≤ ds.length ∧ ∃ m2 st acc xs r', Step m1 m2 H1 H ∧ Rel X.K m2 H st ∧ D ∉ m2.ι.flatten ∧ m2.F D = none ∧ H D = some (.lst xs) ∧ DqAll X.K m2.F xs acc ∧ compGo g ft fe (wipeE env vs) (ds.drop i) st = .ok r' st2 ∧ acc ++ r' = r,
    ⟨ds.length, by simp, Nat.zero_le _, m1, st1, [], [], r, Step.refl.upd hD, rl1.other (rl1.new hD) (rl1.newF hD), rl1.new hD, rl1.newF hD, upd_same, .nil, hgo, rfl⟩, ?_⟩
  rintro i k H ⟨rfl, hi, m2, st, acc, xs, r', s2, rl2, nD, fD, hH, hd, hc, hr⟩
  by_cases hl : i < ds.length
  · refine .inr ?_
    have hd' : ds[i]? = some ds[i] := List.getElem?_eq_getElem hl
    rw [List.drop_eq_getElem_cons hl] at hc
    obtain ⟨go, step⟩ := ok.go m2 H st s2.fro rl2 i _ hd'
    refine ⟨go, fun H => i + 1 ≤ ds.length ∧ ∃ m2 st acc xs r', Step m1 m2 H1 H ∧ Rel X.K m2 H st ∧ D ∉ m2.ι.flatten ∧ m2.F D = none ∧ H D = some (.lst xs) ∧ DqAll X.K m2.F xs acc ∧ compGo g ft fe (wipeE env vs) (ds.drop (i + 1)) st = .ok r' st2 ∧ acc ++ r' = r, fun H' h => ⟨ds.length - (i + 1), by omega, rfl, h.1, h.2⟩, fun x H3 y => ?_⟩
    obtain ⟨m3, hι, s3, rl3, dx⟩ := step x H3 y
    -- what stands at D stands through every step
    have keep : ∀ {ma mb : Wd} {Ha Hb : Hp} {ys : List V}, Step ma mb Ha Hb → D ∉ ma.ι.flatten → ma.F D = none → Ha D = some (.lst ys) → D ∉ mb.ι.flatten ∧ mb.F D = none ∧ Hb D = some (.lst ys) := fun {ma mb Ha Hb ys} s n f h => by
      refine ⟨fun z => ?_, ?_, s.fr D _ h n⟩
      · rcases s.new D z with q | q
        · exact n q
        · rw [h] at q; cases q
      · by_cases z : mb.F D = none
        · exact z
        · rcases s.fn D f z with q | q
          · exact absurd q n
          · rw [h] at q; cases q
    obtain ⟨nD3, fD3, hH3⟩ := keep s3 nD fD hH
    unfold compGo at hc
    split at hc
    · rename_i p e1
      obtain ⟨p1, p2⟩ := p
      have hst := hG.1 _ _ _ p1 p2 e1
      subst hst
      have rew : RE X.K m3 (wipeE env vs) (L2.wipe σ vs) := re_wiped (re1.mono (s2.trans s3)) vs
      refine hG.2 x _ H3 _ m3 (wipeE env vs) p1 p2 p2 (.d ds[i]) rl3 rew dx e1 fun σ2 hw re2 => ⟨?_, m3, p1, p2, rl3, re2, ?_⟩
      · have wi : ∀ (ws us : List Nat), (∀ v ∈ us, v ∈ ws) → L2.wipe (L2.wipe σ us) ws = L2.wipe σ ws := by
          intro ws us
          induction us with
          | nil => intro _; rfl
          | cons u us ih =>
            intro h
            show L2.wipe ((L2.wipe σ us).set u none) ws = _
            rw [wipe_set (h u List.mem_cons_self)]
            exact ih fun v hv => h v (List.mem_cons_of_mem _ hv)
        rw [hw]
        exact wi vs vs fun _ z => z
      · simp only [] at hc
        split at hc
        · rename_i st4 e2
          rw [e2]
          intro m4 H4 s4 rl4
          obtain ⟨nD4, fD4, hH4⟩ := keep s4 nD3 fD3 hH3
          show rdE X WF fe σ2 H4 _
          refine ⟨m4, p1, st4, rl4, re2.mono s4, ?_⟩
          split at hc
          · rename_i w st5 e3
            rw [e3]
            intro m5 H5 s5 rl5 y ry
            obtain ⟨nD5, fD5, hH5⟩ := keep s5 nD4 fD4 hH4
            cases e4 : frz1 w st5 with
            | none => rw [e4] at hc; cases hc
            | some q =>
              rw [e4] at hc
              obtain ⟨q1, q2⟩ := q
              obtain ⟨m6, rl6, s6, d6⟩ := frz1_ok rl5 ry e4
              obtain ⟨nD6, fD6, hH6⟩ := keep s6 nD5 fD5 hH5
              cases e5 : compGo g ft fe (wipeE env vs) (ds.drop (i + 1)) q2 with
              | bad => simp [Res.of2, Res.bind, e5] at hc
              | ex c s => simp [Res.of2, Res.bind, e5] at hc
              | ok r2 st6 =>
                simp [Res.of2, Res.bind, e5] at hc
                obtain ⟨hc1, hc2⟩ := hc
                subst hc1 hc2
                have h26 := (s3.trans (s4.trans (s5.trans s6)))
                have hdx := dpAll_same h26.fro hd
                refine ⟨xs, hH6, ?_, hl, m6, q2, acc ++ [q1], xs ++ [y], r2, ((s2.trans h26).upd hD), rl6.other nD6 fD6, nD6, fD6, upd_same, dpAll_app hdx (.cons d6 .nil), e5, by rw [← hr]; simp⟩
                rw [dpAll_len hd]
                have : acc.length + (r2.length + 1) ≤ LIM := by
                  rw [← hr] at hlen
                  simpa using hlen
                exact LIM_lt (by omega)
          · cases hc
        · rename_i st4 e2
          rw [e2]
          intro m4 H4 s4 rl4
          obtain ⟨nD4, fD4, hH4⟩ := keep s4 nD3 fD3 hH3
          have h24 := s3.trans s4
          exact ⟨hl, m4, st4, acc, xs, r', s2.trans h24, rl4, nD4, fD4, hH4, dpAll_same h24.fro hd, hc, hr⟩
        · cases hc
    · cases hc
  · have hi' : i = ds.length := by omega
    subst hi'
    rw [List.drop_length] at hc
    cases hc
    rw [List.append_nil] at hr
    subst hr
    exact .inl ⟨ok.stop m2 H _ s2.fro rl2 _ (by simp), hQ D m2 H xs hD s2 rl2 nD fD hH hd⟩
theorem lc_rd {fi : FI} {tG : TG} {g : FG} {ft : FT} {fe : FE} {vs : List Nat} (hG : GOk X.K tG g vs) {σ : L2.St} {H : Hp} {Q : VK} (h : rdE X Wx (fComp fi g ft fe vs) σ H Q) : tLc (rdI X Wx fi) tG (rdT X WF ft) (rdE X WF fe) vs σ H Q := by
  obtain ⟨m, env, st, rl, re, p⟩ := h
  refine ⟨m, env, st, rl, re, ?_⟩
  have p' := Po.bind p
  cases e : fi env st with
  | bad => rw [e] at p'; exact p'
  | ex c st1 => rw [e] at p'; exact p'
  | ok ds st1 =>
    rw [e] at p'
    intro m1 H1 s1 rl1 J ok D hD
    have p1 := p' m1 H1 s1 rl1
    cases e2 : compGo g ft fe (wipeE env vs) ds st1 with
    | bad => simp only [e2] at p1; exact p1.elim
    | ex c s => simp only [e2] at p1; exact p1.elim
    | ok r st2 =>
      simp only [e2] at p1
      split at p1
      · rename_i hz
        refine lc_go (Qd := fun D H => Q (.ref D) H) hG rl1 (re.mono s1) ok e2 hz (fun D m2 H2 xs hD0 s2 rl2 nD fD hH hd => ?_) D hD
        obtain ⟨rl3, sm, s3⟩ := rl2.adopt nD fD hH s2 hD0
        exact p1 _ H2 s3 rl3 _ (.lst upd_same (dpAll_same sm hd))
      · exact p1.elim
theorem lc_rdN {fi : FI} {tG : TG} {g : FG} {ft : FT} {fe : FE} {vs : List Nat} (hG : GOk X.K tG g vs) {σ : L2.St} {H : Hp} {Q : VK} (h : rdE X Wx (fCompN fi g ft fe vs) σ H Q) : tLc (rdI X Wx fi) tG (rdT X WF ft) (rdE X WF fe) vs σ H Q := by
  obtain ⟨m, env, st, rl, re, p⟩ := h
  refine ⟨m, env, st, rl, re, ?_⟩
  have p' := Po.bind p
  cases e : fi env st with
  | bad => rw [e] at p'; exact p'
  | ex c st1 => rw [e] at p'; exact p'
  | ok ds st1 =>
    rw [e] at p'
    intro m1 H1 s1 rl1 J ok D hD
    have p1 := p' m1 H1 s1 rl1
    cases e2 : compGo g ft fe (wipeE env vs) ds st1 with
    | bad => simp only [e2] at p1; exact p1.elim
    | ex c s => simp only [e2] at p1; exact p1.elim
    | ok r st2 =>
      simp only [e2] at p1
      split at p1
      · rename_i hz
        refine lc_go (Qd := fun D H => Q (.ref D) H) hG rl1 (re.mono s1) ok e2 hz (fun D m2 H2 xs hD0 s2 rl2 nD fD hH hd => ?_) D hD
        obtain ⟨rl3, s3⟩ := rl2.adoptC (c := .lst r) nD ⟨D, xs, rfl, fD, hH, hd⟩ s2 hD0
        exact p1 _ H2 s3 rl3 _ ⟨D, [], by rw [← rl2.len]; simp, rfl⟩
      · exact p1.elim
variable {elt tg iter : Expr} {ifs : List Expr} {scope : Scope} {own : List (Str × Nat)} {pos : Pos} {fi : FI} {tG : TG} {g : FG} {ft : FT} {fe : FE}
theorem je_lc (hc : X.calm = true) (hN : X.N.Nodup) (hi : JI X Wx tg iter fi) (ok : BlkOk X.N X.env.scope scope own) (hG : GOk X.K tG g (own.map (·.2)))
    (hg : ∀ (s : Shared) (H : Hp) (C : Addr) (cl : List (Str × Addr)) (fp : List Addr), PG (X.blk s H scope (compEnvC scope cl C X.env) fp) tg tG)
    (ht : ∀ (s : Shared) (H : Hp) (C : Addr) (cl : List (Str × Addr)) (fp : List Addr), PTs (X.blk s H scope (compEnvC scope cl C X.env) fp) ifs (rdT (X.blk s H scope (compEnvC scope cl C X.env) fp) WF ft))
    (he : ∀ (s : Shared) (H : Hp) (C : Addr) (cl : List (Str × Addr)) (fp : List Addr), JE (X.blk s H scope (compEnvC scope cl C X.env) fp) WF elt fe) (hs : ∀ x, foldedSetIterable iter X.env x = pure x := by intro _; rfl) :
    JE X Wx (.ListComp elt [⟨tg, iter, ifs, 0⟩] scope pos) (fComp fi g ft fe (own.map (·.2))) :=
  peI (pe_lc (tt := rdT X WF ft) (te := rdE X WF fe) hc hN hi ok hg ht he hs) fun σ H Q h => lc_rd hG h
theorem je_lcN (hc : X.calm = true) (hN : X.N.Nodup) (hi : JI X Wx tg iter fi) (ok : BlkOk X.N X.env.scope scope own) (hG : GOk X.K tG g (own.map (·.2)))
    (hg : ∀ (s : Shared) (H : Hp) (C : Addr) (cl : List (Str × Addr)) (fp : List Addr), PG (X.blk s H scope (compEnvC scope cl C X.env) fp) tg tG)
    (ht : ∀ (s : Shared) (H : Hp) (C : Addr) (cl : List (Str × Addr)) (fp : List Addr), PTs (X.blk s H scope (compEnvC scope cl C X.env) fp) ifs (rdT (X.blk s H scope (compEnvC scope cl C X.env) fp) WF ft))
    (he : ∀ (s : Shared) (H : Hp) (C : Addr) (cl : List (Str × Addr)) (fp : List Addr), JE (X.blk s H scope (compEnvC scope cl C X.env) fp) WF elt fe) (hs : ∀ x, foldedSetIterable iter X.env x = pure x := by intro _; rfl) :
    JE X Wx (.ListComp elt [⟨tg, iter, ifs, 0⟩] scope pos) (fCompN fi g ft fe (own.map (·.2))) :=
  peI (pe_lc (tt := rdT X WF ft) (te := rdE X WF fe) hc hN hi ok hg ht he hs) fun σ H Q h => lc_rdN hG h
/-- name = [..] -/
theorem js_setLc {i : Nat} {y : Str} {py spos : Pos} (hc : X.calm = true) (hN : X.N.Nodup)
    (hsw : swapsWith (.ListComp elt [⟨tg, iter, ifs, 0⟩] scope pos) (some (.Name y py)) spos.line X.env = pure true) (hi : JI X Wx tg iter fi) (ok : BlkOk X.N X.env.scope scope own) (hG : GOk X.K tG g (own.map (·.2)))
    (hg : ∀ (s : Shared) (H : Hp) (C : Addr) (cl : List (Str × Addr)) (fp : List Addr), PG (X.blk s H scope (compEnvC scope cl C X.env) fp) tg tG)
    (ht : ∀ (s : Shared) (H : Hp) (C : Addr) (cl : List (Str × Addr)) (fp : List Addr), PTs (X.blk s H scope (compEnvC scope cl C X.env) fp) ifs (rdT (X.blk s H scope (compEnvC scope cl C X.env) fp) WF ft))
    (he : ∀ (s : Shared) (H : Hp) (C : Addr) (cl : List (Str × Addr)) (fp : List Addr), JE (X.blk s H scope (compEnvC scope cl C X.env) fp) WF elt fe) (hy : X.N[i]? = some y := by rfl) (hyl : X.env.scope.names.lookup y = some .local := by rfl) (hs : ∀ x, foldedSetIterable iter X.env x = pure x := by intro _; rfl) :
    JS X Wx (.Assign [.Name y py] (.ListComp elt [⟨tg, iter, ifs, 0⟩] scope pos) spos) (fAsg (fComp fi g ft fe (own.map (·.2))) (gN i)) :=
  psI (ps_setLc (tt := rdT X WF ft) (te := rdE X WF fe) hc hN hy hyl hsw hi ok hg ht he hs) fun D σ H h => lc_rd hG ((asg_rd h).imp fun v H' q => gN_rd q)
theorem js_setLcN {i : Nat} {y : Str} {py spos : Pos} (hc : X.calm = true) (hN : X.N.Nodup)
    (hsw : swapsWith (.ListComp elt [⟨tg, iter, ifs, 0⟩] scope pos) (some (.Name y py)) spos.line X.env = pure true) (hi : JI X Wx tg iter fi) (ok : BlkOk X.N X.env.scope scope own) (hG : GOk X.K tG g (own.map (·.2)))
    (hg : ∀ (s : Shared) (H : Hp) (C : Addr) (cl : List (Str × Addr)) (fp : List Addr), PG (X.blk s H scope (compEnvC scope cl C X.env) fp) tg tG)
    (ht : ∀ (s : Shared) (H : Hp) (C : Addr) (cl : List (Str × Addr)) (fp : List Addr), PTs (X.blk s H scope (compEnvC scope cl C X.env) fp) ifs (rdT (X.blk s H scope (compEnvC scope cl C X.env) fp) WF ft))
    (he : ∀ (s : Shared) (H : Hp) (C : Addr) (cl : List (Str × Addr)) (fp : List Addr), JE (X.blk s H scope (compEnvC scope cl C X.env) fp) WF elt fe) (hy : X.N[i]? = some y := by rfl) (hyl : X.env.scope.names.lookup y = some .local := by rfl) (hs : ∀ x, foldedSetIterable iter X.env x = pure x := by intro _; rfl) :
    JS X Wx (.Assign [.Name y py] (.ListComp elt [⟨tg, iter, ifs, 0⟩] scope pos) spos) (fAsg (fCompN fi g ft fe (own.map (·.2))) (gN i)) :=
  psI (ps_setLc (tt := rdT X WF ft) (te := rdE X WF fe) hc hN hy hyl hsw hi ok hg ht he hs) fun D σ H h => lc_rdN hG ((asg_rd h).imp fun v H' q => gN_rd q)
end
/-! ### a def -/
def retCut (n : Nat) (w : W) (st' : Sto) : Res W := match w with
  | .c k => if k < n then .ok (.c k) (st'.take n) else .bad
  | w => .ok w (st'.take n)
def fFun (n : Nat) (fb : FS) : List W → Sto → Res W := fun ws st => match fb (ws.map some ++ List.replicate (n - ws.length) none) st with
  | .nx _ st' => .ok (.d .none) (st'.take st.length)
  | .rt w st' => retCut st.length w st'
  | .ex c _ st' => .ex c (st'.take st.length)
  | _ => .bad
section
variable {K : PySem.W.Frag} {m m' : Wd} {H H' : Hp} {st st' : Sto}
theorem Rel.cut (rl : Rel K m' H' st') (n : Nat) : Rel K ⟨m'.ι.take n, m'.F⟩ H' (st'.take n) := by
  refine ⟨rl.same, by simp [rl.len], ?_, fun k as c h1 h2 => ?_⟩
  · have h := rl.nd
    rw [← List.take_append_drop n m'.ι, List.flatten_append] at h
    exact (List.nodup_append.mp h).1
  · have h1' : (m'.ι.take n)[k]? = some as := h1
    rw [List.getElem?_take] at h1' h2
    split at h1'
    · rename_i hk
      rw [if_pos hk] at h2
      exact rl.cell k as c h1' h2
    · cases h1'
theorem Step.cut (s : Step m m' H H') (rl : Rel K m H st) : Step m ⟨m'.ι.take st.length, m'.F⟩ H H' := by
  refine ⟨by have := s.len; simp [← rl.len]; omega, fun n a r h => ?_, s.fro, s.fr, fun a h => ?_, s.fn⟩
  · obtain ⟨r', e⟩ := s.pre n a r h
    refine ⟨r', ?_⟩
    show (m'.ι.take st.length)[n]? = _
    rw [List.getElem?_take, if_pos (by rw [← rl.len]; exact (List.getElem?_eq_some_iff.mp h).1)]
    exact e
  · refine s.new a ?_
    have h' : a ∈ (m'.ι.take st.length).flatten := h
    obtain ⟨as, h1, h2⟩ := List.mem_flatten.mp h'
    exact List.mem_flatten.mpr ⟨as, List.mem_of_mem_take h1, h2⟩
theorem RV.cut {v : V} {w : W} {n : Nat} (h : RV K m' v w) (hw : ∀ k, w = .c k → k < n) : RV K ⟨m'.ι.take n, m'.F⟩ v w := by
  cases w with
  | c k =>
    obtain ⟨a, r, h1, h2⟩ := h
    exact ⟨a, r, by show (m'.ι.take n)[k]? = _; rw [List.getElem?_take, if_pos (hw k rfl)]; exact h1, h2⟩
  | d x => exact h
  | s x => exact h
  | t x => exact h
theorem re_start {vs : List V} {ws : List W} (N : List Str) (h : RVs K m vs ws) (hl : vs.length ≤ N.length) : RE K m (ws.map some ++ List.replicate (N.length - ws.length) none) (L2.start N vs) := by
  unfold L2.start
  have hlen := h.length
  refine ⟨by simp [hlen], fun i w e => ?_⟩
  by_cases hi : i < ws.length
  · rw [List.getElem?_append_left (by simpa using hi)] at e
    rw [List.getElem?_append_left (by simpa [hlen] using hi)]
    clear hlen hl
    induction h generalizing i with
    | nil => simp at hi
    | cons r1 r2 ih =>
      cases i with
      | zero => simp at e; subst e; exact ⟨_, rfl, r1⟩
      | succ i =>
        simp at e
        obtain ⟨v, h1, h2⟩ := ih i (by simpa using e) (by simpa using hi)
        exact ⟨v, by simpa using h1, h2⟩
  · rw [List.getElem?_append_right (by simpa using hi), List.getElem?_replicate] at e
    split at e
    · cases e
    · cases e
end
theorem fn_ok {P : Program} {w : World} {K : PySem.W.Frag} {mg : Str → Option Value} {base : Heap} {x qual : Str} {params : Arguments} {body : List Stmt} {scope : Scope} {f : Addr} {fd : FuncData} {N ps : List Str} {k : Nat} {fb : FS}
    (F : FunD K x qual params body scope [] [] f fd) (S : FnScope N ps scope) (hl : ps.length ≤ N.length)
    (hbody : ∀ (cdv : Value) (A : Around) (outer : List Env) (s : Shared) (H : Hp) (E : XK), Room k (cxOf (L2.CX P w) P w K mg base N qual scope f cdv A outer s H E).A → Takes (cxOf (L2.CX P w) P w K mg base N qual scope f cdv A outer s H E) (fun cls d _ H => E cls d H) →
      PassesOwn (model P w) (cxOf (L2.CX P w) P w K mg base N qual scope f cdv A outer s H E).A (cxOf (L2.CX P w) P w K mg base N qual scope f cdv A outer s H E).env (cxOf (L2.CX P w) P w K mg base N qual scope f cdv A outer s H E).xe →
      JB (cxOf (L2.CX P w) P w K mg base N qual scope f cdv A outer s H E) (fun cls d _ H => E cls d H) body fb) :
    FnOk P w K mg base (L2.CX P w) (k + 1) f fd ps (spF K mg ps.length (fFun N.length fb)) := by
  refine F.ok S (fun vs H Q E h => h.1) fun cdv A outer s H vs Q E hr h => ⟨_, hbody cdv A outer s H E hr (takes_of rfl rfl rfl rfl) (passes_of rfl), ?_⟩
  obtain ⟨hv, m, ws, st, rl, rv, p⟩ := h
  refine ⟨m, _, st, rl, re_start N rv (by omega), ?_⟩
  unfold fFun at p
  cases e : fb (ws.map some ++ List.replicate (N.length - ws.length) none) st with
  | bad => rw [e] at p; exact p
  | bk e1 st1 => rw [e] at p; exact p.elim
  | ct e1 st1 => rw [e] at p; exact p.elim
  | nx e1 st1 => rw [e] at p; exact fun m1 H1 σ1 s1 rl1 re1 => p _ H1 (s1.cut rl) (rl1.cut _) _ .non
  | ex c e1 st1 => rw [e] at p; exact fun m1 H1 σ1 s1 rl1 re1 => p _ H1 (s1.cut rl) (rl1.cut _)
  | rt w st1 =>
    rw [e] at p
    intro m1 H1 v s1 rl1 rv1
    cases w with
    | c k =>
      have p : Po K (fun cls d _ H' => E cls d H') (fun c => (mg c).getD .none) [] m H (fun m' H' _ w => ∀ v, RV K m' v w → Q v H') (if k < st.length then .ok (.c k) (st1.take st.length) else .bad) := p
      split at p
      · rename_i hk
        exact p _ H1 (s1.cut rl) (rl1.cut _) v (RV.cut rv1 fun j e => by cases e; exact hk)
      · exact p.elim
    | d x => exact p _ H1 (s1.cut rl) (rl1.cut _) v (RV.cut rv1 fun j e => nomatch e)
    | s x => exact p _ H1 (s1.cut rl) (rl1.cut _) v (RV.cut rv1 fun j e => nomatch e)
    | t x => exact p _ H1 (s1.cut rl) (rl1.cut _) v (RV.cut rv1 fun j e => nomatch e)
/-! ### raise, try -/
def fRaise (c : Str) : FS := fun env st => .ex c env st
/-- an own exception class of the module -/
structure ExcG (K : PySem.W.Frag) (mg : Str → Option Value) (x : Str) : Prop where
  ex : ∃ C, mg x = some (.ref C) ∧ PySem.W.excIn K C [.type "ValueError", .type "Exception", .type "BaseException", .type "object"] "ValueError.__new__" = true ∧ PySem.W.keepIn K (.ref C) = true ∧ PySem.W.subIn K (.ref C) (.type "BaseException") = some true ∧ PySem.W.typeIn K (.ref C) = some (.type "type")
section
variable {X : Cx} {Wx : WX} {pos : Pos}
theorem js_raise {x mm : Str} {j : Nat} {p p2 p3 : Pos} (g : ExcG X.K X.mg x) (hc : X.calm = true) (tk : Takes X Wx) (hg : Gl X x := by rfl) (hdb : (x == ("__debug__" : Str)) = false := by decide) : JS X Wx (.Raise (some (.Call (.Name x p) [.Constant (.str mm) j p2] [] p3)) none pos) (fRaise x) := by
  obtain ⟨C, h1, h2, h3, h4, h5⟩ := g.ex
  refine psI (ps_raise hc tk (pmk_own PySem.F.excBase_ValueError h2 h1 h3 (raises_own h4 h5) hg hdb)) fun D σ H ⟨m, env, st, rl, re, q⟩ => ?_
  have := q m H σ .refl rl re
  unfold clX at this
  rw [h1] at this
  exact this
def fTry (f : FS) (hits : Str → Option Bool) (g : FS) : FS := fun env st => match f env st with
  | .ex c e st1 => (match hits c with
    | some true => g e st1
    | some false => .ex c e st1
    | none => .bad)
  | r => r
/-- try: .. except X: .. (the suite in its own context) -/
theorem js_try {x : Str} {C : Value} {body suite : List Stmt} {b₀ : Stmt} {np pos' : Pos} {f g : FS} {hits : Str → Option Bool} (hs : X.stack = X.env :: X.outer) (hf : X.env.frame = some X.env.locals) (hc : Names X x C) (tk : Takes X Wx)
    (hh : ∀ c b, hits c = some b → PySem.W.exmOne X.K (clX X c) C = some b)
    (hb : ∀ (W : WX) (pn : List (Addr × Obj)) (xe : Value → Shared → Prop), Takes (X.tr pn xe) W → PassesOwn (model X.prog X.w) X.A X.env xe → JB (X.tr pn xe) W body f)
    (hsu : ∀ (a : Addr) (oe : Obj) (cls : Value) (d : Option Addr) (pn : List (Addr × Obj)), Zc cls d oe → (∃ vs, oe.data = .fields vs) → JB (X.suite a ((a, oe) :: pn)) WF (b₀ :: suite) g) (hg : ∀ env st c e st1, g env st ≠ .ex c e st1) :
    JS X Wx (.Try body [.ExceptHandler (some (.Name x np)) none (b₀ :: suite) pos'] [] [] pos) (fTry f hits g) := by
  refine psI (ps_try_only (tb := fun W => rdS X W f) (ts := fun _ _ _ => rdS X WF g) hs hf hc tk (fun W pn xe t1 t2 => hb W pn xe t1 t2) (fun a oe cls d pn h1 h2 => hsu a oe cls d pn h1 h2)) fun D σ H ⟨m, env, st, rl, re, p⟩ => ?_
  refine ⟨m, env, st, rl, re, ?_⟩
  unfold fTry at p
  cases e : f env st with
  | bad => rw [e] at p; exact p
  | nx e1 st1 => rw [e] at p; exact p
  | bk e1 st1 => rw [e] at p; exact p
  | ct e1 st1 => rw [e] at p; exact p
  | rt w st1 => rw [e] at p; exact p
  | ex c e1 st1 =>
    rw [e] at p
    have p : PoS X.K Wx (clX X) m H D (match hits c with
      | some true => g e1 st1
      | some false => .ex c e1 st1
      | none => .bad) := p
    intro m1 H1 σ1 s1 rl1 re1
    cases h : hits c with
    | none => rw [h] at p; exact p.elim
    | some b =>
      rw [h] at p
      refine ⟨b, hh c b h, fun hb a ha => ?_, fun hb => ?_⟩
      · subst hb
        have p1 : PoS X.K Wx (clX X) m1 H1 D (g e1 st1) := PoS.mono (r := g e1 st1) p s1
        refine ⟨m1, e1, st1, rl1, re1, ?_⟩
        cases e2 : g e1 st1 with
        | ex c e3 st3 => exact absurd e2 (hg _ _ _ _ _)
        | bad => rw [e2] at p1; exact p1
        | nx e3 st3 => rw [e2] at p1; exact p1
        | bk e3 st3 => rw [e2] at p1; exact p1
        | ct e3 st3 => rw [e2] at p1; exact p1
        | rt w st3 => rw [e2] at p1; exact p1
      · subst hb
        exact p m1 H1 σ1 s1 rl1 re1
end
end FL
set_option Elab.async false
set_option linter.all false
set_option maxRecDepth 100000
set_option maxHeartbeats 4000000
/-! x * n: ints, texts, lists, tuples -/
namespace FL
open PySem PySem.Spec PyProof.Rows L2
section
open AutoSeq1 (wpAny_loadPart')
theorem fl_tuple_mul1 (l : Addr) (items : Array Value) (n : Nat) (dd : Option Addr) (sl : Array (Option Value)) (u : Tok) :
    Meets (Builtin.«tuple.__mul__» ⟨[.ref l, .int 1 u], []⟩) (fun _ R s => s.heap.get? l = some { cls := .type "tuple", dict := dd, data := .seq items n, slots := sl } ∧ R (.ok (.ret (Value.ref l))) s) :=
  .of_wp fun prog w A R s h => by
    obtain ⟨hp, g, d, tk, os⟩ := s
    obtain ⟨hl, h⟩ := h
    have f1 := AutoSeq1.idx_int
    have c1 : (items.isEmpty || (1 : Int) == 1) = true := by simp
    wp_walk using wpAny_loadPart' hl
    repeat (first
      | (refine wpAny_ite_true (decide_eq_true (by rw [c1])) ?_; wp_walk using wpAny_loadPart' hl)
      | (refine wpAny_ite_true (decide_eq_true c1) ?_; wp_walk using wpAny_loadPart' hl))
    exact ⟨_, rfl, h⟩
end
section
variable {X : Cx}
def rRep1 (K : PySem.W.Frag) : R2 := fun x y H Q => ∃ l xs, x = .ref l ∧ y = .int 1 ∧ SqT K H l xs ∧ Q (.ref l) H
theorem op_rep1 : OpR X (binaryOp .Mult) (rRep1 X.K) := by
  intro pins s σ H x y v u Q I rx ry h
  obtain ⟨l, xs, rfl, rfl, hT, q⟩ := h
  cases rx
  obtain ⟨t, rfl⟩ := ry
  obtain ⟨its, r, ⟨⟨cls, dd, data, sl⟩, ho, hc, n, hd⟩, hs⟩ := I.tuple hT
  simp only at hc hd
  subst hc hd
  exact wpAny_binaryOp_repeat_ref (T := "tuple") (U := "int") (by decide) ⟨_, ho, rfl⟩ (fun s' => typeIs_int s' 1 t) L2.noFill_tuple_mul F.fills_int_mul F.slot_int_rmul L2.repeat_tuple F.slot_int_index.lookup
    (call_meets F.slot_int_rmul (typeIs_int s 1 t) F.entry_int_rmul (F.args_int_rmul_2 _ _) (L2.int_rmul_tuple 1 t l its.toArray n dd sl)
      ⟨ho, rfl, ⟨_, ho, rfl⟩, call_meets F.slot_tuple_mul ⟨_, ho, rfl⟩ F.entry_tuple_mul (F.args_tuple_mul_2 _ _) (fl_tuple_mul1 l its.toArray n dd sl t) ⟨ho, ⟨.ref l, H, I, rfl, q⟩⟩⟩)
def rStr01 : R2 := fun x y H Q => ∃ z n, x = .str z ∧ y = .int n ∧ ((n = 0 ∧ Q (.str Str.empty) H) ∨ (n = 1 ∧ Q (.str z) H))
theorem op_str01 : OpR X (binaryOp .Mult) rStr01 := by
  intro pins s σ H x y v u Q I rx ry h
  obtain ⟨z, n, rfl, rfl, h⟩ := h
  obtain ⟨t, rfl⟩ := rx
  obtain ⟨t', rfl⟩ := ry
  rcases h with ⟨rfl, q⟩ | ⟨rfl, q⟩
  · exact P.mul_str_none (by decide) (by decide) ⟨.str Str.empty, H, I.tok _, ⟨_, rfl⟩, q⟩
  · refine P.mul_str (by decide) (fun _ h => absurd h (by simp)) (fun _ h => absurd h (by simp)) ?_
    rw [if_neg (by decide), if_pos (by simp)]
    exact ⟨.str z, H, I, ⟨_, rfl⟩, q⟩
def mulD : PyData → PyData → Option PyData
  | .int i, .int j => if small64 i || small64 j then some (.int (i * j)) else none
  | .str z, .int n => if n = 0 then some (.str Str.empty) else if n = 1 then some (.str z) else none
  | .list ds, .int n => if 0 ≤ n ∧ n ≤ 1000 ∧ ds.length ≤ 1000 then some (.list (List.replicate n.toNat ds).flatten) else none
  | .tuple ds, .int n => if n = 1 then some (.tuple ds) else if 2 ≤ n ∧ n ≤ 1000 ∧ ds.length ≤ 1000 ∧ ds ≠ [] then some (.tuple (List.replicate n.toNat ds).flatten) else none
  | _, _ => none
theorem dpAll_rep {K : PySem.W.Frag} {F : Hp} {xs : List V} {ds : List PyData} (h : DqAll K F xs ds) : ∀ n : Nat, DqAll K F (List.replicate n xs).flatten (List.replicate n ds).flatten
  | 0 => .nil
  | n + 1 => by
    rw [List.replicate_succ, List.replicate_succ, List.flatten_cons, List.flatten_cons]
    exact dpAll_app h (dpAll_rep h n)
theorem op_mulD : OpD X (binaryOp .Mult) mulD := by
  intro m H st x y a b r v u Q rl rv ru ha hb ox oy e q
  cases b with
  | int n =>
    cases view_int rl ru hb
    cases a with
    | int i =>
      cases view_int rl rv ha
      change (if small64 i || small64 n then some (PyData.int (i * n)) else none) = some r at e
      split at e
      · rename_i h
        cases e
        refine ⟨_, op_mul, i, n, rfl, rfl, ?_, q m H _ .refl rl (.int _)⟩
        simp only [small64, Bool.or_eq_true, Bool.and_eq_true, decide_eq_true_eq] at h
        exact h
      · cases e
    | str z =>
      cases view_str rl rv ha
      change (if n = 0 then some (PyData.str Str.empty) else if n = 1 then some (PyData.str z) else none) = some r at e
      split at e
      · rename_i h
        cases e
        exact ⟨_, op_str01, z, n, rfl, rfl, .inl ⟨h, q m H _ .refl rl (.str _)⟩⟩
      · split at e
        · rename_i h
          cases e
          exact ⟨_, op_str01, z, n, rfl, rfl, .inr ⟨h, q m H _ .refl rl (.str _)⟩⟩
        · cases e
    | list ds =>
      change (if 0 ≤ n ∧ n ≤ 1000 ∧ ds.length ≤ 1000 then some (PyData.list (List.replicate n.toNat ds).flatten) else none) = some r at e
      split at e
      · rename_i h
        cases e
        obtain ⟨pa, xs, rfl, h1, h2⟩ := view_listS rl rv ha ox
        refine ⟨_, op_rep, pa, n, xs, rfl, rfl, h1, by omega, by omega, ?_, fun p hp => ?_⟩
        · rw [dpAll_len h2, sizeLine_eq]
          have := Nat.mul_le_mul h.2.2 (show n.toNat ≤ 1000 by omega)
          omega
        · obtain ⟨rl3, s3⟩ := rl.allocF (o := .lst (List.replicate n.toNat xs).flatten) hp
          exact q _ _ _ s3 rl3 (.lst upd_same (dpAll_same s3.fro (dpAll_rep h2 _)))
      · cases e
    | tuple ds =>
      change (if n = 1 then some (PyData.tuple ds) else if 2 ≤ n ∧ n ≤ 1000 ∧ ds.length ≤ 1000 ∧ ds ≠ [] then some (PyData.tuple (List.replicate n.toNat ds).flatten) else none) = some r at e
      obtain ⟨pa, xs, hv, h1, h2⟩ := view_tup rl rv ha
      split at e
      · rename_i h
        cases e
        subst h
        refine ⟨_, op_rep1, pa, xs, hv, rfl, h1, q m H _ .refl rl ?_⟩
        rw [← hv]
        cases x with
        | d y => cases ha; exact rv
        | s _ => cases ox
        | t _ => cases ha
        | c k =>
          obtain ⟨a', r', k1, k2⟩ := rv
          unfold view at ha
          cases e : st[k]? with
          | none => simp [e] at ha
          | some c =>
            cases c with
            | fz x =>
              simp [e] at ha
              subst ha
              obtain ⟨_, _, k3, _, k4⟩ := rl.at k1 e
              cases k3
              rw [k2]
              exact k4
            | _ => simp [e] at ha
      · split at e
        · rename_i h
          cases e
          refine ⟨_, L2.op_repT, pa, n, xs, hv, rfl, h1, fun z => h.2.2.2 ?_, h.1, h.2.1, by rw [dpAll_len h2]; exact h.2.2.1, fun p hp => ?_⟩
          · subst z
            cases ds with
            | nil => rfl
            | cons _ _ => cases h2
          · obtain ⟨rl3, s3⟩ := rl.allocF (o := .tup (List.replicate n.toNat xs).flatten) hp
            exact q _ _ _ s3 rl3 (.tup (SqT.of upd_same) (dpAll_same s3.fro (dpAll_rep h2 _)))
        · cases e
    | _ => cases e
  | _ => cases a <;> cases e
/-- [..] * n as a new cell -/
def repN : W → W → Sto → Option (W × Sto) := fun x y st => (viewO x st).bind fun a => (view y st).bind fun b => (match a, b with
  | .list ds, .int n => if 0 ≤ n ∧ n ≤ 1000 ∧ ds.length ≤ 1000 then some (.c st.length, st ++ [.lst (List.replicate n.toNat ds).flatten]) else none
  | _, _ => none)
theorem op_repN : OpS X (binaryOp .Mult) repN := by
  intro m H st st' x y w v u Q rl rv ru e q
  unfold repN at e
  cases e1 : viewO x st with
  | none => rw [e1] at e; cases e
  | some a =>
    rw [e1] at e
    cases e2 : view y st with
    | none => rw [e2] at e; cases e
    | some b =>
      rw [e2] at e
      simp only [Option.bind_some] at e
      obtain ⟨h1, h2⟩ := viewO_of e1
      split at e
      · rename_i ds n
        split at e
        · rename_i h
          cases e
          cases view_int rl ru e2
          obtain ⟨pa, xs, rfl, h1, h2⟩ := view_listS rl rv h1 h2
          refine ⟨_, op_rep, pa, n, xs, rfl, rfl, h1, by omega, by omega, ?_, fun p hp => ?_⟩
          · rw [dpAll_len h2, sizeLine_eq]
            have := Nat.mul_le_mul h.2.2 (show n.toNat ≤ 1000 by omega)
            omega
          · obtain ⟨rl4, s4⟩ := rl.allocC (o := .lst (List.replicate n.toNat xs).flatten) (c := .lst (List.replicate n.toNat ds).flatten) hp ⟨p, _, rfl, rl.newF hp, upd_same, dpAll_rep h2 _⟩
            exact q _ _ _ s4 rl4 ⟨p, [], by rw [← rl.len]; simp, rfl⟩
        · cases e
      · cases e
def WH : Nat := 4000
theorem takes_WF : Takes X WF := fun u s' h => by
  obtain ⟨_, _, _, _, _, _, _, _, _, _, _, _, _, _, _, _, w⟩ := h
  exact w.elim
theorem hu65 {k : Nat} {A : Around} (r : Room k A) : A.units + 65 < cLine := by have := r.un; omega
theorem FnG.alias {P : Program} {w : World} {K : PySem.W.Frag} {mg : Str → Option Value} {base : Heap} {k : Nat} {x y : Str} {ps : List Str} {g : List W → Sto → Res W} (F : FnG P w K mg base k x ps g) (h : mg y = mg x) : FnG P w K mg base k y ps g := by
  obtain ⟨f, fd, hm, r⟩ := F.ex
  exact ⟨f, fd, h.trans hm, r⟩
/-- nothing is promised at level 0 -/
theorem fn_zero {P : Program} {w : World} {K : PySem.W.Frag} {mg : Str → Option Value} {base : Heap} {f : Addr} {fd : FuncData} {ps : List Str} {g : List W → Sto → Res W} (hg : ∀ ws st, g ws st = .bad) : FnOk P w K mg base (L2.CX P w) 0 f fd ps (spF K mg ps.length g) := by
  have no : ∀ vs H Q E, ¬ spF K mg ps.length g vs H Q E := fun vs H Q E h => by
    obtain ⟨_, m, ws, st, _, _, p⟩ := h
    rw [hg] at p
    exact p
  exact ⟨fun vs H Q E h => absurd h (no vs H Q E), fun A outer s H args us vs Q E _ _ _ _ h => absurd h (no vs H Q E)⟩
end
end FL
set_option Elab.async false
set_option linter.all false
set_option maxRecDepth 100000
set_option maxHeartbeats 4000000
/-! the head: facts by a Hook with one more Bool; the law's end -/
namespace FL
open PySem PySem.Spec PyProof.Rows L2
abbrev AlM : Type := He.AlD × Bool
def obsM (fa : List He.Fa) (fn : List He.DefD) (ex : PySem.W.Frag → Bool) (K : PySem.W.Frag) : AlM := (He.obsD fa fn K, ex K)
def valM (fn : List He.DefD) : AlM := (He.valD fn, true)
def SaysM (fa : List He.Fa) (fn : List He.DefD) (ex : PySem.W.Frag → Bool) (K : PySem.W.Frag) : Prop := obsM fa fn ex K = valM fn
def obsMG (n : Nat) (fa : List He.Fa) (fn : List He.DefD) (ex : PySem.W.Frag → Bool) (g : Addr → Option Obj) : AlM := obsM fa fn ex (He.frG g (He.asD g n))
def hookM (n : Nat) (fa : List He.Fa) (fn : List He.DefD) (ex : PySem.W.Frag → Bool) : PySem.W.Hook where
  α := AlM
  obs := fun s => obsMG n fa fn ex s.heap.get?
  val := fun _ => valM fn
  says := fun _ h => ∃ K : PySem.W.Frag, K.In h ∧ SaysM fa fn ex K
  of := fun _ _ e => ⟨_, He.frG_in, e⟩
  keeps := fun _ _ _ ⟨K, hK, c⟩ k => ⟨K, PySem.W.Frag.In.keeps hK k, c⟩
theorem obsMG_eq {n : Nat} {fa : List He.Fa} {fn : List He.DefD} {ex : PySem.W.Frag → Bool} {g : Addr → Option Obj} {s : Shared} (h : ∀ a, g a = s.heap.get? a) : obsMG n fa fn ex g = (hookM n fa fn ex).obs s := by
  have e : g = s.heap.get? := funext h
  rw [e] <;> rfl
theorem SaysM.d {fa : List He.Fa} {fn : List He.DefD} {ex : PySem.W.Frag → Bool} {K : PySem.W.Frag} (c : SaysM fa fn ex K) : He.SaysD fa fn K := congrArg (fun z : AlM => z.1) c
theorem SaysM.x {fa : List He.Fa} {fn : List He.DefD} {ex : PySem.W.Frag → Bool} {K : PySem.W.Frag} (c : SaysM fa fn ex K) : ex K = true := congrArg (fun z : AlM => z.2) c
/-! globals that hold data -/
theorem gd_int {K : PySem.W.Frag} {h : Heap} {mg : Str → Option Value} (X : K.In h) (G : h.Ns mainGlobals mg) {x : Str} {i : Int} (c : (He.Fa.int x i).ok K = true) : GD K mg x (.int i) := by
  obtain ⟨t, e⟩ := He.int_ok X G c
  exact ⟨_, .int i, e, ⟨t, rfl⟩, fun _ => .int i⟩
theorem gd_str {K : PySem.W.Frag} {h : Heap} {mg : Str → Option Value} (X : K.In h) (G : h.Ns mainGlobals mg) {x z : Str} (c : (He.Fa.str x z).ok K = true) : GD K mg x (.str z) := by
  obtain ⟨t, e⟩ := He.str_ok X G c
  exact ⟨_, .str z, e, ⟨t, rfl⟩, fun _ => .str z⟩
theorem gd_tup {K : PySem.W.Frag} {h : Heap} {mg : Str → Option Value} (X : K.In h) (G : h.Ns mainGlobals mg) {x : Str} {zs : List Str} (c : (He.Fa.glo x).ok K = true) (t : He.tupB K x (zs.map He.Dv.str) = true) : GD K mg x (.tuple (zs.map PyData.str)) := by
  refine ⟨_, .ref (He.ga K x), He.glo_ok X G c, rfl, fun F => .tup (He.tupB_ok t F) ?_⟩
  have : (zs.map He.Dv.str).map (He.Dv.v K) = zs.map V.str := by rw [List.map_map]; rfl
  rw [this]
  exact dq_strs zs
theorem exc_g {K : PySem.W.Frag} {h : Heap} {mg : Str → Option Value} (X : K.In h) (G : h.Ns mainGlobals mg) {x : Str} (c : (He.Fa.glo x).ok K = true) (e : (He.Fa.exc x).ok K = true) : ExcG K mg x := by
  obtain ⟨h1, h2, h3, h4⟩ := He.exc_ok e
  exact ⟨_, He.glo_ok X G c, h1, h2, h3, h4⟩
/-! the law's end -/
theorem walk_FL {l : PySem.W.OpenLaw} {n k : Nat} {q : Program} {loose : List Str} {XP : (Str → Option Value) → Heap → Prop} {YP : World → Heap → Prop} {d : DefRec} {x : Str}
    (hn : l.most = some n) (hn2 : n ≤ sizeLine) (hdf : d.params.defaults = []) (hr : Room k callerA)
    (F : ∀ (w : World) (mg : Str → Option Value) (fa : Addr) (h : Heap), YP w h → h.Ns mainGlobals mg → mg d.name = some (.ref fa) →
      ∃ (K : PySem.W.Frag) (fd : FuncData) (g : List W → Sto → Res W), K.In h ∧ (∀ (s : Shared) (u : Value), BindsTo s fd ⟨[u], []⟩ [(x, u)]) ∧ (∀ ns : List Int, ns.length ≤ n → ∃ st, g [.s ns] [] = .ok (.d (.bool true)) st) ∧
        ∀ base : Heap, K.In base → base.Ns mainGlobals mg → FnOk l.prog w K mg base (L2.CX l.prog w) k fa fd [x] (spF K mg 1 g)) :
    PySem.W.WalkO q loose XP YP l.row.toRowW d [] (fun f vs => PySem.call f vs) := by
  refine Att.attach_call hn hdf fun w s₀ s₁ mg mb fa o pm cd doc a vs ns G Y ho hd hcd hmg hobj hints hlen hg => ?_
  obtain ⟨K, fd, g, KX, hb, hsp, hF⟩ := F w mg fa _ Y G.T.g hmg
  refine law_call KX G.T.g G.T.b G.T.builtins G.T.nolimit hg hobj hints (Nat.le_trans hlen hn2) hr hF hb (fun H hO hS => ?_) fun H e s' => ?_
  · obtain ⟨st, e⟩ := hsp ns hlen
    refine ⟨rfl, ⟨[], H⟩, [.s ns], [], ⟨fun _ _ z => z, rfl, List.nodup_nil, fun n as c h => by simp at h⟩, .cons ⟨a, rfl, hS⟩ .nil, ?_⟩
    rw [e]
    intro m' H' _ _ v rv
    cases rv
    rfl
  · rintro ⟨_, _, _, _, _, _, _, _, _, _, _, _, z⟩
    exact z
end FL
set_option Elab.async false
set_option linter.all false
set_option maxRecDepth 100000
set_option maxHeartbeats 2000000
/-! Walking by rewriting: only what is reached is looked at. -/
namespace FL.V
open PySem L2 FL
section
variable {α β : Type} {r r' : Res α} {k : α → Sto → Res β} {a : α} {st : Sto} {env e : Ev} {c : Str} {w : W} {ws : List W}
theorem bind_ok : (Res.ok a st).bind k = k a st := rfl
theorem bind_ex : (Res.ex c st : Res α).bind k = .ex c st := rfl
theorem of_s : Res.of (some a) st = .ok a st := rfl
theorem of2_s : Res.of2 (some (a, st)) = .ok a st := rfl
variable {ks : α → Sto → RS}
theorem ofE_ok : RS.ofE (.ok a st) env ks = ks a st := rfl
theorem ofE_ex : RS.ofE (.ex c st : Res α) env ks = .ex c env st := rfl
theorem ofG_s : RS.ofG (some (e, st)) = .nx e st := rfl
variable {o o' : Option α} {ko : α → Option β}
variable {fa fb fc : FE} {fas fr : FA} {ft fu : FT} {f g h : FS}
def vR (o : Option (Option W)) (st : Sto) : Res W := match o with
  | some (some w) => .ok w st
  | _ => .bad
theorem v_var (i : Nat) : fVar i env st = vR (env[i]?) st := rfl
theorem vR_s : vR (some (some w)) st = .ok w st := rfl
theorem v_c (x : PyData) : fC x env st = .ok (.d x) st := rfl
def sel (k : Bool) (x y : Ev → Sto → α) (env : Ev) (st : Sto) : α := if k then x env st else y env st
theorem sel_t {x y : Ev → Sto → α} : sel true x y env st = x env st := rfl
theorem sel_f {x y : Ev → Sto → α} : sel false x y env st = y env st := rfl
theorem v_nil : fNil env st = .ok [] st := rfl
def cons2 (w : W) (ws : List W) (st : Sto) : Res (List W) := .ok (w :: ws) st
def cons1 (fr : FA) (env : Ev) (w : W) (st : Sto) : Res (List W) := (fr env st).bind (cons2 w)
theorem v_cons : fCons fa fr env st = (fa env st).bind (cons1 fr env) := rfl
theorem v_cons1 : cons1 fr env w st = (fr env st).bind (cons2 w) := rfl
theorem v_cons2 : cons2 w ws st = .ok (w :: ws) st := rfl
def tup1 (ws : List W) (st : Sto) : Res W := Res.of2 ((frzAll ws st).bind fun p => some (.d (.tuple p.1), p.2))
theorem v_tup : fTup fas env st = (fas env st).bind tup1 := rfl
theorem v_tup1 : tup1 ws st = Res.of2 ((frzAll ws st).bind fun p => some (.d (.tuple p.1), p.2)) := rfl
def lst1 (ws : List W) (st : Sto) : Res W := Res.of2 ((frzAll ws st).bind fun p => some (.d (.list p.1), p.2))
theorem v_lst : fLst fas env st = (fas env st).bind lst1 := rfl
theorem v_lst1 : lst1 ws st = Res.of2 ((frzAll ws st).bind fun p => some (.d (.list p.1), p.2)) := rfl
def new1 (ws : List W) (st : Sto) : Res W := Res.of2 ((frzAll ws st).bind fun p => some (.c p.2.length, p.2 ++ [.lst p.1]))
theorem v_new : fNew fas env st = (fas env st).bind new1 := rfl
theorem v_new1 : new1 ws st = Res.of2 ((frzAll ws st).bind fun p => some (.c p.2.length, p.2 ++ [.lst p.1])) := rfl
theorem frzAll_nil : frzAll [] st = some ([], st) := rfl
theorem frzAll_cons : frzAll (w :: ws) st = (frz1 w st).bind fun p => (frzAll ws p.2).bind fun q => some (p.1 :: q.1, q.2) := rfl
theorem frz1_d (x : PyData) : frz1 (.d x) st = some (x, st) := rfl
def frzC (n : Nat) (st : Sto) : Option C → Option (PyData × Sto)
  | some (.lst ds) => some (.list ds, st.set n (.fz (.list ds)))
  | some (.fz x) => some (x, st)
  | _ => none
theorem frz1_c (n : Nat) : frz1 (.c n) st = frzC n st (st[n]?) := rfl
theorem frzC_l (n : Nat) (ds : List PyData) : frzC n st (some (.lst ds)) = some (.list ds, st.set n (.fz (.list ds))) := rfl
theorem frzC_f (n : Nat) (x : PyData) : frzC n st (some (.fz x)) = some (x, st) := rfl
variable {gw gw' : W → W → Sto → Option (W × Sto)}
def bin2 (gw : W → W → Sto → Option (W × Sto)) (x y : W) (st : Sto) : Res W := Res.of2 (gw x y st)
def bin1 (gw : W → W → Sto → Option (W × Sto)) (fb : FE) (env : Ev) (x : W) (st : Sto) : Res W := (fb env st).bind (bin2 gw x)
theorem v_bin : fBin gw fa fb env st = (fa env st).bind (bin1 gw fb env) := rfl
theorem v_bin1 (x : W) : bin1 gw fb env x st = (fb env st).bind (bin2 gw x) := rfl
theorem v_bin2 (x y : W) : bin2 gw x y st = Res.of2 (gw x y st) := rfl
def test1 (w : W) (st : Sto) : Res Bool := Res.of (toB w) st
theorem v_test : fTest fa env st = (fa env st).bind test1 := rfl
theorem v_test1 : test1 w st = Res.of (toB w) st := rfl
theorem toB_b (b : Bool) : toB (.d (.bool b)) = some b := rfl
def chain2 (gw : W → W → Sto → Option (W × Sto)) (y u : W) (st : Sto) : Res W := Res.of2 (gw y u st)
def chainT (gw' : W → W → Sto → Option (W × Sto)) (y : W) (fc : FE) (env : Ev) (st : Sto) : Res W := (fc env st).bind (chain2 gw' y)
def chainF (env : Ev) (st : Sto) : Res W := .ok (.d (.bool false)) st
def chainK (gw' : W → W → Sto → Option (W × Sto)) (y : W) (fc : FE) (env : Ev) (k : Bool) (st : Sto) : Res W := sel k (chainT gw' y fc) chainF env st
def chainZ (gw' : W → W → Sto → Option (W × Sto)) (y : W) (fc : FE) (env : Ev) (z : W) (st : Sto) : Res W := (Res.of (toB z) st).bind (chainK gw' y fc env)
def chainY (gw gw' : W → W → Sto → Option (W × Sto)) (x : W) (fc : FE) (env : Ev) (y : W) (st : Sto) : Res W := (Res.of2 (gw x y st)).bind (chainZ gw' y fc env)
def chainX (gw gw' : W → W → Sto → Option (W × Sto)) (fb fc : FE) (env : Ev) (x : W) (st : Sto) : Res W := (fb env st).bind (chainY gw gw' x fc env)
theorem v_chain : fChain gw gw' fa fb fc env st = (fa env st).bind (chainX gw gw' fb fc env) := rfl
theorem v_chainX (x : W) : chainX gw gw' fb fc env x st = (fb env st).bind (chainY gw gw' x fc env) := rfl
theorem v_chainY (x y : W) : chainY gw gw' x fc env y st = (Res.of2 (gw x y st)).bind (chainZ gw' y fc env) := rfl
theorem v_chainZ (y z : W) : chainZ gw' y fc env z st = (Res.of (toB z) st).bind (chainK gw' y fc env) := rfl
theorem v_chainK (y : W) (k : Bool) : chainK gw' y fc env k st = sel k (chainT gw' y fc) chainF env st := rfl
theorem v_chainT (y : W) : chainT gw' y fc env st = (fc env st).bind (chain2 gw' y) := rfl
theorem v_chainF : chainF env st = .ok (.d (.bool false)) st := rfl
theorem v_chain2 (y u : W) : chain2 gw y u st = Res.of2 (gw y u st) := rfl
def okT (env : Ev) (st : Sto) : Res Bool := .ok true st
def okF (env : Ev) (st : Sto) : Res Bool := .ok false st
theorem v_okT : okT env st = .ok true st := rfl
theorem v_okF : okF env st = .ok false st := rfl
def okVT (env : Ev) (st : Sto) : Res W := .ok (.d (.bool true)) st
theorem v_okVT : okVT env st = .ok (.d (.bool true)) st := rfl
def selK {β : Type} (x y : Ev → Sto → β) (env : Ev) (k : Bool) (st : Sto) : β := sel k x y env st
theorem v_selK {x y : Ev → Sto → β} (k : Bool) : selK x y env k st = sel k x y env st := rfl
theorem v_and : fAnd ft fu env st = (ft env st).bind (selK fu okF env) := rfl
theorem v_or : fOr ft fu env st = (ft env st).bind (selK okT fu env) := rfl
def notK (k : Bool) (st : Sto) : Res Bool := .ok (!k) st
theorem v_notK (k : Bool) : notK k st = .ok (!k) st := rfl
theorem v_not : fNot ft env st = (ft env st).bind notK := rfl
def selW (x y : FE) (env : Ev) (w : W) (st : Sto) : Res W := (Res.of (toB w) st).bind (selK x y env)
theorem v_selW : selW fa fb env w st = (Res.of (toB w) st).bind (selK fa fb env) := rfl
theorem v_andV : fAndV fa fb env st = (fa env st).bind (selW fb chainF env) := rfl
theorem v_orV : fOrV fa fb env st = (fa env st).bind (selW okVT fb env) := rfl
def notV2 (k : Bool) (st : Sto) : Res W := .ok (.d (.bool (!k))) st
theorem v_notV2 (k : Bool) : notV2 k st = .ok (.d (.bool (!k))) st := rfl
def notV1 (w : W) (st : Sto) : Res W := (Res.of (toB w) st).bind notV2
theorem v_notV1 : notV1 w st = (Res.of (toB w) st).bind notV2 := rfl
theorem v_notV : fNotV fa env st = (fa env st).bind notV1 := rfl
theorem v_if : fIf ft fa fb env st = (ft env st).bind (selK fa fb env) := rfl
theorem v_yes : fYes env st = .ok true st := rfl
variable {hh : PyData → PyData → Option PyData} {x y : W}
theorem p2 : pure2 hh x y st = (viewO x st).bind fun a => (viewO y st).bind fun b => (hh a b).bind fun r => some (.d r, st) := rfl
theorem p2S : pure2S hh x y st = (view x st).bind fun a => (view y st).bind fun b => (hh a b).bind fun r => some (.d r, st) := rfl
def viewC : Option C → Option PyData
  | some (.lst ds) => some (.list ds)
  | some (.fz x) => some x
  | _ => none
theorem view_d (x : PyData) : view (.d x) st = some x := rfl
theorem view_c (n : Nat) : view (.c n) st = viewC (st[n]?) := rfl
theorem viewC_l (ds : List PyData) : viewC (some (.lst ds)) = some (.list ds) := rfl
theorem viewC_f (x : PyData) : viewC (some (.fz x)) = some x := rfl
theorem view_s (ns : List Int) : view (.s ns) st = some (.list (ns.map PyData.int)) := rfl
theorem viewO_d (x : PyData) : viewO (.d x) st = some x := rfl
theorem viewO_c (n : Nat) : viewO (.c n) st = viewC (st[n]?) := rfl
variable {fo fl fh : FO} {i j : Int} {p q : PyData} {ds es : List PyData} {s z : Str} {bb : Bool}
theorem add_i : addD (.int i) (.int j) = some (.int (i + j)) := rfl
theorem add_s : addD (.str s) (.str z) = if s.length + z.length ≤ LIM then some (.str (s ++ z)) else none := rfl
theorem add_t : addD (.tuple ds) (.tuple es) = if ds.length + es.length ≤ LIM then some (.tuple (ds ++ es)) else none := rfl
theorem add_l : addD (.list ds) (.list es) = if ds.length + es.length ≤ LIM then some (.list (ds ++ es)) else none := rfl
theorem sub_i : subD (.int i) (.int j) = some (.int (i - j)) := rfl
theorem mod_i : modD (.int i) (.int j) = if 0 < j then some (.int (i % j)) else none := rfl
theorem mul_i : mulD (.int i) (.int j) = if small64 i || small64 j then some (.int (i * j)) else none := rfl
theorem gt_i : gtD (.int i) (.int j) = some (.bool (decide (j < i))) := rfl
theorem ge_i : geD (.int i) (.int j) = some (.bool (decide (j ≤ i))) := rfl
theorem lt_i : ltD (.int i) (.int j) = some (.bool (decide (i < j))) := rfl
theorem le_i : leD (.int i) (.int j) = some (.bool (decide (i ≤ j))) := rfl
theorem eq_i : eqD (.int i) (.int j) = some (.bool (decide (i = j))) := by
  by_cases h : i = j <;> simp [eqD, eqB, h]
theorem ne_i : neD (.int i) (.int j) = some (.bool (!decide (i = j))) := by
  by_cases h : i = j <;> simp [neD, eqB, h]
theorem isn_p : isNW false x (.d .none) st = some (.d (.bool (isNo x)), st) := rfl
theorem isn_n : isNW true x (.d .none) st = some (.d (.bool (!isNo x)), st) := rfl
theorem isNo_n : isNo (.d .none) = true := rfl
theorem isNo_b : isNo (.d (.bool bb)) = false := rfl
theorem isNo_i : isNo (.d (.int i)) = false := rfl
theorem isNo_s : isNo (.d (.str s)) = false := rfl
theorem isNo_l : isNo (.d (.list ds)) = false := rfl
theorem isNo_t : isNo (.d (.tuple ds)) = false := rfl
theorem isNo_c (n : Nat) : isNo (.c n) = false := rfl
def ixV (a : PyData) (st : Sto) : Option PyData → Option (W × Sto)
  | some (.int i) => (ixB a i).map fun r => (.d r, st)
  | _ => none
theorem ix_w : ixW x y st = (view x st).bind fun a => ixV a st (view y st) := rfl
theorem ixV_i : ixV p st (some (.int i)) = (ixB p i).map fun r => (.d r, st) := rfl
theorem ixB_l : ixB (.list ds) i = atI ds i := rfl
theorem ixB_t : ixB (.tuple ds) i = atI ds i := rfl
theorem ixB_s : ixB (.str s) i = if s.length ≤ LIM then (atI s.cps.toList i).map fun c => PyData.str ⟨#[c]⟩ else none := rfl
theorem at_nat (l : List α) (k : Nat) (a : α) (h : l[k]? = some a) : atI l (k : Int) = some a := by
  have hl : k < l.length := (List.getElem?_eq_some_iff.mp h).1
  unfold atI ixN
  rw [if_pos (by omega), if_pos (by omega)]
  simpa using h
theorem at0 (a : α) (l : List α) : atI (a :: l) 0 = some a := at_nat _ 0 _ rfl
theorem at1 (a b : α) (l : List α) : atI (a :: b :: l) 1 = some b := at_nat _ 1 _ rfl
theorem at2 (a b c : α) (l : List α) : atI (a :: b :: c :: l) 2 = some c := at_nat _ 2 _ rfl
theorem at3 (a b c d : α) (l : List α) : atI (a :: b :: c :: d :: l) 3 = some d := at_nat _ 3 _ rfl
def sl3 (x : W) (lo hi : Option Int) (st : Sto) : Res W := Res.of ((viewO x st).bind fun a => (slB a lo hi).map W.d) st
def sl2 (fh : FO) (env : Ev) (x : W) (lo : Option Int) (st : Sto) : Res W := (fh env st).bind (sl3 x lo)
def sl1 (fl fh : FO) (env : Ev) (x : W) (st : Sto) : Res W := (fl env st).bind (sl2 fh env x)
theorem v_sl : fSl fa fl fh env st = (fa env st).bind (sl1 fl fh env) := rfl
theorem v_sl1 (x : W) : sl1 fl fh env x st = (fl env st).bind (sl2 fh env x) := rfl
theorem v_sl2 (x : W) (lo : Option Int) : sl2 fh env x lo st = (fh env st).bind (sl3 x lo) := rfl
theorem v_sl3 (x : W) (lo hi : Option Int) : sl3 x lo hi st = Res.of ((viewO x st).bind fun a => (slB a lo hi).map W.d) st := rfl
theorem v_nopart : fNoPart env st = .ok none st := rfl
def partV : Option PyData → Option (Option Int)
  | some (.int i) => some (some i)
  | _ => none
def part1 (w : W) (st : Sto) : Res (Option Int) := Res.of (partV (view w st)) st
theorem v_part : fPart fa env st = (fa env st).bind part1 := rfl
theorem v_part1 : part1 w st = Res.of (partV (view w st)) st := rfl
theorem partV_i : partV (some (.int i)) = some (some i) := rfl
variable {lo hi : Option Int}
theorem sl_l : slB (.list ds) lo hi = some (.list (cutL ds lo hi)) := rfl
theorem sl_t : slB (.tuple ds) lo hi = some (.tuple (cutL ds lo hi)) := rfl
theorem sl_s : slB (.str s) lo hi = if s.length ≤ LIM then some (.str (cutS s lo hi)) else none := rfl
variable {gc : List W → Sto → Option (W × Sto)} {G : List W → Sto → Res W}
def cb1 (gc : List W → Sto → Option (W × Sto)) (ws : List W) (st : Sto) : Res W := Res.of2 (gc ws st)
theorem v_cb : fCB gc fas env st = (fas env st).bind (cb1 gc) := rfl
theorem v_cb1 : cb1 gc ws st = Res.of2 (gc ws st) := rfl
theorem v_call : fCall G fas env st = (fas env st).bind G := rfl
theorem v_ty (n : String) : fTy n env st = .ok (.t n) st := rfl
def lenC (st : Sto) : Option C → Option (W × Sto)
  | some (.lst ds) => some (.d (.int (ds.length : Nat)), st)
  | some (.fz d) => (lenB d).map fun n => (.d (.int (n : Nat)), st)
  | some (.dS kvs) => some (.d (.int (kvs.length : Nat)), st)
  | _ => none
theorem len_c (n : Nat) : lenW [.c n] st = lenC st (st[n]?) := rfl
theorem len_d : lenW [.d p] st = (lenB p).map fun n => (.d (.int (n : Nat)), st) := rfl
theorem len_s (ns : List Int) : lenW [.s ns] st = some (.d (.int ((ns.map PyData.int).length : Nat)), st) := rfl
theorem lenC_l : lenC st (some (.lst ds)) = some (.d (.int (ds.length : Nat)), st) := rfl
theorem lenB_l : lenB (.list ds) = some ds.length := rfl
theorem lenB_t : lenB (.tuple ds) = some ds.length := rfl
theorem lenB_s : lenB (.str s) = if s.length ≤ LIM then some s.length else none := rfl
variable {h1 : PyData → Option PyData}
theorem rd_1 : rd1 h1 [w] st = (view w st).bind fun a => (h1 a).map fun r => (.d r, st) := rfl
theorem isi_w (n : String) : isiW [x, .t n] st = (view x st).bind fun d => (isi d n).map fun k => (.d (.bool k), st) := rfl
theorem tup_l : tupD (.list ds) = some (.tuple ds) := rfl
theorem list_l : listD (.list ds) = some (.list ds) := rfl
theorem list_t : listD (.tuple ds) = some (.list ds) := rfl
theorem toI_b : toI (.bool bb) = some (.int (if bb then 1 else 0)) := rfl
theorem toI_i : toI (.int i) = some (.int i) := rfl
theorem toS_i : toS (.int i) = if i.natAbs < 1000000 then some (.str (toString i)) else none := rfl
theorem all_l : allD (.list ds) = (boolsOf ds).map fun bs => .bool (bs.all id) := rfl
theorem any_l : anyD (.list ds) = (boolsOf ds).map fun bs => .bool (bs.any id) := rfl
theorem sum_l : sumD (.list ds) = (intsOf ds).map fun bs => .int bs.sum := rfl
variable {gm : W → List W → Sto → Option (W × Sto)} (T : String)
def mt2 (gm : W → List W → Sto → Option (W × Sto)) (x : W) (ws : List W) (st : Sto) : Res W := Res.of2 (gm x ws st)
def mtT (gm : W → List W → Sto → Option (W × Sto)) (x : W) (fas : FA) (env : Ev) (st : Sto) : Res W := (fas env st).bind (mt2 gm x)
def mtF (env : Ev) (st : Sto) : Res W := .bad
def mt1 (T : String) (gm : W → List W → Sto → Option (W × Sto)) (fas : FA) (env : Ev) (x : W) (st : Sto) : Res W := sel (tyW T x st) (mtT gm x fas) mtF env st
theorem v_mt : fMt T gm fa fas env st = (fa env st).bind (mt1 T gm fas env) := rfl
theorem v_mt1 (x : W) : mt1 T gm fas env x st = sel (tyW T x st) (mtT gm x fas) mtF env st := rfl
theorem v_mtT (x : W) : mtT gm x fas env st = (fas env st).bind (mt2 gm x) := rfl
theorem v_mt2 (x : W) : mt2 gm x ws st = Res.of2 (gm x ws st) := rfl
def mt01 (T : String) (gm : W → List W → Sto → Option (W × Sto)) (x : W) (st : Sto) : Res W := if tyW T x st then Res.of2 (gm x [] st) else .bad
theorem v_mt0 : fMt0 T gm fa env st = (fa env st).bind (mt01 T gm) := rfl
theorem v_mt01 (x : W) : mt01 T gm x st = if tyW T x st then Res.of2 (gm x [] st) else .bad := rfl
def tyC (T : String) : Option C → Bool
  | some (.lst _) => T == "list"
  | some (.fz (.list _)) => T == "list"
  | some (.dS _) => T == "dict"
  | some (.dT _) => T == "dict"
  | _ => false
theorem ty_c (n : Nat) : tyW T (.c n) st = tyC T (st[n]?) := by
  unfold tyW tyC
  cases h : st[n]? with
  | none => simp only [h]
  | some c =>
    cases c with
    | fz x => cases x <;> simp only [h]
    | _ => simp only [h]
theorem tyC_l : tyC "list" (some (.lst ds)) = true := rfl
theorem ty_l : tyW "list" (.d (.list ds)) st = true := rfl
theorem ty_s : tyW "str" (.d (.str s)) st = true := rfl
def appC (n : Nat) (p : PyData × Sto) : Option C → Option (W × Sto)
  | some (.lst ds) => if ds.length < LIM then some (.d .none, p.2.set n (.lst (ds ++ [p.1]))) else none
  | _ => none
theorem app_c (n : Nat) : appW (.c n) [w] st = (frz1 w st).bind fun p => appC n p (p.2[n]?) := rfl
theorem appC_l (n : Nat) (pp : PyData × Sto) : appC n pp (some (.lst ds)) = if ds.length < LIM then some (.d .none, pp.2.set n (.lst (ds ++ [pp.1]))) else none := rfl
def extC (n : Nat) (st : Sto) (es : List PyData) : Option C → Option (W × Sto)
  | some (.lst ds) => if ds.length + es.length ≤ LIM then some (.d .none, st.set n (.lst (ds ++ es))) else none
  | _ => none
def extV (n : Nat) (st : Sto) : PyData → Option (W × Sto)
  | .list es => extC n st es (st[n]?)
  | _ => none
theorem ext_c (n : Nat) : extW (.c n) [w] st = (viewO w st).bind fun a => extV n st a := rfl
theorem extV_l (n : Nat) : extV n st (.list es) = extC n st es (st[n]?) := rfl
theorem extC_l (n : Nat) : extC n st es (some (.lst ds)) = if ds.length + es.length ≤ LIM then some (.d .none, st.set n (.lst (ds ++ es))) else none := rfl
/-! statements -/
def seqR (r : RS) (g : FS) : RS := match r with
  | .nx e st1 => g e st1
  | r => r
theorem v_seq : fSeq f g env st = seqR (f env st) g := rfl
theorem seq_nx : seqR (.nx e st) g = g e st := rfl
theorem seq_rt : seqR (.rt w st) g = .rt w st := rfl
theorem seq_ex : seqR (.ex c e st) g = .ex c e st := rfl
theorem seq_bk : seqR (.bk e st) g = .bk e st := rfl
theorem seq_ct : seqR (.ct e st) g = .ct e st := rfl
theorem v_skip : fSkip env st = .nx env st := rfl
def ex1 (env : Ev) (w : W) (st : Sto) : RS := .nx env st
theorem v_ex : fEx fa env st = RS.ofE (fa env st) env (ex1 env) := rfl
theorem v_ex1 : ex1 env w st = .nx env st := rfl
theorem v_ret : fRet fa env st = RS.ofE (fa env st) env retW := rfl
theorem v_retN : fRetN env st = .rt (.d .none) st := rfl
theorem ret_d : retW (.d p) st = .rt (.d p) st := rfl
def retC (n : Nat) (st : Sto) : Option C → RS
  | some (.lst ds) => .rt (.d (.list ds)) (st.set n (.fz (.list ds)))
  | some (.fz x) => .rt (.d x) st
  | some _ => .rt (.c n) st
  | none => .bad
theorem ret_c (n : Nat) : retW (.c n) st = retC n st (st[n]?) := rfl
theorem retC_l (n : Nat) : retC n st (some (.lst ds)) = .rt (.d (.list ds)) (st.set n (.fz (.list ds))) := rfl
theorem retC_f (n : Nat) : retC n st (some (.fz p)) = .rt (.d p) st := rfl
theorem v_ifS : fIfS ft f g env st = RS.ofE (ft env st) env (selK f g env) := rfl
variable {gg : FG} {gs : FGs}
def asg1 (gg : FG) (env : Ev) (w : W) (st : Sto) : RS := RS.ofG (gg w env st)
theorem v_asg : fAsg fa gg env st = RS.ofE (fa env st) env (asg1 gg env) := rfl
theorem v_asg1 : asg1 gg env w st = RS.ofG (gg w env st) := rfl
theorem g_n (i : Nat) : gN i w env st = some (env.set i (some w), st) := rfl
def gtV (n : Nat) (gs : FGs) (env : Ev) (st : Sto) : Option PyData → Option (Ev × Sto)
  | some (.tuple ds) => if ds.length = n then gs (ds.map W.d) env st else none
  | _ => none
theorem g_tup (n : Nat) : gTup n gs w env st = gtV n gs env st (view w st) := rfl
theorem gtV_t (n : Nat) : gtV n gs env st (some (.tuple ds)) = if ds.length = n then gs (ds.map W.d) env st else none := rfl
theorem gs_nil : gsNil [] env st = some (env, st) := rfl
def gs1 (gs : FGs) (ws : List W) (p : Ev × Sto) : Option (Ev × Sto) := gs ws p.1 p.2
theorem gs_cons : gsCons gg gs (w :: ws) env st = (gg w env st).bind (gs1 gs ws) := rfl
theorem v_gs1 : gs1 gs ws (e, st) = gs ws e st := rfl
def tryR (hits : Str → Option Bool) (g : FS) : RS → RS
  | .ex c e st1 => (match hits c with
    | some true => g e st1
    | some false => .ex c e st1
    | none => .bad)
  | r => r
variable {hits : Str → Option Bool}
theorem v_try : fTry f hits g env st = tryR hits g (f env st) := by
  unfold fTry tryR
  cases f env st <;> rfl
theorem try_rt : tryR hits g (.rt w st) = .rt w st := rfl
theorem try_nx : tryR hits g (.nx e st) = .nx e st := rfl
theorem try_ex : tryR hits g (.ex c e st) = (match hits c with
    | some true => g e st
    | some false => .ex c e st
    | none => .bad) := rfl
theorem v_raise : fRaise c env st = .ex c env st := rfl
def funR (n : Nat) : RS → Res W
  | .nx _ st' => .ok (.d .none) (st'.take n)
  | .rt w st' => retCut n w st'
  | .ex c _ st' => .ex c (st'.take n)
  | _ => .bad
theorem v_fun (n : Nat) : fFun n f ws st = funR st.length (f (ws.map some ++ List.replicate (n - ws.length) none) st) := by
  unfold fFun funR
  cases f (ws.map some ++ List.replicate (n - ws.length) none) st <;> rfl
theorem fun_nx (n : Nat) : funR n (.nx e st) = .ok (.d .none) (st.take n) := rfl
theorem fun_rt (n : Nat) : funR n (.rt w st) = retCut n w st := rfl
theorem fun_ex (n : Nat) : funR n (.ex c e st) = .ex c (st.take n) := rfl
theorem cut_d (n : Nat) : retCut n (.d p) st = .ok (.d p) (st.take n) := rfl
variable {fi : FI} {vs : List Nat}
def for1 (gg : FG) (f : FS) (env : Ev) (ds : List PyData) (st : Sto) : RS := fLoop gg f ds env st
theorem v_for : fFor fi gg f env st = RS.ofE (fi env st) env (for1 gg f env) := rfl
theorem v_for1 : for1 gg f env ds st = fLoop gg f ds env st := rfl
def items1 (w : W) (st : Sto) : Res (List PyData) := Res.of2 ((frz1 w st).bind fun q => (seqOf q.1).map fun ds => (ds, q.2))
theorem v_items : fItems fa env st = (fa env st).bind items1 := rfl
theorem v_items1 : items1 w st = Res.of2 ((frz1 w st).bind fun q => (seqOf q.1).map fun ds => (ds, q.2)) := rfl
def enum1 (ws : List W) (st : Sto) : Res (List PyData) := Res.of2 (one1 ws fun w => (frz1 w st).bind fun q => (seqOf q.1).map fun ds => (enumD 0 ds, q.2))
theorem v_enum : fEnum fas env st = (fas env st).bind enum1 := rfl
theorem v_enum1 : enum1 ws st = Res.of2 (one1 ws fun w => (frz1 w st).bind fun q => (seqOf q.1).map fun ds => (enumD 0 ds, q.2)) := rfl
theorem one1_1 {kk : W → Option α} : one1 [w] kk = kk w := rfl
theorem seq_l : seqOf (.list ds) = some ds := rfl
theorem seq_t : seqOf (.tuple ds) = some ds := rfl
def rngV : List W → Option (List PyData)
  | [.d (.int j)] => if inR j then some (rangeD 0 j.toNat) else none
  | _ => none
def rng1 (ws : List W) (st : Sto) : Res (List PyData) := Res.of (rngV ws) st
theorem v_rng1 : fRng1 fas env st = (fas env st).bind rng1 := rfl
theorem v_rng11 : rng1 ws st = Res.of (rngV ws) st := rfl
theorem rngV_1 : rngV [.d (.int j)] = if inR j then some (rangeD 0 j.toNat) else none := rfl
def rngV2 : List W → Option (List PyData)
  | [.d (.int i), .d (.int j)] => if inR i && inR j then some (rangeD i (j - i).toNat) else none
  | _ => none
def rng2 (ws : List W) (st : Sto) : Res (List PyData) := Res.of (rngV2 ws) st
theorem v_rng2 : fRng2 fas env st = (fas env st).bind rng2 := rfl
theorem v_rng21 : rng2 ws st = Res.of (rngV2 ws) st := rfl
theorem rngV2_1 : rngV2 [.d (.int i), .d (.int j)] = if inR i && inR j then some (rangeD i (j - i).toNat) else none := rfl
def compR : Res (List PyData) → Res W
  | .ok r st2 => if r.length ≤ LIM then .ok (.d (.list r)) st2 else .bad
  | _ => .bad
def comp1 (gg : FG) (ft : FT) (fa : FE) (env : Ev) (ds : List PyData) (st : Sto) : Res W := compR (compGo gg ft fa env ds st)
theorem v_comp1 : comp1 gg ft fa env ds st = compR (compGo gg ft fa env ds st) := rfl
theorem v_comp : fComp fi gg ft fa vs env st = (fi env st).bind (comp1 gg ft fa (wipeE env vs)) := by
  unfold fComp
  cases fi env st with
  | ok ds st1 =>
    show (match compGo gg ft fa (wipeE env vs) ds st1 with
      | .ok r st2 => if r.length ≤ LIM then Res.ok (W.d (.list r)) st2 else .bad
      | _ => .bad) = comp1 gg ft fa (wipeE env vs) ds st1
    unfold comp1 compR
    cases compGo gg ft fa (wipeE env vs) ds st1 <;> rfl
  | _ => rfl
theorem compR_ok : compR (.ok ds st) = if ds.length ≤ LIM then .ok (.d (.list ds)) st else .bad := rfl
def compRN : Res (List PyData) → Res W
  | .ok r st2 => if r.length ≤ LIM then .ok (.c st2.length) (st2 ++ [.lst r]) else .bad
  | _ => .bad
def compN1 (gg : FG) (ft : FT) (fa : FE) (env : Ev) (ds : List PyData) (st : Sto) : Res W := compRN (compGo gg ft fa env ds st)
theorem v_compN1 : compN1 gg ft fa env ds st = compRN (compGo gg ft fa env ds st) := rfl
theorem v_compN : fCompN fi gg ft fa vs env st = (fi env st).bind (compN1 gg ft fa (wipeE env vs)) := by
  unfold fCompN
  cases fi env st with
  | ok ds st1 =>
    show (match compGo gg ft fa (wipeE env vs) ds st1 with
      | .ok r st2 => if r.length ≤ LIM then Res.ok (W.c st2.length) (st2 ++ [.lst r]) else .bad
      | _ => .bad) = compN1 gg ft fa (wipeE env vs) ds st1
    unfold compN1 compRN
    cases compGo gg ft fa (wipeE env vs) ds st1 <;> rfl
  | _ => rfl
theorem compRN_ok : compRN (.ok ds st) = if ds.length ≤ LIM then .ok (.c st.length) (st ++ [.lst ds]) else .bad := rfl
def loopR (gg : FG) (f : FS) (ds : List PyData) : RS → RS
  | .nx e st2 => fLoop gg f ds e st2
  | .ct e st2 => fLoop gg f ds e st2
  | .bk e st2 => .nx e st2
  | r => r
def loopG (gg : FG) (f : FS) (ds : List PyData) : Option (Ev × Sto) → RS
  | some p => loopR gg f ds (f p.1 p.2)
  | none => .bad
theorem v_loop0 : fLoop gg f [] env st = .nx env st := rfl
theorem v_loop : fLoop gg f (p :: ds) env st = loopG gg f ds (gg (.d p) env st) := by
  show (match gg (.d p) env st with
    | some p => (match f p.1 p.2 with
      | .nx e st2 => fLoop gg f ds e st2
      | .ct e st2 => fLoop gg f ds e st2
      | .bk e st2 => .nx e st2
      | r => r)
    | none => .bad) = _
  cases gg (.d p) env st with
  | none => rfl
  | some q =>
    show (match f q.1 q.2 with
      | .nx e st2 => fLoop gg f ds e st2
      | .ct e st2 => fLoop gg f ds e st2
      | .bk e st2 => .nx e st2
      | r => r) = loopR gg f ds (f q.1 q.2)
    cases f q.1 q.2 <;> rfl
theorem loopG_s : loopG gg f ds (some (e, st)) = loopR gg f ds (f e st) := rfl
theorem loop_nx : loopR gg f ds (.nx e st) = fLoop gg f ds e st := rfl
theorem loop_ct : loopR gg f ds (.ct e st) = fLoop gg f ds e st := rfl
theorem loop_bk : loopR gg f ds (.bk e st) = .nx e st := rfl
theorem loop_rt : loopR gg f ds (.rt w st) = .rt w st := rfl
theorem loop_ex : loopR gg f ds (.ex c e st) = .ex c e st := rfl
theorem wipe_nil : wipeE env [] = env := rfl
theorem wipe_cons (n : Nat) : wipeE env (n :: vs) = (wipeE env vs).set n none := rfl
end
end FL.V
set_option Elab.async false
set_option linter.all false
set_option maxRecDepth 100000
set_option maxHeartbeats 4000000

/-! Printed by genall.py: the defs of all linked laws as Lean functions. -/
namespace FL
open PySem L2 FL
structure Fns where
  is_whole : List W → Sto → Res W
  is_word : List W → Sto → Res W
  is_name : List W → Sto → Res W
  is_flag : List W → Sto → Res W
  is_leaf : List W → Sto → Res W
  is_part : List W → Sto → Res W
  are_parts : List W → Sto → Res W
  parts_of : List W → Sto → Res W
  with_parts : List W → Sto → Res W
  size_of : List W → Sto → Res W
  is_tree : List W → Sto → Res W
  need_tree : List W → Sto → Res W
  leaves_of : List W → Sto → Res W
  leaves : List W → Sto → Res W
  part_at : List W → Sto → Res W
  part : List W → Sto → Res W
  flags_of : List W → Sto → Res W
  flags : List W → Sto → Res W
  cut_off : List W → Sto → Res W
  tick_do : List W → Sto → Res W
  tick_row : List W → Sto → Res W
  tick_anew : List W → Sto → Res W
  tick_beside : List W → Sto → Res W
  tick_counted : List W → Sto → Res W
  tick_one : List W → Sto → Res W
  tick : List W → Sto → Res W
  all_news : List W → Sto → Res W
  first_of : List W → Sto → Res W
  stepped : List W → Sto → Res W
  graph_of : List W → Sto → Res W
  graph_of_k01 : List W → Sto → Res W
  how_many : List W → Sto → Res W
  how_many_k01 : List W → Sto → Res W
  can_tell : List W → Sto → Res W
  can_tell_k01 : List W → Sto → Res W
  fastest : List W → Sto → Res W
  fastest_k01 : List W → Sto → Res W
  on_steps : List W → Sto → Res W
  longest : List W → Sto → Res W
  longest_k01 : List W → Sto → Res W
  for_ever : List W → Sto → Res W
  for_ever_k01 : List W → Sto → Res W
  is_news_row : List W → Sto → Res W
  is_for_ever : List W → Sto → Res W
  is_for_ever_k01 : List W → Sto → Res W
  search : List W → Sto → Res W
  search_k01 : List W → Sto → Res W
  parts_them : List W → Sto → Res W
  parts_them_k01 : List W → Sto → Res W
  alike : List W → Sto → Res W
  alike_k01 : List W → Sto → Res W
  is_at_once : List W → Sto → Res W
  joined : List W → Sto → Res W
  simpler_many : List W → Sto → Res W
  simpler : List W → Sto → Res W
  form_of : List W → Sto → Res W
  form : List W → Sto → Res W
  is_news : List W → Sto → Res W
  run : List W → Sto → Res W
  head_of : List W → Sto → Res W
  text_of : List W → Sto → Res W
  shown : List W → Sto → Res W
  law_cell_at : List W → Sto → Res W
  law_mixed : List W → Sto → Res W
  law_draw : List W → Sto → Res W
  law_pick : List W → Sto → Res W
  law_leaf : List W → Sto → Res W
  law_part : List W → Sto → Res W
  law_size : List W → Sto → Res W
  law_inner : List W → Sto → Res W
  law_tree : List W → Sto → Res W
  law_leaves : List W → Sto → Res W
  law_spoilt : List W → Sto → Res W
  law_whole : List W → Sto → Res W
  law_is_leaf : List W → Sto → Res W
  law_is_part : List W → Sto → Res W
  law_which : List W → Sto → Res W
  law_ask : List W → Sto → Res W
  law_ask_k08 : List W → Sto → Res W
  law_ask_k11 : List W → Sto → Res W
  law_ask_k12 : List W → Sto → Res W
  law_ask_k13 : List W → Sto → Res W
  law_ask_k14 : List W → Sto → Res W
  law_ask_k18 : List W → Sto → Res W
  law_ask_k26 : List W → Sto → Res W
  law_ask_k29 : List W → Sto → Res W
  law_news : List W → Sto → Res W
  law_clear : List W → Sto → Res W
  law_cut : List W → Sto → Res W
  law_end : List W → Sto → Res W
  law_tick : List W → Sto → Res W
  law_many : List W → Sto → Res W
  law_beside : List W → Sto → Res W
  law_one : List W → Sto → Res W
  law_ticked : List W → Sto → Res W
  law_named : List W → Sto → Res W
  law_named_k30 : List W → Sto → Res W
  law_closed : List W → Sto → Res W
  law_at : List W → Sto → Res W
  law_with : List W → Sto → Res W
  law_ways : List W → Sto → Res W
  law_deep : List W → Sto → Res W
  law_put : List W → Sto → Res W
  law_moved : List W → Sto → Res W
  law_add : List W → Sto → Res W
  law_take : List W → Sto → Res W
  woken : List W → Sto → Res W
  law_due : List W → Sto → Res W
  law_due_k18 : List W → Sto → Res W
  law_due_k20 : List W → Sto → Res W
  law_call : List W → Sto → Res W
  law_do : List W → Sto → Res W
  law_all_news : List W → Sto → Res W
  law_step : List W → Sto → Res W
  law_first : List W → Sto → Res W
  law_graph : List W → Sto → Res W
  law_goes_on : List W → Sto → Res W
  law_parts : List W → Sto → Res W
  law_changed : List W → Sto → Res W
  law_swapped : List W → Sto → Res W
  law_alike : List W → Sto → Res W
  law_alike_k30 : List W → Sto → Res W
  law_parted : List W → Sto → Res W
  law_at_once : List W → Sto → Res W
  law_form : List W → Sto → Res W
  law_wrapped : List W → Sto → Res W
  number : List W → Sto → Res W
  leaf_of : List W → Sto → Res W
  part_of : List W → Sto → Res W
  read_part : List W → Sto → Res W
  read : List W → Sto → Res W
  law_shown : List W → Sto → Res W
  law_back : List W → Sto → Res W
  law_head : List W → Sto → Res W
  law_leaf_of : List W → Sto → Res W
  law_read : List W → Sto → Res W
  law_without : List W → Sto → Res W
  law_anew : List W → Sto → Res W
  law_k01 : List W → Sto → Res W
  law_k02 : List W → Sto → Res W
  law_k03 : List W → Sto → Res W
  law_k04 : List W → Sto → Res W
  law_k05 : List W → Sto → Res W
  law_k06 : List W → Sto → Res W
  law_k07 : List W → Sto → Res W
  law_k08 : List W → Sto → Res W
  law_k09 : List W → Sto → Res W
  law_k10 : List W → Sto → Res W
  law_k11 : List W → Sto → Res W
  law_k12 : List W → Sto → Res W
  law_k13 : List W → Sto → Res W
  law_k14 : List W → Sto → Res W
  law_k15 : List W → Sto → Res W
  law_k16 : List W → Sto → Res W
  law_k17 : List W → Sto → Res W
  law_k18 : List W → Sto → Res W
  law_k19 : List W → Sto → Res W
  law_k20 : List W → Sto → Res W
  law_k21 : List W → Sto → Res W
  law_k22 : List W → Sto → Res W
  law_k23 : List W → Sto → Res W
  law_k24 : List W → Sto → Res W
  law_k25 : List W → Sto → Res W
  law_k26 : List W → Sto → Res W
  law_k27 : List W → Sto → Res W
  law_k28 : List W → Sto → Res W
  law_k29 : List W → Sto → Res W
  law_k30 : List W → Sto → Res W
def hits_TooMany_0 (c : Str) : Option Bool := if c = "TooMany" then some true else none
def hits_TreeError_1 (c : Str) : Option Bool := if c = "NoTree" ∨ c = "NoText" then some true else none
def b_is_whole (g : Fns) : FS :=
  (fRet (fAndV (fCB isiW (fCons (fVar 0) (fCons (fTy "int") fNil))) (fAndV (fNotV (fCB isiW (fCons (fVar 0) (fCons (fTy "bool") fNil)))) (fChain (pure2S leD) (pure2S leD) (fVar 1) (fVar 0) (fVar 2)))))
def b_is_word (g : Fns) : FS :=
  (fRet (fAndV (fCB isiW (fCons (fVar 0) (fCons (fTy "str") fNil))) (fBin (pure2S inD) (fVar 0) (fVar 1))))
def b_is_name (g : Fns) : FS :=
  (fRet (fAndV (fCB isiW (fCons (fVar 0) (fCons (fTy "str") fNil))) (fAndV (fChain (pure2S leD) (pure2S leD) (fC (.int 1)) (fCB lenW (fCons (fVar 0) fNil)) (fC (.int 3))) (fBin (pure2S eqD) (fMt "str" stripW (fVar 0) (fCons (fC (PyData.str "abcdefghijklmnopqrstuvwxyz")) fNil)) (fC (.str ""))))))
def b_is_flag (g : Fns) : FS :=
  (fRet (fAndV (fCB isiW (fCons (fVar 0) (fCons (fTy "str") fNil))) (fAndV (fBin (pure2S eqD) (fCB lenW (fCons (fVar 0) fNil)) (fC (.int 1))) (fBin (pure2S inD) (fVar 0) (fC (PyData.str "abc"))))))
def b_is_leaf (g : Fns) : FS :=
  (fSeq (fIfS (fTest (fBin (pure2S eqD) (fBin ixW (fVar 0) (fC (.int 0))) (fC (.str "ask")))) (fRet (fAndV (fBin (pure2S eqD) (fCB lenW (fCons (fVar 0) fNil)) (fC (.int 2))) (fCall g.is_flag (fCons (fBin ixW (fVar 0) (fC (.int 1))) fNil)))) fSkip)
  (fSeq (fIfS (fTest (fBin (pure2S eqD) (fBin ixW (fVar 0) (fC (.int 0))) (fC (.str "set")))) (fRet (fAndV (fBin (pure2S eqD) (fCB lenW (fCons (fVar 0) fNil)) (fC (.int 3))) (fAndV (fCall g.is_flag (fCons (fBin ixW (fVar 0) (fC (.int 1))) fNil)) (fCB isiW (fCons (fBin ixW (fVar 0) (fC (.int 2))) (fCons (fTy "bool") fNil)))))) fSkip)
  (fSeq (fIfS (fOr (fTest (fBin (pure2S neD) (fBin ixW (fVar 0) (fC (.int 0))) (fC (.str "do")))) (fOr (fTest (fBin (pure2S neD) (fCB lenW (fCons (fVar 0) fNil)) (fC (.int 4)))) (fNot (fTest (fCall g.is_name (fCons (fBin ixW (fVar 0) (fC (.int 1))) fNil)))))) (fRet (fC (.bool false))) fSkip)
  (fRet (fAndV (fCall g.is_whole (fCons (fBin ixW (fVar 0) (fC (.int 2))) (fCons (fC (.int 1)) (fCons (fC (PyData.int 4)) fNil)))) (fCall g.is_word (fCons (fBin ixW (fVar 0) (fC (.int 3))) (fCons (fC (PyData.tuple [(PyData.str "yes"), (PyData.str "no")])) fNil))))))))
def b_is_part (g : Fns) : FS :=
  (fSeq (fIfS (fOr (fTest (fBin (pure2S eqD) (fVar 1) (fC (.int 0)))) (fOr (fNot (fTest (fCB isiW (fCons (fVar 0) (fCons (fTy "tuple") fNil))))) (fOr (fTest (fBin (pure2S ltD) (fCB lenW (fCons (fVar 0) fNil)) (fC (.int 2)))) (fNot (fTest (fCB isiW (fCons (fBin ixW (fVar 0) (fC (.int 0))) (fCons (fTy "str") fNil)))))))) (fRet (fC (.bool false))) fSkip)
  (fSeq (fIfS (fTest (fBin (pure2S inD) (fBin ixW (fVar 0) (fC (.int 0))) (fTup (fCons (fC (.str "ask")) (fCons (fC (.str "set")) (fCons (fC (.str "do")) fNil)))))) (fRet (fCall g.is_leaf (fCons (fVar 0) fNil))) fSkip)
  (fSeq (fIfS (fTest (fBin (pure2S inD) (fBin ixW (fVar 0) (fC (.int 0))) (fC (PyData.tuple [(PyData.str "row"), (PyData.str "choice"), (PyData.str "row anew"), (PyData.str "choice anew")])))) (fRet (fAndV (fBin (pure2S eqD) (fCB lenW (fCons (fVar 0) fNil)) (fC (.int 2))) (fCall g.are_parts (fCons (fBin ixW (fVar 0) (fC (.int 1))) (fCons (fBin (pure2S subD) (fVar 1) (fC (.int 1))) fNil))))) fSkip)
  (fSeq (fIfS (fTest (fBin (pure2S inD) (fBin ixW (fVar 0) (fC (.int 0))) (fC (PyData.tuple [(PyData.str "not"), (PyData.str "yes"), (PyData.str "no"), (PyData.str "keep")])))) (fRet (fAndV (fBin (pure2S eqD) (fCB lenW (fCons (fVar 0) fNil)) (fC (.int 2))) (fCall g.is_part (fCons (fBin ixW (fVar 0) (fC (.int 1))) (fCons (fBin (pure2S subD) (fVar 1) (fC (.int 1))) fNil))))) fSkip)
  (fSeq (fIfS (fTest (fBin (pure2S inD) (fBin ixW (fVar 0) (fC (.int 0))) (fC (PyData.tuple [(PyData.str "again"), (PyData.str "till"), (PyData.str "hold")])))) (fRet (fAndV (fBin (pure2S eqD) (fCB lenW (fCons (fVar 0) fNil)) (fC (.int 3))) (fAndV (fCall g.is_whole (fCons (fBin ixW (fVar 0) (fC (.int 1))) (fCons (fC (.int 1)) (fCons (fC (PyData.int 4)) fNil)))) (fCall g.is_part (fCons (fBin ixW (fVar 0) (fC (.int 2))) (fCons (fBin (pure2S subD) (fVar 1) (fC (.int 1))) fNil)))))) fSkip)
  (fSeq (fIfS (fOr (fTest (fBin (pure2S neD) (fBin ixW (fVar 0) (fC (.int 0))) (fC (.str "beside")))) (fOr (fTest (fBin (pure2S neD) (fCB lenW (fCons (fVar 0) fNil)) (fC (.int 3)))) (fNot (fTest (fCall g.are_parts (fCons (fBin ixW (fVar 0) (fC (.int 2))) (fCons (fBin (pure2S subD) (fVar 1) (fC (.int 1))) fNil))))))) (fRet (fC (.bool false))) fSkip)
  (fRet (fCall g.is_whole (fCons (fBin ixW (fVar 0) (fC (.int 1))) (fCons (fC (.int 1)) (fCons (fCB lenW (fCons (fBin ixW (fVar 0) (fC (.int 2))) fNil)) fNil)))))))))))
def b_are_parts (g : Fns) : FS :=
  (fRet (fAndV (fCB isiW (fCons (fVar 0) (fCons (fTy "tuple") fNil))) (fAndV (fBin (pure2S gtD) (fCB lenW (fCons (fVar 0) fNil)) (fC (.int 0))) (fCB (rd1 allD) (fCons (fComp (fItems (fVar 0)) (gN 2) fYes (fCall g.is_part (fCons (fVar 2) (fCons (fVar 1) fNil))) [2]) fNil)))))
def b_parts_of (g : Fns) : FS :=
  (fSeq (fIfS (fTest (fBin (pure2S inD) (fBin ixW (fVar 0) (fC (.int 0))) (fC (PyData.tuple [(PyData.str "row"), (PyData.str "choice"), (PyData.str "row anew"), (PyData.str "choice anew")])))) (fRet (fBin ixW (fVar 0) (fC (.int 1)))) fSkip)
  (fSeq (fIfS (fTest (fBin (pure2S inD) (fBin ixW (fVar 0) (fC (.int 0))) (fC (PyData.tuple [(PyData.str "not"), (PyData.str "yes"), (PyData.str "no"), (PyData.str "keep")])))) (fRet (fTup (fCons (fBin ixW (fVar 0) (fC (.int 1))) fNil))) fSkip)
  (fSeq (fIfS (fTest (fBin (pure2S inD) (fBin ixW (fVar 0) (fC (.int 0))) (fC (PyData.tuple [(PyData.str "again"), (PyData.str "till"), (PyData.str "hold")])))) (fRet (fTup (fCons (fBin ixW (fVar 0) (fC (.int 2))) fNil))) fSkip)
  (fSeq (fIfS (fTest (fBin (pure2S eqD) (fBin ixW (fVar 0) (fC (.int 0))) (fC (.str "beside")))) (fRet (fBin ixW (fVar 0) (fC (.int 2)))) fSkip)
  (fRet (fTup fNil))))))
def b_with_parts (g : Fns) : FS :=
  (fSeq (fIfS (fTest (fBin (pure2S inD) (fBin ixW (fVar 0) (fC (.int 0))) (fC (PyData.tuple [(PyData.str "row"), (PyData.str "choice"), (PyData.str "row anew"), (PyData.str "choice anew")])))) (fRet (fTup (fCons (fBin ixW (fVar 0) (fC (.int 0))) (fCons (fCB (rd1 tupD) (fCons (fVar 1) fNil)) fNil)))) fSkip)
  (fSeq (fIfS (fTest (fBin (pure2S inD) (fBin ixW (fVar 0) (fC (.int 0))) (fC (PyData.tuple [(PyData.str "not"), (PyData.str "yes"), (PyData.str "no"), (PyData.str "keep")])))) (fRet (fTup (fCons (fBin ixW (fVar 0) (fC (.int 0))) (fCons (fBin ixW (fVar 1) (fC (.int 0))) fNil)))) fSkip)
  (fSeq (fIfS (fTest (fBin (pure2S inD) (fBin ixW (fVar 0) (fC (.int 0))) (fC (PyData.tuple [(PyData.str "again"), (PyData.str "till"), (PyData.str "hold")])))) (fRet (fTup (fCons (fBin ixW (fVar 0) (fC (.int 0))) (fCons (fBin ixW (fVar 0) (fC (.int 1))) (fCons (fBin ixW (fVar 1) (fC (.int 0))) fNil))))) fSkip)
  (fRet (fTup (fCons (fBin ixW (fVar 0) (fC (.int 0))) (fCons (fBin ixW (fVar 0) (fC (.int 1))) (fCons (fCB (rd1 tupD) (fCons (fVar 1) fNil)) fNil))))))))
def b_size_of (g : Fns) : FS :=
  (fRet (fBin (pure2 addD) (fC (.int 1)) (fCB (rd1 sumD) (fCons (fComp (fItems (fCall g.parts_of (fCons (fVar 0) fNil))) (gN 1) fYes (fCall g.size_of (fCons (fVar 1) fNil)) [1]) fNil))))
def b_is_tree (g : Fns) : FS :=
  (fRet (fAndV (fCall g.is_part (fCons (fVar 0) (fCons (fC (PyData.int 5)) fNil))) (fBin (pure2S leD) (fCall g.size_of (fCons (fVar 0) fNil)) (fC (PyData.int 14)))))
def b_need_tree (g : Fns) : FS :=
  (fIfS (fNot (fTest (fCall g.is_tree (fCons (fVar 0) fNil)))) (fRaise "NoTree") fSkip)
def b_leaves_of (g : Fns) : FS :=
  (fSeq (fIfS (fTest (fBin (pure2S eqD) (fCall g.parts_of (fCons (fVar 0) fNil)) (fTup fNil))) (fRet (fLst (fCons (fVar 1) fNil))) fSkip)
  (fSeq (fAsg (fNew fNil) (gN 2))
  (fSeq (fFor (fEnum (fCons (fCall g.parts_of (fCons (fVar 0) fNil)) fNil)) (gTup 2 (gsCons (gN 3) (gsCons (gN 4) gsNil))) (fEx (fMt "list" extW (fVar 2) (fCons (fCall g.leaves_of (fCons (fVar 4) (fCons (fBin (pure2 addD) (fVar 1) (fTup (fCons (fVar 3) fNil))) fNil))) fNil))))
  (fRet (fVar 2)))))
def b_leaves (g : Fns) : FS :=
  (fSeq (fEx (fCall g.need_tree (fCons (fVar 0) fNil)))
  (fRet (fComp (fItems (fCall g.leaves_of (fCons (fVar 0) (fCons (fTup fNil) fNil)))) (gN 1) fYes (fTup (fCons (fVar 1) (fCons (fCall g.part_at (fCons (fVar 0) (fCons (fVar 1) fNil))) fNil))) [1])))
def b_part_at (g : Fns) : FS :=
  (fSeq (fIfS (fNot (fTest (fCB isiW (fCons (fVar 1) (fCons (fTy "tuple") fNil))))) (fRaise "NoWay") fSkip)
  (fSeq (fFor (fItems (fVar 1)) (gN 2) (fSeq (fIfS (fNot (fTest (fCall g.is_whole (fCons (fVar 2) (fCons (fC (.int 0)) (fCons (fBin (pure2S subD) (fCB lenW (fCons (fCall g.parts_of (fCons (fVar 0) fNil)) fNil)) (fC (.int 1))) fNil)))))) (fRaise "NoWay") fSkip)
  (fAsg (fBin ixW (fCall g.parts_of (fCons (fVar 0) fNil)) (fVar 2)) (gN 0))))
  (fRet (fVar 0))))
def b_part (g : Fns) : FS :=
  (fSeq (fEx (fCall g.need_tree (fCons (fVar 0) fNil)))
  (fRet (fCall g.part_at (fCons (fVar 0) (fCons (fVar 1) fNil)))))
def b_flags (g : Fns) : FS :=
  (fSeq (fEx (fCall g.need_tree (fCons (fVar 0) fNil)))
  (fRet (fCall g.flags_of (fCons (fVar 0) fNil))))
def b_cut_off (g : Fns) : FS :=
  (fSeq (fIfS (fTest (fBin (isNW false) (fVar 1) (fC .none))) (fRet (fLst fNil)) fSkip)
  (fSeq (fIfS (fTest (fBin (pure2S eqD) (fBin ixW (fVar 0) (fC (.int 0))) (fC (.str "do")))) (fRet (fLst (fCons (fTup (fCons (fC (.str "cut")) (fCons (fBin ixW (fVar 0) (fC (.int 1))) fNil))) fNil))) fSkip)
  (fSeq (fIfS (fTest (fBin (pure2S inD) (fBin ixW (fVar 0) (fC (.int 0))) (fC (PyData.tuple [(PyData.str "not"), (PyData.str "yes"), (PyData.str "no"), (PyData.str "keep")])))) (fRet (fCall g.cut_off (fCons (fBin ixW (fVar 0) (fC (.int 1))) (fCons (fBin ixW (fVar 1) (fC (.int 0))) fNil)))) fSkip)
  (fSeq (fIfS (fTest (fBin (pure2S inD) (fBin ixW (fVar 0) (fC (.int 0))) (fC (PyData.tuple [(PyData.str "again"), (PyData.str "till"), (PyData.str "hold")])))) (fRet (fCall g.cut_off (fCons (fBin ixW (fVar 0) (fC (.int 2))) (fCons (fBin ixW (fVar 1) (fC (.int 1))) fNil)))) fSkip)
  (fSeq (fIfS (fTest (fBin (pure2S eqD) (fBin ixW (fVar 0) (fC (.int 0))) (fC (.str "beside")))) (fSeq (fAsg (fNew fNil) (gN 2))
  (fSeq (fFor (fZip (fCons (fBin ixW (fVar 0) (fC (.int 2))) (fCons (fVar 1) fNil))) (gTup 2 (gsCons (gN 3) (gsCons (gN 4) gsNil))) (fIfS (fTest (fBin (pure2S ninD) (fVar 4) (fTup (fCons (fC (.str "yes")) (fCons (fC (.str "no")) fNil))))) (fEx (fMt "list" extW (fVar 2) (fCons (fCall g.cut_off (fCons (fVar 3) (fCons (fVar 4) fNil))) fNil))) fSkip))
  (fRet (fVar 2)))) fSkip)
  (fRet (fCall g.cut_off (fCons (fBin ixW (fBin ixW (fVar 0) (fC (.int 1))) (fBin ixW (fVar 1) (fC (.int 0)))) (fCons (fBin ixW (fVar 1) (fC (.int 1))) fNil)))))))))
def b_tick_do (g : Fns) : FS :=
  (fSeq (fAsg (fVar 0) (gTup 4 (gsCons (gN 2) (gsCons (gN 3) (gsCons (gN 4) (gsCons (gN 5) gsNil))))))
  (fSeq (fAsg (fNew fNil) (gN 6))
  (fSeq (fAsg (fC (.int 1)) (gN 7))
  (fSeq (fIfS (fTest (fBin (isNW false) (fVar 1) (fC .none))) (fEx (fMt "list" appW (fVar 6) (fCons (fTup (fCons (fC (.str "begin")) (fCons (fVar 3) fNil))) fNil))) (fAsg (fBin (pure2 addD) (fBin ixW (fVar 1) (fC (.int 0))) (fC (.int 1))) (gN 7)))
  (fSeq (fIfS (fTest (fBin (pure2S ltD) (fVar 7) (fVar 4))) (fRet (fTup (fCons (fC (.str "on")) (fCons (fTup (fCons (fVar 7) fNil)) (fCons (fVar 6) fNil))))) fSkip)
  (fRet (fTup (fCons (fVar 5) (fCons (fC .none) (fCons (fBin (pure2 addD) (fVar 6) (fLst (fCons (fTup (fCons (fC (.str "end")) (fCons (fVar 3) (fCons (fVar 5) fNil)))) fNil))) fNil))))))))))
def b_tick_row (g : Fns) : FS :=
  (fSeq (fAsg (fIf (fTest (fBin (isNW false) (fVar 1) (fC .none))) (fTup (fCons (fC (.int 0)) (fCons (fC .none) fNil))) (fVar 1)) (gTup 2 (gsCons (gN 4) (gsCons (gN 5) gsNil))))
  (fSeq (fAsg (fNew fNil) (gN 6))
  (fSeq (fWhile WH (fTest (fBin (pure2S ltD) (fVar 4) (fCB lenW (fCons (fBin ixW (fVar 0) (fC (.int 1))) fNil)))) (fSeq (fAsg (fCall g.tick (fCons (fBin ixW (fBin ixW (fVar 0) (fC (.int 1))) (fVar 4)) (fCons (fVar 5) (fCons (fVar 2) fNil)))) (gTup 3 (gsCons (gN 7) (gsCons (gN 8) (gsCons (gN 9) gsNil)))))
  (fSeq (fEx (fMt "list" extW (fVar 6) (fCons (fVar 9) fNil)))
  (fSeq (fIfS (fTest (fBin (pure2S eqD) (fVar 7) (fC (.str "on")))) (fRet (fTup (fCons (fC (.str "on")) (fCons (fTup (fCons (fVar 4) (fCons (fVar 8) fNil))) (fCons (fVar 6) fNil))))) fSkip)
  (fSeq (fIfS (fTest (fBin (pure2S neD) (fVar 7) (fVar 3))) (fRet (fTup (fCons (fVar 7) (fCons (fC .none) (fCons (fVar 6) fNil))))) fSkip)
  (fSeq (fAsg (fBin (pure2 addD) (fVar 4) (fC (.int 1))) (gN 4))
  (fAsg (fC .none) (gN 5))))))))
  (fRet (fTup (fCons (fVar 3) (fCons (fC .none) (fCons (fVar 6) fNil))))))))
def b_tick_anew (g : Fns) : FS :=
  (fSeq (fAsg (fIf (fTest (fBin (isNW false) (fVar 1) (fC .none))) (fTup (fCons (fCB lenW (fCons (fBin ixW (fVar 0) (fC (.int 1))) fNil)) (fCons (fC .none) fNil))) (fVar 1)) (gTup 2 (gsCons (gN 4) (gsCons (gN 5) gsNil))))
  (fSeq (fAsg (fNew fNil) (gN 6))
  (fSeq (fFor (fEnum (fCons (fBin ixW (fVar 0) (fC (.int 1))) fNil)) (gTup 2 (gsCons (gN 7) (gsCons (gN 8) gsNil))) (fSeq (fAsg (fIf (fTest (fBin (pure2S eqD) (fVar 7) (fVar 4))) (fVar 5) (fC .none)) (gN 9))
  (fSeq (fAsg (fCall g.tick (fCons (fVar 8) (fCons (fVar 9) (fCons (fVar 2) fNil)))) (gTup 3 (gsCons (gN 10) (gsCons (gN 11) (gsCons (gN 12) gsNil)))))
  (fSeq (fEx (fMt "list" extW (fVar 6) (fCons (fVar 12) fNil)))
  (fIfS (fTest (fBin (pure2S neD) (fVar 10) (fVar 3))) (fSeq (fIfS (fTest (fChain (pure2S ltD) (pure2S ltD) (fVar 7) (fVar 4) (fCB lenW (fCons (fBin ixW (fVar 0) (fC (.int 1))) fNil)))) (fEx (fMt "list" extW (fVar 6) (fCons (fCall g.cut_off (fCons (fBin ixW (fBin ixW (fVar 0) (fC (.int 1))) (fVar 4)) (fCons (fVar 5) fNil))) fNil))) fSkip)
  (fSeq (fIfS (fTest (fBin (pure2S eqD) (fVar 10) (fC (.str "on")))) (fRet (fTup (fCons (fC (.str "on")) (fCons (fTup (fCons (fVar 7) (fCons (fVar 11) fNil))) (fCons (fVar 6) fNil))))) fSkip)
  (fRet (fTup (fCons (fVar 10) (fCons (fC .none) (fCons (fVar 6) fNil))))))) fSkip)))))
  (fRet (fTup (fCons (fVar 3) (fCons (fC .none) (fCons (fVar 6) fNil))))))))
def b_tick_counted (g : Fns) : FS :=
  (fSeq (fAsg (fVar 0) (gTup 3 (gsCons (gN 3) (gsCons (gN 4) (gsCons (gN 5) gsNil)))))
  (fSeq (fAsg (fIf (fTest (fBin (isNW false) (fVar 1) (fC .none))) (fTup (fCons (fC (.int 0)) (fCons (fC .none) fNil))) (fVar 1)) (gTup 2 (gsCons (gN 6) (gsCons (gN 7) gsNil))))
  (fSeq (fAsg (fCall g.tick (fCons (fVar 5) (fCons (fVar 7) (fCons (fVar 2) fNil)))) (gTup 3 (gsCons (gN 8) (gsCons (gN 9) (gsCons (gN 10) gsNil)))))
  (fSeq (fIfS (fTest (fBin (pure2S eqD) (fVar 3) (fC (.str "hold")))) (fSeq (fIfS (fTest (fBin (pure2S neD) (fVar 8) (fC (.str "on")))) (fRet (fTup (fCons (fVar 8) (fCons (fC .none) (fCons (fVar 10) fNil))))) fSkip)
  (fSeq (fIfS (fTest (fBin (pure2S eqD) (fBin (pure2 addD) (fVar 6) (fC (.int 1))) (fVar 4))) (fRet (fTup (fCons (fC (.str "no")) (fCons (fC .none) (fCons (fBin (pure2 addD) (fVar 10) (fCall g.cut_off (fCons (fVar 5) (fCons (fVar 9) fNil)))) fNil))))) fSkip)
  (fRet (fTup (fCons (fC (.str "on")) (fCons (fTup (fCons (fBin (pure2 addD) (fVar 6) (fC (.int 1))) (fCons (fVar 9) fNil))) (fCons (fVar 10) fNil))))))) fSkip)
  (fSeq (fIfS (fTest (fBin (pure2S eqD) (fVar 8) (fC (.str "on")))) (fRet (fTup (fCons (fC (.str "on")) (fCons (fTup (fCons (fVar 6) (fCons (fVar 9) fNil))) (fCons (fVar 10) fNil))))) fSkip)
  (fSeq (fIfS (fOr (fTest (fBin (pure2S eqD) (fVar 8) (fBin ixW (fLst (fCons (fC (.str "no")) (fCons (fC (.str "yes")) fNil))) (fCB (rd1 toI) (fCons (fBin (pure2S eqD) (fVar 3) (fC (.str "till"))) fNil))))) (fTest (fBin (pure2S eqD) (fBin (pure2 addD) (fVar 6) (fC (.int 1))) (fVar 4)))) (fRet (fTup (fCons (fVar 8) (fCons (fC .none) (fCons (fVar 10) fNil))))) fSkip)
  (fRet (fTup (fCons (fC (.str "on")) (fCons (fTup (fCons (fBin (pure2 addD) (fVar 6) (fC (.int 1))) (fCons (fC .none) fNil))) (fCons (fVar 10) fNil)))))))))))
def b_tick (g : Fns) : FS :=
  (fSeq (fAsg (fBin ixW (fVar 0) (fC (.int 0))) (gN 3))
  (fSeq (fIfS (fTest (fBin (pure2S eqD) (fVar 3) (fC (.str "ask")))) (fRet (fTup (fCons (fBin ixW (fLst (fCons (fC (.str "no")) (fCons (fC (.str "yes")) fNil))) (fCB (rd1 toI) (fCons (fBin ixW (fVar 2) (fBin ixW (fVar 0) (fC (.int 1)))) fNil))) (fCons (fC .none) (fCons (fLst fNil) fNil))))) fSkip)
  (fSeq (fIfS (fTest (fBin (pure2S eqD) (fVar 3) (fC (.str "set")))) (fSeq (fAsg (fBin ixW (fVar 0) (fC (.int 2))) (gSubL (fVar 2) (fBin ixW (fVar 0) (fC (.int 1)))))
  (fRet (fTup (fCons (fC (.str "yes")) (fCons (fC .none) (fCons (fLst (fCons (fTup (fCons (fC (.str "set")) (fCons (fBin ixW (fVar 0) (fC (.int 1))) (fCons (fBin ixW (fVar 0) (fC (.int 2))) fNil)))) fNil)) fNil)))))) fSkip)
  (fSeq (fIfS (fTest (fBin (pure2S eqD) (fVar 3) (fC (.str "do")))) (fRet (fCall g.tick_do (fCons (fVar 0) (fCons (fVar 1) fNil)))) fSkip)
  (fSeq (fIfS (fTest (fBin (pure2S eqD) (fVar 3) (fC (.str "row")))) (fRet (fCall g.tick_row (fCons (fVar 0) (fCons (fVar 1) (fCons (fVar 2) (fCons (fC (.str "yes")) fNil)))))) fSkip)
  (fSeq (fIfS (fTest (fBin (pure2S eqD) (fVar 3) (fC (.str "choice")))) (fRet (fCall g.tick_row (fCons (fVar 0) (fCons (fVar 1) (fCons (fVar 2) (fCons (fC (.str "no")) fNil)))))) fSkip)
  (fSeq (fIfS (fTest (fBin (pure2S eqD) (fVar 3) (fC (.str "row anew")))) (fRet (fCall g.tick_anew (fCons (fVar 0) (fCons (fVar 1) (fCons (fVar 2) (fCons (fC (.str "yes")) fNil)))))) fSkip)
  (fSeq (fIfS (fTest (fBin (pure2S eqD) (fVar 3) (fC (.str "choice anew")))) (fRet (fCall g.tick_anew (fCons (fVar 0) (fCons (fVar 1) (fCons (fVar 2) (fCons (fC (.str "no")) fNil)))))) fSkip)
  (fSeq (fIfS (fTest (fBin (pure2S eqD) (fVar 3) (fC (.str "beside")))) (fRet (fCall g.tick_beside (fCons (fVar 0) (fCons (fVar 1) (fCons (fVar 2) fNil))))) fSkip)
  (fSeq (fIfS (fTest (fBin (pure2S inD) (fVar 3) (fC (PyData.tuple [(PyData.str "again"), (PyData.str "till"), (PyData.str "hold")])))) (fRet (fCall g.tick_counted (fCons (fVar 0) (fCons (fVar 1) (fCons (fVar 2) fNil))))) fSkip)
  (fRet (fCall g.tick_one (fCons (fVar 0) (fCons (fVar 1) (fCons (fVar 2) fNil)))))))))))))))
def b_first_of (g : Fns) : FS :=
  (fRet (fTup (fCons (fC .none) (fCons (fCB (rd1 tupD) (fCons (fComp (fItems (fVar 0)) (gN 1) fYes (fTup (fCons (fVar 1) (fCons (fC (.bool false)) fNil))) [1]) fNil)) fNil))))
def b_how_many (g : Fns) : FS :=
  (fSeq (fEx (fCall g.need_tree (fCons (fVar 0) fNil)))
  (fRet (fCB lenW (fCons (fCall g.graph_of (fCons (fVar 0) fNil)) fNil))))
def b_how_many_k01 (g : Fns) : FS :=
  (fSeq (fEx (fCall g.need_tree (fCons (fVar 0) fNil)))
  (fRet (fCB lenW (fCons (fCall g.graph_of_k01 (fCons (fVar 0) fNil)) fNil))))
def b_is_news_row (g : Fns) : FS :=
  (fSeq (fIfS (fNot (fTest (fCB isiW (fCons (fVar 1) (fCons (fTy "tuple") fNil))))) (fRet (fC (.bool false))) fSkip)
  (fSeq (fAsg (fCall g.all_news (fCons (fVar 0) fNil)) (gN 2))
  (fRet (fCB (rd1 allD) (fCons (fComp (fItems (fVar 1)) (gN 3) fYes (fAndV (fCB isiW (fCons (fVar 3) (fCons (fTy "tuple") fNil))) (fBin (pure2S inD) (fVar 3) (fVar 2))) [3]) fNil)))))
def b_is_for_ever (g : Fns) : FS :=
  (fSeq (fEx (fCall g.need_tree (fCons (fVar 0) fNil)))
  (fSeq (fAsg (fCall g.flags_of (fCons (fVar 0) fNil)) (gN 2))
  (fSeq (fIfS (fOr (fNot (fTest (fCB isiW (fCons (fVar 1) (fCons (fTy "tuple") fNil))))) (fOr (fTest (fBin (pure2S neD) (fCB lenW (fCons (fVar 1) fNil)) (fC (.int 2)))) (fNot (fTest (fCB (rd1 allD) (fCons (fComp (fItems (fVar 1)) (gN 3) fYes (fCall g.is_news_row (fCons (fVar 2) (fCons (fVar 3) fNil))) [3]) fNil)))))) (fRet (fC (.bool false))) fSkip)
  (fSeq (fIfS (fOr (fTest (fBin (pure2S eqD) (fBin ixW (fVar 1) (fC (.int 1))) (fTup fNil))) (fTest (fBin (pure2S gtD) (fBin (pure2 addD) (fCB lenW (fCons (fBin ixW (fVar 1) (fC (.int 0))) fNil)) (fCB lenW (fCons (fBin ixW (fVar 1) (fC (.int 1))) fNil))) (fC (PyData.int 1500))))) (fRet (fC (.bool false))) fSkip)
  (fSeq (fAsg (fCall g.first_of (fCons (fVar 2) fNil)) (gN 4))
  (fSeq (fAsg (fC .none) (gN 5))
  (fSeq (fFor (fEnum (fCons (fBin (pure2 addD) (fBin ixW (fVar 1) (fC (.int 0))) (fBin ixW (fVar 1) (fC (.int 1)))) fNil)) (gTup 2 (gsCons (gN 6) (gsCons (gN 7) gsNil))) (fSeq (fIfS (fTest (fBin (pure2S eqD) (fVar 6) (fCB lenW (fCons (fBin ixW (fVar 1) (fC (.int 0))) fNil)))) (fAsg (fVar 4) (gN 5)) fSkip)
  (fSeq (fAsg (fCall g.stepped (fCons (fVar 0) (fCons (fVar 4) (fCons (fVar 7) fNil)))) (gTup 3 (gsCons (gN 8) (gsCons (gN 9) (gsCons (gN 4) gsNil)))))
  (fIfS (fTest (fBin (pure2S neD) (fVar 8) (fC (.str "on")))) (fRet (fC (.bool false))) fSkip))))
  (fRet (fBin (pure2S eqD) (fVar 4) (fVar 5))))))))))
def b_is_for_ever_k01 (g : Fns) : FS :=
  (fSeq (fEx (fCall g.need_tree (fCons (fVar 0) fNil)))
  (fSeq (fAsg (fCall g.flags_of (fCons (fVar 0) fNil)) (gN 2))
  (fSeq (fIfS (fOr (fNot (fTest (fCB isiW (fCons (fVar 1) (fCons (fTy "tuple") fNil))))) (fOr (fTest (fBin (pure2S neD) (fCB lenW (fCons (fVar 1) fNil)) (fC (.int 2)))) (fNot (fTest (fCB (rd1 allD) (fCons (fComp (fItems (fVar 1)) (gN 3) fYes (fCall g.is_news_row (fCons (fVar 2) (fCons (fVar 3) fNil))) [3]) fNil)))))) (fRet (fC (.bool false))) fSkip)
  (fSeq (fIfS (fOr (fTest (fBin (pure2S eqD) (fBin ixW (fVar 1) (fC (.int 1))) (fTup fNil))) (fTest (fBin (pure2S gtD) (fBin (pure2 addD) (fCB lenW (fCons (fBin ixW (fVar 1) (fC (.int 0))) fNil)) (fCB lenW (fCons (fBin ixW (fVar 1) (fC (.int 1))) fNil))) (fC (PyData.int 1500))))) (fRet (fC (.bool false))) fSkip)
  (fSeq (fAsg (fCall g.first_of (fCons (fVar 2) fNil)) (gN 4))
  (fSeq (fAsg (fC .none) (gN 5))
  (fSeq (fFor (fEnum (fCons (fBin (pure2 addD) (fBin ixW (fVar 1) (fC (.int 0))) (fBin ixW (fVar 1) (fC (.int 1)))) fNil)) (gTup 2 (gsCons (gN 6) (gsCons (gN 7) gsNil))) (fSeq (fIfS (fTest (fBin (pure2S eqD) (fVar 6) (fCB lenW (fCons (fBin ixW (fVar 1) (fC (.int 0))) fNil)))) (fAsg (fVar 4) (gN 5)) fSkip)
  (fSeq (fAsg (fCall g.stepped (fCons (fVar 0) (fCons (fVar 4) (fCons (fVar 7) fNil)))) (gTup 3 (gsCons (gN 8) (gsCons (gN 9) (gsCons (gN 4) gsNil)))))
  (fIfS (fTest (fBin (pure2S neD) (fVar 8) (fC (.str "on")))) (fRet (fC (.bool false))) fSkip))))
  (fRet (fBin (pure2S eqD) (fVar 4) (fVar 5))))))))))
def b_parts_them (g : Fns) : FS :=
  (fSeq (fEx (fCall g.need_tree (fCons (fVar 0) fNil)))
  (fSeq (fEx (fCall g.need_tree (fCons (fVar 1) fNil)))
  (fRet (fCall g.search (fCons (fVar 0) (fCons (fVar 1) fNil))))))
def b_parts_them_k01 (g : Fns) : FS :=
  (fSeq (fEx (fCall g.need_tree (fCons (fVar 0) fNil)))
  (fSeq (fEx (fCall g.need_tree (fCons (fVar 1) fNil)))
  (fRet (fCall g.search_k01 (fCons (fVar 0) (fCons (fVar 1) fNil))))))
def b_alike (g : Fns) : FS :=
  (fRet (fBin (isNW false) (fCall g.parts_them (fCons (fVar 0) (fCons (fVar 1) fNil))) (fC .none)))
def b_alike_k01 (g : Fns) : FS :=
  (fRet (fBin (isNW false) (fCall g.parts_them_k01 (fCons (fVar 0) (fCons (fVar 1) fNil))) (fC .none)))
def b_is_at_once (g : Fns) : FS :=
  (fSeq (fIfS (fTest (fBin (pure2S inD) (fBin ixW (fVar 0) (fC (.int 0))) (fTup (fCons (fC (.str "ask")) (fCons (fC (.str "set")) fNil))))) (fRet (fC (.bool true))) fSkip)
  (fSeq (fIfS (fTest (fBin (pure2S inD) (fBin ixW (fVar 0) (fC (.int 0))) (fTup (fCons (fC (.str "do")) (fCons (fC (.str "keep")) (fCons (fC (.str "again")) (fCons (fC (.str "till")) fNil))))))) (fRet (fC (.bool false))) fSkip)
  (fRet (fCB (rd1 allD) (fCons (fComp (fItems (fCall g.parts_of (fCons (fVar 0) fNil))) (gN 1) fYes (fCall g.is_at_once (fCons (fVar 1) fNil)) [1]) fNil)))))
def b_joined (g : Fns) : FS :=
  (fSeq (fAsg (fNew fNil) (gN 2))
  (fSeq (fFor (fItems (fVar 1)) (gN 3) (fIfS (fTest (fBin (pure2S eqD) (fBin ixW (fVar 3) (fC (.int 0))) (fVar 0))) (fEx (fMt "list" extW (fVar 2) (fCons (fCB (rd1 listD) (fCons (fBin ixW (fVar 3) (fC (.int 1))) fNil)) fNil))) (fEx (fMt "list" appW (fVar 2) (fCons (fVar 3) fNil)))))
  (fRet (fCB (rd1 tupD) (fCons (fVar 2) fNil)))))
def b_simpler_many (g : Fns) : FS :=
  (fSeq (fAsg (fCall g.joined (fCons (fBin ixW (fVar 0) (fC (.int 0))) (fCons (fBin ixW (fVar 0) (fC (.int 1))) fNil))) (gN 1))
  (fSeq (fIfS (fTest (fBin (pure2S eqD) (fCB lenW (fCons (fVar 1) fNil)) (fC (.int 1)))) (fRet (fBin ixW (fVar 1) (fC (.int 0)))) fSkip)
  (fSeq (fIfS (fAnd (fTest (fBin (pure2S inD) (fBin ixW (fVar 0) (fC (.int 0))) (fTup (fCons (fC (.str "row anew")) (fCons (fC (.str "choice anew")) fNil))))) (fTest (fCB (rd1 allD) (fCons (fComp (fItems (fVar 1)) (gN 2) fYes (fCall g.is_at_once (fCons (fVar 2) fNil)) [2]) fNil)))) (fRet (fTup (fCons (fBin ixW (fMt "str" splitW (fBin ixW (fVar 0) (fC (.int 0))) (fCons (fC (.str " ")) fNil)) (fC (.int 0))) (fCons (fVar 1) fNil)))) fSkip)
  (fRet (fTup (fCons (fBin ixW (fVar 0) (fC (.int 0))) (fCons (fVar 1) fNil)))))))
def b_form_of (g : Fns) : FS :=
  (fSeq (fIfS (fTest (fBin (pure2S eqD) (fCall g.parts_of (fCons (fVar 0) fNil)) (fTup fNil))) (fRet (fVar 0)) fSkip)
  (fSeq (fAsg (fCall g.with_parts (fCons (fVar 0) (fCons (fComp (fItems (fCall g.parts_of (fCons (fVar 0) fNil))) (gN 2) fYes (fCall g.form_of (fCons (fVar 2) fNil)) [2]) fNil))) (gN 1))
  (fSeq (fAsg (fCall g.simpler (fCons (fVar 1) fNil)) (gN 3))
  (fSeq (fIfS (fTest (fBin (pure2S eqD) (fVar 3) (fVar 1))) (fRet (fVar 1)) fSkip)
  (fRet (fCall g.form_of (fCons (fVar 3) fNil)))))))
def b_form (g : Fns) : FS :=
  (fSeq (fEx (fCall g.need_tree (fCons (fVar 0) fNil)))
  (fRet (fCall g.form_of (fCons (fVar 0) fNil))))
def b_is_news (g : Fns) : FS :=
  (fSeq (fIfS (fOr (fNot (fTest (fCB isiW (fCons (fVar 0) (fCons (fTy "tuple") fNil))))) (fNot (fTest (fCB (rd1 allD) (fCons (fComp (fItems (fVar 0)) (gN 1) fYes (fCall g.is_flag (fCons (fVar 1) fNil)) [1]) fNil))))) (fRet (fC (.bool false))) fSkip)
  (fRet (fCB (rd1 allD) (fCons (fComp (fZip (fCons (fVar 0) (fCons (fSl (fVar 0) (fPart (fC (.int 1))) fNoPart) fNil))) (gTup 2 (gsCons (gN 1) (gsCons (gN 2) gsNil))) fYes (fBin (pure2S ltD) (fVar 1) (fVar 2)) [1, 2]) fNil))))
def b_head_of (g : Fns) : FS :=
  (fSeq (fIfS (fTest (fBin (pure2S eqD) (fBin ixW (fVar 0) (fC (.int 0))) (fC (.str "ask")))) (fRet (fBin (pure2 addD) (fC (.str "ask ")) (fBin ixW (fVar 0) (fC (.int 1))))) fSkip)
  (fSeq (fIfS (fTest (fBin (pure2S eqD) (fBin ixW (fVar 0) (fC (.int 0))) (fC (.str "set")))) (fRet (fBin (pure2 addD) (fBin (pure2 addD) (fC (.str "set ")) (fBin ixW (fVar 0) (fC (.int 1)))) (fBin ixW (fLst (fCons (fC (.str " down")) (fCons (fC (.str " up")) fNil))) (fCB (rd1 toI) (fCons (fBin ixW (fVar 0) (fC (.int 2))) fNil))))) fSkip)
  (fSeq (fIfS (fTest (fBin (pure2S eqD) (fBin ixW (fVar 0) (fC (.int 0))) (fC (.str "do")))) (fRet (fMt "str" joinW (fC (.str " ")) (fCons (fLst (fCons (fC (.str "do")) (fCons (fBin ixW (fVar 0) (fC (.int 1))) (fCons (fCB (rd1 toS) (fCons (fBin ixW (fVar 0) (fC (.int 2))) fNil)) (fCons (fBin ixW (fVar 0) (fC (.int 3))) fNil))))) fNil))) fSkip)
  (fSeq (fIfS (fOr (fTest (fBin (pure2S inD) (fBin ixW (fVar 0) (fC (.int 0))) (fC (PyData.tuple [(PyData.str "again"), (PyData.str "till"), (PyData.str "hold")])))) (fTest (fBin (pure2S eqD) (fBin ixW (fVar 0) (fC (.int 0))) (fC (.str "beside"))))) (fRet (fBin (pure2 addD) (fBin (pure2 addD) (fBin ixW (fVar 0) (fC (.int 0))) (fC (.str " "))) (fCB (rd1 toS) (fCons (fBin ixW (fVar 0) (fC (.int 1))) fNil)))) fSkip)
  (fRet (fBin ixW (fVar 0) (fC (.int 0))))))))
def b_text_of (g : Fns) : FS :=
  (fSeq (fIfS (fTest (fBin (pure2S eqD) (fCall g.parts_of (fCons (fVar 0) fNil)) (fTup fNil))) (fRet (fCall g.head_of (fCons (fVar 0) fNil))) fSkip)
  (fRet (fBin (pure2 addD) (fBin (pure2 addD) (fBin (pure2 addD) (fCall g.head_of (fCons (fVar 0) fNil)) (fC (.str "("))) (fMt "str" joinW (fC (.str "; ")) (fCons (fComp (fItems (fCall g.parts_of (fCons (fVar 0) fNil))) (gN 1) fYes (fCall g.text_of (fCons (fVar 1) fNil)) [1]) fNil))) (fC (.str ")")))))
def b_shown (g : Fns) : FS :=
  (fSeq (fEx (fCall g.need_tree (fCons (fVar 0) fNil)))
  (fRet (fCall g.text_of (fCons (fVar 0) fNil))))
def b_law_cell_at (g : Fns) : FS :=
  (fSeq (fIfS (fTest (fBin (pure2S ltD) (fVar 1) (fCB lenW (fCons (fVar 0) fNil)))) (fRet (fBin ixW (fVar 0) (fVar 1))) fSkip)
  (fSeq (fIfS (fTest (fBin (pure2S eqD) (fVar 0) (fLst fNil))) (fRet (fC (.int 0))) fSkip)
  (fRet (fBin (pure2 addD) (fBin (pure2 mulD) (fBin ixW (fVar 0) (fBin (pure2S modD) (fVar 1) (fCB lenW (fCons (fVar 0) fNil)))) (fC (.int 31))) (fVar 1)))))
def b_law_mixed (g : Fns) : FS :=
  (fSeq (fAsg (fBin (pure2S modD) (fBin (pure2 mulD) (fBin (pure2 addD) (fBin (pure2 addD) (fCall g.law_cell_at (fCons (fVar 0) (fCons (fVar 1) fNil))) (fBin (pure2 mulD) (fC (.int 7919)) (fVar 1))) (fC (.int 1))) (fC (.int 48271))) (fC (.int 2147483647))) (gN 3))
  (fRet (fBin (pure2S modD) (fBin (pure2S modD) (fBin (pure2 addD) (fBin (pure2 addD) (fBin (pure2 mulD) (fVar 3) (fVar 3)) (fBin (pure2 mulD) (fC (.int 7)) (fVar 3))) (fVar 1)) (fC (.int 2147483629))) (fVar 2))))
def b_law_draw (g : Fns) : FS :=
  (fSeq (fEx (fMt "list" appW (fVar 1) (fCons (fC (.int 0)) fNil)))
  (fRet (fCall g.law_mixed (fCons (fVar 0) (fCons (fCB lenW (fCons (fVar 1) fNil)) (fCons (fVar 2) fNil))))))
def b_law_pick (g : Fns) : FS :=
  (fRet (fBin ixW (fVar 2) (fCall g.law_draw (fCons (fVar 0) (fCons (fVar 1) (fCons (fCB lenW (fCons (fVar 2) fNil)) fNil))))))
def b_law_leaf (g : Fns) : FS :=
  (fSeq (fAsg (fCall g.law_draw (fCons (fVar 0) (fCons (fVar 1) (fCons (fC (.int 5)) fNil)))) (gN 2))
  (fSeq (fIfS (fTest (fBin (pure2S eqD) (fVar 2) (fC (.int 0)))) (fRet (fTup (fCons (fC (.str "ask")) (fCons (fCall g.law_pick (fCons (fVar 0) (fCons (fVar 1) (fCons (fLst (fCons (fC (.str "a")) (fCons (fC (.str "b")) (fCons (fC (.str "a")) (fCons (fC (.str "b")) (fCons (fC (.str "c")) fNil)))))) fNil)))) fNil)))) fSkip)
  (fSeq (fIfS (fTest (fBin (pure2S eqD) (fVar 2) (fC (.int 1)))) (fRet (fTup (fCons (fC (.str "set")) (fCons (fCall g.law_pick (fCons (fVar 0) (fCons (fVar 1) (fCons (fLst (fCons (fC (.str "a")) (fCons (fC (.str "b")) fNil))) fNil)))) (fCons (fBin (pure2S eqD) (fCall g.law_draw (fCons (fVar 0) (fCons (fVar 1) (fCons (fC (.int 2)) fNil)))) (fC (.int 1))) fNil))))) fSkip)
  (fSeq (fAsg (fCall g.law_pick (fCons (fVar 0) (fCons (fVar 1) (fCons (fLst (fCons (fC (.str "x")) (fCons (fC (.str "y")) (fCons (fC (.str "z")) (fCons (fC (.str "run")) fNil))))) fNil)))) (gN 3))
  (fRet (fTup (fCons (fC (.str "do")) (fCons (fVar 3) (fCons (fBin (pure2 addD) (fC (.int 1)) (fCall g.law_draw (fCons (fVar 0) (fCons (fVar 1) (fCons (fC (.int 4)) fNil))))) (fCons (fCall g.law_pick (fCons (fVar 0) (fCons (fVar 1) (fCons (fLst (fCons (fC (.str "yes")) (fCons (fC (.str "no")) fNil))) fNil)))) fNil))))))))))
def b_law_part (g : Fns) : FS :=
  (fSeq (fEx (fMt "list" appW (fVar 3) (fCons (fC (.int 1)) fNil)))
  (fSeq (fIfS (fOr (fTest (fBin (pure2S eqD) (fVar 2) (fC (.int 1)))) (fOr (fTest (fBin (pure2S gtD) (fCB lenW (fCons (fVar 3) fNil)) (fC (.int 8)))) (fTest (fBin (pure2S eqD) (fCall g.law_draw (fCons (fVar 0) (fCons (fVar 1) (fCons (fC (.int 5)) fNil)))) (fC (.int 0)))))) (fRet (fCall g.law_leaf (fCons (fVar 0) (fCons (fVar 1) fNil)))) fSkip)
  (fSeq (fAsg (fLst (fCons (fC (.str "row")) (fCons (fC (.str "choice")) (fCons (fC (.str "row anew")) (fCons (fC (.str "choice anew")) (fCons (fC (.str "beside")) (fCons (fC (.str "row")) (fCons (fC (.str "choice anew")) (fCons (fC (.str "not")) (fCons (fC (.str "yes")) (fCons (fC (.str "no")) (fCons (fC (.str "keep")) fNil)))))))))))) (gN 4))
  (fSeq (fAsg (fCall g.law_pick (fCons (fVar 0) (fCons (fVar 1) (fCons (fBin (pure2 addD) (fVar 4) (fLst (fCons (fC (.str "again")) (fCons (fC (.str "till")) (fCons (fC (.str "hold")) fNil))))) fNil)))) (gN 5))
  (fSeq (fIfS (fTest (fBin (pure2S inD) (fVar 5) (fTup (fCons (fC (.str "not")) (fCons (fC (.str "yes")) (fCons (fC (.str "no")) (fCons (fC (.str "keep")) fNil))))))) (fRet (fTup (fCons (fVar 5) (fCons (fCall g.law_part (fCons (fVar 0) (fCons (fVar 1) (fCons (fBin (pure2S subD) (fVar 2) (fC (.int 1))) (fCons (fVar 3) fNil))))) fNil)))) fSkip)
  (fSeq (fIfS (fTest (fBin (pure2S inD) (fVar 5) (fTup (fCons (fC (.str "again")) (fCons (fC (.str "till")) (fCons (fC (.str "hold")) fNil)))))) (fRet (fTup (fCons (fVar 5) (fCons (fBin (pure2 addD) (fC (.int 1)) (fCall g.law_draw (fCons (fVar 0) (fCons (fVar 1) (fCons (fC (.int 4)) fNil))))) (fCons (fCall g.law_part (fCons (fVar 0) (fCons (fVar 1) (fCons (fBin (pure2S subD) (fVar 2) (fC (.int 1))) (fCons (fVar 3) fNil))))) fNil))))) fSkip)
  (fSeq (fAsg (fCB (rd1 tupD) (fCons (fComp (fRng1 (fCons (fBin (pure2 addD) (fC (.int 1)) (fCall g.law_draw (fCons (fVar 0) (fCons (fVar 1) (fCons (fC (.int 3)) fNil))))) fNil)) (gN 7) fYes (fCall g.law_part (fCons (fVar 0) (fCons (fVar 1) (fCons (fBin (pure2S subD) (fVar 2) (fC (.int 1))) (fCons (fVar 3) fNil))))) [7]) fNil)) (gN 6))
  (fSeq (fIfS (fTest (fBin (pure2S eqD) (fVar 5) (fC (.str "beside")))) (fRet (fTup (fCons (fVar 5) (fCons (fBin (pure2 addD) (fC (.int 1)) (fCall g.law_draw (fCons (fVar 0) (fCons (fVar 1) (fCons (fCB lenW (fCons (fVar 6) fNil)) fNil))))) (fCons (fVar 6) fNil))))) fSkip)
  (fRet (fTup (fCons (fVar 5) (fCons (fVar 6) fNil))))))))))))
def b_law_size (g : Fns) : FS :=
  (fRet (fBin (pure2 addD) (fC (.int 1)) (fCB (rd1 sumD) (fCons (fComp (fItems (fCall g.law_inner (fCons (fVar 0) fNil))) (gN 1) fYes (fCall g.law_size (fCons (fVar 1) fNil)) [1]) fNil))))
def b_law_inner (g : Fns) : FS :=
  (fSeq (fIfS (fTest (fBin (pure2S inD) (fBin ixW (fVar 0) (fC (.int 0))) (fTup (fCons (fC (.str "ask")) (fCons (fC (.str "set")) (fCons (fC (.str "do")) fNil)))))) (fRet (fTup fNil)) fSkip)
  (fSeq (fIfS (fTest (fBin (pure2S inD) (fBin ixW (fVar 0) (fC (.int 0))) (fTup (fCons (fC (.str "not")) (fCons (fC (.str "yes")) (fCons (fC (.str "no")) (fCons (fC (.str "keep")) (fCons (fC (.str "again")) (fCons (fC (.str "till")) (fCons (fC (.str "hold")) fNil)))))))))) (fRet (fTup (fCons (fBin ixW (fVar 0) (fC (.int (-1)))) fNil))) fSkip)
  (fRet (fBin ixW (fVar 0) (fC (.int (-1)))))))
def b_law_tree (g : Fns) : FS :=
  (fSeq (fAsg (fCall g.law_part (fCons (fVar 0) (fCons (fVar 1) (fCons (fVar 2) (fCons (fNew fNil) fNil))))) (gN 3))
  (fSeq (fWhile WH (fTest (fBin (pure2S gtD) (fCall g.law_size (fCons (fVar 3) fNil)) (fC (.int 14)))) (fAsg (fBin ixW (fCall g.law_inner (fCons (fVar 3) fNil)) (fC (.int 0))) (gN 3)))
  (fRet (fVar 3))))
def b_law_leaves (g : Fns) : FS :=
  (fSeq (fIfS (fTest (fBin (pure2S eqD) (fCall g.law_inner (fCons (fVar 0) fNil)) (fTup fNil))) (fRet (fLst (fCons (fTup (fCons (fVar 1) (fCons (fVar 0) fNil))) fNil))) fSkip)
  (fSeq (fAsg (fNew fNil) (gN 2))
  (fSeq (fFor (fEnum (fCons (fCall g.law_inner (fCons (fVar 0) fNil)) fNil)) (gTup 2 (gsCons (gN 3) (gsCons (gN 4) gsNil))) (fEx (fMt "list" extW (fVar 2) (fCons (fCall g.law_leaves (fCons (fVar 4) (fCons (fBin (pure2 addD) (fVar 1) (fTup (fCons (fVar 3) fNil))) fNil))) fNil))))
  (fRet (fVar 2)))))
def b_law_whole (g : Fns) : FS :=
  (fRet (fAndV (fCB isiW (fCons (fVar 0) (fCons (fTy "int") fNil))) (fAndV (fNotV (fCB isiW (fCons (fVar 0) (fCons (fTy "bool") fNil)))) (fChain (pure2S leD) (pure2S leD) (fVar 1) (fVar 0) (fVar 2)))))
def b_law_is_leaf (g : Fns) : FS :=
  (fSeq (fIfS (fTest (fBin (pure2S eqD) (fBin ixW (fVar 0) (fC (.int 0))) (fC (.str "ask")))) (fRet (fAndV (fBin (pure2S eqD) (fCB lenW (fCons (fVar 0) fNil)) (fC (.int 2))) (fAndV (fCB isiW (fCons (fBin ixW (fVar 0) (fC (.int 1))) (fCons (fTy "str") fNil))) (fBin (pure2S inD) (fBin ixW (fVar 0) (fC (.int 1))) (fTup (fCons (fC (.str "a")) (fCons (fC (.str "b")) (fCons (fC (.str "c")) fNil)))))))) fSkip)
  (fSeq (fIfS (fTest (fBin (pure2S eqD) (fBin ixW (fVar 0) (fC (.int 0))) (fC (.str "set")))) (fSeq (fIfS (fOr (fTest (fBin (pure2S neD) (fCB lenW (fCons (fVar 0) fNil)) (fC (.int 3)))) (fNot (fTest (fCB isiW (fCons (fBin ixW (fVar 0) (fC (.int 2))) (fCons (fTy "bool") fNil)))))) (fRet (fC (.bool false))) fSkip)
  (fRet (fAndV (fCB isiW (fCons (fBin ixW (fVar 0) (fC (.int 1))) (fCons (fTy "str") fNil))) (fBin (pure2S inD) (fBin ixW (fVar 0) (fC (.int 1))) (fTup (fCons (fC (.str "a")) (fCons (fC (.str "b")) (fCons (fC (.str "c")) fNil)))))))) fSkip)
  (fSeq (fIfS (fOr (fTest (fBin (pure2S neD) (fBin ixW (fVar 0) (fC (.int 0))) (fC (.str "do")))) (fOr (fTest (fBin (pure2S neD) (fCB lenW (fCons (fVar 0) fNil)) (fC (.int 4)))) (fOr (fNot (fTest (fCB isiW (fCons (fBin ixW (fVar 0) (fC (.int 1))) (fCons (fTy "str") fNil))))) (fNot (fTest (fChain (pure2S leD) (pure2S leD) (fC (.int 1)) (fCB lenW (fCons (fBin ixW (fVar 0) (fC (.int 1))) fNil)) (fC (.int 3)))))))) (fRet (fC (.bool false))) fSkip)
  (fSeq (fIfS (fOr (fNot (fTest (fCB (rd1 allD) (fCons (fComp (fItems (fBin ixW (fVar 0) (fC (.int 1)))) (gN 1) fYes (fChain (pure2S leD) (pure2S leD) (fC (.str "a")) (fVar 1) (fC (.str "z"))) [1]) fNil)))) (fNot (fTest (fCB isiW (fCons (fBin ixW (fVar 0) (fC (.int 3))) (fCons (fTy "str") fNil)))))) (fRet (fC (.bool false))) fSkip)
  (fRet (fAndV (fCall g.law_whole (fCons (fBin ixW (fVar 0) (fC (.int 2))) (fCons (fC (.int 1)) (fCons (fC (.int 4)) fNil)))) (fBin (pure2S inD) (fBin ixW (fVar 0) (fC (.int 3))) (fTup (fCons (fC (.str "yes")) (fCons (fC (.str "no")) fNil))))))))))
def b_law_is_part (g : Fns) : FS :=
  (fSeq (fIfS (fOr (fTest (fBin (pure2S eqD) (fVar 1) (fC (.int 0)))) (fOr (fNot (fTest (fCB isiW (fCons (fVar 0) (fCons (fTy "tuple") fNil))))) (fOr (fTest (fBin (pure2S eqD) (fVar 0) (fTup fNil))) (fNot (fTest (fCB isiW (fCons (fBin ixW (fVar 0) (fC (.int 0))) (fCons (fTy "str") fNil)))))))) (fRet (fC (.bool false))) fSkip)
  (fSeq (fAsg (fBin ixW (fVar 0) (fC (.int 0))) (gN 2))
  (fSeq (fIfS (fTest (fBin (pure2S inD) (fVar 2) (fTup (fCons (fC (.str "ask")) (fCons (fC (.str "set")) (fCons (fC (.str "do")) fNil)))))) (fRet (fCall g.law_is_leaf (fCons (fVar 0) fNil))) fSkip)
  (fSeq (fIfS (fTest (fBin (pure2S inD) (fVar 2) (fTup (fCons (fC (.str "not")) (fCons (fC (.str "yes")) (fCons (fC (.str "no")) (fCons (fC (.str "keep")) fNil))))))) (fRet (fAndV (fBin (pure2S eqD) (fCB lenW (fCons (fVar 0) fNil)) (fC (.int 2))) (fCall g.law_is_part (fCons (fBin ixW (fVar 0) (fC (.int 1))) (fCons (fBin (pure2S subD) (fVar 1) (fC (.int 1))) fNil))))) fSkip)
  (fSeq (fIfS (fTest (fBin (pure2S inD) (fVar 2) (fTup (fCons (fC (.str "again")) (fCons (fC (.str "till")) (fCons (fC (.str "hold")) fNil)))))) (fRet (fAndV (fBin (pure2S eqD) (fCB lenW (fCons (fVar 0) fNil)) (fC (.int 3))) (fAndV (fCall g.law_whole (fCons (fBin ixW (fVar 0) (fC (.int 1))) (fCons (fC (.int 1)) (fCons (fC (.int 4)) fNil)))) (fCall g.law_is_part (fCons (fBin ixW (fVar 0) (fC (.int 2))) (fCons (fBin (pure2S subD) (fVar 1) (fC (.int 1))) fNil)))))) fSkip)
  (fSeq (fIfS (fOr (fTest (fBin (pure2S ninD) (fVar 2) (fTup (fCons (fC (.str "row")) (fCons (fC (.str "choice")) (fCons (fC (.str "row anew")) (fCons (fC (.str "choice anew")) (fCons (fC (.str "beside")) fNil)))))))) (fTest (fBin (pure2S neD) (fCB lenW (fCons (fVar 0) fNil)) (fBin (pure2 addD) (fC (.int 2)) (fCB (rd1 toI) (fCons (fBin (pure2S eqD) (fVar 2) (fC (.str "beside"))) fNil)))))) (fRet (fC (.bool false))) fSkip)
  (fSeq (fIfS (fOr (fNot (fTest (fCB isiW (fCons (fBin ixW (fVar 0) (fC (.int (-1)))) (fCons (fTy "tuple") fNil))))) (fTest (fBin (pure2S eqD) (fBin ixW (fVar 0) (fC (.int (-1)))) (fTup fNil)))) (fRet (fC (.bool false))) fSkip)
  (fSeq (fIfS (fAnd (fTest (fBin (pure2S eqD) (fVar 2) (fC (.str "beside")))) (fNot (fTest (fCall g.law_whole (fCons (fBin ixW (fVar 0) (fC (.int 1))) (fCons (fC (.int 1)) (fCons (fCB lenW (fCons (fBin ixW (fVar 0) (fC (.int 2))) fNil)) fNil))))))) (fRet (fC (.bool false))) fSkip)
  (fRet (fCB (rd1 allD) (fCons (fComp (fItems (fBin ixW (fVar 0) (fC (.int (-1))))) (gN 3) fYes (fCall g.law_is_part (fCons (fVar 3) (fCons (fBin (pure2S subD) (fVar 1) (fC (.int 1))) fNil))) [3]) fNil)))))))))))
def b_law_news (g : Fns) : FS :=
  (fRet (fCB (rd1 tupD) (fCons (fComp (fItems (fTup (fCons (fC (.str "a")) (fCons (fC (.str "b")) (fCons (fC (.str "c")) fNil))))) (gN 2) (fTest (fBin (pure2S eqD) (fCall g.law_draw (fCons (fVar 0) (fCons (fVar 1) (fCons (fC (.int 3)) fNil)))) (fC (.int 0)))) (fVar 2) [2]) fNil)))
def b_law_cut (g : Fns) : FS :=
  (fSeq (fFor (fItems (fCall g.law_leaves (fCons (fVar 0) (fCons (fVar 1) fNil)))) (gTup 2 (gsCons (gN 4) (gsCons (gN 5) gsNil))) (fIfS (fAnd (fTest (fBin (pure2S eqD) (fBin ixW (fVar 5) (fC (.int 0))) (fC (.str "do")))) (fTest (fBin (pure2S inD) (fVar 4) (fVar 2)))) (fEx (fMt "list" appW (fVar 3) (fCons (fTup (fCons (fC (.str "cut")) (fCons (fBin ixW (fVar 5) (fC (.int 1))) fNil))) fNil))) fSkip))
  (fEx (fCall g.law_clear (fCons (fVar 2) (fCons (fVar 1) fNil)))))
def b_law_named (g : Fns) : FS :=
  (fSeq (fIfS (fTest (fBin (pure2S eqD) (fBin ixW (fVar 0) (fC (.int 0))) (fC (.str "do")))) (fSeq (fEx (fMt "list" appW (fVar 1) (fCons (fC (.int 1)) fNil)))
  (fRet (fTup (fCons (fC (.str "do")) (fCons (fBin (pure2 addD) (fBin ixW (fC (.str "xyz")) (fBin (pure2S fdivD) (fCB lenW (fCons (fVar 1) fNil)) (fC (.int 26)))) (fBin ixW (fC (.str "abcdefghijklmnopqrstuvwxyz")) (fBin (pure2S modD) (fCB lenW (fCons (fVar 1) fNil)) (fC (.int 26))))) (fCons (fBin ixW (fVar 0) (fC (.int 2))) (fCons (fBin ixW (fVar 0) (fC (.int 3))) fNil))))))) fSkip)
  (fSeq (fIfS (fTest (fBin (pure2S eqD) (fCall g.law_inner (fCons (fVar 0) fNil)) (fTup fNil))) (fRet (fVar 0)) fSkip)
  (fSeq (fAsg (fComp (fItems (fCall g.law_inner (fCons (fVar 0) fNil))) (gN 3) fYes (fCall g.law_named (fCons (fVar 3) (fCons (fVar 1) fNil))) [3]) (gN 2))
  (fSeq (fIfS (fTest (fBin (pure2S inD) (fBin ixW (fVar 0) (fC (.int 0))) (fTup (fCons (fC (.str "not")) (fCons (fC (.str "yes")) (fCons (fC (.str "no")) (fCons (fC (.str "keep")) (fCons (fC (.str "again")) (fCons (fC (.str "till")) (fCons (fC (.str "hold")) fNil)))))))))) (fRet (fBin (pure2 addD) (fSl (fVar 0) fNoPart (fPart (fC (.int (-1))))) (fTup (fCons (fBin ixW (fVar 2) (fC (.int 0))) fNil)))) fSkip)
  (fRet (fBin (pure2 addD) (fSl (fVar 0) fNoPart (fPart (fC (.int (-1))))) (fTup (fCons (fCB (rd1 tupD) (fCons (fVar 2) fNil)) fNil))))))))
def b_law_at (g : Fns) : FS :=
  (fSeq (fFor (fItems (fVar 1)) (gN 2) (fAsg (fBin ixW (fCall g.law_inner (fCons (fVar 0) fNil)) (fVar 2)) (gN 0)))
  (fRet (fVar 0)))
def b_law_with (g : Fns) : FS :=
  (fSeq (fIfS (fTest (fBin (pure2S eqD) (fVar 1) (fTup fNil))) (fRet (fVar 2)) fSkip)
  (fSeq (fAsg (fCB listN (fCons (fCall g.law_inner (fCons (fVar 0) fNil)) fNil)) (gN 3))
  (fSeq (fAsg (fCall g.law_with (fCons (fBin ixW (fVar 3) (fBin ixW (fVar 1) (fC (.int 0)))) (fCons (fSl (fVar 1) (fPart (fC (.int 1))) fNoPart) (fCons (fVar 2) fNil)))) (gSubL (fVar 3) (fBin ixW (fVar 1) (fC (.int 0)))))
  (fSeq (fIfS (fTest (fBin (pure2S inD) (fBin ixW (fVar 0) (fC (.int 0))) (fTup (fCons (fC (.str "not")) (fCons (fC (.str "yes")) (fCons (fC (.str "no")) (fCons (fC (.str "keep")) (fCons (fC (.str "again")) (fCons (fC (.str "till")) (fCons (fC (.str "hold")) fNil)))))))))) (fRet (fBin (pure2 addD) (fSl (fVar 0) fNoPart (fPart (fC (.int (-1))))) (fTup (fCons (fBin ixW (fVar 3) (fC (.int 0))) fNil)))) fSkip)
  (fRet (fBin (pure2 addD) (fSl (fVar 0) fNoPart (fPart (fC (.int (-1))))) (fTup (fCons (fCB (rd1 tupD) (fCons (fVar 3) fNil)) fNil))))))))
def b_law_ways (g : Fns) : FS :=
  (fSeq (fAsg (fNew (fCons (fVar 1) fNil)) (gN 2))
  (fSeq (fFor (fEnum (fCons (fCall g.law_inner (fCons (fVar 0) fNil)) fNil)) (gTup 2 (gsCons (gN 3) (gsCons (gN 4) gsNil))) (fEx (fMt "list" extW (fVar 2) (fCons (fCall g.law_ways (fCons (fVar 4) (fCons (fBin (pure2 addD) (fVar 1) (fTup (fCons (fVar 3) fNil))) fNil))) fNil))))
  (fRet (fVar 2))))
def b_law_deep (g : Fns) : FS :=
  (fRet (fBin (pure2 addD) (fC (.int 1)) (fCB (rd1 maxD) (fCons (fBin (pure2 addD) (fLst (fCons (fC (.int 0)) fNil)) (fComp (fItems (fCall g.law_inner (fCons (fVar 0) fNil))) (gN 1) fYes (fCall g.law_deep (fCons (fVar 1) fNil)) [1])) fNil))))
def b_law_put (g : Fns) : FS :=
  (fSeq (fEx (fCall g.law_cut (fCons (fCall g.law_at (fCons (fVar 0) (fCons (fVar 2) fNil))) (fCons (fVar 2) (fCons (fVar 1) (fCons (fVar 4) fNil))))))
  (fSeq (fIfS (fAnd (fTest (fBin (pure2S neD) (fVar 2) (fTup fNil))) (fAnd (fTest (fBin (pure2S eqD) (fBin ixW (fCall g.law_at (fCons (fVar 0) (fCons (fSl (fVar 2) fNoPart (fPart (fC (.int (-1))))) fNil))) (fC (.int 0))) (fC (.str "beside")))) (fTest (fBin (pure2S inD) (fSl (fVar 2) fNoPart (fPart (fC (.int (-1))))) (fVar 1))))) (fSeq (fAsg (fBin ixW (fVar 1) (fSl (fVar 2) fNoPart (fPart (fC (.int (-1)))))) (gN 5))
  (fAsg (fBin (pure2 addD) (fBin (pure2 addD) (fSl (fVar 5) fNoPart (fPart (fBin ixW (fVar 2) (fC (.int (-1)))))) (fTup (fCons (fC .none) fNil))) (fSl (fVar 5) (fPart (fBin (pure2 addD) (fBin ixW (fVar 2) (fC (.int (-1)))) (fC (.int 1)))) fNoPart)) (gSubL (fVar 1) (fSl (fVar 2) fNoPart (fPart (fC (.int (-1)))))))) fSkip)
  (fRet (fCall g.law_with (fCons (fVar 0) (fCons (fVar 2) (fCons (fVar 3) fNil)))))))
def b_law_due (g : Fns) : FS :=
  (fSeq (fIfS (fNot (fTest (fCB isiW (fCons (fVar 2) (fCons (fTy "tuple") fNil))))) (fRet (fTup (fCons (fC (.str "refused")) (fCons (fC (.int 2)) fNil)))) fSkip)
  (fSeq (fAsg (fVar 0) (gN 5))
  (fSeq (fFor (fItems (fVar 2)) (gN 6) (fSeq (fIfS (fNot (fTest (fCall g.law_whole (fCons (fVar 6) (fCons (fC (.int 0)) (fCons (fBin (pure2S subD) (fCB lenW (fCons (fCall g.law_inner (fCons (fVar 5) fNil)) fNil)) (fC (.int 1))) fNil)))))) (fRet (fTup (fCons (fC (.str "refused")) (fCons (fC (.int 2)) fNil)))) fSkip)
  (fAsg (fBin ixW (fCall g.law_inner (fCons (fVar 5) fNil)) (fVar 6)) (gN 5))))
  (fSeq (fAsg (fBin (pure2S inD) (fBin ixW (fVar 5) (fC (.int 0))) (fTup (fCons (fC (.str "row")) (fCons (fC (.str "choice")) (fCons (fC (.str "row anew")) (fCons (fC (.str "choice anew")) fNil)))))) (gN 7))
  (fSeq (fIfS (fAnd (fTest (fBin (pure2S gtD) (fVar 1) (fC (.int 0)))) (fNot (fTest (fVar 7)))) (fRet (fTup (fCons (fC (.str "refused")) (fCons (fC (.int 2)) fNil)))) fSkip)
  (fSeq (fIfS (fTest (fBin (pure2S eqD) (fVar 1) (fC (.int 2)))) (fSeq (fAsg (fAndV (fCall g.law_whole (fCons (fVar 3) (fCons (fC (.int 0)) (fCons (fBin (pure2S subD) (fCB lenW (fCons (fBin ixW (fVar 5) (fC (.int 1))) fNil)) (fC (.int 1))) fNil)))) (fBin (pure2S gtD) (fCB lenW (fCons (fBin ixW (fVar 5) (fC (.int 1))) fNil)) (fC (.int 1)))) (gN 8))
  (fRet (fIf (fTest (fVar 8)) (fC .none) (fTup (fCons (fC (.str "refused")) (fCons (fC (.int 3)) fNil)))))) fSkip)
  (fSeq (fIfS (fAnd (fTest (fBin (pure2S eqD) (fVar 1) (fC (.int 1)))) (fNot (fTest (fCall g.law_whole (fCons (fVar 3) (fCons (fC (.int 0)) (fCons (fCB lenW (fCons (fBin ixW (fVar 5) (fC (.int 1))) fNil)) fNil))))))) (fRet (fTup (fCons (fC (.str "refused")) (fCons (fC (.int 3)) fNil)))) fSkip)
  (fSeq (fIfS (fNot (fTest (fCall g.law_is_part (fCons (fVar 4) (fCons (fC (.int 99)) fNil))))) (fRet (fTup (fCons (fC (.str "refused")) (fCons (fC (.int 0)) fNil)))) fSkip)
  (fSeq (fAsg (fCall g.law_with (fCons (fVar 0) (fCons (fVar 2) (fCons (fVar 4) fNil)))) (gN 9))
  (fSeq (fIfS (fTest (fBin (pure2S eqD) (fVar 1) (fC (.int 1)))) (fAsg (fCall g.law_with (fCons (fVar 0) (fCons (fVar 2) (fCons (fTup (fCons (fBin ixW (fVar 5) (fC (.int 0))) (fCons (fBin (pure2 addD) (fBin (pure2 addD) (fSl (fBin ixW (fVar 5) (fC (.int 1))) fNoPart (fPart (fVar 3))) (fTup (fCons (fVar 4) fNil))) (fSl (fBin ixW (fVar 5) (fC (.int 1))) (fPart (fVar 3)) fNoPart)) fNil))) fNil)))) (gN 9)) fSkip)
  (fRet (fIf (fAnd (fTest (fBin (pure2S leD) (fCall g.law_size (fCons (fVar 9) fNil)) (fC (.int 14)))) (fTest (fBin (pure2S leD) (fCall g.law_deep (fCons (fVar 9) fNil)) (fC (.int 5))))) (fC .none) (fTup (fCons (fC (.str "refused")) (fCons (fC (.int 5)) fNil)))))))))))))))
def b_law_due_k20 (g : Fns) : FS :=
  (fSeq (fAsg (fCall g.law_all_news (fCons (fVar 0) fNil)) (gN 2))
  (fSeq (fIfS (fOr (fNot (fTest (fCB isiW (fCons (fVar 1) (fCons (fTy "tuple") fNil))))) (fTest (fBin (pure2S neD) (fCB lenW (fCons (fVar 1) fNil)) (fC (.int 2))))) (fRet (fC (.bool false))) fSkip)
  (fSeq (fFor (fItems (fVar 1)) (gN 3) (fIfS (fOr (fNot (fTest (fCB isiW (fCons (fVar 3) (fCons (fTy "tuple") fNil))))) (fNot (fTest (fCB (rd1 allD) (fCons (fComp (fItems (fVar 3)) (gN 4) fYes (fAndV (fCB isiW (fCons (fVar 4) (fCons (fTy "tuple") fNil))) (fBin (pure2S inD) (fVar 4) (fVar 2))) [4]) fNil))))) (fRet (fC (.bool false))) fSkip))
  (fSeq (fAsg (fCall g.law_first fNil) (gN 5))
  (fSeq (fAsg (fC .none) (gN 6))
  (fSeq (fFor (fEnum (fCons (fBin (pure2 addD) (fBin ixW (fVar 1) (fC (.int 0))) (fBin ixW (fVar 1) (fC (.int 1)))) fNil)) (gTup 2 (gsCons (gN 7) (gsCons (gN 4) gsNil))) (fSeq (fIfS (fTest (fBin (pure2S eqD) (fVar 7) (fCB lenW (fCons (fBin ixW (fVar 1) (fC (.int 0))) fNil)))) (fAsg (fVar 5) (gN 6)) fSkip)
  (fSeq (fAsg (fCall g.law_step (fCons (fVar 0) (fCons (fVar 5) (fCons (fVar 4) fNil)))) (gTup 3 (gsCons (gN 8) (gsCons (gN 9) (gsCons (gN 5) gsNil)))))
  (fIfS (fTest (fBin (pure2S neD) (fVar 8) (fC (.str "on")))) (fRet (fC (.bool false))) fSkip))))
  (fRet (fAndV (fBin (pure2S neD) (fBin ixW (fVar 1) (fC (.int 1))) (fTup fNil)) (fBin (pure2S eqD) (fVar 5) (fVar 6))))))))))
def b_law_first (g : Fns) : FS :=
  (fRet (fTup (fCons (fTup fNil) (fCons (fTup (fCons (fTup (fCons (fC (.str "a")) (fCons (fC (.bool false)) fNil))) (fCons (fTup (fCons (fC (.str "b")) (fCons (fC (.bool false)) fNil))) (fCons (fTup (fCons (fC (.str "c")) (fCons (fC (.bool false)) fNil))) fNil)))) fNil))))
def b_law_goes_on (g : Fns) : FS :=
  (fSeq (fAsg (fCall g.law_first fNil) (gN 2))
  (fSeq (fAsg (fC .none) (gN 3))
  (fSeq (fFor (fEnum (fCons (fBin (pure2 addD) (fBin ixW (fVar 1) (fC (.int 0))) (fBin ixW (fVar 1) (fC (.int 1)))) fNil)) (gTup 2 (gsCons (gN 4) (gsCons (gN 5) gsNil))) (fSeq (fIfS (fTest (fBin (pure2S eqD) (fVar 4) (fCB lenW (fCons (fBin ixW (fVar 1) (fC (.int 0))) fNil)))) (fAsg (fVar 2) (gN 3)) fSkip)
  (fSeq (fAsg (fCall g.law_step (fCons (fVar 0) (fCons (fVar 2) (fCons (fVar 5) fNil)))) (gTup 3 (gsCons (gN 6) (gsCons (gN 7) (gsCons (gN 2) gsNil)))))
  (fIfS (fTest (fBin (pure2S neD) (fVar 6) (fC (.str "on")))) (fRet (fC (.bool false))) fSkip))))
  (fRet (fAndV (fBin (pure2S neD) (fBin ixW (fVar 1) (fC (.int 1))) (fTup fNil)) (fBin (pure2S eqD) (fVar 2) (fVar 3)))))))
def b_law_changed (g : Fns) : FS :=
  (fSeq (fAsg (fComp (fItems (fCall g.law_leaves (fCons (fVar 2) (fCons (fTup fNil) fNil)))) (gTup 2 (gsCons (gN 4) (gsCons (gN 5) gsNil))) fYes (fVar 4) [4, 5]) (gN 3))
  (fSeq (fAsg (fCall g.law_pick (fCons (fVar 0) (fCons (fVar 1) (fCons (fVar 3) fNil)))) (gN 4))
  (fRet (fCall g.law_swapped (fCons (fVar 0) (fCons (fVar 1) (fCons (fVar 2) (fCons (fVar 4) fNil))))))))
def b_law_swapped (g : Fns) : FS :=
  (fSeq (fAsg (fCall g.law_draw (fCons (fVar 0) (fCons (fVar 1) (fCons (fC (.int 4)) fNil)))) (gN 4))
  (fSeq (fIfS (fTest (fBin (pure2S eqD) (fVar 3) (fTup fNil))) (fSeq (fIfS (fAnd (fTest (fBin (pure2S eqD) (fBin ixW (fVar 2) (fC (.int 0))) (fC (.str "do")))) (fTest (fBin (pure2S gtD) (fVar 4) (fC (.int 1))))) (fRet (fTup (fCons (fC (.str "do")) (fCons (fBin ixW (fVar 2) (fC (.int 1))) (fCons (fBin (pure2 addD) (fC (.int 1)) (fCall g.law_draw (fCons (fVar 0) (fCons (fVar 1) (fCons (fC (.int 4)) fNil))))) (fCons (fBin ixW (fVar 2) (fC (.int 3))) fNil)))))) fSkip)
  (fRet (fCall g.law_leaf (fCons (fVar 0) (fCons (fVar 1) fNil))))) fSkip)
  (fSeq (fIfS (fAnd (fTest (fBin (pure2S eqD) (fVar 4) (fC (.int 0)))) (fTest (fBin (pure2S inD) (fBin ixW (fVar 2) (fC (.int 0))) (fTup (fCons (fC (.str "row")) (fCons (fC (.str "choice")) fNil)))))) (fRet (fTup (fCons (fBin (pure2 addD) (fBin ixW (fVar 2) (fC (.int 0))) (fC (.str " anew"))) (fCons (fBin ixW (fVar 2) (fC (.int 1))) fNil)))) fSkip)
  (fSeq (fIfS (fAnd (fTest (fBin (pure2S eqD) (fVar 4) (fC (.int 0)))) (fTest (fBin (pure2S inD) (fBin ixW (fVar 2) (fC (.int 0))) (fTup (fCons (fC (.str "again")) (fCons (fC (.str "till")) (fCons (fC (.str "hold")) fNil))))))) (fRet (fTup (fCons (fBin ixW (fVar 2) (fC (.int 0))) (fCons (fBin (pure2 addD) (fC (.int 1)) (fCall g.law_draw (fCons (fVar 0) (fCons (fVar 1) (fCons (fC (.int 4)) fNil))))) (fCons (fBin ixW (fVar 2) (fC (.int 2))) fNil))))) fSkip)
  (fSeq (fAsg (fCB listN (fCons (fCall g.law_inner (fCons (fVar 2) fNil)) fNil)) (gN 5))
  (fSeq (fAsg (fCall g.law_swapped (fCons (fVar 0) (fCons (fVar 1) (fCons (fBin ixW (fVar 5) (fBin ixW (fVar 3) (fC (.int 0)))) (fCons (fSl (fVar 3) (fPart (fC (.int 1))) fNoPart) fNil))))) (gSubL (fVar 5) (fBin ixW (fVar 3) (fC (.int 0)))))
  (fSeq (fIfS (fTest (fBin (pure2S inD) (fBin ixW (fVar 2) (fC (.int 0))) (fTup (fCons (fC (.str "not")) (fCons (fC (.str "yes")) (fCons (fC (.str "no")) (fCons (fC (.str "keep")) (fCons (fC (.str "again")) (fCons (fC (.str "till")) (fCons (fC (.str "hold")) fNil)))))))))) (fRet (fBin (pure2 addD) (fSl (fVar 2) fNoPart (fPart (fC (.int (-1))))) (fTup (fCons (fBin ixW (fVar 5) (fC (.int 0))) fNil)))) fSkip)
  (fRet (fBin (pure2 addD) (fSl (fVar 2) fNoPart (fPart (fC (.int (-1))))) (fTup (fCons (fCB (rd1 tupD) (fCons (fVar 5) fNil)) fNil)))))))))))
def b_law_alike (g : Fns) : FS :=
  (fTry (fRet (fCall g.alike (fCons (fVar 0) (fCons (fVar 1) fNil)))) hits_TooMany_0 (fRet (fC (.bool true))))
def b_law_alike_k30 (g : Fns) : FS :=
  (fTry (fRet (fCall g.alike (fCons (fVar 0) (fCons (fVar 1) fNil)))) hits_TooMany_0 (fRet (fC (.bool true))))
def b_law_parted (g : Fns) : FS :=
  (fTry (fRet (fCall g.parts_them (fCons (fVar 0) (fCons (fVar 1) fNil)))) hits_TooMany_0 (fRet (fC (.str "many"))))
def b_law_at_once (g : Fns) : FS :=
  (fSeq (fIfS (fTest (fBin (pure2S inD) (fBin ixW (fVar 0) (fC (.int 0))) (fTup (fCons (fC (.str "ask")) (fCons (fC (.str "set")) fNil))))) (fRet (fC (.bool true))) fSkip)
  (fRet (fAndV (fBin (pure2S ninD) (fBin ixW (fVar 0) (fC (.int 0))) (fTup (fCons (fC (.str "do")) (fCons (fC (.str "keep")) (fCons (fC (.str "again")) (fCons (fC (.str "till")) fNil)))))) (fCB (rd1 allD) (fCons (fComp (fItems (fCall g.law_inner (fCons (fVar 0) fNil))) (gN 1) fYes (fCall g.law_at_once (fCons (fVar 1) fNil)) [1]) fNil)))))
def b_law_wrapped (g : Fns) : FS :=
  (fSeq (fAsg (fCall g.law_pick (fCons (fVar 0) (fCons (fVar 1) (fCons (fLst (fCons (fC (.str "row")) (fCons (fC (.str "choice")) (fCons (fC (.str "row anew")) (fCons (fC (.str "choice anew")) (fCons (fC (.str "beside")) (fCons (fC (.str "again")) (fCons (fC (.str "till")) (fCons (fC (.str "not")) fNil))))))))) fNil)))) (gN 3))
  (fSeq (fIfS (fTest (fBin (pure2S eqD) (fVar 3) (fC (.str "not")))) (fRet (fTup (fCons (fC (.str "not")) (fCons (fTup (fCons (fC (.str "not")) (fCons (fVar 2) fNil))) fNil)))) fSkip)
  (fSeq (fIfS (fTest (fBin (pure2S inD) (fVar 3) (fTup (fCons (fC (.str "again")) (fCons (fC (.str "till")) fNil))))) (fRet (fTup (fCons (fVar 3) (fCons (fC (.int 1)) (fCons (fVar 2) fNil))))) fSkip)
  (fRet (fIf (fTest (fBin (pure2S eqD) (fVar 3) (fC (.str "beside")))) (fTup (fCons (fVar 3) (fCons (fC (.int 1)) (fCons (fTup (fCons (fVar 2) fNil)) fNil)))) (fTup (fCons (fVar 3) (fCons (fTup (fCons (fVar 2) fNil)) fNil))))))))
def b_number (g : Fns) : FS :=
  (fSeq (fIfS (fOr (fTest (fBin (pure2S neD) (fCB lenW (fCons (fVar 0) fNil)) (fC (.int 1)))) (fTest (fBin (pure2S ninD) (fVar 0) (fC (PyData.str "0123456789"))))) (fRet (fC .none)) fSkip)
  (fRet (fCB (rd1 toI) (fCons (fVar 0) fNil))))
def b_leaf_of (g : Fns) : FS :=
  (fSeq (fIfS (fAnd (fTest (fBin (pure2S eqD) (fBin ixW (fVar 0) (fC (.int 0))) (fC (.str "ask")))) (fTest (fBin (pure2S eqD) (fCB lenW (fCons (fVar 0) fNil)) (fC (.int 2))))) (fRet (fTup (fCons (fC (.str "ask")) (fCons (fBin ixW (fVar 0) (fC (.int 1))) fNil)))) fSkip)
  (fSeq (fIfS (fAnd (fTest (fBin (pure2S eqD) (fBin ixW (fVar 0) (fC (.int 0))) (fC (.str "set")))) (fAnd (fTest (fBin (pure2S eqD) (fCB lenW (fCons (fVar 0) fNil)) (fC (.int 3)))) (fTest (fBin (pure2S inD) (fBin ixW (fVar 0) (fC (.int 2))) (fTup (fCons (fC (.str "up")) (fCons (fC (.str "down")) fNil))))))) (fRet (fTup (fCons (fC (.str "set")) (fCons (fBin ixW (fVar 0) (fC (.int 1))) (fCons (fBin (pure2S eqD) (fBin ixW (fVar 0) (fC (.int 2))) (fC (.str "up"))) fNil))))) fSkip)
  (fSeq (fIfS (fAnd (fTest (fBin (pure2S eqD) (fBin ixW (fVar 0) (fC (.int 0))) (fC (.str "do")))) (fTest (fBin (pure2S eqD) (fCB lenW (fCons (fVar 0) fNil)) (fC (.int 4))))) (fRet (fTup (fCons (fC (.str "do")) (fCons (fBin ixW (fVar 0) (fC (.int 1))) (fCons (fCall g.number (fCons (fBin ixW (fVar 0) (fC (.int 2))) fNil)) (fCons (fBin ixW (fVar 0) (fC (.int 3))) fNil)))))) fSkip)
  (fRet (fC .none)))))
def b_part_of (g : Fns) : FS :=
  (fSeq (fAsg (fMt "str" splitW (fVar 0) (fCons (fC (.str " ")) fNil)) (gN 2))
  (fSeq (fIfS (fTest (fBin (pure2S inD) (fVar 0) (fC (PyData.tuple [(PyData.str "row"), (PyData.str "choice"), (PyData.str "row anew"), (PyData.str "choice anew")])))) (fRet (fTup (fCons (fVar 0) (fCons (fCB (rd1 tupD) (fCons (fVar 1) fNil)) fNil)))) fSkip)
  (fSeq (fIfS (fAnd (fTest (fBin (pure2S inD) (fVar 0) (fC (PyData.tuple [(PyData.str "not"), (PyData.str "yes"), (PyData.str "no"), (PyData.str "keep")])))) (fTest (fBin (pure2S eqD) (fCB lenW (fCons (fVar 1) fNil)) (fC (.int 1))))) (fRet (fTup (fCons (fVar 0) (fCons (fBin ixW (fVar 1) (fC (.int 0))) fNil)))) fSkip)
  (fSeq (fIfS (fTest (fBin (pure2S neD) (fCB lenW (fCons (fVar 2) fNil)) (fC (.int 2)))) (fRet (fC .none)) fSkip)
  (fSeq (fIfS (fAnd (fTest (fBin (pure2S inD) (fBin ixW (fVar 2) (fC (.int 0))) (fC (PyData.tuple [(PyData.str "again"), (PyData.str "till"), (PyData.str "hold")])))) (fTest (fBin (pure2S eqD) (fCB lenW (fCons (fVar 1) fNil)) (fC (.int 1))))) (fRet (fTup (fCons (fBin ixW (fVar 2) (fC (.int 0))) (fCons (fCall g.number (fCons (fBin ixW (fVar 2) (fC (.int 1))) fNil)) (fCons (fBin ixW (fVar 1) (fC (.int 0))) fNil))))) fSkip)
  (fSeq (fIfS (fTest (fBin (pure2S eqD) (fBin ixW (fVar 2) (fC (.int 0))) (fC (.str "beside")))) (fRet (fTup (fCons (fC (.str "beside")) (fCons (fCall g.number (fCons (fBin ixW (fVar 2) (fC (.int 1))) fNil)) (fCons (fCB (rd1 tupD) (fCons (fVar 1) fNil)) fNil))))) fSkip)
  (fRet (fC .none))))))))
def b_read_part (g : Fns) : FS :=
  (fSeq (fAsg (fVar 1) (gN 3))
  (fSeq (fWhile WH (fAnd (fTest (fBin (pure2S ltD) (fVar 3) (fCB lenW (fCons (fVar 0) fNil)))) (fTest (fBin (pure2S ninD) (fBin ixW (fVar 0) (fVar 3)) (fC (.str "();"))))) (fAsg (fBin (pure2 addD) (fVar 3) (fC (.int 1))) (gN 3)))
  (fSeq (fAsg (fSl (fVar 0) (fPart (fVar 1)) (fPart (fVar 3))) (gN 4))
  (fSeq (fIfS (fOr (fTest (fBin (pure2S eqD) (fVar 3) (fCB lenW (fCons (fVar 0) fNil)))) (fTest (fBin (pure2S neD) (fBin ixW (fVar 0) (fVar 3)) (fC (.str "("))))) (fSeq (fAsg (fCall g.leaf_of (fCons (fMt "str" splitW (fVar 4) (fCons (fC (.str " ")) fNil)) fNil)) (gN 5))
  (fRet (fIf (fTest (fBin (isNW false) (fVar 5) (fC .none))) (fC .none) (fTup (fCons (fVar 5) (fCons (fVar 3) fNil)))))) fSkip)
  (fSeq (fIfS (fTest (fBin (pure2S eqD) (fVar 2) (fC (.int 0)))) (fRet (fC .none)) fSkip)
  (fSeq (fAsg (fNew fNil) (gN 6))
  (fSeq (fAsg (fBin (pure2 addD) (fVar 3) (fC (.int 1))) (gN 7))
  (fWhile WH (fTest (fC (.bool true))) (fSeq (fAsg (fCall g.read_part (fCons (fVar 0) (fCons (fVar 7) (fCons (fBin (pure2S subD) (fVar 2) (fC (.int 1))) fNil)))) (gN 8))
  (fSeq (fIfS (fTest (fBin (isNW false) (fVar 8) (fC .none))) (fRet (fC .none)) fSkip)
  (fSeq (fEx (fMt "list" appW (fVar 6) (fCons (fBin ixW (fVar 8) (fC (.int 0))) fNil)))
  (fSeq (fAsg (fBin ixW (fVar 8) (fC (.int 1))) (gN 7))
  (fSeq (fIfS (fTest (fBin (pure2S eqD) (fSl (fVar 0) (fPart (fVar 7)) (fPart (fBin (pure2 addD) (fVar 7) (fC (.int 1))))) (fC (.str ")")))) (fSeq (fAsg (fCall g.part_of (fCons (fVar 4) (fCons (fVar 6) fNil))) (gN 9))
  (fRet (fIf (fTest (fBin (isNW false) (fVar 9) (fC .none))) (fC .none) (fTup (fCons (fVar 9) (fCons (fBin (pure2 addD) (fVar 7) (fC (.int 1))) fNil)))))) fSkip)
  (fSeq (fIfS (fTest (fBin (pure2S neD) (fSl (fVar 0) (fPart (fVar 7)) (fPart (fBin (pure2 addD) (fVar 7) (fC (.int 2))))) (fC (.str "; ")))) (fRet (fC .none)) fSkip)
  (fAsg (fBin (pure2 addD) (fVar 7) (fC (.int 2))) (gN 7))))))))))))))))
def b_read (g : Fns) : FS :=
  (fSeq (fIfS (fNot (fTest (fCB isiW (fCons (fVar 0) (fCons (fTy "str") fNil))))) (fRaise "NoText") fSkip)
  (fSeq (fAsg (fCall g.read_part (fCons (fVar 0) (fCons (fC (.int 0)) (fCons (fC (.int 8)) fNil)))) (gN 1))
  (fSeq (fIfS (fOr (fTest (fBin (isNW false) (fVar 1) (fC .none))) (fOr (fTest (fBin (pure2S neD) (fBin ixW (fVar 1) (fC (.int 1))) (fCB lenW (fCons (fVar 0) fNil)))) (fOr (fNot (fTest (fCall g.is_tree (fCons (fBin ixW (fVar 1) (fC (.int 0))) fNil)))) (fTest (fBin (pure2S neD) (fCall g.text_of (fCons (fBin ixW (fVar 1) (fC (.int 0))) fNil)) (fVar 0)))))) (fRaise "NoText") fSkip)
  (fRet (fBin ixW (fVar 1) (fC (.int 0)))))))
def b_law_shown (g : Fns) : FS :=
  (fSeq (fAsg (fBin ixW (fVar 0) (fC (.int 0))) (gN 1))
  (fSeq (fIfS (fTest (fBin (pure2S eqD) (fVar 1) (fC (.str "ask")))) (fRet (fBin (pure2 addD) (fC (.str "ask ")) (fBin ixW (fVar 0) (fC (.int 1))))) fSkip)
  (fSeq (fIfS (fTest (fBin (pure2S eqD) (fVar 1) (fC (.str "set")))) (fRet (fBin (pure2 addD) (fBin (pure2 addD) (fC (.str "set ")) (fBin ixW (fVar 0) (fC (.int 1)))) (fIf (fTest (fBin ixW (fVar 0) (fC (.int 2)))) (fC (.str " up")) (fC (.str " down"))))) fSkip)
  (fSeq (fIfS (fTest (fBin (pure2S eqD) (fVar 1) (fC (.str "do")))) (fRet (fBin (pure2 addD) (fBin (pure2 addD) (fBin (pure2 addD) (fBin (pure2 addD) (fBin (pure2 addD) (fC (.str "do ")) (fBin ixW (fVar 0) (fC (.int 1)))) (fC (.str " "))) (fCB (rd1 toS) (fCons (fBin ixW (fVar 0) (fC (.int 2))) fNil))) (fC (.str " "))) (fBin ixW (fVar 0) (fC (.int 3))))) fSkip)
  (fSeq (fAsg (fVar 1) (gN 2))
  (fSeq (fIfS (fTest (fBin (pure2S inD) (fVar 1) (fTup (fCons (fC (.str "again")) (fCons (fC (.str "till")) (fCons (fC (.str "hold")) (fCons (fC (.str "beside")) fNil))))))) (fAsg (fBin (pure2 addD) (fBin (pure2 addD) (fVar 1) (fC (.str " "))) (fCB (rd1 toS) (fCons (fBin ixW (fVar 0) (fC (.int 1))) fNil))) (gN 2)) fSkip)
  (fSeq (fAsg (fC (.str "")) (gN 3))
  (fSeq (fFor (fEnum (fCons (fCall g.law_inner (fCons (fVar 0) fNil)) fNil)) (gTup 2 (gsCons (gN 4) (gsCons (gN 5) gsNil))) (fAsg (fBin (pure2 addD) (fBin (pure2 addD) (fVar 3) (fBin (pure2 mulD) (fC (.str "; ")) (fCB (rd1 toI) (fCons (fBin (pure2S gtD) (fVar 4) (fC (.int 0))) fNil)))) (fCall g.law_shown (fCons (fVar 5) fNil))) (gN 3)))
  (fRet (fBin (pure2 addD) (fBin (pure2 addD) (fBin (pure2 addD) (fVar 2) (fC (.str "("))) (fVar 3)) (fC (.str ")"))))))))))))
def b_law_back (g : Fns) : FS :=
  (fTry (fRet (fCall g.read (fCons (fVar 0) fNil))) hits_TreeError_1 (fRet (fC .none)))
def b_law_head (g : Fns) : FS :=
  (fSeq (fAsg (fMt "str" splitW (fVar 0) (fCons (fC (.str " ")) fNil)) (gN 1))
  (fSeq (fIfS (fTest (fBin (pure2S inD) (fVar 0) (fTup (fCons (fC (.str "row")) (fCons (fC (.str "choice")) (fCons (fC (.str "row anew")) (fCons (fC (.str "choice anew")) (fCons (fC (.str "not")) (fCons (fC (.str "yes")) (fCons (fC (.str "no")) (fCons (fC (.str "keep")) fNil))))))))))) (fRet (fTup (fCons (fVar 0) fNil))) fSkip)
  (fSeq (fIfS (fAnd (fTest (fBin (pure2S eqD) (fCB lenW (fCons (fVar 1) fNil)) (fC (.int 2)))) (fAnd (fTest (fBin (pure2S inD) (fBin ixW (fVar 1) (fC (.int 0))) (fTup (fCons (fC (.str "again")) (fCons (fC (.str "till")) (fCons (fC (.str "hold")) (fCons (fC (.str "beside")) fNil))))))) (fTest (fBin (pure2S inD) (fBin ixW (fVar 1) (fC (.int 1))) (fTup (fCons (fC (.str "1")) (fCons (fC (.str "2")) (fCons (fC (.str "3")) (fCons (fC (.str "4")) (fCons (fC (.str "5")) fNil)))))))))) (fRet (fTup (fCons (fBin ixW (fVar 1) (fC (.int 0))) (fCons (fCB (rd1 toI) (fCons (fBin ixW (fVar 1) (fC (.int 1))) fNil)) fNil)))) fSkip)
  (fSeq (fIfS (fAnd (fTest (fBin (pure2S eqD) (fCB lenW (fCons (fVar 1) fNil)) (fC (.int 2)))) (fAnd (fTest (fBin (pure2S inD) (fBin ixW (fVar 1) (fC (.int 0))) (fTup (fCons (fC (.str "beside")) fNil)))) (fTest (fBin (pure2S inD) (fBin ixW (fVar 1) (fC (.int 1))) (fTup (fCons (fC (.str "6")) (fCons (fC (.str "7")) (fCons (fC (.str "8")) (fCons (fC (.str "9")) fNil))))))))) (fRet (fTup (fCons (fBin ixW (fVar 1) (fC (.int 0))) (fCons (fCB (rd1 toI) (fCons (fBin ixW (fVar 1) (fC (.int 1))) fNil)) fNil)))) fSkip)
  (fRet (fC .none))))))
def b_law_leaf_of (g : Fns) : FS :=
  (fSeq (fAsg (fMt "str" splitW (fVar 0) (fCons (fC (.str " ")) fNil)) (gN 1))
  (fSeq (fIfS (fAnd (fTest (fBin (pure2S eqD) (fCB lenW (fCons (fVar 1) fNil)) (fC (.int 2)))) (fTest (fBin (pure2S eqD) (fBin ixW (fVar 1) (fC (.int 0))) (fC (.str "ask"))))) (fRet (fTup (fCons (fC (.str "ask")) (fCons (fBin ixW (fVar 1) (fC (.int 1))) fNil)))) fSkip)
  (fSeq (fIfS (fAnd (fTest (fBin (pure2S eqD) (fCB lenW (fCons (fVar 1) fNil)) (fC (.int 3)))) (fAnd (fTest (fBin (pure2S eqD) (fBin ixW (fVar 1) (fC (.int 0))) (fC (.str "set")))) (fTest (fBin (pure2S inD) (fBin ixW (fVar 1) (fC (.int 2))) (fTup (fCons (fC (.str "up")) (fCons (fC (.str "down")) fNil))))))) (fRet (fTup (fCons (fC (.str "set")) (fCons (fBin ixW (fVar 1) (fC (.int 1))) (fCons (fBin (pure2S eqD) (fBin ixW (fVar 1) (fC (.int 2))) (fC (.str "up"))) fNil))))) fSkip)
  (fSeq (fIfS (fAnd (fTest (fBin (pure2S eqD) (fCB lenW (fCons (fVar 1) fNil)) (fC (.int 4)))) (fAnd (fTest (fBin (pure2S eqD) (fBin ixW (fVar 1) (fC (.int 0))) (fC (.str "do")))) (fTest (fBin (pure2S inD) (fBin ixW (fVar 1) (fC (.int 2))) (fTup (fCons (fC (.str "1")) (fCons (fC (.str "2")) (fCons (fC (.str "3")) (fCons (fC (.str "4")) fNil))))))))) (fRet (fTup (fCons (fC (.str "do")) (fCons (fBin ixW (fVar 1) (fC (.int 1))) (fCons (fCB (rd1 toI) (fCons (fBin ixW (fVar 1) (fC (.int 2))) fNil)) (fCons (fBin ixW (fVar 1) (fC (.int 3))) fNil)))))) fSkip)
  (fRet (fC .none))))))
def b_law_without (g : Fns) : FS :=
  (fSeq (fIfS (fTest (fBin (pure2S eqD) (fBin ixW (fVar 0) (fC (.int 0))) (fC (.str "set")))) (fRet (fTup (fCons (fC (.str "ask")) (fCons (fBin ixW (fVar 0) (fC (.int 1))) fNil)))) fSkip)
  (fSeq (fIfS (fTest (fBin (pure2S eqD) (fCall g.law_inner (fCons (fVar 0) fNil)) (fTup fNil))) (fRet (fVar 0)) fSkip)
  (fSeq (fAsg (fComp (fItems (fCall g.law_inner (fCons (fVar 0) fNil))) (gN 2) fYes (fCall g.law_without (fCons (fVar 2) fNil)) [2]) (gN 1))
  (fSeq (fIfS (fTest (fBin (pure2S inD) (fBin ixW (fVar 0) (fC (.int 0))) (fTup (fCons (fC (.str "not")) (fCons (fC (.str "yes")) (fCons (fC (.str "no")) (fCons (fC (.str "keep")) (fCons (fC (.str "again")) (fCons (fC (.str "till")) (fCons (fC (.str "hold")) fNil)))))))))) (fRet (fBin (pure2 addD) (fSl (fVar 0) fNoPart (fPart (fC (.int (-1))))) (fTup (fCons (fBin ixW (fVar 1) (fC (.int 0))) fNil)))) fSkip)
  (fRet (fBin (pure2 addD) (fSl (fVar 0) fNoPart (fPart (fC (.int (-1))))) (fTup (fCons (fCB (rd1 tupD) (fCons (fVar 1) fNil)) fNil))))))))
def b_law_anew (g : Fns) : FS :=
  (fSeq (fIfS (fTest (fBin (pure2S eqD) (fCall g.law_inner (fCons (fVar 0) fNil)) (fTup fNil))) (fRet (fVar 0)) fSkip)
  (fSeq (fAsg (fComp (fItems (fCall g.law_inner (fCons (fVar 0) fNil))) (gN 2) fYes (fCall g.law_anew (fCons (fVar 2) fNil)) [2]) (gN 1))
  (fSeq (fIfS (fTest (fBin (pure2S inD) (fBin ixW (fVar 0) (fC (.int 0))) (fTup (fCons (fC (.str "row")) (fCons (fC (.str "choice")) fNil))))) (fRet (fTup (fCons (fBin (pure2 addD) (fBin ixW (fVar 0) (fC (.int 0))) (fC (.str " anew"))) (fCons (fCB (rd1 tupD) (fCons (fVar 1) fNil)) fNil)))) fSkip)
  (fSeq (fIfS (fTest (fBin (pure2S inD) (fBin ixW (fVar 0) (fC (.int 0))) (fTup (fCons (fC (.str "not")) (fCons (fC (.str "yes")) (fCons (fC (.str "no")) (fCons (fC (.str "keep")) (fCons (fC (.str "again")) (fCons (fC (.str "till")) (fCons (fC (.str "hold")) fNil)))))))))) (fRet (fBin (pure2 addD) (fSl (fVar 0) fNoPart (fPart (fC (.int (-1))))) (fTup (fCons (fBin ixW (fVar 1) (fC (.int 0))) fNil)))) fSkip)
  (fRet (fBin (pure2 addD) (fSl (fVar 0) fNoPart (fPart (fC (.int (-1))))) (fTup (fCons (fCB (rd1 tupD) (fCons (fVar 1) fNil)) fNil))))))))
def b_law_k18 (g : Fns) : FS :=
  (fSeq (fAsg (fNew fNil) (gN 1))
  (fSeq (fAsg (fCall g.law_tree (fCons (fVar 0) (fCons (fVar 1) (fCons (fCall g.law_pick (fCons (fVar 0) (fCons (fVar 1) (fCons (fLst (fCons (fC (.int 1)) (fCons (fC (.int 2)) (fCons (fC (.int 3)) (fCons (fC (.int 4)) fNil))))) fNil)))) fNil)))) (gN 2))
  (fSeq (fAsg (fCall g.law_graph (fCons (fVar 2) fNil)) (gN 3))
  (fSeq (fIfS (fTest (fBin (isNW false) (fVar 3) (fC .none))) (fRet (fC (.bool true))) fSkip)
  (fSeq (fFor (fItems (fTup (fCons (fC (.str "yes")) (fCons (fC (.str "no")) (fCons (fC (.str "on")) fNil))))) (gN 4) (fSeq (fAsg (fCall g.law_ask_k18 (fCons (fVar 2) (fCons (fVar 4) fNil))) (gN 5))
  (fSeq (fIfS (fOr (fTest (fBin (pure2S neD) (fVar 5) (fCall g.law_due_k18 (fCons (fVar 3) (fCons (fVar 4) fNil))))) (fTest (fBin (pure2S neD) (fBin (isNW false) (fVar 5) (fC .none)) (fBin (pure2S ninD) (fVar 4) (fCall g.can_tell (fCons (fVar 2) fNil)))))) (fRet (fC (.bool false))) fSkip)
  (fIfS (fAnd (fTest (fBin (isNW true) (fVar 5) (fC .none))) (fAnd (fTest (fBin (pure2S leD) (fCB lenW (fCons (fVar 5) fNil)) (fC (.int 40)))) (fTest (fBin (pure2S neD) (fBin ixW (fBin ixW (fCall g.run (fCons (fVar 2) (fCons (fVar 5) fNil))) (fC (.int (-1)))) (fC (.int 0))) (fVar 4))))) (fRet (fC (.bool false))) fSkip))))
  (fRet (fBin (pure2S eqD) (fCall g.law_ask_k18 (fCons (fVar 2) (fCons (fCall g.law_pick (fCons (fVar 0) (fCons (fVar 1) (fCons (fLst (fCons (fC .none) (fCons (fC (.str "")) (fCons (fC (.str "off")) (fCons (fTup (fCons (fC (.str "yes")) fNil)) (fCons (fC (.bool true)) (fCons (fC (.int 0)) fNil))))))) fNil)))) fNil))) (fTup (fCons (fC (.str "refused")) (fCons (fC (.int 4)) fNil))))))))))
def b_law_k20 (g : Fns) : FS :=
  (fSeq (fAsg (fNew fNil) (gN 1))
  (fSeq (fAsg (fCall g.law_tree (fCons (fVar 0) (fCons (fVar 1) (fCons (fCall g.law_pick (fCons (fVar 0) (fCons (fVar 1) (fCons (fLst (fCons (fC (.int 1)) (fCons (fC (.int 2)) (fCons (fC (.int 3)) fNil)))) fNil)))) fNil)))) (gN 2))
  (fSeq (fIfS (fTest (fBin (pure2S eqD) (fCall g.law_draw (fCons (fVar 0) (fCons (fVar 1) (fCons (fC (.int 2)) fNil)))) (fC (.int 0)))) (fAsg (fTup (fCons (fC (.str "keep")) (fCons (fVar 2) fNil))) (gN 2)) fSkip)
  (fSeq (fIfS (fTest (fBin (isNW false) (fCall g.law_graph (fCons (fVar 2) fNil)) (fC .none))) (fRet (fC (.bool true))) fSkip)
  (fSeq (fAsg (fCall g.for_ever (fCons (fVar 2) fNil)) (gN 3))
  (fSeq (fAsg (fCall g.law_all_news (fCons (fVar 2) fNil)) (gN 4))
  (fSeq (fIfS (fOr (fTest (fBin (isNW false) (fVar 3) (fC .none))) (fTest (fBin (pure2S eqD) (fCall g.law_draw (fCons (fVar 0) (fCons (fVar 1) (fCons (fC (.int 3)) fNil)))) (fC (.int 0))))) (fSeq (fAsg (fComp (fRng1 (fCons (fC (.int 2)) fNil)) (gN 7) fYes (fCB (rd1 tupD) (fCons (fComp (fRng1 (fCons (fCall g.law_draw (fCons (fVar 0) (fCons (fVar 1) (fCons (fC (.int 7)) fNil)))) fNil)) (gN 6) fYes (fCall g.law_pick (fCons (fVar 0) (fCons (fVar 1) (fCons (fVar 4) fNil)))) [6]) fNil)) [7]) (gN 5))
  (fSeq (fAsg (fTup (fCons (fBin ixW (fVar 5) (fC (.int 0))) (fCons (fBin ixW (fVar 5) (fC (.int 1))) fNil))) (gN 3))
  (fIfS (fTest (fBin (pure2S eqD) (fCall g.law_draw (fCons (fVar 0) (fCons (fVar 1) (fCons (fC (.int 3)) fNil)))) (fC (.int 0)))) (fAsg (fTup (fCons (fBin ixW (fVar 5) (fC (.int 0))) (fCons (fBin (pure2 addD) (fBin ixW (fVar 5) (fC (.int 1))) (fBin ixW (fVar 5) (fC (.int 1)))) fNil))) (gN 3)) fSkip))) fSkip)
  (fSeq (fFor (fRng1 (fCons (fCall g.law_draw (fCons (fVar 0) (fCons (fVar 1) (fCons (fC (.int 3)) fNil)))) fNil)) (gN 6) (fSeq (fAsg (fCall g.law_draw (fCons (fVar 0) (fCons (fVar 1) (fCons (fC (.int 2)) fNil)))) (gN 8))
  (fSeq (fAsg (fBin ixW (fVar 3) (fVar 8)) (gN 9))
  (fSeq (fAsg (fCall g.law_draw (fCons (fVar 0) (fCons (fVar 1) (fCons (fBin (pure2 addD) (fCB lenW (fCons (fVar 9) fNil)) (fC (.int 1))) fNil)))) (gN 10))
  (fSeq (fAsg (fCall g.law_pick (fCons (fVar 0) (fCons (fVar 1) (fCons (fLst (fCons (fTup (fCons (fCall g.law_pick (fCons (fVar 0) (fCons (fVar 1) (fCons (fVar 4) fNil)))) fNil)) (fCons (fTup fNil) (fCons (fBin (pure2 mulD) (fSl (fVar 9) (fPart (fVar 10)) (fPart (fBin (pure2 addD) (fVar 10) (fC (.int 1))))) (fC (.int 2))) (fCons (fVar 9) fNil))))) fNil)))) (gN 11))
  (fSeq (fAsg (fBin (pure2 addD) (fBin (pure2 addD) (fSl (fVar 9) fNoPart (fPart (fVar 10))) (fVar 11)) (fSl (fVar 9) (fPart (fBin (pure2 addD) (fVar 10) (fC (.int 1)))) fNoPart)) (gN 9))
  (fAsg (fBin (pure2 addD) (fBin (pure2 addD) (fSl (fVar 3) fNoPart (fPart (fVar 8))) (fTup (fCons (fVar 9) fNil))) (fSl (fVar 3) (fPart (fBin (pure2 addD) (fVar 8) (fC (.int 1)))) fNoPart)) (gN 3))))))))
  (fSeq (fIfS (fTest (fBin (pure2S eqD) (fCall g.law_draw (fCons (fVar 0) (fCons (fVar 1) (fCons (fC (.int 4)) fNil)))) (fC (.int 0)))) (fAsg (fCall g.law_spoilt (fCons (fVar 0) (fCons (fVar 1) (fCons (fVar 3) fNil)))) (gN 3)) fSkip)
  (fSeq (fAsg (fCall g.is_for_ever (fCons (fVar 2) (fCons (fVar 3) fNil))) (gN 12))
  (fSeq (fIfS (fOr (fTest (fBin (pure2S neD) (fVar 12) (fCall g.law_due_k20 (fCons (fVar 2) (fCons (fVar 3) fNil))))) (fNot (fTest (fCB isiW (fCons (fVar 12) (fCons (fTy "bool") fNil)))))) (fRet (fC (.bool false))) fSkip)
  (fRet (fOrV (fNotV (fVar 12)) (fBin (isNW false) (fCall g.longest (fCons (fVar 2) fNil)) (fC .none)))))))))))))))
def b_law_k21 (g : Fns) : FS :=
  (fSeq (fAsg (fNew fNil) (gN 1))
  (fSeq (fAsg (fCall g.law_tree (fCons (fVar 0) (fCons (fVar 1) (fCons (fCall g.law_pick (fCons (fVar 0) (fCons (fVar 1) (fCons (fLst (fCons (fC (.int 1)) (fCons (fC (.int 2)) (fCons (fC (.int 3)) (fCons (fC (.int 4)) fNil))))) fNil)))) fNil)))) (gN 2))
  (fSeq (fAsg (fCall g.law_changed (fCons (fVar 0) (fCons (fVar 1) (fCons (fVar 2) fNil)))) (gN 3))
  (fSeq (fIfS (fTest (fBin (pure2S eqD) (fCall g.law_draw (fCons (fVar 0) (fCons (fVar 1) (fCons (fC (.int 4)) fNil)))) (fC (.int 0)))) (fAsg (fCall g.law_tree (fCons (fVar 0) (fCons (fVar 1) (fCons (fCall g.law_pick (fCons (fVar 0) (fCons (fVar 1) (fCons (fLst (fCons (fC (.int 1)) (fCons (fC (.int 2)) (fCons (fC (.int 3)) fNil)))) fNil)))) fNil)))) (gN 3)) fSkip)
  (fSeq (fAsg (fCall g.law_parts (fCons (fVar 2) (fCons (fVar 3) (fCons (fC (.int 400)) fNil)))) (gN 4))
  (fSeq (fIfS (fTest (fBin (pure2S eqD) (fVar 4) (fC (.str "many")))) (fRet (fC (.bool true))) fSkip)
  (fSeq (fIfS (fOr (fTest (fBin (pure2S neD) (fCall g.parts_them (fCons (fVar 2) (fCons (fVar 3) fNil))) (fVar 4))) (fOr (fTest (fBin (pure2S neD) (fCall g.parts_them (fCons (fVar 3) (fCons (fVar 2) fNil))) (fVar 4))) (fTest (fBin (pure2S neD) (fCall g.alike (fCons (fVar 2) (fCons (fVar 3) fNil))) (fBin (isNW false) (fVar 4) (fC .none)))))) (fRet (fC (.bool false))) fSkip)
  (fSeq (fIfS (fAnd (fTest (fBin (isNW false) (fCall g.law_parts (fCons (fVar 3) (fCons (fVar 3) (fCons (fC (.int 400)) fNil)))) (fC .none))) (fNot (fTest (fCall g.alike (fCons (fVar 3) (fCons (fVar 3) fNil)))))) (fRet (fC (.bool false))) fSkip)
  (fSeq (fIfS (fAnd (fTest (fBin (isNW false) (fCall g.law_parts (fCons (fVar 2) (fCons (fVar 2) (fCons (fC (.int 400)) fNil)))) (fC .none))) (fTest (fBin (isNW true) (fCall g.parts_them (fCons (fVar 2) (fCons (fVar 2) fNil))) (fC .none)))) (fRet (fC (.bool false))) fSkip)
  (fSeq (fIfS (fOr (fTest (fBin (isNW false) (fVar 4) (fC .none))) (fTest (fBin (pure2S gtD) (fCB lenW (fCons (fVar 4) fNil)) (fC (.int 40))))) (fRet (fC (.bool true))) fSkip)
  (fSeq (fAsg (fTup (fCons (fCall g.run (fCons (fVar 2) (fCons (fVar 4) fNil))) (fCons (fCall g.run (fCons (fVar 3) (fCons (fVar 4) fNil))) fNil))) (gTup 2 (gsCons (gN 5) (gsCons (gN 6) gsNil))))
  (fRet (fAndV (fBin (pure2S eqD) (fSl (fVar 5) fNoPart (fPart (fC (.int (-1))))) (fSl (fVar 6) fNoPart (fPart (fC (.int (-1)))))) (fBin (pure2S neD) (fBin ixW (fVar 5) (fC (.int (-1)))) (fBin ixW (fVar 6) (fC (.int (-1))))))))))))))))))
def b_law_k23 (g : Fns) : FS :=
  (fSeq (fAsg (fNew fNil) (gN 1))
  (fSeq (fAsg (fCall g.law_tree (fCons (fVar 0) (fCons (fVar 1) (fCons (fC (.int 5)) fNil)))) (gN 2))
  (fSeq (fIfS (fAnd (fTest (fBin (pure2S eqD) (fCall g.law_draw (fCons (fVar 0) (fCons (fVar 1) (fCons (fC (.int 2)) fNil)))) (fC (.int 0)))) (fTest (fBin (pure2S ltD) (fCall g.law_size (fCons (fVar 2) fNil)) (fC (.int 9))))) (fSeq (fAsg (fCall g.law_pick (fCons (fVar 0) (fCons (fVar 1) (fCons (fLst (fCons (fC (.str "not")) (fCons (fC (.str "yes")) (fCons (fC (.str "no")) (fCons (fC (.str "keep")) fNil))))) fNil)))) (gN 3))
  (fAsg (fCall g.law_pick (fCons (fVar 0) (fCons (fVar 1) (fCons (fLst (fCons (fTup (fCons (fC (.str "row")) (fCons (fTup (fCons (fVar 2) fNil)) fNil))) (fCons (fTup (fCons (fVar 3) (fCons (fVar 2) fNil))) (fCons (fTup (fCons (fC (.str "again")) (fCons (fC (.int 1)) (fCons (fVar 2) fNil)))) (fCons (fTup (fCons (fC (.str "hold")) (fCons (fC (.int 4)) (fCons (fVar 2) fNil)))) fNil))))) fNil)))) (gN 2))) fSkip)
  (fSeq (fWhile WH (fTest (fBin (pure2S gtD) (fCall g.law_deep (fCons (fVar 2) fNil)) (fC (.int 5)))) (fAsg (fBin ixW (fCall g.law_inner (fCons (fVar 2) fNil)) (fC (.int 0))) (gN 2)))
  (fSeq (fAsg (fCall g.form (fCons (fVar 2) fNil)) (gN 4))
  (fSeq (fIfS (fOr (fTest (fBin (pure2S neD) (fVar 4) (fCall g.law_form (fCons (fVar 2) fNil)))) (fOr (fTest (fBin (pure2S neD) (fCall g.form (fCons (fVar 4) fNil)) (fVar 4))) (fTest (fBin (pure2S gtD) (fCall g.law_size (fCons (fVar 4) fNil)) (fCall g.law_size (fCons (fVar 2) fNil)))))) (fRet (fC (.bool false))) fSkip)
  (fSeq (fAsg (fCall g.law_parts (fCons (fVar 2) (fCons (fVar 4) (fCons (fC (.int 150)) fNil)))) (gN 5))
  (fRet (fOrV (fBin (pure2S eqD) (fVar 5) (fC (.str "many"))) (fAndV (fBin (isNW false) (fVar 5) (fC .none)) (fCall g.alike (fCons (fVar 2) (fCons (fVar 4) fNil)))))))))))))
def b_law_k24 (g : Fns) : FS :=
  (fSeq (fAsg (fNew fNil) (gN 1))
  (fSeq (fAsg (fCall g.law_tree (fCons (fVar 0) (fCons (fVar 1) (fCons (fC (.int 3)) fNil)))) (gN 2))
  (fSeq (fWhile WH (fTest (fBin (pure2S gtD) (fCall g.law_size (fCons (fVar 2) fNil)) (fC (.int 8)))) (fAsg (fBin ixW (fCall g.law_inner (fCons (fVar 2) fNil)) (fC (.int 0))) (gN 2)))
  (fSeq (fAsg (fCall g.form (fCons (fVar 2) fNil)) (gN 3))
  (fSeq (fFor (fRng1 (fCons (fC (.int 4)) fNil)) (gN 4) (fSeq (fAsg (fVar 2) (gN 5))
  (fSeq (fFor (fRng1 (fCons (fC (.int 2)) fNil)) (gN 6) (fSeq (fAsg (fCall g.law_wrapped (fCons (fVar 0) (fCons (fVar 1) (fCons (fVar 5) fNil)))) (gN 7))
  (fIfS (fTest (fBin (pure2S leD) (fCall g.law_deep (fCons (fVar 7) fNil)) (fC (.int 5)))) (fAsg (fVar 7) (gN 5)) fSkip)))
  (fIfS (fTest (fBin (pure2S neD) (fCall g.form (fCons (fVar 5) fNil)) (fVar 3))) (fRet (fC (.bool false))) fSkip))))
  (fSeq (fAsg (fCall g.law_pick (fCons (fVar 0) (fCons (fVar 1) (fCons (fLst (fCons (fC (.str "yes")) (fCons (fC (.str "no")) (fCons (fC (.str "keep")) fNil)))) fNil)))) (gN 8))
  (fSeq (fIfS (fOr (fTest (fBin (pure2S neD) (fCall g.form (fCons (fTup (fCons (fVar 8) (fCons (fTup (fCons (fVar 8) (fCons (fVar 2) fNil))) fNil))) fNil)) (fCall g.form (fCons (fTup (fCons (fVar 8) (fCons (fVar 2) fNil))) fNil)))) (fTest (fBin (pure2S neD) (fCall g.form (fCons (fTup (fCons (fVar 8) (fCons (fTup (fCons (fC (.str "not")) (fCons (fVar 2) fNil))) fNil))) fNil)) (fCall g.form (fCons (fTup (fCons (fVar 8) (fCons (fVar 2) fNil))) fNil))))) (fRet (fC (.bool false))) fSkip)
  (fRet (fCall g.law_alike (fCons (fVar 2) (fCons (fVar 3) fNil)))))))))))
def b_law_k25 (g : Fns) : FS :=
  (fSeq (fAsg (fNew fNil) (gN 1))
  (fSeq (fAsg (fComp (fRng1 (fCons (fC (.int 3)) fNil)) (gN 3) fYes (fCall g.law_tree (fCons (fVar 0) (fCons (fVar 1) (fCons (fCall g.law_pick (fCons (fVar 0) (fCons (fVar 1) (fCons (fLst (fCons (fC (.int 1)) (fCons (fC (.int 2)) (fCons (fC (.int 5)) fNil)))) fNil)))) fNil)))) [3]) (gN 2))
  (fSeq (fFor (fItems (fVar 2)) (gN 4) (fSeq (fIfS (fOr (fTest (fBin (pure2S neD) (fCall g.shown (fCons (fVar 4) fNil)) (fCall g.law_shown (fCons (fVar 4) fNil)))) (fTest (fBin (pure2S neD) (fCall g.law_back (fCons (fCall g.shown (fCons (fVar 4) fNil)) fNil)) (fVar 4)))) (fRet (fC (.bool false))) fSkip)
  (fFor (fItems (fVar 2)) (gN 5) (fIfS (fTest (fBin (pure2S neD) (fBin (pure2S eqD) (fCall g.shown (fCons (fVar 4) fNil)) (fCall g.shown (fCons (fVar 5) fNil))) (fBin (pure2S eqD) (fVar 4) (fVar 5)))) (fRet (fC (.bool false))) fSkip))))
  (fRet (fC (.bool true))))))
def b_law_k26 (g : Fns) : FS :=
  (fSeq (fAsg (fNew fNil) (gN 1))
  (fSeq (fAsg (fCall g.shown (fCons (fCall g.law_tree (fCons (fVar 0) (fCons (fVar 1) (fCons (fCall g.law_pick (fCons (fVar 0) (fCons (fVar 1) (fCons (fLst (fCons (fC (.int 1)) (fCons (fC (.int 2)) (fCons (fC (.int 3)) (fCons (fC (.int 5)) fNil))))) fNil)))) fNil)))) fNil)) (gN 2))
  (fSeq (fFor (fRng1 (fCons (fCall g.law_draw (fCons (fVar 0) (fCons (fVar 1) (fCons (fC (.int 3)) fNil)))) fNil)) (gN 3) (fSeq (fAsg (fCall g.law_draw (fCons (fVar 0) (fCons (fVar 1) (fCons (fBin (pure2 addD) (fCB lenW (fCons (fVar 2) fNil)) (fC (.int 1))) fNil)))) (gN 4))
  (fSeq (fAsg (fLst (fCons (fC (.str "")) (fCons (fC (.str "a")) (fCons (fC (.str "d")) (fCons (fC (.str " ")) (fCons (fC (.str "(")) (fCons (fC (.str ")")) (fCons (fC (.str "; ")) (fCons (fC (.str ";")) (fCons (fC (.str "1")) (fCons (fC (.str "4")) (fCons (fC (.str "5")) (fCons (fC (.str "0")) (fCons (fC (.str "ask a")) (fCons (fC (.str "yes")) (fCons (fC (.str "no")) (fCons (fC (.str "up")) (fCons (fC (.str " anew")) (fCons (fC (.str "A")) fNil))))))))))))))))))) (gN 5))
  (fAsg (fBin (pure2 addD) (fBin (pure2 addD) (fSl (fVar 2) fNoPart (fPart (fVar 4))) (fCall g.law_pick (fCons (fVar 0) (fCons (fVar 1) (fCons (fVar 5) fNil))))) (fSl (fVar 2) (fPart (fBin (pure2 addD) (fVar 4) (fCall g.law_draw (fCons (fVar 0) (fCons (fVar 1) (fCons (fC (.int 3)) fNil)))))) fNoPart)) (gN 2)))))
  (fSeq (fAsg (fCall g.law_ask_k26 (fCons (fVar 2) fNil)) (gN 6))
  (fSeq (fAsg (fCall g.law_read (fCons (fVar 2) fNil)) (gN 7))
  (fSeq (fIfS (fOr (fTest (fBin (isNW false) (fVar 7) (fC .none))) (fOr (fNot (fTest (fCall g.law_is_part (fCons (fVar 7) (fCons (fC (.int 5)) fNil))))) (fTest (fBin (pure2S gtD) (fCall g.law_size (fCons (fVar 7) fNil)) (fC (.int 14)))))) (fAsg (fTup (fCons (fC (.str "refused")) (fCons (fC (.int 8)) fNil))) (gN 7)) fSkip)
  (fSeq (fIfS (fOr (fTest (fBin (pure2S neD) (fVar 6) (fVar 7))) (fAnd (fTest (fBin (pure2S neD) (fVar 6) (fTup (fCons (fC (.str "refused")) (fCons (fC (.int 8)) fNil))))) (fTest (fBin (pure2S neD) (fCall g.law_shown (fCons (fVar 6) fNil)) (fVar 2))))) (fRet (fC (.bool false))) fSkip)
  (fSeq (fAsg (fCall g.law_pick (fCons (fVar 0) (fCons (fVar 1) (fCons (fLst (fCons (fC .none) (fCons (fC (.str "")) (fCons (fC (.str " ")) (fCons (fC (.int 1)) (fCons (fLst (fCons (fC (.str "ask a")) fNil)) (fCons (fC (.bool true)) (fCons (fC (.str "()")) (fCons (fC (.str "row()")) (fCons (fC (.str "ask")) fNil)))))))))) fNil)))) (gN 8))
  (fRet (fBin (pure2S eqD) (fCall g.law_ask_k26 (fCons (fVar 8) fNil)) (fTup (fCons (fC (.str "refused")) (fCons (fC (.int 8)) fNil)))))))))))))
def stepF (g : Fns) : Fns where
  is_whole := fFun 3 (b_is_whole g)
  is_word := fFun 2 (b_is_word g)
  is_name := fFun 1 (b_is_name g)
  is_flag := fFun 1 (b_is_flag g)
  is_leaf := fFun 1 (b_is_leaf g)
  is_part := fFun 2 (b_is_part g)
  are_parts := fFun 3 (b_are_parts g)
  parts_of := fFun 1 (b_parts_of g)
  with_parts := fFun 2 (b_with_parts g)
  size_of := fFun 2 (b_size_of g)
  is_tree := fFun 1 (b_is_tree g)
  need_tree := fFun 1 (b_need_tree g)
  leaves_of := fFun 5 (b_leaves_of g)
  leaves := fFun 2 (b_leaves g)
  part_at := fFun 3 (b_part_at g)
  part := fFun 2 (b_part g)
  flags_of := fun _ _ => .bad
  flags := fFun 1 (b_flags g)
  cut_off := fFun 5 (b_cut_off g)
  tick_do := fFun 8 (b_tick_do g)
  tick_row := fFun 10 (b_tick_row g)
  tick_anew := fFun 13 (b_tick_anew g)
  tick_beside := fun _ _ => .bad
  tick_counted := fFun 11 (b_tick_counted g)
  tick_one := fun _ _ => .bad
  tick := fFun 4 (b_tick g)
  all_news := fun _ _ => .bad
  first_of := fFun 2 (b_first_of g)
  stepped := fun _ _ => .bad
  graph_of := fun _ _ => .bad
  graph_of_k01 := fun _ _ => .bad
  how_many := fFun 1 (b_how_many g)
  how_many_k01 := fFun 1 (b_how_many_k01 g)
  can_tell := fun _ _ => .bad
  can_tell_k01 := fun _ _ => .bad
  fastest := fun _ _ => .bad
  fastest_k01 := fun _ _ => .bad
  on_steps := fun _ _ => .bad
  longest := fun _ _ => .bad
  longest_k01 := fun _ _ => .bad
  for_ever := fun _ _ => .bad
  for_ever_k01 := fun _ _ => .bad
  is_news_row := fFun 4 (b_is_news_row g)
  is_for_ever := fFun 10 (b_is_for_ever g)
  is_for_ever_k01 := fFun 10 (b_is_for_ever_k01 g)
  search := fun _ _ => .bad
  search_k01 := fun _ _ => .bad
  parts_them := fFun 2 (b_parts_them g)
  parts_them_k01 := fFun 2 (b_parts_them_k01 g)
  alike := fFun 2 (b_alike g)
  alike_k01 := fFun 2 (b_alike_k01 g)
  is_at_once := fFun 2 (b_is_at_once g)
  joined := fFun 4 (b_joined g)
  simpler_many := fFun 3 (b_simpler_many g)
  simpler := fun _ _ => .bad
  form_of := fFun 4 (b_form_of g)
  form := fFun 1 (b_form g)
  is_news := fFun 3 (b_is_news g)
  run := fun _ _ => .bad
  head_of := fFun 1 (b_head_of g)
  text_of := fFun 2 (b_text_of g)
  shown := fFun 1 (b_shown g)
  law_cell_at := fFun 2 (b_law_cell_at g)
  law_mixed := fFun 4 (b_law_mixed g)
  law_draw := fFun 3 (b_law_draw g)
  law_pick := fFun 3 (b_law_pick g)
  law_leaf := fFun 4 (b_law_leaf g)
  law_part := fFun 8 (b_law_part g)
  law_size := fFun 2 (b_law_size g)
  law_inner := fFun 1 (b_law_inner g)
  law_tree := fFun 4 (b_law_tree g)
  law_leaves := fFun 5 (b_law_leaves g)
  law_spoilt := fun _ _ => .bad
  law_whole := fFun 3 (b_law_whole g)
  law_is_leaf := fFun 2 (b_law_is_leaf g)
  law_is_part := fFun 4 (b_law_is_part g)
  law_which := fun _ _ => .bad
  law_ask := fun _ _ => .bad
  law_ask_k08 := fun _ _ => .bad
  law_ask_k11 := fun _ _ => .bad
  law_ask_k12 := fun _ _ => .bad
  law_ask_k13 := fun _ _ => .bad
  law_ask_k14 := fun _ _ => .bad
  law_ask_k18 := fun _ _ => .bad
  law_ask_k26 := fun _ _ => .bad
  law_ask_k29 := fun _ _ => .bad
  law_news := fFun 3 (b_law_news g)
  law_clear := fun _ _ => .bad
  law_cut := fFun 6 (b_law_cut g)
  law_end := fun _ _ => .bad
  law_tick := fun _ _ => .bad
  law_many := fun _ _ => .bad
  law_beside := fun _ _ => .bad
  law_one := fun _ _ => .bad
  law_ticked := fun _ _ => .bad
  law_named := fFun 4 (b_law_named g)
  law_named_k30 := fun _ _ => .bad
  law_closed := fun _ _ => .bad
  law_at := fFun 3 (b_law_at g)
  law_with := fFun 4 (b_law_with g)
  law_ways := fFun 5 (b_law_ways g)
  law_deep := fFun 2 (b_law_deep g)
  law_put := fFun 6 (b_law_put g)
  law_moved := fun _ _ => .bad
  law_add := fun _ _ => .bad
  law_take := fun _ _ => .bad
  woken := fun _ _ => .bad
  law_due := fFun 10 (b_law_due g)
  law_due_k18 := fun _ _ => .bad
  law_due_k20 := fFun 10 (b_law_due_k20 g)
  law_call := fun _ _ => .bad
  law_do := fun _ _ => .bad
  law_all_news := fun _ _ => .bad
  law_step := fun _ _ => .bad
  law_first := fFun 0 (b_law_first g)
  law_graph := fun _ _ => .bad
  law_goes_on := fFun 8 (b_law_goes_on g)
  law_parts := fun _ _ => .bad
  law_changed := fFun 6 (b_law_changed g)
  law_swapped := fFun 6 (b_law_swapped g)
  law_alike := fFun 2 (b_law_alike g)
  law_alike_k30 := fFun 2 (b_law_alike_k30 g)
  law_parted := fFun 2 (b_law_parted g)
  law_at_once := fFun 2 (b_law_at_once g)
  law_form := fun _ _ => .bad
  law_wrapped := fFun 4 (b_law_wrapped g)
  number := fFun 1 (b_number g)
  leaf_of := fFun 1 (b_leaf_of g)
  part_of := fFun 3 (b_part_of g)
  read_part := fFun 10 (b_read_part g)
  read := fFun 2 (b_read g)
  law_shown := fFun 6 (b_law_shown g)
  law_back := fFun 1 (b_law_back g)
  law_head := fFun 2 (b_law_head g)
  law_leaf_of := fFun 2 (b_law_leaf_of g)
  law_read := fun _ _ => .bad
  law_without := fFun 3 (b_law_without g)
  law_anew := fFun 3 (b_law_anew g)
  law_k01 := fun _ _ => .bad
  law_k02 := fun _ _ => .bad
  law_k03 := fun _ _ => .bad
  law_k04 := fun _ _ => .bad
  law_k05 := fun _ _ => .bad
  law_k06 := fun _ _ => .bad
  law_k07 := fun _ _ => .bad
  law_k08 := fun _ _ => .bad
  law_k09 := fun _ _ => .bad
  law_k10 := fun _ _ => .bad
  law_k11 := fun _ _ => .bad
  law_k12 := fun _ _ => .bad
  law_k13 := fun _ _ => .bad
  law_k14 := fun _ _ => .bad
  law_k15 := fun _ _ => .bad
  law_k16 := fun _ _ => .bad
  law_k17 := fun _ _ => .bad
  law_k18 := fFun 6 (b_law_k18 g)
  law_k19 := fun _ _ => .bad
  law_k20 := fFun 13 (b_law_k20 g)
  law_k21 := fFun 7 (b_law_k21 g)
  law_k22 := fun _ _ => .bad
  law_k23 := fFun 6 (b_law_k23 g)
  law_k24 := fFun 9 (b_law_k24 g)
  law_k25 := fFun 6 (b_law_k25 g)
  law_k26 := fFun 9 (b_law_k26 g)
  law_k27 := fun _ _ => .bad
  law_k28 := fun _ _ => .bad
  law_k29 := fun _ _ => .bad
  law_k30 := fun _ _ => .bad
def R : Nat → Fns
  | 0 => ⟨fun _ _ => .bad, fun _ _ => .bad, fun _ _ => .bad, fun _ _ => .bad, fun _ _ => .bad, fun _ _ => .bad, fun _ _ => .bad, fun _ _ => .bad, fun _ _ => .bad, fun _ _ => .bad, fun _ _ => .bad, fun _ _ => .bad, fun _ _ => .bad, fun _ _ => .bad, fun _ _ => .bad, fun _ _ => .bad, fun _ _ => .bad, fun _ _ => .bad, fun _ _ => .bad, fun _ _ => .bad, fun _ _ => .bad, fun _ _ => .bad, fun _ _ => .bad, fun _ _ => .bad, fun _ _ => .bad, fun _ _ => .bad, fun _ _ => .bad, fun _ _ => .bad, fun _ _ => .bad, fun _ _ => .bad, fun _ _ => .bad, fun _ _ => .bad, fun _ _ => .bad, fun _ _ => .bad, fun _ _ => .bad, fun _ _ => .bad, fun _ _ => .bad, fun _ _ => .bad, fun _ _ => .bad, fun _ _ => .bad, fun _ _ => .bad, fun _ _ => .bad, fun _ _ => .bad, fun _ _ => .bad, fun _ _ => .bad, fun _ _ => .bad, fun _ _ => .bad, fun _ _ => .bad, fun _ _ => .bad, fun _ _ => .bad, fun _ _ => .bad, fun _ _ => .bad, fun _ _ => .bad, fun _ _ => .bad, fun _ _ => .bad, fun _ _ => .bad, fun _ _ => .bad, fun _ _ => .bad, fun _ _ => .bad, fun _ _ => .bad, fun _ _ => .bad, fun _ _ => .bad, fun _ _ => .bad, fun _ _ => .bad, fun _ _ => .bad, fun _ _ => .bad, fun _ _ => .bad, fun _ _ => .bad, fun _ _ => .bad, fun _ _ => .bad, fun _ _ => .bad, fun _ _ => .bad, fun _ _ => .bad, fun _ _ => .bad, fun _ _ => .bad, fun _ _ => .bad, fun _ _ => .bad, fun _ _ => .bad, fun _ _ => .bad, fun _ _ => .bad, fun _ _ => .bad, fun _ _ => .bad, fun _ _ => .bad, fun _ _ => .bad, fun _ _ => .bad, fun _ _ => .bad, fun _ _ => .bad, fun _ _ => .bad, fun _ _ => .bad, fun _ _ => .bad, fun _ _ => .bad, fun _ _ => .bad, fun _ _ => .bad, fun _ _ => .bad, fun _ _ => .bad, fun _ _ => .bad, fun _ _ => .bad, fun _ _ => .bad, fun _ _ => .bad, fun _ _ => .bad, fun _ _ => .bad, fun _ _ => .bad, fun _ _ => .bad, fun _ _ => .bad, fun _ _ => .bad, fun _ _ => .bad, fun _ _ => .bad, fun _ _ => .bad, fun _ _ => .bad, fun _ _ => .bad, fun _ _ => .bad, fun _ _ => .bad, fun _ _ => .bad, fun _ _ => .bad, fun _ _ => .bad, fun _ _ => .bad, fun _ _ => .bad, fun _ _ => .bad, fun _ _ => .bad, fun _ _ => .bad, fun _ _ => .bad, fun _ _ => .bad, fun _ _ => .bad, fun _ _ => .bad, fun _ _ => .bad, fun _ _ => .bad, fun _ _ => .bad, fun _ _ => .bad, fun _ _ => .bad, fun _ _ => .bad, fun _ _ => .bad, fun _ _ => .bad, fun _ _ => .bad, fun _ _ => .bad, fun _ _ => .bad, fun _ _ => .bad, fun _ _ => .bad, fun _ _ => .bad, fun _ _ => .bad, fun _ _ => .bad, fun _ _ => .bad, fun _ _ => .bad, fun _ _ => .bad, fun _ _ => .bad, fun _ _ => .bad, fun _ _ => .bad, fun _ _ => .bad, fun _ _ => .bad, fun _ _ => .bad, fun _ _ => .bad, fun _ _ => .bad, fun _ _ => .bad, fun _ _ => .bad, fun _ _ => .bad, fun _ _ => .bad, fun _ _ => .bad, fun _ _ => .bad, fun _ _ => .bad, fun _ _ => .bad, fun _ _ => .bad, fun _ _ => .bad, fun _ _ => .bad, fun _ _ => .bad, fun _ _ => .bad, fun _ _ => .bad, fun _ _ => .bad, fun _ _ => .bad, fun _ _ => .bad⟩
  | k + 1 => stepF (R k)
end FL
set_option Elab.async false
set_option linter.all false
set_option maxRecDepth 100000
set_option maxHeartbeats 2000000
/-! Draws: cell, mixed, draw, pick. -/
namespace FL
open PySem L2 FL
local macro_rules | `(tactic| walk_at "fl") => `(tactic| simp only [fFun, fSeq, fIfS, fRet, fEx, fAsg, fTest, fBin, fVar, fC, fCons, fNil, fCB, fCall, fTup, fLst, fNew, fIf, fAnd, fOr, fNot, fAndV, fOrV, fNotV, fChain, fTy, fSkip, fRetN, fMt, fSl, fPart, fNoPart, fBad, fRaise, fTry,
  Res.bind, Res.of, Res.of2, RS.ofE, RS.ofG, toB, pure2, pure2S, viewO, view, W.own, retW, retCut, gN, gTup, gsCons, gsNil, frz1, frzAll, rd1, one1, tyW, appW, extW,
  lenW, lenB, isiW, isi, ixW, ixB, slB, eqD, neD, eqB, inD, ninD, inB, ltD, leD, gtD, geD, subD, modD, addD, mulD, intD, isNW, isNo,
  List.map, List.replicate, List.length_cons, List.length_nil, List.cons_append, List.nil_append, List.getElem?_cons_zero, List.getElem?_cons_succ, List.set_cons_zero, List.set_cons_succ, Option.bind_some, Option.map_some, Option.bind_none, Option.map_none, if_true, if_false, Bool.false_eq_true, List.take_length, Bool.or_true, Bool.true_or, Bool.and_true, Bool.true_and, Bool.not_true, Bool.not_false, List.length_map, Nat.zero_add, Nat.reduceAdd, Nat.reduceSub, beq_self_eq_true, *])
theorem atI_map {α β : Type} (f : α → β) (xs : List α) (i : Int) : atI (xs.map f) i = (atI xs i).map f := by
  unfold atI
  rw [List.length_map]
  cases ixN xs.length i <;> simp
theorem atI_in {α : Type} (xs : List α) (i : Int) (h0 : 0 ≤ i) (h1 : i < xs.length) : ∃ v, atI xs i = some v ∧ v ∈ xs := by
  have hl : i.toNat < xs.length := by omega
  refine ⟨xs[i.toNat], ?_, List.getElem_mem hl⟩
  unfold atI ixN
  rw [if_pos h0, if_pos (by omega)]
  simp [hl]
theorem lay_ints : ∀ ns : List Int, PyData.canLayAll0 (ns.map PyData.int) = true
  | [] => by simp [PyData.canLayAll0]
  | n :: r => by simp [PyData.canLayAll0, PyData.canLay0, lay_ints r]
theorem depth_ints : ∀ ns : List Int, PyData.depthAll (ns.map PyData.int) = 0
  | [] => by simp [PyData.depthAll]
  | n :: r => by simp [PyData.depthAll, PyData.depth, depth_ints r]
theorem shaped_ints (ns : List Int) : SeqAt.shaped (.list (ns.map PyData.int)) = true := by
  simp [SeqAt.shaped, PyData.canLay0, PyData.depth, lay_ints, depth_ints]
theorem cell_ok (k : Nat) (ns : List Int) (i : Int) (st : Sto) (hi : 0 ≤ i) : ∃ v, (R (k + 1)).law_cell_at [.s ns, .d (.int i)] st = .ok (.d (.int v)) st := by
  show ∃ v, fFun 2 (b_law_cell_at (R k)) _ _ = _
  unfold b_law_cell_at
  by_cases h1 : i < (ns.length : Int)
  · obtain ⟨v, hv, _⟩ := atI_in ns i hi h1
    have e1 : decide (i < (ns.length : Int)) = true := by simpa using h1
    have e2 : atI (ns.map PyData.int) i = some (.int v) := by rw [atI_map, hv]; rfl
    clear h1 hv
    exact ⟨v, by walk_at "fl"⟩
  · have e1 : decide (i < (ns.length : Int)) = false := by simpa using h1
    have e3 := shaped_ints ns
    have e4 : SeqAt.shaped (.list []) = true := by decide
    cases ns with
    | nil =>
      have e5 : PyData.eqv (.list []) (.list []) = true := by decide
      simp only [List.map_nil, List.length_nil] at e1 e3
      clear h1
      exact ⟨0, by walk_at "fl"⟩
    | cons n r =>
      have e5 : PyData.eqv (.list ((n :: r).map PyData.int)) (.list []) = false := by simp [PyData.eqv, PyData.eqvAll]
      have hl : (0 : Int) < ((n :: r).length : Nat) := by simp only [List.length_cons]; omega
      obtain ⟨v, hv, _⟩ := atI_in (n :: r) (i % ((n :: r).length : Nat)) (Int.emod_nonneg _ (by omega)) (Int.emod_lt_of_pos _ hl)
      have e2 : atI ((n :: r).map PyData.int) (i % ((n :: r).length : Nat)) = some (.int v) := by rw [atI_map, hv]; rfl
      have e6 : small64 31 = true := by decide
      refine ⟨v * 31 + i, ?_⟩
      generalize hz : (n :: r).map PyData.int = zs at *
      generalize hq : n :: r = q at *
      clear h1 hv
      have e7 : zs.length = q.length := by rw [← hz]; simp
      walk_at "fl"
theorem small_of {i : Int} (h0 : 0 ≤ i) (h1 : i < 2147483647) : small64 i = true := by
  simp only [small64, Bool.and_eq_true, decide_eq_true_eq]
  exact ⟨by omega, by omega⟩
theorem mixed_ok (k : Nat) (ns : List Int) (i many : Int) (st : Sto) (hi : 0 ≤ i) (hm : 0 < many) : ∃ v, 0 ≤ v ∧ v < many ∧ (R (k + 2)).law_mixed [.s ns, .d (.int i), .d (.int many)] st = .ok (.d (.int v)) st := by
  obtain ⟨c, hc⟩ := cell_ok k ns i st hi
  have e1 : small64 7919 = true := by decide
  have e2 : small64 48271 = true := by decide
  have e3 : small64 7 = true := by decide
  have e4 : small64 ((c + 7919 * i + 1) * 48271 % 2147483647) = true := small_of (Int.emod_nonneg _ (by decide)) (Int.emod_lt_of_pos _ (by decide))
  have e5 : (0 : Int) < 2147483647 := by decide
  have e6 : (0 : Int) < 2147483629 := by decide
  refine ⟨_, Int.emod_nonneg _ (Int.ne_of_gt hm), Int.emod_lt_of_pos (((c + 7919 * i + 1) * 48271 % 2147483647 * ((c + 7919 * i + 1) * 48271 % 2147483647) + 7 * ((c + 7919 * i + 1) * 48271 % 2147483647) + i) % 2147483629) hm, ?_⟩
  show fFun 4 (b_law_mixed (R (k + 1))) _ _ = _
  unfold b_law_mixed
  walk_at "fl"

theorem set_at {st : Sto} {n : Nat} {c x : C} (h : st[n]? = some c) : (st.set n x)[n]? = some x := List.getElem?_set_self (List.getElem?_eq_some_iff.mp h).1
theorem take_set {st : Sto} {n : Nat} {x : C} : (st.set n x).take st.length = st.set n x := List.take_of_length_le (by simp)
theorem draw_ok (k : Nat) (ns : List Int) (n : Nat) (many : Int) (st : Sto) (zs : List PyData) (hz : st[n]? = some (.lst zs)) (hl : zs.length < LIM) (hm : 0 < many) :
    ∃ v, 0 ≤ v ∧ v < many ∧ (R (k + 3)).law_draw [.s ns, .c n, .d (.int many)] st = .ok (.d (.int v)) (st.set n (.lst (zs ++ [.int 0]))) := by
  obtain ⟨v, h0, h1, hv⟩ := mixed_ok k ns ((zs ++ [PyData.int 0]).length : Nat) many (st.set n (.lst (zs ++ [.int 0]))) (by omega) hm
  refine ⟨v, h0, h1, ?_⟩
  have e1 := set_at (x := .lst (zs ++ [.int 0])) hz
  have e2 := take_set (st := st) (n := n) (x := .lst (zs ++ [.int 0]))
  show fFun 3 (b_law_draw (R (k + 2))) _ _ = _
  unfold b_law_draw
  clear h0 h1 hm
  walk_at "fl"
theorem pick_ok (k : Nat) (ns : List Int) (n : Nat) (ds : List PyData) (st : Sto) (zs : List PyData) (hz : st[n]? = some (.lst zs)) (hl : zs.length < LIM) (hm : ds ≠ []) :
    ∃ x, x ∈ ds ∧ (R (k + 4)).law_pick [.s ns, .c n, .d (.list ds)] st = .ok (.d x) (st.set n (.lst (zs ++ [.int 0]))) := by
  have hp : (0 : Int) < (ds.length : Nat) := by
    cases ds with
    | nil => exact absurd rfl hm
    | cons _ _ => simp only [List.length_cons]; omega
  obtain ⟨v, h0, h1, hv⟩ := draw_ok k ns n (ds.length : Nat) st zs hz hl hp
  obtain ⟨x, hx, hm2⟩ := atI_in ds v h0 h1
  refine ⟨x, hm2, ?_⟩
  have e2 := take_set (st := st) (n := n) (x := .lst (zs ++ [.int 0]))
  show fFun 3 (b_law_pick (R (k + 3))) _ _ = _
  unfold b_law_pick
  clear h0 h1 hm hp hm2
  walk_at "fl"
end FL
set_option Elab.async false
set_option linter.all false
set_option maxRecDepth 100000
set_option maxHeartbeats 2000000
/-! Trees as a Lean type; parts, sizes. -/
namespace FL
open PySem L2 FL
inductive Fg | a | b | c
  deriving DecidableEq
def Fg.s : Fg → Str
  | .a => "a" | .b => "b" | .c => "c"
inductive MK | row | choice | rowA | choiceA
  deriving DecidableEq
def MK.s : MK → Str
  | .row => "row" | .choice => "choice" | .rowA => "row anew" | .choiceA => "choice anew"
inductive OK | not | yes | no | keep
  deriving DecidableEq
def OK.s : OK → Str
  | .not => "not" | .yes => "yes" | .no => "no" | .keep => "keep"
inductive CK | again | till | hold
  deriving DecidableEq
def CK.s : CK → Str
  | .again => "again" | .till => "till" | .hold => "hold"
def yn (b : Bool) : Str := if b then "yes" else "no"
inductive Tr where
  | ask (f : Fg)
  | set (f : Fg) (up : Bool)
  | act (name : Str) (ticks : Nat) (e : Bool)
  | many (k : MK) (ps : List Tr)
  | one (k : OK) (p : Tr)
  | cnt (k : CK) (n : Nat) (p : Tr)
  | bes (n : Nat) (ps : List Tr)
mutual
def Tr.d : Tr → PyData
  | .ask f => .tuple [.str "ask", .str f.s]
  | .set f up => .tuple [.str "set", .str f.s, .bool up]
  | .act x n e => .tuple [.str "do", .str x, .int (n : Nat), .str (yn e)]
  | .many k ps => .tuple [.str k.s, .tuple (Tr.dL ps)]
  | .one k p => .tuple [.str k.s, p.d]
  | .cnt k n p => .tuple [.str k.s, .int (n : Nat), p.d]
  | .bes n ps => .tuple [.str "beside", .int (n : Nat), .tuple (Tr.dL ps)]
def Tr.dL : List Tr → List PyData
  | [] => []
  | p :: ps => p.d :: Tr.dL ps
end
theorem dL_map : ∀ ps : List Tr, Tr.dL ps = ps.map Tr.d
  | [] => rfl
  | p :: ps => by rw [Tr.dL, dL_map ps]; rfl
theorem dL_len (ps : List Tr) : (Tr.dL ps).length = ps.length := by rw [dL_map]; simp
def Tr.parts : Tr → List Tr
  | .many _ ps => ps
  | .one _ p => [p]
  | .cnt _ _ p => [p]
  | .bes _ ps => ps
  | _ => []
mutual
def Tr.siz : Tr → Nat
  | .many _ ps => 1 + Tr.sizL ps
  | .one _ p => 1 + p.siz
  | .cnt _ _ p => 1 + p.siz
  | .bes _ ps => 1 + Tr.sizL ps
  | _ => 1
def Tr.sizL : List Tr → Nat
  | [] => 0
  | p :: ps => p.siz + Tr.sizL ps
end
mutual
def Tr.dep : Tr → Nat
  | .many _ ps => 1 + Tr.depL ps
  | .one _ p => 1 + p.dep
  | .cnt _ _ p => 1 + p.dep
  | .bes _ ps => 1 + Tr.depL ps
  | _ => 1
def Tr.depL : List Tr → Nat
  | [] => 0
  | p :: ps => max p.dep (Tr.depL ps)
end
def nameOk (x : Str) : Prop := 1 ≤ x.length ∧ x.length ≤ 3 ∧ ∀ c ∈ x.cps.toList, 97 ≤ c ∧ c ≤ 122
mutual
def Tr.ok : Tr → Prop
  | .ask _ => True
  | .set _ _ => True
  | .act x n _ => nameOk x ∧ 1 ≤ n ∧ n ≤ 4
  | .many _ ps => ps ≠ [] ∧ Tr.okL ps
  | .one _ p => p.ok
  | .cnt _ n p => 1 ≤ n ∧ n ≤ 4 ∧ p.ok
  | .bes n ps => 1 ≤ n ∧ n ≤ ps.length ∧ Tr.okL ps
def Tr.okL : List Tr → Prop
  | [] => True
  | p :: ps => p.ok ∧ Tr.okL ps
end
mutual
/-- as drawn: names of four, no more than three parts side by side -/
def Tr.nar : Tr → Prop
  | .act x _ _ => x = "x" ∨ x = "y" ∨ x = "z" ∨ x = "run"
  | .many _ ps => ps.length ≤ 3 ∧ Tr.narL ps
  | .one _ p => p.nar
  | .cnt _ _ p => p.nar
  | .bes _ ps => ps.length ≤ 3 ∧ Tr.narL ps
  | _ => True
def Tr.narL : List Tr → Prop
  | [] => True
  | p :: ps => p.nar ∧ Tr.narL ps
end
theorem narL_iff : ∀ ps : List Tr, Tr.narL ps ↔ ∀ p ∈ ps, p.nar
  | [] => by simp [Tr.narL]
  | p :: ps => by simp [Tr.narL, narL_iff ps]
theorem okL_iff : ∀ ps : List Tr, Tr.okL ps ↔ ∀ p ∈ ps, p.ok
  | [] => by simp [Tr.okL]
  | p :: ps => by simp [Tr.okL, okL_iff ps]
theorem depL_le : ∀ {ps : List Tr} {p : Tr}, p ∈ ps → p.dep ≤ Tr.depL ps
  | q :: ps, p, h => by
    rw [Tr.depL]
    rcases List.mem_cons.mp h with rfl | h
    · omega
    · have := depL_le h; omega
theorem dep_pos : ∀ t : Tr, 1 ≤ t.dep := by
  intro t; cases t <;> simp [Tr.dep]
theorem dep_part {t p : Tr} (h : p ∈ t.parts) : p.dep + 1 ≤ t.dep := by
  cases t <;> simp [Tr.parts] at h
  · rw [Tr.dep]; have := depL_le h; omega
  · subst h; rw [Tr.dep]; omega
  · subst h; rw [Tr.dep]; omega
  · rw [Tr.dep]; have := depL_le h; omega
theorem ok_part {t p : Tr} (ho : t.ok) (h : p ∈ t.parts) : p.ok := by
  cases t <;> simp [Tr.parts] at h
  · rw [Tr.ok] at ho; exact (okL_iff _).mp ho.2 p h
  · subst h; exact ho
  · subst h; exact ho.2.2
  · rw [Tr.ok] at ho; exact (okL_iff _).mp ho.2.2 p h
theorem nar_part {t p : Tr} (ho : t.nar) (h : p ∈ t.parts) : p.nar := by
  cases t <;> simp [Tr.parts] at h
  · rw [Tr.nar] at ho; exact (narL_iff _).mp ho.2 p h
  · subst h; exact ho
  · subst h; exact ho
  · rw [Tr.nar] at ho; exact (narL_iff _).mp ho.2 p h
def Tr.good (t : Tr) : Prop := t.ok ∧ t.nar
theorem good_part {t p : Tr} (ho : t.good) (h : p ∈ t.parts) : p.good := ⟨ok_part ho.1 h, nar_part ho.2 h⟩
theorem siz_parts (t : Tr) : t.siz = 1 + Tr.sizL t.parts := by
  cases t <;> simp [Tr.siz, Tr.parts, Tr.sizL]
theorem ok_take (w : W) (st : Sto) : Res.ok w (st.take st.length) = Res.ok w st := by rw [List.take_length]
theorem parts_of_ok (k : Nat) (t : Tr) (st : Sto) : (R (k + 1)).parts_of [.d t.d] st = .ok (.d (.tuple (Tr.dL t.parts))) st := by
  rw [← ok_take]
  cases t with
  | ask f => cases f <;> rfl
  | set f up => cases f <;> rfl
  | act x n e => rfl
  | many kk ps => cases kk <;> rfl
  | one kk p => cases kk <;> rfl
  | cnt kk n p => cases kk <;> rfl
  | bes n ps => rfl
theorem inner_ok (k : Nat) (t : Tr) (st : Sto) : (R (k + 1)).law_inner [.d t.d] st = .ok (.d (.tuple (Tr.dL t.parts))) st := by
  rw [← ok_take]
  cases t with
  | ask f => cases f <;> rfl
  | set f up => cases f <;> rfl
  | act x n e => rfl
  | many kk ps => cases kk <;> rfl
  | one kk p => cases kk <;> rfl
  | cnt kk n p => cases kk <;> rfl
  | bes n ps => rfl
local macro_rules | `(tactic| walk_at "fl") => `(tactic| simp only [fFun, fSeq, fIfS, fRet, fEx, fAsg, fTest, fBin, fVar, fC, fCons, fNil, fCB, fCall, fTup, fLst, fNew, fIf, fAnd, fOr, fNot, fAndV, fOrV, fNotV, fChain, fTy, fSkip, fRetN, fMt, fSl, fPart, fNoPart, fBad, fRaise, fTry,
  Res.bind, Res.of, Res.of2, RS.ofE, RS.ofG, toB, pure2, pure2S, viewO, view, W.own, retW, retCut, gN, gTup, gsCons, gsNil, frz1, frzAll, rd1, one1, tyW, appW, extW,
  lenW, lenB, isiW, isi, ixW, ixB, slB, eqD, neD, eqB, inD, ninD, inB, ltD, leD, gtD, geD, subD, modD, addD, mulD, intD, isNW, isNo,
  List.map, List.replicate, List.length_cons, List.length_nil, List.cons_append, List.nil_append, List.getElem?_cons_zero, List.getElem?_cons_succ, List.set_cons_zero, List.set_cons_succ, Option.bind_some, Option.map_some, Option.bind_none, Option.map_none, if_true, if_false, Bool.false_eq_true, List.take_length, Bool.or_true, Bool.true_or, Bool.and_true, Bool.true_and, Bool.not_true, Bool.not_false, List.length_map, Nat.zero_add, Nat.reduceAdd, Nat.reduceSub, beq_self_eq_true, *])

theorem compGo_map {α : Type} (f h : α → PyData) {i : Nat} {fe : FE} {env : Ev} {st : Sto} : ∀ (ps : List α), (∀ p ∈ ps, fe (env.set i (some (.d (f p)))) st = .ok (.d (h p)) st) → compGo (gN i) fYes fe env (ps.map f) st = .ok (ps.map h) st
  | [], _ => rfl
  | p :: ps, hh => by
    rw [List.map_cons, compGo]
    have e1 := hh p List.mem_cons_self
    have e2 := compGo_map f h ps fun q hq => hh q (List.mem_cons_of_mem _ hq)
    simp only [gN, fYes, e1, Res.of2, frz1, Res.bind, e2, List.map_cons]
theorem intsOf_map {α : Type} (f : α → Int) : ∀ ps : List α, intsOf (ps.map fun p => PyData.int (f p)) = some (ps.map f)
  | [] => rfl
  | p :: ps => by simp [intsOf, intsOf_map f ps]
theorem sizL_sum : ∀ ps : List Tr, ((ps.map fun p => (p.siz : Int)).sum : Int) = (Tr.sizL ps : Nat)
  | [] => rfl
  | p :: ps => by simp [Tr.sizL, sizL_sum ps]
theorem sizL_le : ∀ ps : List Tr, ps.length ≤ Tr.sizL ps
  | [] => by simp [Tr.sizL]
  | p :: ps => by
    have h1 := sizL_le ps
    have h2 : 1 ≤ p.siz := by cases p <;> simp [Tr.siz]
    simp [Tr.sizL]; omega
/-- sizes below the line -/
theorem law_size_ok : ∀ (k : Nat) (t : Tr) (st : Sto), t.dep ≤ k → t.siz ≤ LIM → (R (k + 1)).law_size [.d t.d] st = .ok (.d (.int (t.siz : Nat))) st
  | 0, t, st, h, _ => by have := dep_pos t; omega
  | k + 1, t, st, h, hz => by
    show fFun 2 (b_law_size (R (k + 1))) _ _ = _
    unfold b_law_size
    have e1 := inner_ok k t st
    have e0 := siz_parts t
    have e2 : compGo (gN 1) fYes (fCall (R (k + 1)).law_size (fCons (fVar 1) fNil)) [some (.d t.d), none] (Tr.dL t.parts) st = .ok (t.parts.map fun p => PyData.int (p.siz : Nat)) st := by
      rw [dL_map]
      refine compGo_map _ _ _ fun p hp => ?_
      have hs : p.siz ≤ LIM := by
        have : ∀ (ps : List Tr), p ∈ ps → p.siz ≤ Tr.sizL ps := by
          intro ps
          induction ps with
          | nil => intro h; cases h
          | cons q ps ih =>
            intro h
            rw [Tr.sizL]
            rcases List.mem_cons.mp h with rfl | h
            · omega
            · have := ih h; omega
        have := this _ hp
        omega
      have ih := law_size_ok k p st (by have := dep_part hp; omega) hs
      simp only [fCall, fCons, fVar, fNil, Res.bind, List.set_cons_succ, List.set_cons_zero, List.getElem?_cons_succ, List.getElem?_cons_zero, ih]
    have e3 : wipeE [some (.d t.d), none] [1] = [some (W.d t.d), none] := rfl
    have e4 : (t.parts.map fun p => PyData.int (p.siz : Nat)).length ≤ LIM := by
      rw [List.length_map]
      have := sizL_le t.parts
      omega
    have e5 := intsOf_map (fun p : Tr => ((p.siz : Nat) : Int)) t.parts
    have e6 := sizL_sum t.parts
    have e7 : (1 : Int) + ((Tr.sizL t.parts : Nat) : Int) = ((t.siz : Nat) : Int) := by omega
    clear h hz e0
    simp only [fFun, fRet, fBin, fC, fCB, fCons, fNil, fComp, fItems, fCall, fVar, Res.bind, Res.of2, RS.ofE, pure2, viewO, view, W.own, addD, retW, retCut, rd1, sumD, frz1, seqOf, Option.bind_some, Option.map_some, List.map, List.replicate, List.length_cons, List.length_nil, List.cons_append, List.nil_append, List.getElem?_cons_zero, List.getElem?_cons_succ, Nat.zero_add, Nat.reduceAdd, Nat.reduceSub, e1, e2, e3, e4, e5, e6, e7, if_true, List.take_length]
end FL
set_option Elab.async false
set_option linter.all false
set_option maxRecDepth 100000
set_option maxHeartbeats 2000000
/-! Drawn trees. -/
namespace FL
open PySem L2 FL
local macro_rules | `(tactic| walk_at "ev") => `(tactic| simp only [↓V.v_var, ↓V.v_c, ↓V.v_nil, ↓V.v_cons, ↓V.v_cons1, ↓V.v_cons2, ↓V.v_tup, ↓V.v_tup1, ↓V.v_lst, ↓V.v_lst1, ↓V.v_new, ↓V.v_new1, ↓V.v_bin, ↓V.v_bin1, ↓V.v_bin2, ↓V.v_test, ↓V.v_test1, ↓V.v_chain, ↓V.v_chainX, ↓V.v_chainY, ↓V.v_chainZ, ↓V.v_chainK, ↓V.v_chainT, ↓V.v_chainF, ↓V.v_chain2, ↓V.v_okT, ↓V.v_okF, ↓V.v_okVT, ↓V.v_selK, ↓V.v_and, ↓V.v_or, ↓V.v_notK, ↓V.v_not, ↓V.v_selW, ↓V.v_andV, ↓V.v_orV, ↓V.v_notV2, ↓V.v_notV1, ↓V.v_notV, ↓V.v_if, ↓V.v_yes, ↓V.p2, ↓V.p2S, ↓V.v_sl, ↓V.v_sl1, ↓V.v_sl2, ↓V.v_sl3, ↓V.v_nopart, ↓V.v_part, ↓V.v_part1, ↓V.v_cb, ↓V.v_cb1, ↓V.v_call, ↓V.v_ty, ↓V.v_mt, ↓V.v_mt1, ↓V.v_mtT, ↓V.v_mt2, ↓V.v_mt0, ↓V.v_mt01, ↓V.v_seq, ↓V.v_skip, ↓V.v_ex, ↓V.v_ex1, ↓V.v_ret, ↓V.v_retN, ↓V.v_ifS, ↓V.v_asg, ↓V.v_asg1, ↓V.g_n, ↓V.g_tup, ↓V.v_gs1, ↓V.v_try, ↓V.v_raise, ↓V.v_fun, ↓V.v_for, ↓V.v_for1, ↓V.v_items, ↓V.v_items1, ↓V.v_enum, ↓V.v_enum1, ↓V.v_rng1, ↓V.v_rng11, ↓V.v_rng2, ↓V.v_rng21, ↓V.v_comp1, ↓V.v_comp, ↓V.v_compN1, ↓V.v_compN,
  V.bind_ok, V.bind_ex, V.of_s, V.of2_s, V.ofE_ok, V.ofE_ex, V.ofG_s, V.vR_s, V.sel_t, V.sel_f, V.frzAll_nil, V.frzAll_cons, V.frz1_d, V.frz1_c, V.frzC_l, V.frzC_f, V.toB_b, V.view_d, V.view_c, V.viewC_l, V.viewC_f, V.view_s, V.viewO_d, V.viewO_c, V.add_i, V.add_s, V.add_t, V.add_l, V.sub_i, V.mod_i, V.mul_i, V.gt_i, V.ge_i, V.lt_i, V.le_i, V.eq_i, V.ne_i, V.isn_p, V.isn_n, V.isNo_n, V.isNo_b, V.isNo_i, V.isNo_s, V.isNo_l, V.isNo_t, V.isNo_c, V.ix_w, V.ixV_i, V.ixB_l, V.ixB_t, V.ixB_s, V.at0, V.at1, V.at2, V.at3, V.partV_i, V.sl_l, V.sl_t, V.sl_s, V.len_c, V.len_d, V.len_s, V.lenC_l, V.lenB_l, V.lenB_t, V.lenB_s, V.rd_1, V.isi_w, V.tup_l, V.list_l, V.list_t, V.toI_b, V.toI_i, V.toS_i, V.all_l, V.any_l, V.sum_l, V.ty_c, V.tyC_l, V.ty_l, V.ty_s, V.app_c, V.appC_l, V.ext_c, V.extV_l, V.extC_l, V.seq_nx, V.seq_rt, V.seq_ex, V.seq_bk, V.seq_ct, V.ret_d, V.ret_c, V.retC_l, V.retC_f, V.gtV_t, V.gs_nil, V.gs_cons, V.try_rt, V.try_nx, V.try_ex, V.fun_nx, V.fun_rt, V.fun_ex, V.cut_d, V.one1_1, V.seq_l, V.seq_t, V.rngV_1, V.rngV2_1, V.compR_ok, V.compRN_ok, V.loopG_s, V.loop_nx, V.loop_ct, V.loop_bk, V.loop_rt, V.loop_ex, V.wipe_nil, V.wipe_cons,
  List.map, List.replicate, List.length_cons, List.length_nil, List.cons_append, List.nil_append, List.getElem?_cons_zero, List.getElem?_cons_succ, List.set_cons_zero, List.set_cons_succ, Option.bind_some, Option.map_some, Option.bind_none, Option.map_none, if_true, if_false, ↓reduceIte, Bool.false_eq_true, List.take_length, Bool.or_true, Bool.true_or, Bool.or_false, Bool.false_or, Bool.and_true, Bool.true_and, Bool.and_false, Bool.false_and, Bool.not_true, Bool.not_false, List.length_map, Nat.zero_add, Nat.reduceAdd, Nat.reduceSub, decide_true, decide_false, *])
theorem eqI {i j : Int} : eqD (.int i) (.int j) = some (.bool (decide (i = j))) := by
  by_cases h : i = j <;> simp [eqD, eqB, SeqAt.shaped, PyData.canLay0, PyData.depth, PyData.eqv, h]
theorem pick_strs (k : Nat) (ns : List Int) (n : Nat) (ss : List Str) (st : Sto) (zs : List PyData) (hz : st[n]? = some (.lst zs)) (hl : zs.length < LIM) (hm : ss ≠ []) :
    ∃ x, x ∈ ss ∧ (R (k + 4)).law_pick [.s ns, .c n, .d (.list (ss.map PyData.str))] st = .ok (.d (.str x)) (st.set n (.lst (zs ++ [.int 0]))) := by
  obtain ⟨x, h1, h2⟩ := pick_ok k ns n (ss.map PyData.str) st zs hz hl (by simpa using hm)
  obtain ⟨y, h3, rfl⟩ := List.mem_map.mp h1
  exact ⟨y, h3, h2⟩
theorem leaf_ok (k : Nat) (ns : List Int) (n : Nat) (st : Sto) (zs : List PyData) (hz : st[n]? = some (.lst zs)) (hl : zs.length + 5 < LIM) :
    ∃ t : Tr, ∃ zs' : List PyData, t.good ∧ t.dep = 1 ∧ t.siz = 1 ∧ zs'.length ≤ zs.length + 4 ∧ (R (k + 5)).law_leaf [.s ns, .c n] st = .ok (.d t.d) (st.set n (.lst zs')) := by
  obtain ⟨v, h0, h1, hv⟩ := draw_ok (k + 1) ns n 5 st zs hz (by omega) (by decide)
  have z1 := set_at (x := .lst (zs ++ [.int 0])) hz
  have l1 : (zs ++ [PyData.int 0]).length = zs.length + 1 := by simp
  generalize hzs1 : zs ++ [PyData.int 0] = zs1 at *
  show ∃ t : Tr, ∃ zs' : List PyData, t.good ∧ t.dep = 1 ∧ t.siz = 1 ∧ zs'.length ≤ zs.length + 4 ∧ fFun 4 (b_law_leaf (R (k + 4))) _ _ = _
  unfold b_law_leaf
  by_cases c0 : v = 0
  · obtain ⟨x, hx, px⟩ := pick_strs k ns n ["a", "b", "a", "b", "c"] _ zs1 z1 (by omega) (by simp)
    rw [List.set_set] at px
    have : ∃ f : Fg, x = f.s := by
      simp at hx
      rcases hx with rfl | rfl | rfl | rfl | rfl <;> first | exact ⟨.a, rfl⟩ | exact ⟨.b, rfl⟩ | exact ⟨.c, rfl⟩
    obtain ⟨f, rfl⟩ := this
    refine ⟨.ask f, zs1 ++ [.int 0], by simp [Tr.good, Tr.ok, Tr.nar], by simp [Tr.dep], by simp [Tr.siz], by simp; omega, ?_⟩
    subst c0
    have e1 : eqD (.int 0) (.int 0) = some (.bool true) := rfl
    have e2 := take_set (st := st) (n := n) (x := .lst (zs1 ++ [.int 0]))
    rw [Tr.d]
    clear h0 h1 hl l1 hzs1 hx
    simp only [List.map] at px
    walk_at "ev"
  · have e1 : eqD (.int v) (.int 0) = some (.bool false) := by rw [eqI]; simp [c0]
    by_cases c1 : v = 1
    · obtain ⟨x, hx, px⟩ := pick_strs k ns n ["a", "b"] _ zs1 z1 (by omega) (by simp)
      have z2 := set_at (x := .lst (zs1 ++ [.int 0])) z1
      rw [List.set_set] at px z2
      have l2 : (zs1 ++ [PyData.int 0]).length = zs1.length + 1 := by simp
      generalize hzs2 : zs1 ++ [PyData.int 0] = zs2 at *
      obtain ⟨w, g0, g1, hw⟩ := draw_ok (k + 1) ns n 2 _ zs2 z2 (by omega) (by decide)
      rw [List.set_set] at hw
      have : ∃ f : Fg, x = f.s := by
        simp at hx
        rcases hx with rfl | rfl <;> first | exact ⟨.a, rfl⟩ | exact ⟨.b, rfl⟩
      obtain ⟨f, rfl⟩ := this
      refine ⟨.set f (decide (w = 1)), zs2 ++ [.int 0], by simp [Tr.good, Tr.ok, Tr.nar], by simp [Tr.dep], by simp [Tr.siz], by simp; omega, ?_⟩
      subst c1
      have e1 : eqD (.int 1) (.int 0) = some (.bool false) := rfl
      have e3 : eqD (.int 1) (.int 1) = some (.bool true) := rfl
      have e4 : eqD (.int w) (.int 1) = some (.bool (decide (w = 1))) := eqI
      have e2 := take_set (st := st) (n := n) (x := .lst (zs2 ++ [.int 0]))
      rw [Tr.d]
      clear h0 h1 hl l1 hzs1 hx g0 g1 l2 hzs2 c0
      simp only [List.map] at px
      walk_at "ev"
    · have e2 : eqD (.int v) (.int 1) = some (.bool false) := by rw [eqI]; simp [c1]
      obtain ⟨x, hx, px⟩ := pick_strs k ns n ["x", "y", "z", "run"] _ zs1 z1 (by omega) (by simp)
      have z2 := set_at (x := .lst (zs1 ++ [.int 0])) z1
      rw [List.set_set] at px z2
      have l2 : (zs1 ++ [PyData.int 0]).length = zs1.length + 1 := by simp
      generalize hzs2 : zs1 ++ [PyData.int 0] = zs2 at *
      obtain ⟨w, g0, g1, hw⟩ := draw_ok (k + 1) ns n 4 _ zs2 z2 (by omega) (by decide)
      have z3 := set_at (x := .lst (zs2 ++ [.int 0])) z2
      rw [List.set_set] at hw z3
      have l3 : (zs2 ++ [PyData.int 0]).length = zs2.length + 1 := by simp
      generalize hzs3 : zs2 ++ [PyData.int 0] = zs3 at *
      obtain ⟨y, hy, py⟩ := pick_strs k ns n ["yes", "no"] _ zs3 z3 (by omega) (by simp)
      rw [List.set_set] at py
      have hnm : x = "x" ∨ x = "y" ∨ x = "z" ∨ x = "run" := by simpa using hx
      have : nameOk x := by
        simp at hx
        rcases hx with rfl | rfl | rfl | rfl <;> (unfold nameOk; decide)
      obtain ⟨e, rfl⟩ : ∃ e : Bool, y = yn e := by
        simp at hy
        rcases hy with rfl | rfl <;> first | exact ⟨true, rfl⟩ | exact ⟨false, rfl⟩
      have e3 : (1 : Int) + w = ((1 + w).toNat : Nat) := by omega
      refine ⟨.act x (1 + w).toNat e, zs3 ++ [.int 0], ⟨⟨this, by omega, by omega⟩, hnm⟩, by simp [Tr.dep], by simp [Tr.siz], by simp; omega, ?_⟩
      have e5 := take_set (st := st) (n := n) (x := .lst (zs3 ++ [.int 0]))
      rw [Tr.d]
      clear h0 h1 hl l1 hzs1 hx g0 g1 l2 hzs2 hzs3 l3 c0 c1 hy hnm
      simp only [List.map] at px py
      generalize (1 + w).toNat = q at *
      walk_at "ev"

def S2 (st : Sto) (n l : Nat) (zs ls : List PyData) : Sto := (st.set n (.lst zs)).set l (.lst ls)
structure NL (st : Sto) (n l : Nat) : Prop where
  ne : n ≠ l
  hn : n < st.length
  hl : l < st.length
theorem S2_n {st : Sto} {n l : Nat} (h : NL st n l) (zs ls : List PyData) : (S2 st n l zs ls)[n]? = some (.lst zs) := by
  unfold S2
  rw [List.getElem?_set_ne h.ne.symm, List.getElem?_set_self h.hn]
theorem S2_l {st : Sto} {n l : Nat} (h : NL st n l) (zs ls : List PyData) : (S2 st n l zs ls)[l]? = some (.lst ls) := by
  unfold S2
  rw [List.getElem?_set_self (by simp; exact h.hl)]
theorem S2_setl {st : Sto} {n l : Nat} (h : NL st n l) (zs ls ls' : List PyData) : (S2 st n l zs ls).set l (.lst ls') = S2 st n l zs ls' := by
  unfold S2
  rw [List.set_set]
theorem S2_setn {st : Sto} {n l : Nat} (h : NL st n l) (zs zs' ls : List PyData) : (S2 st n l zs ls).set n (.lst zs') = S2 st n l zs' ls := by
  unfold S2
  rw [List.set_comm _ _ h.ne.symm, List.set_set]
theorem S2_len {st : Sto} {n l : Nat} (zs ls : List PyData) : (S2 st n l zs ls).length = st.length := by simp [S2]
theorem S2_take {st : Sto} {n l : Nat} (zs ls : List PyData) : (S2 st n l zs ls).take st.length = S2 st n l zs ls := List.take_of_length_le (by rw [S2_len]; exact Nat.le_refl _)
theorem draw2 (k : Nat) (ns : List Int) {st : Sto} {n l : Nat} (h : NL st n l) (many : Int) (zs ls : List PyData) (hl : zs.length < LIM) (hm : 0 < many) :
    ∃ v zs', 0 ≤ v ∧ v < many ∧ zs'.length = zs.length + 1 ∧ (R (k + 3)).law_draw [.s ns, .c n, .d (.int many)] (S2 st n l zs ls) = .ok (.d (.int v)) (S2 st n l zs' ls) := by
  obtain ⟨v, h0, h1, hv⟩ := draw_ok k ns n many _ zs (S2_n h zs ls) hl hm
  rw [S2_setn h] at hv
  exact ⟨v, _, h0, h1, by simp, hv⟩
theorem pick2 (k : Nat) (ns : List Int) {st : Sto} {n l : Nat} (h : NL st n l) (ss : List Str) (zs ls : List PyData) (hl : zs.length < LIM) (hm : ss ≠ []) :
    ∃ v zs', v ∈ ss ∧ zs'.length = zs.length + 1 ∧ (R (k + 4)).law_pick [.s ns, .c n, .d (.list (ss.map PyData.str))] (S2 st n l zs ls) = .ok (.d (.str v)) (S2 st n l zs' ls) := by
  obtain ⟨v, h0, hv⟩ := pick_strs k ns n ss _ zs (S2_n h zs ls) hl hm
  rw [S2_setn h] at hv
  exact ⟨v, _, h0, by simp, hv⟩
theorem leaf2 (k : Nat) (ns : List Int) {st : Sto} {n l : Nat} (h : NL st n l) (zs ls : List PyData) (hl : zs.length + 5 < LIM) :
    ∃ t : Tr, ∃ zs' : List PyData, t.good ∧ t.dep = 1 ∧ t.siz = 1 ∧ zs'.length ≤ zs.length + 4 ∧ (R (k + 5)).law_leaf [.s ns, .c n] (S2 st n l zs ls) = .ok (.d t.d) (S2 st n l zs' ls) := by
  obtain ⟨t, zs', a, b, c, d, hv⟩ := leaf_ok k ns n _ zs (S2_n h zs ls) hl
  rw [S2_setn h] at hv
  exact ⟨t, zs', a, b, c, d, hv⟩
def BB : Nat → Nat
  | 0 => 5
  | d + 1 => 4 * BB d
theorem BB5 : ∀ d, 5 ≤ BB d
  | 0 => Nat.le_refl _
  | d + 1 => by have := BB5 d; unfold BB; omega
theorem parts_go {fe : FE} {env : Ev} {st : Sto} {n l B : Nat} {P : Tr → Prop} (hs : ∀ x zs ls, zs.length + B < LIM → ls.length + B < LIM → ∃ t : Tr, ∃ zs' ls' : List PyData, P t ∧ zs'.length ≤ zs.length + B ∧ ls'.length ≤ ls.length + B ∧ fe (env.set 7 (some (.d x))) (S2 st n l zs ls) = .ok (.d t.d) (S2 st n l zs' ls')) :
    ∀ (xs zs ls : List PyData), zs.length + xs.length * B < LIM → ls.length + xs.length * B < LIM → ∃ ts : List Tr, ∃ zs' ls' : List PyData, ts.length = xs.length ∧ (∀ t ∈ ts, P t) ∧ zs'.length ≤ zs.length + xs.length * B ∧ ls'.length ≤ ls.length + xs.length * B ∧ compGo (gN 7) fYes fe env xs (S2 st n l zs ls) = .ok (ts.map Tr.d) (S2 st n l zs' ls')
  | [], zs, ls, _, _ => ⟨[], zs, ls, rfl, by simp, by simp, by simp, rfl⟩
  | x :: xs, zs, ls, hz, hl => by
    rw [List.length_cons, Nat.succ_mul] at hz hl
    obtain ⟨t, zs1, ls1, p, q1, q2, e⟩ := hs x zs ls (by omega) (by omega)
    obtain ⟨ts, zs2, ls2, p1, p2, p3, p4, e2⟩ := parts_go hs xs zs1 ls1 (by omega) (by omega)
    refine ⟨t :: ts, zs2, ls2, by simp [p1], ?_, by rw [List.length_cons, Nat.succ_mul]; omega, by rw [List.length_cons, Nat.succ_mul]; omega, ?_⟩
    · intro u hu
      rcases List.mem_cons.mp hu with rfl | hu
      · exact p
      · exact p2 u hu
    · simp only [compGo, gN, fYes, e, Res.of2, frz1, Res.bind, e2, List.map_cons]
theorem rangeD_len : ∀ (n : Nat) (i : Int), (rangeD i n).length = n
  | 0, _ => rfl
  | n + 1, i => by simp [rangeD, rangeD_len n]
theorem depL_max : ∀ {ps : List Tr} {d : Nat}, (∀ p ∈ ps, p.dep ≤ d) → Tr.depL ps ≤ d
  | [], _, _ => by simp [Tr.depL]
  | p :: ps, d, h => by
    rw [Tr.depL]
    have h1 := h p (by simp)
    have h2 := depL_max (ps := ps) (d := d) fun q hq => h q (by simp [hq])
    omega
theorem sizL_max : ∀ {ps : List Tr} {d : Nat}, (∀ p ∈ ps, p.siz ≤ d) → Tr.sizL ps ≤ ps.length * d
  | [], _, _ => by simp [Tr.sizL]
  | p :: ps, d, h => by
    rw [Tr.sizL]
    have h1 := h p (by simp)
    have h2 := sizL_max (ps := ps) (d := d) fun q hq => h q (by simp [hq])
    rw [List.length_cons, Nat.succ_mul]
    omega
theorem part_ok : ∀ (d k : Nat) (ns : List Int) {st : Sto} {n l : Nat} (h : NL st n l) (zs ls : List PyData), 1 ≤ d → zs.length + BB d < LIM → ls.length + BB d < LIM →
    ∃ t : Tr, ∃ zs' ls' : List PyData, (t.good ∧ t.dep ≤ d ∧ t.siz ≤ BB d) ∧ zs'.length ≤ zs.length + BB d ∧ ls'.length ≤ ls.length + BB d ∧
      (R (k + d + 5)).law_part [.s ns, .c n, .d (.int (d : Nat)), .c l] (S2 st n l zs ls) = .ok (.d t.d) (S2 st n l zs' ls')
  | 0, _, _, _, _, _, _, _, _, h, _, _ => by omega
  | d + 1, k, ns, st, n, l, h, zs, ls, _, hzl, hll => by
    have b5 := BB5 d
    simp only [show BB (d + 1) = 4 * BB d from rfl] at hzl hll ⊢
    have en := S2_n h
    have el := S2_l h
    have sl := S2_setl h
    have sn := S2_setn h
    have tk := S2_take (st := st) (n := n) (l := l)
    have sle := S2_len (st := st) (n := n) (l := l)
    have l0 : ls.length < LIM := by omega
    have lx : (ls ++ [PyData.int 1]).length = ls.length + 1 := by simp
    generalize hls : ls ++ [PyData.int 1] = ls1 at lx
    show ∃ t : Tr, ∃ zs' ls' : List PyData, _ ∧ _ ∧ _ ∧ fFun 8 (b_law_part (R (k + d + 5))) _ _ = _
    unfold b_law_part
    have early : ∀ (zsq : List PyData), zsq.length ≤ zs.length + 1 → ∃ t : Tr, ∃ zs' : List PyData, (t.good ∧ t.dep ≤ d + 1 ∧ t.siz ≤ 4 * BB d) ∧ zs'.length ≤ zs.length + 4 * BB d ∧ (R (k + d + 5)).law_leaf [.s ns, .c n] (S2 st n l zsq ls1) = .ok (.d t.d) (S2 st n l zs' ls1) := by
      intro zsq hq
      obtain ⟨t, zs', a, b, c, dd, hv⟩ := leaf2 (k + d) ns h zsq ls1 (by omega)
      exact ⟨t, zs', ⟨a, by omega, by omega⟩, by omega, hv⟩
    by_cases c0 : d = 0
    · obtain ⟨t, zs', a, b, c⟩ := early zs (by omega)
      refine ⟨t, zs', ls1, a, b, by omega, ?_⟩
      subst c0
      have e1 : eqD (.int ((0 + 1 : Nat) : Int)) (.int 1) = some (.bool true) := rfl
      clear early hzl hll b5 a b lx
      walk_at "ev"
    · have e1 : eqD (.int ((d + 1 : Nat) : Int)) (.int 1) = some (.bool false) := by
        rw [eqI]
        have : ¬ (((d + 1 : Nat) : Int) = 1) := by omega
        simp only [this, decide_false]
      by_cases c1 : 8 < ls1.length
      · obtain ⟨t, zs', a, b, c⟩ := early zs (by omega)
        refine ⟨t, zs', ls1, a, b, by omega, ?_⟩
        have e2 : decide ((8 : Int) < (ls1.length : Int)) = true := by simpa using (by omega : (8 : Int) < (ls1.length : Int))
        clear early hzl hll b5 a b lx c0 c1
        walk_at "ev"
      · have e2 : decide ((8 : Int) < (ls1.length : Int)) = false := by simpa using (by omega : (ls1.length : Int) ≤ 8)
        obtain ⟨v, zs1, v0, v1, lz1, hv⟩ := draw2 (k + d + 2) ns h 5 zs ls1 (by omega) (by decide)
        by_cases c2 : v = 0
        · obtain ⟨t, zs', a, b, c⟩ := early zs1 (by omega)
          refine ⟨t, zs', ls1, a, b, by omega, ?_⟩
          subst c2
          have e3 : eqD (.int 0) (.int 0) = some (.bool true) := rfl
          clear early hzl hll b5 a b lx c0 c1 v0 v1 lz1
          walk_at "ev"
        · have e3 : eqD (.int v) (.int 0) = some (.bool false) := by rw [eqI]; simp [c2]
          obtain ⟨x, zs2, hx, lz2, px⟩ := pick2 (k + d + 1) ns h ["row", "choice", "row anew", "choice anew", "beside", "row", "choice anew", "not", "yes", "no", "keep", "again", "till", "hold"] zs1 ls1 (by omega) (by simp)
          have e14 : 14 ≤ LIM := by decide
          have ed : ((d + 1 : Nat) : Int) - 1 = ((d : Nat) : Int) := by omega
          have cls : (∃ q : OK, x = q.s) ∨ (∃ q : CK, x = q.s) ∨ (∃ q : MK, x = q.s) ∨ x = "beside" := by
            simp at hx
            rcases hx with rfl | rfl | rfl | rfl | rfl | rfl | rfl | rfl | rfl | rfl | rfl | rfl | rfl | rfl <;> first
              | exact .inl ⟨.not, rfl⟩ | exact .inl ⟨.yes, rfl⟩ | exact .inl ⟨.no, rfl⟩ | exact .inl ⟨.keep, rfl⟩
              | exact .inr (.inl ⟨.again, rfl⟩) | exact .inr (.inl ⟨.till, rfl⟩) | exact .inr (.inl ⟨.hold, rfl⟩)
              | exact .inr (.inr (.inl ⟨.row, rfl⟩)) | exact .inr (.inr (.inl ⟨.rowA, rfl⟩)) | exact .inr (.inr (.inl ⟨.choice, rfl⟩)) | exact .inr (.inr (.inl ⟨.choiceA, rfl⟩))
              | exact .inr (.inr (.inr rfl))
          have ih := part_ok d k ns h
          simp only [List.map] at px
          rcases cls with ⟨q, rfl⟩ | ⟨q, rfl⟩ | cls
          · have e4 : inD (.str q.s) (.tuple [.str "not", .str "yes", .str "no", .str "keep"]) = some (.bool true) := by cases q <;> rfl
            obtain ⟨t, zs3, ls3, ⟨a1, a2, a3⟩, a4, a5, hp⟩ := ih zs2 ls1 (by omega) (by omega) (by omega)
            refine ⟨.one q t, zs3, ls3, ⟨a1, by rw [Tr.dep]; omega, by rw [Tr.siz]; omega⟩, by omega, by omega, ?_⟩
            rw [Tr.d]
            clear early hzl hll b5 lx c0 c1 c2 v0 v1 lz1 lz2 ih a1 a2 a3 a4 a5 hx
            walk_at "ev"
          · have e4 : inD (.str q.s) (.tuple [.str "not", .str "yes", .str "no", .str "keep"]) = some (.bool false) := by cases q <;> rfl
            have e5 : inD (.str q.s) (.tuple [.str "again", .str "till", .str "hold"]) = some (.bool true) := by cases q <;> rfl
            obtain ⟨w, zs3, w0, w1, lz3, hw⟩ := draw2 (k + d + 2) ns h 4 zs2 ls1 (by omega) (by decide)
            obtain ⟨t, zs4, ls4, ⟨a1, a2, a3⟩, a4, a5, hp⟩ := ih zs3 ls1 (by omega) (by omega) (by omega)
            have e6 : (1 : Int) + w = ((1 + w).toNat : Nat) := by omega
            refine ⟨.cnt q (1 + w).toNat t, zs4, ls4, ⟨⟨⟨by omega, by omega, a1.1⟩, a1.2⟩, by rw [Tr.dep]; omega, by rw [Tr.siz]; omega⟩, by omega, by omega, ?_⟩
            rw [Tr.d]
            clear early hzl hll b5 lx c0 c1 c2 v0 v1 lz1 lz2 ih a1 a2 a3 a4 a5 hx w0 w1 lz3
            generalize (1 + w).toNat = z at *
            walk_at "ev"
          · obtain ⟨w, zs3, w0, w1, lz3, hw⟩ := draw2 (k + d + 2) ns h 3 zs2 ls1 (by omega) (by decide)
            have hB : (1 + w).toNat * BB d ≤ 3 * BB d := Nat.mul_le_mul_right _ (by omega)
            have hR : (rangeD 0 (1 + w).toNat).length = (1 + w).toNat := rangeD_len _ _
            have hI : inR (1 + w) = true := by simp [inR]; omega
            have go := parts_go (fe := fCall (R (k + d + 5)).law_part (fCons (fVar 0) (fCons (fVar 1) (fCons (fBin (pure2S subD) (fVar 2) (fC (.int 1))) (fCons (fVar 3) fNil))))) (env := [some (.s ns), some (.c n), some (.d (.int ((d + 1 : Nat) : Int))), some (.c l), some (.d (.list [.str "row", .str "choice", .str "row anew", .str "choice anew", .str "beside", .str "row", .str "choice anew", .str "not", .str "yes", .str "no", .str "keep"])), some (.d (.str x)), none, none]) (st := st) (n := n) (l := l) (B := BB d) (P := fun t => t.good ∧ t.dep ≤ d ∧ t.siz ≤ BB d) (by
              intro y zq lq h1 h2
              obtain ⟨t, zs', ls', a, b, c, e⟩ := ih zq lq (by omega) h1 h2
              refine ⟨t, zs', ls', a, b, c, ?_⟩
              clear early hzl hll b5 lx c0 c1 c2 v0 v1 lz1 lz2 ih hx w0 w1 lz3 a b c h1 h2 hB hR cls hv px hw
              walk_at "ev") (rangeD 0 (1 + w).toNat) zs3 ls1 (by rw [hR]; omega) (by rw [hR]; omega)
            obtain ⟨ts, zs4, ls4, tl, tp, tz, tl2, hp⟩ := go
            rw [hR] at tl tz tl2
            have hts : ts ≠ [] := by intro z; subst z; simp at tl; omega
            have hok : Tr.okL ts := (okL_iff ts).mpr fun p hp => (tp p hp).1.1
            have hnr : Tr.narL ts := (narL_iff ts).mpr fun p hp => (tp p hp).1.2
            have hl3 : ts.length ≤ 3 := by omega
            have hdp := depL_max (ps := ts) (d := d) fun p hp => (tp p hp).2.1
            have hsz := sizL_max (ps := ts) (d := BB d) fun p hp => (tp p hp).2.2
            rw [tl] at hsz
            have hlm : ts.length ≤ LIM := by rw [tl]; omega
            have ewipe : ∀ a b c d' e f g' h' : Option W, wipeE [a, b, c, d', e, f, g', h'] [7] = [a, b, c, d', e, f, g', none] := fun _ _ _ _ _ _ _ _ => rfl
            have hmap := dL_map ts
            rcases cls with ⟨q, rfl⟩ | rfl
            · have e4 : inD (.str q.s) (.tuple [.str "not", .str "yes", .str "no", .str "keep"]) = some (.bool false) := by cases q <;> rfl
              have e5 : inD (.str q.s) (.tuple [.str "again", .str "till", .str "hold"]) = some (.bool false) := by cases q <;> rfl
              have e6 : eqD (.str q.s) (.str "beside") = some (.bool false) := by cases q <;> rfl
              refine ⟨.many q ts, zs4, ls4, ⟨⟨⟨hts, hok⟩, hl3, hnr⟩, by rw [Tr.dep]; omega, by rw [Tr.siz]; omega⟩, by omega, by omega, ?_⟩
              rw [Tr.d, hmap]
              clear early hzl hll b5 lx c0 c1 c2 v0 v1 lz1 lz2 ih hx w0 w1 lz3 hB hR hmap hsz hdp hok hnr hl3 hts tp tl tz tl2
              walk_at "ev"
            · have e4 : inD (.str "beside") (.tuple [.str "not", .str "yes", .str "no", .str "keep"]) = some (.bool false) := rfl
              have e5 : inD (.str "beside") (.tuple [.str "again", .str "till", .str "hold"]) = some (.bool false) := rfl
              have e6 : eqD (.str "beside") (.str "beside") = some (.bool true) := rfl
              obtain ⟨u, zs5, u0, u1, lz5, hu⟩ := draw2 (k + d + 2) ns h ((ts.map Tr.d).length : Nat) zs4 ls4 (by omega) (by rw [List.length_map, tl]; omega)
              have e7 : (1 : Int) + u = ((1 + u).toNat : Nat) := by omega
              rw [List.length_map] at u1
              refine ⟨.bes (1 + u).toNat ts, zs5, ls4, ⟨⟨⟨by omega, by omega, hok⟩, hl3, hnr⟩, by rw [Tr.dep]; omega, by rw [Tr.siz]; omega⟩, by omega, by omega, ?_⟩
              rw [Tr.d, hmap]
              rw [List.length_map] at hu
              clear early hzl hll b5 lx c0 c1 c2 v0 v1 lz1 lz2 ih hx w0 w1 lz3 hB hR hmap hsz hdp hok hnr hl3 hts tp tl tz tl2 u0 u1 lz5
              generalize (1 + u).toNat = z at *
              walk_at "ev"
end FL
set_option Elab.async false
set_option linter.all false
set_option maxRecDepth 100000
set_option maxHeartbeats 2000000
/-! Drawn trees, with no more than fourteen parts. -/
namespace FL
open PySem L2 FL
local macro_rules | `(tactic| walk_at "ev") => `(tactic| simp only [↓V.v_var, ↓V.v_c, ↓V.v_nil, ↓V.v_cons, ↓V.v_cons1, ↓V.v_cons2, ↓V.v_tup, ↓V.v_tup1, ↓V.v_lst, ↓V.v_lst1, ↓V.v_new, ↓V.v_new1, ↓V.v_bin, ↓V.v_bin1, ↓V.v_bin2, ↓V.v_test, ↓V.v_test1, ↓V.v_chain, ↓V.v_chainX, ↓V.v_chainY, ↓V.v_chainZ, ↓V.v_chainK, ↓V.v_chainT, ↓V.v_chainF, ↓V.v_chain2, ↓V.v_okT, ↓V.v_okF, ↓V.v_okVT, ↓V.v_selK, ↓V.v_and, ↓V.v_or, ↓V.v_notK, ↓V.v_not, ↓V.v_selW, ↓V.v_andV, ↓V.v_orV, ↓V.v_notV2, ↓V.v_notV1, ↓V.v_notV, ↓V.v_if, ↓V.v_yes, ↓V.p2, ↓V.p2S, ↓V.v_sl, ↓V.v_sl1, ↓V.v_sl2, ↓V.v_sl3, ↓V.v_nopart, ↓V.v_part, ↓V.v_part1, ↓V.v_cb, ↓V.v_cb1, ↓V.v_call, ↓V.v_ty, ↓V.v_mt, ↓V.v_mt1, ↓V.v_mtT, ↓V.v_mt2, ↓V.v_mt0, ↓V.v_mt01, ↓V.v_seq, ↓V.v_skip, ↓V.v_ex, ↓V.v_ex1, ↓V.v_ret, ↓V.v_retN, ↓V.v_ifS, ↓V.v_asg, ↓V.v_asg1, ↓V.g_n, ↓V.g_tup, ↓V.v_gs1, ↓V.v_try, ↓V.v_raise, ↓V.v_fun, ↓V.v_for, ↓V.v_for1, ↓V.v_items, ↓V.v_items1, ↓V.v_enum, ↓V.v_enum1, ↓V.v_rng1, ↓V.v_rng11, ↓V.v_rng2, ↓V.v_rng21, ↓V.v_comp1, ↓V.v_comp, ↓V.v_compN1, ↓V.v_compN,
  V.bind_ok, V.bind_ex, V.of_s, V.of2_s, V.ofE_ok, V.ofE_ex, V.ofG_s, V.vR_s, V.sel_t, V.sel_f, V.frzAll_nil, V.frzAll_cons, V.frz1_d, V.frz1_c, V.frzC_l, V.frzC_f, V.toB_b, V.view_d, V.view_c, V.viewC_l, V.viewC_f, V.view_s, V.viewO_d, V.viewO_c, V.add_i, V.add_s, V.add_t, V.add_l, V.sub_i, V.mod_i, V.mul_i, V.gt_i, V.ge_i, V.lt_i, V.le_i, V.eq_i, V.ne_i, V.isn_p, V.isn_n, V.isNo_n, V.isNo_b, V.isNo_i, V.isNo_s, V.isNo_l, V.isNo_t, V.isNo_c, V.ix_w, V.ixV_i, V.ixB_l, V.ixB_t, V.ixB_s, V.at0, V.at1, V.at2, V.at3, V.partV_i, V.sl_l, V.sl_t, V.sl_s, V.len_c, V.len_d, V.len_s, V.lenC_l, V.lenB_l, V.lenB_t, V.lenB_s, V.rd_1, V.isi_w, V.tup_l, V.list_l, V.list_t, V.toI_b, V.toI_i, V.toS_i, V.all_l, V.any_l, V.sum_l, V.ty_c, V.tyC_l, V.ty_l, V.ty_s, V.app_c, V.appC_l, V.ext_c, V.extV_l, V.extC_l, V.seq_nx, V.seq_rt, V.seq_ex, V.seq_bk, V.seq_ct, V.ret_d, V.ret_c, V.retC_l, V.retC_f, V.gtV_t, V.gs_nil, V.gs_cons, V.try_rt, V.try_nx, V.try_ex, V.fun_nx, V.fun_rt, V.fun_ex, V.cut_d, V.one1_1, V.seq_l, V.seq_t, V.rngV_1, V.rngV2_1, V.compR_ok, V.compRN_ok, V.loopG_s, V.loop_nx, V.loop_ct, V.loop_bk, V.loop_rt, V.loop_ex, V.wipe_nil, V.wipe_cons,
  List.map, List.replicate, List.length_cons, List.length_nil, List.cons_append, List.nil_append, List.getElem?_cons_zero, List.getElem?_cons_succ, List.set_cons_zero, List.set_cons_succ, Option.bind_some, Option.map_some, Option.bind_none, Option.map_none, if_true, if_false, ↓reduceIte, Bool.false_eq_true, List.take_length, Bool.or_true, Bool.true_or, Bool.or_false, Bool.false_or, Bool.and_true, Bool.true_and, Bool.and_false, Bool.false_and, Bool.not_true, Bool.not_false, List.length_map, Nat.zero_add, Nat.reduceAdd, Nat.reduceSub, decide_true, decide_false, *])
theorem while_step {ft : FT} {fb : FS} {env e : Ev} {st st1 st2 : Sto} {n : Nat} (h1 : ft env st = .ok true st1) (h2 : fb env st1 = .nx e st2) : fWhile (n + 1) ft fb env st = fWhile n ft fb e st2 := by
  simp only [fWhile, h1, RS.ofE, if_true, h2]
theorem while_stop {ft : FT} {fb : FS} {env : Ev} {st st1 : Sto} {n : Nat} (h1 : ft env st = .ok false st1) : fWhile (n + 1) ft fb env st = .nx env st1 := by
  simp only [fWhile, h1, RS.ofE, Bool.false_eq_true, if_false]
theorem sizL_mem : ∀ {ps : List Tr} {p : Tr}, p ∈ ps → p.siz ≤ Tr.sizL ps
  | q :: ps, p, h => by
    rw [Tr.sizL]
    rcases List.mem_cons.mp h with rfl | h
    · omega
    · have := sizL_mem h; omega
theorem siz_part {t p : Tr} (h : p ∈ t.parts) : p.siz + 1 ≤ t.siz := by
  rw [siz_parts t]
  have := sizL_mem h
  omega
def wT (g : Fns) : FT := fTest (fBin (pure2S gtD) (fCall g.law_size (fCons (fVar 3) fNil)) (fC (.int 14)))
def wB (g : Fns) : FS := fAsg (fBin ixW (fCall g.law_inner (fCons (fVar 3) fNil)) (fC (.int 0))) (gN 3)
theorem cut_ok (k : Nat) (a b c : Option W) (st : Sto) : ∀ (n : Nat) (t : Tr), t.dep ≤ n → t.dep ≤ k → t.siz ≤ LIM → t.good → ∃ u : Tr, u.good ∧ u.dep ≤ t.dep ∧ u.siz ≤ 14 ∧ fWhile (n + 1) (wT (R (k + 1))) (wB (R (k + 1))) [a, b, c, some (.d t.d)] st = .nx [a, b, c, some (.d u.d)] st
  | 0, t, h, _, _, _ => by have := dep_pos t; omega
  | n + 1, t, hn, hk, hz, ho => by
    have e1 := law_size_ok k t st hk hz
    by_cases hs : t.siz ≤ 14
    · refine ⟨t, ho, Nat.le_refl _, hs, while_stop ?_⟩
      have e2 : decide ((14 : Int) < ((t.siz : Nat) : Int)) = false := by simpa using (by omega : ((t.siz : Nat) : Int) ≤ 14)
      clear hs hz hk hn ho
      unfold wT
      walk_at "ev"
    · have e2 : decide ((14 : Int) < ((t.siz : Nat) : Int)) = true := by simpa using (by omega : (14 : Int) < ((t.siz : Nat) : Int))
      have e3 := inner_ok k t st
      cases hp : t.parts with
      | nil => rw [siz_parts, hp, Tr.sizL] at hs; omega
      | cons p ps =>
        have hm : p ∈ t.parts := by rw [hp]; simp
        have hd := dep_part hm
        have hy := siz_part hm
        obtain ⟨u, u1, u2, u3, u4⟩ := cut_ok k a b c st n p (by omega) (by omega) (by omega) (good_part ho hm)
        refine ⟨u, u1, by omega, u3, ?_⟩
        rw [← u4]
        rw [hp, Tr.dL] at e3
        refine while_step (st1 := st) ?_ ?_
        · clear hs hz hk hn ho u4
          unfold wT
          walk_at "ev"
        · clear hs hz hk hn ho u4
          unfold wB
          walk_at "ev"
theorem tree_ok (d k : Nat) (ns : List Int) (n : Nat) (st : Sto) (zs : List PyData) (hz : st[n]? = some (.lst zs)) (h1 : 1 ≤ d) (h5 : d ≤ 5) (hl : zs.length + 5120 < LIM) :
    ∃ t : Tr, ∃ zs' : List PyData, t.good ∧ t.dep ≤ d ∧ t.siz ≤ 14 ∧ zs'.length ≤ zs.length + 5120 ∧ (R (k + d + 6)).law_tree [.s ns, .c n, .d (.int (d : Nat))] st = .ok (.d t.d) (st.set n (.lst zs')) := by
  have hn : n < st.length := (List.getElem?_eq_some_iff.mp hz).1
  have hB : BB d ≤ 5120 := by
    rcases (by omega : d = 1 ∨ d = 2 ∨ d = 3 ∨ d = 4 ∨ d = 5) with rfl | rfl | rfl | rfl | rfl <;> decide
  have hNL : NL (st ++ [.lst []]) n st.length := ⟨by omega, by simp; omega, by simp⟩
  have hL : LIM = 1000000 := rfl
  have e1 : S2 (st ++ [.lst []]) n st.length zs [] = st ++ [.lst []] := by
    unfold S2
    rw [List.set_append_left _ _ hn, List.set_append_right _ _ (by simp)]
    have hq : st.set n (.lst zs) = st := by
      apply List.ext_getElem? 
      intro i
      by_cases hi : n = i
      · subst hi; rw [List.getElem?_set_self hn, hz]
      · rw [List.getElem?_set_ne hi]
    simp [hq]
  obtain ⟨t, zs', ls', ⟨a1, a2, a3⟩, a4, a5, hp⟩ := part_ok d k ns hNL zs [] h1 (by omega) (by rw [List.length_nil]; omega)
  rw [e1] at hp
  have e2 : ∀ (x y : List PyData), (S2 (st ++ [.lst []]) n st.length x y).take st.length = st.set n (.lst x) := by
    intro x y
    unfold S2
    rw [List.set_append_left _ _ hn, List.set_append_right _ _ (by simp)]
    simp
  obtain ⟨u, u1, u2, u3, u4⟩ := cut_ok (k + d + 4) (some (.s ns)) (some (.c n)) (some (.d (.int ((d : Nat) : Int)))) (S2 (st ++ [.lst []]) n st.length zs' ls') 3999 t (by omega) (by omega) (by omega) a1
  refine ⟨u, zs', u1, by omega, u3, by omega, ?_⟩
  show fFun 4 (b_law_tree (R (k + d + 5))) _ _ = _
  unfold b_law_tree
  rw [show WH = 3999 + 1 from rfl]
  change fFun 4 (fSeq (fAsg _ _) (fSeq (fWhile (3999 + 1) (wT (R (k + d + 5))) (wB (R (k + d + 5)))) _)) _ _ = _
  generalize fWhile (3999 + 1) (wT (R (k + d + 5))) (wB (R (k + d + 5))) = wh at *
  clear a1 a2 a3 a4 a5 u1 u2 u3 hl hB h1 h5 hn hL
  walk_at "ev"
end FL
set_option Elab.async false
set_option linter.all false
set_option maxRecDepth 100000
set_option maxHeartbeats 2000000
/-! What is a tree by the program: right trees. -/
namespace FL
open PySem L2 FL
local macro_rules | `(tactic| walk_at "ev") => `(tactic| simp only [↓V.v_var, ↓V.v_c, ↓V.v_nil, ↓V.v_cons, ↓V.v_cons1, ↓V.v_cons2, ↓V.v_tup, ↓V.v_tup1, ↓V.v_lst, ↓V.v_lst1, ↓V.v_new, ↓V.v_new1, ↓V.v_bin, ↓V.v_bin1, ↓V.v_bin2, ↓V.v_test, ↓V.v_test1, ↓V.v_chain, ↓V.v_chainX, ↓V.v_chainY, ↓V.v_chainZ, ↓V.v_chainK, ↓V.v_chainT, ↓V.v_chainF, ↓V.v_chain2, ↓V.v_okT, ↓V.v_okF, ↓V.v_okVT, ↓V.v_selK, ↓V.v_and, ↓V.v_or, ↓V.v_notK, ↓V.v_not, ↓V.v_selW, ↓V.v_andV, ↓V.v_orV, ↓V.v_notV2, ↓V.v_notV1, ↓V.v_notV, ↓V.v_if, ↓V.v_yes, ↓V.p2, ↓V.p2S, ↓V.v_sl, ↓V.v_sl1, ↓V.v_sl2, ↓V.v_sl3, ↓V.v_nopart, ↓V.v_part, ↓V.v_part1, ↓V.v_cb, ↓V.v_cb1, ↓V.v_call, ↓V.v_ty, ↓V.v_mt, ↓V.v_mt1, ↓V.v_mtT, ↓V.v_mt2, ↓V.v_mt0, ↓V.v_mt01, ↓V.v_seq, ↓V.v_skip, ↓V.v_ex, ↓V.v_ex1, ↓V.v_ret, ↓V.v_retN, ↓V.v_ifS, ↓V.v_asg, ↓V.v_asg1, ↓V.g_n, ↓V.g_tup, ↓V.v_gs1, ↓V.v_try, ↓V.v_raise, ↓V.v_fun, ↓V.v_for, ↓V.v_for1, ↓V.v_items, ↓V.v_items1, ↓V.v_enum, ↓V.v_enum1, ↓V.v_rng1, ↓V.v_rng11, ↓V.v_rng2, ↓V.v_rng21, ↓V.v_comp1, ↓V.v_comp, ↓V.v_compN1, ↓V.v_compN,
  V.bind_ok, V.bind_ex, V.of_s, V.of2_s, V.ofE_ok, V.ofE_ex, V.ofG_s, V.vR_s, V.sel_t, V.sel_f, V.frzAll_nil, V.frzAll_cons, V.frz1_d, V.frz1_c, V.frzC_l, V.frzC_f, V.toB_b, V.view_d, V.view_c, V.viewC_l, V.viewC_f, V.view_s, V.viewO_d, V.viewO_c, V.add_i, V.add_s, V.add_t, V.add_l, V.sub_i, V.mod_i, V.mul_i, V.gt_i, V.ge_i, V.lt_i, V.le_i, V.eq_i, V.ne_i, V.isn_p, V.isn_n, V.isNo_n, V.isNo_b, V.isNo_i, V.isNo_s, V.isNo_l, V.isNo_t, V.isNo_c, V.ix_w, V.ixV_i, V.ixB_l, V.ixB_t, V.ixB_s, V.at0, V.at1, V.at2, V.at3, V.partV_i, V.sl_l, V.sl_t, V.sl_s, V.len_c, V.len_d, V.len_s, V.lenC_l, V.lenB_l, V.lenB_t, V.lenB_s, V.rd_1, V.isi_w, V.tup_l, V.list_l, V.list_t, V.toI_b, V.toI_i, V.toS_i, V.all_l, V.any_l, V.sum_l, V.ty_c, V.tyC_l, V.ty_l, V.ty_s, V.app_c, V.appC_l, V.ext_c, V.extV_l, V.extC_l, V.seq_nx, V.seq_rt, V.seq_ex, V.seq_bk, V.seq_ct, V.ret_d, V.ret_c, V.retC_l, V.retC_f, V.gtV_t, V.gs_nil, V.gs_cons, V.try_rt, V.try_nx, V.try_ex, V.fun_nx, V.fun_rt, V.fun_ex, V.cut_d, V.one1_1, V.seq_l, V.seq_t, V.rngV_1, V.rngV2_1, V.compR_ok, V.compRN_ok, V.loopG_s, V.loop_nx, V.loop_ct, V.loop_bk, V.loop_rt, V.loop_ex, V.wipe_nil, V.wipe_cons,
  List.map, List.replicate, List.length_cons, List.length_nil, List.cons_append, List.nil_append, List.getElem?_cons_zero, List.getElem?_cons_succ, List.set_cons_zero, List.set_cons_succ, Option.bind_some, Option.map_some, Option.bind_none, Option.map_none, if_true, if_false, ↓reduceIte, Bool.false_eq_true, List.take_length, Bool.or_true, Bool.true_or, Bool.or_false, Bool.false_or, Bool.and_true, Bool.true_and, Bool.and_false, Bool.false_and, Bool.not_true, Bool.not_false, List.length_map, Nat.zero_add, Nat.reduceAdd, Nat.reduceSub, decide_true, decide_false, *])
theorem tw_all {p : Nat → Bool} : ∀ {l : List Nat}, (∀ c ∈ l, p c = true) → l.takeWhile p = l
  | [], _ => rfl
  | c :: r, h => by rw [List.takeWhile_cons, if_pos (h c (by simp)), tw_all fun d hd => h d (by simp [hd])]
theorem strip_gone {x y : Str} (h : ∀ c ∈ x.cps.toList, y.cps.contains c = true) : Txt.stripChars x y = Str.empty := by
  have h1 : stripLo y.cps.contains true x = x.length := by
    unfold stripLo
    rw [if_pos rfl, tw_all h]
    rfl
  have h2 : stripHi y.cps.contains true x x.length = x.length := by
    unfold stripHi
    rw [if_pos rfl, List.drop_eq_nil_of_le (i := x.length) (by simp [Str.length])]
    simp
  unfold Txt.stripChars Txt.stripBy stripSame stripped
  rw [h1, h2]
  by_cases h0 : x.length = 0
  · rw [h0]
    have : x = Str.empty := TL.ext_tl (by rw [(TL.len0_tl x).mp h0]; rfl)
    rw [this]; rfl
  · have : ((x.length == 0) && (x.length == x.length)) = false := by simp [h0]
    rw [if_neg (by simp [h0])]
    exact TL.ext_tl (by rw [TL.tl_strSub]; simp; rfl)
def ABC : Str := "abcdefghijklmnopqrstuvwxyz"
theorem abc_in : ∀ c : Nat, 97 ≤ c → c ≤ 122 → ABC.cps.contains c = true := by
  intro c h1 h2
  have : ∀ i : Fin 26, ABC.cps.contains (97 + i.val) = true := by decide +kernel
  have := this ⟨c - 97, by omega⟩
  simpa [show 97 + (c - 97) = c by omega] using this
theorem is_name_ok (k : Nat) (x : Str) (st : Sto) (h : nameOk x) : (R (k + 1)).is_name [.d (.str x)] st = .ok (.d (.bool true)) st := by
  obtain ⟨h1, h2, h3⟩ := h
  have e1 : isi (.str x) "str" = some true := rfl
  have e2 : x.length ≤ LIM := by have : LIM = 1000000 := rfl; omega
  have e3 : decide ((1 : Int) ≤ (x.length : Int)) = true := by simpa using (by omega : (1 : Int) ≤ (x.length : Int))
  have e4 : decide ((x.length : Int) ≤ (3 : Int)) = true := by simpa using (by omega : (x.length : Int) ≤ (3 : Int))
  have e5 : stripW (.d (.str x)) [.d (.str "abcdefghijklmnopqrstuvwxyz")] st = some (.d (.str Str.empty), st) := by
    unfold stripW
    simp only [e2, if_true]
    rw [show Txt.stripChars x (Str.ofString "abcdefghijklmnopqrstuvwxyz") = Str.empty from strip_gone fun c hc => abc_in c (h3 c hc).1 (h3 c hc).2]
  have e6 : eqD (.str Str.empty) (.str "") = some (.bool true) := rfl
  show fFun 1 (b_is_name (R k)) _ _ = _
  unfold b_is_name
  clear h1 h2 h3
  walk_at "ev"
theorem is_flag_ok (k : Nat) (f : Fg) (st : Sto) : (R (k + 1)).is_flag [.d (.str f.s)] st = .ok (.d (.bool true)) st := by
  rw [← ok_take]
  cases f <;> rfl
theorem is_whole_ok (k : Nat) (n a b : Int) (st : Sto) (h1 : a ≤ n) (h2 : n ≤ b) : (R (k + 1)).is_whole [.d (.int n), .d (.int a), .d (.int b)] st = .ok (.d (.bool true)) st := by
  have e1 : isi (.int n) "int" = some true := rfl
  have e2 : isi (.int n) "bool" = some false := rfl
  have e3 : decide (a ≤ n) = true := by simpa using h1
  have e4 : decide (n ≤ b) = true := by simpa using h2
  show fFun 3 (b_is_whole (R k)) _ _ = _
  unfold b_is_whole
  clear h1 h2
  walk_at "ev"
theorem is_end_ok (k : Nat) (e : Bool) (st : Sto) : (R (k + 1)).is_word [.d (.str (yn e)), .d (.tuple [.str "yes", .str "no"])] st = .ok (.d (.bool true)) st := by
  rw [← ok_take]
  cases e <;> rfl
theorem is_leaf_ok (k : Nat) (t : Tr) (st : Sto) (ho : t.ok) (hp : t.parts = []) : (R (k + 2)).is_leaf [.d t.d] st = .ok (.d (.bool true)) st := by
  cases t with
  | ask f =>
    have e1 := is_flag_ok k f st
    have e4 : eqD (.str "ask") (.str "ask") = some (.bool true) := rfl
    have e7 : eqD (.int ((0 + 1 + 1 : Nat) : Int)) (.int 2) = some (.bool true) := rfl
    show fFun 1 (b_is_leaf (R (k + 1))) _ _ = _
    unfold b_is_leaf
    rw [Tr.d]
    clear ho hp
    walk_at "ev"
  | set f up =>
    have e1 := is_flag_ok k f st
    have e4 : eqD (.str "set") (.str "ask") = some (.bool false) := rfl
    have e5 : eqD (.str "set") (.str "set") = some (.bool true) := rfl
    have e6 : isi (.bool up) "bool" = some true := rfl
    have e7 : eqD (.int ((0 + 1 + 1 + 1 : Nat) : Int)) (.int 3) = some (.bool true) := rfl
    show fFun 1 (b_is_leaf (R (k + 1))) _ _ = _
    unfold b_is_leaf
    rw [Tr.d]
    clear ho hp
    walk_at "ev"
  | act x n e =>
    obtain ⟨h1, h2, h3⟩ := ho
    have e1 := is_name_ok k x st h1
    have e2 := is_whole_ok k (n : Int) 1 4 st (by omega) (by omega)
    have e3 := is_end_ok k e st
    have e4 : eqD (.str "do") (.str "ask") = some (.bool false) := rfl
    have e5 : eqD (.str "do") (.str "set") = some (.bool false) := rfl
    have e6 : neD (.str "do") (.str "do") = some (.bool false) := rfl
    have e7 : neD (.int ((0 + 1 + 1 + 1 + 1 : Nat) : Int)) (.int 4) = some (.bool false) := rfl
    show fFun 1 (b_is_leaf (R (k + 1))) _ _ = _
    unfold b_is_leaf
    rw [Tr.d]
    clear h1 h2 h3
    walk_at "ev"
  | many kk ps => rw [Tr.parts] at hp; exact absurd hp ho.1
  | one kk p => simp [Tr.parts] at hp
  | cnt kk n p => simp [Tr.parts] at hp
  | bes n ps => rw [Tr.parts] at hp; have := ho.2.1; rw [hp] at this; have := ho.1; simp at *; omega
theorem bools_true {α : Type} : ∀ ps : List α, boolsOf (ps.map fun _ => PyData.bool true) = some (ps.map fun _ => true)
  | [] => rfl
  | p :: ps => by simp [boolsOf, bools_true ps]

theorem are_parts_ok (k : Nat) (ps : List Tr) (d : Int) (st : Sto) (hne : ps ≠ []) (hl : ps.length ≤ LIM) (h : ∀ p ∈ ps, (R k).is_part [.d p.d, .d (.int d)] st = .ok (.d (.bool true)) st) :
    (R (k + 1)).are_parts [.d (.tuple (Tr.dL ps)), .d (.int d)] st = .ok (.d (.bool true)) st := by
  have e1 : isi (.tuple (ps.map Tr.d)) "tuple" = some true := rfl
  have hp : 0 < ps.length := List.length_pos_iff.mpr hne
  have e2 : decide ((0 : Int) < (ps.length : Int)) = true := by simpa using (by omega : (0 : Int) < (ps.length : Int))
  have e3 : compGo (gN 2) fYes (fCall (R k).is_part (fCons (fVar 2) (fCons (fVar 1) fNil))) [some (.d (.tuple (ps.map Tr.d))), some (.d (.int d)), none] (ps.map Tr.d) st = .ok (ps.map fun _ => PyData.bool true) st := by
    refine compGo_map _ _ _ fun p hp => ?_
    have := h p hp
    clear h hne hl e1 e2
    walk_at "ev"
  have e4 := bools_true ps
  have e5 : (ps.map fun _ => true).all id = true := by simp
  show fFun 3 (b_are_parts (R k)) _ _ = _
  unfold b_are_parts
  rw [dL_map]
  clear h hne hp
  walk_at "ev"
theorem len_siz (t : Tr) : t.parts.length < t.siz := by
  rw [siz_parts]
  have := sizL_le t.parts
  omega
theorem is_part_ok : ∀ (d k : Nat) (t : Tr) (st : Sto), t.ok → t.dep ≤ d → t.siz ≤ LIM → (R (k + 2 * d + 3)).is_part [.d t.d, .d (.int (d : Nat))] st = .ok (.d (.bool true)) st
  | 0, _, t, _, _, h, _ => by have := dep_pos t; omega
  | d + 1, k, t, st, ho, hd, hz => by
    have ed : ((d + 1 : Nat) : Int) - 1 = ((d : Nat) : Int) := by omega
    have e0 : eqD (.int ((d + 1 : Nat) : Int)) (.int 0) = some (.bool false) := by
      rw [eqI]
      have : ¬ (((d + 1 : Nat) : Int) = 0) := by omega
      simp only [this, decide_false]
    have ih : ∀ (k' : Nat) (p : Tr), p ∈ t.parts → (R (k' + 2 * d + 3)).is_part [.d p.d, .d (.int (d : Nat))] st = .ok (.d (.bool true)) st := fun k' p hp => is_part_ok d k' p st (ok_part ho hp) (by have := dep_part hp; omega) (by have := siz_part hp; omega)
    have hps : t.parts.length ≤ LIM := by have := len_siz t; omega
    have hal : t.parts ≠ [] → (R (k + 2 * d + 4)).are_parts [.d (.tuple (Tr.dL t.parts)), .d (.int (d : Nat))] st = .ok (.d (.bool true)) st := fun hne => are_parts_ok (k + 2 * d + 3) t.parts d st hne hps (ih k)
    have d1 : decide (((0 + 1 + 1 : Nat) : Int) < 2) = false := rfl
    have d2 : decide (((0 + 1 + 1 + 1 : Nat) : Int) < 2) = false := rfl
    have d3 : decide (((0 + 1 + 1 + 1 + 1 : Nat) : Int) < 2) = false := rfl
    have q2 : eqD (.int ((0 + 1 + 1 : Nat) : Int)) (.int 2) = some (.bool true) := rfl
    have q3 : eqD (.int ((0 + 1 + 1 + 1 : Nat) : Int)) (.int 3) = some (.bool true) := rfl
    have n3 : neD (.int ((0 + 1 + 1 + 1 : Nat) : Int)) (.int 3) = some (.bool false) := rfl
    have it : ∀ ds : List PyData, isi (.tuple ds) "tuple" = some true := fun _ => rfl
    have is : ∀ x : Str, isi (.str x) "str" = some true := fun _ => rfl
    show fFun 2 (b_is_part (R (k + 2 * d + 4))) _ _ = _
    unfold b_is_part
    have lf : t.parts = [] → (R (k + 2 * d + 4)).is_leaf [.d t.d] st = .ok (.d (.bool true)) st := fun hp => is_leaf_ok (k + 2 * d + 2) t st ho hp
    cases t with
    | ask f =>
      have e1 : inD (.str "ask") (.tuple [.str "ask", .str "set", .str "do"]) = some (.bool true) := rfl
      have e2 := lf rfl
      rw [Tr.d] at e2 ⊢
      clear hal lf ih ho hd hz
      walk_at "ev"
    | set f up =>
      have e1 : inD (.str "set") (.tuple [.str "ask", .str "set", .str "do"]) = some (.bool true) := rfl
      have e2 := lf rfl
      rw [Tr.d] at e2 ⊢
      clear hal lf ih ho hd hz
      walk_at "ev"
    | act x n e =>
      have e1 : inD (.str "do") (.tuple [.str "ask", .str "set", .str "do"]) = some (.bool true) := rfl
      have e2 := lf rfl
      rw [Tr.d] at e2 ⊢
      clear hal lf ih ho hd hz
      walk_at "ev"
    | many q ps =>
      have e1 : inD (.str q.s) (.tuple [.str "ask", .str "set", .str "do"]) = some (.bool false) := by cases q <;> rfl
      have e2 : inD (.str q.s) (.tuple [.str "row", .str "choice", .str "row anew", .str "choice anew"]) = some (.bool true) := by cases q <;> rfl
      have e3 := hal ho.1
      rw [Tr.parts] at e3
      rw [Tr.d]
      clear hal lf ih ho hd hz
      walk_at "ev"
    | one q p =>
      have e1 : inD (.str q.s) (.tuple [.str "ask", .str "set", .str "do"]) = some (.bool false) := by cases q <;> rfl
      have e2 : inD (.str q.s) (.tuple [.str "row", .str "choice", .str "row anew", .str "choice anew"]) = some (.bool false) := by cases q <;> rfl
      have e4 : inD (.str q.s) (.tuple [.str "not", .str "yes", .str "no", .str "keep"]) = some (.bool true) := by cases q <;> rfl
      have e3 := ih (k + 1) p (by simp [Tr.parts])
      rw [show k + 1 + 2 * d + 3 = k + 2 * d + 4 by omega] at e3
      rw [Tr.d]
      clear hal lf ih ho hd hz
      walk_at "ev"
    | cnt q n p =>
      have e1 : inD (.str q.s) (.tuple [.str "ask", .str "set", .str "do"]) = some (.bool false) := by cases q <;> rfl
      have e2 : inD (.str q.s) (.tuple [.str "row", .str "choice", .str "row anew", .str "choice anew"]) = some (.bool false) := by cases q <;> rfl
      have e4 : inD (.str q.s) (.tuple [.str "not", .str "yes", .str "no", .str "keep"]) = some (.bool false) := by cases q <;> rfl
      have e5 : inD (.str q.s) (.tuple [.str "again", .str "till", .str "hold"]) = some (.bool true) := by cases q <;> rfl
      have e3 := ih (k + 1) p (by simp [Tr.parts])
      rw [show k + 1 + 2 * d + 3 = k + 2 * d + 4 by omega] at e3
      have e6 := is_whole_ok (k + 2 * d + 3) (n : Int) 1 4 st (by have := ho.1; omega) (by have := ho.2.1; omega)
      rw [Tr.d]
      clear hal lf ih ho hd hz
      walk_at "ev"
    | bes n ps =>
      have e1 : inD (.str "beside") (.tuple [.str "ask", .str "set", .str "do"]) = some (.bool false) := rfl
      have e2 : inD (.str "beside") (.tuple [.str "row", .str "choice", .str "row anew", .str "choice anew"]) = some (.bool false) := rfl
      have e4 : inD (.str "beside") (.tuple [.str "not", .str "yes", .str "no", .str "keep"]) = some (.bool false) := rfl
      have e5 : inD (.str "beside") (.tuple [.str "again", .str "till", .str "hold"]) = some (.bool false) := rfl
      have e7 : neD (.str "beside") (.str "beside") = some (.bool false) := rfl
      have e3 := hal (by rw [Tr.parts]; intro z; have h1 := ho.1; have h2 := ho.2.1; rw [z] at h2; simp at h2; omega)
      rw [Tr.parts] at e3
      have e6 := is_whole_ok (k + 2 * d + 3) (n : Int) 1 ((Tr.dL ps).length : Nat) st (by have := ho.1; omega) (by have := ho.2.1; rw [dL_len]; omega)
      rw [Tr.d]
      clear hal lf ih ho hd hz
      walk_at "ev"
/-- sizes by the program -/
theorem size_of_ok : ∀ (k : Nat) (t : Tr) (st : Sto), t.dep ≤ k → t.siz ≤ LIM → (R (k + 1)).size_of [.d t.d] st = .ok (.d (.int (t.siz : Nat))) st
  | 0, t, st, h, _ => by have := dep_pos t; omega
  | k + 1, t, st, h, hz => by
    show fFun 2 (b_size_of (R (k + 1))) _ _ = _
    unfold b_size_of
    have e1 := parts_of_ok k t st
    have e0 := siz_parts t
    have e2 : compGo (gN 1) fYes (fCall (R (k + 1)).size_of (fCons (fVar 1) fNil)) [some (.d t.d), none] (Tr.dL t.parts) st = .ok (t.parts.map fun p => PyData.int (p.siz : Nat)) st := by
      rw [dL_map]
      refine compGo_map _ _ _ fun p hp => ?_
      have ih := size_of_ok k p st (by have := dep_part hp; omega) (by have := siz_part hp; omega)
      clear h hz hp e0 e1
      walk_at "ev"
    have e4 : t.parts.length ≤ LIM := by have := len_siz t; omega
    have e5 := intsOf_map (fun p : Tr => ((p.siz : Nat) : Int)) t.parts
    have e6 := sizL_sum t.parts
    have e7 : (1 : Int) + ((Tr.sizL t.parts : Nat) : Int) = ((t.siz : Nat) : Int) := by omega
    clear h hz e0
    walk_at "ev"
theorem is_tree_ok (k : Nat) (t : Tr) (st : Sto) (ho : t.ok) (hd : t.dep ≤ 5) (hz : t.siz ≤ 14) : (R (k + 14)).is_tree [.d t.d] st = .ok (.d (.bool true)) st := by
  have hL : LIM = 1000000 := rfl
  have e1 := is_part_ok 5 k t st ho hd (by omega)
  have e2 := size_of_ok (k + 12) t st (by omega) (by omega)
  have e3 : decide (((t.siz : Nat) : Int) ≤ 14) = true := by simpa using (by omega : ((t.siz : Nat) : Int) ≤ 14)
  show fFun 1 (b_is_tree (R (k + 13))) _ _ = _
  unfold b_is_tree
  simp only [Nat.reduceMul, Nat.add_assoc, Nat.reduceAdd] at e1
  have e1' : (R (k + 13)).is_part [.d t.d, .d (.int 5)] st = .ok (.d (.bool true)) st := e1
  clear e1 ho hd hz hL
  walk_at "ev"
theorem need_tree_ok (k : Nat) (t : Tr) (st : Sto) (ho : t.ok) (hd : t.dep ≤ 5) (hz : t.siz ≤ 14) : (R (k + 15)).need_tree [.d t.d] st = .ok (.d .none) st := by
  have e1 := is_tree_ok k t st ho hd hz
  show fFun 1 (b_need_tree (R (k + 14))) _ _ = _
  unfold b_need_tree
  clear ho hd hz
  walk_at "ev"
end FL
set_option Elab.async false
set_option linter.all false
set_option maxRecDepth 100000
set_option maxHeartbeats 2000000
/-! Texts of trees. -/
namespace FL
open PySem L2 FL
local macro_rules | `(tactic| walk_at "ev") => `(tactic| simp only [↓V.v_var, ↓V.v_c, ↓V.v_nil, ↓V.v_cons, ↓V.v_cons1, ↓V.v_cons2, ↓V.v_tup, ↓V.v_tup1, ↓V.v_lst, ↓V.v_lst1, ↓V.v_new, ↓V.v_new1, ↓V.v_bin, ↓V.v_bin1, ↓V.v_bin2, ↓V.v_test, ↓V.v_test1, ↓V.v_chain, ↓V.v_chainX, ↓V.v_chainY, ↓V.v_chainZ, ↓V.v_chainK, ↓V.v_chainT, ↓V.v_chainF, ↓V.v_chain2, ↓V.v_okT, ↓V.v_okF, ↓V.v_okVT, ↓V.v_selK, ↓V.v_and, ↓V.v_or, ↓V.v_notK, ↓V.v_not, ↓V.v_selW, ↓V.v_andV, ↓V.v_orV, ↓V.v_notV2, ↓V.v_notV1, ↓V.v_notV, ↓V.v_if, ↓V.v_yes, ↓V.p2, ↓V.p2S, ↓V.v_sl, ↓V.v_sl1, ↓V.v_sl2, ↓V.v_sl3, ↓V.v_nopart, ↓V.v_part, ↓V.v_part1, ↓V.v_cb, ↓V.v_cb1, ↓V.v_call, ↓V.v_ty, ↓V.v_mt, ↓V.v_mt1, ↓V.v_mtT, ↓V.v_mt2, ↓V.v_mt0, ↓V.v_mt01, ↓V.v_seq, ↓V.v_skip, ↓V.v_ex, ↓V.v_ex1, ↓V.v_ret, ↓V.v_retN, ↓V.v_ifS, ↓V.v_asg, ↓V.v_asg1, ↓V.g_n, ↓V.g_tup, ↓V.v_gs1, ↓V.v_try, ↓V.v_raise, ↓V.v_fun, ↓V.v_for, ↓V.v_for1, ↓V.v_items, ↓V.v_items1, ↓V.v_enum, ↓V.v_enum1, ↓V.v_rng1, ↓V.v_rng11, ↓V.v_rng2, ↓V.v_rng21, ↓V.v_comp1, ↓V.v_comp, ↓V.v_compN1, ↓V.v_compN,
  V.bind_ok, V.bind_ex, V.of_s, V.of2_s, V.ofE_ok, V.ofE_ex, V.ofG_s, V.vR_s, V.sel_t, V.sel_f, V.frzAll_nil, V.frzAll_cons, V.frz1_d, V.frz1_c, V.frzC_l, V.frzC_f, V.toB_b, V.view_d, V.view_c, V.viewC_l, V.viewC_f, V.view_s, V.viewO_d, V.viewO_c, V.add_i, V.add_s, V.add_t, V.add_l, V.sub_i, V.mod_i, V.mul_i, V.gt_i, V.ge_i, V.lt_i, V.le_i, V.eq_i, V.ne_i, V.isn_p, V.isn_n, V.isNo_n, V.isNo_b, V.isNo_i, V.isNo_s, V.isNo_l, V.isNo_t, V.isNo_c, V.ix_w, V.ixV_i, V.ixB_l, V.ixB_t, V.ixB_s, V.at0, V.at1, V.at2, V.at3, V.partV_i, V.sl_l, V.sl_t, V.sl_s, V.len_c, V.len_d, V.len_s, V.lenC_l, V.lenB_l, V.lenB_t, V.lenB_s, V.rd_1, V.isi_w, V.tup_l, V.list_l, V.list_t, V.toI_b, V.toI_i, V.toS_i, V.all_l, V.any_l, V.sum_l, V.ty_c, V.tyC_l, V.ty_l, V.ty_s, V.app_c, V.appC_l, V.ext_c, V.extV_l, V.extC_l, V.seq_nx, V.seq_rt, V.seq_ex, V.seq_bk, V.seq_ct, V.ret_d, V.ret_c, V.retC_l, V.retC_f, V.gtV_t, V.gs_nil, V.gs_cons, V.try_rt, V.try_nx, V.try_ex, V.fun_nx, V.fun_rt, V.fun_ex, V.cut_d, V.one1_1, V.seq_l, V.seq_t, V.rngV_1, V.rngV2_1, V.compR_ok, V.compRN_ok, V.loopG_s, V.loop_nx, V.loop_ct, V.loop_bk, V.loop_rt, V.loop_ex, V.wipe_nil, V.wipe_cons,
  List.map, List.replicate, List.length_cons, List.length_nil, List.cons_append, List.nil_append, List.getElem?_cons_zero, List.getElem?_cons_succ, List.set_cons_zero, List.set_cons_succ, Option.bind_some, Option.map_some, Option.bind_none, Option.map_none, if_true, if_false, ↓reduceIte, Bool.false_eq_true, List.take_length, Bool.or_true, Bool.true_or, Bool.or_false, Bool.false_or, Bool.and_true, Bool.true_and, Bool.and_false, Bool.false_and, Bool.not_true, Bool.not_false, List.length_map, Nat.zero_add, Nat.reduceAdd, Nat.reduceSub, decide_true, decide_false, *])
abbrev S := SX.S
abbrev wl (x : Str) : List Nat := x.cps.toList
def MK.w : MK → List (List Nat)
  | .row => [wl "row"] | .choice => [wl "choice"] | .rowA => [wl "row", wl "anew"] | .choiceA => [wl "choice", wl "anew"]
/-- the words ahead of the bracket -/
def Tr.wds : Tr → List (List Nat)
  | .ask f => [wl "ask", wl f.s]
  | .set f up => [wl "set", wl f.s, wl (if up then "up" else "down")]
  | .act x n e => [wl "do", wl x, [48 + n], wl (yn e)]
  | .many k _ => k.w
  | .one k _ => [wl k.s]
  | .cnt k n _ => [wl k.s, [48 + n]]
  | .bes n _ => [wl "beside", [48 + n]]
def Tr.hd (t : Tr) : List Nat := TL.joinL [32] t.wds
mutual
def Tr.txt : Tr → List Nat
  | .ask f => Tr.hd (.ask f)
  | .set f up => Tr.hd (.set f up)
  | .act x n e => Tr.hd (.act x n e)
  | .many k ps => Tr.hd (.many k []) ++ (40 :: (TL.joinL [59, 32] (Tr.txtL ps) ++ [41]))
  | .one k p => Tr.hd (.one k (.ask .a)) ++ (40 :: (TL.joinL [59, 32] [p.txt] ++ [41]))
  | .cnt k n p => Tr.hd (.cnt k n (.ask .a)) ++ (40 :: (TL.joinL [59, 32] [p.txt] ++ [41]))
  | .bes n ps => Tr.hd (.bes n []) ++ (40 :: (TL.joinL [59, 32] (Tr.txtL ps) ++ [41]))
def Tr.txtL : List Tr → List (List Nat)
  | [] => []
  | p :: ps => p.txt :: Tr.txtL ps
end
theorem txtL_map : ∀ ps : List Tr, Tr.txtL ps = ps.map Tr.txt
  | [] => rfl
  | p :: ps => by rw [Tr.txtL, txtL_map ps]; rfl
/-- inner parts: the text by its parts -/
theorem txt_in (t : Tr) (h : t.parts ≠ []) : t.txt = t.hd ++ (40 :: (TL.joinL [59, 32] (t.parts.map Tr.txt) ++ [41])) := by
  cases t with
  | ask f => exact absurd rfl h
  | set f up => exact absurd rfl h
  | act x n e => exact absurd rfl h
  | many k ps => rw [Tr.txt, txtL_map]; rfl
  | one k p => rw [Tr.txt]; rfl
  | cnt k n p => rw [Tr.txt]; rfl
  | bes n ps => rw [Tr.txt, txtL_map]; rfl
theorem txt_leaf (t : Tr) (ho : t.ok) (h : t.parts = []) : t.txt = t.hd := by
  cases t with
  | ask f => rfl
  | set f up => rfl
  | act x n e => rfl
  | many k ps => exact absurd h ho.1
  | one k p => simp [Tr.parts] at h
  | cnt k n p => simp [Tr.parts] at h
  | bes n ps => rw [Tr.parts] at h; have h1 := ho.1; have h2 := ho.2.1; rw [h] at h2; simp at h2; omega
def ltr (c : Nat) : Prop := 97 ≤ c ∧ c ≤ 122
theorem bes_le {n : Nat} {ps : List Tr} (h : (Tr.bes n ps).good) : 1 ≤ n ∧ n ≤ 3 := ⟨h.1.1, Nat.le_trans h.1.2.1 h.2.1⟩
/-- words: of letters, or a figure; short -/
theorem wds_sign (t : Tr) (hg : t.good) : t.wds ≠ [] ∧ t.wds.length ≤ 4 ∧ ∀ w ∈ t.wds, w ≠ [] ∧ w.length ≤ 6 ∧ ∀ c ∈ w, (48 ≤ c ∧ c ≤ 57) ∨ ltr c := by
  have key : ∀ ws : List (List Nat), (decide (ws ≠ []) && decide (ws.length ≤ 4) && ws.all (fun w => decide (w ≠ []) && decide (w.length ≤ 6) && w.all fun c => decide ((48 ≤ c ∧ c ≤ 57) ∨ (97 ≤ c ∧ c ≤ 122)))) = true → ws ≠ [] ∧ ws.length ≤ 4 ∧ ∀ w ∈ ws, w ≠ [] ∧ w.length ≤ 6 ∧ ∀ c ∈ w, (48 ≤ c ∧ c ≤ 57) ∨ ltr c := by
    intro ws h
    simp only [Bool.and_eq_true, List.all_eq_true, decide_eq_true_eq] at h
    exact ⟨h.1.1, h.1.2, fun w hw => ⟨(h.2 w hw).1.1, (h.2 w hw).1.2, (h.2 w hw).2⟩⟩
  refine key _ ?_
  cases t with
  | ask f => cases f <;> rfl
  | set f up => cases f <;> cases up <;> rfl
  | act x n e =>
    have h1 := hg.1.2.1
    have h2 := hg.1.2.2
    rcases (by omega : n = 1 ∨ n = 2 ∨ n = 3 ∨ n = 4) with rfl | rfl | rfl | rfl <;> rcases (show x = "x" ∨ x = "y" ∨ x = "z" ∨ x = "run" from hg.2) with rfl | rfl | rfl | rfl <;> cases e <;> rfl
  | many k ps => cases k <;> rfl
  | one k p => cases k <;> rfl
  | cnt k n p =>
    have h1 := hg.1.1
    have h2 := hg.1.2.1
    rcases (by omega : n = 1 ∨ n = 2 ∨ n = 3 ∨ n = 4) with rfl | rfl | rfl | rfl <;> cases k <;> rfl
  | bes n ps =>
    obtain ⟨h1, h2⟩ := bes_le hg
    rcases (by omega : n = 1 ∨ n = 2 ∨ n = 3) with rfl | rfl | rfl <;> rfl
theorem head_of_ok (k : Nat) (t : Tr) (st : Sto) (hg : t.good) : (R (k + 1)).head_of [.d t.d] st = .ok (.d (.str (S t.hd))) st := by
  rw [← ok_take]
  cases t with
  | ask f => cases f <;> rfl
  | set f up => cases f <;> cases up <;> rfl
  | act x n e =>
    have h1 := hg.1.2.1
    have h2 := hg.1.2.2
    rcases (by omega : n = 1 ∨ n = 2 ∨ n = 3 ∨ n = 4) with rfl | rfl | rfl | rfl <;> rcases (show x = "x" ∨ x = "y" ∨ x = "z" ∨ x = "run" from hg.2) with rfl | rfl | rfl | rfl <;> cases e <;> rfl
  | many k ps => cases k <;> rfl
  | one k p => cases k <;> rfl
  | cnt k n p =>
    have h1 := hg.1.1
    have h2 := hg.1.2.1
    rcases (by omega : n = 1 ∨ n = 2 ∨ n = 3 ∨ n = 4) with rfl | rfl | rfl | rfl <;> cases k <;> rfl
  | bes n ps =>
    obtain ⟨h1, h2⟩ := bes_le hg
    rcases (by omega : n = 1 ∨ n = 2 ∨ n = 3) with rfl | rfl | rfl <;> rfl

theorem fg_lay (f : Fg) : PyData.strOk f.s = true := by cases f <;> decide +kernel
theorem mk_lay (f : MK) : PyData.strOk f.s = true := by cases f <;> decide +kernel
theorem ok_lay (f : OK) : PyData.strOk f.s = true := by cases f <;> decide +kernel
theorem ck_lay (f : CK) : PyData.strOk f.s = true := by cases f <;> decide +kernel
theorem yn_lay (f : Bool) : PyData.strOk (yn f) = true := by cases f <;> decide +kernel
theorem s_ask : PyData.strOk (Str.ofString "ask") = true := by decide +kernel
theorem s_set : PyData.strOk (Str.ofString "set") = true := by decide +kernel
theorem s_do : PyData.strOk (Str.ofString "do") = true := by decide +kernel
theorem s_bes : PyData.strOk (Str.ofString "beside") = true := by decide +kernel
theorem name_lay {x : Str} (h : nameOk x) : PyData.strOk x = true := by
  unfold PyData.strOk
  rw [← Array.all_toList, List.all_eq_true]
  intro c hc
  have := (h.2.2 c hc).2
  simpa using (by omega : c < 1114112)
mutual
theorem lay_t : ∀ t : Tr, t.ok → PyData.canLay0 t.d = true ∧ PyData.depth t.d ≤ 2 * t.dep
  | .ask f, _ => ⟨by simp [Tr.d, PyData.canLay0, PyData.canLayAll0, fg_lay, s_ask, s_set], by simp [Tr.d, PyData.depth, PyData.depthAll, Tr.dep]⟩
  | .set f up, _ => ⟨by simp [Tr.d, PyData.canLay0, PyData.canLayAll0, fg_lay, s_ask, s_set], by simp [Tr.d, PyData.depth, PyData.depthAll, Tr.dep]⟩
  | .act x n e, h => ⟨by simp [Tr.d, PyData.canLay0, PyData.canLayAll0, name_lay h.1, yn_lay, s_do], by simp [Tr.d, PyData.depth, PyData.depthAll, Tr.dep]⟩
  | .many k ps, h => by
    have ih := lay_ts ps h.2
    exact ⟨by simp [Tr.d, PyData.canLay0, PyData.canLayAll0, mk_lay, ih.1], by simp [Tr.d, PyData.depth, PyData.depthAll, Tr.dep]; omega⟩
  | .one k p, h => by
    have ih := lay_t p h
    exact ⟨by simp [Tr.d, PyData.canLay0, PyData.canLayAll0, ok_lay, ih.1], by simp [Tr.d, PyData.depth, PyData.depthAll, Tr.dep]; omega⟩
  | .cnt k n p, h => by
    have ih := lay_t p h.2.2
    exact ⟨by simp [Tr.d, PyData.canLay0, PyData.canLayAll0, ck_lay, ih.1], by simp [Tr.d, PyData.depth, PyData.depthAll, Tr.dep]; omega⟩
  | .bes n ps, h => by
    have ih := lay_ts ps h.2.2
    exact ⟨by simp [Tr.d, PyData.canLay0, PyData.canLayAll0, ih.1, s_bes], by simp [Tr.d, PyData.depth, PyData.depthAll, Tr.dep]; omega⟩
theorem lay_ts : ∀ ps : List Tr, Tr.okL ps → PyData.canLayAll0 (Tr.dL ps) = true ∧ PyData.depthAll (Tr.dL ps) ≤ 2 * Tr.depL ps
  | [], _ => ⟨rfl, by simp [Tr.dL, PyData.depthAll]⟩
  | p :: ps, h => by
    have i1 := lay_t p h.1
    have i2 := lay_ts ps h.2
    exact ⟨by simp [Tr.dL, PyData.canLayAll0, i1.1, i2.1], by simp [Tr.dL, PyData.depthAll, Tr.depL]; omega⟩
end
theorem shaped_t (t : Tr) (h : t.ok) (hd : t.dep ≤ 20) : SeqAt.shaped t.d = true := by
  have := lay_t t h
  simp [SeqAt.shaped, this.1]
  omega
theorem shaped_ts (ps : List Tr) (h : Tr.okL ps) (hd : Tr.depL ps ≤ 20) : SeqAt.shaped (.tuple (Tr.dL ps)) = true := by
  have := lay_ts ps h
  simp [SeqAt.shaped, PyData.canLay0, PyData.depth, this.1]
  omega
theorem parts_okL (t : Tr) (h : t.ok) : Tr.okL t.parts := (okL_iff _).mpr fun _ hp => ok_part h hp
theorem parts_depL (t : Tr) : Tr.depL t.parts ≤ t.dep := depL_max fun p hp => by have := dep_part hp; omega
theorem eq_tup (a b : List PyData) : eqD (.tuple a) (.tuple b) = if SeqAt.shaped (.tuple a) && SeqAt.shaped (.tuple b) then some (.bool (PyData.eqv (.tuple a) (.tuple b))) else none := by
  show ((if SeqAt.shaped (.tuple a) && SeqAt.shaped (.tuple b) then some (PyData.eqv (.tuple a) (.tuple b)) else none).map PyData.bool) = _
  split <;> rfl
theorem no_parts (t : Tr) (h : t.ok) (hd : t.dep ≤ 20) : eqD (.tuple (Tr.dL t.parts)) (.tuple []) = some (.bool (decide (t.parts = []))) := by
  rw [eq_tup, shaped_ts _ (parts_okL t h) (Nat.le_trans (parts_depL t) hd)]
  have : SeqAt.shaped (.tuple []) = true := rfl
  rw [this]
  cases t.parts with
  | nil => rfl
  | cons p ps => simp [Tr.dL, PyData.eqv, PyData.eqvAll]
/-! signs and lengths -/
theorem joinL_mem {c : Nat} {sep : List Nat} : ∀ {ws : List (List Nat)}, c ∈ TL.joinL sep ws → c ∈ sep ∨ ∃ w ∈ ws, c ∈ w
  | [], h => by simp [TL.joinL] at h
  | [p], h => .inr ⟨p, by simp, h⟩
  | p :: q :: r, h => by
    rw [TL.joinL, List.mem_append, List.mem_append] at h
    rcases h with h | h | h
    · exact .inr ⟨p, by simp, h⟩
    · exact .inl h
    · rcases joinL_mem h with h | ⟨w, h1, h2⟩
      · exact .inl h
      · exact .inr ⟨w, List.mem_cons_of_mem _ h1, h2⟩
theorem joinL_len {sep : List Nat} {m : Nat} : ∀ {ws : List (List Nat)}, (∀ w ∈ ws, w.length ≤ m) → (TL.joinL sep ws).length ≤ ws.length * (m + sep.length)
  | [], _ => by simp [TL.joinL]
  | [p], h => by
    have := h p (by simp)
    simp [TL.joinL]; omega
  | p :: q :: r, h => by
    have h1 := h p (by simp)
    have h2 := joinL_len (sep := sep) (ws := q :: r) fun w hw => h w (List.mem_cons_of_mem _ hw)
    rw [TL.joinL, List.length_append, List.length_append, List.length_cons, Nat.succ_mul]
    omega
theorem hd_len (t : Tr) (hg : t.good) : t.hd.length ≤ 28 := by
  obtain ⟨h1, h2, h3⟩ := wds_sign t hg
  have := joinL_len (sep := [32]) (m := 6) fun w hw => (h3 w hw).2.1
  have h4 : t.wds.length * (6 + [32].length) ≤ 4 * 7 := Nat.mul_le_mul h2 (Nat.le_refl _)
  unfold Tr.hd
  omega
theorem hd_sign (t : Tr) (hg : t.good) : ∀ c ∈ t.hd, c = 32 ∨ (48 ≤ c ∧ c ≤ 57) ∨ ltr c := fun c hc => by
  rcases joinL_mem hc with h | ⟨w, h1, h2⟩
  · simp at h; exact .inl h
  · exact .inr (((wds_sign t hg).2.2 w h1).2.2 c h2)
theorem sep_len {sep : List Nat} : ∀ (ws : List (List Nat)), (TL.joinL sep ws).length ≤ (ws.map fun w => w.length + sep.length).sum
  | [] => by simp [TL.joinL]
  | [p] => by simp [TL.joinL]
  | p :: q :: r => by
    have := sep_len (sep := sep) (q :: r)
    rw [TL.joinL, List.length_append, List.length_append, List.map_cons, List.sum_cons]
    omega
theorem txt_len : ∀ (n : Nat) (t : Tr), t.dep ≤ n → t.good → t.txt.length + 2 ≤ 40 * t.siz
  | 0, t, h, _ => by have := dep_pos t; omega
  | n + 1, t, h, hg => by
    have h1 := hd_len t hg
    have h2 := siz_parts t
    by_cases hp : t.parts = []
    · rw [txt_leaf t hg.1 hp]; omega
    · rw [txt_in t hp]
      have ih : ∀ p ∈ t.parts, p.txt.length + 2 ≤ 40 * p.siz := fun p hp => txt_len n p (by have := dep_part hp; omega) (good_part hg hp)
      have h3 := sep_len (sep := [59, 32]) (t.parts.map Tr.txt)
      have h4 : ∀ ps : List Tr, (∀ p ∈ ps, p.txt.length + 2 ≤ 40 * p.siz) → ((ps.map Tr.txt).map fun w => w.length + [59, 32].length).sum ≤ 40 * Tr.sizL ps := by
        intro ps
        induction ps with
        | nil => intro _; simp
        | cons q ps ih =>
          intro h
          have h1 := h q (by simp)
          have h2 := ih fun p hp => h p (List.mem_cons_of_mem _ hp)
          rw [List.map_cons, List.map_cons, List.sum_cons, Tr.sizL]
          simp only [List.length_cons, List.length_nil] at h2 ⊢
          omega
      have h5 := h4 _ ih
      rw [List.length_append, List.length_cons, List.length_append, List.length_cons, List.length_nil]
      omega
theorem strs_txt : ∀ ps : List Tr, strsOf (ps.map fun p => PyData.str (S p.txt)) = some ((ps.map Tr.txt).map S)
  | [] => rfl
  | p :: ps => by simp [strsOf, strs_txt ps]
theorem text_of_ok : ∀ (k : Nat) (t : Tr) (st : Sto), t.dep ≤ k → t.dep ≤ 20 → t.siz ≤ 100 → t.good → (R (k + 1)).text_of [.d t.d] st = .ok (.d (.str (S t.txt))) st
  | 0, t, st, h, _, _, _ => by have := dep_pos t; omega
  | k + 1, t, st, h, hk, hz, hg => by
    have hL : LIM = 1000000 := rfl
    show fFun 2 (b_text_of (R (k + 1))) _ _ = _
    unfold b_text_of
    have e1 := parts_of_ok k t st
    have e2 := no_parts t hg.1 (by omega)
    have e3 := head_of_ok k t st hg
    by_cases hp : t.parts = []
    · rw [txt_leaf t hg.1 hp]
      have e4 : decide (t.parts = []) = true := by simpa using hp
      rw [e4] at e2
      clear h hk hz hg hp hL e4
      walk_at "ev"
    · rw [txt_in t hp]
      have e4 : decide (t.parts = []) = false := by simpa using hp
      rw [e4] at e2
      have e5 : compGo (gN 1) fYes (fCall (R (k + 1)).text_of (fCons (fVar 1) fNil)) [some (.d t.d), none] (Tr.dL t.parts) st = .ok (t.parts.map fun p => PyData.str (S p.txt)) st := by
        rw [dL_map]
        refine compGo_map _ _ _ fun p hp => ?_
        have ih := text_of_ok k p st (by have := dep_part hp; omega) (by have := dep_part hp; omega) (by have := siz_part hp; omega) (good_part hg hp)
        clear h hk hz hg hp hL e1 e2 e3 e4
        walk_at "ev"
      have e6 : t.parts.length ≤ LIM := by have := len_siz t; omega
      have b1 := hd_len t hg
      have b2 := txt_len t.dep t (Nat.le_refl _) hg
      rw [txt_in t hp, List.length_append, List.length_cons, List.length_append, List.length_cons, List.length_nil] at b2
      have b3 : ((t.parts.map Tr.txt).map (·.length)).sum + t.parts.length * 2 ≤ 100000 := by
        have ih : ∀ p ∈ t.parts, p.txt.length + 2 ≤ 40 * p.siz := fun p hp => txt_len p.dep p (Nat.le_refl _) (good_part hg hp)
        have : ∀ ps : List Tr, (∀ p ∈ ps, p.txt.length + 2 ≤ 40 * p.siz) → ((ps.map Tr.txt).map (·.length)).sum + ps.length * 2 ≤ 40 * Tr.sizL ps := by
          intro ps
          induction ps with
          | nil => intro _; simp
          | cons q ps ih =>
            intro h
            have h1 := h q (by simp)
            have h2 := ih fun p hp => h p (List.mem_cons_of_mem _ hp)
            rw [List.map_cons, List.map_cons, List.sum_cons, Tr.sizL, List.length_cons]
            omega
        have := this _ ih
        have := siz_parts t
        omega
      have e7 : joinW (.d (.str "; ")) [.d (.list (t.parts.map fun p => PyData.str (S p.txt)))] st = some (.d (.str (S (TL.joinL [59, 32] (t.parts.map Tr.txt)))), st) := by
        unfold joinW
        simp only [view, strs_txt, Option.bind_some]
        have q1 : Str.length (Str.ofString "; ") = 2 := rfl
        rw [SX.lens, q1]
        rw [if_pos (by simp only [List.length_map] at b3 ⊢; omega)]
        rw [show (Str.ofString "; ") = S [59, 32] from rfl]
        show some (W.d (.str (Txt.join (S [59, 32]) ((t.parts.map Tr.txt).map S))), st) = _
        rw [SX.join_S]
      generalize TL.joinL [59, 32] (t.parts.map Tr.txt) = jj at *
      have e8 : Str.length (S t.hd) + Str.length (Str.ofString "(") ≤ LIM := by
        rw [SX.S_len, show Str.length (Str.ofString "(") = 1 from rfl]; omega
      have e9 : Str.length (S t.hd ++ Str.ofString "(") + Str.length (S jj) ≤ LIM := by
        rw [show Str.ofString "(" = S [40] from rfl, SX.S_cat, SX.S_len, SX.S_len, List.length_append]; simp; omega
      have e10 : Str.length (S t.hd ++ Str.ofString "(" ++ S jj) + Str.length (Str.ofString ")") ≤ LIM := by
        rw [show Str.ofString "(" = S [40] from rfl, show Str.ofString ")" = S [41] from rfl, SX.S_cat, SX.S_cat, SX.S_len, SX.S_len, List.length_append, List.length_append]; simp; omega
      have e11 : S t.hd ++ Str.ofString "(" ++ S jj ++ Str.ofString ")" = S (t.hd ++ 40 :: (jj ++ [41])) := by
        rw [show Str.ofString "(" = S [40] from rfl, show Str.ofString ")" = S [41] from rfl, SX.S_cat, SX.S_cat, SX.S_cat]; simp
      clear h hk hz hg hp hL e4 b1 b2 b3
      walk_at "ev"
end FL
set_option Elab.async false
set_option linter.all false
set_option maxRecDepth 100000
set_option maxHeartbeats 2000000
/-! Texts by the law. -/
namespace FL
open PySem L2 FL
local macro_rules | `(tactic| walk_at "ev") => `(tactic| simp only [↓V.v_var, ↓V.v_c, ↓V.v_nil, ↓V.v_cons, ↓V.v_cons1, ↓V.v_cons2, ↓V.v_tup, ↓V.v_tup1, ↓V.v_lst, ↓V.v_lst1, ↓V.v_new, ↓V.v_new1, ↓V.v_bin, ↓V.v_bin1, ↓V.v_bin2, ↓V.v_test, ↓V.v_test1, ↓V.v_chain, ↓V.v_chainX, ↓V.v_chainY, ↓V.v_chainZ, ↓V.v_chainK, ↓V.v_chainT, ↓V.v_chainF, ↓V.v_chain2, ↓V.v_okT, ↓V.v_okF, ↓V.v_okVT, ↓V.v_selK, ↓V.v_and, ↓V.v_or, ↓V.v_notK, ↓V.v_not, ↓V.v_selW, ↓V.v_andV, ↓V.v_orV, ↓V.v_notV2, ↓V.v_notV1, ↓V.v_notV, ↓V.v_if, ↓V.v_yes, ↓V.p2, ↓V.p2S, ↓V.v_sl, ↓V.v_sl1, ↓V.v_sl2, ↓V.v_sl3, ↓V.v_nopart, ↓V.v_part, ↓V.v_part1, ↓V.v_cb, ↓V.v_cb1, ↓V.v_call, ↓V.v_ty, ↓V.v_mt, ↓V.v_mt1, ↓V.v_mtT, ↓V.v_mt2, ↓V.v_mt0, ↓V.v_mt01, ↓V.v_seq, ↓V.v_skip, ↓V.v_ex, ↓V.v_ex1, ↓V.v_ret, ↓V.v_retN, ↓V.v_ifS, ↓V.v_asg, ↓V.v_asg1, ↓V.g_n, ↓V.g_tup, ↓V.v_gs1, ↓V.v_try, ↓V.v_raise, ↓V.v_fun, ↓V.v_for, ↓V.v_for1, ↓V.v_items, ↓V.v_items1, ↓V.v_enum, ↓V.v_enum1, ↓V.v_rng1, ↓V.v_rng11, ↓V.v_rng2, ↓V.v_rng21, ↓V.v_comp1, ↓V.v_comp, ↓V.v_compN1, ↓V.v_compN,
  V.bind_ok, V.bind_ex, V.of_s, V.of2_s, V.ofE_ok, V.ofE_ex, V.ofG_s, V.vR_s, V.sel_t, V.sel_f, V.frzAll_nil, V.frzAll_cons, V.frz1_d, V.frz1_c, V.frzC_l, V.frzC_f, V.toB_b, V.view_d, V.view_c, V.viewC_l, V.viewC_f, V.view_s, V.viewO_d, V.viewO_c, V.add_i, V.add_s, V.add_t, V.add_l, V.sub_i, V.mod_i, V.mul_i, V.gt_i, V.ge_i, V.lt_i, V.le_i, V.eq_i, V.ne_i, V.isn_p, V.isn_n, V.isNo_n, V.isNo_b, V.isNo_i, V.isNo_s, V.isNo_l, V.isNo_t, V.isNo_c, V.ix_w, V.ixV_i, V.ixB_l, V.ixB_t, V.ixB_s, V.at0, V.at1, V.at2, V.at3, V.partV_i, V.sl_l, V.sl_t, V.sl_s, V.len_c, V.len_d, V.len_s, V.lenC_l, V.lenB_l, V.lenB_t, V.lenB_s, V.rd_1, V.isi_w, V.tup_l, V.list_l, V.list_t, V.toI_b, V.toI_i, V.toS_i, V.all_l, V.any_l, V.sum_l, V.ty_c, V.tyC_l, V.ty_l, V.ty_s, V.app_c, V.appC_l, V.ext_c, V.extV_l, V.extC_l, V.seq_nx, V.seq_rt, V.seq_ex, V.seq_bk, V.seq_ct, V.ret_d, V.ret_c, V.retC_l, V.retC_f, V.gtV_t, V.gs_nil, V.gs_cons, V.try_rt, V.try_nx, V.try_ex, V.fun_nx, V.fun_rt, V.fun_ex, V.cut_d, V.one1_1, V.seq_l, V.seq_t, V.rngV_1, V.rngV2_1, V.compR_ok, V.compRN_ok, V.loopG_s, V.loop_nx, V.loop_ct, V.loop_bk, V.loop_rt, V.loop_ex, V.wipe_nil, V.wipe_cons,
  List.map, List.replicate, List.length_cons, List.length_nil, List.cons_append, List.nil_append, List.getElem?_cons_zero, List.getElem?_cons_succ, List.set_cons_zero, List.set_cons_succ, Option.bind_some, Option.map_some, Option.bind_none, Option.map_none, if_true, if_false, ↓reduceIte, Bool.false_eq_true, List.take_length, Bool.or_true, Bool.true_or, Bool.or_false, Bool.false_or, Bool.and_true, Bool.true_and, Bool.and_false, Bool.false_and, Bool.not_true, Bool.not_false, List.length_map, Nat.zero_add, Nat.reduceAdd, Nat.reduceSub, decide_true, decide_false, *])
def shB (g : Fns) : FS := (fAsg (fBin (pure2 addD) (fBin (pure2 addD) (fVar 3) (fBin (pure2 mulD) (fC (.str "; ")) (fCB (rd1 toI) (fCons (fBin (pure2S gtD) (fVar 4) (fC (.int 0))) fNil)))) (fCall g.law_shown (fCons (fVar 5) fNil))) (gN 3))
def shG : FG := gTup 2 (gsCons (gN 4) (gsCons (gN 5) gsNil))
def tails (ps : List Tr) : List Nat := (ps.map fun p => 59 :: 32 :: p.txt).flatten
theorem joinL_tails : ∀ (p : Tr) (ps : List Tr), TL.joinL [59, 32] ((p :: ps).map Tr.txt) = p.txt ++ tails ps
  | p, [] => by simp [TL.joinL, tails]
  | p, q :: ps => by
    have := joinL_tails q ps
    rw [List.map_cons, List.map_cons, TL.joinL, ← List.map_cons, this]
    simp [tails]
theorem loop_step {gg : FG} {f : FS} {p : PyData} {ds : List PyData} {env e e2 : Ev} {st st1 st2 : Sto} (h1 : gg (.d p) env st = some (e, st1)) (h2 : f e st1 = .nx e2 st2) : fLoop gg f (p :: ds) env st = fLoop gg f ds e2 st2 := by
  rw [V.v_loop, h1, V.loopG_s, h2, V.loop_nx]
theorem loop_ret {gg : FG} {f : FS} {p : PyData} {ds : List PyData} {env e : Ev} {st st1 st2 : Sto} {w : W} (h1 : gg (.d p) env st = some (e, st1)) (h2 : f e st1 = .rt w st2) : fLoop gg f (p :: ds) env st = .rt w st2 := by
  rw [V.v_loop, h1, V.loopG_s, h2, V.loop_rt]
theorem sh_body (k : Nat) (a b c : Option W) (st : Sto) (i : Nat) (p : Tr) (acc : List Nat) (hp : (R k).law_shown [.d p.d] st = .ok (.d (.str (S p.txt))) st) (hl : acc.length + p.txt.length + 2 ≤ 100000) :
    shB (R k) [a, b, c, some (.d (.str (S acc))), some (.d (.int (i : Nat))), some (.d p.d)] st = .nx [a, b, c, some (.d (.str (S (acc ++ (if i = 0 then p.txt else 59 :: 32 :: p.txt))))), some (.d (.int (i : Nat))), some (.d p.d)] st := by
  have hL : LIM = 1000000 := rfl
  have l2 : ∀ z, (S z).length = z.length := SX.S_len
  unfold shB
  by_cases hi : i = 0
  · subst hi
    have e1 : decide ((0 : Int) < ((0 : Nat) : Int)) = false := rfl
    have e2 : mulD (.str "; ") (.int 0) = some (.str (S [])) := rfl
    have e3 : Str.length (S acc) + Str.length (S []) ≤ LIM := by rw [l2, l2]; simp; omega
    have e4 : Str.length (S acc ++ S []) + Str.length (S p.txt) ≤ LIM := by rw [SX.S_cat, l2, l2]; simp; omega
    have e5 : S acc ++ S [] ++ S p.txt = S (acc ++ p.txt) := by rw [SX.S_cat, SX.S_cat]; simp
    clear l2 hL hl
    walk_at "ev"
  · have e1 : decide ((0 : Int) < ((i : Nat) : Int)) = true := by simpa using (by omega : (0 : Int) < ((i : Nat) : Int))
    have e2 : mulD (.str "; ") (.int 1) = some (.str (S [59, 32])) := rfl
    have e3 : Str.length (S acc) + Str.length (S [59, 32]) ≤ LIM := by rw [l2, l2]; simp; omega
    have e4 : Str.length (S acc ++ S [59, 32]) + Str.length (S p.txt) ≤ LIM := by rw [SX.S_cat, l2, l2]; simp; omega
    have e5 : S acc ++ S [59, 32] ++ S p.txt = S (acc ++ (59 :: 32 :: p.txt)) := by rw [SX.S_cat, SX.S_cat]; simp
    clear l2 hL hl
    walk_at "ev"
theorem sh_loop (k : Nat) (a b c : Option W) (st : Sto) : ∀ (ps : List Tr) (i : Nat) (acc : List Nat) (x y : Option W), 1 ≤ i → (∀ p ∈ ps, (R k).law_shown [.d p.d] st = .ok (.d (.str (S p.txt))) st) → acc.length + (tails ps).length + 2 ≤ 100000 →
    ∃ x' y', fLoop shG (shB (R k)) (enumD i (Tr.dL ps)) [a, b, c, some (.d (.str (S acc))), x, y] st = .nx [a, b, c, some (.d (.str (S (acc ++ tails ps)))), x', y'] st
  | [], i, acc, x, y, _, _, _ => ⟨x, y, by simp [Tr.dL, enumD, tails, fLoop]⟩
  | p :: ps, i, acc, x, y, hi, hp, hl => by
    have ht : tails (p :: ps) = 59 :: 32 :: p.txt ++ tails ps := by simp [tails]
    rw [ht] at hl ⊢
    simp only [List.length_append, List.length_cons] at hl
    have e1 := sh_body k a b c st i p acc (hp p (by simp)) (by omega)
    rw [if_neg (by omega)] at e1
    obtain ⟨x', y', e2⟩ := sh_loop k a b c st ps (i + 1) (acc ++ 59 :: 32 :: p.txt) (some (.d (.int (i : Nat)))) (some (.d p.d)) (by omega) (fun q hq => hp q (by simp [hq])) (by simp; omega)
    refine ⟨x', y', ?_⟩
    rw [Tr.dL, enumD, loop_step (st1 := st) (e := [a, b, c, some (.d (.str (S acc))), some (.d (.int (i : Nat))), some (.d p.d)]) rfl e1, e2]
    simp
theorem sh_all (k : Nat) (a b c : Option W) (st : Sto) (p : Tr) (ps : List Tr) (x y : Option W) (hp : ∀ q ∈ p :: ps, (R k).law_shown [.d q.d] st = .ok (.d (.str (S q.txt))) st) (hl : (TL.joinL [59, 32] ((p :: ps).map Tr.txt)).length + 4 ≤ 100000) :
    ∃ x' y', fLoop shG (shB (R k)) (enumD 0 (Tr.dL (p :: ps))) [a, b, c, some (.d (.str "")), x, y] st = .nx [a, b, c, some (.d (.str (S (TL.joinL [59, 32] ((p :: ps).map Tr.txt))))), x', y'] st := by
  rw [joinL_tails] at hl ⊢
  rw [List.length_append] at hl
  have e1 := sh_body k a b c st 0 p [] (hp p (by simp)) (by simp; omega)
  rw [if_pos rfl, List.nil_append] at e1
  obtain ⟨x', y', e2⟩ := sh_loop k a b c st ps 1 p.txt (some (.d (.int ((0 : Nat) : Int)))) (some (.d p.d)) (by omega) (fun q hq => hp q (by simp [hq])) (by omega)
  refine ⟨x', y', ?_⟩
  rw [show (Str.ofString "") = S [] from rfl, Tr.dL, enumD, loop_step (st1 := st) (e := [a, b, c, some (.d (.str (S []))), some (.d (.int ((0 : Nat) : Int))), some (.d p.d)]) rfl e1, e2]
theorem law_shown_ok : ∀ (k : Nat) (t : Tr) (st : Sto), t.dep ≤ k → t.siz ≤ 100 → t.good → (R (k + 1)).law_shown [.d t.d] st = .ok (.d (.str (S t.txt))) st
  | 0, t, st, h, _, _ => by have := dep_pos t; omega
  | k + 1, t, st, h, hz, hg => by
    have hL : LIM = 1000000 := rfl
    have b1 := hd_len t hg
    have b2 := txt_len t.dep t (Nat.le_refl _) hg
    have e1 := inner_ok k t st
    by_cases hp : t.parts = []
    · rw [txt_leaf t hg.1 hp, ← ok_take]
      cases t with
      | ask f => cases f <;> rfl
      | set f up => cases f <;> cases up <;> rfl
      | act x n e =>
        have h1 := hg.1.2.1
        have h2 := hg.1.2.2
        rcases (by omega : n = 1 ∨ n = 2 ∨ n = 3 ∨ n = 4) with rfl | rfl | rfl | rfl <;> rcases (show x = "x" ∨ x = "y" ∨ x = "z" ∨ x = "run" from hg.2) with rfl | rfl | rfl | rfl <;> cases e <;> rfl
      | many kk ps => exact absurd hp hg.1.1
      | one kk p => simp [Tr.parts] at hp
      | cnt kk n p => simp [Tr.parts] at hp
      | bes n ps => rw [Tr.parts] at hp; have h1 := hg.1.1; have h2 := hg.1.2.1; rw [hp] at h2; simp at h2; omega
    · have e2 : ∀ p ∈ t.parts, (R (k + 1)).law_shown [.d p.d] st = .ok (.d (.str (S p.txt))) st := fun p hp => law_shown_ok k p st (by have := dep_part hp; omega) (by have := siz_part hp; omega) (good_part hg hp)
      rw [txt_in t hp] at b2 ⊢
      rw [List.length_append, List.length_cons, List.length_append, List.length_cons, List.length_nil] at b2
      obtain ⟨p, ps, hpp⟩ : ∃ p ps, t.parts = p :: ps := by
        cases hq : t.parts with
        | nil => exact absurd hq hp
        | cons p ps => exact ⟨p, ps, rfl⟩
      rw [hpp] at e1 e2 b2 ⊢
      have e3 := fun a b c => sh_all (k + 1) a b c st p ps none none e2 (by omega)
      generalize TL.joinL [59, 32] ((p :: ps).map Tr.txt) = jj at *
      have e8 : Str.length (S t.hd) + Str.length (Str.ofString "(") ≤ LIM := by
        rw [SX.S_len, show Str.length (Str.ofString "(") = 1 from rfl]; omega
      have e9 : Str.length (S t.hd ++ Str.ofString "(") + Str.length (S jj) ≤ LIM := by
        rw [show Str.ofString "(" = S [40] from rfl, SX.S_cat, SX.S_len, SX.S_len, List.length_append]; simp; omega
      have e10 : Str.length (S t.hd ++ Str.ofString "(" ++ S jj) + Str.length (Str.ofString ")") ≤ LIM := by
        rw [show Str.ofString "(" = S [40] from rfl, show Str.ofString ")" = S [41] from rfl, SX.S_cat, SX.S_cat, SX.S_len, SX.S_len, List.length_append, List.length_append]; simp; omega
      have e11 : S t.hd ++ Str.ofString "(" ++ S jj ++ Str.ofString ")" = S (t.hd ++ 40 :: (jj ++ [41])) := by
        rw [show Str.ofString "(" = S [40] from rfl, show Str.ofString ")" = S [41] from rfl, SX.S_cat, SX.S_cat, SX.S_cat]; simp
      show fFun 6 (b_law_shown (R (k + 1))) _ _ = _
      unfold b_law_shown
      change fFun 6 (fSeq _ (fSeq _ (fSeq _ (fSeq _ (fSeq _ (fSeq _ (fSeq _ (fSeq (fFor _ shG (shB (R (k + 1)))) _)))))))) _ _ = _
      clear h hz hL b1 b2 e2
      cases t with
      | ask f => exact absurd rfl hp
      | set f up => exact absurd rfl hp
      | act x n e => exact absurd rfl hp
      | many q qs =>
        rw [Tr.d] at e1 ⊢
        obtain ⟨x', y', e3⟩ := e3 (some (.d (.tuple [.str q.s, .tuple (Tr.dL qs)]))) (some (.d (.str q.s))) (some (.d (.str q.s)))
        have c1 : eqD (.str q.s) (.str "ask") = some (.bool false) := by cases q <;> rfl
        have c2 : eqD (.str q.s) (.str "set") = some (.bool false) := by cases q <;> rfl
        have c3 : eqD (.str q.s) (.str "do") = some (.bool false) := by cases q <;> rfl
        have c4 : inD (.str q.s) (.tuple [.str "again", .str "till", .str "hold", .str "beside"]) = some (.bool false) := by cases q <;> rfl
        have c5 : q.s = S (Tr.many q qs).hd := by cases q <;> rfl
        rw [← c5] at e8 e9 e10 e11
        clear hg hp hpp c5
        walk_at "ev"
      | one q qs => 
        rw [Tr.d] at e1 ⊢
        obtain ⟨x', y', e3⟩ := e3 (some (.d (.tuple [.str q.s, qs.d]))) (some (.d (.str q.s))) (some (.d (.str q.s)))
        have c1 : eqD (.str q.s) (.str "ask") = some (.bool false) := by cases q <;> rfl
        have c2 : eqD (.str q.s) (.str "set") = some (.bool false) := by cases q <;> rfl
        have c3 : eqD (.str q.s) (.str "do") = some (.bool false) := by cases q <;> rfl
        have c4 : inD (.str q.s) (.tuple [.str "again", .str "till", .str "hold", .str "beside"]) = some (.bool false) := by cases q <;> rfl
        have c5 : q.s = S (Tr.one q qs).hd := by cases q <;> rfl
        rw [← c5] at e8 e9 e10 e11
        clear hg hp hpp c5
        walk_at "ev"
      | cnt q n qs =>
        rw [Tr.d] at e1 ⊢
        have c5 : toS (.int (n : Nat)) = some (.str (S [48 + n])) ∧ q.s ++ Str.ofString " " ++ S [48 + n] = S (Tr.cnt q n qs).hd ∧ Str.length q.s + Str.length (Str.ofString " ") ≤ LIM ∧ Str.length (q.s ++ Str.ofString " ") + Str.length (S [48 + n]) ≤ LIM := by
          have h1 := hg.1.1
          have h2 := hg.1.2.1
          rcases (by omega : n = 1 ∨ n = 2 ∨ n = 3 ∨ n = 4) with rfl | rfl | rfl | rfl <;> cases q <;> exact ⟨rfl, rfl, by decide +kernel, by decide +kernel⟩
        obtain ⟨c5, c6, c7, c8⟩ := c5
        obtain ⟨x', y', e3⟩ := e3 (some (.d (.tuple [.str q.s, .int (n : Nat), qs.d]))) (some (.d (.str q.s))) (some (.d (.str (S (Tr.cnt q n qs).hd))))
        have c1 : eqD (.str q.s) (.str "ask") = some (.bool false) := by cases q <;> rfl
        have c2 : eqD (.str q.s) (.str "set") = some (.bool false) := by cases q <;> rfl
        have c3 : eqD (.str q.s) (.str "do") = some (.bool false) := by cases q <;> rfl
        have c4 : inD (.str q.s) (.tuple [.str "again", .str "till", .str "hold", .str "beside"]) = some (.bool true) := by cases q <;> rfl
        clear hg hp hpp
        generalize (Tr.cnt q n qs).hd = hh at *
        walk_at "ev"
      | bes n qs =>
        rw [Tr.d] at e1 ⊢
        have c5 : toS (.int (n : Nat)) = some (.str (S [48 + n])) ∧ Str.ofString "beside" ++ Str.ofString " " ++ S [48 + n] = S (Tr.bes n qs).hd ∧ Str.length (Str.ofString "beside") + Str.length (Str.ofString " ") ≤ LIM ∧ Str.length (Str.ofString "beside" ++ Str.ofString " ") + Str.length (S [48 + n]) ≤ LIM := by
          obtain ⟨h1, h2⟩ := bes_le hg
          rcases (by omega : n = 1 ∨ n = 2 ∨ n = 3) with rfl | rfl | rfl <;> exact ⟨rfl, rfl, by decide +kernel, by decide +kernel⟩
        obtain ⟨c5, c6, c7, c8⟩ := c5
        obtain ⟨x', y', e3⟩ := e3 (some (.d (.tuple [.str "beside", .int (n : Nat), .tuple (Tr.dL qs)]))) (some (.d (.str "beside"))) (some (.d (.str (S (Tr.bes n qs).hd))))
        have c1 : eqD (.str "beside") (.str "ask") = some (.bool false) := rfl
        have c2 : eqD (.str "beside") (.str "set") = some (.bool false) := rfl
        have c3 : eqD (.str "beside") (.str "do") = some (.bool false) := rfl
        have c4 : inD (.str "beside") (.tuple [.str "again", .str "till", .str "hold", .str "beside"]) = some (.bool true) := rfl
        clear hg hp hpp
        generalize (Tr.bes n qs).hd = hh at *
        walk_at "ev"
theorem shown_ok (k : Nat) (t : Tr) (st : Sto) (hd : t.dep ≤ 5) (hz : t.siz ≤ 14) (hg : t.good) : (R (k + 16)).shown [.d t.d] st = .ok (.d (.str (S t.txt))) st := by
  have e1 := need_tree_ok k t st hg.1 hd hz
  have e2 := text_of_ok (k + 14) t st (by omega) (by omega) (by omega) hg
  show fFun 1 (b_shown (R (k + 15))) _ _ = _
  unfold b_shown
  clear hd hz hg
  walk_at "ev"
end FL
set_option Elab.async false
set_option linter.all false
set_option maxRecDepth 100000
set_option maxHeartbeats 2000000
/-! Texts read. -/
namespace FL
open PySem L2 FL
local macro_rules | `(tactic| walk_at "ev") => `(tactic| simp only [↓V.v_var, ↓V.v_c, ↓V.v_nil, ↓V.v_cons, ↓V.v_cons1, ↓V.v_cons2, ↓V.v_tup, ↓V.v_tup1, ↓V.v_lst, ↓V.v_lst1, ↓V.v_new, ↓V.v_new1, ↓V.v_bin, ↓V.v_bin1, ↓V.v_bin2, ↓V.v_test, ↓V.v_test1, ↓V.v_chain, ↓V.v_chainX, ↓V.v_chainY, ↓V.v_chainZ, ↓V.v_chainK, ↓V.v_chainT, ↓V.v_chainF, ↓V.v_chain2, ↓V.v_okT, ↓V.v_okF, ↓V.v_okVT, ↓V.v_selK, ↓V.v_and, ↓V.v_or, ↓V.v_notK, ↓V.v_not, ↓V.v_selW, ↓V.v_andV, ↓V.v_orV, ↓V.v_notV2, ↓V.v_notV1, ↓V.v_notV, ↓V.v_if, ↓V.v_yes, ↓V.p2, ↓V.p2S, ↓V.v_sl, ↓V.v_sl1, ↓V.v_sl2, ↓V.v_sl3, ↓V.v_nopart, ↓V.v_part, ↓V.v_part1, ↓V.v_cb, ↓V.v_cb1, ↓V.v_call, ↓V.v_ty, ↓V.v_mt, ↓V.v_mt1, ↓V.v_mtT, ↓V.v_mt2, ↓V.v_mt0, ↓V.v_mt01, ↓V.v_seq, ↓V.v_skip, ↓V.v_ex, ↓V.v_ex1, ↓V.v_ret, ↓V.v_retN, ↓V.v_ifS, ↓V.v_asg, ↓V.v_asg1, ↓V.g_n, ↓V.g_tup, ↓V.v_gs1, ↓V.v_try, ↓V.v_raise, ↓V.v_fun, ↓V.v_for, ↓V.v_for1, ↓V.v_items, ↓V.v_items1, ↓V.v_enum, ↓V.v_enum1, ↓V.v_rng1, ↓V.v_rng11, ↓V.v_rng2, ↓V.v_rng21, ↓V.v_comp1, ↓V.v_comp, ↓V.v_compN1, ↓V.v_compN,
  V.bind_ok, V.bind_ex, V.of_s, V.of2_s, V.ofE_ok, V.ofE_ex, V.ofG_s, V.vR_s, V.sel_t, V.sel_f, V.frzAll_nil, V.frzAll_cons, V.frz1_d, V.frz1_c, V.frzC_l, V.frzC_f, V.toB_b, V.view_d, V.view_c, V.viewC_l, V.viewC_f, V.view_s, V.viewO_d, V.viewO_c, V.add_i, V.add_s, V.add_t, V.add_l, V.sub_i, V.mod_i, V.mul_i, V.gt_i, V.ge_i, V.lt_i, V.le_i, V.eq_i, V.ne_i, V.isn_p, V.isn_n, V.isNo_n, V.isNo_b, V.isNo_i, V.isNo_s, V.isNo_l, V.isNo_t, V.isNo_c, V.ix_w, V.ixV_i, V.ixB_l, V.ixB_t, V.ixB_s, V.at0, V.at1, V.at2, V.at3, V.partV_i, V.sl_l, V.sl_t, V.sl_s, V.len_c, V.len_d, V.len_s, V.lenC_l, V.lenB_l, V.lenB_t, V.lenB_s, V.rd_1, V.isi_w, V.tup_l, V.list_l, V.list_t, V.toI_b, V.toI_i, V.toS_i, V.all_l, V.any_l, V.sum_l, V.ty_c, V.tyC_l, V.ty_l, V.ty_s, V.app_c, V.appC_l, V.ext_c, V.extV_l, V.extC_l, V.seq_nx, V.seq_rt, V.seq_ex, V.seq_bk, V.seq_ct, V.ret_d, V.ret_c, V.retC_l, V.retC_f, V.gtV_t, V.gs_nil, V.gs_cons, V.try_rt, V.try_nx, V.try_ex, V.fun_nx, V.fun_rt, V.fun_ex, V.cut_d, V.one1_1, V.seq_l, V.seq_t, V.rngV_1, V.rngV2_1, V.compR_ok, V.compRN_ok, V.loopG_s, V.loop_nx, V.loop_ct, V.loop_bk, V.loop_rt, V.loop_ex, V.wipe_nil, V.wipe_cons,
  List.map, List.replicate, List.length_cons, List.length_nil, List.cons_append, List.nil_append, List.getElem?_cons_zero, List.getElem?_cons_succ, List.set_cons_zero, List.set_cons_succ, Option.bind_some, Option.map_some, Option.bind_none, Option.map_none, if_true, if_false, ↓reduceIte, Bool.false_eq_true, List.take_length, Bool.or_true, Bool.true_or, Bool.or_false, Bool.false_or, Bool.and_true, Bool.true_and, Bool.and_false, Bool.false_and, Bool.not_true, Bool.not_false, List.length_map, Nat.zero_add, Nat.reduceAdd, Nat.reduceSub, decide_true, decide_false, *])
theorem at_mid {α : Type} (a : List α) (c : α) (r : List α) : atI (a ++ c :: r) ((a.length : Nat) : Int) = some c := V.at_nat _ _ _ (by simp)
theorem cut_mid (a m r : List Nat) : cutS (S (a ++ m ++ r)) (some ((a.length : Nat) : Int)) (some ((a.length + m.length : Nat) : Int)) = S m := by
  unfold cutS
  have h1 : Str.length (S (a ++ m ++ r)) = (a ++ m ++ r).length := SX.S_len _
  rw [HT.sIx_nat, HT.sIx_nat, h1]
  have h2 : (S (a ++ m ++ r)).cps.toList = a ++ m ++ r := rfl
  rw [h2, Nat.min_eq_left (by simp), Nat.min_eq_left (by simp), List.append_assoc, List.drop_left, show a.length + m.length - a.length = m.length by omega, List.take_left]
def brk (c : Nat) : Bool := c == 40 || c == 41 || c == 59
theorem nin_brk (c : Nat) : ninD (.str ⟨#[c]⟩) (.str "();") = some (.bool (!brk c)) := by
  have h : (Str.ofString "();").cps.toList = [40, 41, 59] := rfl
  show some (PyData.bool (!decide (c ∈ (Str.ofString "();").cps.toList))) = _
  rw [h]
  have : decide (c ∈ [40, 41, 59]) = brk c := by
    unfold brk
    by_cases h1 : c = 40 <;> by_cases h2 : c = 41 <;> by_cases h3 : c = 59 <;> simp [h1, h2, h3]
  rw [this]
def rpC : FT := (fAnd (fTest (fBin (pure2S ltD) (fVar 3) (fCB lenW (fCons (fVar 0) fNil)))) (fTest (fBin (pure2S ninD) (fBin ixW (fVar 0) (fVar 3)) (fC (.str "();")))))
def rpB : FS := (fAsg (fBin (pure2 addD) (fVar 3) (fC (.int 1))) (gN 3))
theorem scan_ok (e1 e2 : Option W) (es : Ev) (st : Sto) (r : List Nat) (hr : r = [] ∨ ∃ c r', r = c :: r' ∧ brk c = true) : ∀ (m a : List Nat) (n : Nat), m.length < n → (∀ c ∈ m, brk c = false) → (a ++ m ++ r).length ≤ LIM →
    fWhile n rpC rpB (some (.d (.str (S (a ++ m ++ r)))) :: e1 :: e2 :: some (.d (.int ((a.length : Nat) : Int))) :: es) st = .nx (some (.d (.str (S (a ++ m ++ r)))) :: e1 :: e2 :: some (.d (.int ((a.length + m.length : Nat) : Int))) :: es) st
  | [], a, n + 1, _, _, hl => by
    refine while_stop ?_
    have l1 : (S (a ++ [] ++ r)).length = (a ++ [] ++ r).length := SX.S_len _
    have l2 : (S (a ++ [] ++ r)).cps.toList = a ++ [] ++ r := rfl
    unfold rpC
    rcases hr with rfl | ⟨c, r', rfl, hc⟩
    · have d1 : decide (((a.length : Nat) : Int) < (((a ++ [] ++ []).length : Nat) : Int)) = false := by simp
      generalize a ++ [] ++ [] = T at *
      walk_at "ev"
    · have d1 : decide (((a.length : Nat) : Int) < (((a ++ [] ++ c :: r').length : Nat) : Int)) = true := by simp; omega
      have d2 : atI (a ++ [] ++ c :: r') ((a.length : Nat) : Int) = some c := by rw [List.append_nil]; exact at_mid a c r'
      have d3 := nin_brk c
      generalize a ++ [] ++ c :: r' = T at *
      walk_at "ev"
  | c :: m, a, n + 1, hn, hm, hl => by
    have l1 : (S (a ++ c :: m ++ r)).length = (a ++ c :: m ++ r).length := SX.S_len _
    have l2 : (S (a ++ c :: m ++ r)).cps.toList = a ++ c :: m ++ r := rfl
    have d1 : decide (((a.length : Nat) : Int) < (((a ++ c :: m ++ r).length : Nat) : Int)) = true := by simp; omega
    have d2 : atI (a ++ c :: m ++ r) ((a.length : Nat) : Int) = some c := by rw [List.append_assoc]; exact at_mid a c (m ++ r)
    have d3 := nin_brk c
    have d4 := hm c (by simp)
    have ih := scan_ok e1 e2 es st r hr m (a ++ [c]) n (by simp at hn; omega) (fun x hx => hm x (by simp [hx])) (by simpa [Nat.add_assoc] using hl)
    rw [show a ++ [c] ++ m ++ r = a ++ c :: m ++ r by simp, show (a ++ [c]).length = a.length + 1 by simp] at ih
    rw [show a.length + (c :: m).length = a.length + 1 + m.length by simp; omega, ← ih]
    have d5 : ((a.length : Nat) : Int) + 1 = ((a.length + 1 : Nat) : Int) := by omega
    generalize a ++ c :: m ++ r = T at *
    clear hr hm hn ih
    refine while_step (st1 := st) ?_ ?_
    · unfold rpC
      walk_at "ev"
    · unfold rpB
      walk_at "ev"

theorem split_hd (t : Tr) (hg : t.good) (st : Sto) : splitW (.d (.str (S t.hd))) [.d (.str " ")] st = some (.d (.list (t.wds.map fun w => PyData.str (S w))), st) := by
  have hL : LIM = 1000000 := rfl
  have h1 := hd_len t hg
  unfold splitW
  have l1 : (S t.hd).length = t.hd.length := SX.S_len _
  have c : (Str.length (Str.ofString " ") == 0) = false ∧ Str.length (S t.hd) ≤ LIM := ⟨rfl, by omega⟩
  simp only [c, and_self, if_true]
  have e : Txt.split (S t.hd) (Str.ofString " ") = t.wds.map S := by
    rw [show Str.ofString " " = S [32] from rfl, SX.split_S (by simp) (by decide)]
    unfold Tr.hd
    rw [TL.spl_join (wds_sign t hg).1 fun w hw h32 => by
      rcases ((wds_sign t hg).2.2 w hw).2.2 32 h32 with h | h
      · omega
      · unfold ltr at h; omega]
  rw [e, List.map_map]
  rfl
theorem number_ok (k n : Nat) (st : Sto) (h : n ≤ 9) : (R (k + 1)).number [.d (.str (S [48 + n]))] st = .ok (.d (.int (n : Nat))) st := by
  have hL : LIM = 1000000 := rfl
  have l1 : (S [48 + n]).length = 1 := SX.S_len _
  have e1 : neD (.int ((1 : Nat) : Int)) (.int 1) = some (.bool false) := rfl
  have e2 : ninD (.str (S [48 + n])) (.str "0123456789") = some (.bool false) := by
    show some (PyData.bool (!decide ((48 + n) ∈ (Str.ofString "0123456789").cps.toList))) = _
    have : (Str.ofString "0123456789").cps.toList = [48, 49, 50, 51, 52, 53, 54, 55, 56, 57] := rfl
    rw [this]
    have : (48 + n) ∈ [48, 49, 50, 51, 52, 53, 54, 55, 56, 57] := by simp; omega
    simp [this]
  have e3 : toI (.str (S [48 + n])) = some (.int (n : Nat)) := by
    have e := SX.int_S (a := [48 + n]) (by simp; omega) (by simp) (by simp)
    have v : NumText.digitsVal [48 + n] = n := by
      simp [NumText.digitsVal]
    rw [v] at e
    show (if (S [48 + n]).length ≤ 640 then Option.map PyData.int (intText? (S [48 + n])) else none) = _
    rw [if_pos (by omega), e]
    rfl
  have e4 : 1 ≤ LIM := by omega
  show fFun 1 (b_number (R k)) _ _ = _
  unfold b_number
  clear hL h
  walk_at "ev"
theorem leaf_of_ok (k : Nat) (t : Tr) (hg : t.good) (hp : t.parts = []) (st : Sto) : (R (k + 2)).leaf_of [.d (.list (t.wds.map fun w => PyData.str (S w)))] st = .ok (.d t.d) st := by
  cases t with
  | ask f => rw [← ok_take]; cases f <;> rfl
  | set f up => rw [← ok_take]; cases f <;> cases up <;> rfl
  | act x n e =>
    have e0 : (R (k + 1)).number [.d (.str (S [48 + n]))] st = .ok (.d (.int (n : Nat))) st := number_ok k n st (by have := hg.1.2.2; omega)
    have e1 : S (wl x) = x := SX.S_tl x
    have e2 : S (wl (yn e)) = yn e := SX.S_tl _
    have e3 : S (wl (Str.ofString "do")) = Str.ofString "do" := SX.S_tl _
    have e4 : eqD (.str "do") (.str "ask") = some (.bool false) := rfl
    have e5 : eqD (.str "do") (.str "set") = some (.bool false) := rfl
    have e6 : eqD (.str "do") (.str "do") = some (.bool true) := rfl
    have e7 : eqD (.int ((0 + 1 + 1 + 1 + 1 : Nat) : Int)) (.int 4) = some (.bool true) := rfl
    show fFun 1 (b_leaf_of (R (k + 1))) _ _ = _
    unfold b_leaf_of Tr.wds
    simp only [List.map_cons, List.map_nil, e1, e2, e3]
    rw [Tr.d]
    clear hg hp e1 e2 e3
    walk_at "ev"
  | many kk ps => exact absurd hp hg.1.1
  | one kk p => simp [Tr.parts] at hp
  | cnt kk n p => simp [Tr.parts] at hp
  | bes n ps => rw [Tr.parts] at hp; have h1 := hg.1.1; have h2 := hg.1.2.1; rw [hp] at h2; simp at h2; omega
theorem part_of_ok (k : Nat) (t : Tr) (hg : t.good) (hp : t.parts ≠ []) (st : Sto) (l : Nat) (hl : st[l]? = some (.lst (Tr.dL t.parts))) : (R (k + 2)).part_of [.d (.str (S t.hd)), .c l] st = .ok (.d t.d) st := by
  have e1 := split_hd t hg st
  have n1 : ∀ n : Nat, n = 1 ∨ n = 2 ∨ n = 3 ∨ n = 4 → (R (k + 1)).number [.d (.str (S [48 + n]))] st = .ok (.d (.int (n : Nat))) st := by
    intro n h
    exact number_ok k n st (by omega)
  have q1 : eqD (.int ((0 + 1 : Nat) : Int)) (.int 1) = some (.bool true) := rfl
  have q2 : neD (.int ((0 + 1 + 1 : Nat) : Int)) (.int 2) = some (.bool false) := rfl
  show fFun 3 (b_part_of (R (k + 1))) _ _ = _
  unfold b_part_of
  cases t with
  | ask f => exact absurd rfl hp
  | set f up => exact absurd rfl hp
  | act x n e => exact absurd rfl hp
  | many q ps =>
    have c1 : S (Tr.many q ps).hd = q.s := by cases q <;> rfl
    have c2 : inD (.str q.s) (.tuple [.str "row", .str "choice", .str "row anew", .str "choice anew"]) = some (.bool true) := by cases q <;> rfl
    rw [c1] at e1 ⊢
    rw [Tr.parts] at hl
    rw [Tr.d]
    generalize (Tr.many q ps).wds = ws at *
    clear c1 hg hp n1
    walk_at "ev"
  | one q p =>
    have c1 : S (Tr.one q p).hd = q.s := by cases q <;> rfl
    have c2 : inD (.str q.s) (.tuple [.str "row", .str "choice", .str "row anew", .str "choice anew"]) = some (.bool false) := by cases q <;> rfl
    have c3 : inD (.str q.s) (.tuple [.str "not", .str "yes", .str "no", .str "keep"]) = some (.bool true) := by cases q <;> rfl
    rw [c1] at e1 ⊢
    rw [Tr.parts, Tr.dL, Tr.dL] at hl
    rw [Tr.d]
    generalize (Tr.one q p).wds = ws at *
    clear c1 hg hp n1
    walk_at "ev"
  | cnt q n p =>
    have hn : n = 1 ∨ n = 2 ∨ n = 3 ∨ n = 4 := by
      have h1 := hg.1.1
      have h2 := hg.1.2.1
      omega
    have e2 := n1 n hn
    have c0 : inD (.str (S (Tr.cnt q n p).hd)) (.tuple [.str "row", .str "choice", .str "row anew", .str "choice anew"]) = some (.bool false) ∧ inD (.str (S (Tr.cnt q n p).hd)) (.tuple [.str "not", .str "yes", .str "no", .str "keep"]) = some (.bool false) := by
      rcases hn with rfl | rfl | rfl | rfl <;> cases q <;> exact ⟨rfl, rfl⟩
    obtain ⟨c2, c3⟩ := c0
    have c4 : inD (.str q.s) (.tuple [.str "again", .str "till", .str "hold"]) = some (.bool true) := by cases q <;> rfl
    have e3 : S (wl q.s) = q.s := SX.S_tl _
    unfold Tr.wds at e1
    simp only [List.map_cons, List.map_nil, e3] at e1
    rw [Tr.parts, Tr.dL, Tr.dL] at hl
    rw [Tr.d]
    generalize (Tr.cnt q n p).hd = hh at *
    clear hg hp n1 hn e3
    walk_at "ev"
  | bes n ps =>
    have hn : n = 1 ∨ n = 2 ∨ n = 3 ∨ n = 4 := by
      obtain ⟨h1, h2⟩ := bes_le hg
      omega
    have e2 := n1 n hn
    have c0 : inD (.str (S (Tr.bes n ps).hd)) (.tuple [.str "row", .str "choice", .str "row anew", .str "choice anew"]) = some (.bool false) ∧ inD (.str (S (Tr.bes n ps).hd)) (.tuple [.str "not", .str "yes", .str "no", .str "keep"]) = some (.bool false) := by
      rcases hn with rfl | rfl | rfl | rfl <;> exact ⟨rfl, rfl⟩
    obtain ⟨c2, c3⟩ := c0
    have c4 : inD (.str "beside") (.tuple [.str "again", .str "till", .str "hold"]) = some (.bool false) := rfl
    have c5 : eqD (.str "beside") (.str "beside") = some (.bool true) := rfl
    have e3 : S (wl "beside") = "beside" := SX.S_tl _
    unfold Tr.wds at e1
    simp only [List.map_cons, List.map_nil, e3] at e1
    rw [Tr.parts] at hl
    rw [Tr.d]
    generalize (Tr.bes n ps).hd = hh at *
    clear hg hp n1 hn e3
    walk_at "ev"

/-! the row of parts -/
def rqB (g : Fns) : FS := (fSeq (fAsg (fCall g.read_part (fCons (fVar 0) (fCons (fVar 7) (fCons (fBin (pure2S subD) (fVar 2) (fC (.int 1))) fNil)))) (gN 8))
  (fSeq (fIfS (fTest (fBin (isNW false) (fVar 8) (fC .none))) (fRet (fC .none)) fSkip)
  (fSeq (fEx (fMt "list" appW (fVar 6) (fCons (fBin ixW (fVar 8) (fC (.int 0))) fNil)))
  (fSeq (fAsg (fBin ixW (fVar 8) (fC (.int 1))) (gN 7))
  (fSeq (fIfS (fTest (fBin (pure2S eqD) (fSl (fVar 0) (fPart (fVar 7)) (fPart (fBin (pure2 addD) (fVar 7) (fC (.int 1))))) (fC (.str ")")))) (fSeq (fAsg (fCall g.part_of (fCons (fVar 4) (fCons (fVar 6) fNil))) (gN 9))
  (fRet (fIf (fTest (fBin (isNW false) (fVar 9) (fC .none))) (fC .none) (fTup (fCons (fVar 9) (fCons (fBin (pure2 addD) (fVar 7) (fC (.int 1))) fNil)))))) fSkip)
  (fSeq (fIfS (fTest (fBin (pure2S neD) (fSl (fVar 0) (fPart (fVar 7)) (fPart (fBin (pure2 addD) (fVar 7) (fC (.int 2))))) (fC (.str "; ")))) (fRet (fC .none)) fSkip)
  (fAsg (fBin (pure2 addD) (fVar 7) (fC (.int 2))) (gN 7))))))))
theorem while_ret {ft : FT} {fb : FS} {env : Ev} {st st1 st2 : Sto} {n : Nat} {w : W} (h1 : ft env st = .ok true st1) (h2 : fb env st1 = .rt w st2) : fWhile (n + 1) ft fb env st = .rt w st2 := by
  simp only [fWhile, h1, RS.ofE, if_true, h2]
theorem isNo_t (t : Tr) : isNo (.d t.d) = false := by cases t <;> rfl
theorem snoc_at {st : Sto} {c : C} : (st ++ [c])[st.length]? = some c := by simp
theorem snoc_set {st : Sto} {c d : C} : (st ++ [c]).set st.length d = st ++ [d] := by simp
theorem snoc_take {st : Sto} {c : C} : (st ++ [c]).take st.length = st := by simp
theorem dL_app : ∀ a b : List Tr, Tr.dL (a ++ b) = Tr.dL a ++ Tr.dL b
  | [], b => rfl
  | p :: a, b => by simp [Tr.dL, dL_app a b]
/-- a row of parts from here on, then the bracket -/
theorem row_ok (k d : Nat) (t : Tr) (hg : t.good) (T : List Nat) (hT : T.length ≤ LIM) (hln : t.parts.length < LIM) (st : Sto) (e1 e3 e5 : Option W)
    (ih : ∀ p ∈ t.parts, ∀ (a r : List Nat), T = a ++ p.txt ++ r → (r = [] ∨ ∃ c r', r = c :: r' ∧ (c = 41 ∨ c = 59)) → ∀ st', (R (k + 2)).read_part [.d (.str (S T)), .d (.int (a.length : Nat)), .d (.int (d : Nat))] st' = .ok (.d (.tuple [p.d, .int ((a.length + p.txt.length : Nat) : Int)])) st') :
    ∀ (ps done : List Tr) (n : Nat) (a r : List Nat) (x8 x9 : Option W), ps ≠ [] → t.parts = done ++ ps → ps.length < n → T = a ++ TL.joinL [59, 32] (ps.map Tr.txt) ++ 41 :: r →
    ∃ st', fWhile n (fTest (fC (.bool true))) (rqB (R (k + 2))) [some (.d (.str (S T))), e1, some (.d (.int ((d + 1 : Nat) : Int))), e3, some (.d (.str (S t.hd))), e5, some (.c st.length), some (.d (.int (a.length : Nat))), x8, x9] (st ++ [.lst (Tr.dL done)]) = .rt (.d (.tuple [t.d, .int ((a.length + (TL.joinL [59, 32] (ps.map Tr.txt)).length + 1 : Nat) : Int)])) (st ++ [st'])
  | [], _, _, _, _, _, _, h, _, _, _ => absurd rfl h
  | p :: ps, done, n + 1, a, r, x8, x9, _, hpp, hn, hTT => by
    have hm : p ∈ t.parts := by rw [hpp]; simp
    have ed : ((d + 1 : Nat) : Int) - 1 = ((d : Nat) : Int) := by omega
    have c1 : ∀ c, ((st : Sto) ++ [c])[st.length]? = some c := fun c => snoc_at
    have c2 : ∀ c d : C, ((st : Sto) ++ [c]).set st.length d = st ++ [d] := fun c d => snoc_set
    have hdl : (Tr.dL done).length < LIM := by rw [dL_len]; rw [hpp] at hln; simp at hln; omega
    have hno := isNo_t p
    have hS : Str.length (S T) ≤ LIM := by rw [SX.S_len]; exact hT
    have tt : ∀ (b : Nat) (s : List Nat), isNo (.d (.tuple [p.d, .int ((b : Nat) : Int)])) = false := fun _ _ => rfl
    rw [joinL_tails] at hTT ⊢
    cases ps with
    | nil =>
      have i1 := ih p hm a (41 :: r) (by rw [hTT]; simp [tails]) (.inr ⟨41, r, rfl, .inl rfl⟩) (st ++ [.lst (Tr.dL done)])
      have hpa : t.parts = done ++ [p] := hpp
      have i2 := part_of_ok k t hg (by rw [hpa]; simp) (st ++ [.lst (Tr.dL done ++ [p.d])]) st.length (by rw [snoc_at, hpa, dL_app]; rfl)
      refine ⟨.lst (Tr.dL done ++ [p.d]), ?_⟩
      have hno2 := isNo_t t
      have s1 : cutS (S T) (some ((a.length + p.txt.length : Nat) : Int)) (some (((a.length + p.txt.length : Nat) : Int) + 1)) = S [41] := by
        have := cut_mid (a ++ p.txt) [41] r
        rw [show a ++ p.txt ++ [41] ++ r = T by rw [hTT]; simp [tails], List.length_append] at this
        exact this
      have s2 : eqD (.str (S [41])) (.str ")") = some (.bool true) := rfl
      have s3 : ((a.length + p.txt.length : Nat) : Int) + 1 = ((a.length + (p.txt ++ tails []).length + 1 : Nat) : Int) := by simp [tails]
      refine while_ret (st1 := st ++ [.lst (Tr.dL done)]) rfl ?_
      rw [← s3]
      clear ih hTT hpp hpa hn hln hT hm hg s3
      generalize t.hd = hh at *
      generalize a.length + p.txt.length = z at *
      unfold rqB
      walk_at "ev"
    | cons q qs =>
      have i1 := ih p hm a (59 :: 32 :: (q.txt ++ tails qs ++ 41 :: r)) (by rw [hTT]; simp [tails]) (.inr ⟨59, _, rfl, .inr rfl⟩) (st ++ [.lst (Tr.dL done)])
      obtain ⟨st', i2⟩ := row_ok k d t hg T hT hln st e1 e3 e5 ih (q :: qs) (done ++ [p]) n (a ++ p.txt ++ [59, 32]) r (some (.d (.tuple [p.d, .int ((a.length + p.txt.length : Nat) : Int)]))) x9 (by simp) (by rw [hpp]; simp) (by simp at hn ⊢; omega) (by rw [hTT, joinL_tails]; simp [tails])
      refine ⟨st', ?_⟩
      have s1 : cutS (S T) (some ((a.length + p.txt.length : Nat) : Int)) (some (((a.length + p.txt.length : Nat) : Int) + 1)) = S [59] := by
        have := cut_mid (a ++ p.txt) [59] (32 :: (q.txt ++ tails qs ++ 41 :: r))
        rw [show a ++ p.txt ++ [59] ++ (32 :: (q.txt ++ tails qs ++ 41 :: r)) = T by rw [hTT]; simp [tails], List.length_append] at this
        exact this
      have s2 : eqD (.str (S [59])) (.str ")") = some (.bool false) := rfl
      have s4 : cutS (S T) (some ((a.length + p.txt.length : Nat) : Int)) (some (((a.length + p.txt.length : Nat) : Int) + 2)) = S [59, 32] := by
        have := cut_mid (a ++ p.txt) [59, 32] (q.txt ++ tails qs ++ 41 :: r)
        rw [show a ++ p.txt ++ [59, 32] ++ (q.txt ++ tails qs ++ 41 :: r) = T by rw [hTT]; simp [tails], List.length_append] at this
        exact this
      have s5 : neD (.str (S [59, 32])) (.str "; ") = some (.bool false) := rfl
      have s3 : ((a.length + p.txt.length : Nat) : Int) + 2 = (((a ++ p.txt ++ [59, 32]).length : Nat) : Int) := by simp; omega
      have s6 : (a ++ p.txt ++ [59, 32]).length + (TL.joinL [59, 32] ((q :: qs).map Tr.txt)).length = a.length + (p.txt ++ tails (q :: qs)).length := by rw [joinL_tails]; simp [tails]; omega
      have s7 : Tr.dL (done ++ [p]) = Tr.dL done ++ [p.d] := by rw [dL_app]; rfl
      rw [s6, s7, ← s3] at i2
      rw [← i2]
      clear ih hTT hpp hn hln hT hm hg i2 s6 s7 s3
      generalize t.hd = hh at *
      generalize a.length + p.txt.length = z at *
      refine while_step (st1 := st ++ [.lst (Tr.dL done)]) rfl ?_
      unfold rqB
      walk_at "ev"

theorem hd_brk (t : Tr) (hg : t.good) : ∀ c ∈ t.hd, brk c = false := fun c hc => by
  have := hd_sign t hg c hc
  unfold ltr at this
  unfold brk
  simp
  omega
theorem read_part_ok : ∀ (d k : Nat) (t : Tr) (st : Sto) (T a r : List Nat), t.dep ≤ d + 1 → t.good → t.siz ≤ 1000 → T.length ≤ LIM → T = a ++ t.txt ++ r → (r = [] ∨ ∃ c r', r = c :: r' ∧ (c = 41 ∨ c = 59)) →
    (R (k + d + 3)).read_part [.d (.str (S T)), .d (.int (a.length : Nat)), .d (.int (d : Nat))] st = .ok (.d (.tuple [t.d, .int ((a.length + t.txt.length : Nat) : Int)])) st := by
  intro d k t st T a r hd hg hz hT hTT hr
  have hL : LIM = 1000000 := rfl
  have hdl := hd_len t hg
  have hS : Str.length (S T) = T.length := SX.S_len _
  have hS2 : (S T).cps.toList = T := rfl
  show fFun 10 (b_read_part (R (k + d + 2))) _ _ = _
  unfold b_read_part
  change fFun 10 (fSeq _ (fSeq (fWhile WH rpC rpB) (fSeq _ (fSeq _ (fSeq _ (fSeq _ (fSeq _ (fWhile WH _ (rqB (R (k + d + 2)))))))))))  _ _ = _
  by_cases hp : t.parts = []
  · rw [txt_leaf t hg.1 hp] at hTT ⊢
    have w1 := scan_ok (some (.d (.int (a.length : Nat)))) (some (.d (.int (d : Nat)))) [none, none, none, none, none, none] st r (by
      rcases hr with h | ⟨c, r', h, hc⟩
      · exact .inl h
      · exact .inr ⟨c, r', h, by unfold brk; rcases hc with rfl | rfl <;> rfl⟩) t.hd a WH (by have : WH = 4000 := rfl; omega) (hd_brk t hg) (by rw [← hTT]; exact hT)
    rw [← hTT] at w1
    have w2 : cutS (S T) (some ((a.length : Nat) : Int)) (some ((a.length + t.hd.length : Nat) : Int)) = S t.hd := by rw [hTT]; exact cut_mid _ _ _
    have w3 := split_hd t hg st
    have w4 := leaf_of_ok (k + d) t hg hp st
    have w5 := isNo_t t
    generalize fWhile WH rpC rpB = wh1 at *
    generalize fWhile WH (fTest (fC (.bool true))) (rqB (R (k + d + 2))) = wh2 at *
    rcases hr with rfl | ⟨c, r', rfl, hc⟩
    · have w6 : eqD (.int ((a.length + t.hd.length : Nat) : Int)) (.int ((T.length : Nat) : Int)) = some (.bool true) := by
        rw [eqI, hTT]
        simp
      generalize t.hd = hh at *
      generalize t.wds = ww at *
      generalize a.length + hh.length = z at *
      clear hTT hd hg hz hp hdl hL
      walk_at "ev"
    · have w6 : eqD (.int ((a.length + t.hd.length : Nat) : Int)) (.int ((T.length : Nat) : Int)) = some (.bool false) := by
        rw [eqI, hTT]
        have : ¬ (((a.length + t.hd.length : Nat) : Int) = ((a ++ t.hd ++ c :: r').length : Nat)) := by simp; omega
        simp only [this, decide_false]
      have w7 : atI T ((a.length + t.hd.length : Nat) : Int) = some c := by
        rw [hTT, ← List.length_append]
        exact at_mid _ _ _
      have w8 : neD (.str ⟨#[c]⟩) (.str "(") = some (.bool true) := by rcases hc with rfl | rfl <;> rfl
      generalize t.hd = hh at *
      generalize t.wds = ww at *
      generalize a.length + hh.length = z at *
      clear hTT hd hg hz hp hdl hL hc
      walk_at "ev"
  · rw [txt_in t hp] at hTT ⊢
    obtain ⟨d, rfl⟩ : ∃ e, d = e + 1 := ⟨d - 1, by
      cases hq : t.parts with
      | nil => exact absurd hq hp
      | cons p ps =>
        have h1 := dep_part (t := t) (p := p) (by rw [hq]; simp)
        have h2 := dep_pos p
        omega⟩
    generalize hJ : TL.joinL [59, 32] (t.parts.map Tr.txt) = J at *
    have w1 := scan_ok (some (.d (.int (a.length : Nat)))) (some (.d (.int ((d + 1 : Nat) : Int)))) [none, none, none, none, none, none] st (40 :: (J ++ [41] ++ r)) (.inr ⟨40, _, rfl, rfl⟩) t.hd a WH (by have : WH = 4000 := rfl; omega) (hd_brk t hg) (by rw [show a ++ t.hd ++ 40 :: (J ++ [41] ++ r) = T by rw [hTT]; simp]; exact hT)
    rw [show a ++ t.hd ++ 40 :: (J ++ [41] ++ r) = T by rw [hTT]; simp] at w1
    have w2 : cutS (S T) (some ((a.length : Nat) : Int)) (some ((a.length + t.hd.length : Nat) : Int)) = S t.hd := by
      rw [show T = a ++ t.hd ++ 40 :: (J ++ [41] ++ r) by rw [hTT]; simp]
      exact cut_mid _ _ _
    have w6 : eqD (.int ((a.length + t.hd.length : Nat) : Int)) (.int ((T.length : Nat) : Int)) = some (.bool false) := by
      rw [eqI, hTT]
      have : ¬ (((a.length + t.hd.length : Nat) : Int) = ((a ++ (t.hd ++ 40 :: (J ++ [41])) ++ r).length : Nat)) := by simp; omega
      simp only [this, decide_false]
    have w7 : atI T ((a.length + t.hd.length : Nat) : Int) = some 40 := by
      rw [show T = a ++ t.hd ++ 40 :: (J ++ [41] ++ r) by rw [hTT]; simp, ← List.length_append]
      exact at_mid _ _ _
    have w8 : neD (.str ⟨#[40]⟩) (.str "(") = some (.bool false) := rfl
    have w9 : eqD (.int ((d + 1 : Nat) : Int)) (.int 0) = some (.bool false) := by
      rw [eqI]
      have : ¬ (((d + 1 : Nat) : Int) = 0) := by omega
      simp only [this, decide_false]
    have hln : t.parts.length < LIM := by have := len_siz t; omega
    obtain ⟨st', w10⟩ := row_ok (k + d + 1) d t hg T hT hln st (some (.d (.int (a.length : Nat)))) (some (.d (.int ((a.length + t.hd.length : Nat) : Int)))) none
      (fun p hpm a' r' h1 h2 st2 => read_part_ok d k p st2 T a' r' (by have := dep_part hpm; omega) (good_part hg hpm) (by have := siz_part hpm; omega) hT h1 h2)
      t.parts [] WH (a ++ t.hd ++ [40]) r none none hp rfl (by have : WH = 4000 := rfl; have := len_siz t; omega) (by rw [hTT, hJ]; simp)
    rw [hJ] at w10
    have w11 : ((a.length + t.hd.length : Nat) : Int) + 1 = (((a ++ t.hd ++ [40]).length : Nat) : Int) := by simp; omega
    have w12 : (a ++ t.hd ++ [40]).length + J.length + 1 = a.length + (t.hd ++ 40 :: (J ++ [41])).length := by simp; omega
    rw [w12, ← w11] at w10
    have w13 : ∀ c : C, (st ++ [c]).take st.length = st := fun c => by simp
    simp only [Tr.dL] at w10
    generalize fWhile WH rpC rpB = wh1 at *
    generalize fWhile WH (fTest (fC (.bool true))) (rqB (R (k + (d + 1) + 2))) = wh2 at *
    generalize t.hd = hh at *
    generalize a.length + (hh ++ 40 :: (J ++ [41])).length = zz at *
    generalize a.length + hh.length = z at *
    clear hTT hd hg hz hp hdl hL hr hJ w11 w12
    walk_at "ev"
termination_by d => d
end FL
set_option Elab.async false
set_option linter.all false
set_option maxRecDepth 100000
set_option maxHeartbeats 2000000
/-! Trees that are the same. -/
namespace FL
open PySem L2 FL
local macro_rules | `(tactic| walk_at "ev") => `(tactic| simp only [↓V.v_var, ↓V.v_c, ↓V.v_nil, ↓V.v_cons, ↓V.v_cons1, ↓V.v_cons2, ↓V.v_tup, ↓V.v_tup1, ↓V.v_lst, ↓V.v_lst1, ↓V.v_new, ↓V.v_new1, ↓V.v_bin, ↓V.v_bin1, ↓V.v_bin2, ↓V.v_test, ↓V.v_test1, ↓V.v_chain, ↓V.v_chainX, ↓V.v_chainY, ↓V.v_chainZ, ↓V.v_chainK, ↓V.v_chainT, ↓V.v_chainF, ↓V.v_chain2, ↓V.v_okT, ↓V.v_okF, ↓V.v_okVT, ↓V.v_selK, ↓V.v_and, ↓V.v_or, ↓V.v_notK, ↓V.v_not, ↓V.v_selW, ↓V.v_andV, ↓V.v_orV, ↓V.v_notV2, ↓V.v_notV1, ↓V.v_notV, ↓V.v_if, ↓V.v_yes, ↓V.p2, ↓V.p2S, ↓V.v_sl, ↓V.v_sl1, ↓V.v_sl2, ↓V.v_sl3, ↓V.v_nopart, ↓V.v_part, ↓V.v_part1, ↓V.v_cb, ↓V.v_cb1, ↓V.v_call, ↓V.v_ty, ↓V.v_mt, ↓V.v_mt1, ↓V.v_mtT, ↓V.v_mt2, ↓V.v_mt0, ↓V.v_mt01, ↓V.v_seq, ↓V.v_skip, ↓V.v_ex, ↓V.v_ex1, ↓V.v_ret, ↓V.v_retN, ↓V.v_ifS, ↓V.v_asg, ↓V.v_asg1, ↓V.g_n, ↓V.g_tup, ↓V.v_gs1, ↓V.v_try, ↓V.v_raise, ↓V.v_fun, ↓V.v_for, ↓V.v_for1, ↓V.v_items, ↓V.v_items1, ↓V.v_enum, ↓V.v_enum1, ↓V.v_rng1, ↓V.v_rng11, ↓V.v_rng2, ↓V.v_rng21, ↓V.v_comp1, ↓V.v_comp, ↓V.v_compN1, ↓V.v_compN,
  V.bind_ok, V.bind_ex, V.of_s, V.of2_s, V.ofE_ok, V.ofE_ex, V.ofG_s, V.vR_s, V.sel_t, V.sel_f, V.frzAll_nil, V.frzAll_cons, V.frz1_d, V.frz1_c, V.frzC_l, V.frzC_f, V.toB_b, V.view_d, V.view_c, V.viewC_l, V.viewC_f, V.view_s, V.viewO_d, V.viewO_c, V.add_i, V.add_s, V.add_t, V.add_l, V.sub_i, V.mod_i, V.mul_i, V.gt_i, V.ge_i, V.lt_i, V.le_i, V.eq_i, V.ne_i, V.isn_p, V.isn_n, V.isNo_n, V.isNo_b, V.isNo_i, V.isNo_s, V.isNo_l, V.isNo_t, V.isNo_c, V.ix_w, V.ixV_i, V.ixB_l, V.ixB_t, V.ixB_s, V.at0, V.at1, V.at2, V.at3, V.partV_i, V.sl_l, V.sl_t, V.sl_s, V.len_c, V.len_d, V.len_s, V.lenC_l, V.lenB_l, V.lenB_t, V.lenB_s, V.rd_1, V.isi_w, V.tup_l, V.list_l, V.list_t, V.toI_b, V.toI_i, V.toS_i, V.all_l, V.any_l, V.sum_l, V.ty_c, V.tyC_l, V.ty_l, V.ty_s, V.app_c, V.appC_l, V.ext_c, V.extV_l, V.extC_l, V.seq_nx, V.seq_rt, V.seq_ex, V.seq_bk, V.seq_ct, V.ret_d, V.ret_c, V.retC_l, V.retC_f, V.gtV_t, V.gs_nil, V.gs_cons, V.try_rt, V.try_nx, V.try_ex, V.fun_nx, V.fun_rt, V.fun_ex, V.cut_d, V.one1_1, V.seq_l, V.seq_t, V.rngV_1, V.rngV2_1, V.compR_ok, V.compRN_ok, V.loopG_s, V.loop_nx, V.loop_ct, V.loop_bk, V.loop_rt, V.loop_ex, V.wipe_nil, V.wipe_cons,
  List.map, List.replicate, List.length_cons, List.length_nil, List.cons_append, List.nil_append, List.getElem?_cons_zero, List.getElem?_cons_succ, List.set_cons_zero, List.set_cons_succ, Option.bind_some, Option.map_some, Option.bind_none, Option.map_none, if_true, if_false, ↓reduceIte, Bool.false_eq_true, List.take_length, Bool.or_true, Bool.true_or, Bool.or_false, Bool.false_or, Bool.and_true, Bool.true_and, Bool.and_false, Bool.false_and, Bool.not_true, Bool.not_false, List.length_map, Nat.zero_add, Nat.reduceAdd, Nat.reduceSub, decide_true, decide_false, *])
theorem mk_inj {a b : MK} (h : a.s = b.s) : a = b := by cases a <;> cases b <;> first | rfl | (exfalso; revert h; decide +kernel)
theorem ok_inj {a b : OK} (h : a.s = b.s) : a = b := by cases a <;> cases b <;> first | rfl | (exfalso; revert h; decide +kernel)
theorem ck_inj {a b : CK} (h : a.s = b.s) : a = b := by cases a <;> cases b <;> first | rfl | (exfalso; revert h; decide +kernel)
theorem fg_inj {a b : Fg} (h : a.s = b.s) : a = b := by cases a <;> cases b <;> first | rfl | (exfalso; revert h; decide +kernel)
theorem yn_inj {a b : Bool} (h : yn a = yn b) : a = b := by cases a <;> cases b <;> first | rfl | (exfalso; revert h; decide +kernel)
def Tr.word : Tr → Str
  | .ask _ => "ask" | .set _ _ => "set" | .act _ _ _ => "do" | .many k _ => k.s | .one k _ => k.s | .cnt k _ _ => k.s | .bes _ _ => "beside"
def Tr.rest : Tr → List PyData
  | .ask f => [.str f.s] | .set f up => [.str f.s, .bool up] | .act x n e => [.str x, .int (n : Nat), .str (yn e)] | .many k ps => [.tuple (Tr.dL ps)] | .one k p => [p.d] | .cnt k n p => [.int (n : Nat), p.d] | .bes n ps => [.int (n : Nat), .tuple (Tr.dL ps)]
theorem d_eq (t : Tr) : t.d = .tuple (.str t.word :: t.rest) := by cases t <;> rfl
def kindNo : Tr → Nat
  | .ask _ => 0 | .set _ _ => 1 | .act _ _ _ => 2 | .many _ _ => 3 | .one _ _ => 4 | .cnt _ _ _ => 5 | .bes _ _ => 6
def wordNo (x : Str) : Nat := if x = "ask" then 0 else if x = "set" then 1 else if x = "do" then 2 else if x = "row" ∨ x = "choice" ∨ x = "row anew" ∨ x = "choice anew" then 3 else if x = "not" ∨ x = "yes" ∨ x = "no" ∨ x = "keep" then 4 else if x = "again" ∨ x = "till" ∨ x = "hold" then 5 else 6
theorem word_no (t : Tr) : wordNo t.word = kindNo t := by
  cases t with
  | ask f => rfl
  | set f up => rfl
  | act x n e => rfl
  | many k ps => cases k <;> rfl
  | one k p => cases k <;> rfl
  | cnt k n p => cases k <;> rfl
  | bes n ps => rfl
theorem eqv_head {t u : Tr} (h : PyData.eqv t.d u.d = true) : t.word = u.word ∧ PyData.eqvAll t.rest u.rest = true := by
  rw [d_eq, d_eq, PyData.eqv, PyData.eqvAll, Bool.and_eq_true, PyData.eqv] at h
  exact ⟨by simpa using h.1, h.2⟩
mutual
theorem eqv_tr : ∀ t u : Tr, PyData.eqv t.d u.d = true → t = u
  | t, u, h => by
    obtain ⟨h1, h2⟩ := eqv_head h
    have h3 : kindNo t = kindNo u := by rw [← word_no, ← word_no, h1]
    match t, u, h1, h2, h3 with
    | .ask f, .ask g, h1, h2, _ =>
      simp [Tr.rest, PyData.eqvAll, PyData.eqv] at h2
      rw [fg_inj h2]
    | .set f up, .set g up', h1, h2, _ =>
      simp [Tr.rest, PyData.eqvAll, PyData.eqv] at h2
      rw [fg_inj h2.1, h2.2]
    | .act x n e, .act y m e', h1, h2, _ =>
      simp [Tr.rest, PyData.eqvAll, PyData.eqv] at h2
      rw [h2.1, yn_inj h2.2.2, show n = m by omega]
    | .many k ps, .many k' qs, h1, h2, _ =>
      simp [Tr.rest, PyData.eqvAll, PyData.eqv] at h2
      rw [mk_inj h1, eqv_trs ps qs h2]
    | .one k p, .one k' q, h1, h2, _ =>
      simp [Tr.rest, PyData.eqvAll] at h2
      rw [ok_inj h1, eqv_tr p q h2]
    | .cnt k n p, .cnt k' m q, h1, h2, _ =>
      simp [Tr.rest, PyData.eqvAll] at h2
      rw [ck_inj h1, eqv_tr p q h2.2, show n = m by have := h2.1; simp [PyData.eqv] at this; omega]
    | .bes n ps, .bes m qs, h1, h2, _ =>
      simp [Tr.rest, PyData.eqvAll, PyData.eqv] at h2
      rw [eqv_trs ps qs h2.2, show n = m by omega]
theorem eqv_trs : ∀ ps qs : List Tr, PyData.eqvAll (Tr.dL ps) (Tr.dL qs) = true → ps = qs
  | [], [], _ => rfl
  | [], q :: qs, h => by simp [Tr.dL, PyData.eqvAll] at h
  | p :: ps, [], h => by simp [Tr.dL, PyData.eqvAll] at h
  | p :: ps, q :: qs, h => by
    rw [Tr.dL, Tr.dL, PyData.eqvAll, Bool.and_eq_true] at h
    rw [eqv_tr p q h.1, eqv_trs ps qs h.2]
end
theorem eqv_self (t : Tr) (h : t.ok) : PyData.eqv t.d t.d = true := SeqAt.eqv_refl _ (lay_t t h).1

theorem read_ok (k : Nat) (t : Tr) (st : Sto) (hd : t.dep ≤ 5) (hz : t.siz ≤ 14) (hg : t.good) : (R (k + 15)).read [.d (.str (S t.txt))] st = .ok (.d t.d) st := by
  have hL : LIM = 1000000 := rfl
  have b := txt_len 5 t hd hg
  have e1 := read_part_ok 8 (k + 3) t st t.txt [] [] (by omega) hg (by omega) (by omega) (by simp) (.inl rfl)
  have e2 := is_tree_ok k t st hg.1 hd hz
  have e3 := text_of_ok (k + 13) t st (by omega) (by omega) (by omega) hg
  have e4 : isi (.str (S t.txt)) "str" = some true := rfl
  have e5 : Str.length (S t.txt) = t.txt.length := SX.S_len _
  have e6 : t.txt.length ≤ LIM := by omega
  have e7 : neD (.int ((t.txt.length : Nat) : Int)) (.int ((t.txt.length : Nat) : Int)) = some (.bool false) := by simp [neD, eqB]
  have e8 : neD (.str (S t.txt)) (.str (S t.txt)) = some (.bool false) := by simp [neD, eqB]
  have e9 : ∀ ds, isNo (.d (.tuple ds)) = false := fun _ => rfl
  show fFun 2 (b_read (R (k + 14))) _ _ = _
  unfold b_read
  rw [List.length_nil, Nat.zero_add] at e1
  have e1' : (R (k + 14)).read_part [.d (.str (S t.txt)), .d (.int 0), .d (.int 8)] st = .ok (.d (.tuple [t.d, .int ((t.txt.length : Nat) : Int)])) st := e1
  clear e1 hL b hd hz hg
  walk_at "ev"
theorem law_back_ok (k : Nat) (t : Tr) (st : Sto) (hd : t.dep ≤ 5) (hz : t.siz ≤ 14) (hg : t.good) : (R (k + 16)).law_back [.d (.str (S t.txt))] st = .ok (.d t.d) st := by
  have e1 := read_ok k t st hd hz hg
  show fFun 1 (b_law_back (R (k + 15))) _ _ = _
  unfold b_law_back
  clear hd hz hg
  walk_at "ev"
theorem txt_inj {t u : Tr} (h1 : t.good) (h2 : u.good) (d1 : t.dep ≤ 5) (d2 : u.dep ≤ 5) (z1 : t.siz ≤ 14) (z2 : u.siz ≤ 14) (h : t.txt = u.txt) : t.d = u.d := by
  have a := read_ok 0 t [] d1 z1 h1
  have b := read_ok 0 u [] d2 z2 h2
  rw [h, b] at a
  injection a with a _
  injection a with a
  exact a.symm
theorem same_txt {t u : Tr} (h1 : t.good) (h2 : u.good) (d1 : t.dep ≤ 5) (d2 : u.dep ≤ 5) (z1 : t.siz ≤ 14) (z2 : u.siz ≤ 14) : (S t.txt == S u.txt) = PyData.eqv t.d u.d := by
  rw [SX.S_beq_eq]
  cases hb : PyData.eqv t.d u.d with
  | true => rw [eqv_tr t u hb]; simp
  | false =>
    have : t.txt ≠ u.txt := by
      intro h
      have := txt_inj h1 h2 d1 d2 z1 z2 h
      rw [← this, eqv_self t h1.1] at hb
      cases hb
    simpa using this
structure Tr.fine (t : Tr) : Prop where
  g : t.good
  d : t.dep ≤ 5
  z : t.siz ≤ 14
theorem eq_tree {t u : Tr} (ht : t.fine) (hu : u.fine) : eqD t.d u.d = some (.bool (PyData.eqv t.d u.d)) := by
  have s1 := shaped_t t ht.g.1 (by have := ht.d; omega)
  have s2 := shaped_t u hu.g.1 (by have := hu.d; omega)
  rw [d_eq, d_eq] at *
  rw [eq_tup, s1, s2]
  rfl
end FL
set_option Elab.async false
set_option linter.all false
set_option maxRecDepth 100000
set_option maxHeartbeats 2000000
namespace FL.k25
open PySem L2 FL
local macro_rules | `(tactic| walk_at "ev") => `(tactic| simp only [↓V.v_var, ↓V.v_c, ↓V.v_nil, ↓V.v_cons, ↓V.v_cons1, ↓V.v_cons2, ↓V.v_tup, ↓V.v_tup1, ↓V.v_lst, ↓V.v_lst1, ↓V.v_new, ↓V.v_new1, ↓V.v_bin, ↓V.v_bin1, ↓V.v_bin2, ↓V.v_test, ↓V.v_test1, ↓V.v_chain, ↓V.v_chainX, ↓V.v_chainY, ↓V.v_chainZ, ↓V.v_chainK, ↓V.v_chainT, ↓V.v_chainF, ↓V.v_chain2, ↓V.v_okT, ↓V.v_okF, ↓V.v_okVT, ↓V.v_selK, ↓V.v_and, ↓V.v_or, ↓V.v_notK, ↓V.v_not, ↓V.v_selW, ↓V.v_andV, ↓V.v_orV, ↓V.v_notV2, ↓V.v_notV1, ↓V.v_notV, ↓V.v_if, ↓V.v_yes, ↓V.p2, ↓V.p2S, ↓V.v_sl, ↓V.v_sl1, ↓V.v_sl2, ↓V.v_sl3, ↓V.v_nopart, ↓V.v_part, ↓V.v_part1, ↓V.v_cb, ↓V.v_cb1, ↓V.v_call, ↓V.v_ty, ↓V.v_mt, ↓V.v_mt1, ↓V.v_mtT, ↓V.v_mt2, ↓V.v_mt0, ↓V.v_mt01, ↓V.v_seq, ↓V.v_skip, ↓V.v_ex, ↓V.v_ex1, ↓V.v_ret, ↓V.v_retN, ↓V.v_ifS, ↓V.v_asg, ↓V.v_asg1, ↓V.g_n, ↓V.g_tup, ↓V.v_gs1, ↓V.v_try, ↓V.v_raise, ↓V.v_fun, ↓V.v_for, ↓V.v_for1, ↓V.v_items, ↓V.v_items1, ↓V.v_enum, ↓V.v_enum1, ↓V.v_rng1, ↓V.v_rng11, ↓V.v_rng2, ↓V.v_rng21, ↓V.v_comp1, ↓V.v_comp, ↓V.v_compN1, ↓V.v_compN,
  V.bind_ok, V.bind_ex, V.of_s, V.of2_s, V.ofE_ok, V.ofE_ex, V.ofG_s, V.vR_s, V.sel_t, V.sel_f, V.frzAll_nil, V.frzAll_cons, V.frz1_d, V.frz1_c, V.frzC_l, V.frzC_f, V.toB_b, V.view_d, V.view_c, V.viewC_l, V.viewC_f, V.view_s, V.viewO_d, V.viewO_c, V.add_i, V.add_s, V.add_t, V.add_l, V.sub_i, V.mod_i, V.mul_i, V.gt_i, V.ge_i, V.lt_i, V.le_i, V.eq_i, V.ne_i, V.isn_p, V.isn_n, V.isNo_n, V.isNo_b, V.isNo_i, V.isNo_s, V.isNo_l, V.isNo_t, V.isNo_c, V.ix_w, V.ixV_i, V.ixB_l, V.ixB_t, V.ixB_s, V.at0, V.at1, V.at2, V.at3, V.partV_i, V.sl_l, V.sl_t, V.sl_s, V.len_c, V.len_d, V.len_s, V.lenC_l, V.lenB_l, V.lenB_t, V.lenB_s, V.rd_1, V.isi_w, V.tup_l, V.list_l, V.list_t, V.toI_b, V.toI_i, V.toS_i, V.all_l, V.any_l, V.sum_l, V.ty_c, V.tyC_l, V.ty_l, V.ty_s, V.app_c, V.appC_l, V.ext_c, V.extV_l, V.extC_l, V.seq_nx, V.seq_rt, V.seq_ex, V.seq_bk, V.seq_ct, V.ret_d, V.ret_c, V.retC_l, V.retC_f, V.gtV_t, V.gs_nil, V.gs_cons, V.try_rt, V.try_nx, V.try_ex, V.fun_nx, V.fun_rt, V.fun_ex, V.cut_d, V.one1_1, V.seq_l, V.seq_t, V.rngV_1, V.rngV2_1, V.compR_ok, V.compRN_ok, V.loopG_s, V.loop_nx, V.loop_ct, V.loop_bk, V.loop_rt, V.loop_ex, V.wipe_nil, V.wipe_cons,
  List.map, List.replicate, List.length_cons, List.length_nil, List.cons_append, List.nil_append, List.getElem?_cons_zero, List.getElem?_cons_succ, List.set_cons_zero, List.set_cons_succ, Option.bind_some, Option.map_some, Option.bind_none, Option.map_none, if_true, if_false, ↓reduceIte, Bool.false_eq_true, List.take_length, Bool.or_true, Bool.true_or, Bool.or_false, Bool.false_or, Bool.and_true, Bool.true_and, Bool.and_false, Bool.false_and, Bool.not_true, Bool.not_false, List.length_map, Nat.zero_add, Nat.reduceAdd, Nat.reduceSub, decide_true, decide_false, *])
def LV1 : Nat := 59
def LV : Nat := 60
def trE : FE := (fCall (R 59).law_tree (fCons (fVar 0) (fCons (fVar 1) (fCons (fCall (R 59).law_pick (fCons (fVar 0) (fCons (fVar 1) (fCons (fLst (fCons (fC (.int 1)) (fCons (fC (.int 2)) (fCons (fC (.int 5)) fNil)))) fNil)))) fNil))))
theorem one_tree (ns : List Int) (a b c d : Option W) (zs : List PyData) (hz : zs.length + 6000 < LIM) : ∃ t : Tr, ∃ zs' : List PyData, t.fine ∧ zs'.length ≤ zs.length + 6000 ∧ trE [some (.s ns), some (.c 0), a, b, c, d] [.lst zs] = .ok (.d t.d) [.lst zs'] := by
  obtain ⟨x, hx, px⟩ := pick_ok 55 ns 0 [.int 1, .int 2, .int 5] [.lst zs] zs rfl (by omega) (by simp)
  obtain ⟨n, hn, rfl⟩ : ∃ n : Nat, (n = 1 ∨ n = 2 ∨ n = 5) ∧ x = .int (n : Nat) := by
    simp at hx
    rcases hx with rfl | rfl | rfl
    · exact ⟨1, .inl rfl, rfl⟩
    · exact ⟨2, .inr (.inl rfl), rfl⟩
    · exact ⟨5, .inr (.inr rfl), rfl⟩
  obtain ⟨t, zs', h1, h2, h3, h4, pt⟩ := tree_ok n (53 - n) ns 0 [.lst (zs ++ [.int 0])] (zs ++ [.int 0]) rfl (by omega) (by omega) (by simp; omega)
  rw [show 53 - n + n + 6 = 59 by omega] at pt
  refine ⟨t, zs', ⟨h1, by omega, h3⟩, by simp at h4; omega, ?_⟩
  unfold trE
  simp only [List.set_cons_zero] at px pt
  clear hx hn h1 h2 h3 h4 hz
  walk_at "ev"
theorem all_trees (ns : List Int) (a b c d : Option W) : ∀ (xs zs : List PyData), zs.length + xs.length * 6000 < LIM → ∃ ts : List Tr, ∃ zs' : List PyData, ts.length = xs.length ∧ (∀ t ∈ ts, t.fine) ∧ compGo (gN 3) fYes trE [some (.s ns), some (.c 0), a, b, c, d] xs [.lst zs] = .ok (ts.map Tr.d) [.lst zs']
  | [], zs, _ => ⟨[], zs, rfl, by simp, rfl⟩
  | x :: xs, zs, hz => by
    rw [List.length_cons, Nat.succ_mul] at hz
    obtain ⟨t, zs1, h1, h2, h3⟩ := one_tree ns a (some (.d x)) c d zs (by omega)
    obtain ⟨ts, zs2, h4, h5, h6⟩ := all_trees ns a b c d xs zs1 (by omega)
    refine ⟨t :: ts, zs2, by simp [h4], ?_, ?_⟩
    · intro u hu
      rcases List.mem_cons.mp hu with rfl | hu
      · exact h1
      · exact h5 u hu
    · simp only [compGo, gN, fYes, List.set_cons_succ, List.set_cons_zero, h3, Res.of2, frz1, Res.bind, h6, List.map_cons]
def inB1 : FS := (fIfS (fTest (fBin (pure2S neD) (fBin (pure2S eqD) (fCall (R 59).shown (fCons (fVar 4) fNil)) (fCall (R 59).shown (fCons (fVar 5) fNil))) (fBin (pure2S eqD) (fVar 4) (fVar 5)))) (fRet (fC (.bool false))) fSkip)
def outB1 : FS := (fSeq (fIfS (fOr (fTest (fBin (pure2S neD) (fCall (R 59).shown (fCons (fVar 4) fNil)) (fCall (R 59).law_shown (fCons (fVar 4) fNil)))) (fTest (fBin (pure2S neD) (fCall (R 59).law_back (fCons (fCall (R 59).shown (fCons (fVar 4) fNil)) fNil)) (fVar 4)))) (fRet (fC (.bool false))) fSkip)
  (fFor (fItems (fVar 2)) (gN 5) inB1))
theorem in_loop (a b c d : Option W) (t : Tr) (ht : t.fine) (st : Sto) : ∀ (us : List Tr) (x : Option W), (∀ u ∈ us, u.fine) → ∃ x', fLoop (gN 5) inB1 (us.map Tr.d) [a, b, c, d, some (.d t.d), x] st = .nx [a, b, c, d, some (.d t.d), x'] st
  | [], x, _ => ⟨x, rfl⟩
  | u :: us, x, h => by
    have hu := h u (by simp)
    obtain ⟨x', ih⟩ := in_loop a b c d t ht st us (some (.d u.d)) fun v hv => h v (by simp [hv])
    refine ⟨x', ?_⟩
    rw [List.map_cons, loop_step (st1 := st) (e := [a, b, c, d, some (.d t.d), some (.d u.d)]) (e2 := [a, b, c, d, some (.d t.d), some (.d u.d)]) (st2 := st) rfl ?_]
    · exact ih
    · have e1 := shown_ok 43 t st ht.d ht.z ht.g
      have e2 := shown_ok 43 u st hu.d hu.z hu.g
      have e3 := eq_tree ht hu
      have e4 : eqD (.str (S t.txt)) (.str (S u.txt)) = some (.bool (PyData.eqv t.d u.d)) := by
        rw [← same_txt ht.g hu.g ht.d hu.d ht.z hu.z]; rfl
      have e5 : ∀ b : Bool, neD (.bool b) (.bool b) = some (.bool false) := fun b => by simp [neD, eqB]
      unfold inB1
      clear ih h
      walk_at "ev"
theorem out_loop (a b d : Option W) (ts : List Tr) (hts : ∀ t ∈ ts, t.fine) (st : Sto) : ∀ (us : List Tr) (x y : Option W), (∀ u ∈ us, u.fine) → ∃ x' y', fLoop (gN 4) outB1 (us.map Tr.d) [a, b, some (.d (.list (ts.map Tr.d))), d, x, y] st = .nx [a, b, some (.d (.list (ts.map Tr.d))), d, x', y'] st
  | [], x, y, _ => ⟨x, y, rfl⟩
  | t :: us, x, y, h => by
    have ht := h t (by simp)
    obtain ⟨y1, i1⟩ := in_loop a b (some (.d (.list (ts.map Tr.d)))) d t ht st ts y hts
    obtain ⟨x', y', ih⟩ := out_loop a b d ts hts st us (some (.d t.d)) y1 fun v hv => h v (by simp [hv])
    refine ⟨x', y', ?_⟩
    rw [List.map_cons, loop_step (st1 := st) (e := [a, b, some (.d (.list (ts.map Tr.d))), d, some (.d t.d), y]) (e2 := [a, b, some (.d (.list (ts.map Tr.d))), d, some (.d t.d), y1]) (st2 := st) rfl ?_]
    · exact ih
    · have e1 := shown_ok 43 t st ht.d ht.z ht.g
      have e2 := law_shown_ok 58 t st (by have := ht.d; omega) (by have := ht.z; omega) ht.g
      have e3 := law_back_ok 43 t st ht.d ht.z ht.g
      have e4 : neD (.str (S t.txt)) (.str (S t.txt)) = some (.bool false) := by simp [neD, eqB]
      have e5 : neD t.d t.d = some (.bool false) := by
        have := eq_tree ht ht
        rw [eqv_self t ht.g.1] at this
        unfold eqD at this
        unfold neD
        cases hq : eqB t.d t.d with
        | none => rw [hq] at this; cases this
        | some v => rw [hq] at this; cases this; rfl
      unfold outB1
      clear ih h hts
      walk_at "ev"
theorem law_true : ∀ ns : List Int, ns.length ≤ 63 → ∃ st, (R LV).law_k25 [.s ns] [] = .ok (.d (.bool true)) st := by
  intro ns _
  have hL : LIM = 1000000 := rfl
  obtain ⟨ts, zs', h1, h2, h3⟩ := all_trees ns none none none none (rangeD 0 3) [] (by rw [rangeD_len]; simp; omega)
  obtain ⟨x', y', h4⟩ := out_loop (some (.s ns)) (some (.c 0)) none ts h2 [.lst zs'] ts none none h2
  refine ⟨[], ?_⟩
  show fFun 6 (b_law_k25 (R 59)) _ _ = _
  unfold b_law_k25
  change fFun 6 (fSeq _ (fSeq (fAsg (fComp _ _ _ trE _) _) (fSeq (fFor _ _ outB1) _))) _ _ = _
  have e1 : inR 3 = true := by decide
  have e2 : (3 : Int).toNat = 3 := rfl
  have e3 : ts.length ≤ LIM := by rw [h1, rangeD_len]; omega
  generalize trE = TT at *
  clear h1 h2 hL
  have e4 : ∀ c : C, List.take 0 [c] = [] := fun _ => rfl
  walk_at "ev"
end FL.k25
set_option Elab.async false
set_option linter.all false
set_option maxRecDepth 100000
set_option maxHeartbeats 4000000

/-! Printed by genall.py: each def of law_k25_whole_texts keeps its Lean function. -/
namespace FL.k25
open PySem PySem.Spec PyProof.Rows L2 FL
def top (i : Nat) : Stmt := PySem.Challenge.pw_ticktree_k25_whole_texts.main.body.getD i (.Pass ⟨0, 0, 0, 0⟩)
def DF (K : PySem.W.Frag) (mg : Str → Option Value) (x : Str) (i : Nat) : Prop := ∃ f fd, mg x = some (.ref f) ∧ FunD K x x (defArgs (top i)) (defBody (top i)) (defScope (top i)) [] [] f fd
structure Mods (K : PySem.W.Frag) (mg : Str → Option Value) : Prop where
  d_is_whole : DF K mg "is_whole" 15
  d_is_word : DF K mg "is_word" 16
  d_is_name : DF K mg "is_name" 17
  d_is_flag : DF K mg "is_flag" 18
  d_is_leaf : DF K mg "is_leaf" 19
  d_is_part : DF K mg "is_part" 20
  d_are_parts : DF K mg "are_parts" 21
  d_parts_of : DF K mg "parts_of" 22
  d_size_of : DF K mg "size_of" 23
  d_is_tree : DF K mg "is_tree" 24
  d_need_tree : DF K mg "need_tree" 25
  d_head_of : DF K mg "head_of" 28
  d_text_of : DF K mg "text_of" 29
  d_shown : DF K mg "shown" 30
  d_number : DF K mg "number" 31
  d_leaf_of : DF K mg "leaf_of" 32
  d_part_of : DF K mg "part_of" 33
  d_read_part : DF K mg "read_part" 34
  d_read : DF K mg "read" 35
  d_law_cell_at : DF K mg "_law_cell_at" 37
  d_law_mixed : DF K mg "_law_mixed" 38
  d_law_draw : DF K mg "_law_draw" 39
  d_law_pick : DF K mg "_law_pick" 40
  d_law_leaf : DF K mg "_law_leaf" 41
  d_law_part : DF K mg "_law_part" 42
  d_law_size : DF K mg "_law_size" 43
  d_law_inner : DF K mg "_law_inner" 44
  d_law_tree : DF K mg "_law_tree" 45
  d_law_shown : DF K mg "_law_shown" 46
  d_law_back : DF K mg "_law_back" 47
  d_law_k25 : DF K mg "law" 48
  n_all : mg "all" = none
  n_bool : mg "bool" = none
  n_enumerate : mg "enumerate" = none
  n_int : mg "int" = none
  n_isinstance : mg "isinstance" = none
  n_len : mg "len" = none
  n_range : mg "range" = none
  n_str : mg "str" = none
  n_sum : mg "sum" = none
  n_tuple : mg "tuple" = none
  g_COUNT_KINDS : GD K mg "COUNT_KINDS" (PyData.tuple [(PyData.str "again"), (PyData.str "till"), (PyData.str "hold")])
  g_DEEP : GD K mg "DEEP" (PyData.int 5)
  g_ENDS : GD K mg "ENDS" (PyData.tuple [(PyData.str "yes"), (PyData.str "no")])
  g_FIGURES : GD K mg "FIGURES" (PyData.str "0123456789")
  g_FLAGS : GD K mg "FLAGS" (PyData.str "abc")
  g_LETTERS : GD K mg "LETTERS" (PyData.str "abcdefghijklmnopqrstuvwxyz")
  g_MANY_KINDS : GD K mg "MANY_KINDS" (PyData.tuple [(PyData.str "row"), (PyData.str "choice"), (PyData.str "row anew"), (PyData.str "choice anew")])
  g_ONE_KINDS : GD K mg "ONE_KINDS" (PyData.tuple [(PyData.str "not"), (PyData.str "yes"), (PyData.str "no"), (PyData.str "keep")])
  g_SIZE : GD K mg "SIZE" (PyData.int 14)
  g_TICKS : GD K mg "TICKS" (PyData.int 4)
  g_TIMES : GD K mg "TIMES" (PyData.int 4)
  x_NoText : ExcG K mg "NoText"
  x_NoTree : ExcG K mg "NoTree"
  c_TreeError : mg "TreeError" = some (.ref (He.ga K "TreeError"))
  h_TreeError : ∀ c b, hits_TreeError_1 c = some b → PySem.W.exmOne K ((mg c).getD .none) (.ref (He.ga K "TreeError")) = some b
structure AllOk (P : Program) (w : World) (K : PySem.W.Frag) (mg : Str → Option Value) (base : Heap) (k : Nat) (g : Fns) : Prop where
  is_whole : FnG P w K mg base k "is_whole" ["thing", "low", "most"] g.is_whole
  is_word : FnG P w K mg base k "is_word" ["thing", "words"] g.is_word
  is_name : FnG P w K mg base k "is_name" ["thing"] g.is_name
  is_flag : FnG P w K mg base k "is_flag" ["thing"] g.is_flag
  is_leaf : FnG P w K mg base k "is_leaf" ["thing"] g.is_leaf
  is_part : FnG P w K mg base k "is_part" ["thing", "deep"] g.is_part
  are_parts : FnG P w K mg base k "are_parts" ["thing", "deep"] g.are_parts
  parts_of : FnG P w K mg base k "parts_of" ["tree"] g.parts_of
  size_of : FnG P w K mg base k "size_of" ["tree"] g.size_of
  is_tree : FnG P w K mg base k "is_tree" ["thing"] g.is_tree
  need_tree : FnG P w K mg base k "need_tree" ["thing"] g.need_tree
  head_of : FnG P w K mg base k "head_of" ["tree"] g.head_of
  text_of : FnG P w K mg base k "text_of" ["tree"] g.text_of
  shown : FnG P w K mg base k "shown" ["tree"] g.shown
  number : FnG P w K mg base k "number" ["word"] g.number
  leaf_of : FnG P w K mg base k "leaf_of" ["words"] g.leaf_of
  part_of : FnG P w K mg base k "part_of" ["head", "parts"] g.part_of
  read_part : FnG P w K mg base k "read_part" ["text", "at", "deep"] g.read_part
  read : FnG P w K mg base k "read" ["text"] g.read
  law_cell_at : FnG P w K mg base k "_law_cell_at" ["script", "k"] g.law_cell_at
  law_mixed : FnG P w K mg base k "_law_mixed" ["script", "k", "many"] g.law_mixed
  law_draw : FnG P w K mg base k "_law_draw" ["script", "town", "many"] g.law_draw
  law_pick : FnG P w K mg base k "_law_pick" ["script", "town", "some"] g.law_pick
  law_leaf : FnG P w K mg base k "_law_leaf" ["script", "town"] g.law_leaf
  law_part : FnG P w K mg base k "_law_part" ["script", "town", "deep", "left"] g.law_part
  law_size : FnG P w K mg base k "_law_size" ["tree"] g.law_size
  law_inner : FnG P w K mg base k "_law_inner" ["tree"] g.law_inner
  law_tree : FnG P w K mg base k "_law_tree" ["script", "town", "deep"] g.law_tree
  law_shown : FnG P w K mg base k "_law_shown" ["tree"] g.law_shown
  law_back : FnG P w K mg base k "_law_back" ["text"] g.law_back
  law_k25 : FnG P w K mg base k "law" ["script"] g.law_k25
variable {P : Program} {w : World} {K : PySem.W.Frag} {mg : Str → Option Value} {base : Heap} {k : Nat} {g : Fns}
theorem sc_is_whole : FnScope ["thing", "low", "most"] ["thing", "low", "most"] (defScope (top 15)) := ⟨rfl, rfl, rfl, by decide +kernel, rfl, by decide +kernel, by decide +kernel⟩
theorem bi_is_whole {f : Addr} {fd : FuncData} (h : FunD K "is_whole" "is_whole" (defArgs (top 15)) (defBody (top 15)) (defScope (top 15)) [] [] f fd) : Binds K fd ["thing", "low", "most"] [] := h.bindsN fun _ _ _ _ _ _ us hl => match us, hl with | [_, _, _], _ => rfl
theorem w_is_whole (M : Mods K mg) (A : AllOk P w K mg base k g) : FnG P w K mg base (k + 1) "is_whole" ["thing", "low", "most"] (fFun 3 (b_is_whole g)) := by
  obtain ⟨f, fd, hm, F⟩ := M.d_is_whole
  refine ⟨f, fd, hm, F.kp, bi_is_whole F, fn_ok F sc_is_whole (by decide) fun cdv A1 outer s H E hr tk hp => ?_⟩
  exact (jb_one (js_ret (je_and (je_cb cs_isi M.n_isinstance (by decide +kernel) (ja_cons (je_var 0) (ja_cons (je_ty (n := "int") M.n_int (by decide +kernel)) ja_nil))) (je_and (je_not (je_cb cs_isi M.n_isinstance (by decide +kernel) (ja_cons (je_var 0) (ja_cons (je_ty (n := "bool") M.n_bool (by decide +kernel)) ja_nil)))) (je_one (je_chain (opS' op_leD) (opS' op_leD) (je_var 1) (je_var 0) (je_var 2)))))))
theorem sc_is_word : FnScope ["thing", "words"] ["thing", "words"] (defScope (top 16)) := ⟨rfl, rfl, rfl, by decide +kernel, rfl, by decide +kernel, by decide +kernel⟩
theorem bi_is_word {f : Addr} {fd : FuncData} (h : FunD K "is_word" "is_word" (defArgs (top 16)) (defBody (top 16)) (defScope (top 16)) [] [] f fd) : Binds K fd ["thing", "words"] [] := h.bindsN fun _ _ _ _ _ _ us hl => match us, hl with | [_, _], _ => rfl
theorem w_is_word (M : Mods K mg) (A : AllOk P w K mg base k g) : FnG P w K mg base (k + 1) "is_word" ["thing", "words"] (fFun 2 (b_is_word g)) := by
  obtain ⟨f, fd, hm, F⟩ := M.d_is_word
  refine ⟨f, fd, hm, F.kp, bi_is_word F, fn_ok F sc_is_word (by decide) fun cdv A1 outer s H E hr tk hp => ?_⟩
  exact (jb_one (js_ret (je_and (je_cb cs_isi M.n_isinstance (by decide +kernel) (ja_cons (je_var 0) (ja_cons (je_ty (n := "str") M.n_str (by decide +kernel)) ja_nil))) (je_one (je_cmp (opS' (op_inDD (hu65 hr))) (je_var 0) (je_var 1))))))
theorem sc_is_name : FnScope ["thing"] ["thing"] (defScope (top 17)) := ⟨rfl, rfl, rfl, by decide +kernel, rfl, by decide +kernel, by decide +kernel⟩
theorem bi_is_name {f : Addr} {fd : FuncData} (h : FunD K "is_name" "is_name" (defArgs (top 17)) (defBody (top 17)) (defScope (top 17)) [] [] f fd) : Binds K fd ["thing"] [] := h.bindsN fun _ _ _ _ _ _ us hl => match us, hl with | [_], _ => rfl
theorem w_is_name (M : Mods K mg) (A : AllOk P w K mg base k g) : FnG P w K mg base (k + 1) "is_name" ["thing"] (fFun 1 (b_is_name g)) := by
  obtain ⟨f, fd, hm, F⟩ := M.d_is_name
  refine ⟨f, fd, hm, F.kp, bi_is_name F, fn_ok F sc_is_name (by decide) fun cdv A1 outer s H E hr tk hp => ?_⟩
  exact (jb_one (js_ret (je_and (je_cb cs_isi M.n_isinstance (by decide +kernel) (ja_cons (je_var 0) (ja_cons (je_ty (n := "str") M.n_str (by decide +kernel)) ja_nil))) (je_and (je_chain (opS' op_leD) (opS' op_leD) je_int (je_cb cs_len M.n_len (by decide +kernel) (ja_cons (je_var 0) ja_nil)) je_int) (je_one (je_cmp (opS' (op_eqDD hr.units)) (je_mt ms_strip PySem.F.plainAttrs_str PySem.F.slot_str_strip PySem.F.type_str_strip (je_var 0) (ja_cons (je_glob M.g_LETTERS) ja_nil)) je_str))))))
theorem sc_is_flag : FnScope ["thing"] ["thing"] (defScope (top 18)) := ⟨rfl, rfl, rfl, by decide +kernel, rfl, by decide +kernel, by decide +kernel⟩
theorem bi_is_flag {f : Addr} {fd : FuncData} (h : FunD K "is_flag" "is_flag" (defArgs (top 18)) (defBody (top 18)) (defScope (top 18)) [] [] f fd) : Binds K fd ["thing"] [] := h.bindsN fun _ _ _ _ _ _ us hl => match us, hl with | [_], _ => rfl
theorem w_is_flag (M : Mods K mg) (A : AllOk P w K mg base k g) : FnG P w K mg base (k + 1) "is_flag" ["thing"] (fFun 1 (b_is_flag g)) := by
  obtain ⟨f, fd, hm, F⟩ := M.d_is_flag
  refine ⟨f, fd, hm, F.kp, bi_is_flag F, fn_ok F sc_is_flag (by decide) fun cdv A1 outer s H E hr tk hp => ?_⟩
  exact (jb_one (js_ret (je_and (je_cb cs_isi M.n_isinstance (by decide +kernel) (ja_cons (je_var 0) (ja_cons (je_ty (n := "str") M.n_str (by decide +kernel)) ja_nil))) (je_and (je_cmp (opS' (op_eqDD hr.units)) (je_cb cs_len M.n_len (by decide +kernel) (ja_cons (je_var 0) ja_nil)) je_int) (je_one (je_cmp (opS' (op_inDD (hu65 hr))) (je_var 0) (je_glob M.g_FLAGS)))))))
theorem sc_is_leaf : FnScope ["thing"] ["thing"] (defScope (top 19)) := ⟨rfl, rfl, rfl, by decide +kernel, rfl, by decide +kernel, by decide +kernel⟩
theorem bi_is_leaf {f : Addr} {fd : FuncData} (h : FunD K "is_leaf" "is_leaf" (defArgs (top 19)) (defBody (top 19)) (defScope (top 19)) [] [] f fd) : Binds K fd ["thing"] [] := h.bindsN fun _ _ _ _ _ _ us hl => match us, hl with | [_], _ => rfl
theorem w_is_leaf (M : Mods K mg) (A : AllOk P w K mg base k g) : FnG P w K mg base (k + 1) "is_leaf" ["thing"] (fFun 1 (b_is_leaf g)) := by
  obtain ⟨f, fd, hm, F⟩ := M.d_is_leaf
  refine ⟨f, fd, hm, F.kp, bi_is_leaf F, fn_ok F sc_is_leaf (by decide) fun cdv A1 outer s H E hr tk hp => ?_⟩
  exact (jb_cons (js_if (jt_cmp (opS' (op_eqDD hr.units)) (je_ix (je_var 0) je_int) je_str) (jb_one (js_ret (je_and (je_cmp (opS' (op_eqDD hr.units)) (je_cb cs_len M.n_len (by decide +kernel) (ja_cons (je_var 0) ja_nil)) je_int) (je_one (je_call A.is_flag hr tk rfl (ja_cons (je_ix (je_var 0) je_int) ja_nil) (ln1 ln0)))))) jb_nil)
  (jb_cons (js_if (jt_cmp (opS' (op_eqDD hr.units)) (je_ix (je_var 0) je_int) je_str) (jb_one (js_ret (je_and (je_cmp (opS' (op_eqDD hr.units)) (je_cb cs_len M.n_len (by decide +kernel) (ja_cons (je_var 0) ja_nil)) je_int) (je_and (je_call A.is_flag hr tk rfl (ja_cons (je_ix (je_var 0) je_int) ja_nil) (ln1 ln0)) (je_one (je_cb cs_isi M.n_isinstance (by decide +kernel) (ja_cons (je_ix (je_var 0) je_int) (ja_cons (je_ty (n := "bool") M.n_bool (by decide +kernel)) ja_nil)))))))) jb_nil)
  (jb_cons (js_if (jt_w (jw_or (jt_cmp (opS' (op_neDD hr.units)) (je_ix (je_var 0) je_int) je_str) (jw_or (jt_cmp (opS' (op_neDD hr.units)) (je_cb cs_len M.n_len (by decide +kernel) (ja_cons (je_var 0) ja_nil)) je_int) (jw_or1 (jt_not (jt_val (je_call A.is_name hr tk rfl (ja_cons (je_ix (je_var 0) je_int) ja_nil) (ln1 ln0)))))))) (jb_one (js_ret je_bl)) jb_nil)
  (jb_one (js_ret (je_and (je_call A.is_whole hr tk rfl (ja_cons (je_ix (je_var 0) je_int) (ja_cons je_int (ja_cons (je_glob M.g_TICKS) ja_nil))) (ln1 (ln1 (ln1 ln0)))) (je_one (je_call A.is_word hr tk rfl (ja_cons (je_ix (je_var 0) je_int) (ja_cons (je_glob M.g_ENDS) ja_nil)) (ln1 (ln1 ln0))))))))))
theorem sc_is_part : FnScope ["thing", "deep"] ["thing", "deep"] (defScope (top 20)) := ⟨rfl, rfl, rfl, by decide +kernel, rfl, by decide +kernel, by decide +kernel⟩
theorem bi_is_part {f : Addr} {fd : FuncData} (h : FunD K "is_part" "is_part" (defArgs (top 20)) (defBody (top 20)) (defScope (top 20)) [] [] f fd) : Binds K fd ["thing", "deep"] [] := h.bindsN fun _ _ _ _ _ _ us hl => match us, hl with | [_, _], _ => rfl
theorem w_is_part (M : Mods K mg) (A : AllOk P w K mg base k g) : FnG P w K mg base (k + 1) "is_part" ["thing", "deep"] (fFun 2 (b_is_part g)) := by
  obtain ⟨f, fd, hm, F⟩ := M.d_is_part
  refine ⟨f, fd, hm, F.kp, bi_is_part F, fn_ok F sc_is_part (by decide) fun cdv A1 outer s H E hr tk hp => ?_⟩
  exact (jb_cons (js_if (jt_w (jw_or (jt_cmp (opS' (op_eqDD hr.units)) (je_var 1) je_int) (jw_or (jt_not (jt_val (je_cb cs_isi M.n_isinstance (by decide +kernel) (ja_cons (je_var 0) (ja_cons (je_ty (n := "tuple") M.n_tuple (by decide +kernel)) ja_nil))))) (jw_or (jt_cmp (opS' op_ltD) (je_cb cs_len M.n_len (by decide +kernel) (ja_cons (je_var 0) ja_nil)) je_int) (jw_or1 (jt_not (jt_val (je_cb cs_isi M.n_isinstance (by decide +kernel) (ja_cons (je_ix (je_var 0) je_int) (ja_cons (je_ty (n := "str") M.n_str (by decide +kernel)) ja_nil)))))))))) (jb_one (js_ret je_bl)) jb_nil)
  (jb_cons (js_if (jt_cmp (opS' (op_inDD (hu65 hr))) (je_ix (je_var 0) je_int) (je_tup (ja_cons je_str (ja_cons je_str (ja_cons je_str ja_nil))) (ln1 (ln1 (ln1 ln0))))) (jb_one (js_ret (je_call A.is_leaf hr tk rfl (ja_cons (je_var 0) ja_nil) (ln1 ln0)))) jb_nil)
  (jb_cons (js_if (jt_cmp (opS' (op_inDD (hu65 hr))) (je_ix (je_var 0) je_int) (je_glob M.g_MANY_KINDS)) (jb_one (js_ret (je_and (je_cmp (opS' (op_eqDD hr.units)) (je_cb cs_len M.n_len (by decide +kernel) (ja_cons (je_var 0) ja_nil)) je_int) (je_one (je_call A.are_parts hr tk rfl (ja_cons (je_ix (je_var 0) je_int) (ja_cons (je_bin (opS' op_subD) (je_var 1) je_int) ja_nil)) (ln1 (ln1 ln0))))))) jb_nil)
  (jb_cons (js_if (jt_cmp (opS' (op_inDD (hu65 hr))) (je_ix (je_var 0) je_int) (je_glob M.g_ONE_KINDS)) (jb_one (js_ret (je_and (je_cmp (opS' (op_eqDD hr.units)) (je_cb cs_len M.n_len (by decide +kernel) (ja_cons (je_var 0) ja_nil)) je_int) (je_one (je_call A.is_part hr tk rfl (ja_cons (je_ix (je_var 0) je_int) (ja_cons (je_bin (opS' op_subD) (je_var 1) je_int) ja_nil)) (ln1 (ln1 ln0))))))) jb_nil)
  (jb_cons (js_if (jt_cmp (opS' (op_inDD (hu65 hr))) (je_ix (je_var 0) je_int) (je_glob M.g_COUNT_KINDS)) (jb_one (js_ret (je_and (je_cmp (opS' (op_eqDD hr.units)) (je_cb cs_len M.n_len (by decide +kernel) (ja_cons (je_var 0) ja_nil)) je_int) (je_and (je_call A.is_whole hr tk rfl (ja_cons (je_ix (je_var 0) je_int) (ja_cons je_int (ja_cons (je_glob M.g_TIMES) ja_nil))) (ln1 (ln1 (ln1 ln0)))) (je_one (je_call A.is_part hr tk rfl (ja_cons (je_ix (je_var 0) je_int) (ja_cons (je_bin (opS' op_subD) (je_var 1) je_int) ja_nil)) (ln1 (ln1 ln0)))))))) jb_nil)
  (jb_cons (js_if (jt_w (jw_or (jt_cmp (opS' (op_neDD hr.units)) (je_ix (je_var 0) je_int) je_str) (jw_or (jt_cmp (opS' (op_neDD hr.units)) (je_cb cs_len M.n_len (by decide +kernel) (ja_cons (je_var 0) ja_nil)) je_int) (jw_or1 (jt_not (jt_val (je_call A.are_parts hr tk rfl (ja_cons (je_ix (je_var 0) je_int) (ja_cons (je_bin (opS' op_subD) (je_var 1) je_int) ja_nil)) (ln1 (ln1 ln0))))))))) (jb_one (js_ret je_bl)) jb_nil)
  (jb_one (js_ret (je_call A.is_whole hr tk rfl (ja_cons (je_ix (je_var 0) je_int) (ja_cons je_int (ja_cons (je_cb cs_len M.n_len (by decide +kernel) (ja_cons (je_ix (je_var 0) je_int) ja_nil)) ja_nil))) (ln1 (ln1 (ln1 ln0))))))))))))
theorem sc_are_parts : FnScope ["thing", "deep", "part"] ["thing", "deep"] (defScope (top 21)) := ⟨rfl, rfl, rfl, by decide +kernel, rfl, by decide +kernel, by decide +kernel⟩
theorem bi_are_parts {f : Addr} {fd : FuncData} (h : FunD K "are_parts" "are_parts" (defArgs (top 21)) (defBody (top 21)) (defScope (top 21)) [] [] f fd) : Binds K fd ["thing", "deep"] [] := h.bindsN fun _ _ _ _ _ _ us hl => match us, hl with | [_, _], _ => rfl
theorem w_are_parts (M : Mods K mg) (A : AllOk P w K mg base k g) : FnG P w K mg base (k + 1) "are_parts" ["thing", "deep"] (fFun 3 (b_are_parts g)) := by
  obtain ⟨f, fd, hm, F⟩ := M.d_are_parts
  refine ⟨f, fd, hm, F.kp, bi_are_parts F, fn_ok F sc_are_parts (by decide) fun cdv A1 outer s H E hr tk hp => ?_⟩
  exact (jb_one (js_ret (je_and (je_cb cs_isi M.n_isinstance (by decide +kernel) (ja_cons (je_var 0) (ja_cons (je_ty (n := "tuple") M.n_tuple (by decide +kernel)) ja_nil))) (je_and (je_cmp (opS' op_gtD) (je_cb cs_len M.n_len (by decide +kernel) (ja_cons (je_var 0) ja_nil)) je_int) (je_one (je_cb (cs_all rfl) M.n_all (by decide +kernel) (ja_cons (je_lc (own := [("part", 2)]) rfl sc_are_parts.nd (ji_seq (je_var 0)) (blkOk_by (own := [("part", 2)]) (N := ["thing", "deep", "part"]) (sc := defScope (top 21)) (by decide +kernel)) (gok_name (i := 2) (by decide)) (fun _ _ _ _ _ => (pg_name (i := 2) sc_are_parts.nd rfl (by first | exact Or.inl rfl | exact Or.inr rfl))) (fun _ _ _ _ _ => jts_nil) (fun _ _ _ _ _ => (je_call A.is_part hr takes_WF rfl (ja_cons (je_var 2) (ja_cons (je_var 1) ja_nil)) (ln1 (ln1 ln0))))) ja_nil)))))))
theorem sc_parts_of : FnScope ["tree"] ["tree"] (defScope (top 22)) := ⟨rfl, rfl, rfl, by decide +kernel, rfl, by decide +kernel, by decide +kernel⟩
theorem bi_parts_of {f : Addr} {fd : FuncData} (h : FunD K "parts_of" "parts_of" (defArgs (top 22)) (defBody (top 22)) (defScope (top 22)) [] [] f fd) : Binds K fd ["tree"] [] := h.bindsN fun _ _ _ _ _ _ us hl => match us, hl with | [_], _ => rfl
theorem w_parts_of (M : Mods K mg) (A : AllOk P w K mg base k g) : FnG P w K mg base (k + 1) "parts_of" ["tree"] (fFun 1 (b_parts_of g)) := by
  obtain ⟨f, fd, hm, F⟩ := M.d_parts_of
  refine ⟨f, fd, hm, F.kp, bi_parts_of F, fn_ok F sc_parts_of (by decide) fun cdv A1 outer s H E hr tk hp => ?_⟩
  exact (jb_cons (js_if (jt_cmp (opS' (op_inDD (hu65 hr))) (je_ix (je_var 0) je_int) (je_glob M.g_MANY_KINDS)) (jb_one (js_ret (je_ix (je_var 0) je_int))) jb_nil)
  (jb_cons (js_if (jt_cmp (opS' (op_inDD (hu65 hr))) (je_ix (je_var 0) je_int) (je_glob M.g_ONE_KINDS)) (jb_one (js_ret (je_tup (ja_cons (je_ix (je_var 0) je_int) ja_nil) (ln1 ln0)))) jb_nil)
  (jb_cons (js_if (jt_cmp (opS' (op_inDD (hu65 hr))) (je_ix (je_var 0) je_int) (je_glob M.g_COUNT_KINDS)) (jb_one (js_ret (je_tup (ja_cons (je_ix (je_var 0) je_int) ja_nil) (ln1 ln0)))) jb_nil)
  (jb_cons (js_if (jt_cmp (opS' (op_eqDD hr.units)) (je_ix (je_var 0) je_int) je_str) (jb_one (js_ret (je_ix (je_var 0) je_int))) jb_nil)
  (jb_one (js_ret (je_tup ja_nil ln0)))))))
theorem sc_size_of : FnScope ["tree", "part"] ["tree"] (defScope (top 23)) := ⟨rfl, rfl, rfl, by decide +kernel, rfl, by decide +kernel, by decide +kernel⟩
theorem bi_size_of {f : Addr} {fd : FuncData} (h : FunD K "size_of" "size_of" (defArgs (top 23)) (defBody (top 23)) (defScope (top 23)) [] [] f fd) : Binds K fd ["tree"] [] := h.bindsN fun _ _ _ _ _ _ us hl => match us, hl with | [_], _ => rfl
theorem w_size_of (M : Mods K mg) (A : AllOk P w K mg base k g) : FnG P w K mg base (k + 1) "size_of" ["tree"] (fFun 2 (b_size_of g)) := by
  obtain ⟨f, fd, hm, F⟩ := M.d_size_of
  refine ⟨f, fd, hm, F.kp, bi_size_of F, fn_ok F sc_size_of (by decide) fun cdv A1 outer s H E hr tk hp => ?_⟩
  exact (jb_one (js_ret (je_bin (opS op_addD) je_int (je_cb (cs_sum rfl) M.n_sum (by decide +kernel) (ja_cons (je_lc (own := [("part", 1)]) rfl sc_size_of.nd (ji_seq (je_call A.parts_of hr tk rfl (ja_cons (je_var 0) ja_nil) (ln1 ln0))) (blkOk_by (own := [("part", 1)]) (N := ["tree", "part"]) (sc := defScope (top 23)) (by decide +kernel)) (gok_name (i := 1) (by decide)) (fun _ _ _ _ _ => (pg_name (i := 1) sc_size_of.nd rfl (by first | exact Or.inl rfl | exact Or.inr rfl))) (fun _ _ _ _ _ => jts_nil) (fun _ _ _ _ _ => (je_call A.size_of hr takes_WF rfl (ja_cons (je_var 1) ja_nil) (ln1 ln0)))) ja_nil)))))
theorem sc_is_tree : FnScope ["thing"] ["thing"] (defScope (top 24)) := ⟨rfl, rfl, rfl, by decide +kernel, rfl, by decide +kernel, by decide +kernel⟩
theorem bi_is_tree {f : Addr} {fd : FuncData} (h : FunD K "is_tree" "is_tree" (defArgs (top 24)) (defBody (top 24)) (defScope (top 24)) [] [] f fd) : Binds K fd ["thing"] [] := h.bindsN fun _ _ _ _ _ _ us hl => match us, hl with | [_], _ => rfl
theorem w_is_tree (M : Mods K mg) (A : AllOk P w K mg base k g) : FnG P w K mg base (k + 1) "is_tree" ["thing"] (fFun 1 (b_is_tree g)) := by
  obtain ⟨f, fd, hm, F⟩ := M.d_is_tree
  refine ⟨f, fd, hm, F.kp, bi_is_tree F, fn_ok F sc_is_tree (by decide) fun cdv A1 outer s H E hr tk hp => ?_⟩
  exact (jb_one (js_ret (je_and (je_call A.is_part hr tk rfl (ja_cons (je_var 0) (ja_cons (je_glob M.g_DEEP) ja_nil)) (ln1 (ln1 ln0))) (je_one (je_cmp (opS' op_leD) (je_call A.size_of hr tk rfl (ja_cons (je_var 0) ja_nil) (ln1 ln0)) (je_glob M.g_SIZE))))))
theorem sc_need_tree : FnScope ["thing"] ["thing"] (defScope (top 25)) := ⟨rfl, rfl, rfl, by decide +kernel, rfl, by decide +kernel, by decide +kernel⟩
theorem bi_need_tree {f : Addr} {fd : FuncData} (h : FunD K "need_tree" "need_tree" (defArgs (top 25)) (defBody (top 25)) (defScope (top 25)) [] [] f fd) : Binds K fd ["thing"] [] := h.bindsN fun _ _ _ _ _ _ us hl => match us, hl with | [_], _ => rfl
theorem w_need_tree (M : Mods K mg) (A : AllOk P w K mg base k g) : FnG P w K mg base (k + 1) "need_tree" ["thing"] (fFun 1 (b_need_tree g)) := by
  obtain ⟨f, fd, hm, F⟩ := M.d_need_tree
  refine ⟨f, fd, hm, F.kp, bi_need_tree F, fn_ok F sc_need_tree (by decide) fun cdv A1 outer s H E hr tk hp => ?_⟩
  exact (jb_one (js_if (jt_not (jt_val (je_call A.is_tree hr tk rfl (ja_cons (je_var 0) ja_nil) (ln1 ln0)))) (jb_one (js_raise M.x_NoTree rfl tk)) jb_nil))
theorem sc_head_of : FnScope ["tree"] ["tree"] (defScope (top 28)) := ⟨rfl, rfl, rfl, by decide +kernel, rfl, by decide +kernel, by decide +kernel⟩
theorem bi_head_of {f : Addr} {fd : FuncData} (h : FunD K "head_of" "head_of" (defArgs (top 28)) (defBody (top 28)) (defScope (top 28)) [] [] f fd) : Binds K fd ["tree"] [] := h.bindsN fun _ _ _ _ _ _ us hl => match us, hl with | [_], _ => rfl
theorem w_head_of (M : Mods K mg) (A : AllOk P w K mg base k g) : FnG P w K mg base (k + 1) "head_of" ["tree"] (fFun 1 (b_head_of g)) := by
  obtain ⟨f, fd, hm, F⟩ := M.d_head_of
  refine ⟨f, fd, hm, F.kp, bi_head_of F, fn_ok F sc_head_of (by decide) fun cdv A1 outer s H E hr tk hp => ?_⟩
  exact (jb_cons (js_if (jt_cmp (opS' (op_eqDD hr.units)) (je_ix (je_var 0) je_int) je_str) (jb_one (js_ret (je_bin (opS op_addD) je_str (je_ix (je_var 0) je_int)))) jb_nil)
  (jb_cons (js_if (jt_cmp (opS' (op_eqDD hr.units)) (je_ix (je_var 0) je_int) je_str) (jb_one (js_ret (je_bin (opS op_addD) (je_bin (opS op_addD) je_str (je_ix (je_var 0) je_int)) (je_ix (je_lst (ja_cons je_str (ja_cons je_str ja_nil)) (ln1 (ln1 ln0))) (je_cty cs_int M.n_int (by decide +kernel) (ja_cons (je_ix (je_var 0) je_int) ja_nil)))))) jb_nil)
  (jb_cons (js_if (jt_cmp (opS' (op_eqDD hr.units)) (je_ix (je_var 0) je_int) je_str) (jb_one (js_ret (je_mt ms_join PySem.F.plainAttrs_str PySem.F.slot_str_join PySem.F.type_str_join je_str (ja_cons (je_lst (ja_cons je_str (ja_cons (je_ix (je_var 0) je_int) (ja_cons (je_cty cs_str M.n_str (by decide +kernel) (ja_cons (je_ix (je_var 0) je_int) ja_nil)) (ja_cons (je_ix (je_var 0) je_int) ja_nil)))) (ln1 (ln1 (ln1 (ln1 ln0))))) ja_nil)))) jb_nil)
  (jb_cons (js_if (jt_w (jw_or (jt_cmp (opS' (op_inDD (hu65 hr))) (je_ix (je_var 0) je_int) (je_glob M.g_COUNT_KINDS)) (jw_or1 (jt_cmp (opS' (op_eqDD hr.units)) (je_ix (je_var 0) je_int) je_str)))) (jb_one (js_ret (je_bin (opS op_addD) (je_bin (opS op_addD) (je_ix (je_var 0) je_int) je_str) (je_cty cs_str M.n_str (by decide +kernel) (ja_cons (je_ix (je_var 0) je_int) ja_nil))))) jb_nil)
  (jb_one (js_ret (je_ix (je_var 0) je_int)))))))
theorem sc_text_of : FnScope ["tree", "part"] ["tree"] (defScope (top 29)) := ⟨rfl, rfl, rfl, by decide +kernel, rfl, by decide +kernel, by decide +kernel⟩
theorem bi_text_of {f : Addr} {fd : FuncData} (h : FunD K "text_of" "text_of" (defArgs (top 29)) (defBody (top 29)) (defScope (top 29)) [] [] f fd) : Binds K fd ["tree"] [] := h.bindsN fun _ _ _ _ _ _ us hl => match us, hl with | [_], _ => rfl
theorem w_text_of (M : Mods K mg) (A : AllOk P w K mg base k g) : FnG P w K mg base (k + 1) "text_of" ["tree"] (fFun 2 (b_text_of g)) := by
  obtain ⟨f, fd, hm, F⟩ := M.d_text_of
  refine ⟨f, fd, hm, F.kp, bi_text_of F, fn_ok F sc_text_of (by decide) fun cdv A1 outer s H E hr tk hp => ?_⟩
  exact (jb_cons (js_if (jt_cmp (opS' (op_eqDD hr.units)) (je_call A.parts_of hr tk rfl (ja_cons (je_var 0) ja_nil) (ln1 ln0)) (je_tup ja_nil ln0)) (jb_one (js_ret (je_call A.head_of hr tk rfl (ja_cons (je_var 0) ja_nil) (ln1 ln0)))) jb_nil)
  (jb_one (js_ret (je_bin (opS op_addD) (je_bin (opS op_addD) (je_bin (opS op_addD) (je_call A.head_of hr tk rfl (ja_cons (je_var 0) ja_nil) (ln1 ln0)) je_str) (je_mt ms_join PySem.F.plainAttrs_str PySem.F.slot_str_join PySem.F.type_str_join je_str (ja_cons (je_lc (own := [("part", 1)]) rfl sc_text_of.nd (ji_seq (je_call A.parts_of hr tk rfl (ja_cons (je_var 0) ja_nil) (ln1 ln0))) (blkOk_by (own := [("part", 1)]) (N := ["tree", "part"]) (sc := defScope (top 29)) (by decide +kernel)) (gok_name (i := 1) (by decide)) (fun _ _ _ _ _ => (pg_name (i := 1) sc_text_of.nd rfl (by first | exact Or.inl rfl | exact Or.inr rfl))) (fun _ _ _ _ _ => jts_nil) (fun _ _ _ _ _ => (je_call A.text_of hr takes_WF rfl (ja_cons (je_var 1) ja_nil) (ln1 ln0)))) ja_nil))) je_str))))
theorem sc_shown : FnScope ["tree"] ["tree"] (defScope (top 30)) := ⟨rfl, rfl, rfl, by decide +kernel, rfl, by decide +kernel, by decide +kernel⟩
theorem bi_shown {f : Addr} {fd : FuncData} (h : FunD K "shown" "shown" (defArgs (top 30)) (defBody (top 30)) (defScope (top 30)) [] [] f fd) : Binds K fd ["tree"] [] := h.bindsN fun _ _ _ _ _ _ us hl => match us, hl with | [_], _ => rfl
theorem w_shown (M : Mods K mg) (A : AllOk P w K mg base k g) : FnG P w K mg base (k + 1) "shown" ["tree"] (fFun 1 (b_shown g)) := by
  obtain ⟨f, fd, hm, F⟩ := M.d_shown
  refine ⟨f, fd, hm, F.kp, bi_shown F, fn_ok F sc_shown (by decide) fun cdv A1 outer s H E hr tk hp => ?_⟩
  exact (jb_cons (js_expr (je_call A.need_tree hr tk rfl (ja_cons (je_var 0) ja_nil) (ln1 ln0)))
  (jb_one (js_ret (je_call A.text_of hr tk rfl (ja_cons (je_var 0) ja_nil) (ln1 ln0)))))
theorem sc_number : FnScope ["word"] ["word"] (defScope (top 31)) := ⟨rfl, rfl, rfl, by decide +kernel, rfl, by decide +kernel, by decide +kernel⟩
theorem bi_number {f : Addr} {fd : FuncData} (h : FunD K "number" "number" (defArgs (top 31)) (defBody (top 31)) (defScope (top 31)) [] [] f fd) : Binds K fd ["word"] [] := h.bindsN fun _ _ _ _ _ _ us hl => match us, hl with | [_], _ => rfl
theorem w_number (M : Mods K mg) (A : AllOk P w K mg base k g) : FnG P w K mg base (k + 1) "number" ["word"] (fFun 1 (b_number g)) := by
  obtain ⟨f, fd, hm, F⟩ := M.d_number
  refine ⟨f, fd, hm, F.kp, bi_number F, fn_ok F sc_number (by decide) fun cdv A1 outer s H E hr tk hp => ?_⟩
  exact (jb_cons (js_if (jt_w (jw_or (jt_cmp (opS' (op_neDD hr.units)) (je_cb cs_len M.n_len (by decide +kernel) (ja_cons (je_var 0) ja_nil)) je_int) (jw_or1 (jt_cmp (opS' (op_ninDD (hu65 hr))) (je_var 0) (je_glob M.g_FIGURES))))) (jb_one (js_ret je_non)) jb_nil)
  (jb_one (js_ret (je_cty cs_int M.n_int (by decide +kernel) (ja_cons (je_var 0) ja_nil)))))
theorem sc_leaf_of : FnScope ["words"] ["words"] (defScope (top 32)) := ⟨rfl, rfl, rfl, by decide +kernel, rfl, by decide +kernel, by decide +kernel⟩
theorem bi_leaf_of {f : Addr} {fd : FuncData} (h : FunD K "leaf_of" "leaf_of" (defArgs (top 32)) (defBody (top 32)) (defScope (top 32)) [] [] f fd) : Binds K fd ["words"] [] := h.bindsN fun _ _ _ _ _ _ us hl => match us, hl with | [_], _ => rfl
theorem w_leaf_of (M : Mods K mg) (A : AllOk P w K mg base k g) : FnG P w K mg base (k + 1) "leaf_of" ["words"] (fFun 1 (b_leaf_of g)) := by
  obtain ⟨f, fd, hm, F⟩ := M.d_leaf_of
  refine ⟨f, fd, hm, F.kp, bi_leaf_of F, fn_ok F sc_leaf_of (by decide) fun cdv A1 outer s H E hr tk hp => ?_⟩
  exact (jb_cons (js_if (jt_w (jw_and (jt_cmp (opS' (op_eqDD hr.units)) (je_ix (je_var 0) je_int) je_str) (jw_and1 (jt_cmp (opS' (op_eqDD hr.units)) (je_cb cs_len M.n_len (by decide +kernel) (ja_cons (je_var 0) ja_nil)) je_int)))) (jb_one (js_ret (je_tup (ja_cons je_str (ja_cons (je_ix (je_var 0) je_int) ja_nil)) (ln1 (ln1 ln0))))) jb_nil)
  (jb_cons (js_if (jt_w (jw_and (jt_cmp (opS' (op_eqDD hr.units)) (je_ix (je_var 0) je_int) je_str) (jw_and (jt_cmp (opS' (op_eqDD hr.units)) (je_cb cs_len M.n_len (by decide +kernel) (ja_cons (je_var 0) ja_nil)) je_int) (jw_and1 (jt_cmp (opS' (op_inDD (hu65 hr))) (je_ix (je_var 0) je_int) (je_tup (ja_cons je_str (ja_cons je_str ja_nil)) (ln1 (ln1 ln0)))))))) (jb_one (js_ret (je_tup (ja_cons je_str (ja_cons (je_ix (je_var 0) je_int) (ja_cons (je_cmp (opS' (op_eqDD hr.units)) (je_ix (je_var 0) je_int) je_str) ja_nil))) (ln1 (ln1 (ln1 ln0)))))) jb_nil)
  (jb_cons (js_if (jt_w (jw_and (jt_cmp (opS' (op_eqDD hr.units)) (je_ix (je_var 0) je_int) je_str) (jw_and1 (jt_cmp (opS' (op_eqDD hr.units)) (je_cb cs_len M.n_len (by decide +kernel) (ja_cons (je_var 0) ja_nil)) je_int)))) (jb_one (js_ret (je_tup (ja_cons je_str (ja_cons (je_ix (je_var 0) je_int) (ja_cons (je_call A.number hr tk rfl (ja_cons (je_ix (je_var 0) je_int) ja_nil) (ln1 ln0)) (ja_cons (je_ix (je_var 0) je_int) ja_nil)))) (ln1 (ln1 (ln1 (ln1 ln0))))))) jb_nil)
  (jb_one (js_ret je_non)))))
theorem sc_part_of : FnScope ["head", "parts", "words"] ["head", "parts"] (defScope (top 33)) := ⟨rfl, rfl, rfl, by decide +kernel, rfl, by decide +kernel, by decide +kernel⟩
theorem bi_part_of {f : Addr} {fd : FuncData} (h : FunD K "part_of" "part_of" (defArgs (top 33)) (defBody (top 33)) (defScope (top 33)) [] [] f fd) : Binds K fd ["head", "parts"] [] := h.bindsN fun _ _ _ _ _ _ us hl => match us, hl with | [_, _], _ => rfl
theorem w_part_of (M : Mods K mg) (A : AllOk P w K mg base k g) : FnG P w K mg base (k + 1) "part_of" ["head", "parts"] (fFun 3 (b_part_of g)) := by
  obtain ⟨f, fd, hm, F⟩ := M.d_part_of
  refine ⟨f, fd, hm, F.kp, bi_part_of F, fn_ok F sc_part_of (by decide) fun cdv A1 outer s H E hr tk hp => ?_⟩
  exact (jb_cons (js_set (i := 2) sc_part_of.nd (je_mt ms_split PySem.F.plainAttrs_str PySem.F.slot_str_split PySem.F.type_str_split (je_var 0) (ja_cons je_str ja_nil)))
  (jb_cons (js_if (jt_cmp (opS' (op_inDD (hu65 hr))) (je_var 0) (je_glob M.g_MANY_KINDS)) (jb_one (js_ret (je_tup (ja_cons (je_var 0) (ja_cons (je_cty cs_tuple M.n_tuple (by decide +kernel) (ja_cons (je_var 1) ja_nil)) ja_nil)) (ln1 (ln1 ln0))))) jb_nil)
  (jb_cons (js_if (jt_w (jw_and (jt_cmp (opS' (op_inDD (hu65 hr))) (je_var 0) (je_glob M.g_ONE_KINDS)) (jw_and1 (jt_cmp (opS' (op_eqDD hr.units)) (je_cb cs_len M.n_len (by decide +kernel) (ja_cons (je_var 1) ja_nil)) je_int)))) (jb_one (js_ret (je_tup (ja_cons (je_var 0) (ja_cons (je_ix (je_var 1) je_int) ja_nil)) (ln1 (ln1 ln0))))) jb_nil)
  (jb_cons (js_if (jt_cmp (opS' (op_neDD hr.units)) (je_cb cs_len M.n_len (by decide +kernel) (ja_cons (je_var 2) ja_nil)) je_int) (jb_one (js_ret je_non)) jb_nil)
  (jb_cons (js_if (jt_w (jw_and (jt_cmp (opS' (op_inDD (hu65 hr))) (je_ix (je_var 2) je_int) (je_glob M.g_COUNT_KINDS)) (jw_and1 (jt_cmp (opS' (op_eqDD hr.units)) (je_cb cs_len M.n_len (by decide +kernel) (ja_cons (je_var 1) ja_nil)) je_int)))) (jb_one (js_ret (je_tup (ja_cons (je_ix (je_var 2) je_int) (ja_cons (je_call A.number hr tk rfl (ja_cons (je_ix (je_var 2) je_int) ja_nil) (ln1 ln0)) (ja_cons (je_ix (je_var 1) je_int) ja_nil))) (ln1 (ln1 (ln1 ln0)))))) jb_nil)
  (jb_cons (js_if (jt_cmp (opS' (op_eqDD hr.units)) (je_ix (je_var 2) je_int) je_str) (jb_one (js_ret (je_tup (ja_cons je_str (ja_cons (je_call A.number hr tk rfl (ja_cons (je_ix (je_var 2) je_int) ja_nil) (ln1 ln0)) (ja_cons (je_cty cs_tuple M.n_tuple (by decide +kernel) (ja_cons (je_var 1) ja_nil)) ja_nil))) (ln1 (ln1 (ln1 ln0)))))) jb_nil)
  (jb_one (js_ret je_non))))))))
theorem sc_read_part : FnScope ["text", "at", "deep", "end", "head", "leaf", "parts", "here", "found", "part"] ["text", "at", "deep"] (defScope (top 34)) := ⟨rfl, rfl, rfl, by decide +kernel, rfl, by decide +kernel, by decide +kernel⟩
theorem bi_read_part {f : Addr} {fd : FuncData} (h : FunD K "read_part" "read_part" (defArgs (top 34)) (defBody (top 34)) (defScope (top 34)) [] [] f fd) : Binds K fd ["text", "at", "deep"] [] := h.bindsN fun _ _ _ _ _ _ us hl => match us, hl with | [_, _, _], _ => rfl
theorem w_read_part (M : Mods K mg) (A : AllOk P w K mg base k g) : FnG P w K mg base (k + 1) "read_part" ["text", "at", "deep"] (fFun 10 (b_read_part g)) := by
  obtain ⟨f, fd, hm, F⟩ := M.d_read_part
  refine ⟨f, fd, hm, F.kp, bi_read_part F, fn_ok F sc_read_part (by decide) fun cdv A1 outer s H E hr tk hp => ?_⟩
  exact (jb_cons (js_set (i := 3) sc_read_part.nd (je_var 1))
  (jb_cons (js_while WH hp (jt_w (jw_and (jt_cmp (opS' op_ltD) (je_var 3) (je_cb cs_len M.n_len (by decide +kernel) (ja_cons (je_var 0) ja_nil))) (jw_and1 (jt_cmp (opS' (op_ninDD (hu65 hr))) (je_ix (je_var 0) (je_var 3)) je_str)))) (jb_one (js_set (i := 3) sc_read_part.nd (je_bin (opS op_addD) (je_var 3) je_int))))
  (jb_cons (js_set (i := 4) sc_read_part.nd (je_sl (je_var 0) (jo_some (je_var 1)) (jo_some (je_var 3))))
  (jb_cons (js_if (jt_w (jw_or (jt_cmp (opS' (op_eqDD hr.units)) (je_var 3) (je_cb cs_len M.n_len (by decide +kernel) (ja_cons (je_var 0) ja_nil))) (jw_or1 (jt_cmp (opS' (op_neDD hr.units)) (je_ix (je_var 0) (je_var 3)) je_str)))) (jb_cons (js_set (i := 5) sc_read_part.nd (je_call A.leaf_of hr tk rfl (ja_cons (je_mt ms_split PySem.F.plainAttrs_str PySem.F.slot_str_split PySem.F.type_str_split (je_var 4) (ja_cons je_str ja_nil)) ja_nil) (ln1 ln0)))
  (jb_one (js_ret (je_if (jt_cmp op_isND (je_var 5) je_non) je_non (je_tup (ja_cons (je_var 5) (ja_cons (je_var 3) ja_nil)) (ln1 (ln1 ln0))))))) jb_nil)
  (jb_cons (js_if (jt_cmp (opS' (op_eqDD hr.units)) (je_var 2) je_int) (jb_one (js_ret je_non)) jb_nil)
  (jb_cons (js_set (i := 6) sc_read_part.nd (je_new ja_nil ln0))
  (jb_cons (js_set (i := 7) sc_read_part.nd (je_bin (opS op_addD) (je_var 3) je_int))
  (jb_one (js_while WH hp (jt_val je_bl) (jb_cons (js_set (i := 8) sc_read_part.nd (je_call A.read_part hr tk rfl (ja_cons (je_var 0) (ja_cons (je_var 7) (ja_cons (je_bin (opS' op_subD) (je_var 2) je_int) ja_nil))) (ln1 (ln1 (ln1 ln0)))))
  (jb_cons (js_if (jt_cmp op_isND (je_var 8) je_non) (jb_one (js_ret je_non)) jb_nil)
  (jb_cons (js_expr (je_mt ms_append PySem.F.plainAttrs_list PySem.F.slot_list_append PySem.F.type_list_append (je_var 6) (ja_cons (je_ix (je_var 8) je_int) ja_nil)))
  (jb_cons (js_set (i := 7) sc_read_part.nd (je_ix (je_var 8) je_int))
  (jb_cons (js_if (jt_cmp (opS' (op_eqDD hr.units)) (je_sl (je_var 0) (jo_some (je_var 7)) (jo_some (je_bin (opS op_addD) (je_var 7) je_int))) je_str) (jb_cons (js_set (i := 9) sc_read_part.nd (je_call A.part_of hr tk rfl (ja_cons (je_var 4) (ja_cons (je_var 6) ja_nil)) (ln1 (ln1 ln0))))
  (jb_one (js_ret (je_if (jt_cmp op_isND (je_var 9) je_non) je_non (je_tup (ja_cons (je_var 9) (ja_cons (je_bin (opS op_addD) (je_var 7) je_int) ja_nil)) (ln1 (ln1 ln0))))))) jb_nil)
  (jb_cons (js_if (jt_cmp (opS' (op_neDD hr.units)) (je_sl (je_var 0) (jo_some (je_var 7)) (jo_some (je_bin (opS op_addD) (je_var 7) je_int))) je_str) (jb_one (js_ret je_non)) jb_nil)
  (jb_one (js_set (i := 7) sc_read_part.nd (je_bin (opS op_addD) (je_var 7) je_int))))))))))))))))))
theorem sc_read : FnScope ["text", "found"] ["text"] (defScope (top 35)) := ⟨rfl, rfl, rfl, by decide +kernel, rfl, by decide +kernel, by decide +kernel⟩
theorem bi_read {f : Addr} {fd : FuncData} (h : FunD K "read" "read" (defArgs (top 35)) (defBody (top 35)) (defScope (top 35)) [] [] f fd) : Binds K fd ["text"] [] := h.bindsN fun _ _ _ _ _ _ us hl => match us, hl with | [_], _ => rfl
theorem w_read (M : Mods K mg) (A : AllOk P w K mg base k g) : FnG P w K mg base (k + 1) "read" ["text"] (fFun 2 (b_read g)) := by
  obtain ⟨f, fd, hm, F⟩ := M.d_read
  refine ⟨f, fd, hm, F.kp, bi_read F, fn_ok F sc_read (by decide) fun cdv A1 outer s H E hr tk hp => ?_⟩
  exact (jb_cons (js_if (jt_not (jt_val (je_cb cs_isi M.n_isinstance (by decide +kernel) (ja_cons (je_var 0) (ja_cons (je_ty (n := "str") M.n_str (by decide +kernel)) ja_nil))))) (jb_one (js_raise M.x_NoText rfl tk)) jb_nil)
  (jb_cons (js_set (i := 1) sc_read.nd (je_call A.read_part hr tk rfl (ja_cons (je_var 0) (ja_cons je_int (ja_cons je_int ja_nil))) (ln1 (ln1 (ln1 ln0)))))
  (jb_cons (js_if (jt_w (jw_or (jt_cmp op_isND (je_var 1) je_non) (jw_or (jt_cmp (opS' (op_neDD hr.units)) (je_ix (je_var 1) je_int) (je_cb cs_len M.n_len (by decide +kernel) (ja_cons (je_var 0) ja_nil))) (jw_or (jt_not (jt_val (je_call A.is_tree hr tk rfl (ja_cons (je_ix (je_var 1) je_int) ja_nil) (ln1 ln0)))) (jw_or1 (jt_cmp (opS' (op_neDD hr.units)) (je_call A.text_of hr tk rfl (ja_cons (je_ix (je_var 1) je_int) ja_nil) (ln1 ln0)) (je_var 0))))))) (jb_one (js_raise M.x_NoText rfl tk)) jb_nil)
  (jb_one (js_ret (je_ix (je_var 1) je_int))))))
theorem sc_law_cell_at : FnScope ["script", "k"] ["script", "k"] (defScope (top 37)) := ⟨rfl, rfl, rfl, by decide +kernel, rfl, by decide +kernel, by decide +kernel⟩
theorem bi_law_cell_at {f : Addr} {fd : FuncData} (h : FunD K "_law_cell_at" "_law_cell_at" (defArgs (top 37)) (defBody (top 37)) (defScope (top 37)) [] [] f fd) : Binds K fd ["script", "k"] [] := h.bindsN fun _ _ _ _ _ _ us hl => match us, hl with | [_, _], _ => rfl
theorem w_law_cell_at (M : Mods K mg) (A : AllOk P w K mg base k g) : FnG P w K mg base (k + 1) "_law_cell_at" ["script", "k"] (fFun 2 (b_law_cell_at g)) := by
  obtain ⟨f, fd, hm, F⟩ := M.d_law_cell_at
  refine ⟨f, fd, hm, F.kp, bi_law_cell_at F, fn_ok F sc_law_cell_at (by decide) fun cdv A1 outer s H E hr tk hp => ?_⟩
  exact (jb_cons (js_if (jt_cmp (opS' op_ltD) (je_var 1) (je_cb cs_len M.n_len (by decide +kernel) (ja_cons (je_var 0) ja_nil))) (jb_one (js_ret (je_ix (je_var 0) (je_var 1)))) jb_nil)
  (jb_cons (js_if (jt_cmp (opS' (op_eqDD hr.units)) (je_var 0) (je_lst ja_nil ln0)) (jb_one (js_ret je_int)) jb_nil)
  (jb_one (js_ret (je_bin (opS op_addD) (je_bin (opS op_mulD) (je_ix (je_var 0) (je_bin (opS' op_modD) (je_var 1) (je_cb cs_len M.n_len (by decide +kernel) (ja_cons (je_var 0) ja_nil)))) je_int) (je_var 1))))))
theorem sc_law_mixed : FnScope ["script", "k", "many", "drawn"] ["script", "k", "many"] (defScope (top 38)) := ⟨rfl, rfl, rfl, by decide +kernel, rfl, by decide +kernel, by decide +kernel⟩
theorem bi_law_mixed {f : Addr} {fd : FuncData} (h : FunD K "_law_mixed" "_law_mixed" (defArgs (top 38)) (defBody (top 38)) (defScope (top 38)) [] [] f fd) : Binds K fd ["script", "k", "many"] [] := h.bindsN fun _ _ _ _ _ _ us hl => match us, hl with | [_, _, _], _ => rfl
theorem w_law_mixed (M : Mods K mg) (A : AllOk P w K mg base k g) : FnG P w K mg base (k + 1) "_law_mixed" ["script", "k", "many"] (fFun 4 (b_law_mixed g)) := by
  obtain ⟨f, fd, hm, F⟩ := M.d_law_mixed
  refine ⟨f, fd, hm, F.kp, bi_law_mixed F, fn_ok F sc_law_mixed (by decide) fun cdv A1 outer s H E hr tk hp => ?_⟩
  exact (jb_cons (js_set (i := 3) sc_law_mixed.nd (je_bin (opS' op_modD) (je_bin (opS op_mulD) (je_bin (opS op_addD) (je_bin (opS op_addD) (je_call A.law_cell_at hr tk rfl (ja_cons (je_var 0) (ja_cons (je_var 1) ja_nil)) (ln1 (ln1 ln0))) (je_bin (opS op_mulD) je_int (je_var 1))) je_int) je_int) je_int))
  (jb_one (js_ret (je_bin (opS' op_modD) (je_bin (opS' op_modD) (je_bin (opS op_addD) (je_bin (opS op_addD) (je_bin (opS op_mulD) (je_var 3) (je_var 3)) (je_bin (opS op_mulD) je_int (je_var 3))) (je_var 1)) je_int) (je_var 2)))))
theorem sc_law_draw : FnScope ["script", "town", "many"] ["script", "town", "many"] (defScope (top 39)) := ⟨rfl, rfl, rfl, by decide +kernel, rfl, by decide +kernel, by decide +kernel⟩
theorem bi_law_draw {f : Addr} {fd : FuncData} (h : FunD K "_law_draw" "_law_draw" (defArgs (top 39)) (defBody (top 39)) (defScope (top 39)) [] [] f fd) : Binds K fd ["script", "town", "many"] [] := h.bindsN fun _ _ _ _ _ _ us hl => match us, hl with | [_, _, _], _ => rfl
theorem w_law_draw (M : Mods K mg) (A : AllOk P w K mg base k g) : FnG P w K mg base (k + 1) "_law_draw" ["script", "town", "many"] (fFun 3 (b_law_draw g)) := by
  obtain ⟨f, fd, hm, F⟩ := M.d_law_draw
  refine ⟨f, fd, hm, F.kp, bi_law_draw F, fn_ok F sc_law_draw (by decide) fun cdv A1 outer s H E hr tk hp => ?_⟩
  exact (jb_cons (js_expr (je_mt ms_append PySem.F.plainAttrs_list PySem.F.slot_list_append PySem.F.type_list_append (je_var 1) (ja_cons je_int ja_nil)))
  (jb_one (js_ret (je_call A.law_mixed hr tk rfl (ja_cons (je_var 0) (ja_cons (je_cb cs_len M.n_len (by decide +kernel) (ja_cons (je_var 1) ja_nil)) (ja_cons (je_var 2) ja_nil))) (ln1 (ln1 (ln1 ln0)))))))
theorem sc_law_pick : FnScope ["script", "town", "some"] ["script", "town", "some"] (defScope (top 40)) := ⟨rfl, rfl, rfl, by decide +kernel, rfl, by decide +kernel, by decide +kernel⟩
theorem bi_law_pick {f : Addr} {fd : FuncData} (h : FunD K "_law_pick" "_law_pick" (defArgs (top 40)) (defBody (top 40)) (defScope (top 40)) [] [] f fd) : Binds K fd ["script", "town", "some"] [] := h.bindsN fun _ _ _ _ _ _ us hl => match us, hl with | [_, _, _], _ => rfl
theorem w_law_pick (M : Mods K mg) (A : AllOk P w K mg base k g) : FnG P w K mg base (k + 1) "_law_pick" ["script", "town", "some"] (fFun 3 (b_law_pick g)) := by
  obtain ⟨f, fd, hm, F⟩ := M.d_law_pick
  refine ⟨f, fd, hm, F.kp, bi_law_pick F, fn_ok F sc_law_pick (by decide) fun cdv A1 outer s H E hr tk hp => ?_⟩
  exact (jb_one (js_ret (je_ix (je_var 2) (je_call A.law_draw hr tk rfl (ja_cons (je_var 0) (ja_cons (je_var 1) (ja_cons (je_cb cs_len M.n_len (by decide +kernel) (ja_cons (je_var 2) ja_nil)) ja_nil))) (ln1 (ln1 (ln1 ln0)))))))
theorem sc_law_leaf : FnScope ["script", "town", "kind", "name"] ["script", "town"] (defScope (top 41)) := ⟨rfl, rfl, rfl, by decide +kernel, rfl, by decide +kernel, by decide +kernel⟩
theorem bi_law_leaf {f : Addr} {fd : FuncData} (h : FunD K "_law_leaf" "_law_leaf" (defArgs (top 41)) (defBody (top 41)) (defScope (top 41)) [] [] f fd) : Binds K fd ["script", "town"] [] := h.bindsN fun _ _ _ _ _ _ us hl => match us, hl with | [_, _], _ => rfl
theorem w_law_leaf (M : Mods K mg) (A : AllOk P w K mg base k g) : FnG P w K mg base (k + 1) "_law_leaf" ["script", "town"] (fFun 4 (b_law_leaf g)) := by
  obtain ⟨f, fd, hm, F⟩ := M.d_law_leaf
  refine ⟨f, fd, hm, F.kp, bi_law_leaf F, fn_ok F sc_law_leaf (by decide) fun cdv A1 outer s H E hr tk hp => ?_⟩
  exact (jb_cons (js_set (i := 2) sc_law_leaf.nd (je_call A.law_draw hr tk rfl (ja_cons (je_var 0) (ja_cons (je_var 1) (ja_cons je_int ja_nil))) (ln1 (ln1 (ln1 ln0)))))
  (jb_cons (js_if (jt_cmp (opS' (op_eqDD hr.units)) (je_var 2) je_int) (jb_one (js_ret (je_tup (ja_cons je_str (ja_cons (je_call A.law_pick hr tk rfl (ja_cons (je_var 0) (ja_cons (je_var 1) (ja_cons (je_lst (ja_cons je_str (ja_cons je_str (ja_cons je_str (ja_cons je_str (ja_cons je_str ja_nil))))) (ln1 (ln1 (ln1 (ln1 (ln1 ln0)))))) ja_nil))) (ln1 (ln1 (ln1 ln0)))) ja_nil)) (ln1 (ln1 ln0))))) jb_nil)
  (jb_cons (js_if (jt_cmp (opS' (op_eqDD hr.units)) (je_var 2) je_int) (jb_one (js_ret (je_tup (ja_cons je_str (ja_cons (je_call A.law_pick hr tk rfl (ja_cons (je_var 0) (ja_cons (je_var 1) (ja_cons (je_lst (ja_cons je_str (ja_cons je_str ja_nil)) (ln1 (ln1 ln0))) ja_nil))) (ln1 (ln1 (ln1 ln0)))) (ja_cons (je_cmp (opS' (op_eqDD hr.units)) (je_call A.law_draw hr tk rfl (ja_cons (je_var 0) (ja_cons (je_var 1) (ja_cons je_int ja_nil))) (ln1 (ln1 (ln1 ln0)))) je_int) ja_nil))) (ln1 (ln1 (ln1 ln0)))))) jb_nil)
  (jb_cons (js_set (i := 3) sc_law_leaf.nd (je_call A.law_pick hr tk rfl (ja_cons (je_var 0) (ja_cons (je_var 1) (ja_cons (je_lst (ja_cons je_str (ja_cons je_str (ja_cons je_str (ja_cons je_str ja_nil)))) (ln1 (ln1 (ln1 (ln1 ln0))))) ja_nil))) (ln1 (ln1 (ln1 ln0)))))
  (jb_one (js_ret (je_tup (ja_cons je_str (ja_cons (je_var 3) (ja_cons (je_bin (opS op_addD) je_int (je_call A.law_draw hr tk rfl (ja_cons (je_var 0) (ja_cons (je_var 1) (ja_cons je_int ja_nil))) (ln1 (ln1 (ln1 ln0))))) (ja_cons (je_call A.law_pick hr tk rfl (ja_cons (je_var 0) (ja_cons (je_var 1) (ja_cons (je_lst (ja_cons je_str (ja_cons je_str ja_nil)) (ln1 (ln1 ln0))) ja_nil))) (ln1 (ln1 (ln1 ln0)))) ja_nil)))) (ln1 (ln1 (ln1 (ln1 ln0)))))))))))
theorem sc_law_part : FnScope ["script", "town", "deep", "left", "words", "word", "parts", "k"] ["script", "town", "deep", "left"] (defScope (top 42)) := ⟨rfl, rfl, rfl, by decide +kernel, rfl, by decide +kernel, by decide +kernel⟩
theorem bi_law_part {f : Addr} {fd : FuncData} (h : FunD K "_law_part" "_law_part" (defArgs (top 42)) (defBody (top 42)) (defScope (top 42)) [] [] f fd) : Binds K fd ["script", "town", "deep", "left"] [] := h.bindsN fun _ _ _ _ _ _ us hl => match us, hl with | [_, _, _, _], _ => rfl
theorem w_law_part (M : Mods K mg) (A : AllOk P w K mg base k g) : FnG P w K mg base (k + 1) "_law_part" ["script", "town", "deep", "left"] (fFun 8 (b_law_part g)) := by
  obtain ⟨f, fd, hm, F⟩ := M.d_law_part
  refine ⟨f, fd, hm, F.kp, bi_law_part F, fn_ok F sc_law_part (by decide) fun cdv A1 outer s H E hr tk hp => ?_⟩
  exact (jb_cons (js_expr (je_mt ms_append PySem.F.plainAttrs_list PySem.F.slot_list_append PySem.F.type_list_append (je_var 3) (ja_cons je_int ja_nil)))
  (jb_cons (js_if (jt_w (jw_or (jt_cmp (opS' (op_eqDD hr.units)) (je_var 2) je_int) (jw_or (jt_cmp (opS' op_gtD) (je_cb cs_len M.n_len (by decide +kernel) (ja_cons (je_var 3) ja_nil)) je_int) (jw_or1 (jt_cmp (opS' (op_eqDD hr.units)) (je_call A.law_draw hr tk rfl (ja_cons (je_var 0) (ja_cons (je_var 1) (ja_cons je_int ja_nil))) (ln1 (ln1 (ln1 ln0)))) je_int))))) (jb_one (js_ret (je_call A.law_leaf hr tk rfl (ja_cons (je_var 0) (ja_cons (je_var 1) ja_nil)) (ln1 (ln1 ln0))))) jb_nil)
  (jb_cons (js_set (i := 4) sc_law_part.nd (je_lst (ja_cons je_str (ja_cons je_str (ja_cons je_str (ja_cons je_str (ja_cons je_str (ja_cons je_str (ja_cons je_str (ja_cons je_str (ja_cons je_str (ja_cons je_str (ja_cons je_str ja_nil))))))))))) (ln1 (ln1 (ln1 (ln1 (ln1 (ln1 (ln1 (ln1 (ln1 (ln1 (ln1 ln0)))))))))))))
  (jb_cons (js_set (i := 5) sc_law_part.nd (je_call A.law_pick hr tk rfl (ja_cons (je_var 0) (ja_cons (je_var 1) (ja_cons (je_bin (opS op_addD) (je_var 4) (je_lst (ja_cons je_str (ja_cons je_str (ja_cons je_str ja_nil))) (ln1 (ln1 (ln1 ln0))))) ja_nil))) (ln1 (ln1 (ln1 ln0)))))
  (jb_cons (js_if (jt_cmp (opS' (op_inDD (hu65 hr))) (je_var 5) (je_tup (ja_cons je_str (ja_cons je_str (ja_cons je_str (ja_cons je_str ja_nil)))) (ln1 (ln1 (ln1 (ln1 ln0)))))) (jb_one (js_ret (je_tup (ja_cons (je_var 5) (ja_cons (je_call A.law_part hr tk rfl (ja_cons (je_var 0) (ja_cons (je_var 1) (ja_cons (je_bin (opS' op_subD) (je_var 2) je_int) (ja_cons (je_var 3) ja_nil)))) (ln1 (ln1 (ln1 (ln1 ln0))))) ja_nil)) (ln1 (ln1 ln0))))) jb_nil)
  (jb_cons (js_if (jt_cmp (opS' (op_inDD (hu65 hr))) (je_var 5) (je_tup (ja_cons je_str (ja_cons je_str (ja_cons je_str ja_nil))) (ln1 (ln1 (ln1 ln0))))) (jb_one (js_ret (je_tup (ja_cons (je_var 5) (ja_cons (je_bin (opS op_addD) je_int (je_call A.law_draw hr tk rfl (ja_cons (je_var 0) (ja_cons (je_var 1) (ja_cons je_int ja_nil))) (ln1 (ln1 (ln1 ln0))))) (ja_cons (je_call A.law_part hr tk rfl (ja_cons (je_var 0) (ja_cons (je_var 1) (ja_cons (je_bin (opS' op_subD) (je_var 2) je_int) (ja_cons (je_var 3) ja_nil)))) (ln1 (ln1 (ln1 (ln1 ln0))))) ja_nil))) (ln1 (ln1 (ln1 ln0)))))) jb_nil)
  (jb_cons (js_set (i := 6) sc_law_part.nd (je_cty cs_tuple M.n_tuple (by decide +kernel) (ja_cons (je_lc (own := [("k", 7)]) rfl sc_law_part.nd (ji_rng1 M.n_range (ja_cons (je_bin (opS op_addD) je_int (je_call A.law_draw hr tk rfl (ja_cons (je_var 0) (ja_cons (je_var 1) (ja_cons je_int ja_nil))) (ln1 (ln1 (ln1 ln0))))) ja_nil)) (blkOk_by (own := [("k", 7)]) (N := ["script", "town", "deep", "left", "words", "word", "parts", "k"]) (sc := defScope (top 42)) (by decide +kernel)) (gok_name (i := 7) (by decide)) (fun _ _ _ _ _ => (pg_name (i := 7) sc_law_part.nd rfl (by first | exact Or.inl rfl | exact Or.inr rfl))) (fun _ _ _ _ _ => jts_nil) (fun _ _ _ _ _ => (je_call A.law_part hr takes_WF rfl (ja_cons (je_var 0) (ja_cons (je_var 1) (ja_cons (je_bin (opS' op_subD) (je_var 2) je_int) (ja_cons (je_var 3) ja_nil)))) (ln1 (ln1 (ln1 (ln1 ln0))))))) ja_nil)))
  (jb_cons (js_if (jt_cmp (opS' (op_eqDD hr.units)) (je_var 5) je_str) (jb_one (js_ret (je_tup (ja_cons (je_var 5) (ja_cons (je_bin (opS op_addD) je_int (je_call A.law_draw hr tk rfl (ja_cons (je_var 0) (ja_cons (je_var 1) (ja_cons (je_cb cs_len M.n_len (by decide +kernel) (ja_cons (je_var 6) ja_nil)) ja_nil))) (ln1 (ln1 (ln1 ln0))))) (ja_cons (je_var 6) ja_nil))) (ln1 (ln1 (ln1 ln0)))))) jb_nil)
  (jb_one (js_ret (je_tup (ja_cons (je_var 5) (ja_cons (je_var 6) ja_nil)) (ln1 (ln1 ln0)))))))))))))
theorem sc_law_size : FnScope ["tree", "piece"] ["tree"] (defScope (top 43)) := ⟨rfl, rfl, rfl, by decide +kernel, rfl, by decide +kernel, by decide +kernel⟩
theorem bi_law_size {f : Addr} {fd : FuncData} (h : FunD K "_law_size" "_law_size" (defArgs (top 43)) (defBody (top 43)) (defScope (top 43)) [] [] f fd) : Binds K fd ["tree"] [] := h.bindsN fun _ _ _ _ _ _ us hl => match us, hl with | [_], _ => rfl
theorem w_law_size (M : Mods K mg) (A : AllOk P w K mg base k g) : FnG P w K mg base (k + 1) "_law_size" ["tree"] (fFun 2 (b_law_size g)) := by
  obtain ⟨f, fd, hm, F⟩ := M.d_law_size
  refine ⟨f, fd, hm, F.kp, bi_law_size F, fn_ok F sc_law_size (by decide) fun cdv A1 outer s H E hr tk hp => ?_⟩
  exact (jb_one (js_ret (je_bin (opS op_addD) je_int (je_cb (cs_sum rfl) M.n_sum (by decide +kernel) (ja_cons (je_lc (own := [("piece", 1)]) rfl sc_law_size.nd (ji_seq (je_call A.law_inner hr tk rfl (ja_cons (je_var 0) ja_nil) (ln1 ln0))) (blkOk_by (own := [("piece", 1)]) (N := ["tree", "piece"]) (sc := defScope (top 43)) (by decide +kernel)) (gok_name (i := 1) (by decide)) (fun _ _ _ _ _ => (pg_name (i := 1) sc_law_size.nd rfl (by first | exact Or.inl rfl | exact Or.inr rfl))) (fun _ _ _ _ _ => jts_nil) (fun _ _ _ _ _ => (je_call A.law_size hr takes_WF rfl (ja_cons (je_var 1) ja_nil) (ln1 ln0)))) ja_nil)))))
theorem sc_law_inner : FnScope ["tree"] ["tree"] (defScope (top 44)) := ⟨rfl, rfl, rfl, by decide +kernel, rfl, by decide +kernel, by decide +kernel⟩
theorem bi_law_inner {f : Addr} {fd : FuncData} (h : FunD K "_law_inner" "_law_inner" (defArgs (top 44)) (defBody (top 44)) (defScope (top 44)) [] [] f fd) : Binds K fd ["tree"] [] := h.bindsN fun _ _ _ _ _ _ us hl => match us, hl with | [_], _ => rfl
theorem w_law_inner (M : Mods K mg) (A : AllOk P w K mg base k g) : FnG P w K mg base (k + 1) "_law_inner" ["tree"] (fFun 1 (b_law_inner g)) := by
  obtain ⟨f, fd, hm, F⟩ := M.d_law_inner
  refine ⟨f, fd, hm, F.kp, bi_law_inner F, fn_ok F sc_law_inner (by decide) fun cdv A1 outer s H E hr tk hp => ?_⟩
  exact (jb_cons (js_if (jt_cmp (opS' (op_inDD (hu65 hr))) (je_ix (je_var 0) je_int) (je_tup (ja_cons je_str (ja_cons je_str (ja_cons je_str ja_nil))) (ln1 (ln1 (ln1 ln0))))) (jb_one (js_ret (je_tup ja_nil ln0))) jb_nil)
  (jb_cons (js_if (jt_cmp (opS' (op_inDD (hu65 hr))) (je_ix (je_var 0) je_int) (je_tup (ja_cons je_str (ja_cons je_str (ja_cons je_str (ja_cons je_str (ja_cons je_str (ja_cons je_str (ja_cons je_str ja_nil))))))) (ln1 (ln1 (ln1 (ln1 (ln1 (ln1 (ln1 ln0))))))))) (jb_one (js_ret (je_tup (ja_cons (je_ix (je_var 0) je_neg) ja_nil) (ln1 ln0)))) jb_nil)
  (jb_one (js_ret (je_ix (je_var 0) je_neg)))))
theorem sc_law_tree : FnScope ["script", "town", "deep", "tree"] ["script", "town", "deep"] (defScope (top 45)) := ⟨rfl, rfl, rfl, by decide +kernel, rfl, by decide +kernel, by decide +kernel⟩
theorem bi_law_tree {f : Addr} {fd : FuncData} (h : FunD K "_law_tree" "_law_tree" (defArgs (top 45)) (defBody (top 45)) (defScope (top 45)) [] [] f fd) : Binds K fd ["script", "town", "deep"] [] := h.bindsN fun _ _ _ _ _ _ us hl => match us, hl with | [_, _, _], _ => rfl
theorem w_law_tree (M : Mods K mg) (A : AllOk P w K mg base k g) : FnG P w K mg base (k + 1) "_law_tree" ["script", "town", "deep"] (fFun 4 (b_law_tree g)) := by
  obtain ⟨f, fd, hm, F⟩ := M.d_law_tree
  refine ⟨f, fd, hm, F.kp, bi_law_tree F, fn_ok F sc_law_tree (by decide) fun cdv A1 outer s H E hr tk hp => ?_⟩
  exact (jb_cons (js_set (i := 3) sc_law_tree.nd (je_call A.law_part hr tk rfl (ja_cons (je_var 0) (ja_cons (je_var 1) (ja_cons (je_var 2) (ja_cons (je_new ja_nil ln0) ja_nil)))) (ln1 (ln1 (ln1 (ln1 ln0))))))
  (jb_cons (js_while WH hp (jt_cmp (opS' op_gtD) (je_call A.law_size hr tk rfl (ja_cons (je_var 3) ja_nil) (ln1 ln0)) je_int) (jb_one (js_set (i := 3) sc_law_tree.nd (je_ix (je_call A.law_inner hr tk rfl (ja_cons (je_var 3) ja_nil) (ln1 ln0)) je_int))))
  (jb_one (js_ret (je_var 3)))))
theorem sc_law_shown : FnScope ["tree", "word", "head", "text", "at", "piece"] ["tree"] (defScope (top 46)) := ⟨rfl, rfl, rfl, by decide +kernel, rfl, by decide +kernel, by decide +kernel⟩
theorem bi_law_shown {f : Addr} {fd : FuncData} (h : FunD K "_law_shown" "_law_shown" (defArgs (top 46)) (defBody (top 46)) (defScope (top 46)) [] [] f fd) : Binds K fd ["tree"] [] := h.bindsN fun _ _ _ _ _ _ us hl => match us, hl with | [_], _ => rfl
theorem w_law_shown (M : Mods K mg) (A : AllOk P w K mg base k g) : FnG P w K mg base (k + 1) "_law_shown" ["tree"] (fFun 6 (b_law_shown g)) := by
  obtain ⟨f, fd, hm, F⟩ := M.d_law_shown
  refine ⟨f, fd, hm, F.kp, bi_law_shown F, fn_ok F sc_law_shown (by decide) fun cdv A1 outer s H E hr tk hp => ?_⟩
  exact (jb_cons (js_set (i := 1) sc_law_shown.nd (je_ix (je_var 0) je_int))
  (jb_cons (js_if (jt_cmp (opS' (op_eqDD hr.units)) (je_var 1) je_str) (jb_one (js_ret (je_bin (opS op_addD) je_str (je_ix (je_var 0) je_int)))) jb_nil)
  (jb_cons (js_if (jt_cmp (opS' (op_eqDD hr.units)) (je_var 1) je_str) (jb_one (js_ret (je_bin (opS op_addD) (je_bin (opS op_addD) je_str (je_ix (je_var 0) je_int)) (je_if (jt_val (je_ix (je_var 0) je_int)) je_str je_str)))) jb_nil)
  (jb_cons (js_if (jt_cmp (opS' (op_eqDD hr.units)) (je_var 1) je_str) (jb_one (js_ret (je_bin (opS op_addD) (je_bin (opS op_addD) (je_bin (opS op_addD) (je_bin (opS op_addD) (je_bin (opS op_addD) je_str (je_ix (je_var 0) je_int)) je_str) (je_cty cs_str M.n_str (by decide +kernel) (ja_cons (je_ix (je_var 0) je_int) ja_nil))) je_str) (je_ix (je_var 0) je_int)))) jb_nil)
  (jb_cons (js_set (i := 2) sc_law_shown.nd (je_var 1))
  (jb_cons (js_if (jt_cmp (opS' (op_inDD (hu65 hr))) (je_var 1) (je_tup (ja_cons je_str (ja_cons je_str (ja_cons je_str (ja_cons je_str ja_nil)))) (ln1 (ln1 (ln1 (ln1 ln0)))))) (jb_one (js_set (i := 2) sc_law_shown.nd (je_bin (opS op_addD) (je_bin (opS op_addD) (je_var 1) je_str) (je_cty cs_str M.n_str (by decide +kernel) (ja_cons (je_ix (je_var 0) je_int) ja_nil))))) jb_nil)
  (jb_cons (js_set (i := 3) sc_law_shown.nd je_str)
  (jb_cons (js_for hp rfl (ji_enum M.n_enumerate (ja_cons (je_call A.law_inner hr tk rfl (ja_cons (je_var 0) ja_nil) (ln1 ln0)) ja_nil)) (jg_tup rfl (jgs_cons (jg_name (i := 4) sc_law_shown.nd) (jgs_cons (jg_name (i := 5) sc_law_shown.nd) jgs_nil))) (jb_one (js_set (i := 3) sc_law_shown.nd (je_bin (opS op_addD) (je_bin (opS op_addD) (je_var 3) (je_bin (opS op_mulD) je_str (je_cty cs_int M.n_int (by decide +kernel) (ja_cons (je_cmp (opS' op_gtD) (je_var 4) je_int) ja_nil)))) (je_call A.law_shown hr tk rfl (ja_cons (je_var 5) ja_nil) (ln1 ln0))))))
  (jb_one (js_ret (je_bin (opS op_addD) (je_bin (opS op_addD) (je_bin (opS op_addD) (je_var 2) je_str) (je_var 3)) je_str)))))))))))
theorem sc_law_back : FnScope ["text"] ["text"] (defScope (top 47)) := ⟨rfl, rfl, rfl, by decide +kernel, rfl, by decide +kernel, by decide +kernel⟩
theorem bi_law_back {f : Addr} {fd : FuncData} (h : FunD K "_law_back" "_law_back" (defArgs (top 47)) (defBody (top 47)) (defScope (top 47)) [] [] f fd) : Binds K fd ["text"] [] := h.bindsN fun _ _ _ _ _ _ us hl => match us, hl with | [_], _ => rfl
theorem w_law_back (M : Mods K mg) (A : AllOk P w K mg base k g) : FnG P w K mg base (k + 1) "_law_back" ["text"] (fFun 1 (b_law_back g)) := by
  obtain ⟨f, fd, hm, F⟩ := M.d_law_back
  refine ⟨f, fd, hm, F.kp, bi_law_back F, fn_ok F sc_law_back (by decide) fun cdv A1 outer s H E hr tk hp => ?_⟩
  exact (jb_one (js_try rfl rfl ⟨rfl, by decide, .inl M.c_TreeError⟩ tk M.h_TreeError (fun W1 pn1 xe1 tk1 hp1 => (jb_one (js_ret (je_call A.read hr tk1 rfl (ja_cons (je_var 0) ja_nil) (ln1 ln0))))) (fun _ _ _ _ _ _ _ => (jb_one (js_ret je_non))) (fun _ _ _ _ _ z => by cases z)))
theorem sc_law_k25 : FnScope ["script", "town", "trees", "k", "tree", "other"] ["script"] (defScope (top 48)) := ⟨rfl, rfl, rfl, by decide +kernel, rfl, by decide +kernel, by decide +kernel⟩
theorem bi_law_k25 {f : Addr} {fd : FuncData} (h : FunD K "law" "law" (defArgs (top 48)) (defBody (top 48)) (defScope (top 48)) [] [] f fd) : Binds K fd ["script"] [] := h.bindsN fun _ _ _ _ _ _ us hl => match us, hl with | [_], _ => rfl
theorem w_law_k25 (M : Mods K mg) (A : AllOk P w K mg base k g) : FnG P w K mg base (k + 1) "law" ["script"] (fFun 6 (b_law_k25 g)) := by
  obtain ⟨f, fd, hm, F⟩ := M.d_law_k25
  refine ⟨f, fd, hm, F.kp, bi_law_k25 F, fn_ok F sc_law_k25 (by decide) fun cdv A1 outer s H E hr tk hp => ?_⟩
  exact (jb_cons (js_set (i := 1) sc_law_k25.nd (je_new ja_nil ln0))
  (jb_cons (js_setLc (i := 2) (own := [("k", 3)]) rfl sc_law_k25.nd (sw_true rfl rfl rfl (by decide +kernel)) (ji_rng1 M.n_range (ja_cons je_int ja_nil)) (blkOk_by (own := [("k", 3)]) (N := ["script", "town", "trees", "k", "tree", "other"]) (sc := defScope (top 48)) (by decide +kernel)) (gok_name (i := 3) (by decide)) (fun _ _ _ _ _ => (pg_name (i := 3) sc_law_k25.nd rfl (by first | exact Or.inl rfl | exact Or.inr rfl))) (fun _ _ _ _ _ => jts_nil) (fun _ _ _ _ _ => (je_call A.law_tree hr takes_WF rfl (ja_cons (je_var 0) (ja_cons (je_var 1) (ja_cons (je_call A.law_pick hr takes_WF rfl (ja_cons (je_var 0) (ja_cons (je_var 1) (ja_cons (je_lst (ja_cons je_int (ja_cons je_int (ja_cons je_int ja_nil))) (ln1 (ln1 (ln1 ln0)))) ja_nil))) (ln1 (ln1 (ln1 ln0)))) ja_nil))) (ln1 (ln1 (ln1 ln0))))))
  (jb_cons (js_for hp rfl (ji_seq (je_var 2)) (jg_name (i := 4) sc_law_k25.nd) (jb_cons (js_if (jt_w (jw_or (jt_cmp (opS' (op_neDD hr.units)) (je_call A.shown hr tk rfl (ja_cons (je_var 4) ja_nil) (ln1 ln0)) (je_call A.law_shown hr tk rfl (ja_cons (je_var 4) ja_nil) (ln1 ln0))) (jw_or1 (jt_cmp (opS' (op_neDD hr.units)) (je_call A.law_back hr tk rfl (ja_cons (je_call A.shown hr tk rfl (ja_cons (je_var 4) ja_nil) (ln1 ln0)) ja_nil) (ln1 ln0)) (je_var 4))))) (jb_one (js_ret je_bl)) jb_nil)
  (jb_one (js_for hp rfl (ji_seq (je_var 2)) (jg_name (i := 5) sc_law_k25.nd) (jb_one (js_if (jt_cmp (opS' (op_neDD hr.units)) (je_cmp (opS' (op_eqDD hr.units)) (je_call A.shown hr tk rfl (ja_cons (je_var 4) ja_nil) (ln1 ln0)) (je_call A.shown hr tk rfl (ja_cons (je_var 5) ja_nil) (ln1 ln0))) (je_cmp (opS' (op_eqDD hr.units)) (je_var 4) (je_var 5))) (jb_one (js_ret je_bl)) jb_nil))))))
  (jb_one (js_ret je_bl)))))
theorem z_any {x : Str} {i : Nat} {ps : List Str} {g : List W → Sto → Res W} (hg : ∀ ws st, g ws st = .bad) (h : DF K mg x i) (hb : ∀ {f : Addr} {fd : FuncData}, FunD K x x (defArgs (top i)) (defBody (top i)) (defScope (top i)) [] [] f fd → Binds K fd ps []) : FnG P w K mg base 0 x ps g := by
  obtain ⟨f, fd, hm, F⟩ := h
  exact ⟨f, fd, hm, F.kp, hb F, fn_zero hg⟩
theorem all_ok (M : Mods K mg) : ∀ k, AllOk P w K mg base k (R k)
  | 0 => ⟨z_any (fun _ _ => rfl) M.d_is_whole bi_is_whole, z_any (fun _ _ => rfl) M.d_is_word bi_is_word, z_any (fun _ _ => rfl) M.d_is_name bi_is_name, z_any (fun _ _ => rfl) M.d_is_flag bi_is_flag, z_any (fun _ _ => rfl) M.d_is_leaf bi_is_leaf, z_any (fun _ _ => rfl) M.d_is_part bi_is_part, z_any (fun _ _ => rfl) M.d_are_parts bi_are_parts, z_any (fun _ _ => rfl) M.d_parts_of bi_parts_of, z_any (fun _ _ => rfl) M.d_size_of bi_size_of, z_any (fun _ _ => rfl) M.d_is_tree bi_is_tree, z_any (fun _ _ => rfl) M.d_need_tree bi_need_tree, z_any (fun _ _ => rfl) M.d_head_of bi_head_of, z_any (fun _ _ => rfl) M.d_text_of bi_text_of, z_any (fun _ _ => rfl) M.d_shown bi_shown, z_any (fun _ _ => rfl) M.d_number bi_number, z_any (fun _ _ => rfl) M.d_leaf_of bi_leaf_of, z_any (fun _ _ => rfl) M.d_part_of bi_part_of, z_any (fun _ _ => rfl) M.d_read_part bi_read_part, z_any (fun _ _ => rfl) M.d_read bi_read, z_any (fun _ _ => rfl) M.d_law_cell_at bi_law_cell_at, z_any (fun _ _ => rfl) M.d_law_mixed bi_law_mixed, z_any (fun _ _ => rfl) M.d_law_draw bi_law_draw, z_any (fun _ _ => rfl) M.d_law_pick bi_law_pick, z_any (fun _ _ => rfl) M.d_law_leaf bi_law_leaf, z_any (fun _ _ => rfl) M.d_law_part bi_law_part, z_any (fun _ _ => rfl) M.d_law_size bi_law_size, z_any (fun _ _ => rfl) M.d_law_inner bi_law_inner, z_any (fun _ _ => rfl) M.d_law_tree bi_law_tree, z_any (fun _ _ => rfl) M.d_law_shown bi_law_shown, z_any (fun _ _ => rfl) M.d_law_back bi_law_back, z_any (fun _ _ => rfl) M.d_law_k25 bi_law_k25⟩
  | k + 1 => ⟨w_is_whole M (all_ok M k), w_is_word M (all_ok M k), w_is_name M (all_ok M k), w_is_flag M (all_ok M k), w_is_leaf M (all_ok M k), w_is_part M (all_ok M k), w_are_parts M (all_ok M k), w_parts_of M (all_ok M k), w_size_of M (all_ok M k), w_is_tree M (all_ok M k), w_need_tree M (all_ok M k), w_head_of M (all_ok M k), w_text_of M (all_ok M k), w_shown M (all_ok M k), w_number M (all_ok M k), w_leaf_of M (all_ok M k), w_part_of M (all_ok M k), w_read_part M (all_ok M k), w_read M (all_ok M k), w_law_cell_at M (all_ok M k), w_law_mixed M (all_ok M k), w_law_draw M (all_ok M k), w_law_pick M (all_ok M k), w_law_leaf M (all_ok M k), w_law_part M (all_ok M k), w_law_size M (all_ok M k), w_law_inner M (all_ok M k), w_law_tree M (all_ok M k), w_law_shown M (all_ok M k), w_law_back M (all_ok M k), w_law_k25 M (all_ok M k)⟩
theorem law_at (M : Mods K mg) (k : Nat) {f : Addr} {fd : FuncData} (F : FunD K "law" "law" (defArgs (top 48)) (defBody (top 48)) (defScope (top 48)) [] [] f fd) : FnOk P w K mg base (L2.CX P w) (k + 1) f fd ["script"] (spF K mg 1 (R (k + 1)).law_k25) := by
  have A : AllOk P w K mg base k (R k) := all_ok M k
  refine fn_ok F sc_law_k25 (by decide) fun cdv A1 outer s H E hr tk hp => ?_
  exact (jb_cons (js_set (i := 1) sc_law_k25.nd (je_new ja_nil ln0))
  (jb_cons (js_setLc (i := 2) (own := [("k", 3)]) rfl sc_law_k25.nd (sw_true rfl rfl rfl (by decide +kernel)) (ji_rng1 M.n_range (ja_cons je_int ja_nil)) (blkOk_by (own := [("k", 3)]) (N := ["script", "town", "trees", "k", "tree", "other"]) (sc := defScope (top 48)) (by decide +kernel)) (gok_name (i := 3) (by decide)) (fun _ _ _ _ _ => (pg_name (i := 3) sc_law_k25.nd rfl (by first | exact Or.inl rfl | exact Or.inr rfl))) (fun _ _ _ _ _ => jts_nil) (fun _ _ _ _ _ => (je_call A.law_tree hr takes_WF rfl (ja_cons (je_var 0) (ja_cons (je_var 1) (ja_cons (je_call A.law_pick hr takes_WF rfl (ja_cons (je_var 0) (ja_cons (je_var 1) (ja_cons (je_lst (ja_cons je_int (ja_cons je_int (ja_cons je_int ja_nil))) (ln1 (ln1 (ln1 ln0)))) ja_nil))) (ln1 (ln1 (ln1 ln0)))) ja_nil))) (ln1 (ln1 (ln1 ln0))))))
  (jb_cons (js_for hp rfl (ji_seq (je_var 2)) (jg_name (i := 4) sc_law_k25.nd) (jb_cons (js_if (jt_w (jw_or (jt_cmp (opS' (op_neDD hr.units)) (je_call A.shown hr tk rfl (ja_cons (je_var 4) ja_nil) (ln1 ln0)) (je_call A.law_shown hr tk rfl (ja_cons (je_var 4) ja_nil) (ln1 ln0))) (jw_or1 (jt_cmp (opS' (op_neDD hr.units)) (je_call A.law_back hr tk rfl (ja_cons (je_call A.shown hr tk rfl (ja_cons (je_var 4) ja_nil) (ln1 ln0)) ja_nil) (ln1 ln0)) (je_var 4))))) (jb_one (js_ret je_bl)) jb_nil)
  (jb_one (js_for hp rfl (ji_seq (je_var 2)) (jg_name (i := 5) sc_law_k25.nd) (jb_one (js_if (jt_cmp (opS' (op_neDD hr.units)) (je_cmp (opS' (op_eqDD hr.units)) (je_call A.shown hr tk rfl (ja_cons (je_var 4) ja_nil) (ln1 ln0)) (je_call A.shown hr tk rfl (ja_cons (je_var 5) ja_nil) (ln1 ln0))) (je_cmp (opS' (op_eqDD hr.units)) (je_var 4) (je_var 5))) (jb_one (js_ret je_bl)) jb_nil))))))
  (jb_one (js_ret je_bl)))))
end FL.k25
set_option Elab.async false
set_option linter.all false
set_option maxRecDepth 100000
set_option maxHeartbeats 4000000

/-! Printed by genall.py: the head of law_k25_whole_texts, the facts that it tells, the end. -/
namespace FL.k25
open PySem PySem.Spec PyProof.Rows L2 FL
def loose : List PySem.Str := (["TreeError", "NoTree", "NoText", "LETTERS", "FLAGS", "TICKS", "TIMES", "DEEP", "SIZE", "ENDS", "MANY_KINDS", "ONE_KINDS", "COUNT_KINDS", "is_whole", "is_word", "is_name", "is_flag", "is_leaf", "is_part", "are_parts", "parts_of", "size_of", "is_tree", "need_tree", "FIGURES", "head_of", "text_of", "shown", "number", "leaf_of"] : List PySem.Str) ++ (["part_of", "read_part", "read", "_law_cell_at", "_law_mixed", "_law_draw", "_law_pick", "_law_leaf", "_law_part", "_law_size", "_law_inner", "_law_tree", "_law_shown", "_law_back"] : List PySem.Str)
def dd_is_whole : He.DefD := ⟨("is_whole", none), "is_whole", "is_whole", defArgs (top 15), defBody (top 15), defScope (top 15), [], []⟩
def dd_is_word : He.DefD := ⟨("is_word", none), "is_word", "is_word", defArgs (top 16), defBody (top 16), defScope (top 16), [], []⟩
def dd_is_name : He.DefD := ⟨("is_name", none), "is_name", "is_name", defArgs (top 17), defBody (top 17), defScope (top 17), [], []⟩
def dd_is_flag : He.DefD := ⟨("is_flag", none), "is_flag", "is_flag", defArgs (top 18), defBody (top 18), defScope (top 18), [], []⟩
def dd_is_leaf : He.DefD := ⟨("is_leaf", none), "is_leaf", "is_leaf", defArgs (top 19), defBody (top 19), defScope (top 19), [], []⟩
def dd_is_part : He.DefD := ⟨("is_part", none), "is_part", "is_part", defArgs (top 20), defBody (top 20), defScope (top 20), [], []⟩
def dd_are_parts : He.DefD := ⟨("are_parts", none), "are_parts", "are_parts", defArgs (top 21), defBody (top 21), defScope (top 21), [], []⟩
def dd_parts_of : He.DefD := ⟨("parts_of", none), "parts_of", "parts_of", defArgs (top 22), defBody (top 22), defScope (top 22), [], []⟩
def dd_size_of : He.DefD := ⟨("size_of", none), "size_of", "size_of", defArgs (top 23), defBody (top 23), defScope (top 23), [], []⟩
def dd_is_tree : He.DefD := ⟨("is_tree", none), "is_tree", "is_tree", defArgs (top 24), defBody (top 24), defScope (top 24), [], []⟩
def dd_need_tree : He.DefD := ⟨("need_tree", none), "need_tree", "need_tree", defArgs (top 25), defBody (top 25), defScope (top 25), [], []⟩
def dd_head_of : He.DefD := ⟨("head_of", none), "head_of", "head_of", defArgs (top 28), defBody (top 28), defScope (top 28), [], []⟩
def dd_text_of : He.DefD := ⟨("text_of", none), "text_of", "text_of", defArgs (top 29), defBody (top 29), defScope (top 29), [], []⟩
def dd_shown : He.DefD := ⟨("shown", none), "shown", "shown", defArgs (top 30), defBody (top 30), defScope (top 30), [], []⟩
def dd_number : He.DefD := ⟨("number", none), "number", "number", defArgs (top 31), defBody (top 31), defScope (top 31), [], []⟩
def dd_leaf_of : He.DefD := ⟨("leaf_of", none), "leaf_of", "leaf_of", defArgs (top 32), defBody (top 32), defScope (top 32), [], []⟩
def dd_part_of : He.DefD := ⟨("part_of", none), "part_of", "part_of", defArgs (top 33), defBody (top 33), defScope (top 33), [], []⟩
def dd_read_part : He.DefD := ⟨("read_part", none), "read_part", "read_part", defArgs (top 34), defBody (top 34), defScope (top 34), [], []⟩
def dd_read : He.DefD := ⟨("read", none), "read", "read", defArgs (top 35), defBody (top 35), defScope (top 35), [], []⟩
def dd_law_cell_at : He.DefD := ⟨("_law_cell_at", none), "_law_cell_at", "_law_cell_at", defArgs (top 37), defBody (top 37), defScope (top 37), [], []⟩
def dd_law_mixed : He.DefD := ⟨("_law_mixed", none), "_law_mixed", "_law_mixed", defArgs (top 38), defBody (top 38), defScope (top 38), [], []⟩
def dd_law_draw : He.DefD := ⟨("_law_draw", none), "_law_draw", "_law_draw", defArgs (top 39), defBody (top 39), defScope (top 39), [], []⟩
def dd_law_pick : He.DefD := ⟨("_law_pick", none), "_law_pick", "_law_pick", defArgs (top 40), defBody (top 40), defScope (top 40), [], []⟩
def dd_law_leaf : He.DefD := ⟨("_law_leaf", none), "_law_leaf", "_law_leaf", defArgs (top 41), defBody (top 41), defScope (top 41), [], []⟩
def dd_law_part : He.DefD := ⟨("_law_part", none), "_law_part", "_law_part", defArgs (top 42), defBody (top 42), defScope (top 42), [], []⟩
def dd_law_size : He.DefD := ⟨("_law_size", none), "_law_size", "_law_size", defArgs (top 43), defBody (top 43), defScope (top 43), [], []⟩
def dd_law_inner : He.DefD := ⟨("_law_inner", none), "_law_inner", "_law_inner", defArgs (top 44), defBody (top 44), defScope (top 44), [], []⟩
def dd_law_tree : He.DefD := ⟨("_law_tree", none), "_law_tree", "_law_tree", defArgs (top 45), defBody (top 45), defScope (top 45), [], []⟩
def dd_law_shown : He.DefD := ⟨("_law_shown", none), "_law_shown", "_law_shown", defArgs (top 46), defBody (top 46), defScope (top 46), [], []⟩
def dd_law_back : He.DefD := ⟨("_law_back", none), "_law_back", "_law_back", defArgs (top 47), defBody (top 47), defScope (top 47), [], []⟩
def dd_law_k25 : He.DefD := ⟨("law", none), "law", "law", defArgs (top 48), defBody (top 48), defScope (top 48), [], []⟩
def fn : List He.DefD := [dd_is_whole, dd_is_word, dd_is_name, dd_is_flag, dd_is_leaf, dd_is_part, dd_are_parts, dd_parts_of, dd_size_of, dd_is_tree, dd_need_tree, dd_head_of, dd_text_of, dd_shown, dd_number, dd_leaf_of, dd_part_of, dd_read_part, dd_read, dd_law_cell_at, dd_law_mixed, dd_law_draw, dd_law_pick, dd_law_leaf, dd_law_part, dd_law_size, dd_law_inner, dd_law_tree, dd_law_shown, dd_law_back, dd_law_k25]
def fa : List He.Fa := [.glo "is_whole", .glo "is_word", .glo "is_name", .glo "is_flag", .glo "is_leaf", .glo "is_part", .glo "are_parts", .glo "parts_of", .glo "size_of", .glo "is_tree", .glo "need_tree", .glo "head_of", .glo "text_of", .glo "shown", .glo "number", .glo "leaf_of", .glo "part_of", .glo "read_part", .glo "read", .glo "_law_cell_at", .glo "_law_mixed", .glo "_law_draw", .glo "_law_pick", .glo "_law_leaf", .glo "_law_part", .glo "_law_size", .glo "_law_inner", .glo "_law_tree", .glo "_law_shown", .glo "_law_back", .glo "law", .free "all", .free "bool", .free "enumerate", .free "int", .free "isinstance", .free "len", .free "range", .free "str", .free "sum", .free "tuple", .glo "COUNT_KINDS", .int "DEEP" 5, .glo "ENDS", .str "FIGURES" "0123456789", .str "FLAGS" "abc", .str "LETTERS" "abcdefghijklmnopqrstuvwxyz", .glo "MANY_KINDS", .glo "ONE_KINDS", .int "SIZE" 14, .int "TICKS" 4, .int "TIMES" 4, .glo "NoText", .exc "NoText", .glo "NoTree", .exc "NoTree", .glo "TreeError", .exm "NoTree" "TreeError" true, .exm "NoText" "TreeError" true]
def ex (K : PySem.W.Frag) : Bool := (He.tupB K "COUNT_KINDS" [.str "again", .str "till", .str "hold"] && (He.tupB K "ENDS" [.str "yes", .str "no"] && (He.tupB K "MANY_KINDS" [.str "row", .str "choice", .str "row anew", .str "choice anew"] && (He.tupB K "ONE_KINDS" [.str "not", .str "yes", .str "no", .str "keep"] && true))))
abbrev RW : PySem.W.OpenRow := PySem.W.OpenLaw.row PySem.Challenge.rw_ticktree_k25_whole_texts
abbrev hk : PySem.W.Hook := hookM 4 fa fn ex
def ob (s : PySem.W.SharedT) : AlM := obsMG 4 fa fn ex (HandSHeadRun.getT s)
theorem ob_eq (s : PySem.W.SharedT) : ob s = hk.obs s.abs := obsMG_eq (HandSHeadRun.getT_eq s)
theorem run (w : World) : HandSHeadRun.RunEq RW (PySem.W.view RW.prog [48]) hk ob 30000 loose w := by
  intro os
  kernel_rfl
theorem mods {K : PySem.W.Frag} {h : Heap} {mg : Str → Option Value} (X : K.In h) (G : h.Ns mainGlobals mg) (c : SaysM fa fn ex K) : Mods K mg := by
  have cd := c.d
  have cx := c.x
  obtain ⟨cx0, cx⟩ := He.ba cx
  obtain ⟨cx1, cx⟩ := He.ba cx
  obtain ⟨cx2, cx⟩ := He.ba cx
  obtain ⟨cx3, cx⟩ := He.ba cx
  obtain ⟨fd0, F0⟩ := cd.def_ 0 (d := dd_is_whole) rfl
  obtain ⟨fd1, F1⟩ := cd.def_ 1 (d := dd_is_word) rfl
  obtain ⟨fd2, F2⟩ := cd.def_ 2 (d := dd_is_name) rfl
  obtain ⟨fd3, F3⟩ := cd.def_ 3 (d := dd_is_flag) rfl
  obtain ⟨fd4, F4⟩ := cd.def_ 4 (d := dd_is_leaf) rfl
  obtain ⟨fd5, F5⟩ := cd.def_ 5 (d := dd_is_part) rfl
  obtain ⟨fd6, F6⟩ := cd.def_ 6 (d := dd_are_parts) rfl
  obtain ⟨fd7, F7⟩ := cd.def_ 7 (d := dd_parts_of) rfl
  obtain ⟨fd8, F8⟩ := cd.def_ 8 (d := dd_size_of) rfl
  obtain ⟨fd9, F9⟩ := cd.def_ 9 (d := dd_is_tree) rfl
  obtain ⟨fd10, F10⟩ := cd.def_ 10 (d := dd_need_tree) rfl
  obtain ⟨fd11, F11⟩ := cd.def_ 11 (d := dd_head_of) rfl
  obtain ⟨fd12, F12⟩ := cd.def_ 12 (d := dd_text_of) rfl
  obtain ⟨fd13, F13⟩ := cd.def_ 13 (d := dd_shown) rfl
  obtain ⟨fd14, F14⟩ := cd.def_ 14 (d := dd_number) rfl
  obtain ⟨fd15, F15⟩ := cd.def_ 15 (d := dd_leaf_of) rfl
  obtain ⟨fd16, F16⟩ := cd.def_ 16 (d := dd_part_of) rfl
  obtain ⟨fd17, F17⟩ := cd.def_ 17 (d := dd_read_part) rfl
  obtain ⟨fd18, F18⟩ := cd.def_ 18 (d := dd_read) rfl
  obtain ⟨fd19, F19⟩ := cd.def_ 19 (d := dd_law_cell_at) rfl
  obtain ⟨fd20, F20⟩ := cd.def_ 20 (d := dd_law_mixed) rfl
  obtain ⟨fd21, F21⟩ := cd.def_ 21 (d := dd_law_draw) rfl
  obtain ⟨fd22, F22⟩ := cd.def_ 22 (d := dd_law_pick) rfl
  obtain ⟨fd23, F23⟩ := cd.def_ 23 (d := dd_law_leaf) rfl
  obtain ⟨fd24, F24⟩ := cd.def_ 24 (d := dd_law_part) rfl
  obtain ⟨fd25, F25⟩ := cd.def_ 25 (d := dd_law_size) rfl
  obtain ⟨fd26, F26⟩ := cd.def_ 26 (d := dd_law_inner) rfl
  obtain ⟨fd27, F27⟩ := cd.def_ 27 (d := dd_law_tree) rfl
  obtain ⟨fd28, F28⟩ := cd.def_ 28 (d := dd_law_shown) rfl
  obtain ⟨fd29, F29⟩ := cd.def_ 29 (d := dd_law_back) rfl
  obtain ⟨fd30, F30⟩ := cd.def_ 30 (d := dd_law_k25) rfl
  exact ⟨⟨_, fd0, He.glo_ok X G (cd.fact 0 (f := .glo "is_whole") rfl), F0⟩,
    ⟨_, fd1, He.glo_ok X G (cd.fact 1 (f := .glo "is_word") rfl), F1⟩,
    ⟨_, fd2, He.glo_ok X G (cd.fact 2 (f := .glo "is_name") rfl), F2⟩,
    ⟨_, fd3, He.glo_ok X G (cd.fact 3 (f := .glo "is_flag") rfl), F3⟩,
    ⟨_, fd4, He.glo_ok X G (cd.fact 4 (f := .glo "is_leaf") rfl), F4⟩,
    ⟨_, fd5, He.glo_ok X G (cd.fact 5 (f := .glo "is_part") rfl), F5⟩,
    ⟨_, fd6, He.glo_ok X G (cd.fact 6 (f := .glo "are_parts") rfl), F6⟩,
    ⟨_, fd7, He.glo_ok X G (cd.fact 7 (f := .glo "parts_of") rfl), F7⟩,
    ⟨_, fd8, He.glo_ok X G (cd.fact 8 (f := .glo "size_of") rfl), F8⟩,
    ⟨_, fd9, He.glo_ok X G (cd.fact 9 (f := .glo "is_tree") rfl), F9⟩,
    ⟨_, fd10, He.glo_ok X G (cd.fact 10 (f := .glo "need_tree") rfl), F10⟩,
    ⟨_, fd11, He.glo_ok X G (cd.fact 11 (f := .glo "head_of") rfl), F11⟩,
    ⟨_, fd12, He.glo_ok X G (cd.fact 12 (f := .glo "text_of") rfl), F12⟩,
    ⟨_, fd13, He.glo_ok X G (cd.fact 13 (f := .glo "shown") rfl), F13⟩,
    ⟨_, fd14, He.glo_ok X G (cd.fact 14 (f := .glo "number") rfl), F14⟩,
    ⟨_, fd15, He.glo_ok X G (cd.fact 15 (f := .glo "leaf_of") rfl), F15⟩,
    ⟨_, fd16, He.glo_ok X G (cd.fact 16 (f := .glo "part_of") rfl), F16⟩,
    ⟨_, fd17, He.glo_ok X G (cd.fact 17 (f := .glo "read_part") rfl), F17⟩,
    ⟨_, fd18, He.glo_ok X G (cd.fact 18 (f := .glo "read") rfl), F18⟩,
    ⟨_, fd19, He.glo_ok X G (cd.fact 19 (f := .glo "_law_cell_at") rfl), F19⟩,
    ⟨_, fd20, He.glo_ok X G (cd.fact 20 (f := .glo "_law_mixed") rfl), F20⟩,
    ⟨_, fd21, He.glo_ok X G (cd.fact 21 (f := .glo "_law_draw") rfl), F21⟩,
    ⟨_, fd22, He.glo_ok X G (cd.fact 22 (f := .glo "_law_pick") rfl), F22⟩,
    ⟨_, fd23, He.glo_ok X G (cd.fact 23 (f := .glo "_law_leaf") rfl), F23⟩,
    ⟨_, fd24, He.glo_ok X G (cd.fact 24 (f := .glo "_law_part") rfl), F24⟩,
    ⟨_, fd25, He.glo_ok X G (cd.fact 25 (f := .glo "_law_size") rfl), F25⟩,
    ⟨_, fd26, He.glo_ok X G (cd.fact 26 (f := .glo "_law_inner") rfl), F26⟩,
    ⟨_, fd27, He.glo_ok X G (cd.fact 27 (f := .glo "_law_tree") rfl), F27⟩,
    ⟨_, fd28, He.glo_ok X G (cd.fact 28 (f := .glo "_law_shown") rfl), F28⟩,
    ⟨_, fd29, He.glo_ok X G (cd.fact 29 (f := .glo "_law_back") rfl), F29⟩,
    ⟨_, fd30, He.glo_ok X G (cd.fact 30 (f := .glo "law") rfl), F30⟩,
    He.free_ok X G (cd.fact 31 (f := .free "all") rfl),
    He.free_ok X G (cd.fact 32 (f := .free "bool") rfl),
    He.free_ok X G (cd.fact 33 (f := .free "enumerate") rfl),
    He.free_ok X G (cd.fact 34 (f := .free "int") rfl),
    He.free_ok X G (cd.fact 35 (f := .free "isinstance") rfl),
    He.free_ok X G (cd.fact 36 (f := .free "len") rfl),
    He.free_ok X G (cd.fact 37 (f := .free "range") rfl),
    He.free_ok X G (cd.fact 38 (f := .free "str") rfl),
    He.free_ok X G (cd.fact 39 (f := .free "sum") rfl),
    He.free_ok X G (cd.fact 40 (f := .free "tuple") rfl),
    gd_tup (zs := ["again", "till", "hold"]) X G (cd.fact 41 (f := .glo "COUNT_KINDS") rfl) cx0,
    gd_int X G (cd.fact 42 (f := .int "DEEP" 5) rfl),
    gd_tup (zs := ["yes", "no"]) X G (cd.fact 43 (f := .glo "ENDS") rfl) cx1,
    gd_str X G (cd.fact 44 (f := .str "FIGURES" "0123456789") rfl),
    gd_str X G (cd.fact 45 (f := .str "FLAGS" "abc") rfl),
    gd_str X G (cd.fact 46 (f := .str "LETTERS" "abcdefghijklmnopqrstuvwxyz") rfl),
    gd_tup (zs := ["row", "choice", "row anew", "choice anew"]) X G (cd.fact 47 (f := .glo "MANY_KINDS") rfl) cx2,
    gd_tup (zs := ["not", "yes", "no", "keep"]) X G (cd.fact 48 (f := .glo "ONE_KINDS") rfl) cx3,
    gd_int X G (cd.fact 49 (f := .int "SIZE" 14) rfl),
    gd_int X G (cd.fact 50 (f := .int "TICKS" 4) rfl),
    gd_int X G (cd.fact 51 (f := .int "TIMES" 4) rfl),
    exc_g X G (cd.fact 52 (f := .glo "NoText") rfl) (cd.fact 53 (f := .exc "NoText") rfl),
    exc_g X G (cd.fact 54 (f := .glo "NoTree") rfl) (cd.fact 55 (f := .exc "NoTree") rfl),
    He.glo_ok X G (cd.fact 56 (f := .glo "TreeError") rfl),
    fun c b hc => by
      unfold hits_TreeError_1 at hc
      split at hc
      · rename_i z
        cases hc
        rcases z with z | z
        · exact (by subst z; rw [He.glo_ok X G (cd.fact 54 (f := .glo "NoTree") rfl)]; exact He.exm_ok (cd.fact 57 (f := .exm "NoTree" "TreeError" true) rfl))
        · exact (by subst z; rw [He.glo_ok X G (cd.fact 52 (f := .glo "NoText") rfl)]; exact He.exm_ok (cd.fact 58 (f := .exm "NoText" "TreeError" true) rfl))
      · cases hc⟩
theorem facts {P : Program} {w : World} {K : PySem.W.Frag} {h : Heap} {mg : Str → Option Value} {f : Addr} (X : K.In h) (G : h.Ns mainGlobals mg) (hfa : mg ("law" : Str) = some (.ref f)) (c : SaysM fa fn ex K) :
    ∃ (fd : FuncData), (∀ (s : Shared) (u : Value), BindsTo s fd ⟨[u], []⟩ [("script", u)]) ∧ ∀ base : Heap, K.In base → base.Ns mainGlobals mg → FnOk P w K mg base (L2.CX P w) LV f fd ["script"] (spF K mg 1 (R LV).law_k25) := by
  have M := mods X G c
  obtain ⟨f1, fd1, hm1, F1⟩ := M.d_law_k25
  have e := hfa.symm.trans hm1
  cases e
  have b := FunD.bindsA (ps := ["script"]) F1 fun _ _ _ _ _ _ us hl => match us, hl with | [_], _ => rfl
  refine ⟨fd1, fun s v => b s [v] rfl, fun base _ _ => ?_⟩
  exact law_at M LV1 F1
end FL.k25
open PySem PySem.W PySem.Calls PyProof.Rows
set_option maxHeartbeats 0 in
theorem PySem.Challenge.cw_ticktree_k25_whole_texts_holds : PySem.Challenge.rw_ticktree_k25_whole_texts.Holds := by
  w_on; o_law
  refine HandSHeadRun.head_any (r := OpenLaw.row PySem.Challenge.rw_ticktree_k25_whole_texts) (q := view (OpenLaw.row PySem.Challenge.rw_ticktree_k25_whole_texts).prog [48]) (H := FL.k25.hk) (ob := FL.k25.ob) (M := 30000) (loose := FL.k25.loose) (d := HandSHeadRun.topDef (OpenLaw.row PySem.Challenge.rw_ticktree_k25_whole_texts).prog 48) (kwd := []) FL.k25.ob_eq
    (by kernel_rfl) (fun s => by kernel_rfl) FL.k25.run (by kernel_rfl) (by kernel_rfl) (by kernel_rfl) (by rfl) (by first | assumption | decide +kernel) (by decide +kernel) ⟨rfl, rfl, rfl, rfl, rfl, by decide +kernel⟩ ?hw ?hc
  case hw => w_witness2
  case hc =>
    refine FL.walk_FL (l := PySem.Challenge.rw_ticktree_k25_whole_texts) (n := 63) (k := FL.k25.LV) (x := "script") rfl (by decide) (by kernel_rfl) ⟨rfl, by decide, by decide⟩ ?F
    intro w mg fa h Y G hmg0
    obtain ⟨K, KX, c⟩ := Y
    have hmg : mg ("law" : PySem.Str) = some (.ref fa) := by
      have e : (HandSHeadRun.topDef (OpenLaw.row PySem.Challenge.rw_ticktree_k25_whole_texts).prog 48).name = ("law" : PySem.Str) := by kernel_rfl
      rw [← e]
      exact hmg0
    obtain ⟨fd, hb, hF⟩ := FL.k25.facts (P := (PySem.Challenge.rw_ticktree_k25_whole_texts).prog) (w := w) KX G hmg c
    exact ⟨K, fd, (FL.R FL.k25.LV).law_k25, KX, hb, FL.k25.law_true, hF⟩
