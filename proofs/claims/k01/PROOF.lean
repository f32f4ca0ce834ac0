import PyProof.Rows.All
import Wide.All
import OpenK.AllK
import Wide.FinOn
import HandS.ForMost
import HandS.Exc
import HandS.ExcOwn
import HandS.TryOnly
import HandS.WordsExc
import HandS.Wide
import HandS.IsInst
import HandS.Walk
import HandS.Flow
import HandS.TupAny
import HandS.TupMul
import HandS.TupLe
import HandS.SortInts
import HandS.RaiseMore
import HandS.Zip
import HandS.Conv
import KE.KRevSl
import PyProof.StrOps2
import HandS.More
import HandS.Deep
import PyProof.P3In
import HandS.TupLen
import PyProof.ListStr
import HandS.Small
import HandS.GenList
import HandS.Star
import KE.GoesZip
import PyProof.EnumMake
import HandS.Ends
import PySem.Challenge.RW_mayrows_k01_whole_texts
set_option Elab.async false
set_option linter.all false
set_option maxRecDepth 100000
set_option maxHeartbeats 1000000
namespace N
open PySem L2
/-! ### values by what they are: tuples, lists and dicts that nobody changes by value, the others by a number; tro, lro: written ones; a dict's flag: its keys are tuples -/
inductive W where
  | non | bl (b : Bool) | int (i : Int) | str (s : Str) | ty (n : String)
  | tup (xs : List W) | tro (xs : List W) | lst (xs : List W) | lro (xs : List W) | dct (t : Bool) (kvs : List (W × W))
  | ref (n : Nat) | fn (x : Str) | exo (ns : List Str) (ws : List W)
  deriving Inhabited
/-- a numbered object -/
inductive O where
  | lst (xs : List W)
  | dct (lk t : Bool) (kvs : List (W × W))
  | ins (c : Str) (fs : List (Str × W))
  deriving Inhabited
def keyK : W → Option Key
  | .int i => some (.inl i)
  | .str s => some (.inr s)
  | _ => none
def keyKs : List W → Option (List Key)
  | [] => some []
  | w :: ws => match keyK w, keyKs ws with
    | some k, some ks => some (k :: ks)
    | _, _ => none
def keyT : W → Option (List Key)
  | .tup ws => keyKs ws
  | _ => none
/-- apart from a lock -/
def bare : HO → HO
  | .frz _ (.dK q) => .dK q
  | .frz _ (.dT q) => .dT q
  | o => o
def NoH : Hp := fun _ => none
/-- the addresses: the numbered ones, those that are hidden for a while; the exception that is handled, and its dict -/
structure Ix where
  num : List Addr
  hid : List Addr
  exs : Option (Addr × Addr)
def Ix.out (ι : Ix) (a : Addr) : Prop := a ∉ ι.num ∧ a ∉ ι.hid
def Ix.add (ι : Ix) (p : Addr) : Ix := ⟨ι.num ++ [p], ι.hid, ι.exs⟩
def FxL (K : PySem.W.Frag) (ι : Ix) (H : Hp) (a : Addr) (vs : List V) : Prop := (ι.out a ∧ ∃ ob, H a = some (.frz ob (.lst vs))) ∨ SqL K NoH a vs
section
variable (K : PySem.W.Frag) (mg : Str → Option Value) (ι : Ix) (H : Hp)
mutual
inductive RW : W → V → Prop
  | non : RW .non .non
  | bl (b : Bool) : RW (.bl b) (.bl b)
  | int (i : Int) : RW (.int i) (.int i)
  | str (s : Str) : RW (.str s) (.str s)
  | ty (n : String) : RW (.ty n) (.ty n)
  | tup {ws : List W} {a : Addr} {vs : List V} : ι.out a → H a = some (.tup vs) → RWs ws vs → RW (.tup ws) (.ref a)
  | tro {ws : List W} {a : Addr} {vs : List V} : SqT K NoH a vs → RWs ws vs → RW (.tro ws) (.ref a)
  | lst {ws : List W} {a : Addr} {vs : List V} : ι.out a → H a = some (.lst vs) → RWs ws vs → RW (.lst ws) (.ref a)
  | lro {ws : List W} {a : Addr} {vs : List V} : FxL K ι H a vs → RWs ws vs → RW (.lro ws) (.ref a)
  | dctK {kvs : List (W × W)} {a : Addr} {qs : List (Key × V)} : ι.out a → Rd H a (.dK qs) → RWk kvs qs → RW (.dct false kvs) (.ref a)
  | dctT {kvs : List (W × W)} {a : Addr} {qs : List (List Key × V)} : ι.out a → Rd H a (.dT qs) → RWt kvs qs → RW (.dct true kvs) (.ref a)
  | ref {n : Nat} {a : Addr} : ι.num[n]? = some a → RW (.ref n) (.ref a)
  | fn {x : Str} {a : Addr} : mg x = some (.ref a) → RW (.fn x) (.ref a)
  | exo {ns : List Str} {ws : List W} {a d : Addr} {vs : List V} : ι.exs = some (a, d) → ι.out d → H d = some (.xd (ns.zip vs)) → RWs ws vs → RW (.exo ns ws) (.ref a)
inductive RWs : List W → List V → Prop
  | nil : RWs [] []
  | cons {w : W} {ws : List W} {v : V} {vs : List V} : RW w v → RWs ws vs → RWs (w :: ws) (v :: vs)
inductive RWk : List (W × W) → List (Key × V) → Prop
  | nil : RWk [] []
  | cons {p : W × W} {ps : List (W × W)} {q : Key × V} {qs : List (Key × V)} : keyK p.1 = some q.1 → RW p.2 q.2 → RWk ps qs → RWk (p :: ps) (q :: qs)
inductive RWt : List (W × W) → List (List Key × V) → Prop
  | nil : RWt [] []
  | cons {p : W × W} {ps : List (W × W)} {q : List Key × V} {qs : List (List Key × V)} : keyT p.1 = some q.1 → RW p.2 q.2 → RWt ps qs → RWt (p :: ps) (q :: qs)
end
end
/-- from one moment to a later one: more numbered objects; what is not numbered stays -/
structure Gro0 (ι ι' : Ix) (H H' : Hp) : Prop where
  pre : ∃ t, ι'.num = ι.num ++ t
  keep : ∀ a o, ι.out a → H a = some o → ι'.out a ∧ ∃ o', H' a = some o' ∧ bare o' = bare o
  ex : ι'.exs = ι.exs
/-- .. and what is hidden is as it was -/
structure Grow (ι ι' : Ix) (H H' : Hp) : Prop where
  g0 : Gro0 ι ι' H H'
  hid : ι'.hid = ι.hid
  hkeep : ∀ a, a ∈ ι.hid → H' a = H a
instance {ι ι' : Ix} {H H' : Hp} : CoeOut (Grow ι ι' H H') (Gro0 ι ι' H H') := ⟨Grow.g0⟩
theorem Gro0.refl {ι : Ix} {H : Hp} : Gro0 ι ι H H := ⟨⟨[], by simp⟩, fun _ o n h => ⟨n, o, h, rfl⟩, rfl⟩
theorem Grow.refl {ι : Ix} {H : Hp} : Grow ι ι H H := ⟨.refl, rfl, fun _ _ => rfl⟩
theorem Gro0.trans {ι ι1 ι2 : Ix} {H H1 H2 : Hp} (a : Gro0 ι ι1 H H1) (b : Gro0 ι1 ι2 H1 H2) : Gro0 ι ι2 H H2 := by
  obtain ⟨t, e⟩ := a.pre
  obtain ⟨u, f⟩ := b.pre
  refine ⟨⟨t ++ u, by rw [f, e, List.append_assoc]⟩, fun x o n h => ?_, b.ex.trans a.ex⟩
  obtain ⟨n1, o1, h1, e1⟩ := a.keep x o n h
  obtain ⟨n2, o2, h2, e2⟩ := b.keep x o1 n1 h1
  exact ⟨n2, o2, h2, e2.trans e1⟩
theorem Grow.trans {ι ι1 ι2 : Ix} {H H1 H2 : Hp} (a : Grow ι ι1 H H1) (b : Grow ι1 ι2 H1 H2) : Grow ι ι2 H H2 :=
  ⟨a.g0.trans b.g0, b.hid.trans a.hid, fun x hx => (b.hkeep x (by rw [a.hid]; exact hx)).trans (a.hkeep x hx)⟩
theorem bare_lst {o : HO} {vs : List V} (h : bare o = .lst vs) : o = .lst vs := by
  unfold bare at h; split at h <;> simp_all
theorem bare_xd {o : HO} {q : List (Str × V)} (h : bare o = .xd q) : o = .xd q := by
  unfold bare at h; split at h <;> simp_all
theorem bare_tup {o : HO} {vs : List V} (h : bare o = .tup vs) : o = .tup vs := by
  unfold bare at h; split at h <;> simp_all
theorem bare_fl {o : HO} {ob : Obj} {vs : List V} (h : bare o = .frz ob (.lst vs)) : o = .frz ob (.lst vs) := by
  unfold bare at h; split at h <;> simp_all
theorem bare_dK {o : HO} {q : List (Key × V)} (h : bare o = .dK q) : o = .dK q ∨ ∃ ob, o = .frz ob (.dK q) := by
  unfold bare at h; split at h <;> simp_all
theorem bare_dT {o : HO} {q : List (List Key × V)} (h : bare o = .dT q) : o = .dT q ∨ ∃ ob, o = .frz ob (.dT q) := by
  unfold bare at h; split at h <;> simp_all
section
variable {K : PySem.W.Frag} {mg : Str → Option Value} {ι ι' : Ix} {H H' : Hp}
theorem Gro0.at (g : Gro0 ι ι' H H') {n : Nat} {a : Addr} (h : ι.num[n]? = some a) : ι'.num[n]? = some a := by
  obtain ⟨t, e⟩ := g.pre
  rw [e, List.getElem?_append_left]
  · exact h
  · exact (List.getElem?_eq_some_iff.mp h).1
theorem Gro0.lst (g : Gro0 ι ι' H H') {a : Addr} {vs : List V} (n : ι.out a) (h : H a = some (.lst vs)) : ι'.out a ∧ H' a = some (.lst vs) := by
  obtain ⟨n', o', h', e⟩ := g.keep a _ n h
  rw [bare_lst e] at h'
  exact ⟨n', h'⟩
theorem Gro0.tup (g : Gro0 ι ι' H H') {a : Addr} {vs : List V} (n : ι.out a) (h : H a = some (.tup vs)) : ι'.out a ∧ H' a = some (.tup vs) := by
  obtain ⟨n', o', h', e⟩ := g.keep a _ n h
  rw [bare_tup e] at h'
  exact ⟨n', h'⟩
theorem NoH.sqT {a : Addr} {vs : List V} (h : SqT K NoH a vs) : SqT K H a vs := by
  rcases h with (h | ⟨_, h⟩) | h
  · cases h
  · cases h
  · exact .inr h
theorem Gro0.fxL (g : Gro0 ι ι' H H') {a : Addr} {vs : List V} (h : FxL K ι H a vs) : FxL K ι' H' a vs := by
  rcases h with ⟨n, ob, h⟩ | h
  · obtain ⟨n', o', h', e⟩ := g.keep a _ n h
    rw [bare_fl e] at h'
    exact .inl ⟨n', ob, h'⟩
  · exact .inr h
theorem Gro0.dK (g : Gro0 ι ι' H H') {a : Addr} {q : List (Key × V)} (n : ι.out a) (h : Rd H a (.dK q)) : ι'.out a ∧ Rd H' a (.dK q) := by
  have : ∃ o, H a = some o ∧ bare o = .dK q := by
    rcases h with h | ⟨ob, h⟩
    · exact ⟨_, h, rfl⟩
    · exact ⟨_, h, rfl⟩
  obtain ⟨o, h1, e1⟩ := this
  obtain ⟨n', o', h', e⟩ := g.keep a _ n h1
  rcases bare_dK (e.trans e1) with rfl | ⟨ob, rfl⟩
  · exact ⟨n', .inl h'⟩
  · exact ⟨n', .inr ⟨ob, h'⟩⟩
theorem Gro0.dT (g : Gro0 ι ι' H H') {a : Addr} {q : List (List Key × V)} (n : ι.out a) (h : Rd H a (.dT q)) : ι'.out a ∧ Rd H' a (.dT q) := by
  have : ∃ o, H a = some o ∧ bare o = .dT q := by
    rcases h with h | ⟨ob, h⟩
    · exact ⟨_, h, rfl⟩
    · exact ⟨_, h, rfl⟩
  obtain ⟨o, h1, e1⟩ := this
  obtain ⟨n', o', h', e⟩ := g.keep a _ n h1
  rcases bare_dT (e.trans e1) with rfl | ⟨ob, rfl⟩
  · exact ⟨n', .inl h'⟩
  · exact ⟨n', .inr ⟨ob, h'⟩⟩
mutual
theorem RW.mono (g : Gro0 ι ι' H H') : ∀ (w : W) (v : V), RW K mg ι H w v → RW K mg ι' H' w v
  | .non, _, h => by cases h; exact .non
  | .bl b, _, h => by cases h; exact .bl b
  | .int b, _, h => by cases h; exact .int b
  | .str b, _, h => by cases h; exact .str b
  | .ty b, _, h => by cases h; exact .ty b
  | .tup ws, _, h => by
    cases h with
    | tup h0 h1 h2 => exact .tup (g.tup h0 h1).1 (g.tup h0 h1).2 (RWs.mono g ws _ h2)
  | .tro ws, _, h => by
    cases h with
    | tro h1 h2 => exact .tro h1 (RWs.mono g ws _ h2)
  | .lst ws, _, h => by
    cases h with
    | lst h0 h1 h2 => exact .lst (g.lst h0 h1).1 (g.lst h0 h1).2 (RWs.mono g ws _ h2)
  | .lro ws, _, h => by
    cases h with
    | lro h1 h2 => exact .lro (g.fxL h1) (RWs.mono g ws _ h2)
  | .dct _ kvs, _, h => by
    cases h with
    | dctK h0 h1 h2 => exact .dctK (g.dK h0 h1).1 (g.dK h0 h1).2 (RWk.mono g kvs _ h2)
    | dctT h0 h1 h2 => exact .dctT (g.dT h0 h1).1 (g.dT h0 h1).2 (RWt.mono g kvs _ h2)
  | .ref n, _, h => by
    cases h with
    | ref h1 => exact .ref (g.at h1)
  | .fn x, _, h => by
    cases h with
    | fn h1 => exact .fn h1
  | .exo ns ws, _, h => by
    cases h with
    | exo h0 h1 h2 h3 =>
      obtain ⟨n', o', h', e⟩ := g.keep _ _ h1 h2
      rw [bare_xd e] at h'
      exact .exo (g.ex.trans h0) n' h' (RWs.mono g ws _ h3)
theorem RWs.mono (g : Gro0 ι ι' H H') : ∀ (ws : List W) (vs : List V), RWs K mg ι H ws vs → RWs K mg ι' H' ws vs
  | [], _, h => by cases h; exact .nil
  | w :: ws, _, h => by
    cases h with
    | cons h1 h2 => exact .cons (RW.mono g w _ h1) (RWs.mono g ws _ h2)
theorem RWk.mono (g : Gro0 ι ι' H H') : ∀ (ws : List (W × W)) (vs : List (Key × V)), RWk K mg ι H ws vs → RWk K mg ι' H' ws vs
  | [], _, h => by cases h; exact .nil
  | (k, w) :: ws, _, h => by
    cases h with
    | cons h0 h1 h2 => exact .cons h0 (RW.mono g w _ h1) (RWk.mono g ws _ h2)
theorem RWt.mono (g : Gro0 ι ι' H H') : ∀ (ws : List (W × W)) (vs : List (List Key × V)), RWt K mg ι H ws vs → RWt K mg ι' H' ws vs
  | [], _, h => by cases h; exact .nil
  | (k, w) :: ws, _, h => by
    cases h with
    | cons h0 h1 h2 => exact .cons h0 (RW.mono g w _ h1) (RWt.mono g ws _ h2)
end
theorem RWs.len : ∀ {ws : List W} {vs : List V}, RWs K mg ι H ws vs → vs.length = ws.length
  | [], _, h => by cases h; rfl
  | w :: ws, _, h => by
    cases h with
    | cons h1 h2 => rw [List.length_cons, List.length_cons, RWs.len h2]
theorem RWs.at : ∀ {ws : List W} {vs : List V} {i : Nat} {w : W}, RWs K mg ι H ws vs → ws[i]? = some w → ∃ v, vs[i]? = some v ∧ RW K mg ι H w v
  | [], _, i, w, h, e => by simp at e
  | x :: ws, _, 0, w, h, e => by
    cases h with
    | cons h1 h2 =>
      have e' := Option.some.inj e
      subst e'
      exact ⟨_, rfl, h1⟩
  | x :: ws, _, i + 1, w, h, e => by
    cases h with
    | cons h1 h2 => exact RWs.at (i := i) h2 e
theorem RWs.get : ∀ {ws : List W} {vs : List V} {i : Nat} {v : V}, RWs K mg ι H ws vs → vs[i]? = some v → ∃ w, ws[i]? = some w ∧ RW K mg ι H w v
  | [], _, i, w, h, e => by cases h; simp at e
  | x :: ws, _, 0, w, h, e => by
    cases h with
    | cons h1 h2 =>
      have e' := Option.some.inj e
      subst e'
      exact ⟨_, rfl, h1⟩
  | x :: ws, _, i + 1, w, h, e => by
    cases h with
    | cons h1 h2 => exact RWs.get (i := i) h2 e
theorem RWs.app : ∀ {ws xs : List W} {vs us : List V}, RWs K mg ι H ws vs → RWs K mg ι H xs us → RWs K mg ι H (ws ++ xs) (vs ++ us)
  | [], _, _, _, h, q => by cases h; exact q
  | w :: ws, _, _, _, h, q => by
    cases h with
    | cons h1 h2 => exact .cons h1 (RWs.app h2 q)
theorem RWs.take : ∀ {ws : List W} {vs : List V} (n : Nat), RWs K mg ι H ws vs → RWs K mg ι H (ws.take n) (vs.take n)
  | _, _, 0, _ => .nil
  | [], _, n + 1, h => by cases h; exact .nil
  | w :: ws, _, n + 1, h => by
    cases h with
    | cons h1 h2 => exact .cons h1 (RWs.take n h2)
theorem RWs.drop : ∀ {ws : List W} {vs : List V} (n : Nat), RWs K mg ι H ws vs → RWs K mg ι H (ws.drop n) (vs.drop n)
  | _, _, 0, h => h
  | [], _, n + 1, h => by cases h; exact .nil
  | w :: ws, _, n + 1, h => by
    cases h with
    | cons h1 h2 => exact RWs.drop n h2
theorem RWs.rev {ws : List W} {vs : List V} (h : RWs K mg ι H ws vs) : RWs K mg ι H ws.reverse vs.reverse := by
  induction ws generalizing vs with
  | nil => cases h; exact .nil
  | cons w ws ih =>
    cases h with
    | cons h1 h2 => rw [List.reverse_cons, List.reverse_cons]; exact (ih h2).app (.cons h1 .nil)
theorem RWs.set : ∀ {ws : List W} {vs : List V} {w : W} {v : V} (n : Nat), RWs K mg ι H ws vs → RW K mg ι H w v → RWs K mg ι H (ws.set n w) (vs.set n v)
  | [], _, _, _, n, h, q => by cases h; exact .nil
  | x :: ws, _, _, _, 0, h, q => by
    cases h with
    | cons h1 h2 => exact .cons q h2
  | x :: ws, _, _, _, n + 1, h, q => by
    cases h with
    | cons h1 h2 => exact .cons h1 (RWs.set n h2 q)
theorem FxL.sq {a : Addr} {vs : List V} (h : FxL K ι H a vs) : SqL K H a vs := by
  rcases h with ⟨_, ob, h⟩ | h
  · exact .inl (.inr ⟨ob, h⟩)
  · rcases h with (h | ⟨_, h⟩) | h
    · cases h
    · cases h
    · exact .inr h
end
/-! ### the numbered objects -/
section
variable (K : PySem.W.Frag) (mg : Str → Option Value) (ι : Ix) (H : Hp)
def LkD (lk : Bool) (a : Addr) (u : HO) : Prop := if lk then ∃ ob, H a = some (.frz ob u) else H a = some u
inductive RO : O → Addr → Prop
  | lst {ws : List W} {a : Addr} {vs : List V} : H a = some (.lst vs) → RWs K mg ι H ws vs → RO (.lst ws) a
  | dctK {lk : Bool} {kvs : List (W × W)} {a : Addr} {qs : List (Key × V)} : LkD H lk a (.dK qs) → RWk K mg ι H kvs qs → RO (.dct lk false kvs) a
  | dctT {lk : Bool} {kvs : List (W × W)} {a : Addr} {qs : List (List Key × V)} : LkD H lk a (.dT qs) → RWt K mg ι H kvs qs → RO (.dct lk true kvs) a
structure Fit (h : List O) : Prop where
  nd : ι.num.Nodup
  len : ι.num.length = h.length
  obj : ∀ (n : Nat) (o : O) (a : Addr), h[n]? = some o → ι.num[n]? = some a → RO K mg ι H o a
  hd : ∀ a, a ∈ ι.hid → (∃ o, H a = some o) ∧ a ∉ ι.num
/-- the slots -/
structure Sl (z : Option (Addr × Addr)) (σn : List (Option W)) (σ : St) : Prop where
  ex : ι.exs = z
  len : σn.length = σ.length
  at' : ∀ (i : Nat) (w : W), σn[i]? = some (some w) → ∃ v, σ[i]? = some (some v) ∧ RW K mg ι H w v
end
section
variable {K : PySem.W.Frag} {mg : Str → Option Value} {ι ι' : Ix} {H H' : Hp} {h h' : List O} {σn : List (Option W)} {σ : St} {z : Option (Addr × Addr)}
theorem Sl.mono (s : Sl K mg ι H z σn σ) (g : Gro0 ι ι' H H') : Sl K mg ι' H' z σn σ := ⟨g.ex.trans s.ex, s.len, fun i w e => by
  obtain ⟨v, h1, h2⟩ := s.at' i w e
  exact ⟨v, h1, RW.mono g _ _ h2⟩⟩
theorem Sl.set (s : Sl K mg ι H z σn σ) {w : W} {v : V} (r : RW K mg ι H w v) (i : Nat) : Sl K mg ι H z (σn.set i (some w)) (σ.set i (some v)) := ⟨s.ex, by simp [s.len], fun j x e => by
  by_cases hj : i = j
  · subst hj
    by_cases hl : i < σn.length
    · rw [List.getElem?_set_self hl] at e
      cases e
      exact ⟨v, by rw [List.getElem?_set_self (by rw [← s.len]; exact hl)], r⟩
    · rw [List.getElem?_eq_none (by simpa using hl)] at e
      cases e
  · rw [List.getElem?_set_ne hj] at e ⊢
    exact s.at' j x e⟩
theorem Sl.un (s : Sl K mg ι H z σn σ) (i : Nat) (u : Option V) : Sl K mg ι H z (σn.set i none) (σ.set i u) := ⟨s.ex, by simp [s.len], fun j x e => by
  by_cases hj : i = j
  · subst hj
    by_cases hl : i < σn.length
    · rw [List.getElem?_set_self hl] at e
      cases e
    · rw [List.getElem?_eq_none (by simpa using hl)] at e
      cases e
  · rw [List.getElem?_set_ne hj] at e ⊢
    exact s.at' j x e⟩
theorem RO.trk {o : O} {a : Addr} (r : RO K mg ι H o a) : ∃ u, H a = some u := by
  cases r with
  | lst h1 _ => exact ⟨_, h1⟩
  | @dctK lk _ _ _ h1 _ => cases lk with
    | true => obtain ⟨ob, h1⟩ := h1; exact ⟨_, h1⟩
    | false => exact ⟨_, h1⟩
  | @dctT lk _ _ _ h1 _ => cases lk with
    | true => obtain ⟨ob, h1⟩ := h1; exact ⟨_, h1⟩
    | false => exact ⟨_, h1⟩
theorem Fit.trk (f : Fit K mg ι H h) {a : Addr} (ha : a ∈ ι.num) : ∃ u, H a = some u := by
  obtain ⟨n, hn, rfl⟩ := List.getElem_of_mem ha
  have hl : n < h.length := by rw [← f.len]; exact hn
  exact (f.obj n _ _ (List.getElem?_eq_getElem hl) (List.getElem?_eq_getElem hn)).trk
theorem Fit.nin (f : Fit K mg ι H h) {p : Addr} (hp : H p = none) : ι.out p := by
  refine ⟨fun hm => ?_, fun hm => ?_⟩
  · obtain ⟨u, e⟩ := f.trk hm
    rw [hp] at e; cases e
  · obtain ⟨⟨u, e⟩, _⟩ := f.hd p hm
    rw [hp] at e; cases e
theorem RO.mono {o : O} {a : Addr} (r : RO K mg ι H o a) (g : Gro0 ι ι' H H') (e : H' a = H a) : RO K mg ι' H' o a := by
  cases r with
  | lst h1 h2 => exact .lst (e.trans h1) (RWs.mono g _ _ h2)
  | dctK h1 h2 => exact .dctK (by unfold LkD at h1 ⊢; rw [e]; exact h1) (RWk.mono g _ _ h2)
  | dctT h1 h2 => exact .dctT (by unfold LkD at h1 ⊢; rw [e]; exact h1) (RWt.mono g _ _ h2)
theorem Fit.mono (f : Fit K mg ι H h) (g : Grow ι ι H H') (e : ∀ a, a ∈ ι.num → H' a = H a) : Fit K mg ι H' h :=
  ⟨f.nd, f.len, fun n o a h1 h2 => (f.obj n o a h1 h2).mono g (e a (List.mem_of_getElem? h2)), fun a ha => by rw [g.hkeep a ha]; exact f.hd a ha⟩
theorem Fit.hne (f : Fit K mg ι H h) {p a : Addr} (hp : H p = none) (ha : a ∈ ι.hid) : a ≠ p := fun z => by
  obtain ⟨⟨u, e⟩, _⟩ := f.hd a ha
  rw [z, hp] at e; cases e
/-- a new thing that is not numbered -/
theorem Fit.grow (f : Fit K mg ι H h) {p : Addr} (hp : H p = none) (o : HO) : Grow ι ι H (upd H p o) :=
  ⟨⟨⟨[], by simp⟩, fun a u n q => ⟨n, u, by rw [upd_ne (ne_of_none q hp)]; exact q, rfl⟩, rfl⟩, rfl, fun a ha => upd_ne (f.hne hp ha)⟩
theorem Fit.new (f : Fit K mg ι H h) {p : Addr} (hp : H p = none) (o : HO) : Fit K mg ι (upd H p o) h :=
  f.mono (f.grow hp o) fun a ha => upd_ne (fun z => (f.nin hp).1 (z ▸ ha))
/-- a new numbered thing -/
theorem Fit.growN (f : Fit K mg ι H h) {p : Addr} (hp : H p = none) (o : HO) : Grow ι (ι.add p) H (upd H p o) :=
  ⟨⟨⟨[p], rfl⟩, fun a u n q => by
    have hx : a ≠ p := ne_of_none q hp
    refine ⟨⟨?_, n.2⟩, u, ?_, rfl⟩
    · show a ∉ ι.num ++ [p]
      rw [List.mem_append, List.mem_singleton]
      exact fun z => z.elim n.1 hx
    · rw [upd_ne hx]; exact q, rfl⟩, rfl, fun a ha => upd_ne (f.hne hp ha)⟩
theorem Fit.push (f : Fit K mg ι H h) {p : Addr} (hp : H p = none) {o : HO} {on : O} (r : RO K mg (ι.add p) (upd H p o) on p) : Fit K mg (ι.add p) (upd H p o) (h ++ [on]) := by
  have np := (f.nin hp).1
  refine ⟨?_, by simp [f.len, Ix.add], fun n u a h1 h2 => ?_, fun a ha => ?_⟩
  · show (ι.num ++ [p]).Nodup
    rw [List.nodup_append]
    exact ⟨f.nd, by simp, fun x hx y hy => by rw [List.mem_singleton] at hy; subst hy; exact fun z => np (z ▸ hx)⟩
  · have h2 : (ι.num ++ [p])[n]? = some a := h2
    by_cases hn : n < h.length
    · rw [List.getElem?_append_left hn] at h1
      rw [List.getElem?_append_left (by rw [f.len]; exact hn)] at h2
      exact (f.obj n u a h1 h2).mono (f.growN hp o) (upd_ne fun z => np (z ▸ List.mem_of_getElem? h2))
    · have hn2 : n = h.length := by
        have := (List.getElem?_eq_some_iff.mp h1).1
        simp at this
        omega
      subst hn2
      rw [List.getElem?_append_right (Nat.le_refl _), Nat.sub_self] at h1
      rw [← f.len, List.getElem?_append_right (Nat.le_refl _), Nat.sub_self] at h2
      cases h1
      cases h2
      exact r
  · have ha : a ∈ ι.hid := ha
    obtain ⟨h1, h2⟩ := f.hd a ha
    refine ⟨by rw [upd_ne (f.hne hp ha)]; exact h1, ?_⟩
    show a ∉ ι.num ++ [p]
    rw [List.mem_append, List.mem_singleton]
    exact fun z => z.elim h2 (f.hne hp ha)
theorem Fit.growP (f : Fit K mg ι H h) {n : Nat} {a : Addr} (ha : ι.num[n]? = some a) (o : HO) : Grow ι ι H (upd H a o) :=
  ⟨⟨⟨[], by simp⟩, fun b u nb q => by
    have hx : b ≠ a := fun z => nb.1 (by rw [z]; exact List.mem_of_getElem? ha)
    exact ⟨nb, u, by rw [upd_ne hx]; exact q, rfl⟩, rfl⟩, rfl, fun b hb => upd_ne fun z => (f.hd b hb).2 (by rw [z]; exact List.mem_of_getElem? ha)⟩
/-- a numbered thing is changed -/
theorem Fit.put (f : Fit K mg ι H h) {n : Nat} {a : Addr} (ha : ι.num[n]? = some a) {o : HO} {on : O} (r : RO K mg ι (upd H a o) on a) : Fit K mg ι (upd H a o) (h.set n on) := by
  refine ⟨f.nd, by simp [f.len], fun m u b h1 h2 => ?_, fun b hb => by rw [(f.growP ha o).hkeep b hb]; exact f.hd b hb⟩
  by_cases hm : n = m
  · subst hm
    rw [ha] at h2
    cases h2
    have hl := (List.getElem?_eq_some_iff.mp h1).1
    rw [List.getElem?_set_self (by simpa using hl)] at h1
    cases h1
    exact r
  · rw [List.getElem?_set_ne hm] at h1
    have hb : b ≠ a := fun z => by
      subst z
      obtain ⟨p1, q1⟩ := List.getElem?_eq_some_iff.mp ha
      obtain ⟨p2, q2⟩ := List.getElem?_eq_some_iff.mp h2
      exact hm ((List.getElem_inj f.nd).mp (q1.trans q2.symm))
    exact (f.obj m u b h1 h2).mono (f.growP ha o) (upd_ne hb)
end
end N

set_option maxHeartbeats 1000000
namespace N
open PySem L2
/-! ### what a run gives -/
structure Ex where
  c : Str
  fs : List (Str × W)
inductive ER (α : Type) where
  | ok (a : α) (h : List O) | exc (x : Ex) (h : List O) | stuck
inductive SR where
  | nx (σ : List (Option W)) (h : List O) | rt (w : W) (h : List O) | bk (σ : List (Option W)) (h : List O) | ct (σ : List (Option W)) (h : List O)
  | exc (x : Ex) (σ : List (Option W)) (h : List O) | stuck
abbrev Slo := List (Option W)
abbrev ME := Slo → List O → ER W
abbrev MT := Slo → List O → ER Bool
abbrev MA := Slo → List O → ER (List W)
abbrev MS := Slo → List O → SR
abbrev MF := List W → List O → ER W
def ER.bind {α β : Type} (r : ER α) (f : α → List O → ER β) : ER β := match r with
  | .ok a h => f a h
  | .exc x h => .exc x h
  | .stuck => .stuck
def ER.sbind {α : Type} (r : ER α) (σ : Slo) (f : α → List O → SR) : SR := match r with
  | .ok a h => f a h
  | .exc x h => .exc x σ h
  | .stuck => .stuck
def ofO {α : Type} (h : List O) : Option α → ER α
  | some a => .ok a h
  | none => .stuck
def ofH {α : Type} : Option (α × List O) → ER α
  | some (a, h) => .ok a h
  | none => .stuck
@[simp] theorem bind_ok {α β : Type} (a : α) (h : List O) (f : α → List O → ER β) : (ER.ok a h).bind f = f a h := rfl
@[simp] theorem bind_exc {α β : Type} (x : Ex) (h : List O) (f : α → List O → ER β) : (ER.exc x h : ER α).bind f = .exc x h := rfl
@[simp] theorem bind_stuck {α β : Type} (f : α → List O → ER β) : (ER.stuck : ER α).bind f = .stuck := rfl
@[simp] theorem sbind_ok {α : Type} (a : α) (h : List O) (σ : Slo) (f : α → List O → SR) : (ER.ok a h).sbind σ f = f a h := rfl
@[simp] theorem sbind_exc {α : Type} (x : Ex) (h : List O) (σ : Slo) (f : α → List O → SR) : (ER.exc x h : ER α).sbind σ f = .exc x σ h := rfl
@[simp] theorem sbind_stuck {α : Type} (σ : Slo) (f : α → List O → SR) : (ER.stuck : ER α).sbind σ f = .stuck := rfl
@[simp] theorem ofO_some {α : Type} (h : List O) (a : α) : ofO h (some a) = .ok a h := rfl
@[simp] theorem ofO_none {α : Type} (h : List O) : ofO h (none : Option α) = .stuck := rfl
@[simp] theorem ofH_some {α : Type} (h : List O) (a : α) : ofH (some (a, h)) = .ok a h := rfl
@[simp] theorem ofH_none {α : Type} : ofH (none : Option (α × List O)) = .stuck := rfl
/-- what is handled, by the context -/
def zX (X : Cx) : Option (Addr × Addr) := if X.calm = true then none else match X.pn with
  | (a, oe) :: _ => oe.dict.map fun d => (a, d)
  | [] => none
section
variable (K : PySem.W.Frag) (mg : Str → Option Value) (z : Option (Addr × Addr))
inductive RXc : Str → Value → Prop
  | own {x : Str} {a : Addr} : mg x = some (.ref a) → RXc x (.ref a)
  | blt {x : Str} {c : Value} : mg x = none → bootBuiltins x = some c → x ≠ "__name__" → RXc x c
/-- an exception in flight -/
inductive RX (ι : Ix) (H : Hp) : Ex → Value → Option Addr → Prop
  | no {x : Str} {c : Value} : RXc mg x c → RX ι H ⟨x, []⟩ c none
  | xd {x : Str} {c : Value} {a : Addr} {fs : List (Str × W)} {qs : List (Str × V)} : RXc mg x c → ι.out a → H a = some (.xd qs) → fs.map (·.1) = qs.map (·.1) → RWs K mg ι H (fs.map (·.2)) (qs.map (·.2)) → RX ι H ⟨x, fs⟩ c (some a)
/-- behind a run from ι, H -/
def Aft {α β : Type} (ι : Ix) (H : Hp) (r : ER α) (rel : Ix → Hp → α → β → Prop) (Q : β → Hp → Prop) (E : XK) : Prop := match r with
  | .ok w h' => ∀ ι' v H', Grow ι ι' H H' → Fit K mg ι' H' h' → rel ι' H' w v → Q v H'
  | .exc x h' => ∀ ι' c d H', Grow ι ι' H H' → Fit K mg ι' H' h' → RX K mg ι' H' x c d → E c d H'
  | .stuck => False
def AftS (ι : Ix) (H : Hp) (r : SR) (D : Ends) (E : WX) : Prop := match r with
  | .nx σn h' => ∀ ι' σ' H', Grow ι ι' H H' → Fit K mg ι' H' h' → Sl K mg ι' H' z σn σ' → D.nx σ' H'
  | .rt w h' => ∀ ι' v H', Grow ι ι' H H' → Fit K mg ι' H' h' → RW K mg ι' H' w v → D.rt v H'
  | .bk σn h' => ∀ ι' σ' H', Grow ι ι' H H' → Fit K mg ι' H' h' → Sl K mg ι' H' z σn σ' → D.bk σ' H'
  | .ct σn h' => ∀ ι' σ' H', Grow ι ι' H H' → Fit K mg ι' H' h' → Sl K mg ι' H' z σn σ' → D.ct σ' H'
  | .exc x σn h' => ∀ ι' c d σ' H', Grow ι ι' H H' → Fit K mg ι' H' h' → Sl K mg ι' H' z σn σ' → RX K mg ι' H' x c d → E c d σ' H'
  | .stuck => False
/-- lifted readings -/
def tN (E : WX) (m : ME) : TE := fun σ H Q => ∃ ι σn h, Fit K mg ι H h ∧ Sl K mg ι H z σn σ ∧ Aft K mg ι H (m σn h) (RW K mg) Q (fun c d H' => E c d σ H')
def tNT (E : WX) (m : MT) : TT := fun σ H Q => ∃ ι σn h, Fit K mg ι H h ∧ Sl K mg ι H z σn σ ∧ Aft K mg ι H (m σn h) (fun _ _ a b => a = b) Q (fun c d H' => E c d σ H')
def tNA (E : WX) (m : MA) : TA := fun σ H Q => ∃ ι σn h, Fit K mg ι H h ∧ Sl K mg ι H z σn σ ∧ Aft K mg ι H (m σn h) (RWs K mg) Q (fun c d H' => E c d σ H')
def tNS (E : WX) (m : MS) : TS := fun D σ H => ∃ ι σn h, Fit K mg ι H h ∧ Sl K mg ι H z σn σ ∧ AftS K mg z ι H (m σn h) D E
end
abbrev NE (X : Cx) (E : WX) (e : Expr) (m : ME) : Prop := PE X e (tN X.K X.mg (zX X) E m)
abbrev NT (X : Cx) (E : WX) (e : Expr) (m : MT) : Prop := PT X e (tNT X.K X.mg (zX X) E m)
abbrev NW (X : Cx) (E : WX) (e : Expr) (m : MT) : Prop := PW X e (tNT X.K X.mg (zX X) E m)
abbrev NA (X : Cx) (E : WX) (es : List Expr) (m : MA) : Prop := PA X es (tNA X.K X.mg (zX X) E m)
abbrev NS (X : Cx) (E : WX) (s : Stmt) (m : MS) : Prop := PS X s (tNS X.K X.mg (zX X) E m)
abbrev NSs (X : Cx) (E : WX) (s : List Stmt) (m : MS) : Prop := PSs X s (tNS X.K X.mg (zX X) E m)
theorem PE.imp {X : Cx} {e : Expr} {t t' : TE} (h : PE X e t) (k : ∀ σ H Q, t' σ H Q → t σ H Q) : PE X e t' := ⟨fun pins s σ H Q I q => h.run pins s σ H Q I (k _ _ _ q)⟩
theorem PT.imp {X : Cx} {e : Expr} {t t' : TT} (h : PT X e t) (k : ∀ σ H Q, t' σ H Q → t σ H Q) : PT X e t' := ⟨fun pins s σ H Q I q => h.run pins s σ H Q I (k _ _ _ q)⟩
theorem PW.imp {X : Cx} {e : Expr} {t t' : TT} (h : PW X e t) (k : ∀ σ H Q, t' σ H Q → t σ H Q) : PW X e t' := ⟨fun wh pins s σ H Q I q => h.run wh pins s σ H Q I (k _ _ _ q)⟩
theorem PA.imp {X : Cx} {e : List Expr} {t t' : TA} (h : PA X e t) (k : ∀ σ H Q, t' σ H Q → t σ H Q) : PA X e t' := ⟨fun p pins s σ H Q I q => h.run p pins s σ H Q I (k _ _ _ q)⟩
theorem PS.imp {X : Cx} {e : Stmt} {t t' : TS} (h : PS X e t) (k : ∀ D σ H, t' D σ H → t D σ H) : PS X e t' := ⟨fun pins s σ H D I q => h.run pins s σ H D I (k _ _ _ q)⟩
theorem PSs.imp {X : Cx} {e : List Stmt} {t t' : TS} (h : PSs X e t) (k : ∀ D σ H, t' D σ H → t D σ H) : PSs X e t' := ⟨fun pins s σ H D I q => h.run pins s σ H D I (k _ _ _ q)⟩
section
variable {K : PySem.W.Frag} {mg : Str → Option Value} {ι ι' : Ix} {H H' : Hp} {h : List O} {σn : Slo} {σ : St} {E : WX} {z : Option (Addr × Addr)}
theorem RX.mono {x : Ex} {c : Value} {d : Option Addr} (r : RX K mg ι H x c d) (g : Grow ι ι' H H') : RX K mg ι' H' x c d := by
  cases r with
  | no h => exact .no h
  | xd h0 h1 h2 h3 h4 =>
    obtain ⟨n, o', e, f⟩ := g.g0.keep _ _ h1 h2
    rw [bare_xd f] at e
    exact .xd h0 n e h3 (RWs.mono g _ _ h4)
theorem Aft.step {α β : Type} {r : ER α} {rel : Ix → Hp → α → β → Prop} {Q : β → Hp → Prop} {E : XK} (q : Aft K mg ι H r rel Q E) (g : Grow ι ι' H H') : Aft K mg ι' H' r rel Q E := by
  cases r with
  | ok w h' => exact fun ι2 v H2 g2 => q ι2 v H2 (g.trans g2)
  | exc x h' => exact fun ι2 c d H2 g2 => q ι2 c d H2 (g.trans g2)
  | stuck => exact q
theorem AftS.step {r : SR} {D : Ends} {E : WX} (q : AftS K mg z ι H r D E) (g : Grow ι ι' H H') : AftS K mg z ι' H' r D E := by
  cases r with
  | nx s h' => exact fun ι2 v H2 g2 => q ι2 v H2 (g.trans g2)
  | rt w h' => exact fun ι2 v H2 g2 => q ι2 v H2 (g.trans g2)
  | bk s h' => exact fun ι2 v H2 g2 => q ι2 v H2 (g.trans g2)
  | ct s h' => exact fun ι2 v H2 g2 => q ι2 v H2 (g.trans g2)
  | exc x s h' => exact fun ι2 c d s2 H2 g2 => q ι2 c d s2 H2 (g.trans g2)
  | stuck => exact q
/-- one run, then another -/
theorem Aft.bind {α β γ δ : Type} {r : ER α} {f : α → List O → ER γ} {rel : Ix → Hp → α → β → Prop} {rel2 : Ix → Hp → γ → δ → Prop} {Q : δ → Hp → Prop} {Q1 : β → Hp → Prop} {E : XK}
    (q : Aft K mg ι H (r.bind f) rel2 Q E) (k : ∀ ι1 w h1 v H1, Grow ι ι1 H H1 → Fit K mg ι1 H1 h1 → rel ι1 H1 w v → Aft K mg ι1 H1 (f w h1) rel2 Q E → Q1 v H1) : Aft K mg ι H r rel Q1 E := by
  cases r with
  | ok w h' => exact fun ι2 v H2 g f2 r2 => k ι2 w h' v H2 g f2 r2 (Aft.step q g)
  | exc x h' => exact q
  | stuck => exact q
theorem Aft.sbind {α β : Type} {r : ER α} {f : α → List O → SR} {rel : Ix → Hp → α → β → Prop} {D : Ends} {Q1 : β → Hp → Prop} (s : Sl K mg ι H z σn σ)
    (q : AftS K mg z ι H (r.sbind σn f) D E) (k : ∀ ι1 w h1 v H1, Grow ι ι1 H H1 → Fit K mg ι1 H1 h1 → rel ι1 H1 w v → AftS K mg z ι1 H1 (f w h1) D E → Q1 v H1) : Aft K mg ι H r rel Q1 (fun c d H' => E c d σ H') := by
  cases r with
  | ok w h' => exact fun ι2 v H2 g f2 r2 => k ι2 w h' v H2 g f2 r2 (AftS.step q g)
  | exc x h' => exact fun ι2 c d H2 g f2 r2 => q ι2 c d σ H2 g f2 (s.mono g) r2
  | stuck => exact q
end
/-! ### names, constants -/
def mVar (i : Nat) : ME := fun σ h => match σ[i]? with
  | some (some w) => .ok w h
  | _ => .stuck
def mC (w : W) : ME := fun _ h => .ok w h
section
variable {X : Cx} {E : WX} {e a b c : Expr} {pos : Pos}
theorem ne_var {i : Nat} (p : PE X e (tVar i)) : NE X E e (mVar i) := PE.imp p fun σ H Q ⟨ι, σn, h, f, s, q⟩ => by
  unfold mVar at q
  split at q
  · rename_i w e
    obtain ⟨v, h1, h2⟩ := s.at' i w e
    exact ⟨v, h1, q ι v H .refl f h2⟩
  · exact q.elim
theorem ne_c {v : V} {w : W} (p : PE X e (tC v)) (r : ∀ ι H, RW X.K X.mg ι H w v) : NE X E e (mC w) := PE.imp p fun σ H Q ⟨ι, σn, h, f, s, q⟩ => q ι v H .refl f (r _ _)
theorem ne_int {i : Int} {j} : NE X E (.Constant (.int i) j pos) (mC (.int i)) := ne_c pe_int fun _ _ => .int _
theorem ne_bl {i : Bool} {j} : NE X E (.Constant (.bool i) j pos) (mC (.bl i)) := ne_c pe_bl fun _ _ => .bl _
theorem ne_non {j} : NE X E (.Constant .none j pos) (mC .non) := ne_c pe_non fun _ _ => .non
theorem ne_str {i : Str} {j} : NE X E (.Constant (.str i) j pos) (mC (.str i)) := ne_c pe_str fun _ _ => .str _
/-- a constant of the module -/
theorem ne_glob {x : Str} {w : W} (hg : Gl X x) (hm : ∃ u v, X.mg x = some u ∧ RelV v u ∧ ∀ ι H, RW X.K X.mg ι H w v) (hd : (x == ("__debug__" : Str)) = false := by decide) : NE X E (.Name x pos) (mC w) := by
  obtain ⟨u, v, h1, h2, h3⟩ := hm
  exact ne_c (pe_glob hg h1 h2 hd) h3
theorem ne_fn {x : Str} (hg : Gl X x) (hm : ∃ a, X.mg x = some (.ref a)) (hd : (x == ("__debug__" : Str)) = false := by decide) : NE X E (.Name x pos) (mC (.fn x)) := by
  obtain ⟨a, h1⟩ := hm
  exact ne_c (pe_glob (v := .ref a) hg h1 rfl hd) fun _ _ => .fn h1
theorem ne_ty {x : Str} {n : String} (hg : Gl X x) (hm : X.mg x = none) (hv : bootBuiltins x = some (.type n)) (hn : x ≠ "__name__" := by decide) (hd : (x == ("__debug__" : Str)) = false := by decide) : NE X E (.Name x pos) (mC (.ty n)) :=
  ne_c (pe_bltn (v := .ty n) hg hm hv rfl hn hd) fun _ _ => .ty _
/-! ### operators by values -/
/-- a two-place operation by its function: it neither raises nor changes what is numbered -/
def r2N (K : PySem.W.Frag) (mg : Str → Option Value) (f : List O → W → W → Option W) : R2 := fun x y H Q => ∃ ι h w1 w2 w, Fit K mg ι H h ∧ RW K mg ι H w1 x ∧ RW K mg ι H w2 y ∧ f h w1 w2 = some w ∧
  ∀ ι' v H', Grow ι ι' H H' → Fit K mg ι' H' h → RW K mg ι' H' w v → Q v H'
def r1N (K : PySem.W.Frag) (mg : Str → Option Value) (f : List O → W → Option W) : V → Hp → VK → Prop := fun x H Q => ∃ ι h w1 w, Fit K mg ι H h ∧ RW K mg ι H w1 x ∧ f h w1 = some w ∧
  ∀ ι' v H', Grow ι ι' H H' → Fit K mg ι' H' h → RW K mg ι' H' w v → Q v H'
def mOp (f : List O → W → W → Option W) (ma mb : ME) : ME := fun σ h => (ma σ h).bind fun x h1 => (mb σ h1).bind fun y h2 => ofO h2 (f h2 x y)
def mUn (f : List O → W → Option W) (ma : ME) : ME := fun σ h => (ma σ h).bind fun x h1 => ofO h1 (f h1 x)
theorem tN_op {f : List O → W → W → Option W} {ma mb : ME} {σ : St} {H : Hp} {Q : VK} {K : PySem.W.Frag} {mg : Str → Option Value} {z : Option (Addr × Addr)} (q : tN K mg z E (mOp f ma mb) σ H Q) : tOp (r2N K mg f) (tN K mg z E ma) (tN K mg z E mb) σ H Q := by
  obtain ⟨ι, σn, h, ft, s, q⟩ := q
  refine ⟨ι, σn, h, ft, s, Aft.bind q fun ι1 w1 h1 v1 H1 g1 f1 r1 q1 => ?_⟩
  refine ⟨ι1, σn, h1, f1, s.mono g1, Aft.bind q1 fun ι2 w2 h2 v2 H2 g2 f2 r2 q2 => ?_⟩
  cases e : f h2 w1 w2 with
  | none => rw [e] at q2; exact q2.elim
  | some w => rw [e] at q2; exact ⟨ι2, h2, w1, w2, w, f2, RW.mono g2 _ _ r1, r2, e, q2⟩
theorem ne_op {op : Operator} {f : List O → W → W → Option W} {ma mb : ME} (ho : OpR X (binaryOp op) (r2N X.K X.mg f)) (ha : NE X E a ma) (hb : NE X E b mb) : NE X E (.BinOp a op b pos) (mOp f ma mb) :=
  PE.imp (pe_op ho ha hb) fun _ _ _ => tN_op
theorem ne_cmp {op : CmpOp} {f : List O → W → W → Option W} {ma mb : ME} (ho : OpR X (compareOp op) (r2N X.K X.mg f)) (ha : NE X E a ma) (hb : NE X E b mb) (hm : behindInMarks op b = false) : NE X E (.Compare a [op] [b] pos) (mOp f ma mb) :=
  PE.imp (pe_cmpR ho ha hb hm) fun _ _ _ => tN_op
def asB : W → Option Bool
  | .bl b => some b
  | _ => none
def mB (m : ME) : MT := fun σ h => (m σ h).bind fun x h1 => ofO h1 (asB x)
theorem tN_test {m : ME} {σ : St} {H : Hp} {Q : Bool → Hp → Prop} {K : PySem.W.Frag} {mg : Str → Option Value} {z : Option (Addr × Addr)} (q : tNT K mg z E (mB m) σ H Q) : tTest (tN K mg z E m) σ H Q := by
  obtain ⟨ι, σn, h, ft, s, q⟩ := q
  refine ⟨ι, σn, h, ft, s, Aft.bind q fun ι1 w1 h1 v1 H1 g1 f1 r1 q1 => ?_⟩
  cases w1 with
  | bl b => cases r1; exact ⟨b, rfl, q1 ι1 b H1 .refl f1 rfl⟩
  | _ => exact q1.elim
theorem tTest_imp {t t' : TE} (k : ∀ σ H Q, t' σ H Q → t σ H Q) {σ : St} {H : Hp} {Q : Bool → Hp → Prop} (q : tTest t' σ H Q) : tTest t σ H Q := k _ _ _ q
theorem nt_cmp {op : CmpOp} {f : List O → W → W → Option W} {ma mb : ME} (ho : OpR X (compareOp op) (r2N X.K X.mg f)) (ha : NE X E a ma) (hb : NE X E b mb) (hm : behindInMarks op b = false) : NT X E (.Compare a [op] [b] pos) (mB (mOp f ma mb)) :=
  PT.imp (pt_cmpR ho ha hb hm) fun _ _ _ q => tTest_imp (fun _ _ _ => tN_op) (tN_test q)
/-- a op b op' c -/
def mChain (f f' : List O → W → W → Option W) (ma mb mc : ME) : ME := fun σ h => (ma σ h).bind fun x h1 => (mb σ h1).bind fun y h2 => (ofO h2 ((f h2 x y).bind asB)).bind fun k h3 =>
  if k = true then (mc σ h3).bind fun z h4 => ofO h4 (f' h4 y z) else .ok (.bl false) h3
theorem tN_chain {f f' : List O → W → W → Option W} {ma mb mc : ME} {σ : St} {H : Hp} {Q : VK} {K : PySem.W.Frag} {mg : Str → Option Value} {z : Option (Addr × Addr)} (q : tN K mg z E (mChain f f' ma mb mc) σ H Q) :
    tChain (r2N K mg f) (r2N K mg f') (tN K mg z E ma) (tN K mg z E mb) (tN K mg z E mc) σ H Q := by
  obtain ⟨ι, σn, h, ft, s, q⟩ := q
  refine ⟨ι, σn, h, ft, s, Aft.bind q fun ι1 w1 h1 v1 H1 g1 f1 r1 q1 => ?_⟩
  refine ⟨ι1, σn, h1, f1, s.mono g1, Aft.bind q1 fun ι2 w2 h2 v2 H2 g2 f2 r2 q2 => ?_⟩
  cases e : f h2 w1 w2 with
  | none => rw [e] at q2; exact q2.elim
  | some w =>
    rw [e] at q2
    refine ⟨ι2, h2, w1, w2, w, f2, RW.mono g2 _ _ r1, r2, e, fun ι3 v3 H3 g3 f3 r3 => ?_⟩
    cases w with
    | bl k =>
      cases r3
      refine ⟨k, rfl, ?_⟩
      cases k with
      | false => rw [if_neg Bool.false_ne_true]; exact q2 ι3 _ H3 g3 f3 (.bl _)
      | true =>
        rw [if_pos rfl]
        refine ⟨ι3, σn, h2, f3, (s.mono g1).mono (g2.trans g3).g0, Aft.bind (Aft.step q2 g3) fun ι4 w4 h4 v4 H4 g4 f4 r4 q4 => ?_⟩
        cases e4 : f' h4 w2 w4 with
        | none => rw [e4] at q4; exact q4.elim
        | some w5 => rw [e4] at q4; exact ⟨ι4, h4, w2, w4, w5, f4, RW.mono (g3.trans g4).g0 _ _ r2, r4, e4, q4⟩
    | _ => exact q2.elim
theorem ne_chain {op op' : CmpOp} {f f' : List O → W → W → Option W} {ma mb mc : ME} (ho : OpR X (compareOp op) (r2N X.K X.mg f)) (ho' : OpR X (compareOp op') (r2N X.K X.mg f')) (ha : NE X E a ma) (hb : NE X E b mb) (hc : NE X E c mc)
    (hm : lastMarks [op, op'] [b, c] = false := by with_unfolding_all rfl) : NE X E (.Compare a [op, op'] [b, c] pos) (mChain f f' ma mb mc) := PE.imp (pe_chain ho ho' ha hb hc hm) fun _ _ _ => tN_chain
theorem nt_chain {op op' : CmpOp} {f f' : List O → W → W → Option W} {ma mb mc : ME} (ho : OpR X (compareOp op) (r2N X.K X.mg f)) (ho' : OpR X (compareOp op') (r2N X.K X.mg f')) (ha : NE X E a ma) (hb : NE X E b mb) (hc : NE X E c mc)
    (hm : lastMarks [op, op'] [b, c] = false := by with_unfolding_all rfl) : NT X E (.Compare a [op, op'] [b, c] pos) (mB (mChain f f' ma mb mc)) := PT.imp (pt_chain ho ho' ha hb hc hm) fun _ _ _ q => tTest_imp (fun _ _ _ => tN_chain) (tN_test q)
theorem ne_un {op : UnaryOp} {f : List O → W → Option W} {ma : ME} (ho : UnR X (unaryOp op) (r1N X.K X.mg f)) (ha : NE X E a ma) : NE X E (.UnaryOp op a pos) (mUn f ma) :=
  PE.imp (pe_un ho ha) fun σ H Q ⟨ι, σn, h, ft, s, q⟩ => ⟨ι, σn, h, ft, s, Aft.bind q fun ι1 w1 h1 v1 H1 g1 f1 r1 q1 => by
    cases e : f h1 w1 with
    | none => rw [e] at q1; exact q1.elim
    | some w => rw [e] at q1; exact ⟨ι1, h1, w1, w, f1, r1, e, q1⟩⟩
/-! ### truth -/
def tru (h : List O) : W → Option Bool
  | .non => some false
  | .bl b => some b
  | .int i => some (i != 0)
  | .str s => if s.length ≤ sizeLine then some ((s.length : Int) != 0) else none
  | .tup ws => some (!ws.isEmpty)
  | .tro ws => some (!ws.isEmpty)
  | .lst ws => some (!ws.isEmpty)
  | .lro ws => some (!ws.isEmpty)
  | .ref n => match h[n]? with
    | some (.lst ws) => some (!ws.isEmpty)
    | _ => none
  | _ => none
theorem isE {K : PySem.W.Frag} {mg : Str → Option Value} {ι : Ix} {H : Hp} {ws : List W} {vs : List V} (r : RWs K mg ι H ws vs) : ws.isEmpty = vs.isEmpty := by cases r <;> rfl
/-- what a value that is a list or tuple holds -/
theorem tru_V {K : PySem.W.Frag} {mg : Str → Option Value} {ι : Ix} {H : Hp} {h : List O} {w : W} {v : V} {b : Bool} (f : Fit K mg ι H h) (r : RW K mg ι H w v) (e : tru h w = some b) : TruV K v H b := by
  cases r with
  | non => cases e; exact rfl
  | bl b => cases e; exact rfl
  | int i => cases e; exact rfl
  | str s =>
    have e : (if s.length ≤ sizeLine then some ((s.length : Int) != 0) else none) = some b := e
    split at e
    · cases e; exact ⟨by assumption, rfl⟩
    · cases e
  | tup h0 h1 h2 => cases e; exact .inr (.inl ⟨_, SqT.of h1, by rw [isE h2]⟩)
  | tro h1 h2 => cases e; exact .inr (.inl ⟨_, NoH.sqT h1, by rw [isE h2]⟩)
  | lst h0 h1 h2 => cases e; exact .inl ⟨_, SqL.of h1, by rw [isE h2]⟩
  | lro h1 h2 => cases e; exact .inl ⟨_, h1.sq, by rw [isE h2]⟩
  | @ref n a h1 =>
    cases eo : h[n]? with
    | none => simp [tru, eo] at e
    | some o =>
      cases o with
      | lst ws =>
        simp only [tru, eo, Option.some.injEq] at e
        subst e
        cases f.obj _ _ _ eo h1 with
        | lst a1 a2 => exact .inl ⟨_, SqL.of a1, by rw [isE a2]⟩
      | _ => simp [tru, eo] at e
  | _ => cases e
def mTru (m : ME) : MT := fun σ h => (m σ h).bind fun x h1 => ofO h1 (tru h1 x)
theorem nt_tru {m : ME} (ha : NE X E a m) (he : ∀ whole, isTrue a X.env whole = (do let v ← whole; standAt a.pos; holding [v] (truthy v)) := by intro _; rfl) : NT X E a (mTru m) :=
  PT.imp (pt_truth ha he) fun σ H Q ⟨ι, σn, h, ft, s, q⟩ => ⟨ι, σn, h, ft, s, Aft.bind q fun ι1 w1 h1 v1 H1 g1 f1 r1 q1 => by
    cases e : tru h1 w1 with
    | none => rw [e] at q1; exact q1.elim
    | some b => rw [e] at q1; exact ⟨b, tru_V f1 r1 e, q1 ι1 b H1 .refl f1 rfl⟩⟩
def mAndT (t u : MT) : MT := fun σ h => (t σ h).bind fun c h1 => if c = true then u σ h1 else .ok false h1
def mOrT (t u : MT) : MT := fun σ h => (t σ h).bind fun c h1 => if c = true then .ok true h1 else u σ h1
def mNotT (t : MT) : MT := fun σ h => (t σ h).bind fun c h1 => .ok (!c) h1
variable {rest : List Expr}
theorem nw_and1 {t : MT} (ha : NT X E a t) : NW X E (.BoolOp .And [a] pos) t := pw_and1 ha
theorem nw_or1 {t : MT} (ha : NT X E a t) : NW X E (.BoolOp .Or [a] pos) t := pw_or1 ha
theorem nw_and {t u : MT} (ha : NT X E a t) (hb : NW X E (.BoolOp .And (b :: rest) pos) u) : NW X E (.BoolOp .And (a :: b :: rest) pos) (mAndT t u) :=
  PW.imp (pw_and ha hb) fun σ H Q ⟨ι, σn, h, ft, s, q⟩ => ⟨ι, σn, h, ft, s, Aft.bind q fun ι1 w1 h1 v1 H1 g1 f1 r1 q1 => by
    subst r1
    cases w1 with
    | true => rw [if_pos rfl] at q1 ⊢; exact ⟨ι1, σn, h1, f1, s.mono g1, q1⟩
    | false => rw [if_neg Bool.false_ne_true] at q1 ⊢; exact q1 ι1 _ H1 .refl f1 rfl⟩
theorem nw_or {t u : MT} (ha : NT X E a t) (hb : NW X E (.BoolOp .Or (b :: rest) pos) u) : NW X E (.BoolOp .Or (a :: b :: rest) pos) (mOrT t u) :=
  PW.imp (pw_or ha hb) fun σ H Q ⟨ι, σn, h, ft, s, q⟩ => ⟨ι, σn, h, ft, s, Aft.bind q fun ι1 w1 h1 v1 H1 g1 f1 r1 q1 => by
    subst r1
    cases w1 with
    | false => rw [if_neg Bool.false_ne_true] at q1 ⊢; exact ⟨ι1, σn, h1, f1, s.mono g1, q1⟩
    | true => rw [if_pos rfl] at q1 ⊢; exact q1 ι1 _ H1 .refl f1 rfl⟩
theorem nt_w {t : MT} (h : NW X E a t) : NT X E a t := h.pt
theorem nt_not {t : MT} (ha : NT X E a t) : NT X E (.UnaryOp .Not a pos) (mNotT t) :=
  PT.imp (pt_not ha) fun σ H Q ⟨ι, σn, h, ft, s, q⟩ => ⟨ι, σn, h, ft, s, Aft.bind q fun ι1 w1 h1 v1 H1 g1 f1 r1 q1 => by subst r1; exact q1 ι1 _ H1 .refl f1 rfl⟩
/-! .. as values -/
def mAnd (m n : ME) : ME := fun σ h => (m σ h).bind fun x h1 => (ofO h1 (tru h1 x)).bind fun k h2 => if k = true then n σ h2 else .ok x h2
def mOr (m n : ME) : ME := fun σ h => (m σ h).bind fun x h1 => (ofO h1 (tru h1 x)).bind fun k h2 => if k = true then .ok x h2 else n σ h2
def mNot (m : ME) : ME := fun σ h => (m σ h).bind fun x h1 => ofO h1 ((tru h1 x).map fun k => .bl (!k))
theorem ne_one {op} {m : ME} (h : NE X E a m) : NE X E (.BoolOp op [a] pos) m := pe_one h
theorem ne_and {m n : ME} (ha : NE X E a m) (hb : NE X E (.BoolOp .And (b :: rest) pos) n) : NE X E (.BoolOp .And (a :: b :: rest) pos) (mAnd m n) :=
  PE.imp (pe_andT ha hb) fun σ H Q ⟨ι, σn, h, ft, s, q⟩ => ⟨ι, σn, h, ft, s, Aft.bind q fun ι1 w1 h1 v1 H1 g1 f1 r1 q1 => by
    cases e : tru h1 w1 with
    | none => rw [e] at q1; exact q1.elim
    | some k =>
      rw [e] at q1
      refine ⟨k, tru_V f1 r1 e, ?_⟩
      cases k with
      | true => rw [if_pos rfl]; exact ⟨ι1, σn, h1, f1, s.mono g1, q1⟩
      | false => rw [if_neg Bool.false_ne_true]; exact q1 ι1 _ H1 .refl f1 r1⟩
theorem ne_or {m n : ME} (ha : NE X E a m) (hb : NE X E (.BoolOp .Or (b :: rest) pos) n) : NE X E (.BoolOp .Or (a :: b :: rest) pos) (mOr m n) :=
  PE.imp (pe_orT ha hb) fun σ H Q ⟨ι, σn, h, ft, s, q⟩ => ⟨ι, σn, h, ft, s, Aft.bind q fun ι1 w1 h1 v1 H1 g1 f1 r1 q1 => by
    cases e : tru h1 w1 with
    | none => rw [e] at q1; exact q1.elim
    | some k =>
      rw [e] at q1
      refine ⟨k, tru_V f1 r1 e, ?_⟩
      cases k with
      | false => rw [if_neg Bool.false_ne_true]; exact ⟨ι1, σn, h1, f1, s.mono g1, q1⟩
      | true => rw [if_pos rfl]; exact q1 ι1 _ H1 .refl f1 r1⟩
theorem ne_not {m : ME} (ha : NE X E a m) : NE X E (.UnaryOp .Not a pos) (mNot m) :=
  PE.imp (pe_notT ha) fun σ H Q ⟨ι, σn, h, ft, s, q⟩ => ⟨ι, σn, h, ft, s, Aft.bind q fun ι1 w1 h1 v1 H1 g1 f1 r1 q1 => by
    cases e : tru h1 w1 with
    | none => rw [e] at q1; exact q1.elim
    | some k => rw [e] at q1; exact ⟨k, tru_V f1 r1 e, q1 ι1 _ H1 .refl f1 (.bl _)⟩⟩
def mIf (t : MT) (m n : ME) : ME := fun σ h => (t σ h).bind fun k h1 => if k = true then m σ h1 else n σ h1
theorem ne_if {t : MT} {m n : ME} (hc : NT X E c t) (ha : NE X E a m) (hb : NE X E b n) : NE X E (.IfExp c a b pos) (mIf t m n) :=
  PE.imp (pe_ifExp hc ha hb) fun σ H Q ⟨ι, σn, h, ft, s, q⟩ => ⟨ι, σn, h, ft, s, Aft.bind q fun ι1 w1 h1 v1 H1 g1 f1 r1 q1 => by
    subst r1
    cases w1 with
    | true => rw [if_pos rfl] at q1 ⊢; exact ⟨ι1, σn, h1, f1, s.mono g1, q1⟩
    | false => rw [if_neg Bool.false_ne_true] at q1 ⊢; exact ⟨ι1, σn, h1, f1, s.mono g1, q1⟩⟩
/-! ### arguments, displays -/
def mNil : MA := fun _ h => .ok [] h
def mCons (m : ME) (n : MA) : MA := fun σ h => (m σ h).bind fun x h1 => (n σ h1).bind fun xs h2 => .ok (x :: xs) h2
variable {es : List Expr}
theorem na_nil : NA X E [] mNil := PA.imp pa_nil fun σ H Q ⟨ι, σn, h, ft, s, q⟩ => q ι [] H .refl ft .nil
theorem tNA_cons {m : ME} {n : MA} {σ : St} {H : Hp} {Q : List V → Hp → Prop} {K : PySem.W.Frag} {mg : Str → Option Value} {z : Option (Addr × Addr)} (q : tNA K mg z E (mCons m n) σ H Q) : tCons (tN K mg z E m) (tNA K mg z E n) σ H Q := by
  obtain ⟨ι, σn, h, ft, s, q⟩ := q
  refine ⟨ι, σn, h, ft, s, Aft.bind q fun ι1 w1 h1 v1 H1 g1 f1 r1 q1 => ?_⟩
  refine ⟨ι1, σn, h1, f1, s.mono g1, Aft.bind q1 fun ι2 w2 h2 v2 H2 g2 f2 r2 q2 => ?_⟩
  exact q2 ι2 _ H2 .refl f2 (.cons (RW.mono g2 _ _ r1) r2)
theorem na_cons {m : ME} {n : MA} (ha : NE X E a m) (hr : NA X E es n) (hs : starEach (a :: es) X.env = (false, eval a X.env) :: starEach es X.env := by rfl) : NA X E (a :: es) (mCons m n) :=
  PA.imp (pa_cons ha hr hs) fun _ _ _ => tNA_cons
def okLen (ws : List W) : Option (List W) := if ws.length ≤ sizeLine then some ws else none
theorem okLen_some {ws xs : List W} (h : okLen ws = some xs) : xs = ws ∧ ws.length ≤ sizeLine := by
  unfold okLen at h; split at h
  · cases h; exact ⟨rfl, by assumption⟩
  · cases h
def mTup (n : MA) : ME := fun σ h => (n σ h).bind fun ws h1 => ofO h1 ((okLen ws).map .tup)
def mLst (n : MA) : ME := fun σ h => (n σ h).bind fun ws h1 => ofO h1 ((okLen ws).map .lst)
/-- a new numbered list -/
def mLstN (n : MA) : ME := fun σ h => (n σ h).bind fun ws h1 => ofH ((okLen ws).map fun ws => (.ref h1.length, h1 ++ [.lst ws]))
section
variable {K : PySem.W.Frag} {mg : Str → Option Value} {ι : Ix} {H : Hp} {h : List O}
theorem new_tup (f : Fit K mg ι H h) {ws : List W} {vs : List V} (r : RWs K mg ι H ws vs) {p : Addr} (hp : H p = none) : Grow ι ι H (upd H p (.tup vs)) ∧ Fit K mg ι (upd H p (.tup vs)) h ∧ RW K mg ι (upd H p (.tup vs)) (.tup ws) (.ref p) :=
  ⟨f.grow hp _, f.new hp _, .tup (f.nin hp) upd_same (RWs.mono (f.grow hp _).g0 _ _ r)⟩
theorem new_lst (f : Fit K mg ι H h) {ws : List W} {vs : List V} (r : RWs K mg ι H ws vs) {p : Addr} (hp : H p = none) : Grow ι ι H (upd H p (.lst vs)) ∧ Fit K mg ι (upd H p (.lst vs)) h ∧ RW K mg ι (upd H p (.lst vs)) (.lst ws) (.ref p) :=
  ⟨f.grow hp _, f.new hp _, .lst (f.nin hp) upd_same (RWs.mono (f.grow hp _).g0 _ _ r)⟩
theorem new_lstN (f : Fit K mg ι H h) {ws : List W} {vs : List V} (r : RWs K mg ι H ws vs) {p : Addr} (hp : H p = none) :
    Grow ι (ι.add p) H (upd H p (.lst vs)) ∧ Fit K mg (ι.add p) (upd H p (.lst vs)) (h ++ [.lst ws]) ∧ RW K mg (ι.add p) (upd H p (.lst vs)) (.ref h.length) (.ref p) :=
  ⟨f.growN hp _, f.push hp (.lst upd_same (RWs.mono (f.growN hp _).g0 _ _ r)), .ref (by show (ι.num ++ [p])[h.length]? = some p; rw [← f.len, List.getElem?_append_right (Nat.le_refl _), Nat.sub_self]; rfl)⟩
end
theorem ne_tup {n : MA} {x1} (h : NA X E es n) : NE X E (.Tuple es x1 pos) (mTup n) :=
  PE.imp (pe_tup h) fun σ H Q ⟨ι, σn, h, ft, s, q⟩ => ⟨ι, σn, h, ft, s, Aft.bind q fun ι1 w1 h1 v1 H1 g1 f1 r1 q1 => by
    cases e : okLen w1 with
    | none => rw [e] at q1; exact q1.elim
    | some ws =>
      obtain ⟨rfl, hl⟩ := okLen_some e
      rw [e] at q1
      refine ⟨by rw [r1.len]; exact hl, fun p hp => ?_⟩
      obtain ⟨a1, a2, a3⟩ := new_tup f1 r1 hp
      exact q1 ι1 _ _ a1 a2 a3⟩
theorem ne_lst {n : MA} (h : NA X E es n) : NE X E (.List es pos) (mLst n) :=
  PE.imp (pe_lst h) fun σ H Q ⟨ι, σn, h, ft, s, q⟩ => ⟨ι, σn, h, ft, s, Aft.bind q fun ι1 w1 h1 v1 H1 g1 f1 r1 q1 => by
    cases e : okLen w1 with
    | none => rw [e] at q1; exact q1.elim
    | some ws =>
      obtain ⟨rfl, hl⟩ := okLen_some e
      rw [e] at q1
      refine ⟨by rw [r1.len]; exact hl, fun p hp => ?_⟩
      obtain ⟨a1, a2, a3⟩ := new_lst f1 r1 hp
      exact q1 ι1 _ _ a1 a2 a3⟩
theorem ne_lstN {n : MA} (h : NA X E es n) : NE X E (.List es pos) (mLstN n) :=
  PE.imp (pe_lst h) fun σ H Q ⟨ι, σn, h, ft, s, q⟩ => ⟨ι, σn, h, ft, s, Aft.bind q fun ι1 w1 h1 v1 H1 g1 f1 r1 q1 => by
    cases e : okLen w1 with
    | none => rw [e] at q1; exact q1.elim
    | some ws =>
      obtain ⟨rfl, hl⟩ := okLen_some e
      rw [e] at q1
      refine ⟨by rw [r1.len]; exact hl, fun p hp => ?_⟩
      obtain ⟨a1, a2, a3⟩ := new_lstN f1 r1 hp
      exact q1 _ _ _ a1 a2 a3⟩
end
end N

set_option maxHeartbeats 1000000
namespace N
open PySem L2
/-! ### statements -/
def mNext : MS := fun σ h => .nx σ h
def mSeq (a b : MS) : MS := fun σ h => match a σ h with
  | .nx σ' h' => b σ' h'
  | r => r
def mDrop (m : ME) : MS := fun σ h => (m σ h).sbind σ fun _ h1 => .nx σ h1
def mRet (m : ME) : MS := fun σ h => (m σ h).sbind σ fun w h1 => .rt w h1
def mRetN : MS := fun _ h => .rt .non h
def mIfS (t : MT) (a b : MS) : MS := fun σ h => (t σ h).sbind σ fun k h1 => if k = true then a σ h1 else b σ h1
def mBrk : MS := fun σ h => .bk σ h
def mCnt : MS := fun σ h => .ct σ h
def mSet (i : Nat) (m : ME) : MS := fun σ h => (m σ h).sbind σ fun w h1 => .nx (σ.set i (some w)) h1
def mStuck : MS := fun _ _ => .stuck
def mPar (i j : Nat) (ma : MA) : MS := fun σ h => (ma σ h).sbind σ fun ws h1 => match ws with
  | [v, w] => .nx ((σ.set i (some v)).set j (some w)) h1
  | _ => .stuck
/-- a target: names, tuples of targets -/
abbrev MG := W → Slo → Option Slo
def gN (i : Nat) : MG := fun w σ => some (σ.set i (some w))
def gNs : List MG → List W → Slo → Option Slo
  | [], [], σ => some σ
  | g :: gs, w :: ws, σ => (g w σ).bind (gNs gs ws)
  | _, _, _ => none
def gT (gs : List MG) : MG := fun w σ => match w with
  | .tup ws => gNs gs ws σ
  | .tro ws => gNs gs ws σ
  | _ => none
def mAsg (g : MG) (m : ME) : MS := fun σ h => (m σ h).sbind σ fun w h1 => match g w σ with
  | some σ' => .nx σ' h1
  | none => .stuck
section
variable {K : PySem.W.Frag} {mg : Str → Option Value} {ι ι' : Ix} {H H' : Hp} {h : List O} {σn : Slo} {σ : St} {E : WX} {D : Ends} {z : Option (Addr × Addr)}
theorem AftS.ends {r : SR} {D D' : Ends} (q : AftS K mg z ι H r D E) (h1 : ∀ σ H, D.nx σ H → D'.nx σ H) (h2 : ∀ v H, D.rt v H → D'.rt v H) (h3 : ∀ σ H, D.bk σ H → D'.bk σ H) (h4 : ∀ σ H, D.ct σ H → D'.ct σ H) : AftS K mg z ι H r D' E := by
  cases r with
  | nx s h' => exact fun ι2 v H2 g f s => h1 _ _ (q ι2 v H2 g f s)
  | rt w h' => exact fun ι2 v H2 g f s => h2 _ _ (q ι2 v H2 g f s)
  | bk s h' => exact fun ι2 v H2 g f s => h3 _ _ (q ι2 v H2 g f s)
  | ct s h' => exact fun ι2 v H2 g f s => h4 _ _ (q ι2 v H2 g f s)
  | exc x s h' => exact q
  | stuck => exact q
end
section
variable {X : Cx} {E : WX} {e a b c : Expr} {pos : Pos} {st : Stmt} {rest : List Stmt}
theorem nss_nil : NSs X E [] mNext := PSs.imp pss_nil fun D σ H ⟨ι, σn, h, f, s, q⟩ => q ι σ H .refl f s
theorem nss_one {m : MS} (h : NS X E st m) : NSs X E [st] m := pss_one h
theorem nss_cons {m n : MS} (h1 : NS X E st m) (h2 : NSs X E rest n) : NSs X E (st :: rest) (mSeq m n) := PSs.imp (pss_cons h1 h2) fun D σ H ⟨ι, σn, h, f, s, q⟩ => by
  refine ⟨ι, σn, h, f, s, ?_⟩
  unfold mSeq at q
  cases e : m σn h with
  | nx σ' h' => rw [e] at q; exact fun ι2 σ2 H2 g2 f2 s2 => ⟨ι2, σ', h', f2, s2, AftS.step q g2⟩
  | rt w h' => rw [e] at q; exact q
  | bk s h' => rw [e] at q; exact q
  | ct s h' => rw [e] at q; exact q
  | exc x s h' => rw [e] at q; exact q
  | stuck => rw [e] at q; exact q
theorem ns_never : NS X E st mStuck := PS.imp ps_never fun D σ H ⟨ι, σn, h, f, s, q⟩ => q
theorem ns_pass : NS X E (.Pass pos) mNext := PS.imp ps_pass fun D σ H ⟨ι, σn, h, f, s, q⟩ => q ι σ H .refl f s
theorem ns_doc {x j pos'} : NS X E (.Expr (.Constant (.str x) j pos) pos') mNext := PS.imp ps_doc fun D σ H ⟨ι, σn, h, f, s, q⟩ => q ι σ H .refl f s
theorem ns_break : NS X E (.Break pos) mBrk := PS.imp ps_break fun D σ H ⟨ι, σn, h, f, s, q⟩ => q ι σ H .refl f s
theorem ns_continue : NS X E (.Continue pos) mCnt := PS.imp ps_continue fun D σ H ⟨ι, σn, h, f, s, q⟩ => q ι σ H .refl f s
theorem ns_expr {m : ME} (he : NE X E e m) (hs : swapsWith e none pos.line X.env = pure false := by rfl) : NS X E (.Expr e pos) (mDrop m) :=
  PS.imp (ps_expr he hs) fun D σ H ⟨ι, σn, h, f, s, q⟩ => ⟨ι, σn, h, f, s, Aft.sbind s q fun ι1 w1 h1 v1 H1 g1 f1 r1 q1 => q1 ι1 σ H1 .refl f1 (s.mono g1)⟩
theorem ns_ret {m : ME} (he : NE X E e m) : NS X E (.Return (some e) pos) (mRet m) :=
  PS.imp (ps_ret he) fun D σ H ⟨ι, σn, h, f, s, q⟩ => ⟨ι, σn, h, f, s, Aft.sbind s q fun ι1 w1 h1 v1 H1 g1 f1 r1 q1 => q1 ι1 v1 H1 .refl f1 r1⟩
theorem ns_retN : NS X E (.Return none pos) mRetN := PS.imp ps_retN fun D σ H ⟨ι, σn, h, f, s, q⟩ => q ι _ H .refl f .non
theorem ns_if {t : MT} {m n : MS} {sa sb : List Stmt} (hc : NT X E c t) (ha : NSs X E sa m) (hb : NSs X E sb n) : NS X E (.If c sa sb pos) (mIfS t m n) :=
  PS.imp (ps_if hc ha hb) fun D σ H ⟨ι, σn, h, f, s, q⟩ => ⟨ι, σn, h, f, s, Aft.sbind s q fun ι1 w1 h1 v1 H1 g1 f1 r1 q1 => by
    subst r1
    cases w1 with
    | true => rw [if_pos rfl] at q1 ⊢; exact ⟨ι1, σn, h1, f1, s.mono g1, q1⟩
    | false => rw [if_neg Bool.false_ne_true] at q1 ⊢; exact ⟨ι1, σn, h1, f1, s.mono g1, q1⟩⟩
theorem ns_set {i : Nat} {x : Str} {m : ME} {pos' : Pos} (hN : X.N.Nodup) (hi : X.N[i]? = some x) (hx : Loc X.env.scope x) (he : NE X E e m) (hs : swapsWith e (some (.Name x pos')) pos.line X.env = pure false := by rfl)
    (hf : X.fn x = true ∨ X.env.scope.names.lookup x = some .local := by first | exact .inl rfl | exact .inr rfl | assumption) : NS X E (.Assign [.Name x pos'] e pos) (mSet i m) :=
  PS.imp (ps_set hN hi hx he hs hf) fun D σ H ⟨ι, σn, h, f, s, q⟩ => ⟨ι, σn, h, f, s, Aft.sbind s q fun ι1 w1 h1 v1 H1 g1 f1 r1 q1 => q1 ι1 _ H1 .refl f1 ((s.mono g1).set r1 i)⟩
theorem ns_par {i j : Nat} {x y : Str} {m : MA} {px py pt : Pos} {kt k2 pt2} (hc : X.calm = true) (hN : X.N.Nodup) (hi : X.N[i]? = some x) (hj : X.N[j]? = some y) (hij : i ≠ j)
    (hx : X.env.scope.names.lookup x = some .local) (hy : X.env.scope.names.lookup y = some .local) (ha : NA X E [a, b] m)
    (hw : swappedStores [.Tuple [.Name x px, .Name y py] kt pt] (.Tuple [a, b] k2 pt2) X.env = pure (some [x, y]))
    (hs : swapsWithSole [.Tuple [.Name x px, .Name y py] kt pt] (.Tuple [a, b] k2 pt2) pos.line X.env = pure false := by rfl) :
    NS X E (.Assign [.Tuple [.Name x px, .Name y py] kt pt] (.Tuple [a, b] k2 pt2) pos) (mPar i j m) :=
  PS.imp (ps_par hc hN hi hj hij hx hy ha hw hs) fun D σ H ⟨ι, σn, h, f, s, q⟩ => ⟨ι, σn, h, f, s, Aft.sbind s q fun ι1 w1 h1 v1 H1 g1 f1 r1 q1 => by
    match w1, r1, q1 with
    | [w, u], .cons r (.cons r' .nil), q1 => exact ⟨_, _, rfl, q1 ι1 _ H1 .refl f1 (((s.mono g1).set r i).set r' j)⟩
    | [], _, q1 => exact q1.elim
    | [_], _, q1 => exact q1.elim
    | _ :: _ :: _ :: _, _, q1 => exact q1.elim⟩
/-! ### targets -/
/-- what a target stores: only the slots ts -/
def tNG (K : PySem.W.Frag) (mg : Str → Option Value) (z : Option (Addr × Addr)) (g : MG) (ts : List Nat) : TG := fun v σ H Q => ∃ ι σn σn' h w, Fit K mg ι H h ∧ Sl K mg ι H z σn σ ∧ RW K mg ι H w v ∧ g w σn = some σn' ∧
  ∀ σ', Sl K mg ι H z σn' σ' → (∀ vs : List Nat, (∀ i, i ∈ ts → i ∈ vs) → wipe σ' vs = wipe σ vs) → Q σ' H
def tNGs (K : PySem.W.Frag) (mg : Str → Option Value) (z : Option (Addr × Addr)) (gs : List MG) (ts : List Nat) : TGs := fun vs σ H Q => ∃ ι σn σn' h ws, Fit K mg ι H h ∧ Sl K mg ι H z σn σ ∧ RWs K mg ι H ws vs ∧ gNs gs ws σn = some σn' ∧
  ∀ σ', Sl K mg ι H z σn' σ' → (∀ vs : List Nat, (∀ i, i ∈ ts → i ∈ vs) → wipe σ' vs = wipe σ vs) → Q σ' H
abbrev NG (X : Cx) (e : Expr) (g : MG) (ts : List Nat) : Prop := PG X e (tNG X.K X.mg (zX X) g ts)
abbrev NGs (X : Cx) (es : List Expr) (gs : List MG) (ts : List Nat) : Prop := PGs X es (tNGs X.K X.mg (zX X) gs ts)
theorem PG.imp {X : Cx} {e : Expr} {t t' : TG} (h : PG X e t) (k : ∀ v σ H Q, t' v σ H Q → t v σ H Q) : PG X e t' := ⟨fun pins s σ H v u Q I r q => h.run pins s σ H v u Q I r (k _ _ _ _ q)⟩
theorem PGs.imp {X : Cx} {e : List Expr} {t t' : TGs} (h : PGs X e t) (k : ∀ v σ H Q, t' v σ H Q → t v σ H Q) : PGs X e t' := ⟨fun pins s σ H v u Q I r q => h.run pins s σ H v u Q I r (k _ _ _ _ q)⟩
theorem wipe_set {σ : St} {i : Nat} {u : Option V} : ∀ {vs : List Nat}, i ∈ vs → wipe (σ.set i u) vs = wipe σ vs
  | [], h => by cases h
  | v :: vs, h => by
    show (wipe (σ.set i u) vs).set v none = (wipe σ vs).set v none
    by_cases hm : i ∈ vs
    · rw [wipe_set hm]
    · have hv : i = v := by
        rcases List.mem_cons.mp h with h | h
        · exact h
        · exact absurd h hm
      subst hv
      apply List.ext_getElem?
      intro j
      by_cases hj : i = j
      · subst hj
        by_cases hl : i < σ.length
        · rw [List.getElem?_set_self (by rw [wipe_length]; simpa using hl), List.getElem?_set_self (by rw [wipe_length]; exact hl)]
        · rw [List.getElem?_eq_none (by rw [List.length_set, wipe_length]; simpa using hl), List.getElem?_eq_none (by rw [List.length_set, wipe_length]; omega)]
      · rw [List.getElem?_set_ne hj, List.getElem?_set_ne hj]
        have : ∀ ws : List Nat, (wipe (σ.set i u) ws)[j]? = (wipe σ ws)[j]? := by
          intro ws
          induction ws with
          | nil => exact List.getElem?_set_ne hj
          | cons w ws ih =>
            show ((wipe (σ.set i u) ws).set w none)[j]? = ((wipe σ ws).set w none)[j]?
            by_cases hw : w = j
            · subst hw
              by_cases hl : w < σ.length
              · rw [List.getElem?_set_self (by rw [wipe_length]; simpa using hl), List.getElem?_set_self (by rw [wipe_length]; exact hl)]
              · rw [List.getElem?_eq_none (by rw [List.length_set, wipe_length]; simpa using hl), List.getElem?_eq_none (by rw [List.length_set, wipe_length]; omega)]
            · rw [List.getElem?_set_ne hw, List.getElem?_set_ne hw]
              exact ih
        exact this vs
theorem wipe_wipe {σ : St} : ∀ {us vs : List Nat}, (∀ i, i ∈ us → i ∈ vs) → wipe (wipe σ us) vs = wipe σ vs
  | [], vs, _ => rfl
  | u :: us, vs, h => by
    show wipe ((wipe σ us).set u none) vs = _
    rw [wipe_set (h u (List.mem_cons_self ..))]
    exact wipe_wipe fun i hi => h i (List.mem_cons_of_mem _ hi)
theorem ng_name {i : Nat} {x : Str} (hN : X.N.Nodup) (hi : X.N[i]? = some x) (hx : Loc X.env.scope x) (hf : X.fn x = true ∨ X.env.scope.names.lookup x = some .local := by first | exact .inl rfl | exact .inr rfl | assumption) : NG X (.Name x pos) (gN i) [i] :=
  PG.imp (pg_name hN hi hx hf) fun v σ H Q ⟨ι, σn, σn', h, w, f, s, r, e, q⟩ => by
    cases e
    exact q _ (s.set r i) fun vs hv => wipe_set (hv i (List.mem_singleton.mpr rfl))
theorem ngs_nil : NGs X [] [] [] := PGs.imp pgs_nil fun v σ H Q ⟨ι, σn, σn', h, ws, f, s, r, e, q⟩ => by
  cases ws with
  | nil => cases r; cases e; exact ⟨rfl, q _ s fun _ _ => rfl⟩
  | cons w ws => cases e
theorem ngs_cons {es : List Expr} {g : MG} {gs : List MG} {ts us : List Nat} (h1 : NG X e g ts) (h2 : NGs X es gs us)
    (hs : (assignEach (e :: es) X.env).map (·.2) = assign e X.env :: (assignEach es X.env).map (·.2) := by rfl) : NGs X (e :: es) (g :: gs) (ts ++ us) :=
  PGs.imp (pgs_cons h1 h2 hs) fun v σ H Q ⟨ι, σn, σn', h, ws, f, s, r, e, q⟩ => by
    cases ws with
    | nil => cases e
    | cons w ws =>
      cases r with
      | cons r1 r2 =>
        have e' : (g w σn).bind (gNs gs ws) = some σn' := e
        cases eg : g w σn with
        | none => rw [eg] at e'; cases e'
        | some σ1 =>
          rw [eg] at e'
          refine ⟨_, _, rfl, ι, σn, σ1, h, w, f, s, r1, eg, fun σ' s' k1 => ⟨ι, σ1, σn', h, ws, f, s', r2, e', fun σ2 s2 k2 => q σ2 s2 fun vs hv => ?_⟩⟩
          rw [k2 vs fun i hi => hv i (List.mem_append_right _ hi), k1 vs fun i hi => hv i (List.mem_append_left _ hi)]
theorem ng_tup {es : List Expr} {k : Nat} {gs : List MG} {ts : List Nat} {n : Nat} (hc : X.calm = true) (h : NGs X es gs ts)
    (hn : (assignEach es X.env).length = n := by rfl) (hst : (assignEach es X.env).findIdx? (·.1) = none := by rfl) (hl : gs.length = n := by rfl) : NG X (.Tuple es k pos) (gT gs) ts :=
  PG.imp (pg_tup hc h hn hst) fun v σ H Q ⟨ι, σn, σn', h, w, f, s, r, e, q⟩ => by
    have lenG : ∀ (gs : List MG) (ws : List W) (σ σ' : Slo), gNs gs ws σ = some σ' → ws.length = gs.length := by
      intro gs
      induction gs with
      | nil => intro ws σ σ' h; cases ws with
        | nil => rfl
        | cons _ _ => cases h
      | cons g gs ih => intro ws σ σ' h; cases ws with
        | nil => cases h
        | cons w ws =>
          have h' : (g w σ).bind (gNs gs ws) = some σ' := h
          cases eg : g w σ with
          | none => rw [eg] at h'; cases h'
          | some σ1 => rw [eg] at h'; rw [List.length_cons, List.length_cons, ih ws σ1 σ' h']
    cases w with
    | tup ws =>
      cases r with
      | @tup ws a vs r0 r1 r2 =>
        have e' : gNs gs ws σn = some σn' := e
        exact ⟨_, _, rfl, SqT.of r1, by rw [r2.len, lenG gs ws _ _ e', hl], ι, σn, σn', h, ws, f, s, r2, e, q⟩
    | tro ws =>
      cases r with
      | @tro ws a vs r1 r2 =>
        have e' : gNs gs ws σn = some σn' := e
        exact ⟨_, _, rfl, NoH.sqT r1, by rw [r2.len, lenG gs ws _ _ e', hl], ι, σn, σn', h, ws, f, s, r2, e, q⟩
    | _ => cases e
theorem ns_asg {tg : Expr} {g : MG} {ts : List Nat} {m : ME} (he : NE X E e m) (hg : NG X tg g ts) (hs : swapsWithSole [tg] e pos.line X.env = pure false := by rfl) (hw : swappedStores [tg] e X.env = pure none := by rfl)
    (h1 : (assignEach [tg] X.env).map (·.2) = [assign tg X.env] := by rfl) : NS X E (.Assign [tg] e pos) (mAsg g m) :=
  PS.imp (ps_asg he hg hs hw h1) fun D σ H ⟨ι, σn, h, f, s, q⟩ => ⟨ι, σn, h, f, s, Aft.sbind s q fun ι1 w1 h1 v1 H1 g1 f1 r1 q1 => by
    cases eg : g w1 σn with
    | none => rw [eg] at q1; exact q1.elim
    | some σ' =>
      rw [eg] at q1
      exact ⟨ι1, σn, σ', h1, w1, f1, s.mono g1, r1, eg, fun σ2 s2 _ => q1 ι1 σ2 H1 .refl f1 s2⟩⟩
/-! ### while: within F turns -/
def mWhile (t : MT) (b : MS) : Nat → MS
  | 0 => mStuck
  | F + 1 => fun σ h => (t σ h).sbind σ fun k h1 => if k = true then (match b σ h1 with
      | .nx σ' h' => mWhile t b F σ' h'
      | .ct σ' h' => mWhile t b F σ' h'
      | .bk σ' h' => .nx σ' h'
      | r => r) else .nx σ h1
theorem ns_while {t : MT} {b : MS} {body : List Stmt} (F : Nat) (hp : PassesOwn (model X.prog X.w) X.A X.env X.xe) (hc : NT X E c t) (hb : NSs X E body b) : NS X E (.While c body [] pos) (mWhile t b F) :=
  PS.imp (ps_while hp hc hb) fun D σ H ⟨ι, σn, h, f, s, q⟩ => by
    refine ⟨fun m σ H => ∃ ι σn h, Fit X.K X.mg ι H h ∧ Sl X.K X.mg ι H (zX X) σn σ ∧ AftS X.K X.mg (zX X) ι H (mWhile t b m σn h) D E, ⟨F, ι, σn, h, f, s, q⟩, ?_⟩
    rintro m σ H ⟨ι, σn, h, f, s, q⟩
    cases m with
    | zero => exact q.elim
    | succ m =>
      refine ⟨ι, σn, h, f, s, Aft.sbind s q fun ι1 w1 h1 v1 H1 g1 f1 r1 q1 => ?_⟩
      subst r1
      cases w1 with
      | false => rw [if_neg Bool.false_ne_true] at q1 ⊢; exact q1 ι1 σ H1 .refl f1 (s.mono g1)
      | true =>
        rw [if_pos rfl] at q1 ⊢
        refine ⟨fun σ H => ∃ ι σn h, Fit X.K X.mg ι H h ∧ Sl X.K X.mg ι H (zX X) σn σ ∧ AftS X.K X.mg (zX X) ι H (mWhile t b m σn h) D E, fun σ' H' p => ⟨m, Nat.lt_succ_self _, p⟩, ι1, σn, h1, f1, s.mono g1, ?_⟩
        cases e : b σn h1 with
        | nx σ' h' => rw [e] at q1; exact fun ι2 σ2 H2 g2 f2 s2 => ⟨ι2, σ', h', f2, s2, AftS.step q1 g2⟩
        | ct σ' h' => rw [e] at q1; exact fun ι2 σ2 H2 g2 f2 s2 => ⟨ι2, σ', h', f2, s2, AftS.step q1 g2⟩
        | bk σ' h' => rw [e] at q1; exact q1
        | rt w h' => rw [e] at q1; exact q1
        | exc x s h' => rw [e] at q1; exact q1
        | stuck => rw [e] at q1; exact q1
end
/-! ### what is walked -/
abbrev MI := Slo → List O → ER (List W × (List O → Bool))
def ItN (K : PySem.W.Frag) (mg : Str → Option Value) (ι : Ix) (H : Hp) (a : List W × (List O → Bool)) (J : It) : Prop :=
  ∃ (n : Nat) (G : Hp → Prop) (Y : Nat → Hp → V → Hp → Prop), Walk J n G Y ∧ n = a.1.length ∧
    (∀ ι2 H2 h2, Gro0 ι ι2 H H2 → Fit K mg ι2 H2 h2 → a.2 h2 = true → G H2) ∧
    ∀ i ι2 H2 h2 x H3, i < n → Gro0 ι ι2 H H2 → Fit K mg ι2 H2 h2 → a.2 h2 = true → Y i H2 x H3 → ∃ w, a.1[i]? = some w ∧ RW K mg ι2 H3 w x ∧ Grow ι2 ι2 H2 H3 ∧ Fit K mg ι2 H3 h2
def tNI (K : PySem.W.Frag) (mg : Str → Option Value) (z : Option (Addr × Addr)) (E : WX) (m : MI) : TI := fun σ H R => ∃ ι σn h, Fit K mg ι H h ∧ Sl K mg ι H z σn σ ∧ Aft K mg ι H (m σn h) (ItN K mg) R (fun c d H' => E c d σ H')
abbrev NI (X : Cx) (E : WX) (tg iter : Expr) (m : MI) : Prop := PI X tg iter (tNI X.K X.mg (zX X) E m)
theorem PI.imp {X : Cx} {tg e : Expr} {t t' : TI} (h : PI X tg e t) (k : ∀ σ H R, t' σ H R → t σ H R) : PI X tg e t' := ⟨fun pins s σ H R I q => h.run pins s σ H R I (k _ _ _ q)⟩
def mForL (chk : List O → Bool) (g : MG) (b : MS) : List W → MS
  | [] => fun σ h => if chk h = true then .nx σ h else .stuck
  | x :: xs => fun σ h => if chk h = true then (match g x σ with
    | none => .stuck
    | some σ1 => match b σ1 h with
      | .nx σ2 h2 => mForL chk g b xs σ2 h2
      | .ct σ2 h2 => mForL chk g b xs σ2 h2
      | .bk σ2 h2 => .nx σ2 h2
      | r => r) else .stuck
def mFor (it : MI) (g : MG) (b : MS) : MS := fun σ h => (it σ h).sbind σ fun a h1 => mForL a.2 g b a.1 σ h1
section
variable {X : Cx} {E : WX} {pos : Pos}
theorem ns_for {tg iter : Expr} {body : List Stmt} {it : MI} {g : MG} {ts : List Nat} {b : MS} (hp : PassesOwn (model X.prog X.w) X.A X.env X.xe) (hc : X.calm = true) (hi : NI X E tg iter it) (hg : NG X tg g ts) (hb : NSs X E body b)
    (hs : ∀ x, foldedSetIterable iter X.env x = pure x := by intro _; rfl) : NS X E (.For tg iter body [] pos) (mFor it g b) :=
  PS.imp (ps_for hp hc hi hg hb hs) fun D σ H ⟨ι, σn, h, f, s, q⟩ => ⟨ι, σn, h, f, s, Aft.sbind s q fun ι1 a h1 J H1 g1 f1 r1 q1 => by
    obtain ⟨ws, chk⟩ := a
    obtain ⟨n, G, Y, wk, hn, hG, hY⟩ := r1
    subst hn
    refine for_it wk (fun i σ H2 => ∃ ι2 σ2 h2, Grow ι1 ι2 H1 H2 ∧ Fit X.K X.mg ι2 H2 h2 ∧ Sl X.K X.mg ι2 H2 (zX X) σ2 σ ∧ AftS X.K X.mg (zX X) ι2 H2 (mForL chk g b (ws.drop i) σ2 h2) D E) ⟨ι1, σn, h1, .refl, f1, s.mono g1, q1⟩ ?_ ?_ ?_
    · rintro i σ H2 hi ⟨ι2, σ2, h2, g2, f2, s2, q2⟩
      have hk : chk h2 = true := by
        cases hk : chk h2 with
        | true => rfl
        | false =>
          cases hd : ws.drop i with
          | nil => rw [hd] at q2; simp [mForL, hk] at q2; exact q2.elim
          | cons x xs => rw [hd] at q2; simp [mForL, hk] at q2; exact q2.elim
      exact hG ι2 H2 h2 g2.g0 f2 hk
    · rintro i x σ H2 H3 hi ⟨ι2, σ2, h2, g2, f2, s2, q2⟩ hy
      have hi' : i < ws.length := hi
      have hd : ws.drop i = ws[i] :: ws.drop (i + 1) := List.drop_eq_getElem_cons hi'
      rw [hd] at q2
      have hk : chk h2 = true := by
        cases hk : chk h2 with
        | true => rfl
        | false => simp [mForL, hk] at q2; exact q2.elim
      simp only [mForL, hk, if_true] at q2
      obtain ⟨w, e1, r3, g3, f3⟩ := hY i ι2 H2 h2 x H3 hi g2.g0 f2 hk hy
      rw [List.getElem?_eq_getElem hi'] at e1
      cases e1
      cases eg : g ws[i] σ2 with
      | none => rw [eg] at q2; exact q2.elim
      | some σ3 =>
        rw [eg] at q2
        dsimp only at q2
        refine ⟨ι2, σ2, σ3, h2, ws[i], f3, s2.mono g3.g0, r3, eg, fun σ4 s4 _ => ⟨ι2, σ3, h2, f3, s4, ?_⟩⟩
        have q3 := AftS.step q2 g3
        cases e : b σ3 h2 with
        | nx σ' h' => rw [e] at q3; exact fun ι5 σ5 H5 g5 f5 s5 => ⟨ι5, σ', h', (g2.trans g3).trans g5, f5, s5, AftS.step q3 g5⟩
        | ct σ' h' => rw [e] at q3; exact fun ι5 σ5 H5 g5 f5 s5 => ⟨ι5, σ', h', (g2.trans g3).trans g5, f5, s5, AftS.step q3 g5⟩
        | bk σ' h' => rw [e] at q3; exact q3
        | rt w h' => rw [e] at q3; exact q3
        | exc x s h' => rw [e] at q3; exact q3
        | stuck => rw [e] at q3; exact q3
    · rintro σ H2 ⟨ι2, σ2, h2, g2, f2, s2, q2⟩
      rw [List.drop_length] at q2
      cases hk : chk h2 with
      | true => simp only [mForL, hk, if_true] at q2; exact q2 ι2 σ H2 .refl f2 s2
      | false => simp [mForL, hk] at q2; exact q2.elim⟩
end
end N

set_option maxHeartbeats 1000000
namespace N
open PySem L2
/-! ### comprehensions -/
def wipeN (σ : Slo) : List Nat → Slo
  | [] => σ
  | v :: vs => (wipeN σ vs).set v none
abbrev E00 : WX := fun _ _ _ _ => False
/-- what raises has no reading here -/
def ER.nb {α β : Type} (r : ER α) (f : α → List O → ER β) : ER β := match r with
  | .ok a h => f a h
  | _ => .stuck
@[simp] theorem nb_ok {α β : Type} (a : α) (h : List O) (f : α → List O → ER β) : (ER.ok a h).nb f = f a h := rfl
@[simp] theorem nb_exc {α β : Type} (x : Ex) (h : List O) (f : α → List O → ER β) : (ER.exc x h : ER α).nb f = .stuck := rfl
@[simp] theorem nb_stuck {α β : Type} (f : α → List O → ER β) : (ER.stuck : ER α).nb f = .stuck := rfl
def mLcL (chk : List O → Bool) (g : MG) (t : MT) (el : ME) (σ0 : Slo) : List W → List W → List O → ER (List W)
  | [], acc, h => if chk h = true then .ok acc h else .stuck
  | x :: xs, acc, h => if chk h = true then (match g x σ0 with
    | none => .stuck
    | some σ1 => (t σ1 h).nb fun b h2 => if b = true then (el σ1 h2).nb fun y h3 => if acc.length < sizeLine then mLcL chk g t el σ0 xs (acc ++ [y]) h3 else .stuck else mLcL chk g t el σ0 xs acc h2) else .stuck
def lcF : List W → List O → ER W := fun acc h => .ok (.lst acc) h
/-- .. as a new numbered list -/
def lcFN : List W → List O → ER W := fun acc h => .ok (.ref h.length) (h ++ [.lst acc])
def mLcN (it : MI) (g : MG) (t : MT) (el : ME) (own : List Nat) : ME := fun σ h => (it σ h).bind fun a h1 => (mLcL a.2 g t el (wipeN σ own) a.1 [] h1).nb lcFN
def mLc (it : MI) (g : MG) (t : MT) (el : ME) (own : List Nat) : ME := fun σ h => (it σ h).bind fun a h1 => (mLcL a.2 g t el (wipeN σ own) a.1 [] h1).nb lcF
def mYes : MT := fun _ h => .ok true h
section
variable {K : PySem.W.Frag} {mg : Str → Option Value} {ι ι' : Ix} {H H' : Hp} {h : List O} {σn : Slo} {σ : St} {E : WX} {z : Option (Addr × Addr)}
theorem Sl.wipe (s : Sl K mg ι H z σn σ) : ∀ vs : List Nat, Sl K mg ι H z (wipeN σn vs) (wipe σ vs)
  | [] => s
  | v :: vs => (Sl.wipe s vs).un v none
/-- behind a run that raises nothing -/
theorem Aft.nb {α β γ δ : Type} {r : ER α} {f : α → List O → ER γ} {rel : Ix → Hp → α → β → Prop} {rel2 : Ix → Hp → γ → δ → Prop} {Q : δ → Hp → Prop} {Q1 : β → Hp → Prop} {E E' : XK}
    (q : Aft K mg ι H (r.nb f) rel2 Q E) (k : ∀ ι1 w h1 v H1, Grow ι ι1 H H1 → Fit K mg ι1 H1 h1 → rel ι1 H1 w v → Aft K mg ι1 H1 (f w h1) rel2 Q E → Q1 v H1) : Aft K mg ι H r rel Q1 E' := by
  cases r with
  | ok w h' => exact fun ι2 v H2 g f2 r2 => k ι2 w h' v H2 g f2 r2 (Aft.step q g)
  | exc x h' => exact q.elim
  | stuck => exact q.elim
/-- D is hidden -/
def Ix.hide (ι : Ix) (D : Addr) : Ix := ⟨ι.num, D :: ι.hid, ι.exs⟩
theorem Fit.hide (f : Fit K mg ι H h) {D : Addr} (hD : H D = none) (o : HO) : Fit K mg (ι.hide D) (upd H D o) h ∧ Gro0 ι (ι.hide D) H (upd H D o) := by
  have nD := f.nin hD
  have g0 : Gro0 ι (ι.hide D) H (upd H D o) := ⟨⟨[], by simp [Ix.hide]⟩, fun a u n q => by
    have hx : a ≠ D := ne_of_none q hD
    exact ⟨⟨n.1, fun z => (List.mem_cons.mp z).elim hx n.2⟩, u, by rw [upd_ne hx]; exact q, rfl⟩, rfl⟩
  refine ⟨⟨f.nd, f.len, fun n u a h1 h2 => (f.obj n u a h1 h2).mono g0 (upd_ne fun z => nD.1 (z ▸ List.mem_of_getElem? h2)), fun a ha => ?_⟩, g0⟩
  rcases List.mem_cons.mp ha with rfl | ha
  · exact ⟨⟨_, upd_same⟩, nD.1⟩
  · obtain ⟨h1, h2⟩ := f.hd a ha
    exact ⟨by rw [upd_ne (f.hne hD ha)]; exact h1, h2⟩
/-- the hidden thing is changed -/
theorem Fit.putH {D : Addr} (f : Fit K mg (ι.hide D) H h) (o : HO) : Fit K mg (ι.hide D) (upd H D o) h ∧ Gro0 (ι.hide D) (ι.hide D) H (upd H D o) := by
  have g0 : Gro0 (ι.hide D) (ι.hide D) H (upd H D o) := ⟨⟨[], by simp⟩, fun a u n q => by
    have hx : a ≠ D := fun z => n.2 (by rw [z]; exact List.mem_cons_self ..)
    exact ⟨n, u, by rw [upd_ne hx]; exact q, rfl⟩, rfl⟩
  have nD := (f.hd D (List.mem_cons_self ..)).2
  refine ⟨⟨f.nd, f.len, fun n u a h1 h2 => (f.obj n u a h1 h2).mono g0 (upd_ne fun z => nD (z ▸ List.mem_of_getElem? h2)), fun a ha => ⟨?_, (f.hd a ha).2⟩⟩, g0⟩
  by_cases hx : a = D
  · subst hx; exact ⟨_, upd_same⟩
  · rw [upd_ne hx]; exact (f.hd a ha).1
/-- the hidden thing is seen again -/
theorem Fit.show' {D : Addr} (f : Fit K mg (ι.hide D) H h) : Fit K mg ι H h ∧ Gro0 (ι.hide D) ι H H := by
  have g0 : Gro0 (ι.hide D) ι H H := ⟨⟨[], by simp [Ix.hide]⟩, fun a u n q => ⟨⟨n.1, fun z => n.2 (List.mem_cons_of_mem _ z)⟩, u, q, rfl⟩, rfl⟩
  exact ⟨⟨f.nd, f.len, fun n u a h1 h2 => (f.obj n u a h1 h2).mono g0 rfl, fun a ha => f.hd a (List.mem_cons_of_mem _ ha)⟩, g0⟩
/-- the hidden list gets a number -/
theorem Fit.showN {D : Addr} {acc : List W} {vs : List V} (f : Fit K mg (ι.hide D) H h) (hD : D ∉ ι.hid) (e : H D = some (.lst vs)) (r : RWs K mg (ι.hide D) H acc vs) : Fit K mg (ι.add D) H (h ++ [.lst acc]) ∧ Gro0 (ι.hide D) (ι.add D) H H := by
  have nD : D ∉ ι.num := (f.hd D (List.mem_cons_self ..)).2
  have g0 : Gro0 (ι.hide D) (ι.add D) H H := ⟨⟨[D], rfl⟩, fun a u n q => ⟨⟨fun z => by
    have z : a ∈ ι.num ++ [D] := z
    rw [List.mem_append, List.mem_singleton] at z
    rcases z with z | z
    · exact n.1 z
    · exact n.2 (by rw [z]; exact List.mem_cons_self ..), fun z => n.2 (List.mem_cons_of_mem _ z)⟩, u, q, rfl⟩, rfl⟩
  have hl : ι.num.length = h.length := f.len
  refine ⟨⟨?_, by simp [Ix.add, hl], fun n u a h1 h2 => ?_, fun a ha => ?_⟩, g0⟩
  · show (ι.num ++ [D]).Nodup
    rw [List.nodup_append]
    exact ⟨f.nd, by simp, fun x hx y hy => by rw [List.mem_singleton] at hy; subst hy; exact fun z => nD (z ▸ hx)⟩
  · have h2 : (ι.num ++ [D])[n]? = some a := h2
    by_cases hn : n < h.length
    · rw [List.getElem?_append_left hn] at h1
      rw [List.getElem?_append_left (by rw [hl]; exact hn)] at h2
      exact (f.obj n u a h1 h2).mono g0 rfl
    · have hn2 : n = h.length := by
        have := (List.getElem?_eq_some_iff.mp h1).1
        simp at this
        omega
      subst hn2
      rw [List.getElem?_append_right (Nat.le_refl _), Nat.sub_self] at h1
      rw [← hl, List.getElem?_append_right (Nat.le_refl _), Nat.sub_self] at h2
      cases h1
      cases h2
      exact .lst e (RWs.mono g0 _ _ r)
  · have ha : a ∈ ι.hid := ha
    obtain ⟨h1, h2⟩ := f.hd a (List.mem_cons_of_mem _ ha)
    refine ⟨h1, ?_⟩
    show a ∉ ι.num ++ [D]
    rw [List.mem_append, List.mem_singleton]
    exact fun z => z.elim h2 fun z => hD (z ▸ ha)
theorem lc_aft {fin : List W → List O → ER W} (hf : fin = lcF ∨ fin = lcFN) {wi : TI} {J : It} {it : MI} {g : MG} {ts own : List Nat} {t : MT} {tt : TT} {el : ME} {ws : List W} {chk : List O → Bool} {Q : VK} (htt : ∀ σ H Q, tNT K mg z E00 t σ H Q → tt σ H Q) (hts : ∀ i, i ∈ ts → i ∈ own) (f : Fit K mg ι H h) (s : Sl K mg ι H z σn σ)
    (r : ItN K mg ι H (ws, chk) J) (q : Aft K mg ι H ((mLcL chk g t el (wipeN σn own) ws [] h).nb fin) (RW K mg) Q (fun c d H' => E c d σ H')) (D : Addr) (hD : H D = none) :
    ∃ W : Nat → Nat → Hp → Prop, (∃ m, W 0 m (upd H D (.lst []))) ∧ ∀ i m H, W i m H →
      (J.stop i H ∧ Q (.ref D) H) ∨ (J.go i H ∧ ∃ Nx : Hp → Prop, (∀ H', Nx H' → ∃ m', m' < m ∧ W (i + 1) m' H') ∧ ∀ x H', J.yld i H x H' → tNG K mg z g ts x (wipe σ own) H' fun σ2 H2 => wipe σ2 own = wipe σ own ∧ tt σ2 H2 fun b H3 =>
        if b = true then tN K mg z E00 el σ2 H3 fun y H4 => ∃ acc, H4 D = some (.lst acc) ∧ acc.length < sizeLine ∧ Nx (upd H4 D (.lst (acc ++ [y]))) else Nx H3) := by
  obtain ⟨n, G, Y, wk, hn, hG, hY⟩ := r
  subst hn
  obtain ⟨fD, gD⟩ := f.hide hD (.lst [])
  refine lc_it wk (fun i H2 => ∃ ι2 acc vs h2, Gro0 ι (Ix.hide ι2 D) H H2 ∧ ι2.hid = ι.hid ∧ (∀ a, a ∈ ι.hid → H2 a = H a) ∧ Fit K mg (Ix.hide ι2 D) H2 h2 ∧ H2 D = some (.lst vs) ∧ RWs K mg (Ix.hide ι2 D) H2 acc vs ∧
    Aft K mg ι H ((mLcL chk g t el (wipeN σn own) (ws.drop i) acc h2).nb fin) (RW K mg) Q (fun c d H' => E c d σ H'))
    ⟨ι, [], [], h, gD, rfl, fun a ha => upd_ne (f.hne hD ha), fD, upd_same, .nil, q⟩ ?_ ?_ ?_
  · rintro i H2 hi ⟨ι2, acc, vs, h2, g2, eh, kh, f2, e2, r2, q2⟩
    refine hG _ H2 h2 g2 f2 ?_
    cases hk : chk h2 with
    | true => exact hk
    | false =>
      cases hd : ws.drop i with
      | nil => rw [hd] at q2; simp [mLcL, hk] at q2; exact q2.elim
      | cons x xs => rw [hd] at q2; simp [mLcL, hk] at q2; exact q2.elim
  · rintro i x H2 H3 hi ⟨ι2, acc, vs, h2, g2, eh, kh, f2, e2, r2, q2⟩ hy
    have hi' : i < ws.length := hi
    rw [List.drop_eq_getElem_cons hi'] at q2
    have hk : chk h2 = true := by
      cases hk : chk h2 with
      | true => rfl
      | false => simp [mLcL, hk] at q2; exact q2.elim
    simp only [mLcL, hk, if_true] at q2
    obtain ⟨w, e1, r3, g3, f3⟩ := hY i _ H2 h2 x H3 hi g2 f2 hk hy
    have e1' : ws[i]? = some w := e1
    rw [List.getElem?_eq_getElem hi'] at e1'
    cases e1'
    cases eg : g ws[i] (wipeN σn own) with
    | none => rw [eg] at q2; exact q2.elim
    | some σ3 =>
      rw [eg] at q2
      dsimp only at q2
      refine ⟨_, _, σ3, h2, ws[i], f3, (((s.mono g2).mono g3.g0).wipe own), r3, eg, fun σ4 s4 hw => ⟨?_, htt _ _ _ ⟨_, σ3, h2, f3, s4, ?_⟩⟩⟩
      · rw [hw own hts, wipe_wipe fun _ z => z]
      cases et : t σ3 h2 with
      | exc x h' => rw [et] at q2; exact q2.elim
      | stuck => rw [et] at q2; exact q2.elim
      | ok b h4 =>
        rw [et] at q2
        intro ι4 b' H4 g4 f4 eb
        subst eb
        have g04 : Gro0 ι ι4 H H4 := (g2.trans g3.g0).trans g4.g0
        obtain ⟨num4, hid4, ex4⟩ := ι4
        have hh4 : hid4 = D :: ι2.hid := g4.hid.trans g3.hid
        subst hh4
        have kD : H4 D = some (.lst vs) := by rw [g4.hkeep D (by rw [g3.hid]; exact List.mem_cons_self ..), g3.hkeep D (List.mem_cons_self ..)]; exact e2
        have kh4 : ∀ a, a ∈ ι.hid → H4 a = H a := fun a ha => by
          have ha2 : a ∈ (Ix.hide ι2 D).hid := List.mem_cons_of_mem _ (by rw [eh]; exact ha)
          rw [g4.hkeep a (by rw [g3.hid]; exact ha2), g3.hkeep a ha2, kh a ha]
        have r4 : RWs K mg ⟨num4, D :: ι2.hid, ex4⟩ H4 acc vs := RWs.mono g4.g0 _ _ (RWs.mono g3.g0 _ _ r2)
        cases b with
        | false =>
          rw [if_neg Bool.false_ne_true]
          exact ⟨⟨num4, ι2.hid, ex4⟩, acc, vs, h4, g04, eh, kh4, f4, kD, r4, q2⟩
        | true =>
          rw [if_pos rfl]
          simp only [nb_ok, if_true] at q2
          refine ⟨⟨num4, D :: ι2.hid, ex4⟩, σ3, h4, f4, s4.mono g4.g0, ?_⟩
          cases ee : el σ3 h4 with
          | exc x h' => rw [ee] at q2; exact q2.elim
          | stuck => rw [ee] at q2; exact q2.elim
          | ok y h5 =>
            rw [ee] at q2
            intro ι5 u H5 g5 f5 r5
            obtain ⟨num5, hid5, ex5⟩ := ι5
            have hh5 : hid5 = D :: ι2.hid := g5.hid
            subst hh5
            have kD5 : H5 D = some (.lst vs) := by rw [g5.hkeep D (List.mem_cons_self ..)]; exact kD
            simp only [nb_ok] at q2
            by_cases hl : acc.length < sizeLine
            · rw [if_pos hl] at q2
              obtain ⟨f6, g6⟩ := Fit.putH (ι := ⟨num5, ι2.hid, ex5⟩) f5 (.lst (vs ++ [u]))
              refine ⟨vs, kD5, by rw [r4.len]; exact hl, ⟨num5, ι2.hid, ex5⟩, acc ++ [y], vs ++ [u], h5, (g04.trans g5.g0).trans g6, eh, fun a ha => ?_, f6, upd_same, ?_, q2⟩
              · have hne : a ≠ D := f.hne hD ha
                rw [upd_ne hne, g5.hkeep a (List.mem_cons_of_mem _ (by rw [eh]; exact ha))]
                exact kh4 a ha
              · exact RWs.mono g6 _ _ ((RWs.mono g5.g0 _ _ r4).app (.cons r5 .nil))
            · rw [if_neg hl] at q2; exact q2.elim
  · rintro H2 ⟨ι2, acc, vs, h2, g2, eh, kh, f2, e2, r2, q2⟩
    have e0 : ws.drop (ws, chk).1.length = [] := List.drop_length
    rw [e0] at q2
    cases hk : chk h2 with
    | false => simp [mLcL, hk] at q2; exact q2.elim
    | true =>
      simp only [mLcL, hk, if_true, nb_ok] at q2
      have nDh : D ∉ ι2.hid := fun z => by
        rw [eh] at z
        obtain ⟨⟨o, e⟩, _⟩ := f.hd D z
        rw [hD] at e; cases e
      rcases hf with rfl | rfl
      · obtain ⟨f7, g7⟩ := Fit.show' f2
        have nD : ι2.out D := ⟨(f2.hd D (List.mem_cons_self ..)).2, nDh⟩
        exact q2 ι2 (.ref D) H2 ⟨g2.trans g7, eh, kh⟩ f7 (.lst nD e2 (RWs.mono g7 _ _ r2))
      · obtain ⟨f7, g7⟩ := Fit.showN f2 nDh e2 r2
        refine q2 (ι2.add D) (.ref D) H2 ⟨g2.trans g7, eh, kh⟩ f7 (.ref ?_)
        have hl : ι2.num.length = h2.length := f2.len
        show (ι2.num ++ [D])[h2.length]? = _
        rw [← hl, List.getElem?_append_right (Nat.le_refl _), Nat.sub_self]; rfl
end
section
variable {X : Cx} {E : WX} {pos : Pos}
/-- the tests of a clause -/
abbrev NTs (X : Cx) (E : WX) (es : List Expr) (m : MT) : Prop := PTs X es (tNT X.K X.mg (zX X) E m)
theorem PTs.imp {X : Cx} {e : List Expr} {t t' : TT} (h : PTs X e t) (k : ∀ σ H Q, t' σ H Q → t σ H Q) : PTs X e t' := ⟨fun pins s σ H Q I q => h.run pins s σ H Q I (k _ _ _ q)⟩
theorem nts_nil : NTs X E [] mYes := PTs.imp pts_nil fun σ H Q ⟨ι, σn, h, f, s, q⟩ => q ι true H .refl f rfl
theorem nts_one {c : Expr} {m : MT} (h : NT X E c m) : NTs X E [c] m := pts_one h
theorem zX_blk {s : Shared} {H : Hp} {scope : Scope} {cenv : Env} {fp : List Addr} (hc : X.calm = true) : zX (X.blk s H scope cenv fp) = zX X := by
  have e : zX X = none := if_pos hc
  rw [e]
  exact if_pos hc
theorem ne_blk {s : Shared} {H : Hp} {scope : Scope} {cenv : Env} {fp : List Addr} {e : Expr} {m : ME} (hc : X.calm = true) (h : NE (X.blk s H scope cenv fp) E e m) : PE (X.blk s H scope cenv fp) e (tN X.K X.mg (zX X) E m) := by
  rw [← zX_blk hc]; exact h
theorem nts_blk {s : Shared} {H : Hp} {scope : Scope} {cenv : Env} {fp : List Addr} {e : List Expr} {m : MT} (hc : X.calm = true) (h : NTs (X.blk s H scope cenv fp) E e m) : PTs (X.blk s H scope cenv fp) e (tNT X.K X.mg (zX X) E m) := by
  rw [← zX_blk hc]; exact h
theorem ng_blk {s : Shared} {H : Hp} {scope : Scope} {cenv : Env} {fp : List Addr} {e : Expr} {m : MG} {ts : List Nat} (hc : X.calm = true) (h : NG (X.blk s H scope cenv fp) e m ts) : PG (X.blk s H scope cenv fp) e (tNG X.K X.mg (zX X) m ts) := by
  rw [← zX_blk hc]; exact h
theorem ne_lc {elt tg iter : Expr} {ifs : List Expr} {scope : Scope} {own : List (Str × Nat)} {it : MI} {g : MG} {ts : List Nat} {t : MT} {el : ME} (hc : X.calm = true) (hN : X.N.Nodup) (hi : NI X E tg iter it) (ok : BlkOk X.N X.env.scope scope own) (hts : ∀ i, i ∈ ts → i ∈ own.map (·.2))
    (hg : ∀ (s : Shared) (H : Hp) (C : Addr) (cl : List (Str × Addr)) (fp : List Addr), NG (X.blk s H scope (compEnvC scope cl C X.env) fp) tg g ts) (ht : ∀ (s : Shared) (H : Hp) (C : Addr) (cl : List (Str × Addr)) (fp : List Addr), NTs (X.blk s H scope (compEnvC scope cl C X.env) fp) E00 ifs t)
    (he : ∀ (s : Shared) (H : Hp) (C : Addr) (cl : List (Str × Addr)) (fp : List Addr), NE (X.blk s H scope (compEnvC scope cl C X.env) fp) E00 elt el) (hs : ∀ x, foldedSetIterable iter X.env x = pure x := by intro _; rfl) :
    NE X E (.ListComp elt [⟨tg, iter, ifs, 0⟩] scope pos) (mLc it g t el (own.map (·.2))) :=
  PE.imp (pe_lc hc hN hi ok (fun s H C cl fp => ng_blk hc (hg s H C cl fp)) (fun s H C cl fp => nts_blk hc (ht s H C cl fp)) (fun s H C cl fp => ne_blk hc (he s H C cl fp)) hs) fun σ H Q ⟨ι, σn, h, f, s, q⟩ => ⟨ι, σn, h, f, s, Aft.bind q fun ι1 a h1 J H1 g1 f1 r1 q1 D hD =>
    lc_aft (.inl rfl) (it := it) (g := g) (t := t) (el := el) (tt := tNT X.K X.mg (zX X) E00 t) (wi := tNI X.K X.mg (zX X) E it) (fun _ _ _ z => z) hts f1 (s.mono g1) r1 q1 D hD⟩
theorem ns_setLc {i : Nat} {y : Str} {py : Pos} {elt tg iter : Expr} {ifs : List Expr} {scope : Scope} {own : List (Str × Nat)} {spos : Pos} {it : MI} {g : MG} {ts : List Nat} {t : MT} {el : ME} (hc : X.calm = true) (hN : X.N.Nodup) (hy : X.N[i]? = some y) (hyl : X.env.scope.names.lookup y = some .local)
    (hsw : swapsWith (.ListComp elt [⟨tg, iter, ifs, 0⟩] scope pos) (some (.Name y py)) spos.line X.env = pure true) (hi : NI X E tg iter it) (ok : BlkOk X.N X.env.scope scope own) (hts : ∀ i, i ∈ ts → i ∈ own.map (·.2))
    (hg : ∀ (s : Shared) (H : Hp) (C : Addr) (cl : List (Str × Addr)) (fp : List Addr), NG (X.blk s H scope (compEnvC scope cl C X.env) fp) tg g ts) (ht : ∀ (s : Shared) (H : Hp) (C : Addr) (cl : List (Str × Addr)) (fp : List Addr), NTs (X.blk s H scope (compEnvC scope cl C X.env) fp) E00 ifs t)
    (he : ∀ (s : Shared) (H : Hp) (C : Addr) (cl : List (Str × Addr)) (fp : List Addr), NE (X.blk s H scope (compEnvC scope cl C X.env) fp) E00 elt el) (hs : ∀ x, foldedSetIterable iter X.env x = pure x := by intro _; rfl) :
    NS X E (.Assign [.Name y py] (.ListComp elt [⟨tg, iter, ifs, 0⟩] scope pos) spos) (mSet i (mLc it g t el (own.map (·.2)))) :=
  PS.imp (ps_setLc hc hN hy hyl hsw hi ok (fun s H C cl fp => ng_blk hc (hg s H C cl fp)) (fun s H C cl fp => nts_blk hc (ht s H C cl fp)) (fun s H C cl fp => ne_blk hc (he s H C cl fp)) hs) fun D σ H ⟨ι, σn, h, f, s, q⟩ => ⟨ι, σn, h, f, s, by
    have q' : AftS X.K X.mg (zX X) ι H ((it σn h).sbind σn fun a h1 => ((mLcL a.2 g t el (wipeN σn (own.map (·.2))) a.1 [] h1).nb lcF).sbind σn fun w h1 => .nx (σn.set i (some w)) h1) D E := by
      have : mSet i (mLc it g t el (own.map (·.2))) σn h = ((it σn h).sbind σn fun a h1 => ((mLcL a.2 g t el (wipeN σn (own.map (·.2))) a.1 [] h1).nb lcF).sbind σn fun w h1 => .nx (σn.set i (some w)) h1) := by
        unfold mSet mLc
        cases it σn h <;> rfl
      rw [← this]; exact q
    refine Aft.sbind s q' fun ι1 a h1 J H1 g1 f1 r1 q1 L hL => ?_
    refine lc_aft (.inl rfl) (it := it) (g := g) (t := t) (el := el) (tt := tNT X.K X.mg (zX X) E00 t) (wi := tNI X.K X.mg (zX X) E it) (E := E) (Q := fun x H1 => D.nx (σ.set i (some x)) H1) (fun _ _ _ z => z) hts f1 (s.mono g1) r1 ?_ L hL
    cases e : (mLcL a.2 g t el (wipeN σn (own.map (·.2))) a.1 [] h1).nb lcF with
    | ok w h2 => rw [e] at q1; exact fun ι2 v H2 g2 f2 r2 => q1 ι2 _ H2 g2 f2 (((s.mono g1.g0).mono g2.g0).set r2 i)
    | exc x h2 => rw [e] at q1; exact fun ι2 c d H2 g2 f2 r2 => q1 ι2 c d σ H2 g2 f2 ((s.mono g1.g0).mono g2.g0) r2
    | stuck => rw [e] at q1; exact q1⟩
theorem ne_lcN {elt tg iter : Expr} {ifs : List Expr} {scope : Scope} {own : List (Str × Nat)} {it : MI} {g : MG} {ts : List Nat} {t : MT} {el : ME} (hc : X.calm = true) (hN : X.N.Nodup) (hi : NI X E tg iter it) (ok : BlkOk X.N X.env.scope scope own) (hts : ∀ i, i ∈ ts → i ∈ own.map (·.2))
    (hg : ∀ (s : Shared) (H : Hp) (C : Addr) (cl : List (Str × Addr)) (fp : List Addr), NG (X.blk s H scope (compEnvC scope cl C X.env) fp) tg g ts) (ht : ∀ (s : Shared) (H : Hp) (C : Addr) (cl : List (Str × Addr)) (fp : List Addr), NTs (X.blk s H scope (compEnvC scope cl C X.env) fp) E00 ifs t)
    (he : ∀ (s : Shared) (H : Hp) (C : Addr) (cl : List (Str × Addr)) (fp : List Addr), NE (X.blk s H scope (compEnvC scope cl C X.env) fp) E00 elt el) (hs : ∀ x, foldedSetIterable iter X.env x = pure x := by intro _; rfl) :
    NE X E (.ListComp elt [⟨tg, iter, ifs, 0⟩] scope pos) (mLcN it g t el (own.map (·.2))) :=
  PE.imp (pe_lc hc hN hi ok (fun s H C cl fp => ng_blk hc (hg s H C cl fp)) (fun s H C cl fp => nts_blk hc (ht s H C cl fp)) (fun s H C cl fp => ne_blk hc (he s H C cl fp)) hs) fun σ H Q ⟨ι, σn, h, f, s, q⟩ => ⟨ι, σn, h, f, s, Aft.bind q fun ι1 a h1 J H1 g1 f1 r1 q1 D hD =>
    lc_aft (.inr rfl) (it := it) (g := g) (t := t) (el := el) (tt := tNT X.K X.mg (zX X) E00 t) (wi := tNI X.K X.mg (zX X) E it) (fun _ _ _ z => z) hts f1 (s.mono g1) r1 q1 D hD⟩
theorem ns_setLcN {i : Nat} {y : Str} {py : Pos} {elt tg iter : Expr} {ifs : List Expr} {scope : Scope} {own : List (Str × Nat)} {spos : Pos} {it : MI} {g : MG} {ts : List Nat} {t : MT} {el : ME} (hc : X.calm = true) (hN : X.N.Nodup) (hy : X.N[i]? = some y) (hyl : X.env.scope.names.lookup y = some .local)
    (hsw : swapsWith (.ListComp elt [⟨tg, iter, ifs, 0⟩] scope pos) (some (.Name y py)) spos.line X.env = pure true) (hi : NI X E tg iter it) (ok : BlkOk X.N X.env.scope scope own) (hts : ∀ i, i ∈ ts → i ∈ own.map (·.2))
    (hg : ∀ (s : Shared) (H : Hp) (C : Addr) (cl : List (Str × Addr)) (fp : List Addr), NG (X.blk s H scope (compEnvC scope cl C X.env) fp) tg g ts) (ht : ∀ (s : Shared) (H : Hp) (C : Addr) (cl : List (Str × Addr)) (fp : List Addr), NTs (X.blk s H scope (compEnvC scope cl C X.env) fp) E00 ifs t)
    (he : ∀ (s : Shared) (H : Hp) (C : Addr) (cl : List (Str × Addr)) (fp : List Addr), NE (X.blk s H scope (compEnvC scope cl C X.env) fp) E00 elt el) (hs : ∀ x, foldedSetIterable iter X.env x = pure x := by intro _; rfl) :
    NS X E (.Assign [.Name y py] (.ListComp elt [⟨tg, iter, ifs, 0⟩] scope pos) spos) (mSet i (mLcN it g t el (own.map (·.2)))) :=
  PS.imp (ps_setLc hc hN hy hyl hsw hi ok (fun s H C cl fp => ng_blk hc (hg s H C cl fp)) (fun s H C cl fp => nts_blk hc (ht s H C cl fp)) (fun s H C cl fp => ne_blk hc (he s H C cl fp)) hs) fun D σ H ⟨ι, σn, h, f, s, q⟩ => ⟨ι, σn, h, f, s, by
    have q' : AftS X.K X.mg (zX X) ι H ((it σn h).sbind σn fun a h1 => ((mLcL a.2 g t el (wipeN σn (own.map (·.2))) a.1 [] h1).nb lcFN).sbind σn fun w h1 => .nx (σn.set i (some w)) h1) D E := by
      have : mSet i (mLcN it g t el (own.map (·.2))) σn h = ((it σn h).sbind σn fun a h1 => ((mLcL a.2 g t el (wipeN σn (own.map (·.2))) a.1 [] h1).nb lcFN).sbind σn fun w h1 => .nx (σn.set i (some w)) h1) := by
        unfold mSet mLcN
        cases it σn h <;> rfl
      rw [← this]; exact q
    refine Aft.sbind s q' fun ι1 a h1 J H1 g1 f1 r1 q1 L hL => ?_
    refine lc_aft (.inr rfl) (it := it) (g := g) (t := t) (el := el) (tt := tNT X.K X.mg (zX X) E00 t) (wi := tNI X.K X.mg (zX X) E it) (E := E) (Q := fun x H1 => D.nx (σ.set i (some x)) H1) (fun _ _ _ z => z) hts f1 (s.mono g1) r1 ?_ L hL
    cases e : (mLcL a.2 g t el (wipeN σn (own.map (·.2))) a.1 [] h1).nb lcFN with
    | ok w h2 => rw [e] at q1; exact fun ι2 v H2 g2 f2 r2 => q1 ι2 _ H2 g2 f2 (((s.mono g1.g0).mono g2.g0).set r2 i)
    | exc x h2 => rw [e] at q1; exact fun ι2 c d H2 g2 f2 r2 => q1 ι2 c d σ H2 g2 f2 ((s.mono g1.g0).mono g2.g0) r2
    | stuck => rw [e] at q1; exact q1⟩
end
end N

set_option maxHeartbeats 1000000
namespace N
open PySem L2
/-! ### defs -/
/-- a def of the text, by its number of parameters and its function -/
def spN (K : PySem.W.Frag) (mg : Str → Option Value) (n : Nat) (m : MF) : Sp := fun vs H Q E => ∃ ι ws h, Fit K mg ι H h ∧ ι.exs = none ∧ RWs K mg ι H ws vs ∧ ws.length = n ∧ Aft K mg ι H (m ws h) (RW K mg) Q E
structure FunD (K : PySem.W.Frag) (mg : Str → Option Value) (nm : Str) (st : Stmt) (ps : List Str) : Prop where
  ex : ∃ (f : Addr) (fd : FuncData), Fun K nm nm st f fd ∧ mg nm = some (.ref f) ∧ Binds K fd ps []
theorem funD_mk {K : PySem.W.Frag} {mg : Str → Option Value} {nm : Str} {st : Stmt} {ps : List Str} {f : Addr} {fd : FuncData} (h2 : mg nm = some (.ref f)) (h1 : Fun K nm nm st f fd) (h3 : Binds K fd ps []) : FunD K mg nm st ps := ⟨f, fd, h1, h2, h3⟩
structure Def (P : Program) (w : World) (K : PySem.W.Frag) (mg : Str → Option Value) (base : Heap) (k : Nat) (nm : Str) (ps : List Str) (m : MF) : Prop where
  ex : ∃ (f : Addr) (fd : FuncData), FnOk P w K mg base (L2.CX P w) k f fd ps (spN K mg ps.length m) ∧ mg nm = some (.ref f) ∧ PySem.W.keepIn K (.ref f) = true ∧ Binds K fd ps []
/-- what a def gives, by its body and the number of its slots -/
def mDef (n : Nat) (b : MS) : MF := fun ws h => match b (ws.map some ++ List.replicate (n - ws.length) none) h with
  | .nx _ h' => .ok .non h'
  | .rt w h' => .ok w h'
  | .exc x _ h' => .exc x h'
  | _ => .stuck
section
variable {P : Program} {w : World} {K : PySem.W.Frag} {mg : Str → Option Value} {base : Heap}
theorem sl_start {ι : Ix} {H : Hp} {ws : List W} {vs : List V} {N : List Str} (ex : ι.exs = none) (r : RWs K mg ι H ws vs) : Sl K mg ι H none (ws.map some ++ List.replicate (N.length - ws.length) none) (L2.start N vs) := by
  have hl := r.len
  refine ⟨ex, ?_, fun i w e => ?_⟩
  · unfold L2.start
    rw [List.length_append, List.length_append, List.length_map, List.length_map, List.length_replicate, List.length_replicate, hl]
  · have hi : i < ws.length := by
      by_cases hi : i < ws.length
      · exact hi
      · rw [List.getElem?_append_right (by simpa using hi)] at e
        rw [List.getElem?_replicate] at e
        split at e <;> cases e
    rw [List.getElem?_append_left (by simpa using hi), List.getElem?_map] at e
    cases e1 : ws[i]? with
    | none => rw [e1] at e; cases e
    | some w' =>
      rw [e1] at e
      cases e
      obtain ⟨v, h1, h2⟩ := r.at e1
      refine ⟨v, ?_, h2⟩
      unfold L2.start
      rw [List.getElem?_append_left (by rw [List.length_map, hl]; exact hi), List.getElem?_map, h1]
      rfl
theorem FunD.ok {nm : Str} {st : Stmt} {N ps : List Str} {k : Nat} {b : MS} (F : FunD K mg nm st ps) (S : FnScope N ps (defScope st))
    (hb : ∀ (f : Addr) (cdv : Value) (A : Around) (outer : List Env) (s : Shared) (H : Hp) (E : XK), Room k (A.deeper (PyProof.Rows.envOfC nm (defScope st) s.heap.objs.size f cdv)) →
      NSs (cxOf (L2.CX P w) P w K mg base N nm (defScope st) f cdv A outer s H E) (fun cls d _ H' => E cls d H') (defBody st) b) : Def P w K mg base (k + 1) nm ps (mDef N.length b) := by
  obtain ⟨f, fd, h1, h2, h3⟩ := F
  refine ⟨f, fd, h1.okX S (fun vs H Q E h => ?_) (fun cdv A outer s H vs Q E hr h => ?_), h2, h1.kp, h3⟩
  · obtain ⟨ι, ws, h, _, _, r, e, _⟩ := h
    rw [r.len, e]
  · obtain ⟨ι, ws, h, ft, ex, r, e, q⟩ := h
    refine ⟨_, hb f cdv A outer s H E hr, ι, _, h, ft, sl_start ex r, ?_⟩
    unfold mDef at q
    cases e2 : b (ws.map some ++ List.replicate (N.length - ws.length) none) h with
    | nx σ' h' => rw [e2] at q; exact fun ι2 σ2 H2 g2 f2 s2 => q ι2 .non H2 g2 f2 .non
    | rt w h' => rw [e2] at q; exact q
    | exc x σ' h' => rw [e2] at q; exact fun ι2 c d σ2 H2 g2 f2 s2 => q ι2 c d H2 g2 f2
    | bk σ' h' => rw [e2] at q; exact q.elim
    | ct σ' h' => rw [e2] at q; exact q.elim
    | stuck => rw [e2] at q; exact q.elim
end
def mCall (m : MF) (ma : MA) : ME := fun σ h => (ma σ h).bind fun ws h1 => m ws h1
section
variable {X : Cx} {E : WX} {e : Expr} {es : List Expr} {pos : Pos}
theorem na_len {X : Cx} {E : WX} {es : List Expr} {m : MA} : True := trivial
theorem ne_call {k : Nat} {x : Str} {ps : List Str} {m : MF} {ma : MA} {p : Pos} (D : Def X.prog X.w X.K X.mg X.base k x ps m) (hr : Room k X.A) (hc : X.calm = true) (hg : Gl X x) (tk : Takes X E) (ha : NA X E (e :: es) ma) (hl : ∀ σ h ws h', ma σ h = .ok ws h' → ws.length = ps.length)
    (hdb : (x == ("__debug__" : Str)) = false := by decide) (he : starEach (e :: es) X.env = (false, eval e X.env) :: starEach es X.env := by rfl) (hpl : (backTo pos (starEach es X.env)).any (·.1) = false := by rfl) :
    NE X E (.Call (.Name x p) (e :: es) [] pos) (mCall m ma) := by
  obtain ⟨f, fd, G, hm, hk, hb⟩ := D
  refine PE.imp (pe_callS (p := p) (pos := pos) G hr hg hm hk hb (fun σ => passAt tk σ) ha hdb he hpl) fun σ H Q ⟨ι, σn, h, ft, s, q⟩ => ⟨ι, σn, h, ft, s, ?_⟩
  cases ea : ma σn h with
  | ok ws h1 =>
    have q' : Aft X.K X.mg ι H (m ws h1) (RW X.K X.mg) Q (fun c d H' => E c d σ H') := by unfold mCall at q; rw [ea] at q; exact q
    exact fun ι1 vs H1 g1 f1 r1 => ⟨ι1, ws, h1, f1, (g1.g0.ex.trans s.ex).trans (if_pos hc), r1, hl _ _ _ _ ea, Aft.step q' g1⟩
  | exc x h1 => unfold mCall at q; rw [ea] at q; exact q
  | stuck => unfold mCall at q; rw [ea] at q; exact q
theorem ne_call0 {k : Nat} {x : Str} {m : MF} {p : Pos} (D : Def X.prog X.w X.K X.mg X.base k x [] m) (hr : Room k X.A) (hc : X.calm = true) (hg : Gl X x) (tk : Takes X E) (hdb : (x == ("__debug__" : Str)) = false := by decide) (hE : ∀ c d σ σ' H, E c d σ H → E c d σ' H) : NE X E (.Call (.Name x p) [] [] pos) (mCall m mNil) := by
  obtain ⟨f, fd, G, hm, hk, hb⟩ := D
  refine ⟨fun pins s σ H Q I q => ?_⟩
  obtain ⟨ι, σn, h, ft, sl, q⟩ := q
  have hx : Passes (L2.CX X.prog X.w) X (fun c d H' => E c d σ H') := passes_call tk fun cls d σ' H' z => hE _ _ _ _ _ z
  exact (pe_call0 (p := p) (pos := pos) G hr hg hm hk hb .nil hx hdb).run pins s σ H Q I ⟨ι, [], h, ft, sl.ex.trans (if_pos hc), .nil, rfl, q⟩
end
/-- the length of a written list of arguments -/
theorem len_nil {σ : Slo} {h h' : List O} {ws : List W} (e : mNil σ h = .ok ws h') : ws.length = 0 := by cases e; rfl
theorem len_cons {σ : Slo} {h h' : List O} {ws : List W} {m : ME} {n : MA} {k : Nat} (hn : ∀ σ h ws h', n σ h = .ok ws h' → ws.length = k) (e : mCons m n σ h = .ok ws h') : ws.length = k + 1 := by
  unfold mCons at e
  cases e1 : m σ h with
  | ok x h1 =>
    rw [e1, bind_ok] at e
    cases e2 : n σ h1 with
    | ok xs h2 => rw [e2] at e; cases e; rw [List.length_cons, hn _ _ _ _ e2]
    | exc _ _ => rw [e2] at e; cases e
    | stuck => rw [e2] at e; cases e
  | exc _ _ => rw [e1] at e; cases e
  | stuck => rw [e1] at e; cases e
/-! ### raise, try -/
/-- an exception class of the text, without its own __init__ -/
structure ExcK (K : PySem.W.Frag) (mg : Str → Option Value) (nm : Str) (C : Addr) : Prop where
  g : mg nm = some (.ref C)
  x : ∃ (B newId initId : String) (bmB : List Value), ExcBaseFacts B newId initId bmB ∧ PySem.W.excIn K C bmB newId = true
  k : PySem.W.keepIn K (.ref C) = true
  b : PySem.W.subIn K (.ref C) (.type "BaseException") = some true
  t : PySem.W.typeIn K (.ref C) = some (.type "type")
def mRaise (x : Str) : MS := fun σ h => .exc ⟨x, []⟩ σ h
section
variable {X : Cx} {E : WX} {pos : Pos}
theorem ns_raise {nm m : Str} {j : Nat} {p p2 pos2 : Pos} (hc : X.calm = true) (tk : Takes X E) (h : ∃ C, ExcK X.K X.mg nm C) (hg : Gl X nm) (hdb : (nm == ("__debug__" : Str)) = false := by decide) :
    NS X E (.Raise (some (.Call (.Name nm p) [.Constant (.str m) j p2] [] pos)) none pos2) (mRaise nm) := by
  obtain ⟨C, h⟩ := h
  obtain ⟨B, newId, initId, bmB, F, q⟩ := h.x
  have r := ps_raise (pos := pos2) hc tk (pmk_own (p := p) (p2 := p2) (m := m) (j := j) (pos := pos) F q h.g h.k (raises_own h.b h.t) hg hdb)
  exact PS.imp r fun D σ H ⟨ι, σn, hh, ft, s, q⟩ => q ι _ _ σ H .refl ft s (.no (.own h.g))
end
end N

set_option maxHeartbeats 1000000
namespace N
open PySem L2
/-! ### operators -/
/-- a list's items, exact (not the script) -/
def lstX (h : List O) : W → Option (List W)
  | .lst ws => some ws
  | .ref n => match h[n]? with
    | some (.lst ws) => some ws
    | _ => none
  | _ => none
def seqL (h : List O) : W → Option (List W)
  | .lro ws => some ws
  | w => lstX h w
section
variable {K : PySem.W.Frag} {mg : Str → Option Value} {ι : Ix} {H : Hp} {h : List O} {w : W} {v : V} {ws : List W}
theorem lstX_at (f : Fit K mg ι H h) (r : RW K mg ι H w v) (e : lstX h w = some ws) : ∃ a vs, v = .ref a ∧ H a = some (.lst vs) ∧ RWs K mg ι H ws vs := by
  cases r with
  | lst h0 h1 h2 => cases e; exact ⟨_, _, rfl, h1, h2⟩
  | @ref n a h1 =>
    cases eo : h[n]? with
    | none => simp [lstX, eo] at e
    | some o =>
      cases o with
      | lst xs =>
        simp only [lstX, eo, Option.some.injEq] at e
        subst e
        cases f.obj _ _ _ eo h1 with
        | lst a1 a2 => exact ⟨_, _, rfl, a1, a2⟩
      | _ => simp [lstX, eo] at e
  | _ => cases e
theorem seqL_at (f : Fit K mg ι H h) (r : RW K mg ι H w v) (e : seqL h w = some ws) : ∃ a vs, v = .ref a ∧ SqL K H a vs ∧ RWs K mg ι H ws vs := by
  cases w with
  | lro xs =>
    cases e
    cases r with
    | lro h1 h2 => exact ⟨_, _, rfl, h1.sq, h2⟩
  | _ =>
    obtain ⟨a, vs, e1, e2, e3⟩ := lstX_at f r e
    exact ⟨a, vs, e1, SqL.of e2, e3⟩
end
def lenOk (n : Nat) : Bool := decide (n ≤ sizeLine)
def guardO (b : Bool) (w : W) : Option W := if b = true then some w else none
theorem guardO_some {b : Bool} {w u : W} (e : guardO b w = some u) : b = true ∧ u = w := by
  unfold guardO at e; split at e
  · cases e; exact ⟨by assumption, rfl⟩
  · cases e
def nAdd (h : List O) (x y : W) : Option W := match x, y with
  | .int i, .int j => some (.int (i + j))
  | .bl i, .bl j => some (.int ((if i then 1 else 0) + if j then 1 else 0))
  | .int i, .bl j => some (.int (i + if j then 1 else 0))
  | .str i, .str j => guardO (decide (i.length + j.length ≤ sizeLine)) (.str (i ++ j))
  | .tup xs, .tup ys => guardO (decide (xs.length + ys.length ≤ sizeLine)) (.tup (xs ++ ys))
  | x, y => match lstX h x, lstX h y with
    | some xs, some ys => guardO (decide (xs.length + ys.length ≤ sizeLine)) (.lst (xs ++ ys))
    | _, _ => none
section
variable {X : Cx}
theorem on_add : OpR X (binaryOp .Add) (r2N X.K X.mg nAdd) := by
  intro pins s σ H x y v u Q I rx ry ⟨ι, h, w1, w2, w, ft, r1, r2, e, k⟩
  have lists : ∀ xs ys, lstX h w1 = some xs → lstX h w2 = some ys → guardO (decide (xs.length + ys.length ≤ sizeLine)) (.lst (xs ++ ys)) = some w → wpAny (model X.prog X.w) X.A (binaryOp .Add v u) (EP X pins σ Q) X.xe s := by
    intro xs ys e1 e2 e3
    obtain ⟨a, vs, rfl, ha, q1⟩ := lstX_at ft r1 e1
    obtain ⟨b, us, rfl, hb, q2⟩ := lstX_at ft r2 e2
    obtain ⟨e4, rfl⟩ := guardO_some e3
    refine op_cat pins s σ H _ _ v u Q I rx ry ⟨a, b, vs, us, rfl, rfl, ha, hb, by rw [q1.len, q2.len]; exact of_decide_eq_true e4, fun p hp => ?_⟩
    obtain ⟨g, f, r⟩ := new_lst ft (q1.app q2) hp
    exact k ι _ _ g f r
  have listsE : nAdd h w1 w2 = (match lstX h w1, lstX h w2 with
    | some xs, some ys => guardO (decide (xs.length + ys.length ≤ sizeLine)) (.lst (xs ++ ys))
    | _, _ => none) → wpAny (model X.prog X.w) X.A (binaryOp .Add v u) (EP X pins σ Q) X.xe s := by
    intro e0
    rw [e0] at e
    cases e1 : lstX h w1 with
    | none => rw [e1] at e; cases e
    | some xs =>
      cases e2 : lstX h w2 with
      | none => rw [e1, e2] at e; cases e
      | some ys => rw [e1, e2] at e; exact lists xs ys e1 e2 e
  cases w1 with
  | int i =>
    cases r1
    cases w2 with
    | int j => cases r2; cases e; exact op_add pins s σ H _ _ v u Q I rx ry ⟨i, j, rfl, rfl, k ι _ H .refl ft (.int _)⟩
    | bl j =>
      cases r2; cases e
      refine op_add_ib pins s σ H _ _ v u Q I rx ry ⟨i, j, rfl, rfl, ?_⟩
      have := k ι _ H .refl ft (.int _)
      cases j <;> exact this
    | _ => cases e
  | bl i =>
    cases r1
    cases w2 with
    | bl j => cases r2; cases rx; cases ry; cases e; exact PyProof.Rows.add_bool ⟨.int _, H, I.tok _, ⟨_, rfl⟩, k ι _ H .refl ft (.int _)⟩
    | _ => cases e
  | str i =>
    cases r1
    cases w2 with
    | str j =>
      cases r2
      obtain ⟨e4, rfl⟩ := guardO_some e
      exact op_add_str pins s σ H _ _ v u Q I rx ry ⟨i, j, rfl, rfl, of_decide_eq_true e4, k ι _ H .refl ft (.str _)⟩
    | _ => cases e
  | tup xs =>
    cases w2 with
    | tup ys =>
      obtain ⟨e4, rfl⟩ := guardO_some e
      have e4 := of_decide_eq_true e4
      cases r1 with
      | @tup _ a vs a0 a1 a2 =>
        cases r2 with
        | @tup _ b us b0 b1 b2 =>
          refine op_catA pins s σ H _ _ v u Q I rx ry ⟨a, b, vs, us, rfl, rfl, SqT.of a1, SqT.of b1, by rw [a2.len, b2.len]; exact e4, fun hz => ?_, fun _ hz => ?_, fun _ _ p hp => ?_⟩
          · subst hz; cases a2; exact k ι _ H .refl ft (.tup b0 b1 b2)
          · subst hz; cases b2; rw [List.append_nil] at k; exact k ι _ H .refl ft (.tup a0 a1 a2)
          · obtain ⟨g, f, r⟩ := new_tup ft (a2.app b2) hp
            exact k ι _ _ g f r
    | _ => cases e
  | lst xs => exact listsE (by cases w2 <;> rfl)
  | ref n => exact listsE (by cases w2 <;> rfl)
  | _ => cases w2 <;> cases e

def nSub (h : List O) (x y : W) : Option W := match x, y with
  | .int i, .int j => some (.int (i - j))
  | _, _ => none
theorem on_sub : OpR X (binaryOp .Sub) (r2N X.K X.mg nSub) := by
  intro pins s σ H x y v u Q I rx ry ⟨ι, h, w1, w2, w, ft, r1, r2, e, k⟩
  cases w1 with
  | int i =>
    cases r1
    cases w2 with
    | int j => cases r2; cases e; exact op_sub pins s σ H _ _ v u Q I rx ry ⟨i, j, rfl, rfl, k ι _ H .refl ft (.int _)⟩
    | _ => cases e
  | _ => cases w2 <;> cases e
/-- ints of together less than a million bits; a text, a tuple, a list so many times -/
def mulStr (z : Str) (n : Int) : Str := if n < 1 then Str.empty else if (n == 1 || z.length == 0) = true then z else ⟨(List.replicate n.toNat z.cps).foldl (· ++ ·) #[]⟩
def nMul (h : List O) (x y : W) : Option W := match x, y with
  | .int i, .int j => guardO (decide (i.natAbs.log2 + j.natAbs.log2 < 1000000)) (.int (i * j))
  | .str z, .int n => guardO (decide (n ≤ 10000 ∧ z.length ≤ 1000 ∧ -1000 ≤ n ∧ (mulStr z n).length ≤ sizeLine)) (.str (mulStr z n))
  | .tup xs, .int n => guardO (decide (2 ≤ n ∧ n ≤ 1000 ∧ xs.length ≤ 1000 ∧ xs ≠ [])) (.tup (List.replicate n.toNat xs).flatten)
  | x, .int n => match lstX h x with
    | some xs => guardO (decide (-(2 ^ 63) ≤ n ∧ n < 2 ^ 63 ∧ xs.length * n.toNat ≤ sizeLine)) (.lst (List.replicate n.toNat xs).flatten)
    | none => none
  | _, _ => none
theorem rws_rep {K : PySem.W.Frag} {mg : Str → Option Value} {ι : Ix} {H : Hp} {ws : List W} {vs : List V} (r : RWs K mg ι H ws vs) : ∀ n : Nat, RWs K mg ι H (List.replicate n ws).flatten (List.replicate n vs).flatten
  | 0 => .nil
  | n + 1 => by
    rw [List.replicate_succ, List.replicate_succ, List.flatten_cons, List.flatten_cons]
    exact r.app (rws_rep r n)
theorem on_mul : OpR X (binaryOp .Mult) (r2N X.K X.mg nMul) := by
  intro pins s σ H x y v u Q I rx ry ⟨ι, h, w1, w2, w, ft, r1, r2, e, k⟩
  have lists : ∀ n : Int, w2 = .int n → (match lstX h w1 with
    | some xs => guardO (decide (-(2 ^ 63) ≤ n ∧ n < 2 ^ 63 ∧ xs.length * n.toNat ≤ sizeLine)) (.lst (List.replicate n.toNat xs).flatten)
    | none => none) = some w → wpAny (model X.prog X.w) X.A (binaryOp .Mult v u) (EP X pins σ Q) X.xe s := by
    intro n e0 e'
    subst e0
    cases r2
    cases e1 : lstX h w1 with
    | none => rw [e1] at e'; cases e'
    | some xs =>
      rw [e1] at e'
      obtain ⟨e4, rfl⟩ := guardO_some e'
      obtain ⟨h1, h2, h3⟩ := of_decide_eq_true e4
      obtain ⟨a, vs, rfl, ha, q1⟩ := lstX_at ft r1 e1
      refine op_rep pins s σ H _ _ v u Q I rx ry ⟨a, n, vs, rfl, rfl, ha, h1, h2, by rw [q1.len]; exact h3, fun p hp => ?_⟩
      obtain ⟨g, f, r⟩ := new_lst ft (rws_rep q1 n.toNat) hp
      exact k ι _ _ g f r
  cases w2 with
  | int n =>
    cases w1 with
    | int i =>
      cases r1; cases r2
      obtain ⟨e4, rfl⟩ := guardO_some e
      exact op_mulW pins s σ H _ _ v u Q I rx ry ⟨i, n, rfl, rfl, (show i.natAbs.log2 + n.natAbs.log2 < 1000000 from of_decide_eq_true e4), k ι _ H .refl ft (.int _)⟩
    | str z =>
      cases r1; cases r2
      obtain ⟨e4, rfl⟩ := guardO_some e
      obtain ⟨h1, h2, h3, h4⟩ := of_decide_eq_true e4
      obtain ⟨t1, rfl⟩ := rx
      obtain ⟨t2, rfl⟩ := ry
      have q0 := k ι _ H .refl ft (.str _)
      refine PySem.P.mul_str (by rw [decide_eq_false (by omega), decide_eq_false (by omega)] <;> rfl) (fun hn _ => ?_) (fun hn _ => ?_) ?_
      · have h0 : (2 ^ 63 - 1 : Int) / 10000 * n ≤ 2 ^ 63 - 1 := by
          have : (2 ^ 63 - 1 : Int) / 10000 * n ≤ (2 ^ 63 - 1) / 10000 * 10000 := Int.mul_le_mul_of_nonneg_left h1 (by decide)
          exact Int.le_trans this (by decide)
        have : (2 ^ 63 - 1) / n ≥ (2 ^ 63 - 1) / 10000 := Int.le_ediv_of_mul_le (by omega) h0
        have h6 : ((2 ^ 63 - 1 : Int) / 10000) ≥ 1000 := by decide
        omega
      · have hm : z.length * n.toNat ≤ 1000 * 10000 := Nat.mul_le_mul h2 (by omega)
        unfold Builtin.Str.tooLong
        rw [PySem.sizeLine_eq]
        exact decide_eq_false (by omega)
      · unfold mulStr at q0 h4
        by_cases c1 : n < 1
        · rw [if_pos c1] at q0 h4 ⊢
          exact ⟨h4, .str _, H, I.tok _, ⟨_, rfl⟩, q0⟩
        · rw [if_neg c1] at q0 h4 ⊢
          by_cases c2 : (n == 1 || z.length == 0) = true
          · rw [if_pos c2] at q0 ⊢
            exact ⟨.str _, H, I, ⟨_, rfl⟩, q0⟩
          · rw [if_neg c2] at q0 h4 ⊢
            exact ⟨h4, .str _, H, I.tok _, ⟨_, rfl⟩, q0⟩
    | tup xs =>
      obtain ⟨e4, rfl⟩ := guardO_some e
      obtain ⟨h1, h2, h3, h4⟩ := of_decide_eq_true e4
      cases r1 with
      | @tup _ a vs a0 a1 a2 =>
        cases r2
        refine op_repT pins s σ H _ _ v u Q I rx ry ⟨a, n, vs, rfl, rfl, SqT.of a1, fun z => h4 (by subst z; cases a2; rfl), h1, h2, by rw [a2.len]; exact h3, fun p hp => ?_⟩
        obtain ⟨g, f, r⟩ := new_tup ft (rws_rep a2 n.toNat) hp
        exact k ι _ _ g f r
    | lst xs => exact lists n rfl e
    | ref m => exact lists n rfl e
    | _ => cases e
  | _ => cases w1 <;> cases e
def nDiv (h : List O) (x y : W) : Option W := match x, y with
  | .int i, .int j => guardO (decide (0 < j ∧ j.natAbs.log2 < 9000)) (.int (i / j))
  | _, _ => none
theorem on_div : OpR X (binaryOp .FloorDiv) (r2N X.K X.mg nDiv) := by
  intro pins s σ H x y v u Q I rx ry ⟨ι, h, w1, w2, w, ft, r1, r2, e, k⟩
  cases w1 with
  | int i =>
    cases r1
    cases w2 with
    | int j =>
      cases r2
      obtain ⟨e4, rfl⟩ := guardO_some e
      exact op_fdivW pins s σ H _ _ v u Q I rx ry ⟨i, j, rfl, rfl, (show 0 < j ∧ j.natAbs.log2 < 9000 from of_decide_eq_true e4), k ι _ H .refl ft (.int _)⟩
    | _ => cases e
  | _ => cases w2 <;> cases e
def nMod (h : List O) (x y : W) : Option W := match x, y with
  | .int i, .int j => guardO (decide (0 < j)) (.int (i % j))
  | _, _ => none
theorem on_mod : OpR X (binaryOp .Mod) (r2N X.K X.mg nMod) := by
  intro pins s σ H x y v u Q I rx ry ⟨ι, h, w1, w2, w, ft, r1, r2, e, k⟩
  cases w1 with
  | int i =>
    cases r1
    cases w2 with
    | int j =>
      cases r2
      obtain ⟨e4, rfl⟩ := guardO_some e
      exact op_mod pins s σ H _ _ v u Q I rx ry ⟨i, j, rfl, rfl, of_decide_eq_true e4, k ι _ H .refl ft (.int _)⟩
    | _ => cases e
  | _ => cases w2 <;> cases e
def nPow (h : List O) (x y : W) : Option W := match x, y with
  | .int i, .int j => guardO (decide (0 ≤ j ∧ (PySem.Builtin.Int.intBits i : Int) * j ≤ 2 ^ 27)) (.int (i ^ j.toNat))
  | _, _ => none
theorem on_pow : OpR X (binaryOp .Pow) (r2N X.K X.mg nPow) := by
  intro pins s σ H x y v u Q I rx ry ⟨ι, h, w1, w2, w, ft, r1, r2, e, k⟩
  cases w1 with
  | int i =>
    cases r1
    cases w2 with
    | int j =>
      cases r2
      obtain ⟨e4, rfl⟩ := guardO_some e
      have hc := of_decide_eq_true e4
      have op_powW : OpR X (binaryOp .Pow) (rI (fun i j => 0 ≤ j ∧ (PySem.Builtin.Int.intBits i : Int) * j ≤ 2 ^ 27) fun i j => .int (i ^ j.toNat)) := opI fun _ _ _ _ _ _ _ hc q => PyProof.Rows.pow_int hc.1 hc.2 q
      exact op_powW pins s σ H _ _ v u Q I rx ry ⟨i, j, rfl, rfl, hc, k ι _ H .refl ft (.int _)⟩
    | _ => cases e
  | _ => cases w2 <;> cases e
def nNeg (h : List O) (x : W) : Option W := match x with
  | .int i => some (.int (-i))
  | _ => none
theorem on_neg : UnR X (unaryOp .USub) (r1N X.K X.mg nNeg) := by
  intro pins s σ H x v Q I rx ⟨ι, h, w1, w, ft, r1, e, k⟩
  cases w1 with
  | int i => cases r1; cases e; exact un_neg pins s σ H _ v Q I rx ⟨i, rfl, k ι _ H .refl ft (.int _)⟩
  | _ => cases e
end
end N

set_option maxHeartbeats 1000000
namespace N
open PySem L2
/-! ### == and != of data -/
mutual
def datW : W → Option PyData
  | .non => some .none
  | .bl b => some (.bool b)
  | .int i => some (.int i)
  | .str s => some (.str s)
  | .tup ws => (datWs ws).map .tuple
  | .tro ws => (datWs ws).map .tuple
  | .lst ws => (datWs ws).map .list
  | .lro ws => (datWs ws).map .list
  | _ => none
def datWs : List W → Option (List PyData)
  | [] => some []
  | w :: ws => match datW w, datWs ws with
    | some d, some ds => some (d :: ds)
    | _, _ => none
end
section
variable {K : PySem.W.Frag} {mg : Str → Option Value} {ι : Ix} {H : Hp}
mutual
theorem datW_dp : ∀ (w : W) (v : V) (d : PyData), RW K mg ι H w v → datW w = some d → Dp K H v d
  | .non, _, _, r, e => by cases r; cases e; exact .non
  | .bl b, _, _, r, e => by cases r; cases e; exact .bl b
  | .int b, _, _, r, e => by cases r; cases e; exact .int b
  | .str b, _, _, r, e => by cases r; cases e; exact .str b
  | .tup ws, _, d, r, e => by
    cases r with
    | tup h0 h1 h2 =>
      cases e1 : datWs ws with
      | none => simp [datW, e1] at e
      | some ds => simp only [datW, e1, Option.map_some, Option.some.injEq] at e; subst e; exact .tup (SqT.of h1) (datWs_dp ws _ ds h2 e1)
  | .tro ws, _, d, r, e => by
    cases r with
    | tro h1 h2 =>
      cases e1 : datWs ws with
      | none => simp [datW, e1] at e
      | some ds => simp only [datW, e1, Option.map_some, Option.some.injEq] at e; subst e; exact .tup (NoH.sqT h1) (datWs_dp ws _ ds h2 e1)
  | .lst ws, _, d, r, e => by
    cases r with
    | lst h0 h1 h2 =>
      cases e1 : datWs ws with
      | none => simp [datW, e1] at e
      | some ds => simp only [datW, e1, Option.map_some, Option.some.injEq] at e; subst e; exact .lst (SqL.of h1) (datWs_dp ws _ ds h2 e1)
  | .lro ws, _, d, r, e => by
    cases r with
    | lro h1 h2 =>
      cases e1 : datWs ws with
      | none => simp [datW, e1] at e
      | some ds => simp only [datW, e1, Option.map_some, Option.some.injEq] at e; subst e; exact .lst h1.sq (datWs_dp ws _ ds h2 e1)
  | .ty _, _, _, _, e => by simp [datW] at e
  | .dct _ _, _, _, _, e => by simp [datW] at e
  | .ref _, _, _, _, e => by simp [datW] at e
  | .fn _, _, _, _, e => by simp [datW] at e
  | .exo _ _, _, _, _, e => by simp [datW] at e
theorem datWs_dp : ∀ (ws : List W) (vs : List V) (ds : List PyData), RWs K mg ι H ws vs → datWs ws = some ds → DpAll K H vs ds
  | [], _, _, r, e => by cases r; cases e; exact .nil
  | w :: ws, _, ds, r, e => by
    cases r with
    | cons r1 r2 =>
      cases e1 : datW w with
      | none => simp [datWs, e1] at e
      | some d =>
        cases e2 : datWs ws with
        | none => simp [datWs, e1, e2] at e
        | some ds' => simp only [datWs, e1, e2, Option.some.injEq] at e; subst e; exact .cons (datW_dp w _ d r1 e1) (datWs_dp ws _ ds' r2 e2)
end
end
/-- a numbered list may stand at the top of a comparison -/
def topW (h : List O) : W → W
  | .ref n => match h[n]? with
    | some (.lst ws) => .lst ws
    | _ => .ref n
  | w => w
def eqW (x y : W) : Option Bool := match datW x, datW y with
  | some d, some e => if SeqAt.shaped d = true ∧ SeqAt.shaped e = true then some (PyData.eqv d e) else none
  | _, _ => none
def nEq (h : List O) (x y : W) : Option W := (eqW (topW h x) (topW h y)).map .bl
def nNe (h : List O) (x y : W) : Option W := (eqW (topW h x) (topW h y)).map fun b => .bl (!b)
section
variable {K : PySem.W.Frag} {mg : Str → Option Value} {ι : Ix} {H : Hp} {h : List O}
theorem topW_dp (f : Fit K mg ι H h) {w : W} {v : V} {d : PyData} (r : RW K mg ι H w v) (e : datW (topW h w) = some d) : Dp K H v d := by
  cases w with
  | ref n =>
    cases r with
    | ref h1 =>
      cases eo : h[n]? with
      | none => simp [topW, eo, datW] at e
      | some o =>
        cases o with
        | lst xs =>
          cases f.obj _ _ _ eo h1 with
          | lst a1 a2 =>
            simp only [topW, eo, datW] at e
            cases e1 : datWs xs with
            | none => simp [e1] at e
            | some ds => simp only [e1, Option.map_some, Option.some.injEq] at e; subst e; exact .lst (SqL.of a1) (datWs_dp _ _ _ a2 e1)
        | _ => simp [topW, eo, datW] at e
  | _ => exact datW_dp _ _ _ r e
theorem eqW_some {x y : W} {b : Bool} (e : eqW x y = some b) : ∃ d d', datW x = some d ∧ datW y = some d' ∧ SeqAt.shaped d = true ∧ SeqAt.shaped d' = true ∧ b = PyData.eqv d d' := by
  unfold eqW at e
  cases e1 : datW x with
  | none => simp [e1] at e
  | some d =>
    cases e2 : datW y with
    | none => simp [e1, e2] at e
    | some d' =>
      simp only [e1, e2] at e
      split at e
      · rename_i hh; cases e; exact ⟨d, d', rfl, rfl, hh.1, hh.2, rfl⟩
      · cases e
end
section
variable {X : Cx}
theorem on_eq (hu : X.A.units + 64 < cLine) : OpR X (compareOp .Eq) (r2N X.K X.mg nEq) := by
  intro pins s σ H x y v u Q I rx ry ⟨ι, h, w1, w2, w, ft, r1, r2, e, k⟩
  cases e0 : eqW (topW h w1) (topW h w2) with
  | none => unfold nEq at e; rw [e0] at e; cases e
  | some b =>
    unfold nEq at e; rw [e0] at e; cases e
    obtain ⟨d, d', h1, h2, h3, h4, rfl⟩ := eqW_some e0
    exact op_eqD hu pins s σ H _ _ v u Q I rx ry ⟨d, d', topW_dp ft r1 h1, topW_dp ft r2 h2, h3, h4, k ι _ H .refl ft (.bl _)⟩
theorem on_ne (hu : X.A.units + 64 < cLine) : OpR X (compareOp .NotEq) (r2N X.K X.mg nNe) := by
  intro pins s σ H x y v u Q I rx ry ⟨ι, h, w1, w2, w, ft, r1, r2, e, k⟩
  cases e0 : eqW (topW h w1) (topW h w2) with
  | none => unfold nNe at e; rw [e0] at e; cases e
  | some b =>
    unfold nNe at e; rw [e0] at e; cases e
    obtain ⟨d, d', h1, h2, h3, h4, rfl⟩ := eqW_some e0
    exact op_neD hu pins s σ H _ _ v u Q I rx ry ⟨d, d', topW_dp ft r1 h1, topW_dp ft r2 h2, h3, h4, k ι _ H .refl ft (.bl _)⟩
/-! ### order -/
def nLt (h : List O) (x y : W) : Option W := match x, y with
  | .int i, .int j => some (.bl (decide (i < j)))
  | .str i, .str j => some (.bl (decide (i.cps.toList < j.cps.toList)))
  | _, _ => none
def nLe (h : List O) (x y : W) : Option W := match x, y with
  | .int i, .int j => some (.bl (decide (i ≤ j)))
  | .str i, .str j => some (.bl (!decide (j.cps.toList < i.cps.toList)))
  | _, _ => none
def nGt (h : List O) (x y : W) : Option W := match x, y with
  | .int i, .int j => some (.bl (decide (j < i)))
  | .str i, .str j => some (.bl (decide (j.cps.toList < i.cps.toList)))
  | _, _ => none
def nGe (h : List O) (x y : W) : Option W := match x, y with
  | .int i, .int j => some (.bl (decide (j ≤ i)))
  | .str i, .str j => some (.bl (!decide (i.cps.toList < j.cps.toList)))
  | _, _ => none
theorem on_cmp {op : CmpOp} {f : List O → W → W → Option W} {p : Int → Int → Bool} {q : Str → Str → Bool} (hI : OpR X (compareOp op) (rI0 fun i j => .bl (p i j)))
    (hS : OpR X (compareOp op) (fun x y H Q => ∃ i j, x = .str i ∧ y = .str j ∧ Q (.bl (q i j)) H)) (hf : ∀ h x y w, f h x y = some w → (∃ i j, x = .int i ∧ y = .int j ∧ w = .bl (p i j)) ∨ ∃ i j, x = .str i ∧ y = .str j ∧ w = .bl (q i j)) : OpR X (compareOp op) (r2N X.K X.mg f) := by
  intro pins s σ H x y v u Q I rx ry ⟨ι, h, w1, w2, w, ft, r1, r2, e, k⟩
  rcases hf _ _ _ _ e with ⟨i, j, rfl, rfl, rfl⟩ | ⟨i, j, rfl, rfl, rfl⟩
  · cases r1; cases r2
    exact hI pins s σ H _ _ v u Q I rx ry ⟨i, j, rfl, rfl, k ι _ H .refl ft (.bl _)⟩
  · cases r1; cases r2
    exact hS pins s σ H _ _ v u Q I rx ry ⟨i, j, rfl, rfl, k ι _ H .refl ft (.bl _)⟩
theorem on_lt : OpR X (compareOp .Lt) (r2N X.K X.mg nLt) := on_cmp op_lt op_lt_str fun h x y w e => by
  cases x <;> cases y <;> first | (cases e; exact .inl ⟨_, _, rfl, rfl, rfl⟩) | (cases e; exact .inr ⟨_, _, rfl, rfl, rfl⟩) | cases e
theorem on_le : OpR X (compareOp .LtE) (r2N X.K X.mg nLe) := on_cmp op_le op_le_str fun h x y w e => by
  cases x <;> cases y <;> first | (cases e; exact .inl ⟨_, _, rfl, rfl, rfl⟩) | (cases e; exact .inr ⟨_, _, rfl, rfl, rfl⟩) | cases e
theorem on_gt : OpR X (compareOp .Gt) (r2N X.K X.mg nGt) := on_cmp op_gt op_gt_str fun h x y w e => by
  cases x <;> cases y <;> first | (cases e; exact .inl ⟨_, _, rfl, rfl, rfl⟩) | (cases e; exact .inr ⟨_, _, rfl, rfl, rfl⟩) | cases e
theorem on_ge : OpR X (compareOp .GtE) (r2N X.K X.mg nGe) := on_cmp op_ge op_ge_str fun h x y w e => by
  cases x <;> cases y <;> first | (cases e; exact .inl ⟨_, _, rfl, rfl, rfl⟩) | (cases e; exact .inr ⟨_, _, rfl, rfl, rfl⟩) | cases e
/-! ### is -/
def isV (x y : W) : Option Bool := match x, y with
  | .bl a, .bl b => some (decide (a = b))
  | .non, .non => some true
  | .bl _, .non => some false | .int _, .non => some false | .str _, .non => some false | .tup _, .non => some false | .tro _, .non => some false | .lst _, .non => some false | .dct _ _, .non => some false | .ref _, .non => some false | .fn _, .non => some false | .ty _, .non => some false
  | _, _ => none
def nIs (h : List O) (x y : W) : Option W := (isV x y).map .bl
def nIsN (h : List O) (x y : W) : Option W := (isV x y).map fun b => .bl (!b)
theorem on_is : OpR X (compareOp .Is) (r2N X.K X.mg nIs) := by
  intro pins s σ H x y v u Q I rx ry ⟨ι, h, w1, w2, w, ft, r1, r2, e, k⟩
  cases w2 with
  | non =>
    cases r2
    cases w1 <;> first
      | (cases e; cases r1 <;> exact op_isN pins s σ H _ _ v u Q I rx ry ⟨rfl, k ι _ H .refl ft (.bl _)⟩)
      | cases e
  | bl b =>
    cases w1 with
    | bl a => cases r1; cases r2; cases e; exact op_is_bl pins s σ H _ _ v u Q I rx ry ⟨a, b, rfl, rfl, k ι _ H .refl ft (.bl _)⟩
    | _ => cases e
  | _ => cases w1 <;> cases e
theorem on_isN : OpR X (compareOp .IsNot) (r2N X.K X.mg nIsN) := by
  intro pins s σ H x y v u Q I rx ry ⟨ι, h, w1, w2, w, ft, r1, r2, e, k⟩
  cases w2 with
  | non =>
    cases r2
    cases w1 <;> first
      | (cases e; cases r1 <;> exact op_notN pins s σ H _ _ v u Q I rx ry ⟨rfl, k ι _ H .refl ft (.bl _)⟩)
      | cases e
  | bl b =>
    cases w1 with
    | bl a => cases r1; cases r2; cases e; exact op_isnot_bl pins s σ H _ _ v u Q I rx ry ⟨a, b, rfl, rfl, k ι _ H .refl ft (.bl _)⟩
    | _ => cases e
  | _ => cases w1 <;> cases e
end
end N

set_option maxHeartbeats 1000000
namespace N
open PySem L2
/-! ### dicts by their pairs -/
/-- a key: an int, a text, or a tuple of such -/
def hk : W → Option (Sum Key (List Key))
  | .tup ws => (keyKs ws).map .inr
  | w => (keyK w).map .inl
def hkIs (q : Sum Key (List Key)) (w : W) : Bool := decide (hk w = some q)
def lookQ (kvs : List (W × W)) (q : Sum Key (List Key)) : Option W := (kvs.find? fun p => hkIs q p.1).map (·.2)
def putQ (kvs : List (W × W)) (q : Sum Key (List Key)) (k v : W) : List (W × W) :=
  if (kvs.any fun p => hkIs q p.1) = true then kvs.map (fun p => if hkIs q p.1 = true then (p.1, v) else p) else kvs ++ [(k, v)]
section
variable {K : PySem.W.Frag} {mg : Str → Option Value} {ι : Ix} {H : Hp} {h : List O}
theorem hk_K {w : W} {k : Key} (e : keyK w = some k) : hk w = some (.inl k) := by
  cases w <;> simp_all [hk, keyK]
theorem hk_T {w : W} {k : List Key} (e : keyT w = some k) : hk w = some (.inr k) := by
  cases w <;> simp_all [hk, keyT]
theorem kW_V {w : W} {k : Key} {v : V} (e : keyK w = some k) (r : RW K mg ι H w v) : v = kV k := by
  cases r <;> first | (cases e; rfl) | cases e
theorem ksW_V : ∀ {ws : List W} {ks : List Key} {vs : List V}, keyKs ws = some ks → RWs K mg ι H ws vs → vs = ks.map kV
  | [], _, _, e, r => by cases e; cases r; rfl
  | w :: ws, ks, _, e, r => by
    cases r with
    | cons r1 r2 =>
      cases e1 : keyK w with
      | none => simp [keyKs, e1] at e
      | some k =>
        cases e2 : keyKs ws with
        | none => simp [keyKs, e1, e2] at e
        | some ks' =>
          simp only [keyKs, e1, e2, Option.some.injEq] at e
          subst e
          rw [List.map_cons, kW_V e1 r1, ksW_V e2 r2]
theorem lookK {q : Key} : ∀ {kvs : List (W × W)} {qs : List (Key × V)}, RWk K mg ι H kvs qs → (∀ w, lookQ kvs (.inl q) = some w → ∃ v, valV qs q = some v ∧ RW K mg ι H w v) ∧ (lookQ kvs (.inl q) = none → valV qs q = none)
  | [], _, r => by
    cases r
    refine ⟨fun w e => ?_, fun _ => rfl⟩
    cases e
  | p :: kvs, _, r => by
    cases r with
    | @cons _ _ x xs h1 h2 h3 =>
      have e1 := hk_K h1
      by_cases hq : x.1 = q
      · have hh : hkIs (.inl q) p.1 = true := by unfold hkIs; rw [e1, hq]; simp
        refine ⟨fun w e => ⟨x.2, valV_pos hq, ?_⟩, fun e => ?_⟩
        · simp only [lookQ, List.find?_cons, hh, Option.map_some, Option.some.injEq] at e; subst e; exact h2
        · simp [lookQ, List.find?_cons, hh] at e
      · have hh : hkIs (.inl q) p.1 = false := by unfold hkIs; rw [e1]; simpa using hq
        have e2 : lookQ (p :: kvs) (.inl q) = lookQ kvs (.inl q) := by simp only [lookQ, List.find?_cons, hh]
        rw [e2, valV_neg hq]
        exact lookK h3
theorem lookT {q : List Key} : ∀ {kvs : List (W × W)} {qs : List (List Key × V)}, RWt K mg ι H kvs qs → (∀ w, lookQ kvs (.inr q) = some w → ∃ v, valV qs q = some v ∧ RW K mg ι H w v) ∧ (lookQ kvs (.inr q) = none → valV qs q = none)
  | [], _, r => by
    cases r
    refine ⟨fun w e => ?_, fun _ => rfl⟩
    cases e
  | p :: kvs, _, r => by
    cases r with
    | @cons _ _ x xs h1 h2 h3 =>
      have e1 := hk_T h1
      by_cases hq : x.1 = q
      · have hh : hkIs (.inr q) p.1 = true := by unfold hkIs; rw [e1, hq]; simp
        refine ⟨fun w e => ⟨x.2, valV_pos hq, ?_⟩, fun e => ?_⟩
        · simp only [lookQ, List.find?_cons, hh, Option.map_some, Option.some.injEq] at e; subst e; exact h2
        · simp [lookQ, List.find?_cons, hh] at e
      · have hh : hkIs (.inr q) p.1 = false := by unfold hkIs; rw [e1]; simpa using hq
        have e2 : lookQ (p :: kvs) (.inr q) = lookQ kvs (.inr q) := by simp only [lookQ, List.find?_cons, hh]
        rw [e2, valV_neg hq]
        exact lookT h3
end
/-- a dict's kind and pairs -/
def dctOf (h : List O) : W → Option (Bool × List (W × W))
  | .dct t kvs => some (t, kvs)
  | .ref n => match h[n]? with
    | some (.dct _ t kvs) => some (t, kvs)
    | _ => none
  | _ => none
def keyQ (t : Bool) (k : W) : Option (Sum Key (List Key)) := if t = true then (keyT k).map .inr else (keyK k).map .inl
/-- what stands at a key -/
def getD' (h : List O) (d k : W) : Option (Option W) := match dctOf h d with
  | some (t, kvs) => (keyQ t k).map (lookQ kvs)
  | none => none
section
variable {K : PySem.W.Frag} {mg : Str → Option Value} {ι : Ix} {H : Hp} {h : List O}
theorem lkd_rd {lk : Bool} {a : Addr} {u : HO} (h : LkD H lk a u) : Rd H a u := by
  cases lk with
  | true => exact .inr h
  | false => exact .inl h
theorem dctOf_at {w : W} {v : V} {t : Bool} {kvs : List (W × W)} (f : Fit K mg ι H h) (r : RW K mg ι H w v) (e : dctOf h w = some (t, kvs)) : ∃ a, v = .ref a ∧ ((t = false ∧ ∃ qs, Rd H a (.dK qs) ∧ RWk K mg ι H kvs qs) ∨ (t = true ∧ ∃ qs, Rd H a (.dT qs) ∧ RWt K mg ι H kvs qs)) := by
  cases r with
  | dctK h0 h1 h2 => cases e; exact ⟨_, rfl, .inl ⟨rfl, _, h1, h2⟩⟩
  | dctT h0 h1 h2 => cases e; exact ⟨_, rfl, .inr ⟨rfl, _, h1, h2⟩⟩
  | @ref n a h1 =>
    cases eo : h[n]? with
    | none => simp [dctOf, eo] at e
    | some o =>
      cases o with
      | dct lk tt xs =>
        simp only [dctOf, eo, Option.some.injEq, Prod.mk.injEq] at e
        obtain ⟨rfl, rfl⟩ := e
        cases f.obj _ _ _ eo h1 with
        | dctK a1 a2 => exact ⟨_, rfl, .inl ⟨rfl, _, lkd_rd a1, a2⟩⟩
        | dctT a1 a2 => exact ⟨_, rfl, .inr ⟨rfl, _, lkd_rd a1, a2⟩⟩
      | _ => simp [dctOf, eo] at e
  | _ => cases e
theorem keyT_at {w : W} {v : V} {ks : List Key} (r : RW K mg ι H w v) (e : keyT w = some ks) : ∃ b, v = .ref b ∧ H b = some (.tup (ks.map kV)) := by
  cases r with
  | tup h0 h1 h2 => exact ⟨_, rfl, by rw [← ksW_V e h2]; exact h1⟩
  | _ => cases e
/-- a key's place -/
theorem dget_at {d k : W} {v y : V} {o : Option W} (f : Fit K mg ι H h) (r : RW K mg ι H d v) (rk : RW K mg ι H k y) (e : getD' h d k = some o) :
    ∃ a z, v = .ref a ∧ DGet H a y z ∧ (∀ w, o = some w → ∃ u, z = some u ∧ RW K mg ι H w u) ∧ (o = none → z = none) := by
  unfold getD' at e
  cases e1 : dctOf h d with
  | none => rw [e1] at e; cases e
  | some p =>
    obtain ⟨t, kvs⟩ := p
    rw [e1] at e
    obtain ⟨a, rfl, hh⟩ := dctOf_at f r e1
    rcases hh with ⟨rfl, qs, h1, h2⟩ | ⟨rfl, qs, h1, h2⟩
    · simp only [keyQ, Bool.false_eq_true, if_false] at e
      cases e2 : keyK k with
      | none => rw [e2] at e; cases e
      | some q =>
        rw [e2] at e
        simp only [Option.map_some, Option.some.injEq] at e
        refine ⟨a, valV qs q, rfl, .inl ⟨qs, q, h1, kW_V e2 rk, rfl⟩, fun w ew => (lookK h2).1 w (e.trans ew), fun en => (lookK h2).2 (e.trans en)⟩
    · simp only [keyQ, if_true] at e
      cases e2 : keyT k with
      | none => rw [e2] at e; cases e
      | some q =>
        rw [e2] at e
        simp only [Option.map_some, Option.some.injEq] at e
        obtain ⟨b, rfl, hb⟩ := keyT_at rk e2
        refine ⟨a, valV qs q, rfl, .inr ⟨qs, q, b, h1, rfl, hb, rfl⟩, fun w ew => (lookT h2).1 w (e.trans ew), fun en => (lookT h2).2 (e.trans en)⟩
/-- a key is put -/
theorem putK_at {kvs : List (W × W)} {qs : List (Key × V)} {k w : W} {q : Key} {v : V} (r : RWk K mg ι H kvs qs) (ek : keyK k = some q) (rw' : RW K mg ι H w v) : RWk K mg ι H (putQ kvs (.inl q) k w) (putK qs q v) := by
  have any : ∀ {kvs : List (W × W)} {qs : List (Key × V)}, RWk K mg ι H kvs qs → (kvs.any fun p => hkIs (.inl q) p.1) = (qs.any fun p => decide (p.1 = q)) := by
    intro kvs
    induction kvs with
    | nil => intro qs r; cases r; rfl
    | cons p kvs ih =>
      intro qs r
      cases r with
      | cons h1 h2 h3 =>
        rw [List.any_cons, List.any_cons, ih h3]
        congr 1
        unfold hkIs; rw [hk_K h1]; simp
  have mp : ∀ {kvs : List (W × W)} {qs : List (Key × V)}, RWk K mg ι H kvs qs → RWk K mg ι H (kvs.map fun p => if hkIs (.inl q) p.1 = true then (p.1, w) else p) (qs.map fun p => if p.1 = q then (p.1, v) else p) := by
    intro kvs
    induction kvs with
    | nil => intro qs r; cases r; exact .nil
    | cons p kvs ih =>
      intro qs r
      cases r with
      | @cons _ _ x xs h1 h2 h3 =>
        rw [List.map_cons, List.map_cons]
        by_cases hq : x.1 = q
        · have hh : hkIs (.inl q) p.1 = true := by unfold hkIs; rw [hk_K h1, hq]; simp
          rw [if_pos hh, if_pos hq]
          exact .cons h1 rw' (ih h3)
        · have hh : ¬ hkIs (.inl q) p.1 = true := by unfold hkIs; rw [hk_K h1]; simpa using hq
          rw [if_neg hh, if_neg hq]
          exact .cons h1 h2 (ih h3)
  have ap : ∀ {kvs : List (W × W)} {qs : List (Key × V)}, RWk K mg ι H kvs qs → RWk K mg ι H (kvs ++ [(k, w)]) (qs ++ [(q, v)]) := by
    intro kvs
    induction kvs with
    | nil => intro qs r; cases r; exact .cons ek rw' .nil
    | cons p kvs ih =>
      intro qs r
      cases r with
      | cons h1 h2 h3 => exact .cons h1 h2 (ih h3)
  unfold putQ putK
  rw [any r]
  split
  · exact mp r
  · exact ap r
theorem putT_at {kvs : List (W × W)} {qs : List (List Key × V)} {k w : W} {q : List Key} {v : V} (r : RWt K mg ι H kvs qs) (ek : keyT k = some q) (rw' : RW K mg ι H w v) : RWt K mg ι H (putQ kvs (.inr q) k w) (putK qs q v) := by
  have any : ∀ {kvs : List (W × W)} {qs : List (List Key × V)}, RWt K mg ι H kvs qs → (kvs.any fun p => hkIs (.inr q) p.1) = (qs.any fun p => decide (p.1 = q)) := by
    intro kvs
    induction kvs with
    | nil => intro qs r; cases r; rfl
    | cons p kvs ih =>
      intro qs r
      cases r with
      | cons h1 h2 h3 =>
        rw [List.any_cons, List.any_cons, ih h3]
        congr 1
        unfold hkIs; rw [hk_T h1]; simp
  have mp : ∀ {kvs : List (W × W)} {qs : List (List Key × V)}, RWt K mg ι H kvs qs → RWt K mg ι H (kvs.map fun p => if hkIs (.inr q) p.1 = true then (p.1, w) else p) (qs.map fun p => if p.1 = q then (p.1, v) else p) := by
    intro kvs
    induction kvs with
    | nil => intro qs r; cases r; exact .nil
    | cons p kvs ih =>
      intro qs r
      cases r with
      | @cons _ _ x xs h1 h2 h3 =>
        rw [List.map_cons, List.map_cons]
        by_cases hq : x.1 = q
        · have hh : hkIs (.inr q) p.1 = true := by unfold hkIs; rw [hk_T h1, hq]; simp
          rw [if_pos hh, if_pos hq]
          exact .cons h1 rw' (ih h3)
        · have hh : ¬ hkIs (.inr q) p.1 = true := by unfold hkIs; rw [hk_T h1]; simpa using hq
          rw [if_neg hh, if_neg hq]
          exact .cons h1 h2 (ih h3)
  have ap : ∀ {kvs : List (W × W)} {qs : List (List Key × V)}, RWt K mg ι H kvs qs → RWt K mg ι H (kvs ++ [(k, w)]) (qs ++ [(q, v)]) := by
    intro kvs
    induction kvs with
    | nil => intro qs r; cases r; exact .cons ek rw' .nil
    | cons p kvs ih =>
      intro qs r
      cases r with
      | cons h1 h2 h3 => exact .cons h1 h2 (ih h3)
  unfold putQ putK
  rw [any r]
  split
  · exact mp r
  · exact ap r
theorem RWk.len : ∀ {kvs : List (W × W)} {qs : List (Key × V)}, RWk K mg ι H kvs qs → qs.length = kvs.length
  | [], _, r => by cases r; rfl
  | p :: kvs, _, r => by
    cases r with
    | cons h1 h2 h3 => rw [List.length_cons, List.length_cons, RWk.len h3]
theorem RWt.len : ∀ {kvs : List (W × W)} {qs : List (List Key × V)}, RWt K mg ι H kvs qs → qs.length = kvs.length
  | [], _, r => by cases r; rfl
  | p :: kvs, _, r => by
    cases r with
    | cons h1 h2 h3 => rw [List.length_cons, List.length_cons, RWt.len h3]
/-- d[k] = w of a numbered dict -/
def putD (h : List O) (d k w : W) : Option (List O) := match d with
  | .ref n => match h[n]? with
    | some (.dct false t kvs) => match keyQ t k with
      | some q => if kvs.length < sizeLine then some (h.set n (.dct false t (putQ kvs q k w))) else none
      | none => none
    | _ => none
  | _ => none
theorem dput_at {d k w : W} {v y u : V} {h' : List O} (f : Fit K mg ι H h) (r : RW K mg ι H d v) (rk : RW K mg ι H k y) (rw' : RW K mg ι H w u) (e : putD h d k w = some h') :
    ∃ a H', v = .ref a ∧ DPut H a y u H' ∧ Grow ι ι H H' ∧ Fit K mg ι H' h' := by
  cases d with
  | ref n =>
    cases r with
    | @ref _ a h1 =>
      cases eo : h[n]? with
      | none => simp [putD, eo] at e
      | some o =>
        cases o with
        | dct lk t kvs =>
          cases lk with
          | true => simp [putD, eo] at e
          | false =>
            simp only [putD, eo] at e
            cases eq : keyQ t k with
            | none => rw [eq] at e; cases e
            | some q =>
              rw [eq] at e
              simp only at e
              by_cases hl : kvs.length < sizeLine
              · rw [if_pos hl] at e
                cases e
                cases f.obj _ _ _ eo h1 with
                | @dctK _ _ _ qs a1 a2 =>
                  simp only [keyQ, Bool.false_eq_true, if_false] at eq
                  cases e2 : keyK k with
                  | none => rw [e2] at eq; cases eq
                  | some q' =>
                    rw [e2] at eq
                    simp only [Option.map_some, Option.some.injEq] at eq
                    subst eq
                    have a1 : H a = some (.dK qs) := a1
                    have g := f.growP h1 (.dK (putK qs q' u))
                    refine ⟨a, _, rfl, .inl ⟨qs, q', a1, kW_V e2 rk, by rw [a2.len]; exact hl, rfl⟩, g, f.put h1 (.dctK upd_same (putK_at (RWk.mono g.g0 _ _ a2) e2 (RW.mono g.g0 _ _ rw')))⟩
                | @dctT _ _ _ qs a1 a2 =>
                  simp only [keyQ, if_true] at eq
                  cases e2 : keyT k with
                  | none => rw [e2] at eq; cases eq
                  | some q' =>
                    rw [e2] at eq
                    simp only [Option.map_some, Option.some.injEq] at eq
                    subst eq
                    have a1 : H a = some (.dT qs) := a1
                    obtain ⟨b, rfl, hb⟩ := keyT_at rk e2
                    have g := f.growP h1 (.dT (putK qs q' u))
                    refine ⟨a, _, rfl, .inr ⟨qs, q', b, a1, rfl, hb, by rw [a2.len]; exact hl, rfl⟩, g, f.put h1 (.dctT upd_same (putT_at (RWt.mono g.g0 _ _ a2) e2 (RW.mono g.g0 _ _ rw')))⟩
              · rw [if_neg hl] at e; cases e
        | _ => simp [putD, eo] at e
  | _ => cases e
end
end N

set_option maxHeartbeats 1000000
namespace N
open PySem L2
/-! ### in -/
def seqU (h : List O) : W → Option (List W)
  | .tup ws => some ws
  | .tro ws => some ws
  | w => seqL h w
def inW (h : List O) (x y : W) : Option Bool := match y with
  | .str z => match x with
    | .str a => if a.cps.size = 1 then some (decide (a.cps.getD 0 0 ∈ z.cps.toList)) else some (!(Builtin.Str.occurrences z a 0 z.length 1).isEmpty)
    | _ => none
  | .dct _ _ => (getD' h y x).map (·.isSome)
  | .ref n => match h[n]? with
    | some (.dct _ _ _) => (getD' h y x).map (·.isSome)
    | _ => (seqU h y).bind fun ws => match datW x, datWs ws with
      | some d, some ds => if SeqAt.shaped d = true ∧ SeqAt.shaped (.list ds) = true then some (ds.any fun z => PyData.eqv z d) else none
      | _, _ => none
  | _ => (seqU h y).bind fun ws => match datW x, datWs ws with
    | some d, some ds => if SeqAt.shaped d = true ∧ SeqAt.shaped (.list ds) = true then some (ds.any fun z => PyData.eqv z d) else none
    | _, _ => none
def inSeq (h : List O) (x y : W) : Option Bool := (seqU h y).bind fun ws => match datW x, datWs ws with
  | some d, some ds => if SeqAt.shaped d = true ∧ SeqAt.shaped (.list ds) = true then some (ds.any fun z => PyData.eqv z d) else none
  | _, _ => none
def nIn (h : List O) (x y : W) : Option W := (inW h x y).map .bl
def nNotIn (h : List O) (x y : W) : Option W := (inW h x y).map fun b => .bl (!b)
theorem seqU_at {K : PySem.W.Frag} {mg : Str → Option Value} {ι : Ix} {H : Hp} {h : List O} {w : W} {v : V} {ws : List W} (f : Fit K mg ι H h) (r : RW K mg ι H w v) (e : seqU h w = some ws) :
    ∃ a vs, v = .ref a ∧ (SqL K H a vs ∨ SqT K H a vs) ∧ RWs K mg ι H ws vs := by
  cases w with
  | tup xs => cases e; cases r with
    | tup h0 h1 h2 => exact ⟨_, _, rfl, .inr (SqT.of h1), h2⟩
  | tro xs => cases e; cases r with
    | tro h1 h2 => exact ⟨_, _, rfl, .inr (NoH.sqT h1), h2⟩
  | _ => obtain ⟨a, vs, e1, e2, e3⟩ := seqL_at f r e; exact ⟨a, vs, e1, .inl e2, e3⟩
section
variable {X : Cx}
theorem shaped_tl {ds : List PyData} (h : SeqAt.shaped (.list ds) = true) : SeqAt.shaped (.tuple ds) = true := by
  unfold SeqAt.shaped at h ⊢
  simpa [PyData.canLay0, PyData.depth] using h
theorem on_inS {neg : Bool} {op : CmpOp} (hop : (op = .In ∧ neg = false) ∨ (op = .NotIn ∧ neg = true)) (hu : X.A.units + 65 < cLine) : OpR X (compareOp op) (r2N X.K X.mg fun h x y => (inSeq h x y).map fun b => .bl (if neg then !b else b)) := by
  intro pins s σ H x y v u Q I rx ry ⟨ι, h, w1, w2, w, ft, r1, r2, e, k⟩
  simp only at e
  cases e0 : inSeq h w1 w2 with
  | none => rw [e0] at e; cases e
  | some b =>
    rw [e0] at e; cases e
    unfold inSeq at e0
    cases e1 : seqU h w2 with
    | none => rw [e1] at e0; cases e0
    | some ws =>
      rw [e1] at e0
      simp only [Option.bind_some] at e0
      cases e2 : datW w1 with
      | none => rw [e2] at e0; cases e0
      | some d =>
        cases e3 : datWs ws with
        | none => rw [e2, e3] at e0; cases e0
        | some ds =>
          rw [e2, e3] at e0
          simp only at e0
          split at e0
          · rename_i hh
            cases e0
            obtain ⟨a, vs, rfl, hq, rv⟩ := seqU_at ft r2 e1
            have dx := datW_dp _ _ _ r1 e2
            have dy := datWs_dp _ _ _ rv e3
            obtain ⟨as, rd⟩ := Dp.reads I d x v dx rx
            have q0 := k ι _ H .refl ft (.bl _)
            have room := PyProof.Rows.room_in_shaped hh.1 hu (xs := ds)
            rcases hq with hq | hq
            · obtain ⟨bs, rc⟩ := Dp.reads I (.list ds) _ u (.lst hq dy) ry
              rcases hop with ⟨rfl, rfl⟩ | ⟨rfl, rfl⟩
              · exact SeqAt.in_list_reads rc rd (SeqAt.canLay_of_shaped hh.2) (SeqAt.canLay_of_shaped hh.1) room ⟨.bl _, H, I, rfl, q0⟩
              · exact SeqAt.notIn_list_reads rc rd (SeqAt.canLay_of_shaped hh.2) (SeqAt.canLay_of_shaped hh.1) room ⟨.bl _, H, I, rfl, q0⟩
            · obtain ⟨bs, rc⟩ := Dp.reads I (.tuple ds) _ u (.tup hq dy) ry
              rcases hop with ⟨rfl, rfl⟩ | ⟨rfl, rfl⟩
              · exact SeqAt.in_tuple_reads rc rd (SeqAt.canLay_of_shaped hh.2) (SeqAt.canLay_of_shaped hh.1) room ⟨.bl _, H, I, rfl, q0⟩
              · exact SeqAt.notIn_tuple_reads rc rd (SeqAt.canLay_of_shaped hh.2) (SeqAt.canLay_of_shaped hh.1) room ⟨.bl _, H, I, rfl, q0⟩
          · cases e0
theorem one_sign {a : Str} (h : a.cps.size = 1) : a = ⟨#[a.cps.getD 0 0]⟩ := by
  obtain ⟨⟨l⟩⟩ := a
  have h : l.length = 1 := by simpa using h
  match l, h with
  | [c], _ => rfl
theorem on_inAny {neg : Bool} {op : CmpOp} (hop : (op = .In ∧ neg = false) ∨ (op = .NotIn ∧ neg = true)) (hu : X.A.units + 65 < cLine) : OpR X (compareOp op) (r2N X.K X.mg fun h x y => (inW h x y).map fun b => .bl (if neg then !b else b)) := by
  intro pins s σ H x y v u Q I rx ry ⟨ι, h, w1, w2, w, ft, r1, r2, e, k⟩
  simp only at e
  have dict : ∀ b, ((getD' h w2 w1).map (·.isSome)) = some b → w = .bl (if neg then !b else b) → wpAny (model X.prog X.w) X.A (compareOp op v u) (EP X pins σ Q) X.xe s := by
    intro b eb ew
    subst ew
    cases eg : getD' h w2 w1 with
    | none => rw [eg] at eb; cases eb
    | some o =>
      rw [eg] at eb
      obtain ⟨a, z, rfl, dg, h1, h2⟩ := dget_at ft r2 r1 eg
      cases ry
      have ez : z.isSome = b := by
        cases eb
        cases o with
        | none => rw [h2 rfl]; rfl
        | some w0 => obtain ⟨u0, hu0, _⟩ := h1 w0 rfl; rw [hu0]; rfl
      have q0 := k ι _ H .refl ft (.bl _)
      rcases hop with ⟨rfl, rfl⟩ | ⟨rfl, rfl⟩
      · exact d_in (by omega) I dg rx fun s3 I3 => ⟨.bl z.isSome, H, I3, rfl, by rw [ez]; exact q0⟩
      · exact d_notIn (by omega) I dg rx fun s3 I3 => ⟨.bl (!z.isSome), H, I3, rfl, by rw [ez]; exact q0⟩
  have seqs : inW h w1 w2 = inSeq h w1 w2 → wpAny (model X.prog X.w) X.A (compareOp op v u) (EP X pins σ Q) X.xe s := by
    intro e0
    exact on_inS hop hu pins s σ H x y v u Q I rx ry ⟨ι, h, w1, w2, w, ft, r1, r2, (by show (inSeq h w1 w2).map _ = _; rw [← e0]; exact e), k⟩
  cases w2 with
  | str z =>
    cases w1 with
    | str a =>
      cases r1; cases r2
      by_cases hs : a.cps.size = 1
      · have e0 : inW h (.str a) (.str z) = some (decide (a.cps.getD 0 0 ∈ z.cps.toList)) := if_pos hs
        rw [e0] at e; cases e
        have q0 := k ι _ H .refl ft (.bl _)
        rcases hop with ⟨rfl, rfl⟩ | ⟨rfl, rfl⟩
        · exact op_in_sign pins s σ H _ _ v u Q I rx ry ⟨_, z, by rw [← one_sign hs], rfl, q0⟩
        · exact op_notIn_sign pins s σ H _ _ v u Q I rx ry ⟨_, z, by rw [← one_sign hs], rfl, q0⟩
      · have e0 : inW h (.str a) (.str z) = some (!(Builtin.Str.occurrences z a 0 z.length 1).isEmpty) := if_neg hs
        rw [e0] at e; cases e
        have q0 := k ι _ H .refl ft (.bl _)
        rcases hop with ⟨rfl, rfl⟩ | ⟨rfl, rfl⟩
        · exact op_in_str pins s σ H _ _ v u Q I rx ry ⟨a, z, rfl, rfl, q0⟩
        · exact op_notin_str pins s σ H _ _ v u Q I rx ry ⟨a, z, rfl, rfl, q0⟩
    | _ => cases e
  | dct t kvs =>
    cases eb : (getD' h (.dct t kvs) w1).map (·.isSome) with
    | none => have e0 : inW h w1 (.dct t kvs) = none := eb; rw [e0] at e; cases e
    | some b => have e0 : inW h w1 (.dct t kvs) = some b := eb; rw [e0] at e; cases e; exact dict b eb rfl
  | ref n =>
    cases eo : h[n]? with
    | none => exact seqs (by simp only [inW, eo]; rfl)
    | some o =>
      cases o with
      | dct lk t kvs =>
        cases eb : (getD' h (.ref n) w1).map (·.isSome) with
        | none => have e0 : inW h w1 (.ref n) = none := by simp only [inW, eo]; exact eb
                  rw [e0] at e; cases e
        | some b => have e0 : inW h w1 (.ref n) = some b := by simp only [inW, eo]; exact eb
                    rw [e0] at e; cases e; exact dict b eb rfl
      | _ => exact seqs (by simp only [inW, eo]; rfl)
  | _ => exact seqs rfl
theorem on_in (hu : X.A.units + 65 < cLine) : OpR X (compareOp .In) (r2N X.K X.mg nIn) := on_inAny (neg := false) (.inl ⟨rfl, rfl⟩) hu
theorem on_notIn (hu : X.A.units + 65 < cLine) : OpR X (compareOp .NotIn) (r2N X.K X.mg nNotIn) := on_inAny (neg := true) (.inr ⟨rfl, rfl⟩) hu
/-! ### subscripts -/
def nIx (h : List O) (x y : W) : Option W := match x with
  | .str z => match y with
    | .int i => if z.length ≤ sizeLine then (atI z.cps.toList i).map fun c => .str ⟨#[c]⟩ else none
    | _ => none
  | .dct _ _ => (getD' h x y).bind id
  | .ref n => match h[n]? with
    | some (.dct _ _ _) => (getD' h x y).bind id
    | _ => (seqU h x).bind fun ws => match y with
      | .int i => atI ws i
      | _ => none
  | _ => (seqU h x).bind fun ws => match y with
    | .int i => atI ws i
    | _ => none
theorem atI_at {K : PySem.W.Frag} {mg : Str → Option Value} {ι : Ix} {H : Hp} {ws : List W} {vs : List V} {i : Int} {w : W} (r : RWs K mg ι H ws vs) (e : atI ws i = some w) : ∃ v, atI vs i = some v ∧ RW K mg ι H w v := by
  unfold atI at e ⊢
  rw [r.len]
  cases e1 : ixN ws.length i with
  | none => rw [e1] at e; cases e
  | some j =>
    rw [e1] at e
    exact r.at e
theorem ix_N (hu : X.A.units + 1 < cLine) : IxR X (r2N X.K X.mg nIx) := by
  intro value slice pins s σ H x y v u Q I rx ry hq hs
  obtain ⟨ι, h, w1, w2, w, ft, r1, r2, e, k⟩ := hq
  have dict : (getD' h w1 w2).bind id = some w → wpAny (model X.prog X.w) X.A (PyProof.Rows.subscriptTail value slice v u) (EP X pins σ Q) X.xe s := by
    intro eb
    cases eg : getD' h w1 w2 with
    | none => rw [eg] at eb; cases eb
    | some o =>
      rw [eg] at eb
      have eb : o = some w := eb
      subst eb
      obtain ⟨a, z, rfl, dg, h1, h2⟩ := dget_at ft r1 r2 eg
      cases rx
      obtain ⟨u0, rfl, ru⟩ := h1 w rfl
      exact PyProof.Rows.tail_any (dict_typeIs I dg) PySem.F.slot_dict_getitem.lookup (d_getItem hu I dg ry fun w' s3 I3 rw' => ⟨u0, H, I3, rw', k ι u0 H .refl ft ru⟩) hs
  have seqs : ((seqU h w1).bind fun ws => match w2 with
      | .int i => atI ws i
      | _ => none) = some w → wpAny (model X.prog X.w) X.A (PyProof.Rows.subscriptTail value slice v u) (EP X pins σ Q) X.xe s := by
    intro e0
    cases e1 : seqU h w1 with
    | none => rw [e1] at e0; cases e0
    | some ws =>
      rw [e1] at e0
      simp only [Option.bind_some] at e0
      cases w2 with
      | int i =>
        cases r2
        obtain ⟨a, vs, rfl, hq, rv⟩ := seqU_at ft r1 e1
        obtain ⟨v0, h1, h2⟩ := atI_at rv e0
        rcases hq with hq | hq
        · exact ix_list value slice pins s σ H _ _ v u Q I rx ry ⟨a, vs, i, v0, rfl, rfl, hq, h1, k ι v0 H .refl ft h2⟩ hs
        · exact ix_tup value slice pins s σ H _ _ v u Q I rx ry ⟨a, vs, i, v0, rfl, rfl, hq, h1, k ι v0 H .refl ft h2⟩ hs
      | _ => cases e0
  cases w1 with
  | str z =>
    cases w2 with
    | int i =>
      cases r1; cases r2
      have e : (if z.length ≤ sizeLine then (atI z.cps.toList i).map fun c => W.str ⟨#[c]⟩ else none) = some w := e
      split at e
      · cases e1 : atI z.cps.toList i with
        | none => rw [e1] at e; cases e
        | some c => rw [e1] at e; cases e; exact ix_str value slice pins s σ H _ _ v u Q I rx ry ⟨z, i, c, rfl, rfl, by assumption, e1, k ι _ H .refl ft (.str _)⟩ hs
      · cases e
    | _ => cases e
  | dct t kvs => exact dict e
  | ref n =>
    cases eo : h[n]? with
    | none => exact seqs (by simp only [nIx, eo] at e; exact e)
    | some o =>
      cases o with
      | dct lk t kvs => exact dict (by simp only [nIx, eo] at e; exact e)
      | _ => exact seqs (by simp only [nIx, eo] at e; exact e)
  | _ => exact seqs e
theorem ne_ix {a b : Expr} {ma mb : ME} {E : WX} {pos : Pos} (hu : X.A.units + 1 < cLine) (ha : NE X E a ma) (hb : NE X E b mb) (hs : PlainIx b := by intro _ _; rfl) : NE X E (.Subscript a b pos) (mOp nIx ma mb) :=
  PE.imp (pe_ix (ix_N hu) ha hb hs) fun _ _ _ => tN_op
/-! ### slices -/
def cutL {α : Type} (xs : List α) (lo hi : Option Int) : List α := (xs.drop (HT.sIx xs.length 0 lo)).take (HT.sIx xs.length xs.length hi - HT.sIx xs.length 0 lo)
def nSl (h : List O) (x : W) (lo hi : Option Int) : Option W := match x with
  | .str z => if z.length ≤ sizeLine then some (.str (cutS z lo hi)) else none
  | .tup ws => some (.tup (cutL ws lo hi))
  | .tro ws => if HT.sIx ws.length 0 lo = 0 ∧ HT.sIx ws.length ws.length hi = ws.length then some (.tro ws) else some (.tup (cutL ws lo hi))
  | w => (seqL h w).map fun ws => .lst (cutL ws lo hi)
def rSlN (K : PySem.W.Frag) (mg : Str → Option Value) : V → Option Int → Option Int → Hp → VK → Prop := fun x lo hi H Q => ∃ ι h w1 w, Fit K mg ι H h ∧ RW K mg ι H w1 x ∧ nSl h w1 lo hi = some w ∧
  ∀ ι' v H', Grow ι ι' H H' → Fit K mg ι' H' h → RW K mg ι' H' w v → Q v H'
theorem cut_rws {K : PySem.W.Frag} {mg : Str → Option Value} {ι : Ix} {H : Hp} {ws : List W} {vs : List V} (r : RWs K mg ι H ws vs) (lo hi : Option Int) : RWs K mg ι H (cutL ws lo hi) (cutV vs lo hi) := by
  unfold cutL cutV
  rw [r.len]
  exact (r.drop _).take _
theorem cut_whole {α : Type} {xs : List α} {lo hi : Option Int} (h : HT.sIx xs.length 0 lo = 0 ∧ HT.sIx xs.length xs.length hi = xs.length) : cutL xs lo hi = xs := by
  unfold cutL
  rw [h.1, h.2, List.drop_zero, Nat.sub_zero, List.take_length]
theorem sl_N : SlR X (rSlN X.K X.mg) := by
  intro pins s σ H x v vl vu lo hi sl Q I rx hs pl pu hq
  obtain ⟨ι, h, w1, w, ft, r1, e, k⟩ := hq
  have lists : (seqL h w1).map (fun ws => W.lst (cutL ws lo hi)) = some w → ∃ T id, typeLookup (.type T) "__getitem__" = pure (some (.builtin id)) ∧ s.TypeIs v T ∧ wpAny (model X.prog X.w) X.A (getItem v (.ref sl)) (EP X pins σ Q) X.xe s := by
    intro e0
    cases e1 : seqL h w1 with
    | none => rw [e1] at e0; cases e0
    | some ws =>
      rw [e1] at e0; cases e0
      obtain ⟨a, vs, rfl, hq, rv⟩ := seqL_at ft r1 e1
      refine sl_list pins s σ H _ v vl vu lo hi sl Q I rx hs pl pu ⟨a, vs, rfl, hq, fun p hp => ?_⟩
      obtain ⟨g, f, r⟩ := new_lst ft (cut_rws rv lo hi) hp
      exact k ι _ _ g f r
  have tups : ∀ (ws : List W) (a : Addr) (vs : List V), v = .ref a → x = .ref a → SqT X.K H a vs → RWs X.K X.mg ι H ws vs → (HT.sIx ws.length 0 lo = 0 ∧ HT.sIx ws.length ws.length hi = ws.length → Q (.ref a) H) →
      (¬ (HT.sIx ws.length 0 lo = 0 ∧ HT.sIx ws.length ws.length hi = ws.length) → w = .tup (cutL ws lo hi)) → ∃ T id, typeLookup (.type T) "__getitem__" = pure (some (.builtin id)) ∧ s.TypeIs v T ∧ wpAny (model X.prog X.w) X.A (getItem v (.ref sl)) (EP X pins σ Q) X.xe s := by
    intro ws a vs ev ex hq rv hw hn
    subst ex
    have el := rv.len
    refine sl_tupA pins s σ H _ v vl vu lo hi sl Q I rx hs pl pu ⟨a, vs, rfl, hq, fun z => hw (by rw [← el]; exact z), fun z p hp => ?_⟩
    obtain ⟨g, f, r⟩ := new_tup ft (cut_rws rv lo hi) hp
    have := hn (by rw [← el]; exact z)
    subst this
    exact k ι _ _ g f r
  cases w1 with
  | str z =>
    cases r1
    have e : (if z.length ≤ sizeLine then some (W.str (cutS z lo hi)) else none) = some w := e
    split at e
    · cases e; exact sl_str pins s σ H _ v vl vu lo hi sl Q I rx hs pl pu ⟨z, rfl, by assumption, k ι _ H .refl ft (.str _)⟩
    · cases e
  | tup ws =>
    cases e
    cases r1 with
    | @tup _ a vs h0 h1 h2 =>
      exact tups ws a vs rx rfl (SqT.of h1) h2 (fun z => by rw [cut_whole z] at k; exact k ι _ H .refl ft (.tup h0 h1 h2)) fun _ => rfl
  | tro ws =>
    cases r1 with
    | @tro _ a vs h1 h2 =>
      have e : (if HT.sIx ws.length 0 lo = 0 ∧ HT.sIx ws.length ws.length hi = ws.length then some (W.tro ws) else some (.tup (cutL ws lo hi))) = some w := e
      refine tups ws a vs rx rfl (NoH.sqT h1) h2 (fun z => ?_) (fun z => ?_)
      · rw [if_pos z] at e; cases e; exact k ι _ H .refl ft (.tro h1 h2)
      · rw [if_neg z] at e; cases e; rfl
  | _ => exact lists e
/-- a part of a slice -/
abbrev MO := Slo → List O → ER (Option Int)
def mNoP : MO := fun _ h => .ok none h
def mPart (m : ME) : MO := fun σ h => (m σ h).bind fun w h1 => match w with
  | .int i => .ok (some i) h1
  | _ => .stuck
def tNO (K : PySem.W.Frag) (mg : Str → Option Value) (z : Option (Addr × Addr)) (E : WX) (m : MO) : TO := fun σ H Q => ∃ ι σn h, Fit K mg ι H h ∧ Sl K mg ι H z σn σ ∧ Aft K mg ι H (m σn h) (fun _ _ a b => a = b) Q (fun c d H' => E c d σ H')
abbrev NO (X : Cx) (E : WX) (e : Option Expr) (m : MO) : Prop := PO X e (tNO X.K X.mg (zX X) E m)
theorem PO.imp {X : Cx} {e : Option Expr} {t t' : TO} (h : PO X e t) (k : ∀ σ H Q, t' σ H Q → t σ H Q) : PO X e t' := ⟨fun pins s σ H Q I q => h.run pins s σ H Q I (k _ _ _ q)⟩
variable {E : WX} {pos : Pos}
theorem no_none : NO X E none mNoP := PO.imp po_none fun σ H Q ⟨ι, σn, h, f, s, q⟩ => q ι none H .refl f rfl
theorem no_some {e : Expr} {m : ME} (he : NE X E e m) : NO X E (some e) (mPart m) := PO.imp (po_some he) fun σ H Q ⟨ι, σn, h, f, s, q⟩ => ⟨ι, σn, h, f, s, Aft.bind q fun ι1 w1 h1 v1 H1 g1 f1 r1 q1 => by
  cases w1 with
  | int i => cases r1; exact ⟨i, rfl, q1 ι1 _ H1 .refl f1 rfl⟩
  | _ => exact q1.elim⟩
def mSl (m : ME) (lo hi : MO) : ME := fun σ h => (m σ h).bind fun x h1 => (lo σ h1).bind fun l h2 => (hi σ h2).bind fun r h3 => ofO h3 (nSl h3 x l r)
theorem ne_sl {e : Expr} {lo hi : Option Expr} {m : ME} {ml mh : MO} {p2 : Pos} (he : NE X E e m) (hl : NO X E lo ml) (hh : NO X E hi mh) : NE X E (.Subscript e (.Slice lo hi none p2) pos) (mSl m ml mh) :=
  PE.imp (pe_slice sl_N he hl hh) fun σ H Q ⟨ι, σn, h, ft, s, q⟩ => ⟨ι, σn, h, ft, s, Aft.bind q fun ι1 w1 h1 v1 H1 g1 f1 r1 q1 => ⟨ι1, σn, h1, f1, s.mono g1, Aft.bind q1 fun ι2 w2 h2 v2 H2 g2 f2 r2 q2 =>
    ⟨ι2, σn, h2, f2, (s.mono g1.g0).mono g2.g0, Aft.bind q2 fun ι3 w3 h3 v3 H3 g3 f3 r3 q3 => by
      subst r2 r3
      cases e : nSl h3 w1 w2 w3 with
      | none => rw [e] at q3; exact q3.elim
      | some w => rw [e] at q3; exact ⟨ι3, h3, w1, w, f3, RW.mono (g2.trans g3).g0 _ _ r1, e, q3⟩⟩⟩⟩
end
end N

set_option maxHeartbeats 1000000
namespace N
open PySem L2
/-! ### built-ins by values -/
abbrev NF := List O → List W → Option (W × List O)
def rcN (K : PySem.W.Frag) (mg : Str → Option Value) (f : NF) : List V → Hp → VK → Prop := fun xs H Q => ∃ ι h ws w h', Fit K mg ι H h ∧ RWs K mg ι H ws xs ∧ f h ws = some (w, h') ∧
  ∀ ι' v H', Grow ι ι' H H' → Fit K mg ι' H' h' → RW K mg ι' H' w v → Q v H'
def mCB (f : NF) (ma : MA) : ME := fun σ h => (ma σ h).bind fun ws h1 => ofH (f h1 ws)
theorem tCB_N {f : NF} {ma : MA} {σ : St} {H : Hp} {Q : VK} {K : PySem.W.Frag} {mg : Str → Option Value} {z : Option (Addr × Addr)} {E : WX} (q : tN K mg z E (mCB f ma) σ H Q) : tCB (rcN K mg f) (tNA K mg z E ma) σ H Q := by
  obtain ⟨ι, σn, h, ft, s, q⟩ := q
  refine ⟨ι, σn, h, ft, s, Aft.bind q fun ι1 w1 h1 v1 H1 g1 f1 r1 q1 => ?_⟩
  cases e : f h1 w1 with
  | none => rw [e] at q1; exact q1.elim
  | some p => obtain ⟨w, h'⟩ := p; rw [e] at q1; exact ⟨ι1, h1, w1, w, h', f1, r1, e, q1⟩
/-- pure ones -/
def pureF (f : List O → List W → Option W) : NF := fun h ws => (f h ws).map fun w => (w, h)
theorem rcN_pure {K : PySem.W.Frag} {mg : Str → Option Value} {f : List O → List W → Option W} {xs : List V} {H : Hp} {Q : VK} (q : rcN K mg (pureF f) xs H Q) :
    ∃ ι h ws w, Fit K mg ι H h ∧ RWs K mg ι H ws xs ∧ f h ws = some w ∧ ∀ ι' v H', Grow ι ι' H H' → Fit K mg ι' H' h → RW K mg ι' H' w v → Q v H' := by
  obtain ⟨ι, h, ws, w, h', a1, a2, a3, a4⟩ := q
  unfold pureF at a3
  cases e : f h ws with
  | none => rw [e] at a3; cases a3
  | some w' => rw [e] at a3; cases a3; exact ⟨ι, h, ws, w, a1, a2, e, a4⟩
section
variable {X : Cx} {E : WX} {pos p : Pos} {e : Expr} {es : List Expr}
theorem ne_callB {id : String} {x : Str} {f : NF} {ma : MA} (hc : CallR X (.builtin id) (rcN X.K X.mg f)) (hg : Gl X x) (hm : X.mg x = none) (hv : bootBuiltins x = some (.builtin id)) (ha : NA X E (e :: es) ma) (hn : x ≠ "__name__" := by decide) (hdb : (x == ("__debug__" : Str)) = false := by decide)
    (he : starEach (e :: es) X.env = (false, eval e X.env) :: starEach es X.env := by rfl) (hpl : (backTo pos (starEach es X.env)).any (·.1) = false := by rfl) : NE X E (.Call (.Name x p) (e :: es) [] pos) (mCB f ma) :=
  PE.imp (pe_callB hc hg hm hv ha hn hdb he hpl) fun _ _ _ => tCB_N
theorem ne_callTy {T : String} {x : Str} {f : NF} {ma : MA} (hc : CallR X (.type T) (rcN X.K X.mg f)) (hg : Gl X x) (hm : X.mg x = none) (hv : bootBuiltins x = some (.type T)) (ha : NA X E (e :: es) ma) (hn : x ≠ "__name__" := by decide) (hdb : (x == ("__debug__" : Str)) = false := by decide)
    (he : starEach (e :: es) X.env = (false, eval e X.env) :: starEach es X.env := by rfl) (hpl : (backTo pos (starEach es X.env)).any (·.1) = false := by rfl) : NE X E (.Call (.Name x p) (e :: es) [] pos) (mCB f ma) :=
  PE.imp (pe_callTy hc hg hm hv ha hn hdb he hpl) fun _ _ _ => tCB_N
/-! ### len -/
def nLen (h : List O) (ws : List W) : Option W := match ws with
  | [.str z] => if z.length ≤ sizeLine then some (.int z.length) else none
  | [w] => match seqU h w with
    | some xs => some (.int xs.length)
    | none => none
  | _ => none
theorem cn_len : CallR X (.builtin "len") (rcN X.K X.mg (pureF nLen)) := by
  intro pins s σ H xs us Q I r hq
  obtain ⟨ι, h, ws, w, ft, rw', e, k⟩ := rcN_pure hq
  have seqs : ∀ w0, ws = [w0] → (match seqU h w0 with
      | some xs => some (W.int xs.length)
      | none => none) = some w → wpAny (model X.prog X.w) X.A (call (.builtin "len") us) (EP X pins σ Q) X.xe s := by
    intro w0 e1 e2
    subst e1
    cases rw' with
    | cons r1 r2 =>
      cases r2
      cases e3 : seqU h w0 with
      | none => rw [e3] at e2; cases e2
      | some xs =>
        rw [e3] at e2
        cases e2
        obtain ⟨a, vs, rfl, hs, rv⟩ := seqU_at ft r1 e3
        exact call_len_seq pins s σ H _ us Q I r ⟨a, vs, rfl, hs, by rw [rv.len]; exact k ι _ H .refl ft (.int _)⟩
  match ws, e with
  | [.str z], e =>
    have e : (if z.length ≤ sizeLine then some (W.int z.length) else none) = some w := e
    split at e
    · cases e
      cases rw' with
      | cons r1 r2 => cases r2; cases r1; exact call_len_str pins s σ H _ us Q I r ⟨z, rfl, by assumption, k ι _ H .refl ft (.int _)⟩
    · cases e
  | [.non], e => exact seqs _ rfl e
  | [.bl _], e => exact seqs _ rfl e
  | [.int _], e => exact seqs _ rfl e
  | [.ty _], e => exact seqs _ rfl e
  | [.tup _], e => exact seqs _ rfl e
  | [.tro _], e => exact seqs _ rfl e
  | [.lst _], e => exact seqs _ rfl e
  | [.lro _], e => exact seqs _ rfl e
  | [.dct _ _], e => exact seqs _ rfl e
  | [.ref _], e => exact seqs _ rfl e
  | [.fn _], e => exact seqs _ rfl e
  | [.exo _ _], e => exact seqs _ rfl e
  | [], e => cases e
  | _ :: _ :: _, e => simp [nLen] at e
/-! ### numbers -/
def nAbs (h : List O) (ws : List W) : Option W := match ws with
  | [.int i] => some (.int (if i < 0 then -i else i))
  | _ => none
theorem cn_abs : CallR X (.builtin "abs") (rcN X.K X.mg (pureF nAbs)) := by
  intro pins s σ H xs us Q I r hq
  obtain ⟨ι, h, ws, w, ft, rw', e, k⟩ := rcN_pure hq
  match ws, rw', e with
  | [.int i], .cons (.int _) .nil, e => cases e; exact call_abs pins s σ H _ us Q I r ⟨i, rfl, k ι _ H .refl ft (.int _)⟩
/-- ints of a list -/
def intsW : List W → Option (List Int)
  | [] => some []
  | .int i :: ws => (intsW ws).map (i :: ·)
  | _ => none
theorem intsW_at {K : PySem.W.Frag} {mg : Str → Option Value} {ι : Ix} {H : Hp} : ∀ {ws : List W} {vs : List V} {ns : List Int}, RWs K mg ι H ws vs → intsW ws = some ns → vs = ns.map V.int
  | [], _, _, r, e => by cases r; cases e; rfl
  | w :: ws, _, ns, r, e => by
    cases w with
    | int i =>
      cases r with
      | cons r1 r2 =>
        cases r1
        cases e1 : intsW ws with
        | none => simp [intsW, e1] at e
        | some ms => simp only [intsW, e1, Option.map_some, Option.some.injEq] at e; subst e; rw [List.map_cons, intsW_at r2 e1]
    | _ => simp [intsW] at e
theorem intsW_len : ∀ {ws : List W} {ns : List Int}, intsW ws = some ns → ns.length = ws.length
  | [], _, e => by cases e; rfl
  | w :: ws, ns, e => by
    cases w with
    | int i =>
      cases e1 : intsW ws with
      | none => simp [intsW, e1] at e
      | some ms => simp only [intsW, e1, Option.map_some, Option.some.injEq] at e; subst e; rw [List.length_cons, List.length_cons, intsW_len e1]
    | _ => simp [intsW] at e
def maxL : List Int → Int
  | [] => 0
  | [a] => a
  | a :: l => if maxL l > a then maxL l else a
def minL : List Int → Int
  | [] => 0
  | [a] => a
  | a :: l => if minL l < a then minL l else a
theorem maxL_mem : ∀ {l : List Int}, l ≠ [] → maxL l ∈ l ∧ ∀ y ∈ l, y ≤ maxL l
  | [], h => absurd rfl h
  | [a], _ => ⟨List.mem_singleton.mpr rfl, fun y hy => by rw [List.mem_singleton] at hy; subst hy; exact Int.le_refl _⟩
  | a :: b :: l, _ => by
    obtain ⟨h1, h2⟩ := maxL_mem (l := b :: l) (by simp)
    show (if maxL (b :: l) > a then maxL (b :: l) else a) ∈ _ ∧ ∀ y ∈ _, y ≤ (if maxL (b :: l) > a then maxL (b :: l) else a)
    split
    · refine ⟨List.mem_cons_of_mem _ h1, fun y hy => ?_⟩
      rcases List.mem_cons.mp hy with rfl | hy
      · omega
      · exact h2 y hy
    · refine ⟨List.mem_cons_self .., fun y hy => ?_⟩
      rcases List.mem_cons.mp hy with rfl | hy
      · exact Int.le_refl _
      · have := h2 y hy; omega
theorem minL_mem : ∀ {l : List Int}, l ≠ [] → minL l ∈ l ∧ ∀ y ∈ l, minL l ≤ y
  | [], h => absurd rfl h
  | [a], _ => ⟨List.mem_singleton.mpr rfl, fun y hy => by rw [List.mem_singleton] at hy; subst hy; exact Int.le_refl _⟩
  | a :: b :: l, _ => by
    obtain ⟨h1, h2⟩ := minL_mem (l := b :: l) (by simp)
    show (if minL (b :: l) < a then minL (b :: l) else a) ∈ _ ∧ ∀ y ∈ _, (if minL (b :: l) < a then minL (b :: l) else a) ≤ y
    split
    · refine ⟨List.mem_cons_of_mem _ h1, fun y hy => ?_⟩
      rcases List.mem_cons.mp hy with rfl | hy
      · omega
      · exact h2 y hy
    · refine ⟨List.mem_cons_self .., fun y hy => ?_⟩
      rcases List.mem_cons.mp hy with rfl | hy
      · exact Int.le_refl _
      · have := h2 y hy; omega
def nMax (h : List O) (ws : List W) : Option W := match ws with
  | [.int i, .int j] => some (.int (if j > i then j else i))
  | [w] => match seqL h w with
    | some xs => match intsW xs with
      | some (n :: ns) => some (.int (maxL (n :: ns)))
      | _ => none
    | none => none
  | _ => none
def nMin (h : List O) (ws : List W) : Option W := match ws with
  | [.int i, .int j] => some (.int (if j < i then j else i))
  | [w] => match seqL h w with
    | some xs => match intsW xs with
      | some (n :: ns) => some (.int (minL (n :: ns)))
      | _ => none
    | none => none
  | _ => none
theorem cn_max (hc : X.calm = true) : CallR X (.builtin "max") (rcN X.K X.mg (pureF nMax)) := by
  intro pins s σ H xs us Q I r hq
  obtain ⟨ι, h, ws, w, ft, rw', e, k⟩ := rcN_pure hq
  match ws, rw', e with
  | [], _, e => cases e
  | [w1], .cons r1 .nil, e =>
    have e : (match seqL h w1 with
      | some xs => match intsW xs with
        | some (n :: ns) => some (W.int (maxL (n :: ns)))
        | _ => none
      | none => none) = some w := by cases w1 <;> exact e
    cases e1 : seqL h w1 with
    | none => rw [e1] at e; cases e
    | some xs =>
      rw [e1] at e
      simp only at e
      cases e2 : intsW xs with
      | none => rw [e2] at e; cases e
      | some ns =>
        rw [e2] at e
        cases ns with
        | nil => cases e
        | cons n ns =>
          cases e
          obtain ⟨a, vs, rfl, hs, rv⟩ := seqL_at ft r1 e1
          obtain rfl := intsW_at rv e2
          refine cr_max hc pins s σ H _ us Q I r ⟨a, n :: ns, rfl, hs, by simp, fun m hm hmax => ?_⟩
          obtain ⟨h1, h2⟩ := maxL_mem (l := n :: ns) (by simp)
          have : m = maxL (n :: ns) := Int.le_antisymm (h2 m hm) (hmax _ h1)
          rw [this]
          exact k ι _ H .refl ft (.int _)
  | [w1, w2], .cons r1 (.cons r2 .nil), e =>
    cases w1 <;> cases w2 <;> first
      | (cases r1; cases r2; cases e; exact call_max2 hc pins s σ H _ us Q I r ⟨_, _, rfl, k ι _ H .refl ft (.int _)⟩)
      | cases e
  | w1 :: w2 :: w3 :: ws, _, e => cases w1 <;> cases w2 <;> cases e
theorem cn_min (hc : X.calm = true) : CallR X (.builtin "min") (rcN X.K X.mg (pureF nMin)) := by
  intro pins s σ H xs us Q I r hq
  obtain ⟨ι, h, ws, w, ft, rw', e, k⟩ := rcN_pure hq
  match ws, rw', e with
  | [], _, e => cases e
  | [w1], .cons r1 .nil, e =>
    have e : (match seqL h w1 with
      | some xs => match intsW xs with
        | some (n :: ns) => some (W.int (minL (n :: ns)))
        | _ => none
      | none => none) = some w := by cases w1 <;> exact e
    cases e1 : seqL h w1 with
    | none => rw [e1] at e; cases e
    | some xs =>
      rw [e1] at e
      simp only at e
      cases e2 : intsW xs with
      | none => rw [e2] at e; cases e
      | some ns =>
        rw [e2] at e
        cases ns with
        | nil => cases e
        | cons n ns =>
          cases e
          obtain ⟨a, vs, rfl, hs, rv⟩ := seqL_at ft r1 e1
          obtain rfl := intsW_at rv e2
          refine cr_min hc pins s σ H _ us Q I r ⟨a, n :: ns, rfl, hs, by simp, fun m hm hmax => ?_⟩
          obtain ⟨h1, h2⟩ := minL_mem (l := n :: ns) (by simp)
          have : m = minL (n :: ns) := Int.le_antisymm (hmax _ h1) (h2 m hm)
          rw [this]
          exact k ι _ H .refl ft (.int _)
  | [w1, w2], .cons r1 (.cons r2 .nil), e =>
    cases w1 <;> cases w2 <;> first
      | (cases r1; cases r2; cases e; exact call_min2 hc pins s σ H _ us Q I r ⟨_, _, rfl, k ι _ H .refl ft (.int _)⟩)
      | cases e
  | w1 :: w2 :: w3 :: ws, _, e => cases w1 <;> cases w2 <;> cases e
def nSum (h : List O) (ws : List W) : Option W := match ws with
  | [w] => ((seqL h w).bind intsW).map fun ns => .int ns.sum
  | _ => none
theorem cn_sum (hc : X.calm = true) : CallR X (.builtin "sum") (rcN X.K X.mg (pureF nSum)) := by
  intro pins s σ H xs us Q I r hq
  obtain ⟨ι, h, ws, w, ft, rw', e, k⟩ := rcN_pure hq
  match ws, rw', e with
  | [], _, e => cases e
  | [w1], .cons r1 .nil, e =>
    have e : ((seqL h w1).bind intsW).map (fun ns => W.int ns.sum) = some w := e
    cases e1 : seqL h w1 with
    | none => rw [e1] at e; cases e
    | some xs =>
      rw [e1] at e
      simp only [Option.bind_some] at e
      cases e2 : intsW xs with
      | none => rw [e2] at e; cases e
      | some ns =>
        rw [e2] at e
        cases e
        obtain ⟨a, vs, rfl, hs, rv⟩ := seqL_at ft r1 e1
        obtain rfl := intsW_at rv e2
        exact cr_sum hc pins s σ H _ us Q I r ⟨a, ns, rfl, hs, k ι _ H .refl ft (.int _)⟩
  | w1 :: w2 :: ws, _, e => cases e
/-- int(x): an int, a truth value, a text of a number -/
def nInt (h : List O) (ws : List W) : Option W := match ws with
  | [.int i] => some (.int i)
  | [.bl b] => some (.int (if b then 1 else 0))
  | [.str a] => if a.length ≤ 640 then (PySem.intText? a).map .int else none
  | _ => none
theorem cn_int : CallR X (.type "int") (rcN X.K X.mg (pureF nInt)) := by
  intro pins s σ H xs us Q I r hq
  obtain ⟨ι, h, ws, w, ft, rw', e, k⟩ := rcN_pure hq
  match ws, rw', e with
  | [.int i], .cons (.int _) .nil, e => cases e; exact call_int1 pins s σ H _ us Q I r (.inl ⟨i, rfl, k ι _ H .refl ft (.int _)⟩)
  | [.bl i], .cons (.bl _) .nil, e => cases e; exact call_int1 pins s σ H _ us Q I r (.inr ⟨i, rfl, k ι _ H .refl ft (.int _)⟩)
  | [.str a], .cons (.str _) .nil, e =>
    have e : (if a.length ≤ 640 then (PySem.intText? a).map W.int else none) = some w := e
    split at e
    · cases e1 : PySem.intText? a with
      | none => rw [e1] at e; cases e
      | some n => rw [e1] at e; cases e; exact call_int_str pins s σ H _ us Q I r ⟨a, n, rfl, e1, by assumption, k ι _ H .refl ft (.int _)⟩
    · cases e
def nStr (h : List O) (ws : List W) : Option W := match ws with
  | [.int i] => if i.natAbs.log2 < 1920 then some (.str (toString i)) else none
  | [.str a] => some (.str a)
  | _ => none
theorem cn_str : CallR X (.type "str") (rcN X.K X.mg (pureF nStr)) := by
  intro pins s σ H xs us Q I r hq
  obtain ⟨ι, h, ws, w, ft, rw', e, k⟩ := rcN_pure hq
  match ws, rw', e with
  | [.int i], .cons (.int _) .nil, e =>
    have e : (if i.natAbs.log2 < 1920 then some (W.str (toString i)) else none) = some w := e
    split at e
    · cases e; exact call_str_int pins s σ H _ us Q I r ⟨i, rfl, by assumption, k ι _ H .refl ft (.str _)⟩
    · cases e
  | [.str a], .cons (.str _) .nil, e => cases e; exact SkE.call_str_str pins s σ H _ us Q I r ⟨a, rfl, k ι _ H .refl ft (.str _)⟩
def nRepr (h : List O) (ws : List W) : Option W := match ws with
  | [.int i] => if i.natAbs.log2 < 1920 then some (.str (toString i)) else none
  | [.bl b] => some (.str (if b then "True" else "False"))
  | _ => none
theorem cn_repr : CallR X (.builtin "repr") (rcN X.K X.mg (pureF nRepr)) := by
  intro pins s σ H xs us Q I r hq
  obtain ⟨ι, h, ws, w, ft, rw', e, k⟩ := rcN_pure hq
  match ws, rw', e with
  | [.int i], .cons (.int _) .nil, e =>
    have e : (if i.natAbs.log2 < 1920 then some (W.str (toString i)) else none) = some w := e
    split at e
    · cases e; exact SkE.call_repr_int pins s σ H _ us Q I r ⟨i, rfl, by assumption, k ι _ H .refl ft (.str _)⟩
    · cases e
  | [.bl b], .cons (.bl _) .nil, e =>
    cases e
    obtain ⟨u, rfl, rx⟩ := vals1 r
    cases rx
    exact PySem.P.repr_of_bool ⟨.str _, H, I.tok _, ⟨_, rfl⟩, k ι _ H .refl ft (.str _)⟩
/-- truth values of a list -/
def blsW : List W → Option (List Bool)
  | [] => some []
  | .bl i :: ws => (blsW ws).map (i :: ·)
  | _ => none
theorem blsW_at {K : PySem.W.Frag} {mg : Str → Option Value} {ι : Ix} {H : Hp} : ∀ {ws : List W} {vs : List V} {ns : List Bool}, RWs K mg ι H ws vs → blsW ws = some ns → vs = ns.map V.bl
  | [], _, _, r, e => by cases r; cases e; rfl
  | w :: ws, _, ns, r, e => by
    cases w with
    | bl i =>
      cases r with
      | cons r1 r2 =>
        cases r1
        cases e1 : blsW ws with
        | none => simp [blsW, e1] at e
        | some ms => simp only [blsW, e1, Option.map_some, Option.some.injEq] at e; subst e; rw [List.map_cons, blsW_at r2 e1]
    | _ => simp [blsW] at e
def nAll (h : List O) (ws : List W) : Option W := match ws with
  | [w] => ((seqL h w).bind blsW).map fun bs => .bl (bs.all id)
  | _ => none
def nAny (h : List O) (ws : List W) : Option W := match ws with
  | [w] => ((seqL h w).bind blsW).map fun bs => .bl (bs.any id)
  | _ => none
theorem cn_all (hc : X.calm = true) : CallR X (.builtin "all") (rcN X.K X.mg (pureF nAll)) := by
  intro pins s σ H xs us Q I r hq
  obtain ⟨ι, h, ws, w, ft, rw', e, k⟩ := rcN_pure hq
  match ws, rw', e with
  | [], _, e => cases e
  | [w1], .cons r1 .nil, e =>
    have e : ((seqL h w1).bind blsW).map (fun bs => W.bl (bs.all id)) = some w := e
    cases e1 : seqL h w1 with
    | none => rw [e1] at e; cases e
    | some xs =>
      rw [e1] at e
      simp only [Option.bind_some] at e
      cases e2 : blsW xs with
      | none => rw [e2] at e; cases e
      | some bs =>
        rw [e2] at e
        cases e
        obtain ⟨a, vs, rfl, hs, rv⟩ := seqL_at ft r1 e1
        obtain rfl := blsW_at rv e2
        exact cr_all hc pins s σ H _ us Q I r ⟨a, bs, rfl, hs, k ι _ H .refl ft (.bl _)⟩
  | w1 :: w2 :: ws, _, e => cases e
theorem cn_any (hc : X.calm = true) : CallR X (.builtin "any") (rcN X.K X.mg (pureF nAny)) := by
  intro pins s σ H xs us Q I r hq
  obtain ⟨ι, h, ws, w, ft, rw', e, k⟩ := rcN_pure hq
  match ws, rw', e with
  | [], _, e => cases e
  | [w1], .cons r1 .nil, e =>
    have e : ((seqL h w1).bind blsW).map (fun bs => W.bl (bs.any id)) = some w := e
    cases e1 : seqL h w1 with
    | none => rw [e1] at e; cases e
    | some xs =>
      rw [e1] at e
      simp only [Option.bind_some] at e
      cases e2 : blsW xs with
      | none => rw [e2] at e; cases e
      | some bs =>
        rw [e2] at e
        cases e
        obtain ⟨a, vs, rfl, hs, rv⟩ := seqL_at ft r1 e1
        obtain rfl := blsW_at rv e2
        exact cr_any hc pins s σ H _ us Q I r ⟨a, bs, rfl, hs, k ι _ H .refl ft (.bl _)⟩
  | w1 :: w2 :: ws, _, e => cases e
/-! ### list, tuple -/
def nList (h : List O) (ws : List W) : Option W := match ws with
  | [.str z] => if z.length ≤ 1000 then some (.lst (z.cps.toList.map fun c => .str ⟨#[c]⟩)) else none
  | [w] => (seqU h w).map .lst
  | _ => none
def nTuple (h : List O) (ws : List W) : Option W := match ws with
  | [.tup xs] => some (.tup xs)
  | [.tro xs] => some (.tro xs)
  | [w] => (seqL h w).map .tup
  | _ => none
theorem cn_tuple : CallR X (.type "tuple") (rcN X.K X.mg (pureF nTuple)) := by
  intro pins s σ H xs us Q I r hq
  obtain ⟨ι, h, ws, w, ft, rw', e, k⟩ := rcN_pure hq
  match ws, rw', e with
  | [], _, e => cases e
  | w1 :: w2 :: ws, _, e => cases w1 <;> cases e
  | [w1], .cons (v := v1) r1 .nil, e =>
    have seqs : (seqL h w1).map W.tup = some w → wpAny (model X.prog X.w) X.A (call (.type "tuple") us) (EP X pins σ Q) X.xe s := by
      intro e0
      cases e1 : seqL h w1 with
      | none => rw [e1] at e0; cases e0
      | some xs =>
        rw [e1] at e0; cases e0
        obtain ⟨a, vs, rfl, hs, rv⟩ := seqL_at ft r1 e1
        refine call_tuple_of pins s σ H _ us Q I r ⟨a, vs, rfl, .inl ⟨hs, fun p hp => ?_⟩⟩
        obtain ⟨g, f, r⟩ := new_tup ft rv hp
        exact k ι _ _ g f r
    cases w1 with
    | tup xs =>
      cases e
      cases r1 with
      | @tup _ a vs h0 h1 h2 => exact call_tuple_of pins s σ H _ us Q I r ⟨a, vs, rfl, .inr ⟨SqT.of h1, k ι _ H .refl ft (.tup h0 h1 h2)⟩⟩
    | tro xs =>
      cases e
      cases r1 with
      | @tro _ a vs h1 h2 => exact call_tuple_of pins s σ H _ us Q I r ⟨a, vs, rfl, .inr ⟨NoH.sqT h1, k ι _ H .refl ft (.tro h1 h2)⟩⟩
    | _ => exact seqs e
theorem cn_list (hc : X.A.handled = none) : CallR X (.type "list") (rcN X.K X.mg (pureF nList)) := by
  intro pins s σ H xs us Q I r hq
  obtain ⟨ι, h, ws, w, ft, rw', e, k⟩ := rcN_pure hq
  match ws, rw', e with
  | [], _, e => cases e
  | w1 :: w2 :: ws, _, e => cases w1 <;> cases e
  | [w1], .cons (v := v1) r1 .nil, e =>
    have seqs : (seqU h w1).map W.lst = some w → wpAny (model X.prog X.w) X.A (call (.type "list") us) (EP X pins σ Q) X.xe s := by
      intro e0
      cases e1 : seqU h w1 with
      | none => rw [e1] at e0; cases e0
      | some xs =>
        rw [e1] at e0; cases e0
        obtain ⟨a, vs, rfl, hs, rv⟩ := seqU_at ft r1 e1
        refine call_list_of pins s σ H _ us Q I r ⟨a, vs, rfl, hs, fun p hp => ?_⟩
        obtain ⟨g, f, r⟩ := new_lst ft rv hp
        exact k ι _ _ g f r
    cases w1 with
    | str z =>
      cases r1
      have e : (if z.length ≤ 1000 then some (W.lst (z.cps.toList.map fun c => .str ⟨#[c]⟩)) else none) = some w := e
      split at e
      · rename_i hz
        cases e
        obtain ⟨u, rfl, rx⟩ := vals1 r
        obtain ⟨t, rfl⟩ := rx
        have hz2 : z.cps.size ≤ sizeLine := Nat.le_trans hz (by decide)
        refine PySem.call_list_str hc z t (fun h' tk acc' c' hh hs hi => ?_) hz2
        have hfr := I.hok.fresh (Nat.le_refl s.heap.objs.size)
        have rws : ∀ l : List Nat, RWs X.K X.mg ι H (l.map fun c => W.str ⟨#[c]⟩) (l.map fun c => V.str ⟨#[c]⟩) := by
          intro l
          induction l with
          | nil => exact .nil
          | cons c l ih => exact .cons (.str _) ih
        obtain ⟨g, f, r⟩ := new_lst ft (rws z.cps.toList) hfr
        refine ⟨.ref _, _, I.laid (t' := tk) (o := .lst (z.cps.toList.map fun c => .str (Str.mk #[c]))) hh (Nat.le_refl _) ?_, rfl, k ι _ _ g f r⟩
        have paired_of : ∀ {α β : Type} {F : α → β → Prop} {ps : List α} {kvs : List β}, ps.length = kvs.length → (∀ (i : Nat) p kv, ps[i]? = some p → kvs[i]? = some kv → F p kv) → Paired F ps kvs := by
          intro α β F ps
          induction ps with
          | nil => intro kvs hl _; cases kvs with
            | nil => exact .nil
            | cons _ _ => cases hl
          | cons p ps ih => intro kvs hl hh; cases kvs with
            | nil => cases hl
            | cons q kvs => exact .cons (hh 0 p q rfl rfl) (ih (Nat.succ.inj hl) fun i a b h1 h2 => hh (i + 1) a b h1 h2)
        have hv : Vals (z.cps.toList.map fun c => V.str (Str.mk #[c])) acc'.toList := by
          refine paired_of (by rw [List.length_map, Array.length_toList, Array.length_toList, hi.1]) fun i x u h1 h2 => ?_
          rw [List.getElem?_map] at h1
          obtain ⟨c, hc1, rfl⟩ := Option.map_eq_some_iff.mp h1
          obtain ⟨c2, t2, e1, rfl⟩ := hi.2 i u (by simpa using h2)
          have e2 : z.cps[i]? = some c := by simpa using hc1
          rw [e2] at e1
          cases e1
          exact ⟨t2, rfl⟩
        exact ⟨by rw [List.length_map, Array.length_toList]; exact hz2, acc'.toList, c', hv, by rw [Array.toArray_toList]; exact hs⟩
      · cases e
    | _ => exact seqs e
/-! ### isinstance -/
def tyW (h : List O) : W → Option String
  | .non => some "NoneType"
  | .bl _ => some "bool"
  | .int _ => some "int"
  | .str _ => some "str"
  | .tup _ => some "tuple"
  | .tro _ => some "tuple"
  | .lst _ => some "list"
  | .dct false _ => some "dict"
  | .ref n => match h[n]? with
    | some (.lst _) => some "list"
    | some (.dct false _ _) => some "dict"
    | _ => none
  | _ => none
def nIsi (h : List O) (ws : List W) : Option W := match ws with
  | [w, .ty T] => ((tyW h w).bind fun n => kitB n T).map .bl
  | _ => none
theorem tyW_at {K : PySem.W.Frag} {mg : Str → Option Value} {ι : Ix} {H : Hp} {h : List O} {w : W} {v : V} {n : String} (f : Fit K mg ι H h) (r : RW K mg ι H w v) (e : tyW h w = some n) : TyX K H v (.type n) := by
  cases r with
  | non => cases e; exact .base .non
  | bl b => cases e; exact .base (.bl b)
  | int b => cases e; exact .base (.int b)
  | str b => cases e; exact .base (.str b)
  | tup h0 h1 h2 => cases e; exact .base (.tup h1)
  | tro h1 h2 =>
    cases e
    rcases h1 with (h1 | ⟨_, h1⟩) | ⟨o, its, n, h1, h3, _⟩
    · cases h1
    · cases h1
    · exact .kTuple h1 h3
  | lst h0 h1 h2 => cases e; exact .base (.lst h1)
  | dctK h0 h1 h2 =>
    cases e
    rcases h1 with h1 | ⟨ob, h1⟩
    · exact .base (.dK h1)
    · exact .fDict h1
  | @ref m a h1 =>
    cases eo : h[m]? with
    | none => simp [tyW, eo] at e
    | some o =>
      cases o with
      | lst xs =>
        simp only [tyW, eo, Option.some.injEq] at e
        subst e
        cases f.obj _ _ _ eo h1 with
        | lst a1 a2 => exact .base (.lst a1)
      | dct lk t kvs =>
        cases lk with
        | true => simp [tyW, eo] at e
        | false =>
          simp only [tyW, eo, Option.some.injEq] at e
          subst e
          cases f.obj _ _ _ eo h1 with
          | dctK a1 a2 => exact .base (.dK a1)
          | dctT a1 a2 => exact .base (.dT a1)
      | _ => simp [tyW, eo] at e
  | _ => cases e
theorem cn_isi : CallR X (.builtin "isinstance") (rcN X.K X.mg (pureF nIsi)) := by
  intro pins s σ H xs us Q I r hq
  obtain ⟨ι, h, ws, w, ft, rw', e, k⟩ := rcN_pure hq
  match ws, rw', e with
  | [], _, e => cases e
  | [_], _, e => cases e
  | _ :: w2 :: _ :: _, _, e => cases w2 <;> cases e
  | [w1, w2], .cons (v := v1) r1 (.cons (v := v2) r2 .nil), e =>
    cases w2 with
    | ty T =>
      cases r2
      have e : ((tyW h w1).bind fun n => kitB n T).map W.bl = some w := e
      cases e1 : tyW h w1 with
      | none => rw [e1] at e; cases e
      | some n =>
        rw [e1] at e
        simp only [Option.bind_some] at e
        cases e2 : kitB n T with
        | none => rw [e2] at e; cases e
        | some b =>
          rw [e2] at e; cases e
          exact call_isi pins s σ H _ us Q I r ⟨v1, _, _, _, b, rfl, .ty T, tyW_at ft r1 e1, kit_ty e2, k ι _ H .refl ft (.bl _)⟩
    | _ => cases e
end
end N

set_option maxHeartbeats 1000000
namespace N
open PySem L2
/-! ### sameness of values -/
mutual
def beqW : W → W → Bool
  | .non, .non => true
  | .bl a, .bl b => decide (a = b)
  | .int a, .int b => decide (a = b)
  | .str a, .str b => decide (a = b)
  | .ty a, .ty b => decide (a = b)
  | .tup a, .tup b => beqWs a b
  | .tro a, .tro b => beqWs a b
  | .lst a, .lst b => beqWs a b
  | .lro a, .lro b => beqWs a b
  | .dct t a, .dct u b => decide (t = u) && beqWk a b
  | .ref a, .ref b => decide (a = b)
  | .fn a, .fn b => decide (a = b)
  | .exo a x, .exo b y => decide (a = b) && beqWs x y
  | _, _ => false
def beqWs : List W → List W → Bool
  | [], [] => true
  | a :: as, b :: bs => beqW a b && beqWs as bs
  | _, _ => false
def beqWk : List (W × W) → List (W × W) → Bool
  | [], [] => true
  | (a, x) :: as, (b, y) :: bs => (beqW a b && beqW x y) && beqWk as bs
  | _, _ => false
end
mutual
theorem beqW_eq : ∀ (a b : W), beqW a b = true → a = b
  | .non, b, h => by cases b <;> first | rfl | simp [beqW] at h
  | .bl a, b, h => by cases b <;> simp_all [beqW]
  | .int a, b, h => by cases b <;> simp_all [beqW]
  | .str a, b, h => by cases b <;> simp_all [beqW]
  | .ty a, b, h => by cases b <;> simp_all [beqW]
  | .ref a, b, h => by cases b <;> simp_all [beqW]
  | .fn a, b, h => by cases b <;> simp_all [beqW]
  | .tup a, b, h => by
    cases b with
    | tup b => rw [beqWs_eq a b (by simpa [beqW] using h)]
    | _ => simp [beqW] at h
  | .tro a, b, h => by
    cases b with
    | tro b => rw [beqWs_eq a b (by simpa [beqW] using h)]
    | _ => simp [beqW] at h
  | .lst a, b, h => by
    cases b with
    | lst b => rw [beqWs_eq a b (by simpa [beqW] using h)]
    | _ => simp [beqW] at h
  | .lro a, b, h => by
    cases b with
    | lro b => rw [beqWs_eq a b (by simpa [beqW] using h)]
    | _ => simp [beqW] at h
  | .dct t a, b, h => by
    cases b with
    | dct u b =>
      have h' : t = u ∧ beqWk a b = true := by simpa [beqW] using h
      rw [beqWk_eq a b h'.2, h'.1]
    | _ => simp [beqW] at h
  | .exo t a, b, h => by
    cases b with
    | exo u b =>
      have h' : t = u ∧ beqWs a b = true := by simpa [beqW] using h
      rw [beqWs_eq a b h'.2, h'.1]
    | _ => simp [beqW] at h
theorem beqWs_eq : ∀ (a b : List W), beqWs a b = true → a = b
  | [], b, h => by cases b <;> first | rfl | simp [beqWs] at h
  | a :: as, b, h => by
    cases b with
    | nil => simp [beqWs] at h
    | cons b bs =>
      have h' : beqW a b = true ∧ beqWs as bs = true := by simpa [beqWs] using h
      rw [beqW_eq a b h'.1, beqWs_eq as bs h'.2]
theorem beqWk_eq : ∀ (a b : List (W × W)), beqWk a b = true → a = b
  | [], b, h => by cases b <;> first | rfl | simp [beqWk] at h
  | (a, x) :: as, b, h => by
    cases b with
    | nil => simp [beqWk] at h
    | cons b bs =>
      obtain ⟨b, y⟩ := b
      have h' : (beqW a b = true ∧ beqW x y = true) ∧ beqWk as bs = true := by simpa [beqWk] using h
      rw [beqW_eq a b h'.1.1, beqW_eq x y h'.1.2, beqWk_eq as bs h'.2]
end
mutual
theorem beqW_refl : ∀ a : W, beqW a a = true
  | .non => rfl
  | .bl a => by simp [beqW]
  | .int a => by simp [beqW]
  | .str a => by simp [beqW]
  | .ty a => by simp [beqW]
  | .ref a => by simp [beqW]
  | .fn a => by simp [beqW]
  | .tup a => by simp [beqW, beqWs_refl a]
  | .tro a => by simp [beqW, beqWs_refl a]
  | .lst a => by simp [beqW, beqWs_refl a]
  | .lro a => by simp [beqW, beqWs_refl a]
  | .dct t a => by simp [beqW, beqWk_refl a]
  | .exo t a => by simp [beqW, beqWs_refl a]
theorem beqWs_refl : ∀ a : List W, beqWs a a = true
  | [] => rfl
  | a :: as => by simp [beqWs, beqW_refl a, beqWs_refl as]
theorem beqWk_refl : ∀ a : List (W × W), beqWk a a = true
  | [] => rfl
  | (a, x) :: as => by simp [beqWk, beqW_refl a, beqW_refl x, beqWk_refl as]
end
/-! ### what a for walks -/
/-- the list n holds ws -/
def chkL (n : Nat) (ws : List W) (h : List O) : Bool := match h[n]? with
  | some (.lst xs) => beqWs xs ws
  | _ => false
@[simp] theorem chkL_some {n : Nat} {ws : List W} {h : List O} (e : h[n]? = some (.lst ws)) : chkL n ws h = true := by
  unfold chkL; rw [e]; exact beqWs_refl ws
def signsW (z : Str) : List W := z.cps.toList.map fun c => .str ⟨#[c]⟩
def itW (h : List O) : W → Option (List W × (List O → Bool))
  | .str z => some (signsW z, fun _ => true)
  | .tup ws => some (ws, fun _ => true)
  | .tro ws => some (ws, fun _ => true)
  | .lst ws => some (ws, fun _ => true)
  | .lro ws => some (ws, fun _ => true)
  | .ref n => match h[n]? with
    | some (.lst ws) => some (ws, chkL n ws)
    | _ => none
  | _ => none
def mIt (m : ME) : MI := fun σ h => (m σ h).bind fun w h1 => ofO h1 (itW h1 w)
section
variable {K : PySem.W.Frag} {mg : Str → Option Value} {ι : Ix} {H : Hp} {h : List O}
theorem itN_lst {a : Addr} {vs : List V} {ws : List W} {chk : List O → Bool} (hq : ∀ ι2 H2 h2, Gro0 ι ι2 H H2 → Fit K mg ι2 H2 h2 → chk h2 = true → ∃ vs, SqL K H2 a vs ∧ RWs K mg ι2 H2 ws vs) : ItN K mg ι H (ws, chk) (Itl K a) := by
  refine ⟨ws.length, fun H2 => ∃ vs, SqL K H2 a vs ∧ vs.length = ws.length, fun i H2 x H3 => H3 = H2 ∧ ∀ vs, SqL K H2 a vs → vs[i]? = some x, ⟨fun i H2 hi ⟨vs, h1, h2⟩ => ⟨vs, vs[i]'(by omega), h1, by simp [h2, hi]⟩, fun H2 ⟨vs, h1, h2⟩ => ⟨vs, h1, by omega⟩, fun i H2 x H3 hi _ y => y⟩, rfl, fun ι2 H2 h2 g f c => ?_, fun i ι2 H2 h2 x H3 hi g f c y => ?_⟩
  · obtain ⟨vs, h1, h2⟩ := hq ι2 H2 h2 g f c
    exact ⟨vs, h1, h2.len⟩
  · obtain ⟨vs, h1, r⟩ := hq ι2 H2 h2 g f c
    obtain ⟨rfl, hx⟩ := y
    obtain ⟨w, e, rw'⟩ := r.get (hx vs h1)
    exact ⟨w, e, rw', .refl, f⟩
theorem itN_tup {a : Addr} {vs : List V} {ws : List W} {chk : List O → Bool} (hq : ∀ ι2 H2 h2, Gro0 ι ι2 H H2 → Fit K mg ι2 H2 h2 → ∃ vs, SqT K H2 a vs ∧ RWs K mg ι2 H2 ws vs) : ItN K mg ι H (ws, chk) (Itt K a) := by
  refine ⟨ws.length, fun H2 => ∃ vs, SqT K H2 a vs ∧ vs.length = ws.length, fun i H2 x H3 => H3 = H2 ∧ ∀ vs, SqT K H2 a vs → vs[i]? = some x, ⟨fun i H2 hi ⟨vs, h1, h2⟩ => ⟨vs, vs[i]'(by omega), h1, by simp [h2, hi]⟩, fun H2 ⟨vs, h1, h2⟩ => ⟨vs, h1, by omega⟩, fun i H2 x H3 hi _ y => y⟩, rfl, fun ι2 H2 h2 g f c => ?_, fun i ι2 H2 h2 x H3 hi g f c y => ?_⟩
  · obtain ⟨vs, h1, h2⟩ := hq ι2 H2 h2 g f
    exact ⟨vs, h1, h2.len⟩
  · obtain ⟨vs, h1, r⟩ := hq ι2 H2 h2 g f
    obtain ⟨rfl, hx⟩ := y
    obtain ⟨w, e, rw'⟩ := r.get (hx vs h1)
    exact ⟨w, e, rw', .refl, f⟩
theorem itN_str {z : Str} : ItN K mg ι H (signsW z, fun _ => true) (Its z) := by
  refine ⟨z.cps.size, _, _, walk_str, by simp [signsW], fun _ _ _ _ _ _ => trivial, fun i ι2 H2 h2 x H3 hi g f c y => ?_⟩
  obtain ⟨rfl, c, hc, rfl⟩ := y
  refine ⟨.str ⟨#[c]⟩, ?_, .str _, .refl, f⟩
  have : z.cps.toList[i]? = some c := by simpa using hc
  simp [signsW, this]
end
section
variable {X : Cx} {E : WX} {tg : Expr}
/-- the iterator of a value -/
theorem ni_any {e : Expr} {m : ME} (he : NE X E e m) : NI X E tg e (mIt m) := by
  refine ⟨fun pins s σ H R I hq => ?_⟩
  have key : tN X.K X.mg (zX X) E m σ H fun x H1 => (∃ a, x = .ref a ∧ (∃ xs, SqL X.K H1 a xs) ∧ R (Itl X.K a) H1) ∨ (∃ a, x = .ref a ∧ (∃ xs, SqT X.K H1 a xs) ∧ R (Itt X.K a) H1) ∨ ∃ z, x = .str z ∧ R (Its z) H1 := by
    obtain ⟨ι, σn, h, ft, sl, q⟩ := hq
    refine ⟨ι, σn, h, ft, sl, Aft.bind q fun ι1 w h1 v H1 g1 f1 r1 q1 => ?_⟩
    cases w with
    | str z => cases r1; exact .inr (.inr ⟨z, rfl, q1 ι1 _ H1 .refl f1 itN_str⟩)
    | tup ws =>
      cases r1 with
      | @tup _ a vs h0 h2 h3 => exact .inr (.inl ⟨a, rfl, ⟨vs, SqT.of h2⟩, q1 ι1 _ H1 .refl f1 (itN_tup (vs := vs) fun ι2 H2 _ g f => ⟨vs, SqT.of (g.tup h0 h2).2, RWs.mono g _ _ h3⟩)⟩)
    | tro ws =>
      cases r1 with
      | @tro _ a vs h2 h3 => exact .inr (.inl ⟨a, rfl, ⟨vs, NoH.sqT h2⟩, q1 ι1 _ H1 .refl f1 (itN_tup (vs := vs) fun ι2 H2 _ g f => ⟨vs, NoH.sqT h2, RWs.mono g _ _ h3⟩)⟩)
    | lst ws =>
      cases r1 with
      | @lst _ a vs h0 h2 h3 => exact .inl ⟨a, rfl, ⟨vs, SqL.of h2⟩, q1 ι1 _ H1 .refl f1 (itN_lst (vs := vs) fun ι2 H2 _ g f _ => ⟨vs, SqL.of (g.lst h0 h2).2, RWs.mono g _ _ h3⟩)⟩
    | lro ws =>
      cases r1 with
      | @lro _ a vs h2 h3 => exact .inl ⟨a, rfl, ⟨vs, h2.sq⟩, q1 ι1 _ H1 .refl f1 (itN_lst (vs := vs) fun ι2 H2 _ g f _ => ⟨vs, (g.fxL h2).sq, RWs.mono g _ _ h3⟩)⟩
    | ref n =>
      cases r1 with
      | @ref _ a hn =>
        cases eo : h1[n]? with
        | none => simp only [itW, eo] at q1; exact q1.elim
        | some o =>
          cases o with
          | lst ws =>
            simp only [itW, eo, ofO_some] at q1
            cases f1.obj _ _ _ eo hn with
            | @lst _ _ vs a1 a2 =>
              refine .inl ⟨a, rfl, ⟨vs, SqL.of a1⟩, q1 ι1 _ H1 .refl f1 (itN_lst (vs := vs) fun ι2 H2 h2 g f c => ?_)⟩
              unfold chkL at c
              cases e2 : h2[n]? with
              | none => rw [e2] at c; cases c
              | some o2 =>
                rw [e2] at c
                cases o2 with
                | lst xs =>
                  have := beqWs_eq _ _ c
                  subst this
                  cases f.obj _ _ _ e2 (g.at hn) with
                  | @lst _ _ vs2 b1 b2 => exact ⟨vs2, SqL.of b1, b2⟩
                | _ => cases c
          | _ => simp only [itW, eo] at q1; exact q1.elim
    | _ => exact q1.elim
  refine thn (he.run pins s σ H _ I key) fun v s1 ⟨x, H1, I1, r1, q1⟩ => ?_
  rcases q1 with ⟨a, rfl, hx, q1⟩ | ⟨a, rfl, hx, q1⟩ | ⟨z, rfl, q1⟩
  · cases r1
    obtain ⟨xs, hx⟩ := hx
    obtain ⟨its, rv, p, hz⟩ := I1.list hx
    exact wpAny_pyIter_list p.isList (pi_one (tk := s1.toks) I1 _ (turn_list a _) ⟨_, Heap.get?_push_size _ rfl, rfl, rfl⟩ q1)
  · cases r1
    obtain ⟨xs, hx⟩ := hx
    obtain ⟨its, rv, p, hz⟩ := I1.tuple hx
    exact wpAny_pyIter_tuple (show s1.heap.IsTuple a its.toArray from p) (pi_one (tk := s1.toks) I1 _ (turn_tuple a _) ⟨_, Heap.get?_push_size _ rfl, rfl, rfl⟩ q1)
  · obtain ⟨t, rfl⟩ := r1
    cases ha : z.cps.all (· < 128)
    · exact wpAny_pyIter_wide ha (pi_one (tk := s1.toks) I1 _ (turn_str _ z t "str_iterator" (.inr rfl)) ⟨_, Heap.get?_push_size _ rfl, rfl, rfl⟩ q1)
    · exact wpAny_pyIter_ascii ha (pi_one (tk := s1.toks) I1 _ (turn_str _ z t "str_ascii_iterator" (.inl rfl)) ⟨_, Heap.get?_push_size _ rfl, rfl, rfl⟩ q1)
/-! range -/
def rngW (lo : Int) (n : Nat) : List W := (List.range n).map fun (i : Nat) => .int (lo + (i : Int))
def rng1 : List W → Option (List W × (List O → Bool))
  | [.int j] => if -(2 ^ 62) ≤ j ∧ j < 2 ^ 62 then some (rngW 0 j.toNat, fun _ => true) else none
  | _ => none
def rng2 : List W → Option (List W × (List O → Bool))
  | [.int i, .int j] => if -(2 ^ 62) ≤ i ∧ i < 2 ^ 62 ∧ -(2 ^ 62) ≤ j ∧ j < 2 ^ 62 then some (rngW i (j - i).toNat, fun _ => true) else none
  | _ => none
def rngC (lo c : Int) (n : Nat) : List W := (List.range n).map fun (i : Nat) => .int (lo + (i : Int) * c)
/-- a step of -1 -/
def rng3 : List W → Option (List W × (List O → Bool))
  | [.int i, .int j, .int c] => if c = -1 ∧ -(2 ^ 29) < i ∧ i < 2 ^ 29 ∧ -(2 ^ 29) < j ∧ j < 2 ^ 29 then some (rngC i (-1) (i - j).toNat, fun _ => true) else none
  | _ => none
theorem rng1_some {ws : List W} {a : List W × (List O → Bool)} (e : rng1 ws = some a) : ∃ j, ws = [.int j] ∧ (-(2 ^ 62) ≤ j ∧ j < 2 ^ 62) ∧ a = (rngW 0 j.toNat, fun _ => true) := by
  unfold rng1 at e
  split at e
  · split at e
    · cases e; exact ⟨_, rfl, by assumption, rfl⟩
    · cases e
  · cases e
theorem rng2_some {ws : List W} {a : List W × (List O → Bool)} (e : rng2 ws = some a) : ∃ i j, ws = [.int i, .int j] ∧ (-(2 ^ 62) ≤ i ∧ i < 2 ^ 62 ∧ -(2 ^ 62) ≤ j ∧ j < 2 ^ 62) ∧ a = (rngW i (j - i).toNat, fun _ => true) := by
  unfold rng2 at e
  split at e
  · split at e
    · cases e; exact ⟨_, _, rfl, by assumption, rfl⟩
    · cases e
  · cases e
theorem rng3_some {ws : List W} {a : List W × (List O → Bool)} (e : rng3 ws = some a) : ∃ i j, ws = [.int i, .int j, .int (-1)] ∧ (-(2 ^ 29) < i ∧ i < 2 ^ 29 ∧ -(2 ^ 29) < j ∧ j < 2 ^ 29) ∧ a = (rngC i (-1) (i - j).toNat, fun _ => true) := by
  unfold rng3 at e
  split at e
  · split at e
    · rename_i h; obtain ⟨rfl, h⟩ := h; cases e; exact ⟨_, _, rfl, h, rfl⟩
    · cases e
  · cases e
def mRng (f : List W → Option (List W × (List O → Bool))) (ma : MA) : MI := fun σ h => (ma σ h).bind fun ws h1 => ofO h1 (f ws)
theorem itN_rng {K : PySem.W.Frag} {mg : Str → Option Value} {ι : Ix} {H : Hp} {lo : Int} {n : Nat} : ItN K mg ι H (rngW lo n, fun _ => true) (Itr lo n) := by
  refine ⟨n, _, _, walk_range, by simp [rngW], fun _ _ _ _ _ _ => trivial, fun i ι2 H2 h2 x H3 hi g f c y => ?_⟩
  obtain ⟨rfl, rfl⟩ := y
  exact ⟨.int (lo + (i : Int)), by simp [rngW, hi], .int _, .refl, f⟩
theorem ni_range1 {a : Expr} {ma : MA} {p pos : Pos} (hg : Gl X "range") (hm : X.mg "range" = none) (ha : NA X E [a] ma) (hs : starEach [a] X.env = [(false, eval a X.env)] := by rfl) : NI X E tg (.Call (.Name "range" p) [a] [] pos) (mRng rng1 ma) :=
  PI.imp (pi_range1 hg hm ha hs) fun σ H R ⟨ι, σn, h, ft, s, q⟩ => ⟨ι, σn, h, ft, s, Aft.bind q fun ι1 ws h1 vs H1 g1 f1 r1 q1 => by
    cases e : rng1 ws with
    | none => rw [e] at q1; exact q1.elim
    | some a =>
      rw [e] at q1
      obtain ⟨j, rfl, hj, rfl⟩ := rng1_some e
      cases r1 with
      | cons r1 r2 => cases r2; cases r1; exact ⟨j, rfl, hj.1, hj.2, q1 ι1 _ H1 .refl f1 itN_rng⟩⟩
theorem ni_range2 {a b : Expr} {ma : MA} {p pos : Pos} (hg : Gl X "range") (hm : X.mg "range" = none) (ha : NA X E [a, b] ma) (hs : starEach [a, b] X.env = [(false, eval a X.env), (false, eval b X.env)] := by rfl) (hs2 : starEach [b] X.env = [(false, eval b X.env)] := by rfl) :
    NI X E tg (.Call (.Name "range" p) [a, b] [] pos) (mRng rng2 ma) :=
  PI.imp (pi_range2 hg hm ha hs hs2) fun σ H R ⟨ι, σn, h, ft, s, q⟩ => ⟨ι, σn, h, ft, s, Aft.bind q fun ι1 ws h1 vs H1 g1 f1 r1 q1 => by
    cases e : rng2 ws with
    | none => rw [e] at q1; exact q1.elim
    | some a =>
      rw [e] at q1
      obtain ⟨i, j, rfl, hj, rfl⟩ := rng2_some e
      cases r1 with
      | cons r1 r2 =>
        cases r2 with
        | cons r2 r3 => cases r3; cases r1; cases r2; exact ⟨i, j, rfl, hj, q1 ι1 _ H1 .refl f1 itN_rng⟩⟩
theorem itN_rngC {K : PySem.W.Frag} {mg : Str → Option Value} {ι : Ix} {H : Hp} {lo c : Int} {n : Nat} : ItN K mg ι H (rngC lo c n, fun _ => true) (Itc lo c n) := by
  refine ⟨n, _, _, walk_rangeC, by simp [rngC], fun _ _ _ _ _ _ => trivial, fun i ι2 H2 h2 x H3 hi g f c' y => ?_⟩
  obtain ⟨rfl, rfl⟩ := y
  exact ⟨.int (lo + (i : Int) * c), by simp [rngC, hi], .int _, .refl, f⟩
theorem ni_range3 {a b c : Expr} {ma : MA} {p pos : Pos} (hg : Gl X "range") (hm : X.mg "range" = none) (ha : NA X E [a, b, c] ma)
    (hs : starEach [a, b, c] X.env = (false, eval a X.env) :: starEach [b, c] X.env := by rfl) (hpl : (backTo pos (starEach [b, c] X.env)).any (·.1) = false := by rfl) : NI X E tg (.Call (.Name "range" p) [a, b, c] [] pos) (mRng rng3 ma) :=
  PI.imp (pi_range3 hg hm ha hs hpl) fun σ H R ⟨ι, σn, h, ft, s, q⟩ => ⟨ι, σn, h, ft, s, Aft.bind q fun ι1 ws h1 vs H1 g1 f1 r1 q1 => by
    cases e : rng3 ws with
    | none => rw [e] at q1; exact q1.elim
    | some a =>
      rw [e] at q1
      obtain ⟨i, j, rfl, hj, rfl⟩ := rng3_some e
      cases r1 with
      | cons r1 r2 =>
        cases r2 with
        | cons r2 r3 =>
          cases r3 with
          | cons r3 r4 =>
            cases r4; cases r1; cases r2; cases r3
            exact ⟨i, j, -1, (i - j).toNat, rfl, RgC.neg (i := i) (j := j) (by omega) (by omega) (by omega) (by omega), q1 ι1 _ H1 .refl f1 itN_rngC⟩⟩
end
end N

set_option maxHeartbeats 1000000
namespace N
open PySem L2
/-! ### stores -/
def setW (h : List O) (o i v : W) : Option (List O) := match o with
  | .ref n => match h[n]? with
    | some (.lst ws) => match i with
      | .int k => (ixN ws.length k).map fun j => h.set n (.lst (ws.set j v))
      | _ => none
    | _ => putD h o i v
  | _ => none
def rSetN (K : PySem.W.Frag) (mg : Str → Option Value) : TSet := fun o i v H Q => ∃ ι h w1 w2 w3 h', Fit K mg ι H h ∧ RW K mg ι H w1 o ∧ RW K mg ι H w2 i ∧ RW K mg ι H w3 v ∧ setW h w1 w2 w3 = some h' ∧
  ∀ ι' H', Grow ι ι' H H' → Fit K mg ι' H' h' → Q H'
def mStore (mo mi mv : ME) : MS := fun σ h => (mv σ h).sbind σ fun v h1 => (mo σ h1).sbind σ fun o h2 => (mi σ h2).sbind σ fun i h3 => match setW h3 o i v with
  | some h4 => .nx σ h4
  | none => .stuck
section
variable {X : Cx} {E : WX} {pos : Pos}
theorem set_N (hu : X.A.units + 1 < cLine) : PSet X (rSetN X.K X.mg) := by
  intro pins s σ H o i v ov iv u Q I ro ri rv hq
  obtain ⟨ι, h, w1, w2, w3, h', ft, r1, r2, r3, e, k⟩ := hq
  cases w1 with
  | ref n =>
    cases eo : h[n]? with
    | none =>
      simp only [setW, eo] at e
      obtain ⟨a, H', rfl, dp, g, f⟩ := dput_at ft r1 r2 r3 e
      exact set_dict hu pins s σ H _ i v ov iv u Q I ro ri rv ⟨a, H', rfl, dp, k ι H' g f⟩
    | some ob =>
      cases ob with
      | lst ws =>
        simp only [setW, eo] at e
        cases w2 with
        | int j =>
          simp only at e
          cases e1 : ixN ws.length j with
          | none => rw [e1] at e; cases e
          | some m =>
            rw [e1] at e; cases e
            cases r1 with
            | @ref _ a hn =>
              cases r2
              cases ft.obj _ _ _ eo hn with
              | @lst _ _ vs a1 a2 =>
                have g := ft.growP hn (.lst (vs.set m v))
                exact set_list pins s σ H _ _ v ov iv u Q I ro ri rv ⟨a, vs, j, m, rfl, rfl, a1, by rw [a2.len]; exact e1, k ι _ g (ft.put hn (.lst upd_same ((RWs.mono g.g0 _ _ a2).set m (RW.mono g.g0 _ _ r3))))⟩
        | _ => cases e
      | _ =>
        simp only [setW, eo] at e
        obtain ⟨a, H', rfl, dp, g, f⟩ := dput_at ft r1 r2 r3 e
        exact set_dict hu pins s σ H _ i v ov iv u Q I ro ri rv ⟨a, H', rfl, dp, k ι H' g f⟩
  | _ => cases e
theorem ns_store {o i e : Expr} {mo mi mv : ME} {tpos : Pos} (hu : X.A.units + 1 < cLine) (ho : NE X E o mo) (hi : NE X E i mi) (he : NE X E e mv) (hs : swapsWithSole [.Subscript o i tpos] e pos.line X.env = pure false := by rfl) (hw : swappedStores [.Subscript o i tpos] e X.env = pure none := by rfl)
    (h1 : (assignEach [.Subscript o i tpos] X.env).map (·.2) = [assign (.Subscript o i tpos) X.env] := by rfl)
    (ha : ∀ v, assign (.Subscript o i tpos) X.env v = (do
      let ov ← holding [v] (eval o X.env)
      let iv ← holding [v, ov] (eval i X.env)
      standAt tpos
      holding [v, ov, iv] (setItem ov iv v)
      release [v, ov, iv] []) := by intro _; rfl) : NS X E (.Assign [.Subscript o i tpos] e pos) (mStore mo mi mv) :=
  PS.imp (ps_asg he (pg_sub ho hi (set_N hu) ha) hs hw h1) fun D σ H ⟨ι, σn, h, ft, s, q⟩ => ⟨ι, σn, h, ft, s, Aft.sbind s q fun ι1 w1 h1 v1 H1 g1 f1 r1 q1 =>
    ⟨ι1, σn, h1, f1, s.mono g1, Aft.sbind (s.mono g1.g0) q1 fun ι2 w2 h2 v2 H2 g2 f2 r2 q2 => ⟨ι2, σn, h2, f2, (s.mono g1.g0).mono g2.g0, Aft.sbind ((s.mono g1.g0).mono g2.g0) q2 fun ι3 w3 h3 v3 H3 g3 f3 r3 q3 => by
      cases e : setW h3 w2 w3 w1 with
      | none => rw [e] at q3; exact q3.elim
      | some h4 =>
        rw [e] at q3
        exact ⟨ι3, h3, w2, w3, w1, h4, f3, RW.mono g3.g0 _ _ r2, r3, RW.mono (g2.trans g3).g0 _ _ r1, e, fun ι4 H4 g4 f4 => q3 ι4 σ H4 g4 f4 ((((s.mono g1.g0).mono g2.g0).mono g3.g0).mono g4.g0)⟩⟩⟩⟩
/-! ### name op= e, on what nobody changes -/
def mAug (i : Nat) (f : List O → W → W → Option W) (m : ME) : MS := fun σ h => match σ[i]? with
  | some (some x) => (m σ h).sbind σ fun y h1 => match f h1 x y with
    | some w => .nx (σ.set i (some w)) h1
    | none => .stuck
  | _ => .stuck
def iAdd (h : List O) (x y : W) : Option W := match x, y with
  | .int i, .int j => some (.int (i + j))
  | .str i, .str j => guardO (decide (i.length + j.length ≤ sizeLine)) (.str (i ++ j))
  | _, _ => none
def iSub (h : List O) (x y : W) : Option W := match x, y with
  | .int i, .int j => some (.int (i - j))
  | _, _ => none
theorem ip_addN : PIp X .Add (r2N X.K X.mg iAdd) := by
  intro pins s σ H x y v u Q I rx ry ⟨ι, h, w1, w2, w, ft, r1, r2, e, k⟩
  cases w1 with
  | int i =>
    cases r1
    cases w2 with
    | int j => cases r2; cases e; exact ip_add pins s σ H _ _ v u Q I rx ry ⟨i, j, rfl, rfl, k ι _ H .refl ft (.int _)⟩
    | _ => cases e
  | str i =>
    cases r1
    cases w2 with
    | str j =>
      cases r2
      obtain ⟨e4, rfl⟩ := guardO_some e
      exact iop_add_str pins s σ H _ _ v u Q I rx ry ⟨i, j, rfl, rfl, of_decide_eq_true e4, k ι _ H .refl ft (.str _)⟩
    | _ => cases e
  | _ => cases w2 <;> cases e
theorem ip_subN : PIp X .Sub (r2N X.K X.mg iSub) := by
  intro pins s σ H x y v u Q I rx ry ⟨ι, h, w1, w2, w, ft, r1, r2, e, k⟩
  cases w1 with
  | int i =>
    cases r1
    cases w2 with
    | int j => cases r2; cases e; exact ip_sub pins s σ H _ _ v u Q I rx ry ⟨i, j, rfl, rfl, k ι _ H .refl ft (.int _)⟩
    | _ => cases e
  | _ => cases w2 <;> cases e
theorem ns_aug {i : Nat} {x : Str} {e : Expr} {m : ME} {op : Operator} {f : List O → W → W → Option W} {pos' : Pos} (hN : X.N.Nodup) (hi : X.N[i]? = some x) (hx : Loc X.env.scope x) (he : NE X E e m) (ho : PIp X op (r2N X.K X.mg f)) (hf : X.fn x = true ∨ X.env.scope.names.lookup x = some .local := by first | exact .inl rfl | exact .inr rfl | assumption) :
    NS X E (.AugAssign (.Name x pos') op e pos) (mAug i f m) :=
  PS.imp (ps_aug hN hi hx he ho hf) fun D σ H ⟨ι, σn, h, ft, s, q⟩ => by
    unfold mAug at q
    split at q
    · rename_i w0 ew
      obtain ⟨v0, hv, rv⟩ := s.at' i w0 ew
      refine ⟨v0, hv, ι, σn, h, ft, s, Aft.sbind s q fun ι1 w1 h1 v1 H1 g1 f1 r1 q1 => ?_⟩
      cases e : f h1 w0 w1 with
      | none => rw [e] at q1; exact q1.elim
      | some w =>
        rw [e] at q1
        exact ⟨ι1, h1, w0, w1, w, f1, RW.mono g1.g0 _ _ rv, r1, e, fun ι2 v2 H2 g2 f2 r2 => q1 ι2 _ H2 g2 f2 (((s.mono g1.g0).mono g2.g0).set r2 i)⟩
    · exact q.elim
/-! ### methods of built-in types -/
abbrev NM := List O → W → List W → Option (W × List O)
def rmN (K : PySem.W.Frag) (mg : Str → Option Value) (f : NM) : V → List V → Hp → VK → Prop := fun x xs H Q => ∃ ι h w1 ws w h', Fit K mg ι H h ∧ RW K mg ι H w1 x ∧ RWs K mg ι H ws xs ∧ f h w1 ws = some (w, h') ∧
  ∀ ι' v H', Grow ι ι' H H' → Fit K mg ι' H' h' → RW K mg ι' H' w v → Q v H'
def isT (T : String) (h : List O) (w : W) : Bool := match w with
  | .str _ => T == "str"
  | .lst _ => T == "list"
  | .lro _ => T == "list"
  | .ref n => match h[n]? with
    | some (.lst _) => T == "list"
    | _ => false
  | _ => false
theorem isT_at {K : PySem.W.Frag} {mg : Str → Option Value} {ι : Ix} {H : Hp} {h : List O} {w : W} {v : V} {T : String} (f : Fit K mg ι H h) (r : RW K mg ι H w v) (e : isT T h w = true) : tyV K T v H := by
  cases r with
  | str s => exact eq_of_beq e
  | lst h0 h1 h2 => exact .inl ⟨eq_of_beq e, _, SqL.of h1⟩
  | lro h1 h2 => exact .inl ⟨eq_of_beq e, _, h1.sq⟩
  | @ref n a h1 =>
    cases eo : h[n]? with
    | none => simp [isT, eo] at e
    | some o =>
      cases o with
      | lst xs =>
        simp only [isT, eo] at e
        cases f.obj _ _ _ eo h1 with
        | lst a1 a2 => exact .inl ⟨eq_of_beq e, _, SqL.of a1⟩
      | _ => simp [isT, eo] at e
  | _ => cases e
def mBM (T : String) (f : NM) (mo : ME) (ma : MA) : ME := fun σ h => (mo σ h).bind fun x h1 => if isT T h1 x = true then (ma σ h1).bind fun ws h2 => ofH (f h2 x ws) else .stuck
theorem tBM_N {T : String} {f : NM} {mo : ME} {ma : MA} {σ : St} {H : Hp} {Q : VK} {K : PySem.W.Frag} {mg : Str → Option Value} {z : Option (Addr × Addr)} (q : tN K mg z E (mBM T f mo ma) σ H Q) : tBM K T (rmN K mg f) (tN K mg z E mo) (tNA K mg z E ma) σ H Q := by
  obtain ⟨ι, σn, h, ft, s, q⟩ := q
  refine ⟨ι, σn, h, ft, s, Aft.bind q fun ι1 w1 h1 v1 H1 g1 f1 r1 q1 => ?_⟩
  by_cases hT : isT T h1 w1 = true
  · rw [if_pos hT] at q1
    refine ⟨isT_at f1 r1 hT, ι1, σn, h1, f1, s.mono g1, Aft.bind q1 fun ι2 w2 h2 v2 H2 g2 f2 r2 q2 => ?_⟩
    cases e : f h2 w1 w2 with
    | none => rw [e] at q2; exact q2.elim
    | some p => obtain ⟨w, h'⟩ := p; rw [e] at q2; exact ⟨ι2, h2, w1, w2, w, h', f2, RW.mono g2.g0 _ _ r1, r2, e, q2⟩
  · rw [if_neg hT] at q1; exact q1.elim
variable {o e : Expr} {es : List Expr} {name : Str} {apos cpos : Pos} {T id : String}
theorem ne_bm {f : NM} {mo : ME} {ma : MA} (pa : PlainAttrs T) (slot : Slot T name id) (hty : typeOf (.builtin id) = pure (.type "method_descriptor")) (hm : MtR X id (rmN X.K X.mg f)) (ho : NE X E o mo) (ha : NA X E (e :: es) ma)
    (hbase : attributeBase o name X.env (eval o X.env) = eval o X.env := by rfl)
    (hfew : ((backTo cpos (starEach (e :: es) X.env)).all (fun x => !x.1) && (backToKw cpos (keywordEach [] X.env)).all (fun x => x.1.isSome)
      && decide ((e :: es).length + ([] : List Keyword).length + (if ([] : List Keyword).isEmpty then 0 else 1) < 30)) = true := by rfl)
    (hline : (apos.endLine == cpos.line) = true := by rfl) (hs : starEach (e :: es) X.env = (false, eval e X.env) :: starEach es X.env := by rfl) (hplain : (backTo cpos (starEach es X.env)).any (·.1) = false := by rfl) :
    NE X E (.Call (.Attribute o name apos) (e :: es) [] cpos) (mBM T f mo ma) := PE.imp (pe_bm pa slot hty hm ho ha hbase hfew hline hs hplain) fun _ _ _ => tBM_N
theorem ne_bm0 {f : NM} {mo : ME} (pa : PlainAttrs T) (slot : Slot T name id) (hty : typeOf (.builtin id) = pure (.type "method_descriptor")) (hm : MtR X id (rmN X.K X.mg f)) (ho : NE X E o mo)
    (hbase : attributeBase o name X.env (eval o X.env) = eval o X.env := by rfl) (hline : (apos.endLine == cpos.line) = true := by rfl) : NE X E (.Call (.Attribute o name apos) [] [] cpos) (mBM T f mo mNil) :=
  PE.imp (pe_bm0 pa slot hty hm ho hbase hline) fun σ H Q ⟨ι, σn, h, ft, s, q⟩ => ⟨ι, σn, h, ft, s, Aft.bind q fun ι1 w1 h1 v1 H1 g1 f1 r1 q1 => by
    by_cases hT : isT T h1 w1 = true
    · rw [if_pos hT] at q1
      refine ⟨isT_at f1 r1 hT, ?_⟩
      simp only [mNil, bind_ok] at q1
      cases e : f h1 w1 [] with
      | none => rw [e] at q1; exact q1.elim
      | some p => obtain ⟨w, h'⟩ := p; rw [e] at q1; exact ⟨ι1, h1, w1, [], w, h', f1, r1, .nil, e, q1⟩
    · rw [if_neg hT] at q1; exact q1.elim⟩
/-! lists -/
def nAppend : NM := fun h x ws => match x, ws with
  | .ref n, [y] => match h[n]? with
    | some (.lst xs) => if xs.length < sizeLine then some (.non, h.set n (.lst (xs ++ [y]))) else none
    | _ => none
  | _, _ => none
theorem mn_append : MtR X "list.append" (rmN X.K X.mg nAppend) := by
  intro pins s σ H x xs v us Q I rx rs hq
  obtain ⟨ι, h, w1, ws, w, h', ft, r1, rw', e, k⟩ := hq
  unfold nAppend at e
  split at e
  · rename_i n y
    cases eo : h[n]? with
    | none => rw [eo] at e; cases e
    | some ob =>
      rw [eo] at e
      cases ob with
      | lst zs =>
        simp only at e
        split at e
        · rename_i hl
          cases e
          cases r1 with
          | @ref _ a hn =>
            cases rw' with
            | @cons _ _ u _ r2 r3 =>
              cases r3
              cases ft.obj _ _ _ eo hn with
              | @lst _ _ vs a1 a2 =>
                have g := ft.growP hn (.lst (vs ++ [u]))
                exact mt_append pins s σ H _ _ v us Q I rx rs ⟨a, vs, u, rfl, rfl, a1, by rw [a2.len]; exact hl, k ι _ _ g (ft.put hn (.lst upd_same ((RWs.mono g.g0 _ _ a2).app (.cons (RW.mono g.g0 _ _ r2) .nil)))) .non⟩
        · cases e
      | _ => cases e
  · cases e
def nPop : NM := fun h x ws => match x, ws with
  | .ref n, [] => match h[n]? with
    | some (.lst xs) => (xs[xs.length - 1]?).map fun y => (y, h.set n (.lst xs.dropLast))
    | _ => none
  | _, _ => none
theorem rws_dropLast {K : PySem.W.Frag} {mg : Str → Option Value} {ι : Ix} {H : Hp} {ws : List W} {vs : List V} (r : RWs K mg ι H ws vs) : RWs K mg ι H ws.dropLast vs.dropLast := by
  rw [List.dropLast_eq_take, List.dropLast_eq_take, r.len]
  exact r.take _
theorem mn_pop : MtR X "list.pop" (rmN X.K X.mg nPop) := by
  intro pins s σ H x xs v us Q I rx rs hq
  obtain ⟨ι, h, w1, ws, w, h', ft, r1, rw', e, k⟩ := hq
  unfold nPop at e
  split at e
  · rename_i n
    cases eo : h[n]? with
    | none => rw [eo] at e; cases e
    | some ob =>
      rw [eo] at e
      cases ob with
      | lst zs =>
        simp only at e
        cases e1 : zs[zs.length - 1]? with
        | none => rw [e1] at e; cases e
        | some y =>
          rw [e1] at e
          cases e
          cases r1 with
          | @ref _ a hn =>
            cases rw'
            cases ft.obj _ _ _ eo hn with
            | @lst _ _ vs a1 a2 =>
              have g := ft.growP hn (.lst vs.dropLast)
              obtain ⟨u, hu, ru⟩ := a2.at e1
              exact mt_pop pins s σ H _ _ v us Q I rx rs ⟨a, vs, u, rfl, rfl, a1, by rw [a2.len]; exact hu, k ι _ _ g (ft.put hn (.lst upd_same (rws_dropLast (RWs.mono g.g0 _ _ a2)))) (RW.mono g.g0 _ _ ru)⟩
      | _ => cases e
  · cases e
def nExtend : NM := fun h x ws => match x, ws with
  | .ref n, [y] => match h[n]?, lstX h y with
    | some (.lst xs), some ys => if xs.length + ys.length ≤ sizeLine then some (.non, h.set n (.lst (xs ++ ys))) else none
    | _, _ => none
  | _, _ => none
theorem mn_extend : MtR X "list.extend" (rmN X.K X.mg nExtend) := by
  intro pins s σ H x xs v us Q I rx rs hq
  obtain ⟨ι, h, w1, ws, w, h', ft, r1, rw', e, k⟩ := hq
  unfold nExtend at e
  split at e
  · rename_i n y
    cases eo : h[n]? with
    | none => rw [eo] at e; cases e
    | some ob =>
      rw [eo] at e
      cases ob with
      | lst zs =>
        cases ey : lstX h y with
        | none => rw [ey] at e; cases e
        | some ys =>
          rw [ey] at e
          simp only at e
          split at e
          · rename_i hl
            cases e
            cases r1 with
            | @ref _ a hn =>
              cases rw' with
              | @cons _ _ u _ r2 r3 =>
                cases r3
                obtain ⟨b, us2, rfl, hb, rb⟩ := lstX_at ft r2 ey
                cases ft.obj _ _ _ eo hn with
                | @lst _ _ vs a1 a2 =>
                  have g := ft.growP hn (.lst (vs ++ us2))
                  exact mt_extend pins s σ H _ _ v us Q I rx rs ⟨a, b, vs, us2, rfl, rfl, a1, hb, by rw [a2.len, rb.len]; exact hl, k ι _ _ g (ft.put hn (.lst upd_same ((RWs.mono g.g0 _ _ a2).app (RWs.mono g.g0 _ _ rb)))) .non⟩
          · cases e
      | _ => cases e
  · cases e
/-! texts -/
def strsW : List W → Option (List Str)
  | [] => some []
  | .str i :: ws => (strsW ws).map (i :: ·)
  | _ => none
theorem strsW_at {K : PySem.W.Frag} {mg : Str → Option Value} {ι : Ix} {H : Hp} : ∀ {ws : List W} {vs : List V} {ns : List Str}, RWs K mg ι H ws vs → strsW ws = some ns → vs = ns.map V.str
  | [], _, _, r, e => by cases r; cases e; rfl
  | w :: ws, _, ns, r, e => by
    cases w with
    | str i =>
      cases r with
      | cons r1 r2 =>
        cases r1
        cases e1 : strsW ws with
        | none => simp [strsW, e1] at e
        | some ms => simp only [strsW, e1, Option.map_some, Option.some.injEq] at e; subst e; rw [List.map_cons, strsW_at r2 e1]
    | _ => simp [strsW] at e
def pureM (f : List O → W → List W → Option W) : NM := fun h x ws => (f h x ws).map fun w => (w, h)
theorem rmN_pure {K : PySem.W.Frag} {mg : Str → Option Value} {f : List O → W → List W → Option W} {x : V} {xs : List V} {H : Hp} {Q : VK} (q : rmN K mg (pureM f) x xs H Q) :
    ∃ ι h w1 ws w, Fit K mg ι H h ∧ RW K mg ι H w1 x ∧ RWs K mg ι H ws xs ∧ f h w1 ws = some w ∧ ∀ ι' v H', Grow ι ι' H H' → Fit K mg ι' H' h → RW K mg ι' H' w v → Q v H' := by
  obtain ⟨ι, h, w1, ws, w, h', a1, a2, a3, a4, a5⟩ := q
  unfold pureM at a4
  cases e : f h w1 ws with
  | none => rw [e] at a4; cases a4
  | some w' => rw [e] at a4; cases a4; exact ⟨ι, h, w1, ws, w, a1, a2, a3, e, a5⟩
def nJoin (h : List O) (x : W) (ws : List W) : Option W := match x, ws with
  | .str a, [y] => match (seqU h y).bind strsW with
    | some ys => if (ys.map (·.length)).sum + ys.length * a.length ≤ 16777216 then some (.str (Txt.join a ys)) else none
    | none => none
  | _, _ => none
theorem mn_join : MtR X "str.join" (rmN X.K X.mg (pureM nJoin)) := by
  intro pins s σ H x xs v us Q I rx rs hq
  obtain ⟨ι, h, w1, ws, w, ft, r1, rw', e, k⟩ := rmN_pure hq
  unfold nJoin at e
  split at e
  · rename_i a y
    cases e1 : seqU h y with
    | none => rw [e1] at e; cases e
    | some zs =>
      rw [e1] at e
      simp only [Option.bind_some] at e
      cases e2 : strsW zs with
      | none => rw [e2] at e; cases e
      | some ys =>
        rw [e2] at e
        simp only at e
        split at e
        · rename_i hl
          cases e
          cases r1
          cases rw' with
          | cons r2 r3 =>
            cases r3
            obtain ⟨p, vs, rfl, hs, rv⟩ := seqU_at ft r2 e1
            obtain rfl := strsW_at rv e2
            exact mt_join pins s σ H _ _ v us Q I rx rs ⟨a, p, ys, rfl, rfl, hs, hl, k ι _ H .refl ft (.str _)⟩
        · cases e
  · cases e
end
end N

set_option maxHeartbeats 1000000
/-! G0: sleeping generators stay as they are while other code runs that does not wake them -/
namespace G
open PySem
open Sem (wp)
def asleep : GenState → Bool
  | .suspended .. => true
  | _ => false
/-- a state that cannot be woken -/
def trap : GenState → GenState
  | .suspended _ l c p fs cl => .suspended (fun _ => .unsupported "") l c p fs cl
  | x => x
theorem trap_seen (x : GenState) : (trap x).seen = x.seen := by cases x <;> rfl
theorem trap_bare (x : GenState) : (trap x).bare = x.bare := by cases x <;> rfl
def real (T : Nat → Option GenState) (s : Shared) : Shared := { s with gens := s.gens.mapIdx fun i x => (T i).getD x }
structure OkT (T : Nat → Option GenState) (z : Shared) : Prop where
  at' : ∀ i x, T i = some x → z.gens[i]? = some (trap x) ∧ asleep x = true
  cl : ∀ i k l c p fs c2, T i = none → z.gens[i]? = some (.suspended k l c p fs c2) → splitAtGen fs = none
def CleanE : End → Prop
  | .ret _ => True
  | .susp _ _ _ _ _ _ fs => splitAtGen fs = none
theorem split_append {a b : List Frame} (h1 : splitAtGen a = none) (h2 : splitAtGen b = none) : splitAtGen (a ++ b) = none := by
  induction a with
  | nil => exact h2
  | cons f a ih =>
    cases f with
    | gen => simp [splitAtGen] at h1
    | ret k hh gg ll cc pp kp =>
      simp only [List.cons_append, splitAtGen, Option.map_eq_none_iff] at h1 ⊢
      exact ih h1
theorem split_tail {F : Frame} {fs : List Frame} (h : splitAtGen (F :: fs) = none) : splitAtGen fs = none := by
  cases F with
  | gen => simp [splitAtGen] at h
  | ret k hh gg ll cc pp kp => simpa only [splitAtGen, Option.map_eq_none_iff] using h
theorem real_at {T : Nat → Option GenState} {s : Shared} {i : Nat} : (real T s).gens[i]? = (s.gens[i]?).map fun x => (T i).getD x := by
  show (s.gens.mapIdx _)[i]? = _
  rw [Array.getElem?_mapIdx]
theorem real_none {T : Nat → Option GenState} {s : Shared} {i : Nat} (h : T i = none) : (real T s).gens[i]? = s.gens[i]? := by
  rw [real_at, h]; cases s.gens[i]? <;> rfl
theorem real_size {T : Nat → Option GenState} {s : Shared} : (real T s).gens.size = s.gens.size := by simp [real]
theorem real_set {T : Nat → Option GenState} {s : Shared} {g : Nat} {x : GenState} (h : T g = none) : real T (s.setGen g x) = (real T s).setGen g x := by
  unfold real Shared.setGen
  refine congrArg (fun a => { s with gens := a }) ?_
  apply Array.ext_getElem?
  intro i
  rw [Array.getElem?_mapIdx, Array.getElem?_setIfInBounds, Array.getElem?_setIfInBounds, Array.getElem?_mapIdx, Array.size_mapIdx]
  by_cases e : g = i
  · subst e
    rw [if_pos rfl, if_pos rfl]
    by_cases e2 : g < s.gens.size
    · rw [if_pos e2, Option.map_some, h]; rfl
    · rw [if_neg e2]; rfl
  · rw [if_neg e, if_neg e]
theorem OkT.size {T : Nat → Option GenState} {z : Shared} (o : OkT T z) {i : Nat} (h : z.gens.size ≤ i) : T i = none := by
  cases e : T i with
  | none => rfl
  | some x =>
    have := (o.at' i x e).1
    rw [Array.getElem?_eq_none h] at this
    cases this
theorem real_push {T : Nat → Option GenState} {s : Shared} {x : GenState} (h : T s.gens.size = none) : real T { s with gens := s.gens.push x } = { real T s with gens := (real T s).gens.push x } := by
  unfold real
  refine congrArg (fun a => { s with gens := a }) ?_
  apply Array.ext_getElem?
  intro i
  simp only [Array.getElem?_mapIdx, Array.getElem?_push, Array.size_mapIdx]
  by_cases e : i = s.gens.size
  · subst e; rw [if_pos rfl, if_pos rfl, Option.map_some, h]; rfl
  · rw [if_neg e, if_neg e]
theorem OkT.push {T : Nat → Option GenState} {s : Shared} {c : Code} (o : OkT T s) : OkT T { s with gens := s.gens.push (.fresh c) } := by
  refine ⟨fun i x e => ?_, fun i k l c' p fs c2 e e2 => ?_⟩
  · obtain ⟨h1, h2⟩ := o.at' i x e
    exact ⟨by
      show (s.gens.push _)[i]? = _
      have ne : i ≠ s.gens.size := by
        rintro rfl
        rw [Array.getElem?_eq_none (Nat.le_refl _)] at h1
        cases h1
      rw [Array.getElem?_push, if_neg ne, h1], h2⟩
  · have e2 : (s.gens.push (.fresh c))[i]? = _ := e2
    rw [Array.getElem?_push] at e2
    split at e2
    · cases e2
    · exact o.cl i k l c' p fs c2 e e2
theorem OkT.set {T : Nat → Option GenState} {s : Shared} {g : Nat} {x : GenState} (o : OkT T s) (h : T g = none) (hx : ∀ k l c p fs cl, x = .suspended k l c p fs cl → splitAtGen fs = none) : OkT T (s.setGen g x) := by
  refine ⟨fun i y e => ?_, fun i k l c' p fs c2 e e2 => ?_⟩
  · obtain ⟨h1, h2⟩ := o.at' i y e
    have ne : g ≠ i := by rintro rfl; rw [h] at e; cases e
    exact ⟨by
      show (s.gens.setIfInBounds g x)[i]? = _
      rw [Array.getElem?_setIfInBounds_ne ne, h1], h2⟩
  · have e2 : (s.gens.setIfInBounds g x)[i]? = _ := e2
    rw [Array.getElem?_setIfInBounds] at e2
    split at e2
    · split at e2
      · cases e2; exact hx _ _ _ _ _ _ rfl
      · cases e2
    · exact o.cl i k l c' p fs c2 e e2
theorem clean_state {e : End} (h : CleanE e) {k l c p fs cl} (q : e.genState = .suspended k l c p fs cl) : splitAtGen fs = none := by
  cases e with
  | ret => cases q
  | susp => cases q; exact h
theorem no_unsup {M : Model} {Γ : Ctx} {p : Pos} {w : String} {fs : List Frame} {s s' : Shared} {e : End} (h : Runs M Γ p (.unsupported w) fs s e s') : False := by
  have base : ∀ {Γ : Ctx} {p : Pos} {s s' : Shared} {e : End}, Runs M Γ p (.unsupported w) [] s e s' → False := fun h => by cases h
  cases h with
  | segRet h _ => exact base h
  | segGen h _ => exact base h
  | segSuspOut _ h => exact base h
  | segSuspGen _ h _ _ => exact base h
theorem OkT.awake {T : Nat → Option GenState} {s : Shared} (o : OkT T s) {g : Nat} {x : GenState} (q : s.gens[g]? = some x) (hx : asleep x = false) : T g = none := by
  cases e : T g with
  | none => rfl
  | some y =>
    obtain ⟨q2, q3⟩ := o.at' _ _ e
    rw [q] at q2
    cases y with
    | suspended => cases q2; cases hx
    | _ => cases q3
/-- a run that ends well wakes no trapped generator: it is a run of the real table -/
theorem runs_real {M : Model} {T : Nat → Option GenState} {Γ : Ctx} {p : Pos} {t : Sem Fin} {fs : List Frame} {s s' : Shared} {e : End} (h : Runs M Γ p t fs s e s') :
    OkT T s → splitAtGen fs = none → Runs M Γ p t fs (real T s) e (real T s') ∧ OkT T s' ∧ CleanE e := by
  induction h with
  | done => exact fun o _ => ⟨.done, o, trivial⟩
  | raise => exact fun o _ => ⟨.raise, o, trivial⟩
  | again q _ ih => exact fun o f => ⟨.again q (ih o f).1, (ih o f).2⟩
  | rule _ ih => exact fun o f => ⟨.rule (ih o f).1, (ih o f).2⟩
  | «at» _ ih => exact fun o f => ⟨.at (ih o f).1, (ih o f).2⟩
  | load q _ ih => exact fun o f => ⟨.load q (ih o f).1, (ih o f).2⟩
  | update q _ ih => exact fun o f => ⟨.update q (ih ⟨o.1, o.2⟩ f).1, (ih ⟨o.1, o.2⟩ f).2⟩
  | loadIfAlive _ ih => exact fun o f => ⟨.loadIfAlive (ih o f).1, (ih o f).2⟩
  | point _ ih => exact fun o f => ⟨.point (ih o f).1, (ih o f).2⟩
  | alloc _ ih => exact fun o f => ⟨.alloc (ih ⟨o.1, o.2⟩ f).1, (ih ⟨o.1, o.2⟩ f).2⟩
  | fresh _ ih => exact fun o f => ⟨.fresh (ih ⟨o.1, o.2⟩ f).1, (ih ⟨o.1, o.2⟩ f).2⟩
  | ask _ ih => exact fun o f => ⟨.ask (ih o f).1, (ih o f).2⟩
  | choose q _ ih => exact fun o f => ⟨.choose q (ih ⟨o.1, o.2⟩ f).1, (ih ⟨o.1, o.2⟩ f).2⟩
  | os _ ih => exact fun o f => ⟨.os (ih ⟨o.1, o.2⟩ f).1, (ih ⟨o.1, o.2⟩ f).2⟩
  | handled _ ih => exact fun o f => ⟨.handled (ih o f).1, (ih o f).2⟩
  | @genState g st k _ _ _ _ _ q _ ih =>
    intro o f
    refine ⟨?_, (ih o f).2⟩
    refine .genState (st := (T g).getD st) (by rw [real_at, q]; rfl) ?_
    have e : ((T g).getD st).seen = st.seen := by
      cases e : T g with
      | none => rfl
      | some x =>
        have q2 := (o.at' _ _ e).1
        rw [q] at q2
        cases q2
        exact (trap_seen x).symm
    rw [e]
    exact (ih o f).1
  | stack _ ih => exact fun o f => ⟨.stack (ih o f).1, (ih o f).2⟩
  | thread _ ih => exact fun o f => ⟨.thread (ih o f).1, (ih o f).2⟩
  | newGen _ ih =>
    intro o f
    have h1 := ih o.push f
    rw [real_push (o.size (Nat.le_refl _))] at h1
    refine ⟨.newGen ?_, h1.2⟩
    rw [real_size]
    exact h1.1
  | call _ _ ih1 ih2 => exact fun o f => ⟨.call (ih1 o rfl).1 (ih2 (ih1 o rfl).2.1 f).1, (ih2 (ih1 o rfl).2.1 f).2⟩
  | callSusp _ ih => exact fun o f => ⟨.callSusp (ih o rfl).1, (ih o rfl).2.1, split_append (ih o rfl).2.2 rfl⟩
  | «yield» => exact fun o f => ⟨.yield, o, rfl⟩
  | resumeFresh q _ hq _ ih1 ih2 =>
    intro o f
    have hT := o.awake q rfl
    have a := ih1 (o.set hT fun _ _ _ _ _ _ z => by cases z) rfl
    have b := ih2 (a.2.1.set hT fun _ _ _ _ _ _ z => clean_state a.2.2 z) f
    rw [real_set hT] at a b
    exact ⟨.resumeFresh ((real_none hT).trans q) a.1 hq b.1, b.2⟩
  | @resumeSuspended Γ p g r l k s k₀ l₀ c₀ p₀ fs₀ cl e₁ s₁ e s' q hr hq _ ih1 ih2 =>
    intro o f
    cases hT : T g with
    | some x =>
      have q2 := (o.at' _ _ hT)
      rw [q] at q2
      obtain ⟨q2, q3⟩ := q2
      cases x with
      | suspended => cases q2; exact (no_unsup hr).elim
      | _ => cases q3
    | none =>
      have a := ih1 (o.set hT fun _ _ _ _ _ _ z => by cases z) (o.cl _ _ _ _ _ _ _ hT q)
      have b := ih2 (a.2.1.set hT fun _ _ _ _ _ _ z => clean_state a.2.2 z) f
      rw [real_set hT] at a b
      exact ⟨.resumeSuspended ((real_none hT).trans q) a.1 hq b.1, b.2⟩
  | resumeJustStarted q hv _ ih => exact fun o f => ⟨.resumeJustStarted ((real_none (o.awake q rfl)).trans q) hv (ih o f).1, (ih o f).2⟩
  | resumeThrowFresh q _ ih =>
    intro o f
    have hT := o.awake q rfl
    have b := ih (o.set hT fun _ _ _ _ _ _ z => by cases z) f
    rw [real_set hT] at b
    exact ⟨.resumeThrowFresh ((real_none hT).trans q) b.1, b.2⟩
  | resumeRunning q _ ih => exact fun o f => ⟨.resumeRunning ((real_none (o.awake q rfl)).trans q) (ih o f).1, (ih o f).2⟩
  | resumeFinished q _ ih => exact fun o f => ⟨.resumeFinished ((real_none (o.awake q rfl)).trans q) (ih o f).1, (ih o f).2⟩
  | segRet _ _ ih1 ih2 => exact fun o f => ⟨.segRet (ih1 o rfl).1 (ih2 (ih1 o rfl).2.1 (split_tail f)).1, (ih2 (ih1 o rfl).2.1 (split_tail f)).2⟩
  | segGen _ _ ih1 ih2 => intro o f; simp [splitAtGen] at f
  | segSuspOut q _ ih => exact fun o f => ⟨.segSuspOut q (ih o rfl).1, (ih o rfl).2.1, split_append (ih o rfl).2.2 f⟩
  | segSuspGen q _ _ _ ih1 ih2 => intro o f; rw [q] at f; cases f

/-- the same for a part of a run -/
theorem wp_real {α : Type} {M : Model} {T : Nat → Option GenState} {Γ : Ctx} (t : Sem α) : ∀ (Q : α → Pos → Shared → Prop) (E : Value → Pos → Shared → Prop) (p : Pos) (s : Shared), OkT T s → wp M Γ t Q E p s →
    wp M Γ t (fun a p' s' => ∃ z, s' = real T z ∧ OkT T z ∧ Q a p' z) (fun e p' s' => ∃ z, s' = real T z ∧ OkT T z ∧ E e p' z) p (real T s) := by
  induction t with
  | pure a => intro Q E p s o h; exact ⟨s, rfl, o, h⟩
  | raise e => intro Q E p s o h; exact ⟨s, rfl, o, h⟩
  | unsupported _ => intro Q E p s _ h; exact h
  | finish _ => intro Q E p s _ h; exact h
  | rule _ k ih => intro Q E p s o h; exact ih () Q E p s o h
  | «at» p' k ih => intro Q E p s o h; exact ih () Q E p' s o h
  | load a _ k ih => intro Q E p s o h; obtain ⟨ob, ho, h⟩ := h; exact ⟨ob, ho, ih ob Q E p s o h⟩
  | update a _ f k ih => intro Q E p s o h; exact ⟨h.1, ih () Q E p { s with heap := s.heap.update a f } ⟨o.1, o.2⟩ h.2⟩
  | loadIfAlive a k ih => intro Q E p s o h; exact ih _ Q E p s o h
  | point _ k ih => intro Q E p s o h; exact ih () Q E p s o h
  | register _ _ => intro Q E p s _ h; exact h
  | alloc ob k ih => intro Q E p s o h; exact ih _ Q E p { s with heap := s.heap.push ob } ⟨o.1, o.2⟩ h
  | fresh k ih => intro Q E p s o h; exact ih _ Q E p { s with toks := s.toks + 1 } ⟨o.1, o.2⟩ h
  | ask k ih => intro Q E p s o h; exact ih _ Q E p s o h
  | choose src m k ih => intro Q E p s o h; exact ⟨h.1, ih _ Q E p { s with drawn := s.drawn.bump src } ⟨o.1, o.2⟩ h.2⟩
  | os q _ k ih => intro Q E p s o h; exact ih _ Q E p { s with os := (Os.step s.os q).1 } ⟨o.1, o.2⟩ h
  | call c hd _ _ k ih =>
    intro Q E p s o h
    obtain ⟨r, s', hr, h⟩ := h
    have a := runs_real hr o rfl
    exact ⟨r, _, a.1, ih r Q E p s' a.2.1 h⟩
  | handled own k ih => intro Q E p s o h; exact ih _ Q E p s o h
  | genState g k ih =>
    intro Q E p s o h
    obtain ⟨st, hs, h⟩ := h
    refine ⟨(T g).getD st, by rw [real_at, hs]; rfl, ?_⟩
    have e : ((T g).getD st).seen = st.seen := by
      cases e : T g with
      | none => rfl
      | some x =>
        have q2 := (o.at' _ _ e).1
        rw [hs] at q2
        cases q2
        exact (trap_seen x).symm
    rw [e]
    exact ih _ Q E p s o h
  | newGen c k ih =>
    intro Q E p s o h
    have h1 := ih _ Q E p _ o.push h
    rw [real_push (o.size (Nat.le_refl _))] at h1
    show wp M Γ (k (real T s).gens.size) _ _ p _
    rw [real_size]
    exact h1
  | resume g r _ k ih =>
    intro Q E p s o h
    obtain ⟨res, s', hw, h⟩ := h
    unfold Wakes at hw
    split at hw
    · exact hw.elim
    · rename_i c hg
      have hT := o.awake hg rfl
      split at hw
      · obtain ⟨e₁, s₁, hr, hq, rfl, rfl⟩ := hw
        have a := runs_real hr (o.set hT fun _ _ _ _ _ _ z => by cases z) rfl
        have b := ih _ Q E p _ (a.2.1.set hT fun _ _ _ _ _ _ z => clean_state a.2.2 z) h
        rw [real_set hT] at a b
        refine ⟨_, _, ?_, b⟩
        unfold Wakes
        rw [real_none hT, hg]
        exact ⟨e₁, _, a.1, hq, rfl, rfl⟩
      · obtain ⟨rfl, rfl⟩ := hw
        refine ⟨_, _, ?_, ih _ Q E p _ o h⟩
        unfold Wakes
        rw [real_none hT, hg]
        rename_i v hv
        cases v <;> first | exact ⟨rfl, rfl⟩ | exact (hv rfl).elim
      · obtain ⟨rfl, rfl⟩ := hw
        have b := ih _ Q E p _ (o.set hT fun _ _ _ _ _ _ z => by cases z) h
        rw [real_set hT] at b
        refine ⟨_, _, ?_, b⟩
        unfold Wakes
        rw [real_none hT, hg]
        exact ⟨rfl, rfl⟩
    · rename_i k₀ l₀ c₀ p₀ fs₀ cl hg
      obtain ⟨e₁, s₁, hr, hq, rfl, rfl⟩ := hw
      cases hT : T g with
      | some x =>
        have q2 := (o.at' _ _ hT)
        rw [hg] at q2
        obtain ⟨q2, q3⟩ := q2
        cases x with
        | suspended => cases q2; exact (no_unsup hr).elim
        | _ => cases q3
      | none =>
        have a := runs_real hr (o.set hT fun _ _ _ _ _ _ z => by cases z) (o.cl _ _ _ _ _ _ _ hT hg)
        have b := ih _ Q E p _ (a.2.1.set hT fun _ _ _ _ _ _ z => clean_state a.2.2 z) h
        rw [real_set hT] at a b
        refine ⟨_, _, ?_, b⟩
        unfold Wakes
        rw [real_none hT, hg]
        exact ⟨e₁, _, a.1, hq, rfl, rfl⟩
    · rename_i hg
      obtain ⟨rfl, rfl⟩ := hw
      refine ⟨_, _, ?_, ih _ Q E p _ o h⟩
      unfold Wakes
      rw [real_none (o.awake hg rfl), hg]
      exact ⟨rfl, rfl⟩
    · rename_i hg
      obtain ⟨rfl, rfl⟩ := hw
      refine ⟨_, _, ?_, ih _ Q E p _ o h⟩
      unfold Wakes
      rw [real_none (o.awake hg rfl), hg]
      exact ⟨rfl, rfl⟩
  | «yield» _ _ _ _ => intro Q E p s _ h; exact h
  | stack k ih => intro Q E p s o h; exact ih _ Q E p s o h
  | fork _ _ => intro Q E p s _ h; exact h
  | thread k ih => intro Q E p s o h; exact ih _ Q E p s o h
  | await _ _ _ _ _ => intro Q E p s _ h; exact h
/-- the sleeping ones -/
def tab (s : Shared) : Nat → Option GenState := fun i => match s.gens[i]? with
  | some x => if asleep x then some x else none
  | none => none
/-- s with its sleeping generators trapped -/
def lull (s : Shared) : Shared := { s with gens := s.gens.map trap }
theorem lull_ok {s : Shared} : OkT (tab s) (lull s) := by
  refine ⟨fun i x e => ?_, fun i k l c p fs c2 e e2 => ?_⟩
  · unfold tab at e
    split at e
    · rename_i y q
      split at e
      · rename_i q2
        cases e
        refine ⟨?_, q2⟩
        show (s.gens.map trap)[i]? = _
        rw [Array.getElem?_map, q]; rfl
      · cases e
    · cases e
  · have e2 : (s.gens.map trap)[i]? = _ := e2
    rw [Array.getElem?_map] at e2
    unfold tab at e
    cases q : s.gens[i]? with
    | none => rw [q] at e2; cases e2
    | some y =>
      rw [q] at e e2
      cases y with
      | suspended => cases e
      | _ => cases e2
theorem real_lull {s : Shared} : real (tab s) (lull s) = s := by
  show { s with gens := ((s.gens.map trap).mapIdx fun i x => (tab s i).getD x) } = s
  have : ((s.gens.map trap).mapIdx fun i x => (tab s i).getD x) = s.gens := by
    apply Array.ext_getElem?
    intro i
    rw [Array.getElem?_mapIdx, Array.getElem?_map]
    unfold tab
    cases q : s.gens[i]? with
    | none => rfl
    | some y => cases y <;> rfl
  rw [this]
/-- what is kept by code that runs beside sleeping generators -/
structure Kept (s s' z : Shared) : Prop where
  re : s' = real (tab s) z
  ok : OkT (tab s) z
theorem Kept.gen {s s' z : Shared} (k : Kept s s' z) {g : Nat} {x : GenState} (h : s.gens[g]? = some x) (ha : asleep x = true) : s'.gens[g]? = some x := by
  have e : tab s g = some x := by unfold tab; rw [h]; exact if_pos ha
  rw [k.re, real_at, (k.ok.at' _ _ e).1, e]
  rfl
theorem Kept.heap {s s' z : Shared} (k : Kept s s' z) : s'.heap = z.heap := by rw [k.re]; rfl
theorem Kept.os {s s' z : Shared} (k : Kept s s' z) : s'.os = z.os := by rw [k.re]; rfl
theorem Kept.bare {s s' z : Shared} (k : Kept s s' z) (h : PyProof.Rows.AllBare z.gens) : PyProof.Rows.AllBare s'.gens := by
  intro y hy
  obtain ⟨i, hi⟩ := Array.mem_iff_getElem?.mp hy
  rw [k.re, real_at] at hi
  cases q : z.gens[i]? with
  | none => rw [q] at hi; cases hi
  | some w =>
    rw [q] at hi
    have hw := h w (Array.mem_of_getElem? q)
    cases e : tab s i with
    | none => rw [e] at hi; cases hi; exact hw
    | some x =>
      rw [e] at hi
      cases hi
      have q2 := (k.ok.at' _ _ e).1
      rw [q] at q2
      cases q2
      rw [trap_bare] at hw
      exact hw
theorem lull_bare {s : Shared} (h : PyProof.Rows.AllBare s.gens) : PyProof.Rows.AllBare (lull s).gens := by
  intro y hy
  obtain ⟨x, hx, rfl⟩ := Array.mem_map.mp hy
  rw [trap_bare]
  exact h x hx
theorem wpAny_beside {α : Type} {M : Model} {A : Around} {s : Shared} {t : Sem α} {Q : α → Shared → Prop} {E : Value → Shared → Prop} (h : wpAny M A t Q E (lull s)) :
    wpAny M A t (fun a s' => ∃ z, Kept s s' z ∧ Q a z) (fun e s' => ∃ z, Kept s s' z ∧ E e z) s := by
  have e := wpAny_mono (A := A) (M := M) (s := real (tab s) (lull s)) (fun Γ p hΓ => wp_real t _ _ p (lull s) lull_ok (h Γ p hΓ) : wpAny M A t (fun a s' => ∃ z, s' = real (tab s) z ∧ OkT (tab s) z ∧ Q a z) (fun e s' => ∃ z, s' = real (tab s) z ∧ OkT (tab s) z ∧ E e z) (real (tab s) (lull s)))
    (Q' := fun a s' => ∃ z, Kept s s' z ∧ Q a z) (E' := fun e s' => ∃ z, Kept s s' z ∧ E e z) (fun a s' ⟨z, h1, h2, h3⟩ => ⟨z, ⟨h1, h2⟩, h3⟩) (fun a s' ⟨z, h1, h2, h3⟩ => ⟨z, ⟨h1, h2⟩, h3⟩)
  rwa [real_lull] at e
end G

set_option maxHeartbeats 1000000
/-! G1: a generator's code up to its next pause -/
namespace G
open PySem PySem.Spec PyProof.Rows GenW L2
open Sem (wp)
section
variable {M : Model}
def Go (M : Model) (A : Around) (Φ : End → Shared → Prop) (c : Code) (t : Sem PySem.Fin) (fs : List Frame) (s : Shared) : Prop :=
  ∀ Γ p, Γ.code = c → Γ.Woken A → ∃ e s', Runs M Γ p t fs s e s' ∧ Φ e s'
variable {A : Around} {Φ : End → Shared → Prop} {c : Code} {fs : List Frame} {s : Shared}
theorem go_wrap {α : Type} {m : Sem α} {K : α → Sem PySem.Fin} {H : Value → Sem PySem.Fin} {gd lv}
    (h : wpAny M (A.over c fs) m (fun a s' => Go M A Φ c (K a) fs s') (fun x s' => Go M A Φ c (H x) fs s') s) : Go M A Φ c (m.wrap K H gd lv) fs s := by
  rintro Γ p rfl hΓ
  exact runs_wrap_of_wp K H gd lv m (h (Γ.over fs) p (hΓ.over fs)) (fun a p' s' h' => h' Γ p' rfl hΓ) (fun x p' s' h' => h' Γ p' rfl hΓ)
theorem go_at {p' : Pos} {k : Unit → Sem PySem.Fin} (h : Go M A Φ c (k ()) fs s) : Go M A Φ c (.at p' k) fs s :=
  go_wrap (m := standAt p') (K := k) (H := .raise) (gd := id) (lv := id) (wpAny_standAt h)
theorem go_point {l : List Value} {k : Unit → Sem PySem.Fin} (h : Go M A Φ c (k ()) fs s) : Go M A Φ c (.point l k) fs s :=
  go_wrap (m := point) (K := k) (H := .raise) (gd := id) (lv := fun _ => l) (wpAny_point h)
theorem go_call {c' : Code} {h g l} {k : Result → Sem PySem.Fin} (hc : ∀ p, Go M A Φ c' (M.den c') (.ret k h g l c p [] :: fs) s) : Go M A Φ c (.call c' h g l k) fs s := by
  rintro Γ p rfl hΓ
  obtain ⟨e, s', hr, he⟩ := hc p (Γ.goto c') p rfl (hΓ.goto c')
  exact ⟨e, s', runs_call_seg hr, he⟩
theorem go_leaf {k h g l c₁ p₁ kp} (r : Result) (hk : Go M A Φ c₁ (k r) fs s) : Go M A Φ c (leafOf r) (.ret k h g l c₁ p₁ kp :: fs) s := by
  rintro Γ p rfl hΓ
  obtain ⟨e, s', hr, he⟩ := hk (Γ.goto c₁) p₁ rfl (hΓ.goto c₁)
  exact ⟨e, s', Runs.pop r hr, he⟩
theorem go_again {c' : Code} (hq : c'.quiet = true) (hc : Go M A Φ c' (M.den c') fs s) : Go M A Φ c (.pure (.again c')) fs s := by
  rintro Γ p rfl hΓ
  obtain ⟨e, s', hr, he⟩ := hc (Γ.goto c') p rfl (hΓ.goto c')
  exact ⟨e, s', Runs.head (c₁ := c') (fun _ _ x => .again hq x) hr, he⟩
theorem go_end (r : Result) (h : Φ (.ret r) s) : Go M A Φ c (leafOf r) [] s := by
  rintro Γ p rfl _
  exact ⟨.ret r, s, Runs.leaf r, h⟩
theorem go_yield {v g l} {k : Resume → Sem PySem.Fin} (hfs : splitAtGen fs = none) (h : ∀ p, Φ (.susp v g l k c p fs) s) : Go M A Φ c (.yield v g l k) fs s := by
  rintro Γ p rfl _
  exact ⟨_, s, Runs.yield' fs hfs, h p⟩
theorem go_nil {env : Env} {K : Flow → Sem PySem.Fin} {H : Value → Sem PySem.Fin} {gd : Bool → Bool} {lv : List Value → List Value} (h : Go M A Φ c (K .next) fs s) : Go M A Φ c ((execs [] env).wrap K H gd lv) fs s := h
theorem go_cons {env : Env} {K : Flow → Sem PySem.Fin} {H : Value → Sem PySem.Fin} {gd : Bool → Bool} {lv : List Value → List Value} {st : Stmt} {rest : List Stmt}
    (h : Go M A Φ c ((exec st env).wrap (fun f => match f with | .next => (execs rest env).wrap K H gd lv | f => K f) H gd lv) fs s) : Go M A Φ c ((execs (st :: rest) env).wrap K H gd lv) fs s := by rw [execs_cons_wrap]; exact h
theorem go_Yield {env : Env} {K : Flow → Sem PySem.Fin} {H : Value → Sem PySem.Fin} {gd : Bool → Bool} {lv : List Value → List Value} {e : Expr} {ypos pos : Pos} (hfs : splitAtGen fs = none)
    (h : wpAny M (A.over c fs) (eval e env) (fun v s' => ∀ l kk p, (∀ Ψ s'', Go M A Ψ c (K .next) fs s'' → Go M A Ψ c (kk (.send .none)) fs s'') → Φ (.susp v (gd false) l kk c p fs) s')
      (fun x s' => Go M A Φ c (H x) fs s') s) (hco : env.scope.isCoroutine = false := by rfl) (hi : interactive env = false := by rfl) :
    Go M A Φ c ((exec (.Expr (.Yield (some e) ypos) pos) env).wrap K H gd lv) fs s := by
  rw [exec_Expr env _ pos hi rfl]
  show Go M A Φ c (.at pos fun _ => ((eval e env >>= fun v => (standAt ypos >>= fun _ => yieldOut env v)) >>= fun x =>
    dropValue (.Yield (some e) ypos) pos x).wrap K H gd lv) fs s
  have hy : ∀ v, yieldOut env v = yieldValue v := fun v => by simp only [yieldOut, hco, Bool.false_eq_true, if_false]
  simp only [hy]
  refine go_at ?_
  rw [Sem.bind_eq_wrap', Sem.bind_eq_wrap', Sem.wrap_wrap, Sem.wrap_wrap]
  refine go_wrap (wpAny_mono h (fun v s' h' => ?_) fun _ _ x => x)
  refine go_at (go_yield hfs fun p => ?_)
  exact h' _ _ _ fun Ψ s'' hx => hx
end
section
variable {prog : Program} {w : World} {A : Around} {Φ : End → Shared → Prop} {c : Code} {fs : List Frame} {s : Shared} {env : Env}
theorem go_While {K : Flow → Sem PySem.Fin} {H : Value → Sem PySem.Fin} {gd : Bool → Bool} {lv : List Value → List Value} {M : Model} {test : Expr} {body orelse : List Stmt} {pos : Pos}
    (h : ∀ p, Go M A Φ (.whileLoop test body orelse env) (M.den (.whileLoop test body orelse env))
      (.ret (fun r => ((match r with | .ok f => (.pure f : Sem Flow) | .error e => .raise e).onRaise (cameBack env)).wrap K H gd lv) none (gd false) (lv []) c p [] :: fs) s) :
    Go M A Φ c ((exec (.While test body orelse pos) env).wrap K H gd lv) fs s :=
  go_at (go_call h)
theorem go_whileLoop {test : Expr} {body orelse : List Stmt}
    (h : wpAny (model prog w) (A.over (.whileLoop test body orelse env) fs) (isTrue test env (eval test env)) (fun b s' =>
        if b = true then
          Go (model prog w) A Φ (.whileLoop test body orelse env) ((execs body env).wrap (fun f => match f with
            | .next | .cont => .pure (.again (.whileLoop test body orelse env))
            | .brk => .pure (.done .next)
            | .ret v => .pure (.done (.ret v))) (fun e => (do noteFrame e env; theTreesLotGoes e : Sem Unit).wrap (fun _ => .raise e) .raise id id) id id) fs s'
        else Go (model prog w) A Φ (.whileLoop test body orelse env) ((execs orelse env).wrap (fun f => .pure (.done f)) (fun e => (do noteFrame e env; theTreesLotGoes e : Sem Unit).wrap (fun _ => .raise e) .raise id id) id id) fs s')
      (fun x s' => Go (model prog w) A Φ (.whileLoop test body orelse env) ((do noteFrame x env; theTreesLotGoes x : Sem Unit).wrap (fun _ => .raise x) .raise id id) fs s') s) :
    Go (model prog w) A Φ (.whileLoop test body orelse env) ((model prog w).den (.whileLoop test body orelse env)) fs s := by
  show Go _ A Φ _ ((whileTurn test body orelse env).onRaise (fun x => do noteFrame x env; theTreesLotGoes x)) fs s
  unfold whileTurn
  rw [Sem.onRaise_eq_wrap, Sem.bind_eq_wrap', Sem.wrap_wrap]
  refine go_wrap (wpAny_mono h (fun b s' hb => ?_) fun x s' hx => ?_)
  · cases b with
    | true =>
      rw [if_pos rfl] at hb
      show Go _ A Φ _ (Sem.wrap _ _ _ _ (if true = true then _ else _)) fs s'
      rw [if_pos rfl, Sem.bind_eq_wrap', Sem.wrap_wrap]
      rw [Sem.wrap_congr (execs body env) _ _ (K' := fun f => match f with
            | .next | .cont => .pure (.again (.whileLoop test body orelse env))
            | .brk => .pure (.done .next)
            | .ret v => .pure (.done (.ret v))) (H' := (fun e => (do noteFrame e env; theTreesLotGoes e : Sem Unit).wrap (fun _ => .raise e) .raise id id))
        (fun f => by cases f <;> rfl)
        (fun e => by first | exact Sem.bind_eq_wrap _ _ | (show (do noteFrame e env; theTreesLotGoes e : Sem Unit).bind (fun _ => .raise e) = _; rw [Sem.bind_eq_wrap]))]
      exact hb
    | false =>
      rw [if_neg Bool.false_ne_true] at hb
      show Go _ A Φ _ (Sem.wrap _ _ _ _ (if false = true then _ else _)) fs s'
      rw [if_neg Bool.false_ne_true, Sem.bind_eq_wrap', Sem.wrap_wrap]
      rw [Sem.wrap_congr (execs orelse env) _ _ (K' := fun f => (.pure (.done f) : Sem PySem.Fin)) (H' := (fun e => (do noteFrame e env; theTreesLotGoes e : Sem Unit).wrap (fun _ => .raise e) .raise id id))
        (fun f => by rfl)
        (fun e => by first | exact Sem.bind_eq_wrap _ _ | (show (do noteFrame e env; theTreesLotGoes e : Sem Unit).bind (fun _ => .raise e) = _; rw [Sem.bind_eq_wrap]))]
      exact hb
  · first
      | (rw [← Sem.bind_eq_wrap] at hx; exact hx)
      | (show Go _ A Φ _ ((do noteFrame x env; theTreesLotGoes x : Sem Unit).bind fun _ => .raise x) fs s'; rw [Sem.bind_eq_wrap]; exact hx)
theorem go_func {body : List Stmt}
    (h : Go (model prog w) A Φ (.func body env) ((execs body env).wrap (fun f => .pure (.done (.ret (match f with | .ret v => v | _ => .none))))
      (fun e => (leaving env e).wrap (fun _ => .raise e) .raise id id) id id) fs s) :
    Go (model prog w) A Φ (.func body env) ((model prog w).den (.func body env)) fs s := by
  show Go _ A Φ _ (.point [] fun _ => ((execs body env).onRaise (leaving env)) >>= _) fs s
  refine go_point ?_
  rw [Sem.onRaise_eq_wrap, Sem.bind_eq_wrap', Sem.wrap_wrap]
  rw [Sem.wrap_congr (execs body env) _ _ (K' := fun f => .pure (.done (.ret (match f with | .ret v => v | _ => .none))))
    (H' := fun e => (leaving env e).wrap (fun _ => .raise e) .raise id id) (fun f => by cases f <;> rfl)
    (fun e => by rw [Sem.bind_eq_wrap, Sem.wrap_wrap]; rfl)]
  exact h
end
/-! ### waking -/
def Goes (M : Model) (A : Around) (Φ : End → Shared → Prop) (gs : GenState) (s : Shared) : Prop :=
  match gs with
  | .fresh c => Go M A Φ c (M.den c) [] s
  | .suspended k _ c _ fs _ => Go M A Φ c (k (.send .none)) fs s
  | _ => False
theorem wpAny_resumeGo {M : Model} {A : Around} {Φ : End → Shared → Prop} {E : Value → Shared → Prop} {s : Shared} {g : Nat} {gs : GenState} {l : List Value} {α : Type} {k : GenResult → Sem α} {Q : α → Shared → Prop}
    (hg : s.gens[g]? = some gs) (hgo : Goes M A Φ gs (s.setGen g .running)) (hq : ∀ e s1, Φ e s1 → e.quiet = true)
    (h : ∀ e s1, Φ e s1 → wpAny M A (k e.result) Q E (s1.setGen g e.genState)) : wpAny M A (.resume g (.send .none) l k) Q E s := by
  intro Γ p hΓ
  rw [Sem.wp_resume]
  have hB : ∀ c, (Γ.wake c p).Woken A := fun c => hΓ.wake c p
  cases gs with
  | fresh c =>
    obtain ⟨e₁, s₁, hr, he⟩ := hgo (Γ.wake c p) p rfl (hB c)
    exact ⟨_, _, by unfold Wakes; rw [hg]; exact ⟨e₁, s₁, hr, hq e₁ s₁ he, rfl, rfl⟩, h e₁ s₁ he Γ p hΓ⟩
  | suspended k₀ l₀ c₀ p₀ fs₀ cl =>
    obtain ⟨e₁, s₁, hr, he⟩ := hgo (Γ.wake c₀ p) p₀ rfl (hB c₀)
    exact ⟨_, _, by unfold Wakes; rw [hg]; exact ⟨e₁, s₁, hr, hq e₁ s₁ he, rfl, rfl⟩, h e₁ s₁ he Γ p hΓ⟩
  | running => exact hgo.elim
  | finished => exact hgo.elim
/-- next of a generator that raises nothing -/
theorem next_go {P : Program} {w : World} {A : Around} {E : Value → Shared → Prop} {s : Shared} {a : Addr} {g : Nat} {gs : GenState} {Φ : End → Shared → Prop} {Q : Option Value → Shared → Prop} (hh : A.handled = none)
    (hl : s.heap.NoLimit) (hroom : A.depth < recursionLimit) (hg : s.heap.IsGen a g) (hgs : s.gens[g]? = some gs) (hgo : Goes (model P w) A.in1 Φ gs (s.setGen g .running)) (hq : ∀ e s1, Φ e s1 → e.quiet = true)
    (hY : ∀ v gg l k c p fs s1, Φ (.susp v gg l k c p fs) s1 → Q (some v) (s1.setGen g (End.susp v gg l k c p fs).genState))
    (hP : ∀ r s1, Φ (.ret r) s1 → (r = .ok (.ret .none) ∨ r = .ok .next) ∧ ∀ h', (∀ b o, s1.heap.get? b = some o → h'.get? b = some o) → Q none { s1.setGen g .finished with heap := h' }) :
    wpAny (model P w) A (pyNext (.ref a)) Q E s := by
  unfold pyNext
  refine wpAny_bind (wpAny_attempt (wpAny_callSpecial?_slot (name := Str.ofString "__next__") hg.typeIs slot_gen_next
    (wpAny_call_entry slot_gen_next hg.typeIs entry_gen_next ?_ (args_gen_next _))))
  show wpAny _ A.in1 (Builtin.Generator.genWake (.ref a) (.send .none)) _ _ s
  unfold Builtin.Generator.genWake
  refine wpAny_bind (wpAny_holding (wpAny_genNumber hg (wpAny_bind (wpAny_genState hgs ?_))))
  cases gs with
  | running => exact hgo.elim
  | finished => exact hgo.elim
  | _ =>
    refine wpAny_bind (wpAny_roomToWake hl hroom ?_)
    show wpAny _ A.in1 (.resume g (.send .none) [] _) _ _ s
    refine wpAny_resumeGo hgs hgo hq fun e s₁ he => ?_
    cases e with
    | ret x =>
      obtain ⟨hr, hp⟩ := hP x s₁ he
      have hres : End.result (.ret x) = .returned .none := by
        rcases hr with hr | hr <;> rw [hr] <;> rfl
      first | rw [hres] | simp only [hres]
      show wpAny _ A.in1 (newExc (.type "StopIteration") [] >>= _) _ _ _
      refine wpAny_bind ?_
      simp only [newExc, newTuple]
      refine wpAny_bind (wpAny_newObj_type ?_ (by size_fits))
      refine wpAny_bind (m := firstArgMember _ _) (wpAny_of_eq (a := Value.none) (by first | rfl | (simp only [firstArgMember]; rfl)) ?_)
      refine wpAny_newObj_type ?_ (by size_fits)
      simp only [raiseNew]
      refine wpAny_bind (wpAny_bind (wpAny_handled ?_))
      first | rw [show A.in1.handled = none from hh] | rw [hh]
      refine wpAny_throw ?_
      refine wpAny_bind (wpAny_isInstance (T := "StopIteration") (b := true) ⟨_, Heap.get?_push_size _ rfl, rfl⟩ isSubtype_stop ?_)
      exact wpAny_pure (hp _ fun b o hb => Heap.get?_push_of_some _ (Heap.get?_push_of_some _ hb))
    | susp v gg l k c p fs => exact wpAny_pure ⟨v, rfl, wpAny_pure (hY v gg l k c p fs s₁ he)⟩
/-! ### one turn of a for -/
theorem for_turn {prog : Program} {w : World} {A : Around} {s : Shared} {R : Result → Shared → Prop} {target it body orelse env}
    (turn : wpAny (model prog w) A (pyNext it) (fun r s₁ => match r with
      | none => wpAny (model prog w) A (execs orelse env) (fun f s₃ => R (.ok f) s₃) (notedBy (model prog w) A env fun e s' => R (.error e) s') s₁
      | some v => wpAny (model prog w) A (letOwnedTupleGo target it v) (fun _ s₁' =>
          wpAny (model prog w) A (assign target env v) (fun _ s₂ => wpAny (model prog w) A (execs body env) (fun f s₃ => match f with
            | .next | .cont => codeAny (model prog w) A (.forLoop target it body orelse env) R s₃
            | .brk => R (.ok .next) s₃
            | .ret v => R (.ok (.ret v)) s₃) (notedBy (model prog w) A env fun e s' => R (.error e) s') s₂) (notedBy (model prog w) A env fun e s' => R (.error e) s') s₁') (notedBy (model prog w) A env fun e s' => R (.error e) s') s₁) (notedBy (model prog w) A env fun e s' => R (.error e) s') s) :
    codeAny (model prog w) A (.forLoop target it body orelse env) R s := by
  refine codeAny_loop' rfl (fun _ s' => s' = s) (fun n s' hs => ?_) 0 rfl
  subst hs
  show wpAny _ A ((forTurn target it body orelse env).onRaise (fun x => do noteFrame x env; theTreesLotGoes x)) _ _ s'
  refine wpAny_noted ?_
  simp only [forTurn]
  refine wpAny_bind (wpAny_standAt (wpAny_bind (wpAny_onRaise (wpAny_mono turn (fun r s₁ h₁ => ?_) fun _ _ h' => wpAny_standAt h'))))
  cases r with
  | none => exact wpAny_pure (.inr ⟨rfl, codeAny_block h₁⟩)
  | some v =>
    refine wpAny_bind (wpAny_mono h₁ (fun _ s₁' h₁' => ?_) fun _ _ h' => h')
    refine wpAny_bind (wpAny_mono h₁' (fun _ s₂ h₂ => wpAny_bind (wpAny_mono h₂ (fun f s₃ h₃ => ?_) fun _ _ h' => h')) fun _ _ h' => h')
    cases f with
    | next => exact wpAny_pure (.inr ⟨rfl, h₃⟩)
    | cont => exact wpAny_pure (.inr ⟨rfl, h₃⟩)
    | brk => exact wpAny_pure h₃
    | ret v => exact wpAny_pure h₃
end G

set_option maxHeartbeats 1000000
/-! G2: a generator's state between two pauses -/
namespace N
open PySem PySem.Spec PyProof.Rows GenW L2 G
def cutH (L : Nat) (h : Heap) : Heap := ⟨h.objs.extract 0 L, h.life⟩
def cut (L : Nat) (s : Shared) : Shared := { s with heap := cutH L s.heap }
theorem cut_get {L : Nat} {h : Heap} {b : Addr} {o : Obj} (e : (cutH L h).get? b = some o) : h.get? b = some o ∧ b < L := by
  obtain ⟨e, al⟩ := (Heap.get?_eq_some _ _ _).mp e
  have e : (h.objs.extract 0 L)[b]? = some o := e
  rw [Array.getElem?_extract] at e
  split at e
  · rename_i q
    rw [Nat.zero_add] at e
    exact ⟨(Heap.get?_eq_some _ _ _).mpr ⟨e, al⟩, Nat.lt_of_lt_of_le q (Nat.le_trans (Nat.sub_le _ _) (Nat.min_le_left _ _))⟩
  · cases e
theorem cut_of {L : Nat} {h : Heap} {b : Addr} {o : Obj} (e : h.get? b = some o) (hb : b < L) : (cutH L h).get? b = some o := by
  have hs := Heap.lt_size e
  obtain ⟨e, al⟩ := (Heap.get?_eq_some _ _ _).mp e
  refine (Heap.get?_eq_some _ _ _).mpr ⟨?_, al⟩
  show (h.objs.extract 0 L)[b]? = some o
  rw [Array.getElem?_extract, if_pos (by rw [Nat.sub_zero]; exact Nat.lt_min.mpr ⟨hb, hs⟩), Nat.zero_add]
  exact e
theorem cut_size {L : Nat} {h : Heap} : (cutH L h).objs.size ≤ L := by
  show (h.objs.extract 0 L).size ≤ L
  rw [Array.size_extract]; omega
/-- a generator's activation -/
structure GD where
  P : Program
  w : World
  K : PySem.W.Frag
  mg : Str → Option Value
  base : Heap
  N : List Str
  env : Env
  A : Around
  outer : List Env
  pn : List (Addr × Obj)
abbrev GD.L (D : GD) : Addr := D.env.locals
def GD.cx (D : GD) (s : Shared) (H : Hp) : Cx := { prog := D.P, w := D.w, K := D.K, mg := D.mg, base := D.base, A := D.A, N := D.N, s_0 := s, H_0 := H, env := D.env, outer := D.outer, stack := D.env :: D.outer, ex := [], fn := fun _ => true, calm := true, pn := D.pn, xe := fun _ _ => False }
structure GD.Ok (D : GD) : Prop where
  mod : Mod D.K D.mg D.base
  kind : D.env.scope.kind = .function
  glob : D.env.globals = mainGlobals
  blt : D.env.builtins = builtinsNs
  cells : D.env.cells = []
  nok : ∀ x, ¬ (D.env.kindOf x = some .cell ∨ D.env.kindOf x = some .free)
  hd : D.A.handled = none
  frames : D.A.frames = some (D.env :: D.outer)
  frame : D.env.frame = some D.env.locals
  bsz : D.base.objs.size ≤ D.L
  frl : ∀ b ∈ frs D.outer, b < D.L
  pnl : ∀ p ∈ D.pn, D.L < p.1 ∧ ∀ v, p.2.data ≠ .cell v
structure GD.At (D : GD) (s : Shared) (H : Hp) : Prop where
  bs : ∀ b o, D.base.get? b = some o → s.heap.get? b = some o ∧ H b = none
  funs : s.heap.FunFrames D.base D.outer
  frf : ∀ b ∈ frs D.outer, H b = none
  hok : HOk D.P D.w H s.heap
  bare : AllBare s.gens
  pin : ∀ p ∈ D.pn, s.heap.get? p.1 = some p.2 ∧ H p.1 = none
  fr : H D.L = none
  lob : ∃ ob, s.heap.get? D.L = some ob ∧ ∀ v, ob.data ≠ .cell v
def GD.Lo (D : GD) (σ : L2.St) (s : Shared) : Prop := (∃ m, s.heap.Ns D.L m ∧ ∀ (i : Nat) (x : Str) (v : V), D.N[i]? = some x → σ[i]? = some (some v) → Vis D.env.scope x → ∃ u, RelV v u ∧ Look D.env s.heap m x u) ∧ σ.length = D.N.length
def GD.Young (D : GD) (pins : List (Addr × Obj)) (s : Shared) (H : Hp) : Prop := ∀ p ∈ pins, s.heap.get? p.1 = some p.2 ∧ H p.1 = none ∧ D.L < p.1 ∧ ∀ v, p.2.data ≠ .cell v
theorem funs_cut {base h : Heap} {L : Nat} : ∀ {l : List Env}, h.FunFrames base l → (∀ b ∈ frs l, b < L) → (cutH L h).FunFrames base l
  | [], _, _ => trivial
  | env :: r, h1, h2 => by
    obtain ⟨hk, ⟨L', o, hf, hn, ho, hd⟩, hr⟩ := h1
    have hL : L' ∈ frs (env :: r) := by unfold frs; rw [List.filterMap_cons, hf]; exact List.mem_cons_self
    exact ⟨hk, ⟨L', o, hf, hn, cut_of ho (h2 L' hL), hd⟩, funs_cut hr fun b hb => h2 b (by unfold frs; rw [List.filterMap_cons, hf]; exact List.mem_cons_of_mem _ hb)⟩
theorem GD.inv {D : GD} (ok : D.Ok) {s : Shared} {H : Hp} (a : D.At s H) {σ : L2.St} (lo : D.Lo σ s) {pins : List (Addr × Obj)} (y : D.Young pins s H) : Inv (D.cx (cut D.L s) H) pins σ H s := by
  have nfs : ∀ b, D.L ≤ b → b ∉ frs D.outer := fun b hb hm => absurd (ok.frl b hm) (Nat.not_lt.mpr hb)
  have noc : ∀ x c, D.env.cells.lookup x = some c → False := fun x c e => by rw [ok.cells] at e; cases e
  have noA : ∀ b : Addr, b ∈ ([] : List Addr) → False := fun b z => by cases z
  have Ls : D.L < s.heap.objs.size := let ⟨⟨_, hn, _⟩, _⟩ := lo; hn.lt
  have bsz2 : D.base.objs.size ≤ (cutH D.L s.heap).objs.size := by
    show _ ≤ (s.heap.objs.extract 0 D.L).size
    rw [Array.size_extract, Nat.sub_zero]
    exact Nat.le_min.mpr ⟨ok.bsz, Nat.le_trans ok.bsz (Nat.le_of_lt Ls)⟩
  refine ⟨⟨ok.mod, ok.kind, ok.glob, ok.blt, cut_size, fun y z c h1 h2 => (noc _ _ h1).elim, fun y hy => (ok.nok y hy).elim, fun y c _ h => (noc _ _ h).elim, fun _ => ok.hd, ok.frames, .inr ⟨rfl, ok.frame⟩, fun b z => (noA b z).elim,
      fun b o e => ⟨cut_of (a.bs b o e).1 (Nat.lt_of_lt_of_le (Heap.lt_size e) ok.bsz), (a.bs b o e).2⟩, bsz2, fun b _ _ => noA b, fun b z => (noA b z).elim, funs_cut a.funs ok.frl, a.frf⟩,
    rfl, a.bare, ?_, lo.1, fun x c e => (noc _ _ e).elim, a.fr, fun x c e => (noc _ _ e).elim, fun p hp => ?_, a.hok, lo.2⟩
  · exact ⟨fun b o e _ _ _ => (cut_get e).1, fun b o e _ _ _ => ⟨o.slots, (cut_get e).1⟩, fun b o e h _ => h, fun b o e _ => ⟨o, (cut_get e).1⟩, fun b xs e => e, fun b o u e => e, fun b ps e => ⟨#[], by rw [Array.append_empty]; exact e⟩⟩
  · rcases List.mem_append.mp hp with hp | hp
    · exact ⟨(a.pin p hp).1, (a.pin p hp).2, Nat.ne_of_gt (ok.pnl p hp).1, nfs _ (Nat.le_of_lt (ok.pnl p hp).1), (ok.pnl p hp).2⟩
    · obtain ⟨h1, h2, h3, h4⟩ := y p hp
      exact ⟨h1, h2, Nat.ne_of_gt h3, nfs _ (Nat.le_of_lt h3), h4⟩
theorem GD.at_of {D : GD} {s0 s : Shared} {H0 H : Hp} {σ : L2.St} {pins : List (Addr × Obj)} (I : Inv (D.cx s0 H0) pins σ H s) : D.At s H ∧ D.Lo σ s :=
  ⟨⟨I.bs, I.funs, fun b hb => I.stkFree b (by
      show b ∈ frs (D.env :: D.outer)
      unfold frs
      rw [List.filterMap_cons]
      cases D.env.frame with
      | none => exact hb
      | some _ => exact List.mem_cons_of_mem _ hb), I.hok, I.bare, fun p hp => ⟨(I.pin p (List.mem_append_left _ hp)).1, (I.pin p (List.mem_append_left _ hp)).2.1⟩, I.free, let ⟨m, ⟨o, es, ep, ho, hd, _⟩, _⟩ := I.loc; ⟨o, ho, fun v q => by rw [hd] at q; cases q⟩⟩, I.loc, I.len⟩
/-- what a segment changes -/
def GD.May (D : GD) (ip : List (Addr × Obj)) (s : Shared) (b : Addr) : Prop := b = D.L ∨ (D.L < b ∧ ((∃ v, s.heap.IsCell b v) ∨ ∃ p ∈ ip, p.1 = b))
structure GD.Step (D : GD) (ip : List (Addr × Obj)) (s0 : Shared) (H0 : Hp) (s : Shared) (H : Hp) : Prop where
  os : s.os = s0.os
  un : ∃ ch, Un (frs D.outer) ch H0 H s0.heap s.heap ∧ ∀ b ∈ ch, D.May ip s0 b
/-- the young things that stay -/
def isCell (o : Obj) : Bool := match o.data with | .cell _ => true | _ => false
theorem isCell_of {o : Obj} (h : isCell o = true) : ∃ v, o.data = .cell v := by
  unfold isCell at h
  split at h
  · exact ⟨_, by assumption⟩
  · cases h
theorem not_cell {o : Obj} (h : isCell o = false) : ∀ v, o.data ≠ .cell v := fun v e => by
  unfold isCell at h
  rw [e] at h
  cases h
def GD.yp (D : GD) (ip : List (Addr × Obj)) (s : Shared) (H : Hp) : List (Addr × Obj) := (List.range s.heap.objs.size).filterMap fun b =>
  match s.heap.get? b with
  | some o => if D.L < b ∧ (H b).isNone = true ∧ isCell o = false ∧ ip.all (fun p => p.1 != b) = true then some (b, o) else none
  | none => none
theorem GD.yp_young {D : GD} {ip : List (Addr × Obj)} {s : Shared} {H : Hp} : D.Young (D.yp ip s H) s H := fun p hp => by
  obtain ⟨b, _, e⟩ := List.mem_filterMap.mp hp
  split at e
  · rename_i o q
    split at e
    · rename_i c
      cases e
      exact ⟨q, by simpa using c.2.1, c.1, not_cell c.2.2.1⟩
    · cases e
  · cases e
theorem GD.yp_ne {D : GD} {ip : List (Addr × Obj)} {s : Shared} {H : Hp} : ∀ p ∈ D.yp ip s H, ∀ q ∈ ip, q.1 ≠ p.1 := fun p hp q hq => by
  obtain ⟨b, _, e⟩ := List.mem_filterMap.mp hp
  split at e
  · split at e
    · rename_i c
      cases e
      have := List.all_eq_true.mp c.2.2.2 q hq
      simpa using this
    · cases e
  · cases e
theorem GD.mem_yp {D : GD} {ip : List (Addr × Obj)} {s : Shared} {H : Hp} {b : Addr} {o : Obj} (e : s.heap.get? b = some o) (h1 : D.L < b) (h2 : H b = none) (h3 : isCell o = false) (h4 : ∀ p ∈ ip, p.1 ≠ b) : (b, o) ∈ D.yp ip s H := by
  refine List.mem_filterMap.mpr ⟨b, List.mem_range.mpr (Heap.lt_size e), ?_⟩
  rw [e]
  refine if_pos ⟨h1, by rw [h2]; rfl, h3, ?_⟩
  exact List.all_eq_true.mpr fun p hp => by simpa using h4 p hp
theorem GD.step {D : GD} (ok : D.Ok) {K : PySem.W.Frag} {mg : Str → Option Value} {ip ip0 : List (Addr × Obj)} {s0 s : Shared} {H0 H : Hp} {σ : L2.St} {ι0 ι : Ix} {h0 h : List O} (hok0 : HOk D.P D.w H0 s0.heap)
    (I : Inv (D.cx (cut D.L s0) H0) (ip ++ D.yp ip0 s0 H0) σ H s) (g : Grow ι0 ι H0 H) (f0 : Fit K mg ι0 H0 h0) (f : Fit K mg ι H h) : D.Step ip0 s0 H0 s H := by
  let cs : List Addr := (List.range s0.heap.objs.size).filter fun b => D.L < b && (match s0.heap.get? b with | some o => isCell o | none => false)
  have hcs : ∀ b, b ∈ cs → D.May ip0 s0 b := fun b hb => by
    obtain ⟨_, e⟩ := List.mem_filter.mp hb
    cases q : s0.heap.get? b with
    | none => rw [q] at e; simp at e
    | some o =>
      rw [q] at e
      simp only [Bool.and_eq_true, decide_eq_true_eq] at e
      obtain ⟨v, hv⟩ := isCell_of e.2
      exact .inr ⟨e.1, .inl ⟨v, o, q, hv⟩⟩
  have hcs2 : ∀ b o, s0.heap.get? b = some o → D.L < b → isCell o = true → b ∈ cs := fun b o e h1 h2 => List.mem_filter.mpr ⟨List.mem_range.mpr (Heap.lt_size e), by rw [e]; simp [h1, h2]⟩
  let ipa : List Addr := (ip0.map (·.1)).filter fun b => D.L < b
  have old : ∀ b o, s0.heap.get? b = some o → b ∉ D.L :: (ipa ++ cs) → H0 b = none → b < D.L ∨ (b, o) ∈ D.yp ip0 s0 H0 := fun b o e hn hh => by
    rcases Nat.lt_trichotomy b D.L with q | q | q
    · exact .inl q
    · exact (hn (by rw [q]; exact List.mem_cons_self)).elim
    · refine .inr (GD.mem_yp e q hh ?_ fun p hp z => hn (List.mem_cons_of_mem _ (List.mem_append_left _ (List.mem_filter.mpr ⟨List.mem_map.mpr ⟨p, hp, z⟩, by simpa using q⟩))))
      cases hc : isCell o with
      | false => rfl
      | true => exact (hn (List.mem_cons_of_mem _ (List.mem_append_right _ (hcs2 b o e q hc)))).elim
  have noA : ∀ b : Addr, b ∉ ([] : List Addr) := fun b z => by cases z
  have hi : ∀ {p}, p ∈ D.yp ip0 s0 H0 → s.heap.get? p.1 = some p.2 ∧ H p.1 = none := fun {p} hp =>
    let q := I.pin p (List.mem_append_right _ (List.mem_append_right _ hp)); ⟨q.1, q.2.1⟩
  have tracked : ∀ b o, H0 b = some o → ∃ o', H b = some o' := fun b o e => by
    by_cases h1 : b ∈ ι0.num
    · obtain ⟨t, ht⟩ := g.g0.pre
      have h2 : b ∈ ι.num := by rw [ht]; exact List.mem_append_left _ h1
      obtain ⟨n, hn⟩ := List.mem_iff_getElem?.mp h2
      have hl : n < h.length := by rw [← f.len]; exact (List.getElem?_eq_some_iff.mp hn).1
      exact (f.obj n _ b (List.getElem?_eq_getElem hl) hn).trk
    · by_cases h2 : b ∈ ι0.hid
      · exact ⟨o, (g.hkeep b h2).trans e⟩
      · exact let ⟨_, o', e', _⟩ := g.g0.keep b o ⟨h1, h2⟩ e; ⟨o', e'⟩
  refine ⟨I.os, D.L :: (ipa ++ cs), ⟨fun b o e hh hf hn => ?_, fun b o e hh hf hn => ?_, fun b o e hh hn => ?_, fun b o e hn => ?_, I.base.tups, I.base.frzs, I.base.tbls⟩, fun b hb => ?_⟩
  · rcases old b o e hn hh with q | q
    · exact I.base.keep b o (cut_of e q) hh hf (noA b)
    · exact (hi q).1
  · exact I.base.slot b o (cut_of e (ok.frl b hf)) hh hf (noA b)
  · rcases old b o e hn hh with q | q
    · exact I.base.free b o (cut_of e q) hh (noA b)
    · exact (hi q).2
  · cases hh : H0 b with
    | none =>
      rcases old b o e hn hh with q | q
      · exact I.base.there b o (cut_of e q) (noA b)
      · exact ⟨_, (hi q).1⟩
    | some u =>
      obtain ⟨u', e'⟩ := tracked b u hh
      cases q : s.heap.get? b with
      | some o' => exact ⟨o', rfl⟩
      | none =>
        have q2 := I.hok.gone q
        rw [e'] at q2; cases q2
  · rcases List.mem_cons.mp hb with q | q
    · exact .inl q
    · rcases List.mem_append.mp q with q | q
      · obtain ⟨q1, q2⟩ := List.mem_filter.mp q
        obtain ⟨p, hp, e⟩ := List.mem_map.mp q1
        exact .inr ⟨by simpa using q2, .inr ⟨p, hp, e⟩⟩
      · exact hcs b q
end N

set_option maxHeartbeats 1000000
/-! G3: what a generator's body does -/
namespace N
open PySem PySem.Spec PyProof.Rows GenW L2 G
/-- what comes next: it ends, or it hands out w and waits -/
inductive GO where
  | fin (r : SR)
  | yld (w : W) (h : List O) (k : List O → GO)
def GO.bind : GO → (SR → GO) → GO
  | .fin r, f => f r
  | .yld w h k, f => .yld w h fun h' => (k h').bind f
theorem GO.bind_bind (T : GO) (f g : SR → GO) : (T.bind f).bind g = T.bind fun r => (f r).bind g := by
  induction T with
  | fin r => rfl
  | yld w h k ih => exact congrArg (GO.yld w h) (funext fun h' => ih h')
abbrev MGn := Slo → List O → GO
def SR.thenG (f : Slo → List O → GO) : SR → GO
  | .nx σ h => f σ h
  | r => .fin r
def yPlain (m : MS) : MGn := fun σ h => .fin (m σ h)
def yNil : MGn := fun σ h => .fin (.nx σ h)
def ySeq (a b : MGn) : MGn := fun σ h => (a σ h).bind (SR.thenG b)
def yYield (m : ME) : MGn := fun σ h => match m σ h with
  | .ok w h' => .yld w h' fun h2 => .fin (.nx σ h2)
  | .exc x h' => .fin (.exc x σ h')
  | .stuck => .fin .stuck
def ER.thenG {α : Type} (σ : Slo) (r : ER α) (f : α → List O → GO) : GO := match r with
  | .ok a h => f a h
  | .exc x h => .fin (.exc x σ h)
  | .stuck => .fin .stuck
def yIf (t : MT) (a b : MGn) : MGn := fun σ h => (t σ h).thenG σ fun k h1 => if k = true then a σ h1 else b σ h1
def yWhile (t : MT) (b : MGn) : Nat → MGn
  | 0 => fun _ _ => .fin .stuck
  | F + 1 => fun σ h => (t σ h).thenG σ fun k h1 => if k = true then (b σ h1).bind (fun r => match r with
      | .nx σ' h' => yWhile t b F σ' h'
      | .ct σ' h' => yWhile t b F σ' h'
      | .bk σ' h' => .fin (.nx σ' h')
      | r => .fin r) else .fin (.nx σ h1)
/-- the end of the whole -/
def SR.ends : SR → Option (List O)
  | .nx _ h => some h
  | .rt .non h => some h
  | _ => none
def Safe : GO → Prop
  | .fin r => ∃ h, r.ends = some h
  | .yld .. => True
structure GD.Rest (D : GD) (A0 : Around) (g : Nat) (ip : List (Addr × Obj)) (s1 : Shared) (s2 : Shared) (H2 : Hp) : Prop where
  at' : D.At s2 H2
  fr : ∀ o, s1.heap.get? D.L = some o → s2.heap.get? D.L = some o
  ip : ∀ p ∈ ip, s2.heap.get? p.1 = some p.2 ∧ H2 p.1 = none
  gens : ∀ i x, i ≠ g → s1.gens[i]? = some x → asleep x = true → s2.gens[i]? = some x
/-- a promise of how a part of a run ends -/
def EndT (D : GD) (A0 : Around) (g : Nat) : GO → List (Addr × Obj) → Ix → Hp → Shared → End → Shared → Prop
  | .fin r => fun ip0 ι0 H0 s0 e s => e = .ret (.ok (.ret .none)) ∧ ∃ h ι H, r.ends = some h ∧ Grow ι0 ι H0 H ∧ Fit D.K D.mg ι H h ∧ D.At s H ∧ D.Step ip0 s0 H0 s H
  | .yld w h k => fun ip0 ι0 H0 s0 e s => ∃ v l kk c p fs ip ι H x, e = .susp v false l kk c p fs ∧ fs.any Frame.guarded = false ∧ Grow ι0 ι H0 H ∧ Fit D.K D.mg ι H h ∧ RW D.K D.mg ι H w x ∧ RelV x v ∧
      D.At s H ∧ D.Step ip0 s0 H0 s H ∧ D.Young ip s H ∧ ∀ s2 ι2 H2 h2, Safe (k h2) → Grow ι ι2 H H2 → Fit D.K D.mg ι2 H2 h2 → D.Rest A0 g ip s s2 H2 → Go (model D.P D.w) A0 (EndT D A0 g (k h2) ip ι2 H2 s2) c (kk (.send .none)) fs s2
/-- where the code stands -/
structure GCx (D : GD) (A0 : Around) (c : Code) (fs : List Frame) (gd : Bool → Bool) : Prop where
  over : A0.over c fs = D.A
  split : splitAtGen fs = none
  guard : fs.any Frame.guarded = false
  gd : gd false = false
/-- a segment has begun -/
structure Sg (D : GD) (ip0 : List (Addr × Obj)) (ι0 : Ix) (H0 : Hp) (s0 : Shared) : Prop where
  hok : HOk D.P D.w H0 s0.heap
  fit : ∃ h, Fit D.K D.mg ι0 H0 h
/-- it stands within a segment; gp: generators that sleep -/
structure InZ (D : GD) (g : Nat) (ip0 : List (Addr × Obj)) (ι0 : Ix) (H0 : Hp) (s0 : Shared) (ip : List (Addr × Obj)) (gp : List (Nat × GenState)) (h : List O) (s : Shared) (ι : Ix) (σ : L2.St) (H : Hp) : Prop where
  sg : Sg D ip0 ι0 H0 s0
  inv : Inv (D.cx (cut D.L s0) H0) (ip ++ D.yp ip0 s0 H0) σ H s
  young : ∀ p ∈ ip, D.L < p.1
  gr : Grow ι0 ι H0 H
  fit : Fit D.K D.mg ι H h
  gens : ∀ p ∈ gp, s.gens[p.1]? = some p.2 ∧ asleep p.2 = true ∧ p.1 ≠ g
structure InS (D : GD) (g : Nat) (ip0 : List (Addr × Obj)) (ι0 : Ix) (H0 : Hp) (s0 : Shared) (ip : List (Addr × Obj)) (gp : List (Nat × GenState)) (σn : Slo) (h : List O) (s : Shared) (ι : Ix) (σ : L2.St) (H : Hp) : Prop extends InZ D g ip0 ι0 H0 s0 ip gp h s ι σ H where
  sl : Sl D.K D.mg ι H none σn σ
def FlR (D : GD) (g : Nat) (ip0 : List (Addr × Obj)) (ι0 : Ix) (H0 : Hp) (s0 : Shared) (ip : List (Addr × Obj)) (gp : List (Nat × GenState)) (f : Flow) (r : SR) (s : Shared) : Prop := match r with
  | .nx σn h => f = .next ∧ ∃ ι σ H, InS D g ip0 ι0 H0 s0 ip gp σn h s ι σ H
  | .bk σn h => f = .brk ∧ ∃ ι σ H, InS D g ip0 ι0 H0 s0 ip gp σn h s ι σ H
  | .ct σn h => f = .cont ∧ ∃ ι σ H, InS D g ip0 ι0 H0 s0 ip gp σn h s ι σ H
  | .rt w h => ∃ u v ι σ H, f = .ret u ∧ RelV v u ∧ RW D.K D.mg ι H w v ∧ InZ D g ip0 ι0 H0 s0 ip gp h s ι σ H
  | _ => False
/-- what follows -/
structure GKx (D : GD) (A0 : Around) (g : Nat) (c : Code) (fs : List Frame) (ip : List (Addr × Obj)) (gp : List (Nat × GenState)) (K : Flow → Sem PySem.Fin) (Kt : SR → GO) : Prop where
  ok : ∀ ip0 ι0 H0 s0 f r s, FlR D g ip0 ι0 H0 s0 ip gp f r s → Safe (Kt r) → Go (model D.P D.w) A0 (EndT D A0 g (Kt r) ip0 ι0 H0 s0) c (K f) fs s
  bad : ¬ Safe (Kt .stuck) ∧ ∀ x σ h, ¬ Safe (Kt (.exc x σ h))
structure NY (D : GD) (A0 : Around) (g : Nat) (st : Stmt) (m : MGn) : Prop where
  run : ∀ {c fs gd K J lv Kt ip gp}, GCx D A0 c fs gd → GKx D A0 g c fs ip gp K Kt → D.Ok → ∀ ip0 ι0 H0 s0 σn h s ι σ H, InS D g ip0 ι0 H0 s0 ip gp σn h s ι σ H → Safe ((m σn h).bind Kt) →
    Go (model D.P D.w) A0 (EndT D A0 g ((m σn h).bind Kt) ip0 ι0 H0 s0) c ((exec st D.env).wrap K J gd lv) fs s
structure NYs (D : GD) (A0 : Around) (g : Nat) (st : List Stmt) (m : MGn) : Prop where
  run : ∀ {c fs gd K J lv Kt ip gp}, GCx D A0 c fs gd → GKx D A0 g c fs ip gp K Kt → D.Ok → ∀ ip0 ι0 H0 s0 σn h s ι σ H, InS D g ip0 ι0 H0 s0 ip gp σn h s ι σ H → Safe ((m σn h).bind Kt) →
    Go (model D.P D.w) A0 (EndT D A0 g ((m σn h).bind Kt) ip0 ι0 H0 s0) c ((execs st D.env).wrap K J gd lv) fs s
theorem Inv.of_heap {X : Cx} {pins : List (Addr × Obj)} {σ : L2.St} {H : Hp} {s z : Shared} (I : Inv X pins σ H z) (h : s.heap = z.heap) (o : s.os = z.os) (b : AllBare s.gens) : Inv X pins σ H s :=
  ⟨I.ok, o.trans I.os, b, by rw [h]; exact I.base, by rw [h]; exact I.loc, by rw [h]; exact I.cell, I.free, I.freeC, by rw [h]; exact I.pin, by rw [h]; exact I.hok, I.len⟩
theorem Inv.lull {X : Cx} {pins : List (Addr × Obj)} {σ : L2.St} {H : Hp} {s : Shared} (I : Inv X pins σ H s) : Inv X pins σ H (lull s) := Inv.of_heap I rfl rfl (lull_bare I.bare)
theorem Inv.wake {X : Cx} {pins : List (Addr × Obj)} {σ : L2.St} {H : Hp} {s s' z : Shared} (k : Kept s s' z) (I : Inv X pins σ H z) : Inv X pins σ H s' := Inv.of_heap I k.heap k.os (k.bare I.bare)
section
variable {D : GD} {A0 : Around} {g : Nat} {st : Stmt} {rest : List Stmt} {e c : Expr} {pos : Pos}
/-- the ends of a plain statement -/
def plainEnds (D : GD) (ι : Ix) (H : Hp) (r : SR) : Ends where
  nx := fun σ' H' => ∃ ι' σn h', r = .nx σn h' ∧ Grow ι ι' H H' ∧ Fit D.K D.mg ι' H' h' ∧ Sl D.K D.mg ι' H' none σn σ'
  rt := fun v H' => ∃ ι' w h', r = .rt w h' ∧ Grow ι ι' H H' ∧ Fit D.K D.mg ι' H' h' ∧ RW D.K D.mg ι' H' w v
  bk := fun σ' H' => ∃ ι' σn h', r = .bk σn h' ∧ Grow ι ι' H H' ∧ Fit D.K D.mg ι' H' h' ∧ Sl D.K D.mg ι' H' none σn σ'
  ct := fun σ' H' => ∃ ι' σn h', r = .ct σn h' ∧ Grow ι ι' H H' ∧ Fit D.K D.mg ι' H' h' ∧ Sl D.K D.mg ι' H' none σn σ'
theorem plain_ends {ι : Ix} {H : Hp} {r : SR} (h1 : r ≠ .stuck) (h2 : ∀ x σ h, r ≠ .exc x σ h) : AftS D.K D.mg none ι H r (plainEnds D ι H r) E00 := by
  cases r with
  | nx σn h' => exact fun ι2 σ2 H2 g2 f2 s2 => ⟨ι2, σn, h', rfl, g2, f2, s2⟩
  | rt w h' => exact fun ι2 v H2 g2 f2 r2 => ⟨ι2, w, h', rfl, g2, f2, r2⟩
  | bk σn h' => exact fun ι2 σ2 H2 g2 f2 s2 => ⟨ι2, σn, h', rfl, g2, f2, s2⟩
  | ct σn h' => exact fun ι2 σ2 H2 g2 f2 s2 => ⟨ι2, σn, h', rfl, g2, f2, s2⟩
  | exc x σ h => exact (h2 x σ h rfl).elim
  | stuck => exact (h1 rfl).elim
theorem InZ.same {ip0 : List (Addr × Obj)} {ι0 : Ix} {H0 : Hp} {s0 : Shared} {ip : List (Addr × Obj)} {gp : List (Nat × GenState)} {h h' : List O} {s s' z : Shared} {ι ι' : Ix} {σ σ' : L2.St} {H H' : Hp}
    (x : InZ D g ip0 ι0 H0 s0 ip gp h s ι σ H) (k : Kept s s' z) (I : Inv (D.cx (cut D.L s0) H0) (ip ++ D.yp ip0 s0 H0) σ' H' z) (g2 : Grow ι ι' H H') (f : Fit D.K D.mg ι' H' h') : InZ D g ip0 ι0 H0 s0 ip gp h' s' ι' σ' H' :=
  ⟨x.sg, Inv.wake k I, x.young, x.gr.trans g2, f, fun p hp => ⟨k.gen (x.gens p hp).1 (x.gens p hp).2.1, (x.gens p hp).2⟩⟩
/-- the part of a run that hands nothing out -/
theorem go_part {α : Type} {t : Sem α} {K : α → Sem PySem.Fin} {J : Value → Sem PySem.Fin} {gd : Bool → Bool} {lv : List Value → List Value} {Φ : End → Shared → Prop} {c : Code} {fs : List Frame} {s : Shared} {Q : α → Shared → Prop} (x : GCx D A0 c fs gd)
    (h : wpAny (model D.P D.w) D.A t Q (fun _ _ => False) (lull s)) (k : ∀ a s' z, Kept s s' z → Q a z → Go (model D.P D.w) A0 Φ c (K a) fs s') : Go (model D.P D.w) A0 Φ c (t.wrap K J gd lv) fs s := by
  refine go_wrap ?_
  rw [x.over]
  exact wpAny_mono (wpAny_beside h) (fun a s' ⟨z, hk, q⟩ => k a s' z hk q) fun _ _ ⟨_, _, q⟩ => q.elim
theorem SR.bad_elim {Kt : SR → GO} {r : SR} (b : ¬ Safe (Kt .stuck) ∧ ∀ x σ h, ¬ Safe (Kt (.exc x σ h))) (hs : Safe (Kt r)) : r ≠ .stuck ∧ ∀ x σ h, r ≠ .exc x σ h :=
  ⟨fun e => b.1 (e ▸ hs), fun x σ h e => b.2 x σ h (e ▸ hs)⟩
theorem plain_fl {ip0 : List (Addr × Obj)} {ι0 : Ix} {H0 : Hp} {s0 : Shared} {ip : List (Addr × Obj)} {gp : List (Nat × GenState)} {σn : Slo} {h : List O} {s s' z : Shared} {ι : Ix} {σ : L2.St} {H : Hp} {f : Flow} {r : SR}
    (x : InS D g ip0 ι0 H0 s0 ip gp σn h s ι σ H) (k : Kept s s' z) (q : SP (D.cx (cut D.L s0) H0) (ip ++ D.yp ip0 s0 H0) (plainEnds D ι H r) f z) : FlR D g ip0 ι0 H0 s0 ip gp f r s' := by
  cases f with
  | next =>
    obtain ⟨σ', H', I, ι', σn', h', e, g2, f2, s2⟩ := q
    subst e
    exact ⟨rfl, ι', σ', H', { toInZ := x.toInZ.same k I g2 f2, sl := s2 }⟩
  | brk =>
    obtain ⟨σ', H', I, ι', σn', h', e, g2, f2, s2⟩ := q
    subst e
    exact ⟨rfl, ι', σ', H', { toInZ := x.toInZ.same k I g2 f2, sl := s2 }⟩
  | cont =>
    obtain ⟨σ', H', I, ι', σn', h', e, g2, f2, s2⟩ := q
    subst e
    exact ⟨rfl, ι', σ', H', { toInZ := x.toInZ.same k I g2 f2, sl := s2 }⟩
  | ret u =>
    obtain ⟨v, σ', H', I, rv, ι', w, h', e, g2, f2, r2⟩ := q
    subst e
    exact ⟨u, v, ι', σ', H', rfl, rv, r2, x.toInZ.same k I g2 f2⟩
theorem ny_plain {m : MS} (hs : ∀ s H, NS (D.cx s H) E00 st m) : NY D A0 g st (yPlain m) := by
  refine ⟨fun {c fs gd K J lv Kt ip gp} x k ok ip0 ι0 H0 s0 σn h s ι σ H z sf => ?_⟩
  have b := SR.bad_elim k.bad (show Safe (Kt (m σn h)) from sf)
  refine go_part x ((hs _ _).run _ (lull s) σ H (plainEnds D ι H (m σn h)) (Inv.lull z.inv) ⟨ι, σn, h, z.fit, z.sl, plain_ends b.1 b.2⟩) fun f s' zz hk q => ?_
  exact k.ok ip0 ι0 H0 s0 f (m σn h) s' (plain_fl z hk q) sf
theorem nys_plain {m : MS} (hs : ∀ s H, NSs (D.cx s H) E00 rest m) : NYs D A0 g rest (yPlain m) := by
  refine ⟨fun {c fs gd K J lv Kt ip gp} x k ok ip0 ι0 H0 s0 σn h s ι σ H z sf => ?_⟩
  have b := SR.bad_elim k.bad (show Safe (Kt (m σn h)) from sf)
  refine go_part x ((hs _ _).run _ (lull s) σ H (plainEnds D ι H (m σn h)) (Inv.lull z.inv) ⟨ι, σn, h, z.fit, z.sl, plain_ends b.1 b.2⟩) fun f s' zz hk q => ?_
  exact k.ok ip0 ι0 H0 s0 f (m σn h) s' (plain_fl z hk q) sf
theorem nys_nil : NYs D A0 g [] yNil := by
  refine ⟨fun {c fs gd K J lv Kt ip gp} x k ok ip0 ι0 H0 s0 σn h s ι σ H z sf => ?_⟩
  exact go_nil (k.ok ip0 ι0 H0 s0 .next (.nx σn h) s ⟨rfl, ι, σ, H, z⟩ sf)
theorem nys_cons {a b : MGn} (ha : NY D A0 g st a) (hb : NYs D A0 g rest b) : NYs D A0 g (st :: rest) (ySeq a b) := by
  refine ⟨fun {c fs gd K J lv Kt ip gp} x k ok ip0 ι0 H0 s0 σn h s ι σ H z sf => ?_⟩
  refine go_cons ?_
  unfold ySeq at sf ⊢
  rw [GO.bind_bind] at sf ⊢
  refine ha.run (Kt := fun r => (SR.thenG b r).bind Kt) x ⟨fun ip0 ι0 H0 s0 f r s hf hs => ?_, k.bad⟩ ok ip0 ι0 H0 s0 σn h s ι σ H z sf
  cases r with
  | nx σ' h' =>
    obtain ⟨rfl, ι, σ, H, z⟩ := hf
    exact hb.run x k ok ip0 ι0 H0 s0 σ' h' s ι σ H z hs
  | bk σ' h' => obtain ⟨rfl, q⟩ := hf; exact k.ok ip0 ι0 H0 s0 .brk (.bk σ' h') s ⟨rfl, q⟩ hs
  | ct σ' h' => obtain ⟨rfl, q⟩ := hf; exact k.ok ip0 ι0 H0 s0 .cont (.ct σ' h') s ⟨rfl, q⟩ hs
  | rt w h' => obtain ⟨u, v, ι, σ, H, rfl, q⟩ := hf; exact k.ok ip0 ι0 H0 s0 (.ret u) (.rt w h') s ⟨u, v, ι, σ, H, rfl, q⟩ hs
  | exc x' σ' h' => exact hf.elim
  | stuck => exact hf.elim
end
end N

set_option maxHeartbeats 1000000
/-! G4: yield, if, while of a generator -/
namespace N
open PySem PySem.Spec PyProof.Rows GenW L2 G
theorem GD.Lo.keep {D : GD} (ok : D.Ok) {σ : L2.St} {s s2 : Shared} (lo : D.Lo σ s) (h : ∀ o, s.heap.get? D.L = some o → s2.heap.get? D.L = some o) : D.Lo σ s2 := by
  obtain ⟨⟨m, ⟨o, es, ep, ho, r⟩, hm⟩, hl⟩ := lo
  refine ⟨⟨m, ⟨o, es, ep, h o ho, r⟩, fun i x v h1 h2 h3 => ?_⟩, hl⟩
  obtain ⟨u, ru, lk⟩ := hm i x v h1 h2 h3
  refine ⟨u, ru, ?_⟩
  rcases lk with lk | lk
  · exact .inl lk
  · exact (ok.nok x lk.1).elim
section
variable {D : GD} {A0 : Around} {g : Nat} {st : Stmt} {rest : List Stmt} {e c : Expr} {pos : Pos}
/-- the next segment begins -/
theorem InS.again {ip0 : List (Addr × Obj)} {ι0 : Ix} {H0 : Hp} {s0 : Shared} {ip : List (Addr × Obj)} {gp : List (Nat × GenState)} {h h2 : List O} {s s2 : Shared} {ι ι2 : Ix} {σ : L2.St} {H H2 : Hp} {σn : Slo}
    (ok : D.Ok) (x : InZ D g ip0 ι0 H0 s0 ip gp h s ι σ H) (sl : Sl D.K D.mg ι H none σn σ) (g2 : Grow ι ι2 H H2) (f2 : Fit D.K D.mg ι2 H2 h2) (r : D.Rest A0 g ip s s2 H2) : InS D g ip ι2 H2 s2 ip gp σn h2 s2 ι2 σ H2 where
  sg := ⟨r.at'.hok, h2, f2⟩
  inv := GD.inv ok r.at' ((GD.at_of x.inv).2.keep ok r.fr) fun p hp => by
    rcases List.mem_append.mp hp with hp | hp
    · exact ⟨(r.ip p hp).1, (r.ip p hp).2, x.young p hp, (x.inv.pin p (List.mem_append_right _ (List.mem_append_left _ hp))).2.2.2.2⟩
    · exact GD.yp_young p hp
  young := x.young
  gr := .refl
  fit := f2
  gens := fun p hp => ⟨r.gens p.1 p.2 (x.gens p hp).2.2 (x.gens p hp).1 (x.gens p hp).2.1, (x.gens p hp).2⟩
  sl := sl.mono g2
theorem ny_yield {yp : Pos} {m : ME} (he : ∀ s H, NE (D.cx s H) E00 e m) (hco : D.env.scope.isCoroutine = false := by rfl) (hi : interactive D.env = false := by rfl) : NY D A0 g (.Expr (.Yield (some e) yp) pos) (yYield m) := by
  refine ⟨fun {c fs gd K J lv Kt ip gp} x k ok ip0 ι0 H0 s0 σn h s ι σ H z sf => ?_⟩
  unfold yYield at sf ⊢
  cases em : m σn h with
  | exc y h' => rw [em] at sf; exact (k.bad.2 _ _ _ sf).elim
  | stuck => rw [em] at sf; exact (k.bad.1 sf).elim
  | ok w h' =>
    refine go_Yield x.split ?_ hco hi
    rw [x.over]
    refine wpAny_mono (wpAny_beside ((he _ _).run _ (G.lull s) σ H (fun x' H' => ∃ ι', Grow ι ι' H H' ∧ Fit D.K D.mg ι' H' h' ∧ RW D.K D.mg ι' H' w x') (Inv.lull z.inv) ⟨ι, σn, h, z.fit, z.sl, ?_⟩)) (fun v s' ⟨zz, hk, x', H', I', rv, ι', g2, f2, rw'⟩ => ?_) fun _ _ ⟨_, _, q⟩ => (show False from q).elim
    · rw [em]
      exact fun ι' y H' g2 f2 r2 => ⟨ι', g2, f2, r2⟩
    · intro l kk p hk2
      have z' := z.toInZ.same hk I' g2 f2
      rw [x.gd]
      refine ⟨v, l, kk, c, p, fs, ip, ι', H', x', rfl, x.guard, z'.gr, f2, rw', rv, (GD.at_of z'.inv).1, ?_, fun p hp => ?_, fun s2 ι2 H2 h2 sf2 g3 f3 r => ?_⟩
      · obtain ⟨h0, f0⟩ := z.sg.fit
        exact GD.step ok z.sg.hok z'.inv z'.gr f0 f2
      · have := z'.inv.pin p (List.mem_append_right _ (List.mem_append_left _ hp))
        exact ⟨this.1, this.2.1, z.young p hp, this.2.2.2.2⟩
      · exact hk2 _ s2 (k.ok ip ι2 H2 s2 .next (.nx σn h2) s2 ⟨rfl, ι2, σ, H2, InS.again ok z' (z.sl.mono g2) g3 f3 r⟩ sf2)
theorem ny_if {t : MT} {a b : MGn} {p q : List Stmt} (hc : ∀ s H, NT (D.cx s H) E00 c t) (ha : NYs D A0 g p a) (hb : NYs D A0 g q b) : NY D A0 g (.If c p q pos) (yIf t a b) := by
  refine ⟨fun {c' fs gd K J lv Kt ip gp} x k ok ip0 ι0 H0 s0 σn h s ι σ H z sf => ?_⟩
  rw [exec_If]
  refine go_at ?_
  show Go _ _ _ _ ((isTrue c D.env (eval c D.env) >>= fun b => if b then execs p D.env else execs q D.env).wrap K J gd lv) fs s
  rw [Sem.bind_eq_wrap', Sem.wrap_wrap]
  unfold yIf at sf ⊢
  cases em : t σn h with
  | exc y h' => rw [em] at sf; exact (k.bad.2 _ _ _ sf).elim
  | stuck => rw [em] at sf; exact (k.bad.1 sf).elim
  | ok w h' =>
    refine go_part x ((hc _ _).run _ (G.lull s) σ H (fun b H' => b = w ∧ ∃ ι', Grow ι ι' H H' ∧ Fit D.K D.mg ι' H' h') (Inv.lull z.inv) ⟨ι, σn, h, z.fit, z.sl, by rw [em]; exact fun ι' y H' g2 f2 r2 => ⟨r2.symm, ι', g2, f2⟩⟩) fun b' s' zz hk ⟨H', I', e', ι', g2, f2⟩ => ?_
    subst e'
    have z' := z.toInZ.same hk I' g2 f2
    rw [em] at sf
    cases b' with
    | true => exact ha.run x k ok ip0 ι0 H0 s0 σn h' s' ι' σ H' { toInZ := z', sl := z.sl.mono g2 } sf
    | false => exact hb.run x k ok ip0 ι0 H0 s0 σn h' s' ι' σ H' { toInZ := z', sl := z.sl.mono g2 } sf
theorem gcx_loop {c : Code} {fs : List Frame} {gd : Bool → Bool} {c' : Code} {k : Result → Sem PySem.Fin} {l kp : List Value} {p : Pos} (x : GCx D A0 c fs gd) (hw : c'.weight = 0) (hu : c'.cUnits = 0) : GCx D A0 c' (.ret k none (gd false) l c p kp :: fs) id where
  over := (over_loop hw hu).trans x.over
  split := by
    show (splitAtGen fs).map _ = none
    rw [x.split]; rfl
  guard := by
    show (gd false || fs.any Frame.guarded) = false
    rw [x.gd, x.guard]; rfl
  gd := rfl
theorem ny_while {t : MT} {b : MGn} {body : List Stmt} (F : Nat) (hc : ∀ s H, NT (D.cx s H) E00 c t) (hb : NYs D A0 g body b) : NY D A0 g (.While c body [] pos) (yWhile t b F) := by
  refine ⟨fun {c' fs gd K J lv Kt ip gp} x k ok ip0 ι0 H0 s0 σn h s ι σ H z sf => ?_⟩
  refine go_While fun p => ?_
  have gl := fun (kk : Result → Sem PySem.Fin) => gcx_loop (k := kk) (c' := .whileLoop c body [] D.env) (l := lv []) (kp := []) (p := p) x rfl rfl
  induction F generalizing ip0 ι0 H0 s0 σn h s ι σ H with
  | zero => exact (k.bad.1 sf).elim
  | succ F ih =>
    refine go_whileLoop ?_
    rw [(gl _).over]
    unfold yWhile at sf ⊢
    cases em : t σn h with
    | exc y h' => rw [em] at sf; exact (k.bad.2 _ _ _ sf).elim
    | stuck => rw [em] at sf; exact (k.bad.1 sf).elim
    | ok w h' =>
      rw [em] at sf
      refine wpAny_mono (wpAny_beside ((hc _ _).run _ (G.lull s) σ H (fun b H' => b = w ∧ ∃ ι', Grow ι ι' H H' ∧ Fit D.K D.mg ι' H' h') (Inv.lull z.inv) ⟨ι, σn, h, z.fit, z.sl, by rw [em]; exact fun ι' y H' g2 f2 r2 => ⟨r2.symm, ι', g2, f2⟩⟩)) (fun b' s' ⟨zz, hk, H', I', e', ι', g2, f2⟩ => ?_) fun _ _ ⟨_, _, q⟩ => (show False from q).elim
      subst e'
      have z' := z.toInZ.same hk I' g2 f2
      cases b' with
      | true =>
        rw [if_pos rfl]
        simp only [ER.thenG, if_true] at sf ⊢
        rw [GO.bind_bind] at sf ⊢
        refine hb.run (Kt := fun r => (match r with
          | .nx σ' h' => yWhile t b F σ' h'
          | .ct σ' h' => yWhile t b F σ' h'
          | .bk σ' h' => .fin (.nx σ' h')
          | r => .fin r : GO).bind Kt) (gl _) ⟨fun ip0 ι0 H0 s0 f r s hf hs => ?_, k.bad⟩ ok ip0 ι0 H0 s0 σn h' s' ι' σ H' { toInZ := z', sl := z.sl.mono g2 } sf
        cases r with
        | nx σ' h' =>
          obtain ⟨rfl, ι, σ, H, z⟩ := hf
          exact go_again rfl (ih ip0 ι0 H0 s0 σ' h' s ι σ H z hs)
        | ct σ' h' =>
          obtain ⟨rfl, ι, σ, H, z⟩ := hf
          exact go_again rfl (ih ip0 ι0 H0 s0 σ' h' s ι σ H z hs)
        | bk σ' h' =>
          obtain ⟨rfl, q⟩ := hf
          exact go_leaf (.ok .next) (k.ok ip0 ι0 H0 s0 .next (.nx σ' h') s ⟨rfl, q⟩ hs)
        | rt w h' =>
          obtain ⟨u, v, ι, σ, H, rfl, q⟩ := hf
          exact go_leaf (.ok (.ret u)) (k.ok ip0 ι0 H0 s0 (.ret u) (.rt w h') s ⟨u, v, ι, σ, H, rfl, q⟩ hs)
        | exc x' σ' h' => exact hf.elim
        | stuck => exact hf.elim
      | false =>
        rw [if_neg Bool.false_ne_true]
        refine go_nil ?_
        exact go_leaf (.ok .next) (k.ok ip0 ι0 H0 s0 .next (.nx σn h') s' ⟨rfl, ι', σ, H', { toInZ := z', sl := z.sl.mono g2 }⟩ sf)
end
end N

set_option maxHeartbeats 1000000
/-! G5: a generator is made -/
namespace N
open PySem PySem.Spec PyProof.Rows GenW L2 G
@[reducible] def gX (X : Cx) (N : List Str) (nm : Str) (sc : Scope) (f : Addr) (cdv : Value) (A0 : Around) (L : Addr) (pn : List (Addr × Obj)) : GD :=
  { P := X.prog, w := X.w, K := X.K, mg := X.mg, base := X.base, N := N, env := envOfC nm sc L f cdv, A := A0.deeper (envOfC nm sc L f cdv), outer := X.stack, pn := pn }
@[reducible] def gD (P : Program) (w : World) (K : PySem.W.Frag) (mg : Str → Option Value) (base : Heap) (N : List Str) (nm : Str) (sc : Scope) (f : Addr) (cdv : Value) (A0 : Around) (L : Addr) (outer : List Env) (pn : List (Addr × Obj)) : GD :=
  { P := P, w := w, K := K, mg := mg, base := base, N := N, env := envOfC nm sc L f cdv, A := A0.deeper (envOfC nm sc L f cdv), outer := outer, pn := pn }
/-- a generator def of the text, its names and its body's reading -/
structure GenDe (P : Program) (w : World) (K : PySem.W.Frag) (mg : Str → Option Value) (base : Heap) (k : Nat) (nm : Str) (ps N : List Str) (st : Stmt) (f : Addr) (mb : MGn) : Prop where
  fn : ∃ fd, Fun K nm nm st f fd ∧ Binds K fd ps []
  S : GScope N ps (defScope st)
  c0 : ∀ m, cellsFrom m (defScope st).names [] = []
  nc : ∀ x, ¬ ((defScope st).names.lookup x = some .cell ∨ (defScope st).names.lookup x = some .free)
  g : mg nm = some (.ref f)
  body : ∀ cdv outer A0 L pn g, Room k (A0.deeper (envOfC nm (defScope st) L f cdv)) → NYs (gD P w K mg base N nm (defScope st) f cdv A0 L outer pn) A0 g (defBody st) mb
structure GenD (P : Program) (w : World) (K : PySem.W.Frag) (mg : Str → Option Value) (base : Heap) (k : Nat) (nm : Str) (ps : List Str) (n : Nat) (mb : MGn) : Prop where
  ex : ∃ N st f, N.length = n ∧ GenDe P w K mg base k nm ps N st f mb
/-- what stays true of a generator that its maker X holds -/
structure Stat (X : Cx) (pins : List (Addr × Obj)) (D : GD) (g : Nat) (a : Addr) (go : Obj) : Prop where
  ok : D.Ok
  lx : X.env.locals < D.L
  ls : X.s_0.heap.objs.size ≤ D.L
  cel : ∀ x c, X.env.cells.lookup x = some c → c < D.L
  pin : ∀ p ∈ X.pn ++ pins, p.1 < D.L
  pn : D.pn = [(a, go)]
  cls : go.cls = .type "generator"
  dat : ∃ nm qn, go.data = .fields #[.int g 0, nm, qn] ∧ go.slots = #[]
  dp : X.A.depth < recursionLimit
  hd : X.A.handled = none
structure LS (X : Cx) (pins : List (Addr × Obj)) (D : GD) (A0 : Around) (g : Nat) (a : Addr) (go : Obj) (T : GO) (gs : GenState) (ip : List (Addr × Obj)) (s : Shared) (ι : Ix) (σ : L2.St) (H : Hp) : Prop where
  I : Inv X pins σ H s
  hL : ∃ ob, s.heap.get? D.L = some ob ∧ ∀ v, ob.data ≠ .cell v
  nL : H D.L = none
  ha : s.heap.get? a = some go
  na : H a = none
  en : s.gens[g]? = some gs
  wk : Safe T → Goes (model D.P D.w) A0 (EndT D A0 g T ip ι H (s.setGen g .running)) gs (s.setGen g .running)
/-- a generator that has not begun -/
structure LS0 (X : Cx) (pins : List (Addr × Obj)) (D : GD) (A0 : Around) (g : Nat) (a : Addr) (go : Obj) (F : List O → GO) (ws : List W) (vs : List V) (gs : GenState) (s : Shared) (σ : L2.St) (H : Hp) : Prop where
  I : Inv X pins σ H s
  hL : ∃ ob, s.heap.get? D.L = some ob ∧ ∀ v, ob.data ≠ .cell v
  nL : H D.L = none
  ha : s.heap.get? a = some go
  na : H a = none
  en : s.gens[g]? = some gs
  wk : ∀ s2 ι2 H2 h2, Safe (F h2) → RWs D.K D.mg ι2 H2 ws vs → ι2.exs = none → Fit D.K D.mg ι2 H2 h2 → D.Rest A0 g [] s s2 H2 → Goes (model D.P D.w) A0 (EndT D A0 g (F h2) [] ι2 H2 s2) gs s2
/-- the end of a generator's body -/
theorem end_of {D : GD} (ok : D.Ok) {A0 : Around} {g : Nat} {c : Code} : GKx D A0 g c [] [] [] (fun f => .pure (.done (.ret (match f with | .ret v => v | _ => .none)))) .fin := by
  have fin : ∀ ip0 ι0 H0 s0 r (s : Shared) h ι σ H, r.ends = some h → InZ D g ip0 ι0 H0 s0 [] [] h s ι σ H → EndT D A0 g (.fin r) ip0 ι0 H0 s0 (.ret (.ok (.ret .none))) s := fun ip0 ι0 H0 s0 r s h ι σ H e z => by
    obtain ⟨h0, f0⟩ := z.sg.fit
    exact ⟨rfl, h, ι, H, e, z.gr, z.fit, (GD.at_of z.inv).1, GD.step ok z.sg.hok z.inv z.gr f0 z.fit⟩
  refine ⟨fun ip0 ι0 H0 s0 f r s hf hs => ?_, ?_, fun x σ h => ?_⟩
  · cases r with
    | nx σ h =>
      obtain ⟨rfl, ι, σ, H, z⟩ := hf
      exact go_end (.ok (.ret .none)) (fin ip0 ι0 H0 s0 _ s h ι σ H rfl z.toInZ)
    | rt w h =>
      obtain ⟨u, v, ι, σ, H, rfl, rv, rw', z⟩ := hf
      obtain ⟨h', e⟩ := hs
      cases w with
      | non =>
        cases rw'
        obtain rfl : u = Value.none := rv
        exact go_end (.ok (.ret .none)) (fin ip0 ι0 H0 s0 _ s h ι σ H rfl z)
      | _ => cases e
    | bk σ h => obtain ⟨_, e⟩ := hs; cases e
    | ct σ h => obtain ⟨_, e⟩ := hs; cases e
    | exc x σ h => exact hf.elim
    | stuck => exact hf.elim
  · rintro ⟨_, e⟩; cases e
  · rintro ⟨_, e⟩; cases e
theorem GO.bind_fin (T : GO) : T.bind .fin = T := by
  induction T with
  | fin r => rfl
  | yld w h k ih => exact congrArg (GO.yld w h) (funext fun h' => ih h')
/-- its names as the call binds them -/
def startN (n : Nat) (ws : List W) : Slo := ws.map some ++ List.replicate (n - ws.length) none
section
variable {X : Cx} {pins : List (Addr × Obj)} {σ : L2.St} {H : Hp} {s : Shared}
theorem gen_run {k : Nat} {nm : Str} {ps N : List Str} {st : Stmt} {f : Addr} {mb : MGn} {us : List Value} {vs : List V} {ws : List W} {E1 : Value → Shared → Prop} {A0 : Around} (G : GenDe X.prog X.w X.K X.mg X.base k nm ps N st f mb)
    (hr : Room (k + 2) X.A) (hA : A0.handled = none) (hAf : A0.frames = some X.stack) (hA2 : ∀ env, Room k (A0.deeper env)) (I : Inv X pins σ H s) (r : Vals vs us) (hl : vs.length = ps.length) (hwl : ws.length = ps.length) :
    wpAny (model X.prog X.w) X.A (call (.ref f) us) (fun u s' => ∃ a go cdv, u = .ref a ∧ Stat X pins (gX X N nm (defScope st) f cdv A0 s.heap.objs.size [(a, go)]) s.gens.size a go ∧
      LS0 X pins (gX X N nm (defScope st) f cdv A0 s.heap.objs.size [(a, go)]) A0 s.gens.size a go (fun h => mb (startN N.length ws) h) ws vs (.fresh (.func (defBody st) (envOfC nm (defScope st) s.heap.objs.size f cdv))) s' σ H) E1 s := by
  obtain ⟨fd, F, hb⟩ := G.fn
  have S := G.S
  obtain ⟨oc, od, kV, doc, pm, an, cdv, ct, osl, rfl, lk, hcd⟩ := F.ex
  have hul : us.length = ps.length := by rw [← r.length]; exact hl
  have b := hb s us I.kIn (by rw [List.append_nil]; exact hul)
  rw [List.append_nil] at b
  have e0 := I.env0
  refine wpAny_call ?_
  have hkind : ∀ y ∈ ps.zip us, (defScope st).names.lookup y.1 = some .local ∨ ((defScope st).names.lookup y.1 = some .cell ∧ ((cellsFrom (s.heap.objs.size + 1) (defScope st).names []).lookup y.1).isSome = true) := fun ⟨n, v⟩ hy => by
    rcases S.par n (List.of_mem_zip hy).1 with q | q
    · exact .inl q
    · exact .inr ⟨q, PySem.W.cellsFrom_some _ _ _ (.inl q)⟩
  have hdp := hr.dp
  refine codeAny_call_generator (by omega) (I.kIn _ _ lk) rfl S.co S.gen rfl (PySem.W.codeRec_of I.kIn hcd) (b _ _ _ _ ?_)
  refine wpAny_newFunctionEnv_cells S.kind hkind fun env he s1 x => ?_
  subst he
  have lim1 : s1.heap.NoLimit := I.nolimit.keeps x.toInCall.keep
  refine ⟨lim1, ?_⟩
  obtain ⟨h1, tk, es1, hk1⟩ := x.done
  have os1 : s1.os = s.os := by rw [es1]
  have gen1 : s1.gens = s.gens := by rw [es1]
  have lt1 : s.heap.objs.size < s1.heap.objs.size := x.toInCall.ns.lt
  have kp1 : ∀ b o, s.heap.get? b = some o → s1.heap.get? b = some o := x.toInCall.keep
  have I1 : Inv (gcxOf X.prog X.w X.K X.mg X.base N nm (defScope st) f cdv X.A X.stack s H (fun _ _ _ => False) []) [] (start N vs) H s1 := inv_startG S hr.hd e0 hl r x
  have gsz : s1.gens.size = s.gens.size := by rw [gen1]
  have main : ∀ (go : Obj) (nm' qn : Value) (tk2 : Nat), go.cls = .type "generator" → go.data = .fields #[.int s1.gens.size 0, nm', qn] → go.slots = #[] → (∀ h : Heap, (h.push go).get? h.objs.size = some go) →
      ∃ a go' cdv', Value.ref s1.heap.objs.size = .ref a ∧ Stat X pins (gX X N nm (defScope st) f cdv' A0 s.heap.objs.size [(a, go')]) s.gens.size a go' ∧
        LS0 X pins (gX X N nm (defScope st) f cdv' A0 s.heap.objs.size [(a, go')]) A0 s.gens.size a go' (fun h => mb (startN N.length ws) h) ws vs (.fresh (.func (defBody st) (envOfC nm (defScope st) s.heap.objs.size f cdv')))
          { s1 with gens := s1.gens.push (.fresh (.func (defBody st) (envOfC nm (defScope st) s.heap.objs.size f cdv))), toks := tk2, heap := s1.heap.push go } σ H := by
    intro go nm' qn tk2 hgc hgd hgs hgp
    have cell0 := G.c0 (s.heap.objs.size + 1)
    have kp2 : ∀ b o, s.heap.get? b = some o → (s1.heap.push go).get? b = some o := fun b o e => Heap.get?_push_of_some _ (kp1 b o e)
    have bare2 : AllBare (s1.gens.push (.fresh (.func (defBody st) (envOfC nm (defScope st) s.heap.objs.size f cdv)))) := AllBare.push (by rw [gen1]; exact I.bare) rfl
    have frL : ∀ b ∈ frs X.stack, b < s.heap.objs.size := fun b hb => by
      obtain ⟨_, o, ho, _⟩ := I.stack.mem hb
      exact Heap.lt_size ho
    have hA' : A0.handled = none := hA
    have nocell : ∀ v, go.data ≠ .cell v := fun v q => by rw [hgd] at q; cases q
    have dok : (gX X N nm (defScope st) f cdv A0 s.heap.objs.size [(s1.heap.objs.size, go)]).Ok :=
      ⟨I.ok.mod, S.kind, rfl, rfl, cell0, G.nc, hA', Around.frames_deeper hAf, rfl, Nat.le_trans I.ok.bsz I.sz, frL, fun p hp => by
        rw [List.mem_singleton.mp hp]
        exact ⟨lt1, nocell⟩⟩
    have I2 : Inv X pins σ H { s1 with gens := s1.gens.push (.fresh (.func (defBody st) (envOfC nm (defScope st) s.heap.objs.size f cdv))), toks := tk2, heap := s1.heap.push go } :=
      I.call' (ch := []) os1 (Un.kept kp2) (I.hok.kept kp2) bare2 fun b z => by simp at z
    have nL : H s.heap.objs.size = none := I.hok.fresh (Nat.le_refl _)
    have na : H s1.heap.objs.size = none := I.hok.fresh (Nat.le_of_lt lt1)
    have hLob : ∃ ob, s1.heap.get? s.heap.objs.size = some ob ∧ ∀ v, ob.data ≠ .cell v := by
      obtain ⟨o, es, ep, ho, hd, _⟩ := x.toInCall.ns
      exact ⟨o, ho, fun v q => by rw [hd] at q; cases q⟩
    have kp3 : ∀ b o, s1.heap.get? b = some o → (s1.heap.push go).get? b = some o := fun b o e => Heap.get?_push_of_some _ e
    refine ⟨s1.heap.objs.size, go, cdv, rfl, ⟨dok, I.lt, I.sz, fun x' c e => ?_, fun p hp => Heap.lt_size (I.pin p hp).1, rfl, hgc, ⟨nm', qn, by rw [hgd, gsz], hgs⟩, by omega, hr.hd⟩, ⟨I2, ?_, nL, hgp _, na, ?_, fun s2 ι2 H2 h2 sf rws ex ft rest => ?_⟩⟩
    · obtain ⟨v, o, ho, _⟩ := I.cell x' c e
      exact Heap.lt_size ho
    · obtain ⟨ob, h1, h2⟩ := hLob
      exact ⟨ob, kp3 _ _ h1, h2⟩
    · rw [← gsz]; exact Array.getElem?_push_size ..
    · have hdv : (gD X.prog X.w X.K X.mg X.base N nm (defScope st) f cdv A0 s.heap.objs.size X.stack [(s1.heap.objs.size, go)]) = gX X N nm (defScope st) f cdv A0 s.heap.objs.size [(s1.heap.objs.size, go)] := rfl
      refine go_func ?_
      have at0 := rest.at'
      have lo0 : (gX X N nm (defScope st) f cdv A0 s.heap.objs.size [(s1.heap.objs.size, go)]).Lo (start N vs) s2 :=
        GD.Lo.keep dok (s := s1) ⟨I1.loc, I1.len⟩ fun o e => rest.fr o (kp3 _ o e)
      have key := (G.body cdv X.stack A0 s.heap.objs.size [(s1.heap.objs.size, go)] s.gens.size (hA2 _)).run (c := .func (defBody st) (envOfC nm (defScope st) s.heap.objs.size f cdv)) (fs := []) (gd := id) (lv := id) (J := fun e => (leaving (envOfC nm (defScope st) s.heap.objs.size f cdv) e).wrap (fun _ => .raise e) .raise id id) (Kt := .fin)
        ⟨over_func, rfl, rfl, rfl⟩ (end_of dok) dok [] ι2 H2 s2 (startN N.length ws) h2
        s2 ι2 (start N vs) H2
        { sg := ⟨at0.hok, h2, ft⟩
          inv := GD.inv dok at0 lo0 fun p hp => GD.yp_young p (by simpa using hp)
          young := fun p hp => by simp at hp
          gr := .refl
          fit := ft
          gens := fun p hp => by simp at hp
          sl := sl_start ex rws } (by rw [GO.bind_fin]; exact sf)
      rw [GO.bind_fin] at key
      exact key
  exact main { cls := .type "generator", data := .fields #[.int s1.gens.size 0, .str _ s1.toks, .str _ (s1.toks + 1)] } _ _ _ rfl rfl rfl fun h => Heap.get?_push_size _ rfl
theorem LS0.ls {D : GD} {A0 : Around} {g : Nat} {a : Addr} {go : Obj} {F : List O → GO} {ws : List W} {vs : List V} {gs : GenState} (ok : D.Ok) (hpn : D.pn = [(a, go)]) (hK : D.K = X.K ∧ D.mg = X.mg ∧ D.P = X.prog ∧ D.w = X.w ∧ D.base = X.base ∧ D.outer = X.stack) (l : LS0 X pins D A0 g a go F ws vs gs s σ H) {ι : Ix} {h : List O} (r : RWs D.K D.mg ι H ws vs) (ex : ι.exs = none) (ft : Fit D.K D.mg ι H h) :
    LS X pins D A0 g a go (F h) gs [] s ι σ H := by
  obtain ⟨k1, k2, k3, k4, k5, k6⟩ := hK
  refine ⟨l.I, l.hL, l.nL, l.ha, l.na, l.en, fun sf => l.wk _ ι H h sf r ex ft ⟨⟨by rw [k5]; exact l.I.bs, by rw [k5, k6]; exact l.I.stack, by rw [k6]; exact l.I.stkFree, by rw [k3, k4]; exact l.I.hok, allBare_setGen l.I.bare rfl, fun p hp => ?_, l.nL, l.hL⟩, fun o e => e, fun p hp => by simp at hp, fun i x hi e _ => ?_⟩⟩
  · rw [hpn] at hp
    rw [List.mem_singleton.mp hp]
    exact ⟨l.ha, l.na⟩
  · show (s.gens.setIfInBounds g _)[i]? = _
    rw [Array.getElem?_setIfInBounds_ne (Ne.symm hi)]
    exact e
end
end N

set_option maxHeartbeats 1000000
/-! G6: for over a generator -/
namespace N
open PySem PySem.Spec PyProof.Rows GenW L2 G
def forG (g : MG) (b : MS) : GO → Slo → SR
  | .fin r => fun σ => match r.ends with
    | some h => .nx σ h
    | none => .stuck
  | .yld w h k => fun σ => match g w σ with
    | none => .stuck
    | some σ1 => match b σ1 h with
      | .nx σ2 h2 => forG g b (k h2) σ2
      | .ct σ2 h2 => forG g b (k h2) σ2
      | .bk σ2 h2 => .nx σ2 h2
      | r => r
def mForG (mb : MGn) (n : Nat) (ma : MA) (g : MG) (b : MS) : MS := fun σ h => (ma σ h).sbind σ fun ws h1 => forG g b (mb (startN n ws) h1) σ
/-- what an exception is, does not turn on the table of generators -/
def KeepX (X : Cx) : Prop := ∀ e s s' z, Kept s s' z → X.xe e z → X.xe e s'
theorem keepX_false {X : Cx} (h : X.xe = fun _ _ => False) : KeepX X := fun e s s' z _ q => by rw [h] at q; exact q.elim
theorem real_bare {T : Nat → Option GenState} {z : Shared} (o : OkT T z) (h : AllBare z.gens) : AllBare (real T z).gens := by
  intro y hy
  obtain ⟨i, hi⟩ := Array.mem_iff_getElem?.mp hy
  rw [real_at] at hi
  cases q : z.gens[i]? with
  | none => rw [q] at hi; cases hi
  | some w =>
    rw [q] at hi
    have hw := h w (Array.mem_of_getElem? q)
    cases e : T i with
    | none => rw [e] at hi; cases hi; exact hw
    | some x =>
      rw [e] at hi
      cases hi
      have q2 := (o.at' _ _ e).1
      rw [q] at q2
      cases q2
      rw [trap_bare] at hw
      exact hw
theorem wpAny_real {α : Type} {M : Model} {A : Around} {T : Nat → Option GenState} {z : Shared} {t : Sem α} {Q : α → Shared → Prop} {E : Value → Shared → Prop} (o : OkT T z) (h : wpAny M A t Q E z) :
    wpAny M A t (fun a s' => ∃ z2, s' = real T z2 ∧ OkT T z2 ∧ Q a z2) (fun e s' => ∃ z2, s' = real T z2 ∧ OkT T z2 ∧ E e z2) (real T z) := fun Γ p hΓ => wp_real t _ _ p z o (h Γ p hΓ)
theorem keepX_cx {P : Program} {w : World} {K : PySem.W.Frag} {mg : Str → Option Value} {base : Heap} {N : List Str} {qual : Str} {scope : Scope} {f : Addr} {cd : Value} {A : Around} {outer : List Env} {s : Shared} {H : Hp} {E : XK} :
    KeepX (cxOf (L2.CX P w) P w K mg base N qual scope f cd A outer s H E) := fun e s1 s' z k q => by
  have up : ∀ e' z2, OkT (tab s1) z2 → L2.CX P w outer H s E e' z2 → L2.CX P w outer H s E e' (real (tab s1) z2) := fun e' z2 o c => by
    obtain ⟨a, B, H', cls, d, h1, h2, h3, h4, h5, h6, h7, h8⟩ := c
    exact ⟨a, B, H', cls, d, h1, h2, h3, h4, h5, h6, real_bare o h7, h8⟩
  rw [k.re]
  refine wpAny_mono (wpAny_real k.ok q) (fun x s'' h => ?_) fun x s'' h => ?_
  all_goals obtain ⟨z2, e2, o, c⟩ := h
  · rw [e2]; exact up _ _ o c
  · rw [e2]; exact up _ _ o c
section
variable {X : Cx} {pins : List (Addr × Obj)} {N : List Str} {nm : Str} {sc : Scope} {f : Addr} {cdv : Value} {A0 : Around} {L : Addr} {pn : List (Addr × Obj)} {g : Nat} {a : Addr} {go : Obj} {T : GO} {gs : GenState} {ip : List (Addr × Obj)} {s : Shared} {ι : Ix} {σ : L2.St} {H : Hp}
theorem setGen_ne {s : Shared} {g i : Nat} {x : GenState} (h : i ≠ g) : (s.setGen g x).gens[i]? = s.gens[i]? := by
  show (s.gens.setIfInBounds g x)[i]? = _
  rw [Array.getElem?_setIfInBounds_ne (Ne.symm h)]
theorem LS.after (S : Stat X pins (gX X N nm sc f cdv A0 L pn) g a go) (l : LS X pins (gX X N nm sc f cdv A0 L pn) A0 g a go T gs ip s ι σ H) {s1 s2 : Shared} {H1 : Hp} (st : (gX X N nm sc f cdv A0 L pn).Step ip (s.setGen g .running) H s1 H1)
    (at1 : (gX X N nm sc f cdv A0 L pn).At s1 H1) (hk : ∀ b o, s1.heap.get? b = some o → s2.heap.get? b = some o) (ho : s2.os = s1.os) (hb : AllBare s2.gens) : Inv X pins σ H1 s2 := by
  obtain ⟨os, ch, un, may⟩ := st
  refine l.I.call' (ch := ch) (ho.trans os) (un.trans (Un.kept hk)) (at1.hok.kept hk) hb fun b hb' => ?_
  have hL : L ≤ b := by
    rcases may b hb' with q | q
    · exact Nat.le_of_eq q.symm
    · exact Nat.le_of_lt q.1
  have lx : X.env.locals < L := S.lx
  exact ⟨.inr (Nat.le_trans S.ls hL), Nat.ne_of_gt (Nat.lt_of_lt_of_le lx hL), fun x c e => Nat.ne_of_lt (Nat.lt_of_lt_of_le (S.cel x c e) hL), fun p hp => Nat.ne_of_lt (Nat.lt_of_lt_of_le (S.pin p hp) hL)⟩
def forEnds (D : Ends) (K : PySem.W.Frag) (mg : Str → Option Value) (z : Option (Addr × Addr)) (ι : Ix) (H : Hp) (r : SR) : Ends where
  nx := fun σ' H' => ∃ ι' σn h', (r = .nx σn h' ∨ r = .ct σn h') ∧ Grow ι ι' H H' ∧ Fit K mg ι' H' h' ∧ Sl K mg ι' H' z σn σ'
  ct := fun σ' H' => ∃ ι' σn h', (r = .nx σn h' ∨ r = .ct σn h') ∧ Grow ι ι' H H' ∧ Fit K mg ι' H' h' ∧ Sl K mg ι' H' z σn σ'
  bk := D.nx
  rt := D.rt
theorem forG_loop {E : WX} {tg : Expr} {mt : MG} {ts : List Nat} {body : List Stmt} {b : MS} {Dd : Ends} (hp : PassesOwn (model X.prog X.w) X.A X.env X.xe) (kx : KeepX X) (hA : A0 = X.A.in1) (hg : NG X tg mt ts) (hb : NSs X E body b) (S : Stat X pins (gX X N nm sc f cdv A0 L pn) g a go) :
    ∀ (T : GO) (gs : GenState) (ip : List (Addr × Obj)) (s : Shared) (ι : Ix) (σ : L2.St) (H : Hp) (σn : Slo), LS X pins (gX X N nm sc f cdv A0 L pn) A0 g a go T gs ip s ι σ H → Sl X.K X.mg ι H (zX X) σn σ → AftS X.K X.mg (zX X) ι H (forG mt b T σn) Dd E →
      codeAny (model X.prog X.w) X.A (.forLoop tg (.ref a) body [] X.env) (fun r s' => match r with | .ok f => SP X pins Dd f s' | .error e => cameBackBy (model X.prog X.w) X.A X.env X.xe e s') s := by
  have pnS := S.pn
  subst pnS
  have isg : ∀ {h : Heap}, h.get? a = some go → h.IsGen a g := fun {h} e => by
    obtain ⟨n1, n2, h1, h2⟩ := S.dat
    exact ⟨go, n1, n2, e, S.cls, h1, h2⟩
  intro T
  induction T with
  | fin r =>
    intro gs ip s ι σ H σn l sl q
    have sf : Safe (.fin r) := by
      cases e : r.ends with
      | some h => exact ⟨h, e⟩
      | none => unfold forG at q; rw [e] at q; exact q.elim
    refine for_turn (next_go (A := X.A) S.hd l.I.nolimit S.dp (isg l.ha) l.en (by rw [← hA]; exact l.wk sf) (fun e s1 he => ?_) (fun v gg ll k c p fs s1 he => ?_) fun r' s1 he => ?_)
    · obtain ⟨rfl, _⟩ := he; rfl
    · obtain ⟨e, _⟩ := he; cases e
    · obtain ⟨e, h, ι', H', en, gr, fit, at1, st⟩ := he
      cases e
      refine ⟨.inl rfl, fun h' hk => ?_⟩
      have I' : Inv X pins σ H' { s1.setGen g .finished with heap := h' } := l.after S st at1 hk rfl (allBare_setGen at1.bare rfl)
      refine wpAny_execs_nil ?_
      refine ⟨σ, H', I', ?_⟩
      unfold forG at q
      rw [en] at q
      exact q ι' σ H' gr fit (sl.mono gr)
  | yld w h k ih =>
    intro gs ip s ι σ H σn l sl q
    refine for_turn (wpAny_gsz (n := g + 1) (Array.getElem?_eq_some_iff.mp l.en).1 (next_go (A := X.A) S.hd l.I.nolimit S.dp (isg l.ha) l.en (by rw [← hA]; exact l.wk trivial) (fun e s1 he => ?_) (fun v gg ll kk c p fs s1 he hsz => ?_) fun r' s1 he => ?_))
    · obtain ⟨v, ll, kk, c, p, fs, ip1, ι1, H1, x, e', gd, _⟩ := he
      subst e'
      show (!(false || fs.any Frame.guarded)) = true
      rw [gd]; rfl
    · obtain ⟨v', ll', kk', c', p', fs', ip1, ι1, H1, x, e', gd, gr, fit, rw1, rv, at1, st, yg, nxt⟩ := he
      cases e'
      have gsb : (End.susp v false ll kk c p fs).genState.bare = true := by
        show (!(false || fs.any Frame.guarded)) = true
        rw [gd]; rfl
      have I1 : Inv X pins σ H1 (s1.setGen g (End.susp v false ll kk c p fs).genState) := l.after S st at1 (fun _ _ e => e) rfl (allBare_setGen at1.bare gsb)
      have gsz : g < s1.gens.size := by
        have q2 : (s1.setGen g (End.susp v false ll kk c p fs).genState).gens.size = s1.gens.size := setGen_size _ _ _
        omega
      obtain ⟨ob, hob, hobc⟩ := at1.lob
      have lx : X.env.locals < L := S.lx
      have frl : ∀ b ∈ X.fs, b < L := fun b hb => S.ok.frl b (by
        rcases I1.ok.stk with e | ⟨e, hf⟩
        · show b ∈ frs X.stack
          rw [e]; exact hb
        · show b ∈ frs X.stack
          rw [e]
          unfold frs
          rw [List.filterMap_cons, hf]
          exact List.mem_cons_of_mem _ hb)
      have hge : ∀ b, L ≤ b → b ≠ X.env.locals ∧ b ∉ X.fs := fun b hb => ⟨Nat.ne_of_gt (Nat.lt_of_lt_of_le lx hb), fun hm => absurd (frl b hm) (Nat.not_lt.mpr hb)⟩
      have haL : L < a ∧ ∀ v, go.data ≠ .cell v := S.ok.pnl (a, go) List.mem_cons_self
      have ha1 : s1.heap.get? a = some go ∧ H1 a = none := at1.pin (a, go) List.mem_cons_self
      let own : List (Addr × Obj) := (L, ob) :: (a, go) :: ip1
      have hown : ∀ p ∈ own, s1.heap.get? p.1 = some p.2 ∧ H1 p.1 = none ∧ p.1 ≠ X.env.locals ∧ p.1 ∉ X.fs ∧ ∀ v, p.2.data ≠ .cell v := fun p hp => by
        rcases List.mem_cons.mp hp with e | hp
        · rw [e]
          obtain ⟨q1, q2⟩ := hge L (Nat.le_refl _)
          exact ⟨hob, at1.fr, q1, q2, hobc⟩
        rcases List.mem_cons.mp hp with e | hp
        · rw [e]
          obtain ⟨q1, q2⟩ := hge a (Nat.le_of_lt haL.1)
          exact ⟨ha1.1, ha1.2, q1, q2, haL.2⟩
        · obtain ⟨y1, y2, y3, y4⟩ := yg p hp
          obtain ⟨q1, q2⟩ := hge p.1 (Nat.le_of_lt y3)
          exact ⟨y1, y2, q1, q2, y4⟩
      have I2 : Inv X (pins ++ own) σ H1 (s1.setGen g (End.susp v false ll kk c p fs).genState) := I1.pins_of fun p hp => (List.mem_append.mp hp).elim (fun z => I1.pin p (List.mem_append_right _ z)) fun z => hown p z
      have en1 : (s1.setGen g (End.susp v false ll kk c p fs).genState).gens[g]? = some (End.susp v false ll kk c p fs).genState := setGen_at gsz
      have asl : asleep (End.susp v false ll kk c p fs).genState = true := rfl
      unfold forG at q
      cases eg : mt w σn with
      | none => rw [eg] at q; exact q.elim
      | some σ1 =>
        rw [eg] at q
        dsimp only at q
        have q := AftS.step q gr
        obtain ⟨n1, n2, hd1, _⟩ := S.dat
        refine go_of (o := go) ha1.1 S.cls hd1 (by decide) ?_
        refine wpAny_passesOwn hp (wpAny_mono (wpAny_beside (hg.run _ (G.lull _) σ H1 x v (fun σ6 H6 => H6 = H1 ∧ Sl X.K X.mg ι1 H1 (zX X) σ1 σ6) (Inv.lull I2) rv ⟨ι1, σn, σ1, h, w, fit, sl.mono gr, rw1, eg, fun σ6 s6 _ => ⟨rfl, s6⟩⟩)) (fun _ s6 h6 => ?_) fun e s' ⟨z, kz, qz⟩ => kx _ _ _ _ kz qz)
        obtain ⟨z6, k6, σ6, H6, I6z, e6, sl6⟩ := h6
        subst e6
        have I6 := Inv.wake k6 I6z
        have en6 := k6.gen en1 asl
        have bodyEnds : AftS X.K X.mg (zX X) ι1 H6 (b σ1 h) (forEnds Dd X.K X.mg (zX X) ι1 H6 (b σ1 h)) E := by
          cases eb : b σ1 h with
          | nx σ2 h2 => exact fun ι2 σ2' H2 g2 f2 s2 => ⟨ι2, σ2, h2, .inl rfl, g2, f2, s2⟩
          | ct σ2 h2 => exact fun ι2 σ2' H2 g2 f2 s2 => ⟨ι2, σ2, h2, .inr rfl, g2, f2, s2⟩
          | bk σ2 h2 => rw [eb] at q; exact q
          | rt w2 h2 => rw [eb] at q; exact q
          | exc x2 σ2 h2 => rw [eb] at q; exact q
          | stuck => rw [eb] at q; exact q
        refine wpAny_passesOwn hp (wpAny_mono (wpAny_beside (hb.run _ (G.lull _) σ6 H6 (forEnds Dd X.K X.mg (zX X) ι1 H6 (b σ1 h)) (Inv.lull I6) ⟨ι1, σ1, h, fit, sl6, bodyEnds⟩)) (fun f s7 h7 => ?_) fun e s' ⟨z, kz, qz⟩ => kx _ _ _ _ kz qz)
        obtain ⟨z7, k7, q7⟩ := h7
        have en7 := k7.gen en6 asl
        have again : (∃ σ' H', Inv X (pins ++ own) σ' H' z7 ∧ ∃ ι' σn h', (b σ1 h = .nx σn h' ∨ b σ1 h = .ct σn h') ∧ Grow ι1 ι' H6 H' ∧ Fit X.K X.mg ι' H' h' ∧ Sl X.K X.mg ι' H' (zX X) σn σ') →
            codeAny (model X.prog X.w) X.A (.forLoop tg (.ref a) body [] X.env) (fun r s' => match r with | .ok f => SP X pins Dd f s' | .error e => cameBackBy (model X.prog X.w) X.A X.env X.xe e s') s7 := fun ⟨σ7, H7, I7z, ι7, σn7, h7, eb, g7, f7, sl7⟩ => by
          have I7 := Inv.wake k7 I7z
          have own7 : ∀ p ∈ own, s7.heap.get? p.1 = some p.2 ∧ H7 p.1 = none := fun p hp => let z := I7.pin p (List.mem_append_right _ (List.mem_append_right _ hp)); ⟨z.1, z.2.1⟩
          have hL7 := own7 (L, ob) List.mem_cons_self
          have ha7 := own7 (a, go) (List.mem_cons_of_mem _ List.mem_cons_self)
          refine ih h7 _ ip1 s7 ι7 σ7 H7 σn7 ⟨I7.unpinned, ⟨ob, hL7.1, hobc⟩, hL7.2, ha7.1, ha7.2, en7, fun sf2 => ?_⟩ sl7 ?_
          · refine nxt (s7.setGen g .running) ι7 H7 h7 sf2 g7 f7 ⟨⟨I7.bs, I7.stack, I7.stkFree, I7.hok, allBare_setGen I7.bare rfl, fun p hp => ?_, hL7.2, ob, hL7.1, hobc⟩, fun o e => ?_, fun p hp => ?_, fun i y hi e ay => ?_⟩
            · rw [List.mem_singleton.mp hp]; exact ha7
            · obtain rfl : ob = o := Option.some.inj (hob.symm.trans e)
              exact hL7.1
            · exact own7 p (List.mem_cons_of_mem _ (List.mem_cons_of_mem _ hp))
            · rw [setGen_ne hi]
              exact k7.gen (k6.gen ((setGen_ne hi).trans e) ay) ay
          · rcases eb with eb | eb
            · rw [eb] at q; exact AftS.step q g7
            · rw [eb] at q; exact AftS.step q g7
        cases f with
        | next => exact again q7
        | cont => exact again q7
        | brk =>
          obtain ⟨σ7, H7, I7z, q8⟩ := q7
          exact ⟨σ7, H7, (Inv.wake k7 I7z).unpinned, q8⟩
        | ret u =>
          obtain ⟨x7, σ7, H7, I7z, r7, q8⟩ := q7
          exact ⟨x7, σ7, H7, (Inv.wake k7 I7z).unpinned, r7, q8⟩
    · obtain ⟨v, ll, kk, c, p, fs, ip1, ι1, H1, x, e', gd, _⟩ := he
      cases e'
end
end N

set_option maxHeartbeats 1000000
/-! G7: the statement for x in g(..): .. -/
namespace N
open PySem PySem.Spec PyProof.Rows GenW L2 G
section
variable {X : Cx} {E : WX} {pos : Pos}
theorem room_in1 {k : Nat} {A : Around} (h : Room (k + 2) A) (env : Env) : Room k (A.in1.deeper env) := by
  refine Room.deeper (k := k) (A := A.in1) ⟨h.hd, ?_, ?_⟩ env
  · have := h.dp
    show A.depth + 3 * (k + 1) + 5 < _
    omega
  · have := h.un
    show A.units + 1 + 16 * (k + 1) + 200 < _
    omega
/-- the call of a generator def, as a generator that has not begun -/
def AftC {α : Type} (K : PySem.W.Frag) (mg : Str → Option Value) (ι : Ix) (H : Hp) (r : ER α) (P : Ix → Hp → α → List O → Prop) (E : XK) : Prop := match r with
  | .ok ws h1 => ∀ ι1 H1, Grow ι ι1 H H1 → P ι1 H1 ws h1
  | .exc x h1 => ∀ ι2 c d H2, Grow ι ι2 H H2 → Fit K mg ι2 H2 h1 → RX K mg ι2 H2 x c d → E c d H2
  | .stuck => False
theorem AftC.sbind {α : Type} {K : PySem.W.Frag} {mg : Str → Option Value} {z : Option (Addr × Addr)} {ι : Ix} {H : Hp} {r : ER α} {f2 : α → List O → SR} {Dd : Ends} {E : WX} {σn : Slo} {σ : L2.St} (sl : Sl K mg ι H z σn σ) (q : AftS K mg z ι H (r.sbind σn f2) Dd E) : AftC K mg ι H r (fun ι1 H1 ws h1 => AftS K mg z ι1 H1 (f2 ws h1) Dd E) (fun c d H' => E c d σ H') := by
  cases r with
  | ok ws h1 => exact fun ι1 H1 g => AftS.step q g
  | exc y h1 => exact fun ι2 c d H2 g2 fi2 r2 => q ι2 c d σ H2 g2 fi2 (sl.mono g2) r2
  | stuck => exact q
theorem AftC.bind {α γ δ : Type} {K : PySem.W.Frag} {mg : Str → Option Value} {ι : Ix} {H : Hp} {r : ER α} {f2 : α → List O → ER γ} {rel : Ix → Hp → γ → δ → Prop} {Q : δ → Hp → Prop} {E : XK} (q : Aft K mg ι H (r.bind f2) rel Q E) : AftC K mg ι H r (fun ι1 H1 ws h1 => Aft K mg ι1 H1 (f2 ws h1) rel Q E) E := by
  cases r with
  | ok ws h1 => exact fun ι1 H1 g => Aft.step q g
  | exc y h1 => exact q
  | stuck => exact q
theorem gen_call0 {A0 : Around} {k : Nat} {x : Str} {ps : List Str} {n : Nat} {mb : MGn} {ma : MA} {p pos' : Pos} {e : Expr} {es : List Expr} {pins : List (Addr × Obj)} {s : Shared} {σ : L2.St} {H : Hp} {Q : Value → Shared → Prop} {ι : Ix} {σn : Slo} {h : List O} {P : Ix → Hp → List W → List O → Prop}
    (G : GenD X.prog X.w X.K X.mg X.base k x ps n mb) (hkp : ∀ f, X.mg x = some (.ref f) → PySem.W.keepIn X.K (.ref f) = true) (hr : Room (k + 2) X.A) (hA : A0.handled = none) (hAf : A0.frames = some X.stack) (hA2 : ∀ env, Room k (A0.deeper env)) (hc : X.calm = true) (hgl : Gl X x) (ha : NA X E (e :: es) ma) (hl : ∀ σ h ws h', ma σ h = .ok ws h' → ws.length = ps.length)
    (hdb : (x == ("__debug__" : Str)) = false) (he : starEach (e :: es) X.env = (false, eval e X.env) :: starEach es X.env) (hpl : (backTo pos' (starEach es X.env)).any (·.1) = false)
    (I : Inv X pins σ H s) (ft : Fit X.K X.mg ι H h) (sl : Sl X.K X.mg ι H (zX X) σn σ) (q : AftC X.K X.mg ι H (ma σn h) P (fun c d H' => E c d σ H'))
    (k2 : ∀ a go N sc f cdv L g gs s2 ws vs h1 ι1 H1, Stat X pins (gX X N x sc f cdv A0 L [(a, go)]) g a go → LS0 X pins (gX X N x sc f cdv A0 L [(a, go)]) A0 g a go (fun h => mb (startN n ws) h) ws vs gs s2 σ H1 → RWs X.K X.mg ι1 H1 ws vs → ι1.exs = none → Fit X.K X.mg ι1 H1 h1 → Sl X.K X.mg ι1 H1 (zX X) σn σ →
      P ι1 H1 ws h1 → Q (.ref a) s2) : wpAny (model X.prog X.w) X.A (eval (.Call (.Name x p) (e :: es) [] pos') X.env) Q X.xe s := by
  obtain ⟨N, st, f, hn, G⟩ := G
  refine wpAny_Call_Name_kw (ld_glob I hgl G.g ?_ hdb)
  have aft : Aft X.K X.mg ι H (ma σn h) (RWs X.K X.mg) (fun vs H1 => ∃ ι1 ws h1, ws.length = ps.length ∧ Grow ι ι1 H H1 ∧ Fit X.K X.mg ι1 H1 h1 ∧ RWs X.K X.mg ι1 H1 ws vs ∧ P ι1 H1 ws h1) (fun c d H' => E c d σ H') := by
    cases ea : ma σn h with
    | ok ws h1 =>
      rw [ea] at q
      exact fun ι1 vs H1 g1 f1 r1 => ⟨ι1, ws, h1, hl _ _ _ _ ea, g1, f1, r1, q ι1 H1 g1⟩
    | exc y h1 => rw [ea] at q; exact fun ι2 c d H2 g2 fi2 r2 => q ι2 c d H2 g2 fi2 r2
    | stuck => rw [ea] at q; exact q.elim
  refine PySem.W.callWith_K (h₀ := X.base) I.ok.mod.kin (hkp f G.g) (thn (ha.run pos' pins s σ H _ I ⟨ι, σn, h, ft, sl, aft⟩) fun us s1 ⟨vs, H1, I1, r, ι1, ws, h1, hlw, g1, f1, r1, q1⟩ => ⟨I1.kIn, ?_⟩) he hpl
  have exn := (g1.g0.ex.trans sl.ex).trans (if_pos hc)
  refine wpAny_mono (gen_run (E1 := X.xe) (A0 := A0) G hr hA hAf hA2 I1 r (by rw [r1.len]; exact hlw) hlw) (fun u s2 ⟨a, go, cdv, eu, S, l⟩ => ?_) fun _ _ z => z
  subst eu
  subst hn
  exact k2 a go N _ f cdv _ _ _ s2 ws vs h1 ι1 H1 S l r1 exn f1 (sl.mono g1) q1
theorem ns_forG {k : Nat} {x : Str} {ps : List Str} {n : Nat} {mb : MGn} {ma : MA} {p pos' : Pos} {e : Expr} {es : List Expr} {tg : Expr} {mt : MG} {ts : List Nat} {body : List Stmt} {b : MS}
    (G : GenD X.prog X.w X.K X.mg X.base k x ps n mb) (hkp : ∀ f, X.mg x = some (.ref f) → PySem.W.keepIn X.K (.ref f) = true) (hr : Room (k + 2) X.A) (hc : X.calm = true) (hgl : Gl X x) (hp : PassesOwn (model X.prog X.w) X.A X.env X.xe) (kx : KeepX X)
    (ha : NA X E (e :: es) ma) (hl : ∀ σ h ws h', ma σ h = .ok ws h' → ws.length = ps.length) (hg : NG X tg mt ts) (hb : NSs X E body b)
    (hdb : (x == ("__debug__" : Str)) = false := by decide) (he : starEach (e :: es) X.env = (false, eval e X.env) :: starEach es X.env := by rfl) (hpl : (backTo pos' (starEach es X.env)).any (·.1) = false := by rfl)
    (hs : ∀ x', foldedSetIterable (.Call (.Name x p) (e :: es) [] pos') X.env x' = pure x' := by intro _; rfl) : NS X E (.For tg (.Call (.Name x p) (e :: es) [] pos') body [] pos) (mForG mb n ma mt b) := by
  refine ⟨fun pins s σ H Dd I ⟨ι, σn, h, ft, sl, q⟩ => ?_⟩
  refine wpAny_For (gen_call0 (A0 := X.A.in1) G hkp hr hr.hd I.env0.frames (room_in1 hr) hc hgl ha hl hdb he hpl I ft sl (AftC.sbind sl q) fun a go N sc f cdv L g gs s2 ws vs h1 ι1 H1 S l0 r1 ex1 f1 sl1 q1 => ?_) hs
  have l := LS0.ls S.ok rfl ⟨rfl, rfl, rfl, rfl, rfl, rfl⟩ l0 r1 ex1 f1
  have isg : s2.heap.IsGen a g := by
    obtain ⟨n1, n2, h1, h2⟩ := S.dat
    exact ⟨go, n1, n2, l.ha, S.cls, h1, h2⟩
  exact wpAny_pyIter_gen isg (forG_loop hp kx rfl hg hb S _ _ _ s2 ι1 σ H1 σn l sl1 q1)
end
end N

set_option maxHeartbeats 1000000
/-! G8: list(g(..)), tuple(g(..)) -/
namespace N
open PySem PySem.Spec PyProof.Rows GenW L2 G
/-- all that it hands out goes behind the list n -/
def drainG (n : Nat) : GO → Option (List O)
  | .fin r => r.ends
  | .yld w h k => match h[n]? with
    | some (.lst xs) => if xs.length < sizeLine then drainG n (k (h.set n (.lst (xs ++ [w])))) else none
    | _ => none
theorem drainG_safe {n : Nat} {T : GO} {h : List O} (e : drainG n T = some h) : Safe T := by
  cases T with
  | fin r => exact ⟨h, e⟩
  | yld w h k => trivial
section
variable {X : Cx} {pins : List (Addr × Obj)} {N : List Str} {nm : Str} {sc : Scope} {f : Addr} {cdv : Value} {A0 : Around} {L : Addr} {pn : List (Addr × Obj)} {g : Nat} {a : Addr} {go : Obj} {T : GO} {gs : GenState} {ip : List (Addr × Obj)} {s : Shared} {ι : Ix} {σ : L2.St} {H : Hp}
theorem drain_go {A : Around} {R : Result → Shared → Prop} {S : Addr} {n : Nat} {res : Value} (hh : A.handled = none) (hd : A.depth < recursionLimit) (hA : A0 = A.in1.in1) (St : Stat X pins (gX X N nm sc f cdv A0 L pn) g a go) {h' : List O} :
    ∀ (T : GO) (gs : GenState) (ip : List (Addr × Obj)) (s : Shared) (ι : Ix) (H : Hp), LS X pins (gX X N nm sc f cdv A0 L pn) A0 g a go T gs ip s ι σ H → ι.num[n]? = some S → drainG n T = some h' →
      (∀ s' ι' H', Inv X pins σ H' s' → Grow ι ι' H H' → Fit X.K X.mg ι' H' h' → R (.ok (.ret res)) s') →
      codeAny (model X.prog X.w) A (.builtin "list.extend.loop" ⟨[.ref S, .ref a, res], []⟩) R s := by
  have pnS := St.pn
  subst pnS
  have isg : ∀ {h : Heap}, h.get? a = some go → h.IsGen a g := fun {h} e => by
    obtain ⟨n1, n2, h1, h2⟩ := St.dat
    exact ⟨go, n1, n2, e, St.cls, h1, h2⟩
  intro T
  induction T with
  | fin r =>
    intro gs ip s ι H l hn q hR
    refine codeAny_builtin F.entry_extend_loop ?_
    rw [Around.under_plainId F.plain_extend_loop _]
    show wpAny _ A.in1 (pyNext (.ref a) >>= _) _ _ s
    refine wpAny_bind (next_go (A := A.in1) hh l.I.nolimit hd (isg l.ha) l.en (by rw [← hA]; exact l.wk (drainG_safe q)) (fun e s1 he => ?_) (fun v gg ll k c p fs s1 he => ?_) fun r' s1 he => ?_)
    · obtain ⟨rfl, _⟩ := he; rfl
    · obtain ⟨e, _⟩ := he; cases e
    · obtain ⟨e, h, ι', H', en, gr, fit, at1, st⟩ := he
      cases e
      refine ⟨.inl rfl, fun h2 hk => ?_⟩
      have I' : Inv X pins σ H' { s1.setGen g .finished with heap := h2 } := l.after St st at1 hk rfl (allBare_setGen at1.bare rfl)
      have eh : h = h' := by
        have q : r.ends = some h' := q
        rw [en] at q
        exact Option.some.inj q
      subst eh
      exact wpAny_pure (hR _ ι' H' I' gr fit)
  | yld w h k ih =>
    intro gs ip s ι H l hn q hR
    refine codeAny_builtin F.entry_extend_loop ?_
    rw [Around.under_plainId F.plain_extend_loop _]
    show wpAny _ A.in1 (pyNext (.ref a) >>= _) _ _ s
    refine wpAny_bind (wpAny_gsz (n := g + 1) (Array.getElem?_eq_some_iff.mp l.en).1 (next_go (A := A.in1) hh l.I.nolimit hd (isg l.ha) l.en (by rw [← hA]; exact l.wk trivial) (fun e s1 he => ?_) (fun v gg ll kk c p fs s1 he hsz => ?_) fun r' s1 he => ?_))
    · obtain ⟨v, ll, kk, c, p, fs, ip1, ι1, H1, x, e', gd, _⟩ := he
      subst e'
      show (!(false || fs.any Frame.guarded)) = true
      rw [gd]; rfl
    · obtain ⟨v', ll', kk', c', p', fs', ip1, ι1, H1, x, e', gd, gr, fit, rw1, rv, at1, st, yg, nxt⟩ := he
      cases e'
      have gsb : (End.susp v false ll kk c p fs).genState.bare = true := by
        show (!(false || fs.any Frame.guarded)) = true
        rw [gd]; rfl
      have I1 : Inv X pins σ H1 (s1.setGen g (End.susp v false ll kk c p fs).genState) := l.after St st at1 (fun _ _ e => e) rfl (allBare_setGen at1.bare gsb)
      have gsz : g < s1.gens.size := by
        have q2 : (s1.setGen g (End.susp v false ll kk c p fs).genState).gens.size = s1.gens.size := setGen_size _ _ _
        have hsz' : g + 1 ≤ (s1.setGen g (End.susp v false ll kk c p fs).genState).gens.size := hsz
        omega
      obtain ⟨ob, hob, hobc⟩ := at1.lob
      have ha1 : s1.heap.get? a = some go ∧ H1 a = none := at1.pin (a, go) List.mem_cons_self
      have en1 : (s1.setGen g (End.susp v false ll kk c p fs).genState).gens[g]? = some (End.susp v false ll kk c p fs).genState := setGen_at gsz
      -- the list
      have hn1 : ι1.num[n]? = some S := gr.g0.at hn
      unfold drainG at q
      cases eo : h[n]? with
      | none => rw [eo] at q; cases q
      | some o =>
        rw [eo] at q
        cases o with
        | lst xs =>
          dsimp only at q
          split at q
          case isFalse => cases q
          case isTrue hlt =>
            cases fit.obj n _ S eo hn1 with
            | @lst _ _ vs hS rS =>
              obtain ⟨hle, its, c0, hv, hSo⟩ := at1.hok S _ hS
              have hvl := rS.len
              have itl : its.length = vs.length := hv.length.symm
              have hSL : S ≠ L := fun e => by have z : H1 L = none := at1.fr; rw [e, z] at hS; cases hS
              have hSa : S ≠ a := fun e => by rw [e, ha1.2] at hS; cases hS
              show wpAny _ A.in1 (updateSeq S (·.push v) >>= _) _ _ _
              refine wpAny_bind ?_
              refine wpAny_updateSeq hSo rfl (wpAny_pure ⟨plainId_quiet F.plain_extend_loop _, ?_⟩) (by show its.toArray.size ≤ sizeLine; rw [List.size_toArray]; omega) (by show (its.toArray.push v).size ≤ sizeLine + 1; rw [Array.size_push, List.size_toArray]; omega)
              have keep3 : ∀ b o, b ≠ S → s1.heap.get? b = some o → (s1.heap.update S (Obj.mapSeq (·.push v))).get? b = some o := fun b o hbS e => (Heap.get?_update_other _ _ (Ne.symm hbS)).trans e
              have self3 := Heap.get?_update_self (Obj.mapSeq (·.push v)) hSo rfl
              have new3 : ObjOk X.prog X.w (upd H1 S (.lst (vs ++ [x]))) (s1.heap.update S (Obj.mapSeq (·.push v))) S (.lst (vs ++ [x])) :=
                ⟨by rw [List.length_append]; show vs.length + 1 ≤ sizeLine; omega, its ++ [v], _, hv.append (.cons rv .nil), by rw [self3]; simp [Obj.mapSeq]; rfl⟩
              have I2 : Inv X pins σ (upd H1 S (.lst (vs ++ [x]))) { (s1.setGen g (End.susp v false ll kk c p fs).genState) with heap := s1.heap.update S (Obj.mapSeq (·.push v)) } :=
                I1.write (by rw [hS]; trivial) (.inl rfl) keep3 ⟨_, self3⟩ new3
              have gp := fit.growP hn1 (.lst (vs ++ [x]))
              have fit2 : Fit X.K X.mg ι1 (upd H1 S (.lst (vs ++ [x]))) (h.set n (.lst (xs ++ [w]))) := fit.put hn1 (.lst upd_same (RWs.app (RWs.mono gp.g0 _ _ rS) (.cons (RW.mono gp.g0 _ _ rw1) .nil)))
              have nL : (upd H1 S (.lst (vs ++ [x]))) L = none := by rw [upd_ne (Ne.symm hSL)]; exact at1.fr
              have na : (upd H1 S (.lst (vs ++ [x]))) a = none := by rw [upd_ne (Ne.symm hSa)]; exact ha1.2
              have hLo := keep3 L ob (Ne.symm hSL) hob
              have hao := keep3 a go (Ne.symm hSa) ha1.1
              refine ih (h.set n (.lst (xs ++ [w]))) (End.susp v false ll kk c p fs).genState ip1 { (s1.setGen g (End.susp v false ll kk c p fs).genState) with heap := s1.heap.update S (Obj.mapSeq (·.push v)) } ι1 (upd H1 S (.lst (vs ++ [x])))
                ⟨I2, ⟨ob, hLo, hobc⟩, nL, hao, na, en1, fun sf2 => ?_⟩ hn1 q fun s' ι' H' I' g' f' => hR s' ι' H' I' ((gr.trans gp).trans g') f'
              refine nxt (({ (s1.setGen g (End.susp v false ll kk c p fs).genState) with heap := s1.heap.update S (Obj.mapSeq (·.push v)) } : Shared).setGen g .running) ι1 (upd H1 S (.lst (vs ++ [x]))) (h.set n (.lst (xs ++ [w]))) sf2 gp fit2
                ⟨⟨I2.bs, I2.stack, I2.stkFree, I2.hok, allBare_setGen I2.bare rfl, fun p hp => ?_, nL, ob, hLo, hobc⟩, fun o e => ?_, fun p hp => ?_, fun i y hi e ay => ?_⟩
              · rw [List.mem_singleton.mp hp]; exact ⟨hao, na⟩
              · obtain rfl : ob = o := Option.some.inj (hob.symm.trans e)
                exact hLo
              · obtain ⟨y1, y2, y3, y4⟩ := yg p hp
                have hne : p.1 ≠ S := fun e => by rw [e, hS] at y2; cases y2
                exact ⟨keep3 _ _ hne y1, by rw [upd_ne hne]; exact y2⟩
              · rw [setGen_ne hi]
                exact (setGen_ne hi).trans e
        | _ => cases q
    · obtain ⟨v, ll, kk, c, p, fs, ip1, ι1, H1, x, e', gd, _⟩ := he
      cases e'
/-- an empty list has been laid: the generator may begin -/
theorem laid_ls {n : Nat} {F : List O → GO} {ws : List W} {vs : List V} {h : List O} {S : Addr} {h4 : Heap} (St : Stat X pins (gX X N nm sc f cdv A0 L [(a, go)]) g a go) (l : LS0 X pins (gX X N nm sc f cdv A0 L [(a, go)]) A0 g a go F ws vs gs s σ H)
    (r : RWs X.K X.mg ι H ws vs) (ex : ι.exs = none) (ft : Fit X.K X.mg ι H h) (hS : S = s.heap.objs.size) (k4 : ∀ b o, s.heap.get? b = some o → h4.get? b = some o) {c : Nat} (hS4 : h4.get? S = some { cls := .type "list", data := .seq #[] c }) :
    LS X pins (gX X N nm sc f cdv A0 L [(a, go)]) A0 g a go (F (h ++ [.lst []])) gs [] { s with heap := h4 } (ι.add S) σ (upd H S (.lst [])) ∧ (ι.add S).num[h.length]? = some S ∧ Grow ι (ι.add S) H (upd H S (.lst [])) ∧ Fit X.K X.mg (ι.add S) (upd H S (.lst [])) (h ++ [.lst []]) := by
  subst hS
  have nS : H s.heap.objs.size = none := l.I.hok.fresh (Nat.le_refl _)
  have I4 : Inv X pins σ (upd H s.heap.objs.size (.lst [])) { s with heap := h4 } := l.I.laid (t' := s.toks) k4 (Nat.le_refl _) ⟨Nat.zero_le _, [], c, .nil, by rw [hS4]⟩
  have gr := ft.growN nS (.lst [])
  have fp := ft.push nS (on := .lst []) (o := .lst []) (.lst upd_same .nil)
  have haS : a ≠ s.heap.objs.size := Nat.ne_of_lt (Heap.lt_size l.ha)
  obtain ⟨ob, hLo, hLc⟩ := l.hL
  have hLS : L ≠ s.heap.objs.size := Nat.ne_of_lt (Heap.lt_size hLo)
  have nL : (upd H s.heap.objs.size (.lst [])) L = none := by rw [upd_ne hLS]; exact l.nL
  have na : (upd H s.heap.objs.size (.lst [])) a = none := by rw [upd_ne haS]; exact l.na
  refine ⟨⟨I4, ⟨ob, k4 _ _ hLo, hLc⟩, nL, k4 _ _ l.ha, na, l.en, fun sf => ?_⟩, ?_, gr, fp⟩
  · refine l.wk (({ s with heap := h4 } : Shared).setGen g .running) (ι.add s.heap.objs.size) (upd H s.heap.objs.size (.lst [])) (h ++ [.lst []]) sf (RWs.mono gr.g0 _ _ r) ex fp ⟨⟨I4.bs, I4.stack, I4.stkFree, I4.hok, allBare_setGen I4.bare rfl, fun p hp => ?_, nL, ob, k4 _ _ hLo, hLc⟩, fun o e => k4 _ _ e, fun p hp => by simp at hp, fun i y hi e _ => ?_⟩
    · rw [List.mem_singleton.mp hp]; exact ⟨k4 _ _ l.ha, na⟩
    · rw [setGen_ne hi]; exact e
  · show (ι.num ++ [s.heap.objs.size])[h.length]? = _
    rw [← ft.len, List.getElem?_append_right (Nat.le_refl _), Nat.sub_self]; rfl
theorem call_listG {F' : List O → GO} {ws : List W} {vs : List V} {h h' : List O} {Q : Value → Shared → Prop} {E : Value → Shared → Prop} (hA : A0 = X.A.in1.in1.in1) (hdp : X.A.depth + 3 < recursionLimit) (St : Stat X pins (gX X N nm sc f cdv A0 L [(a, go)]) g a go)
    (l : LS0 X pins (gX X N nm sc f cdv A0 L [(a, go)]) A0 g a go F' ws vs gs s σ H) (r : RWs X.K X.mg ι H ws vs) (ex : ι.exs = none) (ft : Fit X.K X.mg ι H h) (q : drainG h.length (F' (h ++ [.lst []])) = some h')
    (hQ : ∀ S s' ι' H', Inv X pins σ H' s' → Grow ι ι' H H' → Fit X.K X.mg ι' H' h' → ι'.num[h.length]? = some S → Q (.ref S) s') : wpAny (model X.prog X.w) X.A (call (.type "list") [.ref a]) Q E s := by
  have isg : s.heap.IsGen a g := by
    obtain ⟨n1, n2, h1, h2⟩ := St.dat
    exact ⟨go, n1, n2, l.ha, St.cls, h1, h2⟩
  have hSa : s.heap.objs.size ≠ a := Nat.ne_of_gt (Heap.lt_size l.ha)
  refine callType_codes (Q₁ := fun obj s₁ => obj = .ref s.heap.objs.size ∧ s₁ = { s with heap := s.heap.push { cls := .type "list", data := .seq #[] } }) F.called_list (F.typeCall_list_1 _) F.entry_list_init
    (code_list_new _ ⟨rfl, rfl⟩) fun obj s₁ h₁ => ?_
  obtain ⟨rfl, rfl⟩ := h₁
  have hS : (s.heap.push { cls := .type "list", data := .seq #[] }).get? s.heap.objs.size = some { cls := .type "list", data := .seq #[] } := Heap.get?_push_size _ rfl
  refine ⟨⟨_, hS, rfl⟩, F.args_list_init_2 _ _, ?_⟩
  show wpAny _ X.A.in1.in1 (do let old ← Builtin.List.listItems (.ref s.heap.objs.size); Builtin.List.listUpdate (.ref s.heap.objs.size) (fun _ => #[]); letGo old.toList.reverse; Builtin.List.listExtendWith (.ref s.heap.objs.size) (.ref a) .none) _ _ _
  refine wpAny_bind ?_
  unfold Builtin.List.listItems
  refine wpAny_bind (wpAny_seqItems hS rfl (wpAny_pure ?_))
  show wpAny _ X.A.in1.in1 (updateSeq s.heap.objs.size (fun _ => #[]) >>= fun _ => letGo (#[] : Array Value).toList.reverse >>= fun _ => Builtin.List.listExtendWith (.ref s.heap.objs.size) (.ref a) .none) _ _ _
  refine wpAny_bind (wpAny_updateSeq hS rfl ?_)
  have hS2 := Heap.get?_update_self (Obj.mapSeq (fun _ => (#[] : Array Value))) hS rfl
  refine wpAny_bind (wpAny_letGo ?_)
  unfold Builtin.List.listExtendWith
  have up : ∀ (h : Heap) (f : Obj → Obj), (∀ b o, s.heap.get? b = some o → h.get? b = some o) → ∀ b o, s.heap.get? b = some o → (h.update s.heap.objs.size f).get? b = some o := fun h f q b o e =>
    (Heap.get?_update_other _ _ (Ne.symm (Nat.ne_of_lt (Heap.lt_size e)))).trans (q b o e)
  have k1 : ∀ b o, s.heap.get? b = some o → (s.heap.push { cls := .type "list", data := .seq #[] }).get? b = some o := fun b o e => Heap.get?_push_of_some _ e
  have k2 := up _ (Obj.mapSeq (fun _ => (#[] : Array Value))) k1
  have gty : ∀ {h : Heap}, (∀ b o, s.heap.get? b = some o → h.get? b = some o) → h.IsGen a g := fun {h} q => isg.keeps q
  refine wpAny_bind (wpAny_typeOf (Heap.IsGen.typeIs (s := { s with heap := _ }) (gty k2)) ?_)
  have h1 : Builtin.List.listSameRef (.ref s.heap.objs.size) (.ref a) = false := by simp [Builtin.List.listSameRef, hSa]
  have h2 : (Value.type "generator" == Value.type "list") = false := by decide
  have h3 : (Value.type "generator" == Value.type "tuple") = false := by decide
  simp only [h1, h2, h3, Bool.or_false, Bool.false_eq_true, if_false]
  refine wpAny_bind (wpAny_pyIter_gen (s := { s with heap := _ }) (gty k2) ?_)
  refine wpAny_bind (wpAny_holding ?_)
  unfold Builtin.List.listLengthHint
  refine wpAny_bind (wpAny_specialOf (Heap.IsGen.typeIs (s := { s with heap := _ }) (gty k2)) F.gen_no_len ?_)
  show wpAny _ X.A.in1.in1 (specialOf (Value.ref a) (Str.ofString "__length_hint__") >>= _) _ _ _
  refine wpAny_bind (wpAny_specialOf (Heap.IsGen.typeIs (s := { s with heap := _ }) (gty k2)) F.gen_no_hint ?_)
  refine wpAny_pure ?_
  show wpAny _ X.A.in1.in1 (rule "list.extend.makes-room" >>= fun _ => Builtin.List.listTouch (.ref s.heap.objs.size) >>= fun _ =>
    again (.builtin "list.extend.loop" ⟨[.ref s.heap.objs.size, .ref a, .none], []⟩)) _ _ _
  refine wpAny_bind (wpAny_rule ?_)
  refine wpAny_bind ?_
  show wpAny _ X.A.in1.in1 (updateSeq s.heap.objs.size (·.push .none) >>= fun _ => updateSeq s.heap.objs.size (·.pop)) _ _ _
  refine wpAny_bind (wpAny_updateSeq hS2 rfl ?_)
  have hS3 := Heap.get?_update_self (Obj.mapSeq (·.push Value.none)) hS2 rfl
  refine wpAny_updateSeq (hz := by seq_fits) hS3 rfl ?_
  have hS4 := Heap.get?_update_self (Obj.mapSeq (·.pop)) hS3 rfl
  have k4 := up _ (Obj.mapSeq (·.pop)) (up _ (Obj.mapSeq (·.push Value.none)) k2)
  refine wpAny_pure ⟨plainId_quiet F.plain_extend_loop _, ?_⟩
  obtain ⟨ls, hn, gr, fp⟩ := laid_ls (n := 0) (h := h) St l r ex ft rfl k4 hS4
  refine drain_go (A := X.A.in1) (A0 := A0) St.hd (by show X.A.depth < _ ; omega) hA St _ _ _ _ _ _ ls hn q fun s' ι' H' I' g' f' => ⟨rfl, hQ _ s' ι' H' I' (gr.trans g') f' (g'.g0.at hn)⟩
/-- what it hands out, gathered -/
theorem collectG {A : Around} {F' : List O → GO} {ws : List W} {vs : List V} {h h' : List O} {Q : List Value → Shared → Prop} {E : Value → Shared → Prop} (hh : A.handled = none) (hd : A.depth < recursionLimit) (hA : A0 = A.in1.in1) (St : Stat X pins (gX X N nm sc f cdv A0 L [(a, go)]) g a go)
    (l : LS0 X pins (gX X N nm sc f cdv A0 L [(a, go)]) A0 g a go F' ws vs gs s σ H) (r : RWs X.K X.mg ι H ws vs) (ex : ι.exs = none) (ft : Fit X.K X.mg ι H h) (q : drainG h.length (F' (h ++ [.lst []])) = some h')
    (hQ : ∀ s' ι' H' us xs vs, Inv X pins σ H' s' → Grow ι ι' H H' → Fit X.K X.mg ι' H' h' → h'[h.length]? = some (.lst xs) → RWs X.K X.mg ι' H' xs vs → Vals vs us → us.length ≤ sizeLine → Q us s') (hx : ∃ xs, h'[h.length]? = some (.lst xs)) : wpAny (model X.prog X.w) A (collect (.ref a)) Q E s := by
  have isg : s.heap.IsGen a g := by
    obtain ⟨n1, n2, h1, h2⟩ := St.dat
    exact ⟨go, n1, n2, l.ha, St.cls, h1, h2⟩
  have hSa : s.heap.objs.size ≠ a := Nat.ne_of_gt (Heap.lt_size l.ha)
  unfold collect
  refine wpAny_bind (wpAny_runValue (codeAny_builtin F.entry_proto_collect ?_))
  rw [Around.under_plainId F.plain_proto_collect _]
  show wpAny _ A.in1 (newList [] >>= fun l => again (.builtin "list.__iadd__" ⟨[l, .ref a], []⟩)) _ _ s
  refine wpAny_bind (wpAny_newObj_type ?_)
  refine wpAny_pure ⟨plainId_quiet F.plain_list_iadd _, codeAny_builtin F.entry_list_iadd ?_⟩
  rw [Around.under_plainId F.plain_list_iadd _]
  show wpAny _ A.in1 (Builtin.List.listExtendWith (.ref s.heap.objs.size) (.ref a) (.ref s.heap.objs.size)) _ _ _
  have k1 : ∀ b o, s.heap.get? b = some o → (s.heap.push { cls := .type "list", data := .seq ([] : List Value).toArray }).get? b = some o := fun b o e => Heap.get?_push_of_some _ e
  have up : ∀ (h : Heap) (f : Obj → Obj), (∀ b o, s.heap.get? b = some o → h.get? b = some o) → ∀ b o, s.heap.get? b = some o → (h.update s.heap.objs.size f).get? b = some o := fun h f q b o e =>
    (Heap.get?_update_other _ _ (Ne.symm (Nat.ne_of_lt (Heap.lt_size e)))).trans (q b o e)
  have gty : ∀ {h : Heap}, (∀ b o, s.heap.get? b = some o → h.get? b = some o) → h.IsGen a g := fun {h} q => isg.keeps q
  unfold Builtin.List.listExtendWith
  refine wpAny_bind (wpAny_typeOf (Heap.IsGen.typeIs (s := { s with heap := _ }) (gty k1)) ?_)
  have h1 : Builtin.List.listSameRef (.ref s.heap.objs.size) (.ref a) = false := by simp [Builtin.List.listSameRef, hSa]
  have h2 : (Value.type "generator" == Value.type "list") = false := by decide
  have h3 : (Value.type "generator" == Value.type "tuple") = false := by decide
  simp only [h1, h2, h3, Bool.or_false, Bool.false_eq_true, if_false]
  refine wpAny_bind (wpAny_pyIter_gen (s := { s with heap := _ }) (gty k1) ?_)
  refine wpAny_bind (wpAny_holding ?_)
  unfold Builtin.List.listLengthHint
  refine wpAny_bind (wpAny_specialOf (Heap.IsGen.typeIs (s := { s with heap := _ }) (gty k1)) F.gen_no_len ?_)
  show wpAny _ A.in1 (specialOf (Value.ref a) (Str.ofString "__length_hint__") >>= _) _ _ _
  refine wpAny_bind (wpAny_specialOf (Heap.IsGen.typeIs (s := { s with heap := _ }) (gty k1)) F.gen_no_hint ?_)
  refine wpAny_pure ?_
  show wpAny _ A.in1 (rule "list.extend.makes-room" >>= fun _ => Builtin.List.listTouch (.ref s.heap.objs.size) >>= fun _ =>
    again (.builtin "list.extend.loop" ⟨[.ref s.heap.objs.size, .ref a, .ref s.heap.objs.size], []⟩)) _ _ _
  refine wpAny_bind (wpAny_rule ?_)
  have hS₁ : (s.heap.push { cls := .type "list", data := .seq ([] : List Value).toArray }).get? s.heap.objs.size = some { cls := .type "list", data := .seq ([] : List Value).toArray } := Heap.get?_push_size _ rfl
  refine wpAny_bind ?_
  show wpAny _ A.in1 (updateSeq s.heap.objs.size (·.push .none) >>= fun _ => updateSeq s.heap.objs.size (·.pop)) _ _ _
  refine wpAny_bind (wpAny_updateSeq hS₁ rfl ?_)
  have hS₂ := Heap.get?_update_self (Obj.mapSeq (·.push Value.none)) hS₁ rfl
  refine wpAny_updateSeq hS₂ rfl ?_
  have hS₃ := Heap.get?_update_self (Obj.mapSeq (·.pop)) hS₂ rfl
  have k4 := up _ (Obj.mapSeq (·.pop)) (up _ (Obj.mapSeq (·.push Value.none)) k1)
  refine wpAny_pure ⟨plainId_quiet F.plain_extend_loop _, ?_⟩
  obtain ⟨ls, hn, gr, fp⟩ := laid_ls (n := 0) (h := h) St l r ex ft rfl k4 hS₃
  refine drain_go (A := A) (A0 := A0) hh hd hA St _ _ _ _ _ _ ls hn q fun s' ι' H' I' g' f' => ?_
  obtain ⟨xs, hxs⟩ := hx
  cases f'.obj _ _ _ hxs (g'.g0.at hn) with
  | @lst _ _ vs2 hS rS =>
    obtain ⟨hle, its, c0, hv, hSo⟩ := I'.hok _ _ hS
    show wpAny _ A (load s.heap.objs.size >>= _) _ _ s'
    refine wpAny_bind (wpAny_load hSo ?_)
    refine wpAny_pure ?_
    have : its.toArray.toList = its := by simp
    show Q its.toArray.toList s'
    rw [this]
    exact hQ s' ι' H' its xs vs2 I' (gr.trans g') f' hxs rS hv (by have := hv.length; omega)
theorem call_tupleG {F' : List O → GO} {ws : List W} {vs : List V} {h h' : List O} {xs : List W} {Q : Value → Shared → Prop} {E : Value → Shared → Prop} (hA : A0 = X.A.in1.in1.in1.in1) (hdp : X.A.depth + 3 < recursionLimit) (St : Stat X pins (gX X N nm sc f cdv A0 L [(a, go)]) g a go)
    (l : LS0 X pins (gX X N nm sc f cdv A0 L [(a, go)]) A0 g a go F' ws vs gs s σ H) (r : RWs X.K X.mg ι H ws vs) (ex : ι.exs = none) (ft : Fit X.K X.mg ι H h) (q : drainG h.length (F' (h ++ [.lst []])) = some h') (hx : h'[h.length]? = some (.lst xs))
    (hQ : ∀ T s' ι' H' , Inv X pins σ H' s' → Grow ι ι' H H' → Fit X.K X.mg ι' H' h' → RW X.K X.mg ι' H' (.tup xs) (.ref T) → Q (.ref T) s') : wpAny (model X.prog X.w) X.A (call (.type "tuple") [.ref a]) Q E s := by
  have isg : s.heap.IsGen a g := by
    obtain ⟨n1, n2, h1, h2⟩ := St.dat
    exact ⟨go, n1, n2, l.ha, St.cls, h1, h2⟩
  have hTI : s.TypeIs (.ref a) "generator" := Heap.IsGen.typeIs isg
  refine callType_codes (Q₁ := fun obj s₁ => s₁.TypeIs obj "tuple" ∧ Q obj s₁) F.called_tuple (F.typeCall_tuple_1 _) F.entry_object_init ?_ fun obj s₁ h₁ => ?_
  · refine codeAny_of_tree ?_
    show wpAny _ X.A.in1.in1 (do checkBuiltinCall "tuple.__new__" ⟨[.type "tuple", .ref a], []⟩; again (.builtin "tuple.__new__" ⟨[.type "tuple", .ref a], []⟩)) _ _ s
    refine wpAny_bind (wpAny_of_eq (F.newCall_tuple_1 _) (wpAny_pure ⟨plainId_quiet F.plain_tuple_new _, codeAny_builtin F.entry_tuple_new ?_⟩))
    rw [Around.under_plainId F.plain_tuple_new _]
    have hsub := sub_tuple_self
    have hinit := init_tuple_lookup
    have hmh := madeHere_tuple
    have col : ∀ (A : Around) (Q : List Value → Shared → Prop) (E : Value → Shared → Prop), A.handled = none → A.depth < recursionLimit → A0 = A.in1.in1 → (∀ s' ι' H' us xs vs, Inv X pins σ H' s' → Grow ι ι' H H' → Fit X.K X.mg ι' H' h' → h'[h.length]? = some (.lst xs) → RWs X.K X.mg ι' H' xs vs → Vals vs us → us.length ≤ sizeLine → Q us s') → wpAny (model X.prog X.w) A (collect (.ref a)) Q E s :=
      fun A Q E y1 y2 y3 y4 => collectG (h' := h') y1 y2 y3 St l r ex ft q y4 ⟨xs, hx⟩
    wp_walk using wpAny_typeOf hTI, col _ _ _ (by exact St.hd) (by show X.A.depth < _; omega) (by exact hA)
    intro s' ι' H' us xs' vs' I' gr f' hx' rw' hv hle
    rw [hx] at hx'
    cases hx'
    have el : us.toArray.toList = us := by simp
    show wpAny _ _ (Builtin.Tuple.tupleExact us.toArray >>= fun v => ret v) _ _ _
    unfold Builtin.Tuple.tupleExact
    have nT : H' s'.heap.objs.size = none := I'.hok.fresh (Nat.le_refl _)
    refine wpAny_bind (wpAny_newObj_type ?_ (by show us.toArray.size ≤ sizeLine; rw [List.size_toArray]; exact hle))
    refine wpAny_pure ?_
    have vl := hv.length
    obtain ⟨g2, f2, r2⟩ := new_tup f' rw' nT
    have hT : (s'.heap.push { cls := .type "tuple", data := .seq us.toArray }).get? s'.heap.objs.size = some { cls := .type "tuple", data := .seq us.toArray } := Heap.get?_push_size _ rfl
    refine ⟨⟨_, hT, rfl⟩, hQ s'.heap.objs.size _ ι' _ (I'.laid (t' := s'.toks) (o := .tup vs') (fun b o e => Heap.get?_push_of_some _ e) (Nat.le_refl _) ⟨by omega, us, hv, ?_⟩) (gr.trans g2) f2 r2⟩
    exact ⟨_, hT, rfl, _, rfl⟩
  · exact ⟨h₁.1, F.args_object_init_2 obj _, object_init_meets F.called_tuple.init.lookup F.called_tuple.made (by decide) X.prog X.w X.A.in1 _ s₁ ⟨h₁.1, rfl, h₁.2⟩⟩
end
/-! the expressions -/
def mListG (mb : MGn) (n : Nat) (ma : MA) : ME := fun σ h => (ma σ h).bind fun ws h1 => match drainG h1.length (mb (startN n ws) (h1 ++ [.lst []])) with
  | some h2 => .ok (.ref h1.length) h2
  | none => .stuck
def mTupG (mb : MGn) (n : Nat) (ma : MA) : ME := fun σ h => (ma σ h).bind fun ws h1 => match drainG h1.length (mb (startN n ws) (h1 ++ [.lst []])) with
  | some h2 => match h2[h1.length]? with
    | some (.lst xs) => .ok (.tup xs) h2
    | _ => .stuck
  | none => .stuck
section
variable {X : Cx} {E : WX} {pos : Pos}
theorem room_in3 {k : Nat} {A : Around} (h : Room (k + 3) A) (env : Env) : Room k (A.in1.in1.in1.deeper env) := by
  refine Room.deeper (k := k) (A := A.in1.in1.in1) ⟨h.hd, ?_, ?_⟩ env
  · have := h.dp
    show A.depth + 3 * (k + 1) + 5 < _
    omega
  · have := h.un
    show A.units + 1 + 1 + 1 + 16 * (k + 1) + 200 < _
    omega
theorem room_in4 {k : Nat} {A : Around} (h : Room (k + 3) A) (env : Env) : Room k (A.in1.in1.in1.in1.deeper env) := by
  refine Room.deeper (k := k) (A := A.in1.in1.in1.in1) ⟨h.hd, ?_, ?_⟩ env
  · have := h.dp
    show A.depth + 3 * (k + 1) + 5 < _
    omega
  · have := h.un
    show A.units + 1 + 1 + 1 + 1 + 16 * (k + 1) + 200 < _
    omega
theorem ne_listG {k : Nat} {x : Str} {ps : List Str} {n : Nat} {mb : MGn} {ma : MA} {p p2 pos' : Pos} {e : Expr} {es : List Expr}
    (G : GenD X.prog X.w X.K X.mg X.base k x ps n mb) (hkp : ∀ f, X.mg x = some (.ref f) → PySem.W.keepIn X.K (.ref f) = true) (hr : Room (k + 3) X.A) (hc : X.calm = true) (hgl : Gl X x) (ha : NA X E (e :: es) ma) (hl : ∀ σ h ws h', ma σ h = .ok ws h' → ws.length = ps.length)
    (hgb : Gl X "list") (hmb : X.mg "list" = none)
    (hdb : (x == ("__debug__" : Str)) = false := by decide) (he : starEach (e :: es) X.env = (false, eval e X.env) :: starEach es X.env := by rfl) (hpl : (backTo pos' (starEach es X.env)).any (·.1) = false := by rfl)
    (he2 : starEach [.Call (.Name x p) (e :: es) [] pos'] X.env = (false, eval (.Call (.Name x p) (e :: es) [] pos') X.env) :: starEach [] X.env := by rfl) : NE X E (.Call (.Name "list" p2) [.Call (.Name x p) (e :: es) [] pos'] [] pos) (mListG mb n ma) := by
  refine ⟨fun pins s σ H Q I ⟨ι, σn, h, ft, sl, q⟩ => ?_⟩
  refine wpAny_Call_Name_kw (ld_blt (u := .type "list") I hgb hmb (by decide +kernel) ?_ (by decide) (by decide))
  refine PyProof.Rows.callWith_type1 ?_ he2 rfl
  rw [he2]
  show wpAny _ _ (spliced ((false, eval (.Call (.Name x p) (e :: es) [] pos') X.env) :: backTo pos (starEach [] X.env))) _ _ s
  refine Calls.spliced_cons (wpAny_mono (gen_call0 (k := k) (A0 := X.A.in1.in1.in1) (Q := fun u s2 => wpAny (model X.prog X.w) X.A (call (.type "list") [u]) (EP X pins σ Q) X.xe s2) G hkp (hr.mono (by omega)) hr.hd I.env0.frames (room_in3 hr) hc hgl ha hl hdb he hpl I ft sl (AftC.bind q) fun a go N sc f cdv L g gs s2 ws vs h1 ι1 H1 S l0 r1 ex1 f1 sl1 q1 => ?_) (fun u s2 hu => ?_) fun _ _ z => z)
  · have q1 : Aft X.K X.mg ι1 H1 (match drainG h1.length (mb (startN n ws) (h1 ++ [.lst []])) with | some h2 => .ok (W.ref h1.length) h2 | none => .stuck) (RW X.K X.mg) Q (fun c d H' => E c d σ H') := q1
    cases ed : drainG h1.length (mb (startN n ws) (h1 ++ [.lst []])) with
    | none => rw [ed] at q1; exact q1.elim
    | some h2 =>
      rw [ed] at q1
      exact call_listG rfl (by have := hr.dp; omega) S l0 r1 ex1 f1 ed fun S' s' ι' H' I' g' f' hn => ⟨.ref S', H', I', rfl, q1 ι' (.ref S') H' g' f' (.ref hn)⟩
  · exact Calls.spliced_nil hu
theorem ne_tupG {k : Nat} {x : Str} {ps : List Str} {n : Nat} {mb : MGn} {ma : MA} {p p2 pos' : Pos} {e : Expr} {es : List Expr}
    (G : GenD X.prog X.w X.K X.mg X.base k x ps n mb) (hkp : ∀ f, X.mg x = some (.ref f) → PySem.W.keepIn X.K (.ref f) = true) (hr : Room (k + 3) X.A) (hc : X.calm = true) (hgl : Gl X x) (ha : NA X E (e :: es) ma) (hl : ∀ σ h ws h', ma σ h = .ok ws h' → ws.length = ps.length)
    (hgb : Gl X "tuple") (hmb : X.mg "tuple" = none)
    (hdb : (x == ("__debug__" : Str)) = false := by decide) (he : starEach (e :: es) X.env = (false, eval e X.env) :: starEach es X.env := by rfl) (hpl : (backTo pos' (starEach es X.env)).any (·.1) = false := by rfl)
    (he2 : starEach [.Call (.Name x p) (e :: es) [] pos'] X.env = (false, eval (.Call (.Name x p) (e :: es) [] pos') X.env) :: starEach [] X.env := by rfl) : NE X E (.Call (.Name "tuple" p2) [.Call (.Name x p) (e :: es) [] pos'] [] pos) (mTupG mb n ma) := by
  refine ⟨fun pins s σ H Q I ⟨ι, σn, h, ft, sl, q⟩ => ?_⟩
  refine wpAny_Call_Name_kw (ld_blt (u := .type "tuple") I hgb hmb (by decide +kernel) ?_ (by decide) (by decide))
  refine PyProof.Rows.callWith_type1 ?_ he2 rfl
  rw [he2]
  show wpAny _ _ (spliced ((false, eval (.Call (.Name x p) (e :: es) [] pos') X.env) :: backTo pos (starEach [] X.env))) _ _ s
  refine Calls.spliced_cons (wpAny_mono (gen_call0 (k := k) (A0 := X.A.in1.in1.in1.in1) (Q := fun u s2 => wpAny (model X.prog X.w) X.A (call (.type "tuple") [u]) (EP X pins σ Q) X.xe s2) G hkp (hr.mono (by omega)) hr.hd I.env0.frames (room_in4 hr) hc hgl ha hl hdb he hpl I ft sl (AftC.bind q) fun a go N sc f cdv L g gs s2 ws vs h1 ι1 H1 S l0 r1 ex1 f1 sl1 q1 => ?_) (fun u s2 hu => ?_) fun _ _ z => z)
  · have q1 : Aft X.K X.mg ι1 H1 (match drainG h1.length (mb (startN n ws) (h1 ++ [.lst []])) with
        | some h2 => match h2[h1.length]? with
          | some (.lst xs) => .ok (W.tup xs) h2
          | _ => .stuck
        | none => .stuck) (RW X.K X.mg) Q (fun c d H' => E c d σ H') := q1
    cases ed : drainG h1.length (mb (startN n ws) (h1 ++ [.lst []])) with
    | none => rw [ed] at q1; exact q1.elim
    | some h2 =>
      rw [ed] at q1
      dsimp only at q1
      cases eo : h2[h1.length]? with
      | none => rw [eo] at q1; exact q1.elim
      | some o =>
        rw [eo] at q1
        cases o with
        | lst xs => exact call_tupleG rfl (by have := hr.dp; omega) S l0 r1 ex1 f1 ed eo fun T s' ι' H' I' g' f' r' => ⟨.ref T, H', I', rfl, q1 ι' (.ref T) H' g' f' r'⟩
        | _ => exact q1.elim
  · exact Calls.spliced_nil hu
end
end N

set_option maxHeartbeats 1000000
/-! N12: starred parts of a display, dict displays -/
namespace N
open PySem L2
def mStar (m : ME) (n : MA) : MA := fun σ h => (m σ h).bind fun w h1 => match seqU h1 w with
  | some ws => (n σ h1).bind fun us h2 => .ok (ws ++ us) h2
  | none => .stuck
section
variable {X : Cx} {E : WX} {pos : Pos}
theorem na_star {e : Expr} {es : List Expr} {p : Pos} {m : ME} {n : MA} (he : NE X E e m) (hr : NA X E es n) (hs : starEach (.Starred e p :: es) X.env = (true, eval e X.env) :: starEach es X.env := by rfl) : NA X E (.Starred e p :: es) (mStar m n) :=
  PA.imp (StX.pa_star he hr hs) fun σ H Q ⟨ι, σn, h, f, s, q⟩ => ⟨ι, σn, h, f, s, Aft.bind q fun ι1 w1 h1 v1 H1 g1 f1 r1 q1 => by
    cases e : seqU h1 w1 with
    | none => rw [e] at q1; exact q1.elim
    | some ws =>
      rw [e] at q1
      obtain ⟨a, vs, e1, e2, e3⟩ := seqU_at f1 r1 e
      refine ⟨a, vs, e1, e2.symm, ι1, σn, h1, f1, s.mono g1, Aft.bind q1 fun ι2 us h2 vs2 H2 g2 f2 r2 q2 => q2 ι2 (vs ++ vs2) H2 .refl f2 ?_⟩
      exact RWs.app (RWs.mono g2.g0 _ _ e3) r2⟩
end
/-! ### {k: v, ..} -/
def mPairs : List (ME × ME) → Slo → List O → ER (List (W × W))
  | [], _, h => .ok [] h
  | p :: r, σ, h => (p.1 σ h).bind fun a h1 => (p.2 σ h1).bind fun b h2 => (mPairs r σ h2).bind fun l h3 => .ok ((a, b) :: l) h3
def dispW : List (W × W) → List (W × W) → Option (List (W × W))
  | acc, [] => some acc
  | acc, p :: r => (keyK p.1).bind fun k => dispW (putQ acc (.inl k) p.1 p.2) r
def mDisp (l : List (ME × ME)) : ME := fun σ h => (mPairs l σ h).nb fun kvs h1 => match dispW [] kvs with
  | some q => if kvs.length ≤ 15 then .ok (.dct false q) h1 else .stuck
  | none => .stuck
inductive RWp (K : PySem.W.Frag) (mg : Str → Option Value) (ι : Ix) (H : Hp) : List (W × W) → List (V × V) → Prop
  | nil : RWp K mg ι H [] []
  | cons {a b : W} {x y : V} {l : List (W × W)} {vs : List (V × V)} : RW K mg ι H a x → RW K mg ι H b y → RWp K mg ι H l vs → RWp K mg ι H ((a, b) :: l) ((x, y) :: vs)
theorem pairs_aft {K : PySem.W.Frag} {mg : Str → Option Value} {z : Option (Addr × Addr)} {E : WX} : ∀ {l : List (ME × ME)} {ι : Ix} {H : Hp} {h : List O} {σn : Slo} {σ : St} {Q : List (V × V) → Hp → Prop}, Fit K mg ι H h → Sl K mg ι H z σn σ →
    Aft K mg ι H (mPairs l σn h) (RWp K mg) Q (fun c d H' => E c d σ H') → tPairs (l.map fun p => (tN K mg z E p.1, tN K mg z E p.2)) σ H Q
  | [], ι, H, h, σn, σ, Q, f, s, q => q ι [] H .refl f .nil
  | p :: r, ι, H, h, σn, σ, Q, f, s, q => by
    refine ⟨ι, σn, h, f, s, Aft.bind q fun ι1 w1 h1 v1 H1 g1 f1 r1 q1 => ?_⟩
    refine ⟨ι1, σn, h1, f1, s.mono g1, Aft.bind q1 fun ι2 w2 h2 v2 H2 g2 f2 r2 q2 => ?_⟩
    refine pairs_aft (E := E) f2 ((s.mono g1.g0).mono g2.g0) ?_
    refine Aft.bind q2 fun ι3 w3 h3 v3 H3 g3 f3 r3 q3 => q3 ι3 _ H3 .refl f3 ?_
    exact .cons (RW.mono (g2.g0.trans g3.g0) _ _ r1) (RW.mono g3.g0 _ _ r2) r3
theorem dispW_at {K : PySem.W.Frag} {mg : Str → Option Value} {ι : Ix} {H : Hp} : ∀ {l : List (W × W)} {vs : List (V × V)} {acc q : List (W × W)} {qs : List (Key × V)}, RWp K mg ι H l vs → dispW acc l = some q → RWk K mg ι H acc qs →
    ∃ kvs : List (Key × V), vs = kvs.map (fun kv => (kV kv.1, kv.2)) ∧ kvs.length = l.length ∧ RWk K mg ι H q (mergeK qs kvs)
  | [], _, acc, q, qs, .nil, e, r => by cases e; exact ⟨[], rfl, rfl, r⟩
  | _, _, acc, q, qs, .cons (a := a) (b := b) (x := x) (y := y) (l := l) ra rb rr, e, r => by
    unfold dispW at e
    cases ek : keyK a with
    | none => simp only [ek, Option.bind_none] at e; cases e
    | some k =>
      simp only [ek, Option.bind_some] at e
      obtain ⟨kvs, e1, e2, e3⟩ := dispW_at rr e (putK_at r ek rb)
      refine ⟨(k, y) :: kvs, ?_, by simp [e2], e3⟩
      rw [e1, kW_V ek ra]; rfl
section
variable {X : Cx} {E : WX} {pos : Pos}
abbrev NPs (X : Cx) (pos : Pos) (ks : List (Option Expr)) (vs : List Expr) (l : List (ME × ME)) : Prop := PPs X pos ks vs (l.map fun p => (tN X.K X.mg (zX X) E00 p.1, tN X.K X.mg (zX X) E00 p.2))
theorem nps_nil : NPs X pos [] [] [] := pps_nil
theorem nps_cons {k v : Expr} {ks : List (Option Expr)} {vs : List Expr} {mk mv : ME} {l : List (ME × ME)} (hk : NE X E00 k mk) (hv : NE X E00 v mv) (hr : NPs X pos ks vs l) : NPs X pos (some k :: ks) (v :: vs) ((mk, mv) :: l) := pps_cons hk hv hr
theorem ne_disp {ks : List (Option Expr)} {vs : List Expr} {l : List (ME × ME)} (h : NPs X pos ks vs l) (hall : ks.all (·.isSome) = true := by rfl) (hl : ks.length = vs.length := by rfl) (h0 : ks ≠ [] := by intro z; cases z) (h15 : ks.length ≤ 15 := by decide) : NE X E (.Dict ks vs pos) (mDisp l) :=
  PE.imp (pe_disp h hall hl h0 h15) fun σ H Q ⟨ι, σn, h, f, s, q⟩ D hD => by
    obtain ⟨fD, gD⟩ := f.hide hD (.dK [])
    refine pairs_aft (E := E00) fD (s.mono gD) ?_
    have q : Aft X.K X.mg ι H ((mPairs l σn h).nb fun kvs h1 => match dispW [] kvs with
      | some q => if kvs.length ≤ 15 then .ok (.dct false q) h1 else .stuck
      | none => .stuck) (RW X.K X.mg) Q (fun c d H' => E c d σ H') := q
    have end1 : ∀ {ι2 : Ix} {H2 : Hp} {h2 : List O}, Grow (ι.hide D) ι2 (upd H D (.dK [])) H2 → Fit X.K X.mg ι2 H2 h2 → ∀ o, Grow ι ⟨ι2.num, ι.hid, ι2.exs⟩ H (upd H2 D o) ∧ Fit X.K X.mg ⟨ι2.num, ι.hid, ι2.exs⟩ (upd H2 D o) h2 ∧ Gro0 ι2 ⟨ι2.num, ι.hid, ι2.exs⟩ H2 (upd H2 D o) ∧ (⟨ι2.num, ι.hid, ι2.exs⟩ : Ix).out D ∧ H2 D = some (.dK []) := fun {ι2 H2 h2} g2 f2 o => by
      have eh : ι2 = Ix.hide ⟨ι2.num, ι.hid, ι2.exs⟩ D := by
        obtain ⟨n2, hi2, e2⟩ := ι2
        have : hi2 = D :: ι.hid := g2.hid
        rw [this]; rfl
      have hk : H2 D = some (.dK []) := by rw [g2.hkeep D (List.mem_cons_self ..)]; exact upd_same
      have f2' := f2
      rw [eh] at f2'
      obtain ⟨f3, g3⟩ := f2'.putH o
      obtain ⟨f4, g4⟩ := Fit.show' f3
      have g23 : Gro0 ι2 ⟨ι2.num, ι.hid, ι2.exs⟩ H2 (upd H2 D o) := by
        have := g3.trans g4
        rw [← eh] at this
        exact this
      have nD : D ∉ ι.hid := fun z => by
        obtain ⟨⟨u, e⟩, _⟩ := f.hd D z
        rw [hD] at e; cases e
      refine ⟨⟨(gD.trans g2.g0).trans g23, rfl, fun a ha => ?_⟩, f4, g23, ⟨fun z => ?_, nD⟩, hk⟩
      · have ne : a ≠ D := fun z => nD (z ▸ ha)
        rw [upd_ne ne, g2.hkeep a (List.mem_cons_of_mem _ ha), upd_ne ne]
      · have := (f2.hd D (by rw [g2.hid]; exact List.mem_cons_self ..)).2
        exact this z
    cases em : mPairs l σn h with
    | stuck => rw [em] at q; exact q.elim
    | exc x h1 => rw [em] at q; exact q.elim
    | ok kvs h1 =>
      rw [em] at q
      simp only [nb_ok] at q
      intro ι2 vs2 H2 g2 f2 r2
      cases ed : dispW [] kvs with
      | none => rw [ed] at q; exact q.elim
      | some dq =>
        rw [ed] at q
        by_cases h15 : kvs.length ≤ 15
        · simp only [if_pos h15] at q
          obtain ⟨qs, e1, e2, e3⟩ := dispW_at r2 ed .nil
          obtain ⟨t1, t2, t3, t4, t5⟩ := end1 g2 f2 (.dK (mergeK [] qs))
          refine ⟨t5, qs, e1, by omega, q _ (.ref D) _ t1 t2 (.dctK t4 (.inl upd_same) (RWk.mono t3 _ _ e3))⟩
        · simp only [if_neg h15] at q
          exact q.elim
end
end N

set_option maxHeartbeats 1000000
/-! N13: def f(a, .., *v) -/
namespace N
open PySem L2 StX
def mDefV (np n : Nat) (b : MS) : MF := fun ws h => if np ≤ ws.length ∧ (ws.drop np).length ≤ sizeLine then mDef n b (ws.take np ++ [.tup (ws.drop np)]) h else .stuck
def spR (K : PySem.W.Frag) (mg : Str → Option Value) (m : MF) : Sp := fun vs H Q E => ∃ ι ws h, Fit K mg ι H h ∧ ι.exs = none ∧ RWs K mg ι H ws vs ∧ Aft K mg ι H (m ws h) (RW K mg) Q E
structure DefR (P : Program) (w : World) (K : PySem.W.Frag) (mg : Str → Option Value) (base : Heap) (k : Nat) (nm : Str) (m : MF) : Prop where
  ex : ∃ (f : Addr), FnR P w K mg base (L2.CX P w) k f (spR K mg m) ∧ mg nm = some (.ref f) ∧ PySem.W.keepIn K (.ref f) = true
structure FunV (K : PySem.W.Frag) (mg : Str → Option Value) (nm : Str) (st : Stmt) (ps : List Str) (pv : Str) : Prop where
  ex : ∃ (f : Addr) (fd : FuncData), Fun K nm nm st f fd ∧ mg nm = some (.ref f) ∧ ∀ us rest : List Value, us.length = ps.length → bindArgs fd ⟨us ++ rest, []⟩ = (newTuple rest >>= fun t => pure (ps.zip us ++ [(pv, t)]))
section
variable {P : Program} {w : World} {K : PySem.W.Frag} {mg : Str → Option Value} {base : Heap}
theorem RWs.cutAt : ∀ {ws : List W} {vs : List V} {ι : Ix} {H : Hp} (n : Nat), RWs K mg ι H ws vs → RWs K mg ι H (ws.take n) (vs.take n) ∧ RWs K mg ι H (ws.drop n) (vs.drop n)
  | ws, vs, ι, H, 0, r => ⟨.nil, r⟩
  | _, _, ι, H, n + 1, .nil => ⟨.nil, .nil⟩
  | _, _, ι, H, n + 1, .cons r rr => ⟨.cons r (RWs.cutAt n rr).1, (RWs.cutAt n rr).2⟩
theorem FunV.ok {nm : Str} {st : Stmt} {N ps : List Str} {pv : Str} {k : Nat} {b : MS} (F : FunV K mg nm st ps pv) (S : FnScope N (ps ++ [pv]) (defScope st))
    (hb : ∀ (f : Addr) (cdv : Value) (A : Around) (outer : List Env) (s : Shared) (H : Hp) (E : XK), Room k (A.deeper (PyProof.Rows.envOfC nm (defScope st) s.heap.objs.size f cdv)) →
      NSs (cxOf (L2.CX P w) P w K mg base N nm (defScope st) f cdv A outer s H E) (fun cls d _ H' => E cls d H') (defBody st) b) : DefR P w K mg base (k + 1) nm (mDefV ps.length N.length b) := by
  obtain ⟨f, fd, h1, h2, h3⟩ := F
  obtain ⟨oc, od, kV, doc, pm, an, cdv, ct, osl, rfl, lk, hcd⟩ := h1.ex
  have R := fn_star (P := P) (w := w) (mg := mg) (base := base) (CX := L2.CX P w) (k := k) (sp := spN K mg (ps.length + 1) (mDef N.length b)) lk hcd S cxUp h3 fun A outer s H vs Q E hr h => by
    obtain ⟨ι, ws, h, ft, ex, r, e, q⟩ := h
    refine ⟨_, hb f cdv A outer s H E hr, ι, _, h, ft, sl_start ex r, ?_⟩
    unfold mDef at q
    cases e2 : b (ws.map some ++ List.replicate (N.length - ws.length) none) h with
    | nx σ' h' => rw [e2] at q; exact fun ι2 σ2 H2 g2 f2 s2 => q ι2 .non H2 g2 f2 .non
    | rt w h' => rw [e2] at q; exact q
    | exc x σ' h' => rw [e2] at q; exact fun ι2 c d σ2 H2 g2 f2 s2 => q ι2 c d H2 g2 f2
    | bk σ' h' => rw [e2] at q; exact q.elim
    | ct σ' h' => rw [e2] at q; exact q.elim
    | stuck => rw [e2] at q; exact q.elim
  refine ⟨f, fun A outer s H us vs Q E hr e0 r hsp => R A outer s H us vs Q E hr e0 r ?_, h2, h1.kp⟩
  obtain ⟨ι, ws, h, ft, ex, rw', q⟩ := hsp
  unfold mDefV at q
  by_cases hc : ps.length ≤ ws.length ∧ (ws.drop ps.length).length ≤ sizeLine
  · rw [if_pos hc] at q
    obtain ⟨r1, r2⟩ := RWs.cutAt ps.length rw'
    refine ⟨vs.take ps.length, vs.drop ps.length, (List.take_append_drop _ _).symm, ?_, by rw [r2.len]; exact hc.2, fun p hp => ?_⟩
    · rw [r1.len, List.length_take]; omega
    · obtain ⟨g, f2, r3⟩ := new_tup ft r2 hp
      refine ⟨ι, ws.take ps.length ++ [.tup (ws.drop ps.length)], h, f2, ex, RWs.app (RWs.mono g.g0 _ _ r1) (.cons r3 .nil), ?_, Aft.step q g⟩
      rw [List.length_append, List.length_take]
      simp; omega
  · rw [if_neg hc] at q; exact q.elim
end
section
variable {X : Cx} {E : WX} {e : Expr} {es : List Expr} {pos : Pos}
theorem ne_callR {k : Nat} {x : Str} {m : MF} {ma : MA} {p : Pos} (D : DefR X.prog X.w X.K X.mg X.base k x m) (hr : Room k X.A) (hc : X.calm = true) (hg : Gl X x) (tk : Takes X E) (ha : NA X E (e :: es) ma) (hE : ∀ c d σ σ' H, E c d σ H → E c d σ' H)
    (hdb : (x == ("__debug__" : Str)) = false := by decide) (he : starEach (e :: es) X.env = (false, eval e X.env) :: starEach es X.env := by rfl) (hpl : (backTo pos (starEach es X.env)).any (·.1) = false := by rfl) :
    NE X E (.Call (.Name x p) (e :: es) [] pos) (mCall m ma) := by
  obtain ⟨f, F, hm, hk⟩ := D
  refine ⟨fun pins s σ H Q I q => ?_⟩
  obtain ⟨ι, σn, h, ft, sl, q⟩ := q
  refine wpAny_Call_Name_kw (ld_glob I hg hm ?_ hdb)
  have aft : Aft X.K X.mg ι H (ma σn h) (RWs X.K X.mg) (fun vs H1 => spR X.K X.mg m vs H1 Q (fun c d H' => E c d σ H')) (fun c d H' => E c d σ H') := by
    cases ea : ma σn h with
    | ok ws h1 =>
      have q' : Aft X.K X.mg ι H (m ws h1) (RW X.K X.mg) Q (fun c d H' => E c d σ H') := by unfold mCall at q; rw [ea] at q; exact q
      exact fun ι1 vs H1 g1 f1 r1 => ⟨ι1, ws, h1, f1, (g1.g0.ex.trans sl.ex).trans (if_pos hc), r1, Aft.step q' g1⟩
    | exc x h1 => unfold mCall at q; rw [ea] at q; exact q
    | stuck => unfold mCall at q; rw [ea] at q; exact q
  have hx : Passes (L2.CX X.prog X.w) X (fun c d H' => E c d σ H') := passes_call tk fun cls d σ' H' z => hE _ _ _ _ _ z
  refine PySem.W.callWith_K (h₀ := X.base) I.ok.mod.kin hk (thn (ha.run pos pins s σ H _ I ⟨ι, σn, h, ft, sl, aft⟩) fun us s1 ⟨vs, H1, I1, r, q1⟩ => ⟨I1.kIn, ?_⟩) he hpl
  exact wpAny_call (run_fnR F hr hx I1 r q1)
end
end N

set_option maxHeartbeats 1000000
/-! N14: zip of two texts -/
namespace N
open PySem PySem.Spec PyProof.Rows L2
def ItzS (x y : Str) : It :=
  ⟨fun i _ => i < x.cps.size ∧ i < y.cps.size, fun i H v H' => ∃ T c d, v = .ref T ∧ H T = none ∧ H' = upd H T (.tup [.str ⟨#[c]⟩, .str ⟨#[d]⟩]) ∧ x.cps[i]? = some c ∧ y.cps[i]? = some d, fun i _ => i = min x.cps.size y.cps.size⟩
def PSt (x : Str) : Nat → Value → Prop := fun i v => ∃ c u, x.cps[i]? = some c ∧ v = .str ⟨#[c]⟩ u
theorem drawsS {P : Program} {w : World} {A : Around} (hh : A.handled = none) (it : Addr) (x : Str) (t : Tok) : Draws P w A it [it] x.cps.size (PSt x) (fun i h => h.IsStrIter it (strIterType x) x t i) := by
  unfold strIterType PSt
  cases ha : x.cps.all (· < 128)
  · exact Draws.strWide hh it x t
  · exact Draws.strAscii hh it x t
theorem sepS {z TI TO i1 i2 : Addr} (h : z = i1 + 4 ∧ TI = i1 + 2 ∧ TO = i1 + 3 ∧ i2 = i1 + 1) : ZipSep2 z TI TO i1 i2 [i1] [i2] := by
  obtain ⟨rfl, rfl, rfl, rfl⟩ := h
  have ne : ∀ a b : Nat, a ≠ b → (i1 + a : Addr) ≠ i1 + b := fun a b hab e => hab (Nat.add_left_cancel e)
  have ne0 : ∀ a : Nat, a ≠ 0 → (i1 + a : Addr) ≠ i1 := fun a ha e => ha (by have : i1 + a = i1 + 0 := e; exact Nat.add_left_cancel this)
  constructor <;> first
    | exact ne _ _ (by decide)
    | exact ne0 _ (by decide)
    | exact List.mem_singleton.mpr rfl
    | (intro hm; exact ne _ _ (by decide) (List.mem_singleton.mp hm))
    | (intro hm; exact ne0 _ (by decide) (List.mem_singleton.mp hm))
    | (intro hm; exact ne0 _ (by decide) (List.mem_singleton.mp hm).symm)
theorem turn_zipS {P : Program} {w : World} {K : PySem.W.Frag} {elts : List Expr} {kk : Nat} {tpos : Pos} {z TI TO i1 i2 : Addr} {x y : Str} {t1 t2 : Tok} (D : z = i1 + 4 ∧ TI = i1 + 2 ∧ TO = i1 + 3 ∧ i2 = i1 + 1) :
    Turn P w K (.Tuple elts kk tpos) (ItzS x y) [z, TI, TO, i1, i2] z (fun i h => IsZip h z TI TO .none ∧ IsTupOf2 h TI (.ref i1) (.ref i2) ∧ (∃ a b, IsTupOf2 h TO a b) ∧ h.IsStrIter i1 (strIterType x) x t1 i ∧ h.IsStrIter i2 (strIterType y) y t2 i) where
  mem := by simp
  obj := fun i h st c hc => by
    obtain ⟨hz, hTI, ⟨a, b, hTO⟩, ⟨o1, e1, _, d1⟩, ⟨o2, e2, _, d2⟩⟩ := st
    have e' : c = z ∨ c = TI ∨ c = TO ∨ c = i1 ∨ c = i2 := by simpa using hc
    rcases e' with q | q | q | q | q
    · rw [q]; exact ⟨_, hz, fun v q => nomatch q⟩
    · rw [q]; exact ⟨_, hTI, fun v q => nomatch q⟩
    · rw [q]; exact ⟨_, hTO, fun v q => nomatch q⟩
    · rw [q]; exact ⟨o1, e1, fun v q => by rw [d1] at q; cases q⟩
    · rw [q]; exact ⟨o2, e2, fun v q => by rw [d2] at q; cases q⟩
  keep := fun i h h' st k => by
    obtain ⟨hz, hTI, ⟨a, b, hTO⟩, ⟨o1, e1, r1⟩, ⟨o2, e2, r2⟩⟩ := st
    exact ⟨k z (by simp) _ hz, k TI (by simp) _ hTI, ⟨a, b, k TO (by simp) _ hTO⟩, ⟨o1, k i1 (by simp) o1 e1, r1⟩, ⟨o2, k i2 (by simp) o2 e2, r2⟩⟩
  item := by
    intro X hP hw hK hc i pins s σ H E I hf st hg
    subst hP hw hK
    obtain ⟨hz, hTI, ⟨a0, b0, hTO⟩, h1, h2⟩ := st
    obtain ⟨lt1, lt2⟩ := hg
    have hzl : z < s.heap.objs.size := Heap.lt_size hz
    refine wpAny_pyNext_zipD2_item (sepS D) (drawsS (A := X.A.in1) (I.ok.hd hc) i1 x t1) (drawsS (A := X.A.in1) (I.ok.hd hc) i2 y t2) hz hTI hTO h1 h2 lt1 lt2 fun v1 v2 h' tk p1 p2 z' TO' h1' h2' hT hsz hk => ?_
    obtain ⟨c1, u1, ec1, rfl⟩ := p1
    obtain ⟨c2, u2, ec2, rfl⟩ := p2
    refine ⟨_, rfl, wpAny_letOwnedTupleGo_zip (s := { s with heap := h', toks := tk }) z' fun h'' z'' sb => ?_⟩
    have hT2 : h''.get? s.heap.objs.size = some { cls := .type "tuple", data := .seq #[.str ⟨#[c1]⟩ u1, .str ⟨#[c2]⟩ u2] } := (sb.2 _ (Nat.ne_of_gt hzl)).trans hT
    have new : ObjOk X.prog X.w (upd H s.heap.objs.size (.tup [.str ⟨#[c1]⟩, .str ⟨#[c2]⟩])) h'' s.heap.objs.size (.tup [.str ⟨#[c1]⟩, .str ⟨#[c2]⟩]) :=
      ⟨by show 2 ≤ sizeLine; decide, [.str ⟨#[c1]⟩ u1, .str ⟨#[c2]⟩ u2], .cons ⟨_, rfl⟩ (.cons ⟨_, rfl⟩ .nil), ⟨_, hT2, rfl, _, rfl⟩⟩
    have I1 : Inv X pins σ (upd H s.heap.objs.size (.tup [.str ⟨#[c1]⟩, .str ⟨#[c2]⟩])) { s with heap := h'', toks := tk } :=
      I.turnedNew (t' := tk) (ch := [z, TI, TO, i1, i2]) (fun c o hb q => (sb.2 c (fun q' => hb (by simp [q']))).trans (hk c o (fun q' => hb (by simp [q'])) (fun q' => hb (by simp [q'])) (fun q' => hb (by simp [q'])) (fun q' => hb (by simp [q'])) q)) hf (Nat.le_refl _) new
    have S := sepS D
    refine ⟨.ref s.heap.objs.size, _, I1, rfl, ⟨_, c1, c2, rfl, I.hok.fresh (Nat.le_refl _), rfl, ec1, ec2⟩, ⟨z'', ?_, ⟨.str ⟨#[c1]⟩ u1, .str ⟨#[c2]⟩ u2, ?_⟩, ?_, ?_⟩, fun c hcm => ?_⟩
    · exact (sb.2 _ S.TIz).trans (hk _ _ S.TIz S.TITO S.TIi1 S.TIi2 hTI)
    · exact (sb.2 _ S.TOz).trans TO'
    · obtain ⟨o, e, r⟩ := h1'
      exact ⟨o, (sb.2 _ (Ne.symm S.zi1)).trans e, r⟩
    · obtain ⟨o, e, r⟩ := h2'
      exact ⟨o, (sb.2 _ (Ne.symm S.zi2)).trans e, r⟩
    · have hlt : c < s.heap.objs.size := by
        have e' : c = z ∨ c = TI ∨ c = TO ∨ c = i1 ∨ c = i2 := by simpa using hcm
        rcases e' with q | q | q | q | q
        · rw [q]; exact hzl
        · rw [q]; exact Heap.lt_size hTI
        · rw [q]; exact Heap.lt_size hTO
        · rw [q]; obtain ⟨_, e1, _⟩ := h1; exact Heap.lt_size e1
        · rw [q]; obtain ⟨_, e2, _⟩ := h2; exact Heap.lt_size e2
      rw [upd_ne (Nat.ne_of_lt hlt)]
      exact (hf c hcm).1
  done := by
    intro X hP hw hK hc i pins s σ H E I hf st hg
    subst hP hw hK
    obtain ⟨hz, hTI, ⟨a0, b0, hTO⟩, h1, h2⟩ := st
    have hg : i = min x.cps.size y.cps.size := hg
    exact wpAny_pyNext_zipD2_end (sepS D) (drawsS (A := X.A.in1) (I.ok.hd hc) i1 x t1) (drawsS (A := X.A.in1) (I.ok.hd hc) i2 y t2) hz hTI hTO h1 h2 (by omega) (by omega) (by omega) fun h' tk hk => ⟨rfl, I.turnedL (t' := tk) (ch := [z, TI, TO, i1, i2]) (fun c o hb q =>
      hk c o (fun q' => hb (by simp [q'])) (fun q' => hb (by simp [q'])) (fun q' => hb (by simp [q'])) (fun q' => hb (by simp [q'])) q) hf⟩
  self := fun A i s Q E st h => wpAny_pyIter_zip st.1 h
abbrev zS (x : Str) (t : Tok) : Obj := { cls := .type (strIterType x), data := .fields #[.str x t, .int 0 0] }
abbrev zipS1 (h : Heap) (x : Str) (t : Tok) : Heap := h.push (zS x t)
abbrev zipS2 (h : Heap) (x y : Str) (t u : Tok) : Heap := (zipS1 h x t).push (zS y u)
abbrev zipS3 (h : Heap) (x y : Str) (t u : Tok) : Heap := (zipS2 h x y t u).push { cls := .type "tuple", data := .seq #[.ref h.objs.size, .ref (zipS1 h x t).objs.size] }
abbrev zipS4 (h : Heap) (x y : Str) (t u : Tok) : Heap := (zipS3 h x y t u).push { cls := .type "tuple", data := .seq #[.none, .none] }
abbrev zipS5 (h : Heap) (x y : Str) (t u : Tok) : Heap := (zipS4 h x y t u).push { cls := .type "zip", data := .fields #[.none, .bool false, .bool false, .ref (zipS2 h x y t u).objs.size, .ref (zipS3 h x y t u).objs.size] }
theorem meets_zipS_new (x y : Str) (t u : Tok) :
    Meets (Builtin.«zip.__new__» ⟨[.type "zip", .str x t, .str y u], []⟩) (fun _ R s => R (.ok (.ret (.ref (zipS4 s.heap x y t u).objs.size))) { s with heap := zipS5 s.heap x y t u }) :=
  .of_wp fun prog w A R s h => by
    obtain ⟨hp, g, d, tk, os⟩ := s
    have hsub := sub_zip
    wp_walk using wpAny_pyIter_strU, wpAny_pyIter_strU
    exact ⟨_, rfl, h⟩
section
variable {prog : Program} {w : World} {A : Around} {E : Value → Shared → Prop} {s : Shared}
theorem call_zipS {x y : Str} {t u : Tok} {Q : Value → Shared → Prop}
    (h : ∀ h', IsZip h' (s.heap.objs.size + 4) (s.heap.objs.size + 2) (s.heap.objs.size + 3) .none → IsTupOf2 h' (s.heap.objs.size + 2) (.ref s.heap.objs.size) (.ref (s.heap.objs.size + 1)) →
      IsTupOf2 h' (s.heap.objs.size + 3) .none .none → h'.IsStrIter s.heap.objs.size (strIterType x) x t 0 → h'.IsStrIter (s.heap.objs.size + 1) (strIterType y) y u 0 →
      (∀ c o, s.heap.get? c = some o → h'.get? c = some o) → Q (.ref (s.heap.objs.size + 4)) { s with heap := h' }) :
    wpAny (model prog w) A (call (.type "zip") [.str x t, .str y u]) Q E s := by
  refine callType_new F.called_zip (by decide) (F.typeCall_zip_2 _ _) (F.newCall_zip_2 _ _) (fun obj => F.args_object_init_3 obj _ _) F.entry_zip_new
    (meets_zipS_new x y t u) ?_
  have z1 : (zipS1 s.heap x t).objs.size = s.heap.objs.size + 1 := Heap.size_push ..
  have z2 : (zipS2 s.heap x y t u).objs.size = s.heap.objs.size + 2 := by rw [Heap.size_push, z1]
  have z3 : (zipS3 s.heap x y t u).objs.size = s.heap.objs.size + 3 := by rw [Heap.size_push, z2]
  have z4 : (zipS4 s.heap x y t u).objs.size = s.heap.objs.size + 4 := by rw [Heap.size_push, z3]
  have g5 : (zipS5 s.heap x y t u).get? (zipS4 s.heap x y t u).objs.size = some _ := Heap.get?_push_size _ rfl
  have g4 : (zipS5 s.heap x y t u).get? (zipS3 s.heap x y t u).objs.size = some _ := Heap.get?_push_of_some _ (Heap.get?_push_size _ rfl)
  have g3 : (zipS5 s.heap x y t u).get? (zipS2 s.heap x y t u).objs.size = some _ := Heap.get?_push_of_some _ (Heap.get?_push_of_some _ (Heap.get?_push_size _ rfl))
  have g2 : (zipS5 s.heap x y t u).get? (zipS1 s.heap x t).objs.size = some (zS y u) := Heap.get?_push_of_some _ (Heap.get?_push_of_some _ (Heap.get?_push_of_some _ (Heap.get?_push_size _ rfl)))
  have g1 : (zipS5 s.heap x y t u).get? s.heap.objs.size = some (zS x t) := Heap.get?_push_of_some _ (Heap.get?_push_of_some _ (Heap.get?_push_of_some _ (Heap.get?_push_of_some _ (Heap.get?_push_size _ rfl))))
  show _ ∧ _
  rw [z2, z3, z4] at g5
  rw [z1, z2] at g3
  rw [z3] at g4
  rw [z1] at g2
  rw [z4]
  exact ⟨⟨_, g5, rfl⟩, h _ g5 g3 g4 ⟨_, g1, rfl, rfl⟩ ⟨_, g2, rfl, rfl⟩ fun c o x =>
    Heap.get?_push_of_some _ (Heap.get?_push_of_some _ (Heap.get?_push_of_some _ (Heap.get?_push_of_some _ (Heap.get?_push_of_some _ x))))⟩
end
def iZipS (ta : TA) : TI := fun σ H R => ta σ H fun vs H1 => ∃ x y, vs = [.str x, .str y] ∧ R (ItzS x y) H1
theorem pi_zipS {X : Cx} {e e2 : Expr} {ta : TA} {p pos tpos : Pos} {elts : List Expr} {kk : Nat} (hg : Gl X "zip") (hm : X.mg "zip" = none) (ha : PA X [e, e2] ta)
    (hs : starEach [e, e2] X.env = (false, eval e X.env) :: starEach [e2] X.env := by rfl) (hpl : (backTo pos (starEach [e2] X.env)).any (·.1) = false := by rfl) :
    PI X (.Tuple elts kk tpos) (.Call (.Name "zip" p) [e, e2] [] pos) (iZipS ta) := by
  refine ⟨fun pins s σ H R I h => ?_⟩
  refine Call_ (ld_blt I hg hm PyProof.Rows.boot_zip (PyProof.Rows.callWith_type1 (thn (ha.run pos pins s σ H _ I h) fun us s1 ⟨vs, H1, I1, r1, q1⟩ => ?_) hs hpl))
  obtain ⟨a, b, ex, q⟩ := q1
  subst ex
  cases r1 with
  | cons r rr =>
    cases rr with
    | cons r' rr =>
      cases rr
      obtain ⟨t, rfl⟩ := r
      obtain ⟨u, rfl⟩ := r'
      have fresh5 : ∀ c, c ∈ [s1.heap.objs.size + 4, s1.heap.objs.size + 2, s1.heap.objs.size + 3, s1.heap.objs.size, s1.heap.objs.size + 1] → FpOk X pins H1 c := fun c hcm => by
        have e' : c = s1.heap.objs.size + 4 ∨ c = s1.heap.objs.size + 2 ∨ c = s1.heap.objs.size + 3 ∨ c = s1.heap.objs.size ∨ c = s1.heap.objs.size + 1 := by simpa using hcm
        have hle : s1.heap.objs.size ≤ c := by
          rcases e' with z | z | z | z | z
          · rw [z]; exact Nat.le_add_right _ _
          · rw [z]; exact Nat.le_add_right _ _
          · rw [z]; exact Nat.le_add_right _ _
          · rw [z]; exact Nat.le_refl _
          · rw [z]; exact Nat.le_add_right _ _
        exact I1.fpOk hle (I1.hok.fresh hle)
      refine call_zipS fun h' hz hTI hTO h1 h2 hk => wpAny_pyIter_zip hz ?_
      have I2 : Inv X pins σ H1 { s1 with heap := h' } := I1.kept (t' := s1.toks) hk
      exact ⟨s1.heap.objs.size + 4, [s1.heap.objs.size + 4, s1.heap.objs.size + 2, s1.heap.objs.size + 3, s1.heap.objs.size, s1.heap.objs.size + 1], _, _, H1, rfl, I2, turn_zipS ⟨rfl, rfl, rfl, rfl⟩, ⟨hz, hTI, ⟨_, _, hTO⟩, h1, h2⟩, fresh5, q⟩
/-- zip of two texts, of two lists, of two tuples (the lists that nobody changes) -/
def zipPs : List W → List W → List W
  | x :: xs, y :: ys => .tup [x, y] :: zipPs xs ys
  | _, _ => []
theorem zipPs_len : ∀ (xs ys : List W), (zipPs xs ys).length = min xs.length ys.length
  | [], _ => by simp [zipPs]
  | _ :: _, [] => by simp [zipPs]
  | x :: xs, y :: ys => by simp [zipPs, zipPs_len xs ys]
theorem zipPs_at : ∀ (xs ys : List W) (i : Nat) (x y : W), xs[i]? = some x → ys[i]? = some y → (zipPs xs ys)[i]? = some (.tup [x, y])
  | _ :: _, _ :: _, 0, _, _, h1, h2 => by cases h1; cases h2; rfl
  | a :: xs, b :: ys, i + 1, x, y, h1, h2 => zipPs_at xs ys i x y h1 h2
  | [], _, _, _, _, h1, _ => by cases h1
  | _ :: _, [], _, _, _, _, h2 => by cases h2
def zipW : List W → Option (List W × (List O → Bool))
  | [.str x, .str y] => some (zipPs (signsW x) (signsW y), fun _ => true)
  | _ => none
def mZip (ma : MA) : MI := fun σ h => (ma σ h).bind fun ws h1 => match zipW ws with
  | some a => .ok a h1
  | none => .stuck
theorem itN_zipS {K : PySem.W.Frag} {mg : Str → Option Value} {ι : Ix} {H : Hp} {x y : Str} : ItN K mg ι H (zipPs (signsW x) (signsW y), fun _ => true) (ItzS x y) := by
  refine ⟨min x.cps.size y.cps.size, fun _ => True, (ItzS x y).yld, ⟨fun i H hi _ => ⟨by omega, by omega⟩, fun H _ => rfl, fun i H v H' _ _ q => q⟩, by rw [zipPs_len]; simp [signsW], fun _ _ _ _ _ _ => trivial, fun i ι2 H2 h2 v H3 hi g f c q => ?_⟩
  obtain ⟨T, c, d, rfl, hT, rfl, hc, hd⟩ := q
  obtain ⟨g1, f1, r1⟩ := new_tup f (ws := [.str ⟨#[c]⟩, .str ⟨#[d]⟩]) (.cons (.str _) (.cons (.str _) .nil)) hT
  refine ⟨_, zipPs_at _ _ i (.str ⟨#[c]⟩) (.str ⟨#[d]⟩) ?_ ?_, r1, g1, f1⟩
  · have : x.cps.toList[i]? = some c := by simpa using hc
    simp [signsW, this]
  · have : y.cps.toList[i]? = some d := by simpa using hd
    simp [signsW, this]
section
variable {X : Cx} {E : WX}
theorem ni_zip {e e2 : Expr} {ma : MA} {p pos tpos : Pos} {elts : List Expr} {kk : Nat} (hg : Gl X "zip") (hm : X.mg "zip" = none) (ha : NA X E [e, e2] ma)
    (hs : starEach [e, e2] X.env = (false, eval e X.env) :: starEach [e2] X.env := by rfl) (hpl : (backTo pos (starEach [e2] X.env)).any (·.1) = false := by rfl) :
    NI X E (.Tuple elts kk tpos) (.Call (.Name "zip" p) [e, e2] [] pos) (mZip ma) :=
  PI.imp (pi_zipS hg hm ha hs hpl) fun σ H R ⟨ι, σn, h, f, s, q⟩ => ⟨ι, σn, h, f, s, Aft.bind q fun ι1 ws h1 vs H1 g1 f1 r1 q1 => by
    unfold zipW at q1
    match ws, r1, q1 with
    | [.str x, .str y], .cons (.str _) (.cons (.str _) .nil), q1 => exact ⟨x, y, rfl, q1 ι1 _ H1 .refl f1 itN_zipS⟩⟩
end
end N

set_option maxHeartbeats 1000000
/-! N15: the law's def -/
namespace N
open PySem L2
def spLaw (K : PySem.W.Frag) : Sp := fun vs H Q E => ∃ (a : Addr) (ns : List Int), vs = [V.ref a] ∧ Only H ∧ SqL K H a (ns.map V.int) ∧ ns.length ≤ 63 ∧ Q = fun v _ => v = .bl true
theorem lro_script {K : PySem.W.Frag} {mg : Str → Option Value} {H : Hp} {a : Addr} {ns : List Int} (o : Only H) (h : SqL K H a (ns.map V.int)) : RW K mg ⟨[], [], none⟩ H (.lro (ns.map W.int)) (.ref a) := by
  have r : RWs K mg ⟨[], [], none⟩ H (ns.map W.int) (ns.map V.int) := by
    clear h
    induction ns with
    | nil => exact .nil
    | cons n ns ih => exact .cons (.int _) ih
  refine .lro ?_ r
  rcases h with (h | ⟨ob, h⟩) | h
  · rcases o a with q | ⟨ob, xs, q⟩
    · rw [q] at h; cases h
    · rw [q] at h; cases h
  · exact .inl ⟨⟨List.not_mem_nil, List.not_mem_nil⟩, ob, h⟩
  · exact .inr (.inr h)
theorem noCell {names : List (Str × NameKind)} (h : (names.all fun y => match y.2 with | .cell => false | .free => false | _ => true) = true) : ∀ x, ¬ (names.lookup x = some .cell ∨ names.lookup x = some .free) := by
  intro x hx
  have : ∃ k, (x, k) ∈ names ∧ (k = .cell ∨ k = .free) := by
    rcases hx with e | e
    · exact ⟨_, PySem.mem_of_lookup e, .inl rfl⟩
    · exact ⟨_, PySem.mem_of_lookup e, .inr rfl⟩
  obtain ⟨k, hm, hk⟩ := this
  have q := List.all_eq_true.mp h _ hm
  rcases hk with rfl | rfl
  · cases q
  · cases q
section
variable {P : Program} {w : World} {K : PySem.W.Frag} {mg : Str → Option Value} {base : Heap}
theorem law_ok {nm : Str} {st : Stmt} {f : Addr} {fd : FuncData} {N ps : List Str} {k : Nat} {b : MS} (F : Fun K nm nm st f fd) (S : FnScope N ps (defScope st)) (hps : ps.length = 1)
    (hb : ∀ (cdv : Value) (A : Around) (outer : List Env) (s : Shared) (H : Hp) (E : XK), Room k (A.deeper (PyProof.Rows.envOfC nm (defScope st) s.heap.objs.size f cdv)) →
      NSs (cxOf CX0 P w K mg base N nm (defScope st) f cdv A outer s H E).nox E00 (defBody st) b)
    (hp : ∀ ns : List Int, ns.length ≤ 63 → ∃ h, mDef N.length b [.lro (ns.map W.int)] [] = .ok (.bl true) h) : FnOk P w K mg base CX0 (k + 1) f fd ps (spLaw K) := by
  refine F.ok S (fun vs H Q E h => ?_) (fun cdv A outer s H vs Q E hr h => ?_)
  · obtain ⟨a, ns, rfl, _⟩ := h
    exact hps.symm
  · obtain ⟨a, ns, rfl, o, hS, hl, rfl⟩ := h
    obtain ⟨h', e⟩ := hp ns hl
    have ft : Fit K mg ⟨[], [], none⟩ H [] := ⟨List.nodup_nil, rfl, fun n o a e => by simp at e, fun a z => by cases z⟩
    refine ⟨_, hb cdv A outer s H E hr, ⟨[], [], none⟩, _, [], ft, sl_start (ws := [.lro (ns.map W.int)]) rfl (.cons (lro_script o hS) .nil), ?_⟩
    show AftS K mg none ⟨[], [], none⟩ H (b (List.map some [W.lro (ns.map W.int)] ++ List.replicate (N.length - [W.lro (ns.map W.int)].length) none) []) _ _
    unfold mDef at e
    cases e2 : b (List.map some [W.lro (ns.map W.int)] ++ List.replicate (N.length - [W.lro (ns.map W.int)].length) none) [] with
    | nx σ' h' => rw [e2] at e; cases e
    | rt w h' =>
      rw [e2] at e
      cases e
      intro ι2 v H2 g2 f2 r2
      cases r2
      rfl
    | exc x σ' h' => rw [e2] at e; cases e
    | bk σ' h' => rw [e2] at e; cases e
    | ct σ' h' => rw [e2] at e; cases e
    | stuck => rw [e2] at e; cases e
end
end N

set_option maxHeartbeats 1000000
namespace N
open PySem L2
/-! ### < of tuples of ints and texts; str.index -/
def flatEq : W → W → Bool
  | .int i, .int j => i == j
  | .str i, .str j => i == j
  | _, _ => false
def flatLt : W → W → Bool
  | .int i, .int j => decide (i < j)
  | .str i, .str j => decide (i.cps.toList < j.cps.toList)
  | _, _ => false
def likeW : List W → List W → Bool
  | .int _ :: xs, .int _ :: ys => likeW xs ys
  | .str _ :: xs, .str _ :: ys => likeW xs ys
  | [], _ => true
  | _, [] => true
  | _, _ => false
def nLtT (h : List O) (x y : W) : Option W := match x, y with
  | .tup xs, .tup ys => if likeW xs ys = true then some (.bl (Ob.lexAt (fun j => flatEq (xs.getD j .non) (ys.getD j .non)) (fun j => flatLt (xs.getD j .non) (ys.getD j .non)) (decide (xs.length < ys.length)) 0 (min xs.length ys.length))) else none
  | x, y => nLt h x y
theorem like_at {K : PySem.W.Frag} {mg : Str → Option Value} {ι : Ix} {H : Hp} : ∀ {xs ys : List W} {vs us : List V} {its its2 : List Value}, likeW xs ys = true → RWs K mg ι H xs vs → RWs K mg ι H ys us → Vals vs its → Vals us its2 → ∀ j (h1 : j < its.length) (h2 : j < its2.length),
    (∃ a b t u, its[j] = .int a t ∧ its2[j] = .int b u ∧ xs.getD j .non = .int a ∧ ys.getD j .non = .int b) ∨ ∃ a b t u, its[j] = .str a t ∧ its2[j] = .str b u ∧ xs.getD j .non = .str a ∧ ys.getD j .non = .str b
  | [], _, _, _, _, _, _, r, _, v, _, j, h1, _ => by cases r; cases v; simp at h1
  | _ :: _, [], _, _, _, _, _, _, r, _, v, j, _, h2 => by cases r; cases v; simp at h2
  | x :: xs, y :: ys, _, _, _, _, hl, .cons r1 r2, .cons q1 q2, .cons v1 v2, .cons u1 u2, j, h1, h2 => by
    have key : likeW xs ys = true ∧ ((∃ a b, x = .int a ∧ y = .int b) ∨ ∃ a b, x = .str a ∧ y = .str b) := by
      cases x <;> cases y <;> first
        | exact ⟨hl, .inl ⟨_, _, rfl, rfl⟩⟩
        | exact ⟨hl, .inr ⟨_, _, rfl, rfl⟩⟩
        | (simp [likeW] at hl)
    cases j with
    | zero =>
      rcases key.2 with ⟨a, b, rfl, rfl⟩ | ⟨a, b, rfl, rfl⟩
      · cases r1; cases q1
        obtain ⟨t, rfl⟩ := (show ∃ t, _ = Value.int a t from v1)
        obtain ⟨u, rfl⟩ := (show ∃ t, _ = Value.int b t from u1)
        exact .inl ⟨a, b, t, u, rfl, rfl, rfl, rfl⟩
      · cases r1; cases q1
        obtain ⟨t, rfl⟩ := (show ∃ t, _ = Value.str a t from v1)
        obtain ⟨u, rfl⟩ := (show ∃ t, _ = Value.str b t from u1)
        exact .inr ⟨a, b, t, u, rfl, rfl, rfl, rfl⟩
    | succ j => exact like_at key.1 r2 q2 v2 u2 j (by simpa using h1) (by simpa using h2)
theorem RcOp_lt_str {A : Around} {s : Shared} (a b : Str) (t u : Tok) : Ob.RcOp .Lt A s (.str a t) (.str b u) (decide (a.cps.toList < b.cps.toList)) := fun _ _ _ _ h => PyProof.Rows.lt_str h
section
variable {X : Cx}
theorem on_ltT (hu : X.A.units < cLine) : OpR X (compareOp .Lt) (r2N X.K X.mg nLtT) := by
  intro pins s σ H x y v u Q I rx ry ⟨ι, h, w1, w2, w, ft, r1, r2, e, k⟩
  have old : nLtT h w1 w2 = nLt h w1 w2 → wpAny (model X.prog X.w) X.A (compareOp .Lt v u) (EP X pins σ Q) X.xe s := fun e0 => on_lt pins s σ H x y v u Q I rx ry ⟨ι, h, w1, w2, w, ft, r1, r2, by rw [← e0]; exact e, k⟩
  cases w1 with
  | tup xs =>
    cases w2 with
    | tup ys =>
      unfold nLtT at e
      dsimp only at e
      split at e
      case isFalse => cases e
      case isTrue hl =>
        cases e
        cases r1 with
        | @tup _ a vs a0 a1 a2 =>
          cases r2 with
          | @tup _ b us b0 b1 b2 =>
            cases rx
            cases ry
            obtain ⟨its, q1, p1, _⟩ := I.tuple (SqT.of a1)
            obtain ⟨its2, q2, p2, _⟩ := I.tuple (SqT.of b1)
            have s1 : its.toArray.size = xs.length := by rw [List.size_toArray, ← q1.length, a2.len]
            have s2 : its2.toArray.size = ys.length := by rw [List.size_toArray, ← q2.length, b2.len]
            have R := Ob.RcOp.tuples_lt (A := X.A) (s := s) (e := fun j => flatEq (xs.getD j .non) (ys.getD j .non)) (r := fun j => flatLt (xs.getD j .non) (ys.getD j .non)) p1 p2 hu (fun j h1 h2 => by
              rcases like_at hl a2 b2 q1 q2 j (by simpa using h1) (by simpa using h2) with ⟨i, i', t, t', e1, e2, e3, e4⟩ | ⟨i, i', t, t', e1, e2, e3, e4⟩
              · simp only [List.getElem_toArray, e1, e2, e3, e4]
                exact SeqAt.EqAt.int_int _ _ _ _
              · simp only [List.getElem_toArray, e1, e2, e3, e4]
                exact SeqAt.EqAt.str_str _ _ _ _) (fun j h1 h2 _ => by
              rcases like_at hl a2 b2 q1 q2 j (by simpa using h1) (by simpa using h2) with ⟨i, i', t, t', e1, e2, e3, e4⟩ | ⟨i, i', t, t', e1, e2, e3, e4⟩
              · simp only [List.getElem_toArray, e1, e2, e3, e4]
                exact Ob.RcOp.lt_int _ _ _ _
              · simp only [List.getElem_toArray, e1, e2, e3, e4]
                exact RcOp_lt_str _ _ _ _)
            rw [s1, s2] at R
            exact R X.prog X.w X.xe (EP X pins σ Q) ⟨.bl _, H, I, rfl, k ι _ H .refl ft (.bl _)⟩
    | _ => exact old rfl
  | _ => exact old rfl
def nIndex (h : List O) (x : W) (ws : List W) : Option W := match x, ws with
  | .str a, [.str b] => match Builtin.Str.occurrences a b 0 a.length 1 with
    | i :: _ => some (.int (i : Nat))
    | [] => none
  | _, _ => none
theorem mn_index : MtR X "str.index" (rmN X.K X.mg (pureM nIndex)) := by
  intro pins s σ H x xs v us Q I rx rs hq
  obtain ⟨ι, h, w1, ws, w, ft, r1, rw', e, k⟩ := rmN_pure hq
  unfold nIndex at e
  split at e
  · rename_i a b
    cases eo : Builtin.Str.occurrences a b 0 a.length 1 with
    | nil => rw [eo] at e; cases e
    | cons i rest =>
      rw [eo] at e
      cases e
      cases r1
      cases rw' with
      | cons r2 r3 =>
        cases r3
        cases r2
        obtain ⟨t, rfl⟩ := rx
        cases rs with
        | cons q1 q2 =>
          cases q2
          obtain ⟨u, rfl⟩ := (show ∃ t, _ = Value.str b t from q1)
          exact call_gives PySem.F.slot_str_index (typeIs_str _ _ _) PySem.F.entry_str_index (PySem.F.args_str_index_2 _ _) (gives_str_index a b t u i rest eo) ⟨.int (i : Nat), H, I.tok _, ⟨_, rfl⟩, k ι _ H .refl ft (.int _)⟩
  · cases e
end
end N

set_option maxHeartbeats 1000000
namespace N
open PySem L2
/-! E1: runs, step by step: «walk_at "xe"» goes as far as it can -/
theorem x_asm {α : Type} {a b : α} (h : a = b) : a = b := h
section
variable {σ σ1 : Slo} {h h1 h2 h3 : List O} {x y z w : W} {k k2 : Bool} {ws us : List W} {r r' : SR} {f f' : List O → W → W → Option W} {ma mb mc m n : ME} {t u : MT} {na nb : MA} {a b : MS}
theorem x_var {i : Nat} (e : σ[i]? = some (some w)) : mVar i σ h = .ok w h := by unfold mVar; rw [e]
theorem x_c : mC w σ h = .ok w h := rfl
theorem x_op (p : ma σ h = .ok x h1) (q : mb σ h1 = .ok y h2) (e : f h2 x y = some w) : mOp f ma mb σ h = .ok w h2 := by unfold mOp; rw [p, bind_ok, q, bind_ok, e]; rfl
theorem x_un {g : List O → W → Option W} (p : ma σ h = .ok x h1) (e : g h1 x = some w) : mUn g ma σ h = .ok w h1 := by unfold mUn; rw [p, bind_ok, e]; rfl
theorem x_cb {g : List O → List W → Option W} (p : na σ h = .ok ws h1) (e : g h1 ws = some w) : mCB (pureF g) na σ h = .ok w h1 := by unfold mCB pureF; rw [p, bind_ok, e]; rfl
theorem x_call {g : MF} {re : ER W} (p : na σ h = .ok ws h1) (e : g ws h1 = re) : mCall g na σ h = re := by unfold mCall; rw [p, bind_ok, e]
theorem x_bm {T : String} {g : NM} (p : ma σ h = .ok x h1) (q : isT T h1 x = true) (s : na σ h1 = .ok ws h2) (e : g h2 x ws = some (w, h3)) : mBM T g ma na σ h = .ok w h3 := by unfold mBM; rw [p, bind_ok, if_pos q, s, bind_ok, e]; rfl
theorem x_pm {g : List O → W → List W → Option W} (e : g h x ws = some w) : pureM g h x ws = some (w, h) := by unfold pureM; rw [e]; rfl
theorem x_nil : mNil σ h = .ok [] h := rfl
theorem x_cons (p : ma σ h = .ok x h1) (q : na σ h1 = .ok ws h2) : mCons ma na σ h = .ok (x :: ws) h2 := by unfold mCons; rw [p, bind_ok, q]; rfl
theorem x_star (p : ma σ h = .ok x h1) (e : seqU h1 x = some us) (q : na σ h1 = .ok ws h2) : mStar ma na σ h = .ok (us ++ ws) h2 := by unfold mStar; rw [p, bind_ok, e]; simp only []; rw [q]; rfl
theorem x_b (p : m σ h = .ok (.bl k) h1) : mB m σ h = .ok k h1 := by unfold mB; rw [p, bind_ok]; rfl
theorem x_tru (p : m σ h = .ok w h1) (e : tru h1 w = some k) : mTru m σ h = .ok k h1 := by unfold mTru; rw [p, bind_ok, e]; rfl
theorem x_notT (p : t σ h = .ok k h1) : mNotT t σ h = .ok (!k) h1 := by unfold mNotT; rw [p, bind_ok]
theorem x_notTt (p : t σ h = .ok true h1) : mNotT t σ h = .ok false h1 := x_notT p
theorem x_notTf (p : t σ h = .ok false h1) : mNotT t σ h = .ok true h1 := x_notT p
theorem x_not (p : m σ h = .ok w h1) (e : tru h1 w = some k) : mNot m σ h = .ok (.bl (!k)) h1 := by unfold mNot; rw [p, bind_ok, e]; rfl
def iteE {α : Type} (k : Bool) (a b : α) : α := if k = true then a else b
theorem x_t {α : Type} {p q r : α} (hk : k = true) (e : p = r) : iteE k p q = r := by subst hk; exact e
theorem x_f {α : Type} {p q r : α} (hk : k = false) (e : q = r) : iteE k p q = r := by subst hk; exact e
theorem x_andT {re : ER Bool} (p : t σ h = .ok k h1) (e : iteE k (u σ h1) (.ok false h1) = re) : mAndT t u σ h = re := by unfold mAndT; rw [p, bind_ok]; exact e
theorem x_orT {re : ER Bool} (p : t σ h = .ok k h1) (e : iteE k (.ok true h1) (u σ h1) = re) : mOrT t u σ h = re := by unfold mOrT; rw [p, bind_ok]; exact e
theorem x_andS {p : ER Bool} (e : p = .ok k2 h) : iteE k p (.ok false h) = .ok (k && k2) h := by subst e; cases k <;> rfl
theorem x_orS {p : ER Bool} (e : p = .ok k2 h) : iteE k (.ok true h) p = .ok (k || k2) h := by subst e; cases k <;> rfl
theorem x_and {re : ER W} (p : m σ h = .ok x h1) (e : tru h1 x = some k) (q : iteE k (n σ h1) (.ok x h1) = re) : mAnd m n σ h = re := by unfold mAnd; rw [p, bind_ok, e]; exact q
theorem x_or {re : ER W} (p : m σ h = .ok x h1) (e : tru h1 x = some k) (q : iteE k (.ok x h1) (n σ h1) = re) : mOr m n σ h = re := by unfold mOr; rw [p, bind_ok, e]; exact q
theorem x_andV {p : ER W} (e : p = .ok (.bl k2) h) : iteE k p (.ok (.bl k) h) = .ok (.bl (k && k2)) h := by subst e; cases k <;> rfl
theorem x_orV {p : ER W} (e : p = .ok (.bl k2) h) : iteE k (.ok (.bl k) h) p = .ok (.bl (k || k2)) h := by subst e; cases k <;> rfl
theorem x_ifE {re : ER W} (p : t σ h = .ok k h1) (e : iteE k (m σ h1) (n σ h1) = re) : mIf t m n σ h = re := by unfold mIf; rw [p, bind_ok]; exact e
theorem x_chain {re : ER W} (p : ma σ h = .ok x h1) (q : mb σ h1 = .ok y h2) (e : f h2 x y = some (.bl k)) (e2 : iteE k ((mc σ h2).bind fun z h4 => ofO h4 (f' h4 y z)) (.ok (.bl false) h2) = re) : mChain f f' ma mb mc σ h = re := by
  unfold mChain; rw [p, bind_ok, q, bind_ok, e]; exact e2
theorem x_chain2 (p : mc σ h = .ok z h1) (e : f' h1 y z = some w) : ((mc σ h).bind fun z h4 => ofO h4 (f' h4 y z)) = .ok w h1 := by rw [p, bind_ok, e]; rfl
theorem x_tup (p : na σ h = .ok ws h1) (e : ws.length ≤ sizeLine) : mTup na σ h = .ok (.tup ws) h1 := by unfold mTup okLen; rw [p, bind_ok, if_pos e]; rfl
theorem x_lst (p : na σ h = .ok ws h1) (e : ws.length ≤ sizeLine) : mLst na σ h = .ok (.lst ws) h1 := by unfold mLst okLen; rw [p, bind_ok, if_pos e]; rfl
theorem x_lstN (p : na σ h = .ok ws h1) (e : ws.length ≤ sizeLine) : mLstN na σ h = .ok (.ref h1.length) (h1 ++ [.lst ws]) := by unfold mLstN okLen; rw [p, bind_ok, if_pos e]; rfl
theorem x_sl {lo hi : MO} {l u : Option Int} (p : m σ h = .ok x h1) (q : lo σ h1 = .ok l h2) (s : hi σ h2 = .ok u h3) (e : nSl h3 x l u = some w) : mSl m lo hi σ h = .ok w h3 := by unfold mSl; rw [p, bind_ok, q, bind_ok, s, bind_ok, e]; rfl
theorem x_noP : mNoP σ h = .ok none h := rfl
theorem x_part {i : Int} (p : m σ h = .ok (.int i) h1) : mPart m σ h = .ok (some i) h1 := by unfold mPart; rw [p]; rfl
theorem x_it {it : List W × (List O → Bool)} (p : m σ h = .ok w h1) (e : itW h1 w = some it) : mIt m σ h = .ok it h1 := by unfold mIt; rw [p, bind_ok, e]; rfl
theorem x_rng {g : List W → Option (List W × (List O → Bool))} {it : List W × (List O → Bool)} (p : na σ h = .ok ws h1) (e : g ws = some it) : mRng g na σ h = .ok it h1 := by unfold mRng; rw [p, bind_ok, e]; rfl
theorem x_zip {it : List W × (List O → Bool)} (p : na σ h = .ok ws h1) (e : zipW ws = some it) : mZip na σ h = .ok it h1 := by unfold mZip; rw [p, bind_ok, e]
/-- comprehension: iterable, then the turns -/
theorem x_lc {it : MI} {g : MG} {own : List Nat} {xs ys : List W} {chk : List O → Bool} (p : it σ h = .ok (xs, chk) h1) (e0 : wipeN σ own = σ1) (e : mLcL chk g t m σ1 xs [] h1 = .ok ys h2) : mLc it g t m own σ h = .ok (.lst ys) h2 := by unfold mLc; rw [p, bind_ok, e0]; simp only []; rw [e]; rfl
theorem x_lcN {it : MI} {g : MG} {own : List Nat} {xs ys : List W} {chk : List O → Bool} (p : it σ h = .ok (xs, chk) h1) (e0 : wipeN σ own = σ1) (e : mLcL chk g t m σ1 xs [] h1 = .ok ys h2) : mLcN it g t m own σ h = .ok (.ref h2.length) (h2 ++ [.lst ys]) := by unfold mLcN; rw [p, bind_ok, e0]; simp only []; rw [e]; rfl
/-! statements -/
def seqK (r : SR) (b : MS) : SR := match r with
  | .nx σ h => b σ h
  | r => r
theorem x_seq (p : a σ h = r') (e : seqK r' b = r) : mSeq a b σ h = r := by subst p; subst e; unfold mSeq seqK; cases a σ h <;> rfl
theorem x_knx (e : b σ h = r) : seqK (.nx σ h) b = r := e
theorem x_krt : seqK (.rt w h) b = .rt w h := rfl
theorem x_kbk : seqK (.bk σ h) b = .bk σ h := rfl
theorem x_kct : seqK (.ct σ h) b = .ct σ h := rfl
theorem x_kexc {x : Ex} : seqK (.exc x σ h) b = .exc x σ h := rfl
theorem x_next : mNext σ h = .nx σ h := rfl
theorem x_brk : mBrk σ h = .bk σ h := rfl
theorem x_cnt : mCnt σ h = .ct σ h := rfl
theorem x_drop (p : m σ h = .ok w h1) : mDrop m σ h = .nx σ h1 := by unfold mDrop; rw [p]; rfl
theorem x_ret (p : m σ h = .ok w h1) : mRet m σ h = .rt w h1 := by unfold mRet; rw [p]; rfl
theorem x_retN : mRetN σ h = .rt .non h := rfl
theorem x_ifS (p : t σ h = .ok k h1) (e : iteE k (a σ h1) (b σ h1) = r) : mIfS t a b σ h = r := by unfold mIfS; rw [p, sbind_ok]; exact e
theorem x_set {i : Nat} (p : m σ h = .ok w h1) (e : σ.set i (some w) = σ1) : mSet i m σ h = .nx σ1 h1 := by unfold mSet; rw [p, sbind_ok, e]
theorem x_par {i j : Nat} (p : na σ h = .ok [x, y] h1) (e : (σ.set i (some x)).set j (some y) = σ1) : mPar i j na σ h = .nx σ1 h1 := by unfold mPar; rw [p, sbind_ok]; simp only []; rw [e]
theorem x_asg {g : MG} (p : m σ h = .ok w h1) (e : g w σ = some σ1) : mAsg g m σ h = .nx σ1 h1 := by unfold mAsg; rw [p, sbind_ok, e]
theorem x_store {mo mi mv : ME} (p : mv σ h = .ok w h1) (q : mo σ h1 = .ok x h2) (s : mi σ h2 = .ok y h3) {h4 : List O} (e : setW h3 x y w = some h4) : mStore mo mi mv σ h = .nx σ h4 := by unfold mStore; rw [p, sbind_ok, q, sbind_ok, s, sbind_ok, e]
theorem x_aug {i : Nat} {g : List O → W → W → Option W} (e0 : σ[i]? = some (some x)) (p : m σ h = .ok y h1) (e : g h1 x y = some w) (e1 : σ.set i (some w) = σ1) : mAug i g m σ h = .nx σ1 h1 := by unfold mAug; rw [e0]; simp only []; rw [p, sbind_ok, e]; simp only []; rw [e1]
theorem x_for {it : MI} {g : MG} {xs : List W} {chk : List O → Bool} (p : it σ h = .ok (xs, chk) h1) (e : mForL chk g a xs σ h1 = r) : mFor it g a σ h = r := by unfold mFor; rw [p, sbind_ok]; exact e
def defK (r : SR) : ER W := match r with
  | .nx _ h => .ok .non h
  | .rt w h => .ok w h
  | .exc x _ h => .exc x h
  | _ => .stuck
theorem x_def {N : Nat} {re : ER W} (e0 : ws.map some ++ List.replicate (N - ws.length) none = σ) (p : b σ h = r) (e : defK r = re) : mDef N b ws h = re := by subst e0; subst p; subst e; unfold mDef defK; cases b _ h <;> rfl
theorem x_dnx : defK (.nx σ h) = .ok .non h := rfl
theorem x_drt : defK (.rt w h) = .ok w h := rfl
theorem x_dexc {x : Ex} : defK (.exc x σ h) = .exc x h := rfl
theorem x_ok {α : Type} {a : α} {h : List O} : ER.ok a h = ER.ok a h := rfl
theorem x_listG {mb : MGn} {N : Nat} (p : na σ h = .ok ws h1) (e : drainG h1.length (mb (startN N ws) (h1 ++ [.lst []])) = some h2) : mListG mb N na σ h = .ok (.ref h1.length) h2 := by unfold mListG; rw [p, bind_ok, e]
theorem x_tupG {mb : MGn} {N : Nat} {xs : List W} (p : na σ h = .ok ws h1) (e : drainG h1.length (mb (startN N ws) (h1 ++ [.lst []])) = some h2) (e2 : h2[h1.length]? = some (.lst xs)) : mTupG mb N na σ h = .ok (.tup xs) h2 := by unfold mTupG; rw [p, bind_ok, e]; simp only []; rw [e2]
/-! leaves -/
theorem x_bl {k k2 : Bool} (e : k = k2) : some (W.bl k) = some (W.bl k2) := by rw [e]
theorem o_add {i j : Int} : nAdd h (.int i) (.int j) = some (.int (i + j)) := rfl
theorem o_addBB {i j : Bool} : nAdd h (.bl i) (.bl j) = some (.int ((if i then 1 else 0) + if j then 1 else 0)) := rfl
theorem o_sub {i j : Int} : nSub h (.int i) (.int j) = some (.int (i - j)) := rfl
theorem o_iadd {i j : Int} : iAdd h (.int i) (.int j) = some (.int (i + j)) := rfl
theorem o_isub {i j : Int} : iSub h (.int i) (.int j) = some (.int (i - j)) := rfl
theorem o_lt {i j : Int} : nLt h (.int i) (.int j) = some (.bl (decide (i < j))) := rfl
theorem o_ltT {i j : Int} : nLtT h (.int i) (.int j) = some (.bl (decide (i < j))) := rfl
theorem o_le {i j : Int} : nLe h (.int i) (.int j) = some (.bl (decide (i ≤ j))) := rfl
theorem o_gt {i j : Int} : nGt h (.int i) (.int j) = some (.bl (decide (j < i))) := rfl
theorem o_ge {i j : Int} : nGe h (.int i) (.int j) = some (.bl (decide (j ≤ i))) := rfl
theorem o_neg {i : Int} : nNeg h (.int i) = some (.int (-i)) := rfl
theorem o_mod {i j : Int} (hj : 0 < j) : nMod h (.int i) (.int j) = some (.int (i % j)) := by show guardO (decide (0 < j)) _ = _; unfold guardO; rw [if_pos (decide_eq_true hj)]
theorem o_div {i j : Int} (hj : 0 < j) (hl : j.natAbs.log2 < 9000) : nDiv h (.int i) (.int j) = some (.int (i / j)) := by show guardO (decide (0 < j ∧ j.natAbs.log2 < 9000)) _ = _; unfold guardO; rw [if_pos (decide_eq_true ⟨hj, hl⟩)]
theorem o_mul {i j : Int} (hl : i.natAbs.log2 + j.natAbs.log2 < 1000000) : nMul h (.int i) (.int j) = some (.int (i * j)) := by show guardO (decide (i.natAbs.log2 + j.natAbs.log2 < 1000000)) _ = _; unfold guardO; rw [if_pos (decide_eq_true hl)]
theorem o_intI {i : Int} : nInt h [.int i] = some (.int i) := rfl
theorem o_intB {b : Bool} : nInt h [.bl b] = some (.int (if b then 1 else 0)) := rfl
theorem o_abs {i : Int} : nAbs h [.int i] = some (.int (if i < 0 then -i else i)) := rfl
theorem o_max {i j : Int} : nMax h [.int i, .int j] = some (.int (if j > i then j else i)) := rfl
theorem o_min {i j : Int} : nMin h [.int i, .int j] = some (.int (if j < i then j else i)) := rfl
theorem o_lenL : nLen h [.lst ws] = some (.int ws.length) := rfl
theorem o_lenT : nLen h [.tup ws] = some (.int ws.length) := rfl
theorem o_lenLo : nLen h [.lro ws] = some (.int ws.length) := rfl
theorem o_lenTo : nLen h [.tro ws] = some (.int ws.length) := rfl
theorem o_lenS {s : Str} (e : s.length ≤ sizeLine) : nLen h [.str s] = some (.int s.length) := if_pos e
theorem o_lenR {n : Nat} (e : h[n]? = some (.lst ws)) : nLen h [.ref n] = some (.int ws.length) := by simp only [nLen, seqU, seqL, lstX, e]
theorem sz {n m : Nat} (h : n ≤ m) (hm : m ≤ sizeLine := by decide) : n ≤ sizeLine := Nat.le_trans h hm
theorem shaped_int {i : Int} : SeqAt.shaped (.int i) = true := by simp [SeqAt.shaped, PyData.canLay0, PyData.depth]
theorem shaped_str {i : Str} (h : PyData.strOk i = true) : SeqAt.shaped (.str i) = true := by simp [SeqAt.shaped, PyData.canLay0, PyData.depth, h]
theorem o_eqI {i j : Int} : nEq h (.int i) (.int j) = some (.bl (decide (i = j))) := by
  show (eqW (.int i) (.int j)).map W.bl = _
  unfold eqW; simp only [datW]; rw [if_pos ⟨shaped_int, shaped_int⟩]; rfl
theorem o_neI {i j : Int} : nNe h (.int i) (.int j) = some (.bl (!decide (i = j))) := by
  show (eqW (.int i) (.int j)).map (fun b => W.bl (!b)) = _
  unfold eqW; simp only [datW]; rw [if_pos ⟨shaped_int, shaped_int⟩]; rfl
theorem o_eqS {i j : Str} (hi : PyData.strOk i = true) (hj : PyData.strOk j = true) : nEq h (.str i) (.str j) = some (.bl (decide (i = j))) := by
  show (eqW (.str i) (.str j)).map W.bl = _
  unfold eqW; simp only [datW]; rw [if_pos ⟨shaped_str hi, shaped_str hj⟩]; rfl
theorem o_neS {i j : Str} (hi : PyData.strOk i = true) (hj : PyData.strOk j = true) : nNe h (.str i) (.str j) = some (.bl (!decide (i = j))) := by
  show (eqW (.str i) (.str j)).map (fun b => W.bl (!b)) = _
  unfold eqW; simp only [datW]; rw [if_pos ⟨shaped_str hi, shaped_str hj⟩]; rfl
theorem shaped_bl {i : Bool} : SeqAt.shaped (.bool i) = true := by cases i <;> simp [SeqAt.shaped, PyData.canLay0, PyData.depth]
theorem o_eqB {i j : Bool} : nEq h (.bl i) (.bl j) = some (.bl (decide (i = j))) := by
  show (eqW (.bl i) (.bl j)).map W.bl = _
  unfold eqW; simp only [datW]; rw [if_pos ⟨shaped_bl, shaped_bl⟩]; cases i <;> cases j <;> rfl
theorem o_neB {i j : Bool} : nNe h (.bl i) (.bl j) = some (.bl (!decide (i = j))) := by
  show (eqW (.bl i) (.bl j)).map (fun b => W.bl (!b)) = _
  unfold eqW; simp only [datW]; rw [if_pos ⟨shaped_bl, shaped_bl⟩]; cases i <;> cases j <;> rfl
theorem o_reprB {b : Bool} : nRepr h [.bl b] = some (.str (if b then "True" else "False")) := rfl
theorem o_isiI {i : Int} : nIsi h [.int i, .ty "int"] = some (.bl true) := by
  show ((kitB "int" "int").map W.bl) = _
  rw [show kitB "int" "int" = some true by decide +kernel]; rfl
theorem o_isiB {i : Int} : nIsi h [.int i, .ty "bool"] = some (.bl false) := by
  show ((kitB "int" "bool").map W.bl) = _
  rw [show kitB "int" "bool" = some false by decide +kernel]; rfl
theorem o_isiS {i : Str} : nIsi h [.str i, .ty "str"] = some (.bl true) := by
  show ((kitB "str" "str").map W.bl) = _
  rw [show kitB "str" "str" = some true by decide +kernel]; rfl
theorem o_ixR {n : Nat} {i : Int} (e : h[n]? = some (.lst ws)) (e2 : atI ws i = some w) : nIx h (.ref n) (.int i) = some w := by simp only [nIx, seqU, seqL, lstX, e, Option.bind_some, e2]
theorem o_rng1 {j : Int} (h1 : -(2 ^ 62) ≤ j) (h2 : j < 2 ^ 62) : rng1 [.int j] = some (rngW 0 j.toNat, fun _ => true) := if_pos ⟨h1, h2⟩
theorem o_rng2 {i j : Int} (h1 : -(2 ^ 62) ≤ i) (h2 : i < 2 ^ 62) (h3 : -(2 ^ 62) ≤ j) (h4 : j < 2 ^ 62) : rng2 [.int i, .int j] = some (rngW i (j - i).toNat, fun _ => true) := if_pos ⟨h1, h2, h3, h4⟩
theorem log2_le {n m : Nat} (h : n ≤ m) : n.log2 ≤ m.log2 := by
  by_cases h0 : n = 0
  · subst h0; simp
  · exact (Nat.le_log2 (by omega)).mpr (Nat.le_trans (Nat.log2_self_le h0) h)
theorem log_small {i : Int} {k : Nat} (m : Nat) (h : i.natAbs ≤ m) (hm : m.log2 < k := by decide) : i.natAbs.log2 < k := Nat.lt_of_le_of_lt (log2_le h) hm
theorem log_add {i j : Int} (h1 : i.natAbs.log2 < 100000) (h2 : j.natAbs.log2 < 100000) : i.natAbs.log2 + j.natAbs.log2 < 1000000 := by omega
end
end N

set_option maxHeartbeats 4000000
namespace N
open PySem L2
theorem bind_ok' {α β : Type} (a : α) (h : List O) (f : α → List O → ER β) : (ER.ok a h).bind f = f a h := rfl
theorem nInt_int (h : List O) (i : Int) : nInt h [.int i] = some (.int i) := rfl
theorem nInt_bl (h : List O) (b : Bool) : nInt h [.bl b] = some (.int (if b then 1 else 0)) := rfl
theorem bindN {α β : Type} (a : α) (h : List O) (f : α → List O → ER β) : (ER.ok a h).bind f = f a h := Eq.trans rfl rfl
theorem sbindN {α : Type} (σ : Slo) (a : α) (h : List O) (f : α → List O → SR) : (ER.ok a h).sbind σ f = f a h := Eq.trans rfl rfl
theorem nbN {α β : Type} (a : α) (h : List O) (f : α → List O → ER β) : (ER.ok a h).nb f = f a h := Eq.trans rfl rfl
theorem ofON {α : Type} (h : List O) (a : α) : ofO h (some a) = .ok a h := Eq.trans rfl rfl
theorem ofHN {α : Type} (a : α) (h : List O) : ofH (some (a, h)) = .ok a h := Eq.trans rfl rfl
/-! ### texts of signs -/
def tx (ds : List Nat) : Str := ⟨(ds.map (48 + ·)).toArray⟩
def sg (d : Nat) : W := .str ⟨#[48 + d]⟩
theorem signs_tx (ds : List Nat) : signsW (tx ds) = ds.map sg := by
  unfold signsW tx sg
  simp
theorem tx_len (ds : List Nat) : (tx ds).length = ds.length := by unfold tx Str.length; simp
theorem strs_sg (ds : List Nat) : strsW (ds.map sg) = some (ds.map fun d => ⟨#[48 + d]⟩) := by
  induction ds with
  | nil => rfl
  | cons d ds ih => simp only [List.map_cons, sg, strsW] at ih ⊢; rw [ih]; rfl
theorem fold_sg (ds : List Nat) : ∀ a : Array Nat, (ds.map fun d => (⟨#[48 + d]⟩ : Str)).foldl (fun acc p => acc ++ (#[] : Array Nat) ++ p.cps) a = a ++ (ds.map (48 + ·)).toArray := by
  induction ds with
  | nil => intro a; simp
  | cons d ds ih => intro a; simp only [List.map_cons, List.foldl_cons]; rw [ih]; simp
theorem join_sg (ds : List Nat) : Txt.join "" (ds.map fun d => (⟨#[48 + d]⟩ : Str)) = tx ds := by
  show Builtin.Str.glued _ _ = _
  unfold Builtin.Str.glued tx
  cases ds with
  | nil => rfl
  | cons d ds =>
    have e : (Str.ofString "").cps = #[] := rfl
    simp only [List.map_cons, List.drop_succ_cons, List.drop_zero, List.headD_cons]
    rw [e, fold_sg]
    simp
theorem join_ok (ds : List Nat) (h : List O) (hl : ds.length ≤ 1000000) : nJoin h (.str "") [.lst (ds.map sg)] = some (.str (tx ds)) := by
  have e1 : (List.map (fun x => x.length) (ds.map fun d => (⟨#[48 + d]⟩ : Str))).sum = ds.length := by
    induction ds with
    | nil => rfl
    | cons d ds ih =>
      have := ih (by simp at hl; omega)
      simp only [List.map_cons, List.sum_cons, this, List.length_cons]
      show 1 + ds.length = _
      omega
  have e2 : (("" : Str)).length = 0 := rfl
  simp only [nJoin, seqU, seqL, lstX, Option.bind_some, strs_sg, e1, e2, Nat.mul_zero, Nat.add_zero, join_sg]
  rw [if_pos (by omega)]
theorem lc_map {el : ME} {i : Nat} {σ : Slo} {h : List O} {f : W → W} : ∀ (ws acc : List W), (∀ x ∈ ws, el (σ.set i (some x)) h = .ok (f x) h) → acc.length + ws.length ≤ sizeLine → mLcL (fun _ => true) (gN i) mYes el σ ws acc h = .ok (acc ++ ws.map f) h
  | [], acc, _, _ => by simp [mLcL]
  | x :: ws, acc, he, hl => by
    simp only [mLcL, if_true, gN, mYes, nb_ok]
    rw [he x List.mem_cons_self]
    simp only [nb_ok, List.length_cons] at hl ⊢
    rw [if_pos (by omega)]
    have := lc_map (el := el) (i := i) (σ := σ) (h := h) (f := f) ws (acc ++ [f x]) (fun y hy => he y (List.mem_cons_of_mem _ hy)) (by simp; omega)
    rw [this]; simp
theorem lc_inv {el : ME} {i : Nat} {σ : Slo} {P : Nat → List O → Prop} {R : W → Prop} : ∀ (ws acc : List W) (k : Nat) (h : List O), (∀ x ∈ ws, ∀ j h, k ≤ j → j < k + ws.length → P j h → ∃ y h', el (σ.set i (some x)) h = .ok y h' ∧ R y ∧ P (j + 1) h') → acc.length + ws.length ≤ sizeLine → P k h →
    ∃ ys h', mLcL (fun _ => true) (gN i) mYes el σ ws acc h = .ok (acc ++ ys) h' ∧ ys.length = ws.length ∧ (∀ y ∈ ys, R y) ∧ P (k + ws.length) h'
  | [], acc, k, h, _, _, hp => ⟨[], h, by simp [mLcL], rfl, by simp, hp⟩
  | x :: ws, acc, k, h, he, hl, hp => by
    obtain ⟨y, h1, e1, r1, p1⟩ := he x List.mem_cons_self k h (Nat.le_refl _) (by simp) hp
    simp only [List.length_cons] at hl
    obtain ⟨ys, h2, e2, l2, r2, p2⟩ := lc_inv (el := el) (i := i) (σ := σ) (R := R) ws (acc ++ [y]) (k + 1) h1 (fun z hz j h hj hj2 hp => he z (List.mem_cons_of_mem _ hz) j h (by omega) (by simp only [List.length_cons]; omega) hp) (by simp; omega) p1
    refine ⟨y :: ys, h2, ?_, by simp [l2], fun z hz => ?_, by simp only [List.length_cons]; rw [show k + (ws.length + 1) = k + 1 + ws.length by omega]; exact p2⟩
    · simp only [mLcL, if_true, gN, mYes, nb_ok]
      rw [e1]
      simp only [nb_ok]
      rw [if_pos (by omega)]
      rw [e2]; simp
    · rcases List.mem_cons.mp hz with rfl | hz
      · exact r1
      · exact r2 z hz
theorem bls_const : ∀ (ds : List Nat), blsW (ds.map ((fun _ => W.bl true) ∘ sg)) = some (ds.map fun _ => true)
  | [] => rfl
  | d :: ds => by
    have := bls_const ds
    simp only [List.map_cons, Function.comp, blsW] at this ⊢
    rw [this]; rfl
/-- ''.join(of a comprehension over a text) -/
theorem joinL_ok {el : ME} {i : Nat} {σ σ1 : Slo} {h : List O} {it : MI} {own : List Nat} (ws : List W) (f : W → Nat) (hi : it σ h = .ok (ws, fun _ => true) h) (hw : wipeN σ own = σ1) (he : ∀ x ∈ ws, el (σ1.set i (some x)) h = .ok (sg (f x)) h) (hl : ws.length ≤ 1000000) :
    mBM "str" (pureM nJoin) (mC (.str "")) (mCons (mLc it (gN i) mYes el own) mNil) σ h = .ok (.str (tx (ws.map f))) h := by
  have lz : ws.length ≤ sizeLine := by
    have : (1000000 : Nat) ≤ sizeLine := by decide
    omega
  have e := lc_map (σ := σ1) (i := i) (f := fun x => sg (f x)) (el := el) (h := h) ws [] he (by simpa using lz)
  have j := join_ok (ws.map f) h (by simpa using hl)
  rw [List.map_map] at j
  have e' : mLcL (fun _ => true) (gN i) mYes el σ1 ws [] h = .ok (ws.map (sg ∘ f)) h := e
  simp only [mBM, mC, isT, mCons, mNil, mLc, hi, hw, bind_ok', e', nb_ok, lcF, pureM, j]
  rfl
theorem digit_str (d : Nat) (h : List O) (hd : d < 4) : nStr h [.int d] = some (sg d) := by
  rcases d with _ | _ | _ | _ | d
  · rfl
  · rfl
  · rfl
  · rfl
  · omega
theorem digit_int (d : Nat) (h : List O) (hd : d < 4) : nInt h [sg d] = some (.int d) := by
  have key : ∀ d : Nat, d < 4 → PySem.intText? (⟨#[48 + d]⟩ : Str) = some (d : Int) := by
    intro d hd
    rcases d with _ | _ | _ | _ | d
    · decide +kernel
    · decide +kernel
    · decide +kernel
    · decide +kernel
    · omega
  show (if (⟨#[48 + d]⟩ : Str).length ≤ 640 then (PySem.intText? ⟨#[48 + d]⟩).map W.int else none) = _
  rw [key d hd]
  rfl
def un (x : W) : Nat := match x with | .str z => z.cps.getD 0 0 - 48 | _ => 0
theorem un_sg (d : Nat) : un (sg d) = d := by simp [un, sg]
theorem lc_mapG {el : ME} {g : MG} {σ : Slo} {h : List O} {f : W → W} : ∀ (ws acc : List W), (∀ x ∈ ws, ∃ σ1, g x σ = some σ1 ∧ el σ1 h = .ok (f x) h) → acc.length + ws.length ≤ sizeLine → mLcL (fun _ => true) g mYes el σ ws acc h = .ok (acc ++ ws.map f) h
  | [], acc, _, _ => by simp [mLcL]
  | x :: ws, acc, he, hl => by
    obtain ⟨σ1, e1, e2⟩ := he x List.mem_cons_self
    simp only [mLcL, if_true, e1, mYes, nb_ok]
    rw [e2]
    simp only [nb_ok, List.length_cons] at hl ⊢
    rw [if_pos (by omega)]
    have := lc_mapG (el := el) (g := g) (σ := σ) (h := h) (f := f) ws (acc ++ [f x]) (fun y hy => he y (List.mem_cons_of_mem _ hy)) (by simp; omega)
    rw [this]; simp
theorem joinG_ok {el : ME} {g : MG} {σ σ1 : Slo} {h : List O} {it : MI} {own : List Nat} (ws : List W) (f : W → Nat) (hi : it σ h = .ok (ws, fun _ => true) h) (hw : wipeN σ own = σ1) (he : ∀ x ∈ ws, ∃ σ2, g x σ1 = some σ2 ∧ el σ2 h = .ok (sg (f x)) h) (hl : ws.length ≤ 1000000) :
    mBM "str" (pureM nJoin) (mC (.str "")) (mCons (mLc it g mYes el own) mNil) σ h = .ok (.str (tx (ws.map f))) h := by
  have lz : ws.length ≤ sizeLine := by
    have : (1000000 : Nat) ≤ sizeLine := by decide
    omega
  have e := lc_mapG (σ := σ1) (g := g) (f := fun x => sg (f x)) (el := el) (h := h) ws [] he (by simpa using lz)
  have j := join_ok (ws.map f) h (by simpa using hl)
  rw [List.map_map] at j
  have e' : mLcL (fun _ => true) g mYes el σ1 ws [] h = .ok (ws.map (sg ∘ f)) h := e
  simp only [mBM, mC, isT, mCons, mNil, mLc, hi, hw, bind_ok', e', nb_ok, lcF, pureM, j]
  rfl
theorem at0 (a b : W) (h : List O) : nIx h (.tup [a, b]) (.int 0) = some a := rfl
theorem at1 (a b : W) (h : List O) : nIx h (.tup [a, b]) (.int 1) = some b := rfl
theorem atm (a b : W) (h : List O) : nIx h (.tup [a, b]) (.int (-1)) = some b := rfl
theorem at0' (a : W) (h : List O) : nIx h (.tup [a]) (.int 0) = some a := rfl
theorem atm' (a : W) (h : List O) : nIx h (.tup [a]) (.int (-1)) = some a := rfl
theorem len_tx (ds : List Nat) (h : List O) (hl : ds.length ≤ 200) : nLen h [.str (tx ds)] = some (.int ds.length) := by
  have : (tx ds).length ≤ sizeLine := by
    rw [tx_len]
    have : (200 : Nat) ≤ sizeLine := by decide
    omega
  show (if (tx ds).length ≤ sizeLine then some (W.int (tx ds).length) else none) = _
  rw [if_pos this, tx_len]
theorem ok_tx (ds : List Nat) (hd : ∀ d ∈ ds, d < 4) : PyData.strOk (tx ds) = true := by
  show (tx ds).cps.all _ = true
  unfold tx
  rw [List.all_toArray, List.all_map, List.all_eq_true]
  intro d hm
  have := hd d hm
  simp; omega
theorem fold_rep (n : Nat) : ∀ a : Array Nat, (List.replicate n (#[48] : Array Nat)).foldl (· ++ ·) a = a ++ (List.replicate n 48).toArray := by
  induction n with
  | zero => intro a; simp
  | succ n ih =>
    intro a
    rw [List.replicate_succ, List.foldl_cons, ih, List.replicate_succ]
    apply Array.ext'
    simp
theorem mulStr0 (n : Nat) : mulStr "0" (n : Int) = tx (List.replicate n 0) := by
  have e : ("0" : Str) = ⟨#[48]⟩ := rfl
  have l : ("0" : Str).length = 1 := rfl
  unfold mulStr tx
  rcases n with _ | _ | n
  · rfl
  · rfl
  · have h1 : ¬ (((n + 1 + 1 : Nat) : Int) < 1) := by omega
    have h2 : ((((n + 1 + 1 : Nat) : Int) == 1) || (("0" : Str).length == 0)) = false := by
      rw [l]
      simp; omega
    rw [if_neg h1, h2]
    simp only [Bool.false_eq_true, if_false, e, Int.toNat_natCast, fold_rep]
    simp
theorem mul0 (n : Nat) (h : List O) (hn : n ≤ 200) : nMul h (.str "0") (.int n) = some (.str (tx (List.replicate n 0))) := by
  show guardO (decide ((n : Int) ≤ 10000 ∧ ("0" : Str).length ≤ 1000 ∧ -1000 ≤ (n : Int) ∧ (mulStr "0" n).length ≤ sizeLine)) (.str (mulStr "0" n)) = _
  rw [mulStr0]
  have : (tx (List.replicate n 0)).length ≤ sizeLine := by
    rw [tx_len, List.length_replicate]
    have : (200 : Nat) ≤ sizeLine := by decide
    omega
  have l : ("0" : Str).length = 1 := rfl
  unfold guardO
  rw [if_pos (by simp [this, l]; omega)]
theorem sgs_of : ∀ (ys : List W) (c : Nat), (∀ y ∈ ys, ∃ d : Nat, d < c ∧ y = sg d) → ∃ ds : List Nat, ys = ds.map sg ∧ ∀ d ∈ ds, d < c
  | [], _, _ => ⟨[], rfl, by simp⟩
  | y :: ys, c, h => by
    obtain ⟨d, h1, rfl⟩ := h _ List.mem_cons_self
    obtain ⟨ds, rfl, h2⟩ := sgs_of ys c fun y hy => h y (List.mem_cons_of_mem _ hy)
    exact ⟨d :: ds, rfl, fun x hx => by rcases List.mem_cons.mp hx with rfl | hx; exact h1; exact h2 x hx⟩
theorem joinS_ok {el : ME} {i : Nat} {σ σ1 : Slo} {h h' : List O} {it : MI} {own : List Nat} (ws : List W) (ds : List Nat) (hi : it σ h = .ok (ws, fun _ => true) h) (hw : wipeN σ own = σ1) (e : mLcL (fun _ => true) (gN i) mYes el σ1 ws [] h = .ok (ds.map sg) h') (hl : ds.length ≤ 1000000) :
    mBM "str" (pureM nJoin) (mC (.str "")) (mCons (mLc it (gN i) mYes el own) mNil) σ h = .ok (.str (tx ds)) h' := by
  have j := join_ok ds h' hl
  simp only [mBM, mC, isT, mCons, mNil, mLc, hi, hw, bind_ok', e, nb_ok, lcF, pureM, j]
  rfl
theorem rng1_ok (w : Nat) (hw : w ≤ 1000) : rng1 [.int (w : Int)] = some (rngW 0 w, fun _ => true) := by
  have hh : -(2 ^ 62) ≤ (w : Int) ∧ (w : Int) < 2 ^ 62 := by constructor <;> omega
  simp only [rng1, if_pos hh, Int.toNat_natCast]
theorem rng_len (w : Nat) : (rngW 0 w).length = w := by simp [rngW]
/-- for over a generator that hands out ws, the body leaving the heap and going on -/
def ylist (r : List O → SR) : List W → List O → GO
  | [], h => .fin (r h)
  | w :: ws, h => .yld w h fun h' => ylist r ws h'
theorem forG_list {g : MG} {b : MS} {r : List O → SR} {G : Slo → Prop} (hr : ∀ h, (r h).ends = some h) : ∀ (ws : List W) (h : List O) (σ : Slo), G σ → (∀ w ∈ ws, ∀ σ, G σ → ∃ σ1, g w σ = some σ1 ∧ ∃ σ2, G σ2 ∧ b σ1 h = .nx σ2 h) → ∃ σ', G σ' ∧ forG g b (ylist r ws h) σ = .nx σ' h
  | [], h, σ, hG, _ => ⟨σ, hG, by simp only [ylist, forG, hr]⟩
  | w :: ws, h, σ, hG, hb => by
    obtain ⟨σ1, e1, σ2, h2, e2⟩ := hb w List.mem_cons_self σ hG
    obtain ⟨σ', h3, e3⟩ := forG_list hr ws h σ2 h2 fun w' hw => hb w' (List.mem_cons_of_mem _ hw)
    refine ⟨σ', h3, ?_⟩
    simp only [ylist, forG, e1, e2, e3]
def nums (ds : List Nat) : List W := ds.map fun d : Nat => W.int (d : Int)
theorem nums_len (ds : List Nat) : (nums ds).length = ds.length := by simp [nums]
theorem ix_nums (ds : List Nat) (m : Nat) (hm : m < ds.length) (h : List O) : nIx h (.lst (nums ds)) (.int (m : Int)) = some (.int (ds[m] : Nat)) := by
  show atI (nums ds) (m : Int) = _
  unfold atI ixN nums
  simp [hm]
theorem while_t {t : MT} {b : MS} {F : Nat} {σ σ1 : Slo} {h h1 h2 : List O} {r : SR} (e : t σ h = .ok true h1) (e2 : b σ h1 = .nx σ1 h2) (e3 : mWhile t b F σ1 h2 = r) : mWhile t b (F + 1) σ h = r := by
  subst e3
  unfold mWhile
  rw [e, sbind_ok, if_pos rfl, e2]
  cases F <;> rfl
theorem while_f {t : MT} {b : MS} {F : Nat} {σ : Slo} {h h1 : List O} (e : t σ h = .ok false h1) : mWhile t b (F + 1) σ h = .nx σ h1 := by
  unfold mWhile
  rw [e, sbind_ok, if_neg Bool.false_ne_true]
theorem take_int {α : Type} (xs : List α) (j : Nat) (hj : j ≤ xs.length) : cutL xs none (some (j : Int)) = xs.take j := by
  unfold cutL
  rw [HT.sIx_none, HT.sIx_nat, List.drop_zero, Nat.sub_zero, Nat.min_eq_left hj]
theorem lc_zero (σ : Slo) (h : List O) (i : Nat) (ws : List W) (hl : ws.length ≤ 1000) : mLcL (fun _ => true) (gN i) mYes (mC (.int 0)) σ ws [] h = .ok (List.replicate ws.length (.int 0)) h := by
  have e := lc_map (el := mC (.int 0)) (i := i) (σ := σ) (h := h) (f := fun _ => W.int 0) ws [] (fun _ _ => rfl) (by rw [List.length_nil, Nat.zero_add]; exact sz hl)
  rw [e, List.nil_append]
  congr 1
  exact List.map_const' ..
theorem all_rep (xs : List Nat) (v : Nat) (n : Nat) (hl : xs.length = n) (h : ∀ i (hi : i < xs.length), xs[i] = v) : xs = List.replicate n v := by
  rw [List.eq_replicate_iff]
  refine ⟨hl, fun b hb => ?_⟩
  obtain ⟨i, hi, rfl⟩ := List.getElem_of_mem hb
  exact h i hi
theorem nums_rep (k : Nat) : nums (List.replicate k 0) = List.replicate k (.int 0) := by simp [nums]
def unI (x : W) : Nat := match x with | .int i => i.toNat | _ => 0
theorem unI_nums (ds : List Nat) : (nums ds).map unI = ds := by
  unfold nums
  rw [List.map_map]
  have : ds.map (unI ∘ fun d : Nat => W.int (d : Int)) = ds.map id := List.map_congr_left fun d _ => by simp [unI]
  rw [this, List.map_id]
theorem y_plain {m : MS} {b : MGn} {σ σ1 : Slo} {h h1 : List O} (e : m σ h = .nx σ1 h1) : ySeq (yPlain m) b σ h = b σ1 h1 := by
  unfold ySeq yPlain GO.bind; rw [e]; rfl
theorem ylist_bind (r r' : List O → SR) (f : SR → GO) (hf : ∀ h, f (r h) = .fin (r' h)) : ∀ (ws : List W) (h : List O), (ylist r ws h).bind f = ylist r' ws h
  | [], h => hf h
  | w :: ws, h => by
    show GO.yld w h _ = GO.yld w h _
    congr 1
    funext h'
    exact ylist_bind r r' f hf ws h'
def yK (t : MT) (b : MGn) (F : Nat) (r : SR) : GO := match r with
      | .nx σ' h' => yWhile t b F σ' h'
      | .ct σ' h' => yWhile t b F σ' h'
      | .bk σ' h' => .fin (.nx σ' h')
      | r => .fin r
theorem thenG_ok {α : Type} {σ : Slo} {a : α} {h : List O} {f : α → List O → GO} : (ER.ok a h).thenG σ f = f a h := rfl
theorem yw_t {t : MT} {b : MGn} {F : Nat} {σ : Slo} {h h1 : List O} (e : t σ h = .ok true h1) : yWhile t b (F + 1) σ h = (b σ h1).bind (yK t b F) := by
  conv => lhs; unfold yWhile
  rw [e, thenG_ok, if_pos rfl]
  congr 1
theorem yw_f {t : MT} {b : MGn} {F : Nat} {σ : Slo} {h h1 : List O} (e : t σ h = .ok false h1) : yWhile t b (F + 1) σ h = .fin (.nx σ h1) := by
  unfold yWhile
  rw [e, thenG_ok, if_neg Bool.false_ne_true]
theorem isn_lst (h : List O) (ws : List W) : nIsN h (.lst ws) .non = some (.bl true) := rfl
theorem isn_non (h : List O) : nIsN h .non .non = some (.bl false) := rfl
theorem ix_tx (ds : List Nat) (m : Nat) (hm : m < ds.length) (hl : ds.length ≤ 200) (h : List O) : nIx h (.str (tx ds)) (.int (m : Int)) = some (sg ds[m]) := by
  have z : (tx ds).length ≤ sizeLine := by rw [tx_len]; exact sz (Nat.le_trans hl (by decide : 200 ≤ 1000))
  show (if (tx ds).length ≤ sizeLine then (atI (tx ds).cps.toList (m : Int)).map fun c => W.str ⟨#[c]⟩ else none) = _
  rw [if_pos z]
  unfold atI ixN tx sg
  simp [hm]
theorem for_ok {g : MG} {b : MS} {P : Slo → Prop} {Q : W → Prop} {h : List O} : ∀ (ws : List W) (σ : Slo), P σ → (∀ w ∈ ws, Q w) → (∀ w σ, Q w → P σ → ∃ σ1, g w σ = some σ1 ∧ ∃ σ2, b σ1 h = .nx σ2 h ∧ P σ2) → ∃ σ', P σ' ∧ mForL (fun _ => true) g b ws σ h = .nx σ' h
  | [], σ, hp, _, _ => ⟨σ, hp, rfl⟩
  | w :: ws, σ, hp, hq, hb => by
    obtain ⟨σ1, e1, σ2, e2, p2⟩ := hb w σ (hq w List.mem_cons_self) hp
    obtain ⟨σ', p3, e3⟩ := for_ok ws σ2 p2 (fun x hx => hq x (List.mem_cons_of_mem _ hx)) hb
    refine ⟨σ', p3, ?_⟩
    unfold mForL
    rw [if_pos rfl, e1]
    simp only []
    rw [e2]
    exact e3
theorem for_okH {g : MG} {b : MS} {P : Slo → List O → Prop} {Q : W → Prop} : ∀ (ws : List W) (σ : Slo) (h : List O), P σ h → (∀ w ∈ ws, Q w) → (∀ w σ h, Q w → P σ h → ∃ σ1, g w σ = some σ1 ∧ ∃ σ2 h2, b σ1 h = .nx σ2 h2 ∧ P σ2 h2) → ∃ σ' h', P σ' h' ∧ mForL (fun _ => true) g b ws σ h = .nx σ' h'
  | [], σ, h, hp, _, _ => ⟨σ, h, hp, rfl⟩
  | w :: ws, σ, h, hp, hq, hb => by
    obtain ⟨σ1, e1, σ2, h2, e2, p2⟩ := hb w σ h (hq w List.mem_cons_self) hp
    obtain ⟨σ', h', p3, e3⟩ := for_okH ws σ2 h2 p2 (fun x hx => hq x (List.mem_cons_of_mem _ hx)) hb
    refine ⟨σ', h', p3, ?_⟩
    unfold mForL
    rw [if_pos rfl, e1]
    simp only []
    rw [e2]
    exact e3
theorem x_forG {mb : MGn} {n : Nat} {ma : MA} {g : MG} {b : MS} {σ : Slo} {h h1 : List O} {ws : List W} {r : SR} (p : ma σ h = .ok ws h1) (e : forG g b (mb (startN n ws) h1) σ = r) : mForG mb n ma g b σ h = r := by
  unfold mForG; rw [p, sbind_ok]; exact e
theorem len_lro (ws : List W) (h : List O) : nLen h [.lro ws] = some (.int ws.length) := rfl
theorem lt_int (h : List O) (i j : Int) : nLtT h (.int i) (.int j) = some (.bl (decide (i < j))) := rfl
theorem ints_map : ∀ ns : List Int, intsW (ns.map W.int) = some ns
  | [] => rfl
  | n :: ns => by simp [intsW, ints_map ns]
theorem cut_map (ns : List Int) (lo hi : Option Int) : cutL (ns.map W.int) lo hi = (cutL ns lo hi).map W.int := by
  simp [cutL, List.map_take, List.map_drop]
theorem sl_lro (ns : List Int) (h : List O) : nSl h (.lro (ns.map W.int)) none (some 1) = some (.lst ((cutL ns none (some 1)).map W.int)) := by
  rw [← cut_map]; rfl
theorem sum_lst (ns : List Int) (h : List O) : nSum h [.lst (ns.map W.int)] = some (.int ns.sum) := by
  show ((intsW (ns.map W.int))).map (fun ns => W.int ns.sum) = _
  rw [ints_map]; rfl
theorem mul103 (i : Nat) (hi : i ≤ 1000) (h : List O) : nMul h (.int 103) (.int i) = some (.int (103 * i)) := by
  show guardO (decide ((103 : Int).natAbs.log2 + (i : Int).natAbs.log2 < 1000000)) _ = _
  have a := log_small (i := (i : Int)) (k := 900) 1000 (by omega)
  have b : (103 : Int).natAbs.log2 = 6 := by decide
  unfold guardO
  rw [if_pos (by rw [b]; exact decide_eq_true (by omega))]
theorem add_int (h : List O) (i j : Int) : nAdd h (.int i) (.int j) = some (.int (i + j)) := rfl
theorem pow1 (h : List O) : nPow h (.int 10) (.int 47) = some (.int (10 ^ 47)) := by
  show guardO _ _ = _
  unfold guardO
  rw [if_pos (by decide +kernel)]; rfl
theorem pow2 (h : List O) : nPow h (.int (10 ^ 47)) (.int 13) = some (.int ((10 ^ 47) ^ 13)) := by
  show guardO _ _ = _
  unfold guardO
  rw [if_pos (by decide +kernel)]; rfl
theorem mod_int (h : List O) (i j : Int) (hj : 0 < j) : nMod h (.int i) (.int j) = some (.int (i % j)) := by
  show guardO (decide (0 < j)) _ = _
  unfold guardO
  rw [if_pos (decide_eq_true hj)]
theorem abs_int (h : List O) (i : Int) : nAbs h [.int i] = some (.int (if i < 0 then -i else i)) := rfl
theorem mul_int (h : List O) (i j : Int) (hl : i.natAbs.log2 + j.natAbs.log2 < 1000000) : nMul h (.int i) (.int j) = some (.int (i * j)) := by
  show guardO (decide (i.natAbs.log2 + j.natAbs.log2 < 1000000)) _ = _
  unfold guardO
  rw [if_pos (decide_eq_true hl)]
theorem pow3 (h : List O) : nPow h (.int 10) (.int 18) = some (.int (10 ^ 18)) := by
  show guardO _ _ = _
  unfold guardO
  rw [if_pos (by decide +kernel)]; rfl
theorem sub_int (h : List O) (i j : Int) : nSub h (.int i) (.int j) = some (.int (i - j)) := rfl
theorem max_int (h : List O) (i j : Int) : nMax h [.int i, .int j] = some (.int (if j > i then j else i)) := rfl
theorem len_lst (ws : List W) (h : List O) : nLen h [.lst ws] = some (.int ws.length) := rfl
theorem dec_eq {p q : Prop} [Decidable p] [Decidable q] (h : p ↔ q) : decide p = decide q := by simp [h]
end N

set_option maxHeartbeats 4000000
open PySem L2
namespace N
noncomputable section
def topS (i : Nat) : Stmt := PySem.Challenge.pw_mayrows_k01_whole_texts.main.body.getD i (.Pass ⟨0, 0, 0, 0⟩)
def w_INTEGER_BOUND : W := .int (1000000000000000000000000000000000000000000000000000000000000)
def w_BOTH_LETTERS : W := .tro [.int (2), .int (4)]
def w_MAX_WIDTH : W := .int (200)
def w_LETTERS : W := .str "0123"
abbrev s_law_bag : Stmt := topS 20
abbrev N_law_bag : List Str := ["_law_script", "_law_at", "_law_cell", "_law_great", "_law_mixed"]
abbrev P_law_bag : List Str := ["_law_script", "_law_at"]
def b_law_bag : MS := (mSeq (mSet 2 (mIf (mB (mOp nLtT (mVar 1) (mCB (pureF nLen) (mCons (mVar 0) mNil)))) (mOp nIx (mVar 0) (mVar 1)) (mOp nAdd (mOp nAdd (mCB (pureF nSum) (mCons (mSl (mVar 0) mNoP (mPart (mC (.int 1)))) mNil)) (mOp nMul (mC (.int 103)) (mVar 1))) (mC (.int 71)))))
    (mSeq (mSet 3 (mOp nMod (mCB (pureF nInt) (mCons (mCB (pureF nAbs) (mCons (mVar 2) mNil)) mNil)) (mOp nPow (mOp nPow (mC (.int 10)) (mC (.int 47))) (mC (.int 13)))))
    (mSeq (mSet 4 (mOp nAdd (mOp nAdd (mOp nAdd (mOp nMul (mOp nMod (mCB (pureF nInt) (mCons (mVar 3) mNil)) (mC (.int 2305843009213693723))) (mC (.int 1000231))) (mOp nMul (mC (.int 9011)) (mVar 1))) (mOp nMul (mC (.int 41)) (mCB (pureF nInt) (mCons (mOp nLtT (mVar 2) (mC (.int 0))) mNil)))) (mC (.int 23))))
    (mRet (mLstN (mCons (mCB (pureF nMax) (mCons (mC (.int 0)) (mCons (mOp nSub (mVar 3) (mOp nPow (mC (.int 10)) (mC (.int 18)))) mNil))) (mCons (mOp nMod (mCB (pureF nInt) (mCons (mVar 4) mNil)) (mC (.int 2305843009213693951))) (mCons (mC (.int 0)) mNil))))))))
theorem x_law_bag : ∃ m : MF, m = mDef N_law_bag.length b_law_bag := ⟨_, rfl⟩
def m_law_bag : MF := Classical.choose x_law_bag
theorem m_law_bag_eq : m_law_bag = mDef N_law_bag.length b_law_bag := Classical.choose_spec x_law_bag
abbrev s_law_draw : Stmt := topS 21
abbrev N_law_draw : List Str := ["_law_bag_here", "_law_total", "_law_found", "_law_one", "_law_two"]
abbrev P_law_draw : List Str := ["_law_bag_here", "_law_total"]
def b_law_draw : MS := (mSeq (mIfS (mB (mOp nGt (mOp nIx (mVar 0) (mC (.int 0))) (mC (.int 0)))) (mSeq (mSet 2 (mOp nMod (mCB (pureF nInt) (mCons (mOp nIx (mVar 0) (mC (.int 0))) mNil)) (mVar 1)))
    (mSeq (mStore (mVar 0) (mC (.int 0)) (mOp nDiv (mOp nIx (mVar 0) (mC (.int 0))) (mVar 1)))
    (mRet (mVar 2)))) mNext)
    (mSeq (mStore (mVar 0) (mC (.int 2)) (mOp nAdd (mOp nIx (mVar 0) (mC (.int 2))) (mC (.int 1))))
    (mSeq (mSet 3 (mOp nMod (mCB (pureF nInt) (mCons (mOp nAdd (mOp nIx (mVar 0) (mC (.int 1))) (mOp nMul (mC (.int 1048609)) (mOp nIx (mVar 0) (mC (.int 2))))) mNil)) (mC (.int 2305843009213693951))))
    (mSeq (mSet 4 (mOp nAdd (mOp nMul (mOp nMod (mCB (pureF nInt) (mCons (mOp nMul (mVar 3) (mVar 3)) mNil)) (mC (.int 2305843009213693723))) (mVar 3)) (mOp nMul (mC (.int 8117)) (mOp nIx (mVar 0) (mC (.int 2))))))
    (mRet (mOp nMod (mCB (pureF nInt) (mCons (mOp nDiv (mOp nMod (mCB (pureF nInt) (mCons (mVar 4) mNil)) (mC (.int 2305843009213693921))) (mC (.int 16384))) mNil)) (mVar 1)))))))
theorem x_law_draw : ∃ m : MF, m = mDef N_law_draw.length b_law_draw := ⟨_, rfl⟩
def m_law_draw : MF := Classical.choose x_law_draw
theorem m_law_draw_eq : m_law_draw = mDef N_law_draw.length b_law_draw := Classical.choose_spec x_law_draw
abbrev s_law_one_of : Stmt := topS 22
abbrev N_law_one_of : List Str := ["_law_bag_here", "_law_items"]
abbrev P_law_one_of : List Str := ["_law_bag_here", "_law_items"]
def b_law_one_of : MS := (mRet (mOp nIx (mVar 1) (mCall m_law_draw (mCons (mVar 0) (mCons (mCB (pureF nLen) (mCons (mVar 1) mNil)) mNil)))))
theorem x_law_one_of : ∃ m : MF, m = mDef N_law_one_of.length b_law_one_of := ⟨_, rfl⟩
def m_law_one_of : MF := Classical.choose x_law_one_of
theorem m_law_one_of_eq : m_law_one_of = mDef N_law_one_of.length b_law_one_of := Classical.choose_spec x_law_one_of
abbrev s_law_text : Stmt := topS 23
abbrev N_law_text : List Str := ["_law_bag_here", "_law_letters", "_law_width", "_law_turn"]
abbrev P_law_text : List Str := ["_law_bag_here", "_law_letters", "_law_width"]
def b_law_text : MS := (mRet (mBM "str" (pureM nJoin) (mC (.str "")) (mCons (mLc (mRng rng1 (mCons (mVar 2) mNil)) (gN 3) mYes (mCB (pureF nStr) (mCons (mCall m_law_draw (mCons (mVar 0) (mCons (mVar 1) mNil))) mNil)) [3]) mNil)))
theorem x_law_text : ∃ m : MF, m = mDef N_law_text.length b_law_text := ⟨_, rfl⟩
def m_law_text : MF := Classical.choose x_law_text
theorem m_law_text_eq : m_law_text = mDef N_law_text.length b_law_text := Classical.choose_spec x_law_text
abbrev s_law_near_text : Stmt := topS 25
abbrev N_law_near_text : List Str := ["_law_bag_here", "_law_letters", "_law_width", "_law_text_here", "_law_at", "_law_sign", "_law_right", "_law_one"]
abbrev P_law_near_text : List Str := ["_law_bag_here", "_law_letters"]
def b_law_near_text : MS := (mSeq (mSet 2 (mCall m_law_one_of (mCons (mVar 0) (mCons (mLst (mCons (mC (.int 0)) (mCons (mC (.int 1)) (mCons (mC (.int 2)) (mCons (mC (.int 3)) (mCons (mC (.int 5)) (mCons (mC (.int 8)) (mCons (mC (.int 60)) (mCons (mC (.int 198)) (mCons (mC (.int 199)) (mCons (mC (.int 200)) mNil))))))))))) mNil))))
    (mSeq (mPar 3 4 (mCons (mCall m_law_text (mCons (mVar 0) (mCons (mVar 1) (mCons (mVar 2) mNil)))) (mCons (mCall m_law_draw (mCons (mVar 0) (mCons (mOp nAdd (mVar 2) (mC (.int 1))) mNil))) mNil)))
    (mSeq (mSet 5 (mCall m_law_one_of (mCons (mVar 0) (mCons (mOp nAdd (mCB (pureF nList) (mCons (mC (.str "0123456789 -a/:\n")) mNil)) (mLst (mCons (mC (.str "00")) (mCons (mC (.str "11")) (mCons (mC (.str "10")) (mCons (mC (.str "23")) (mCons (mC (.str "")) mNil))))))) mNil))))
    (mSeq (mSet 6 (mOp nEq (mLc (mIt (mVar 5)) (gN 7) (mB (mOp nNotIn (mVar 7) (mSl (mC (.str "0123")) mNoP (mPart (mVar 1))))) (mVar 7) [7]) (mLst mNil)))
    (mRet (mTup (mCons (mVar 3) (mCons (mOp nAdd (mOp nAdd (mSl (mVar 3) mNoP (mPart (mVar 4))) (mVar 5)) (mSl (mVar 3) (mPart (mVar 4)) mNoP)) (mCons (mAnd (mVar 6) (mOp nLe (mOp nAdd (mVar 2) (mCB (pureF nLen) (mCons (mVar 5) mNil))) (mC (.int 200)))) mNil)))))))))
theorem x_law_near_text : ∃ m : MF, m = mDef N_law_near_text.length b_law_near_text := ⟨_, rfl⟩
def m_law_near_text : MF := Classical.choose x_law_near_text
theorem m_law_near_text_eq : m_law_near_text = mDef N_law_near_text.length b_law_near_text := Classical.choose_spec x_law_near_text
abbrev s_is_integer : Stmt := topS 9
abbrev N_is_integer : List Str := ["value"]
abbrev P_is_integer : List Str := ["value"]
def b_is_integer : MS := (mRet (mAnd (mCB (pureF nIsi) (mCons (mVar 0) (mCons (mC (.ty "int")) mNil))) (mAnd (mNot (mCB (pureF nIsi) (mCons (mVar 0) (mCons (mC (.ty "bool")) mNil)))) (mChain nLtT nLtT (mUn nNeg (mC w_INTEGER_BOUND)) (mVar 0) (mC w_INTEGER_BOUND)))))
theorem x_is_integer : ∃ m : MF, m = mDef N_is_integer.length b_is_integer := ⟨_, rfl⟩
def m_is_integer : MF := Classical.choose x_is_integer
theorem m_is_integer_eq : m_is_integer = mDef N_is_integer.length b_is_integer := Classical.choose_spec x_is_integer
abbrev s_require_letters : Stmt := topS 14
abbrev N_require_letters : List Str := ["letters"]
abbrev P_require_letters : List Str := ["letters"]
def b_require_letters : MS := (mIfS (mOrT (mNotT (mTru (mCall m_is_integer (mCons (mVar 0) mNil)))) (mB (mOp nNotIn (mVar 0) (mC w_BOTH_LETTERS)))) mStuck mNext)
theorem x_require_letters : ∃ m : MF, m = mDef N_require_letters.length b_require_letters := ⟨_, rfl⟩
def m_require_letters : MF := Classical.choose x_require_letters
theorem m_require_letters_eq : m_require_letters = mDef N_require_letters.length b_require_letters := Classical.choose_spec x_require_letters
abbrev s_is_text_of : Stmt := topS 11
abbrev N_is_text_of : List Str := ["letters", "value", "sign"]
abbrev P_is_text_of : List Str := ["letters", "value"]
def b_is_text_of : MS := (mSeq (mIfS (mOrT (mNotT (mTru (mCB (pureF nIsi) (mCons (mVar 1) (mCons (mC (.ty "str")) mNil))))) (mB (mOp nGt (mCB (pureF nLen) (mCons (mVar 1) mNil)) (mC w_MAX_WIDTH)))) (mRet (mC (.bl false))) mNext)
    (mRet (mCB (pureF nAll) (mCons (mLc (mIt (mVar 1)) (gN 2) mYes (mOp nIn (mVar 2) (mSl (mC w_LETTERS) mNoP (mPart (mVar 0)))) [2]) mNil))))
theorem x_is_text_of : ∃ m : MF, m = mDef N_is_text_of.length b_is_text_of := ⟨_, rfl⟩
def m_is_text_of : MF := Classical.choose x_is_text_of
theorem m_is_text_of_eq : m_is_text_of = mDef N_is_text_of.length b_is_text_of := Classical.choose_spec x_is_text_of
abbrev s_is_text : Stmt := topS 15
abbrev N_is_text : List Str := ["value", "letters"]
abbrev P_is_text : List Str := ["value", "letters"]
def b_is_text : MS := (mSeq (mDrop (mCall m_require_letters (mCons (mVar 1) mNil)))
    (mRet (mCall m_is_text_of (mCons (mVar 1) (mCons (mVar 0) mNil)))))
theorem x_is_text : ∃ m : MF, m = mDef N_is_text.length b_is_text := ⟨_, rfl⟩
def m_is_text : MF := Classical.choose x_is_text
theorem m_is_text_eq : m_is_text = mDef N_is_text.length b_is_text := Classical.choose_spec x_is_text
abbrev s_law_are_texts : Stmt := topS 26
abbrev N_law_are_texts : List Str := ["_law_bag_here", "_law_letters", "_law_turn", "_law_text_here", "_law_near", "_law_is_right", "_law_odd", "_law_one"]
abbrev P_law_are_texts : List Str := ["_law_bag_here", "_law_letters"]
def b_law_are_texts : MS := (mSeq (mFor (mRng rng1 (mCons (mC (.int 4)) mNil)) (gN 2) (mSeq (mAsg (gT [(gN 3), (gN 4), (gN 5)]) (mCall m_law_near_text (mCons (mVar 0) (mCons (mVar 1) mNil))))
    (mSeq (mIfS (mOrT (mB (mOp nIsN (mCall m_is_text (mCons (mVar 3) (mCons (mVar 1) mNil))) (mC (.bl true)))) (mB (mOp nNe (mCB (pureF nRepr) (mCons (mCall m_is_text (mCons (mVar 4) (mCons (mVar 1) mNil))) mNil)) (mCB (pureF nRepr) (mCons (mVar 5) mNil))))) (mRet (mC (.bl false))) mNext)
    (mIfS (mOrT (mB (mOp nIsN (mCall m_is_text (mCons (mVar 3) (mCons (mC (.int 4)) mNil))) (mC (.bl true)))) (mB (mOp nNe (mCall m_is_text (mCons (mVar 3) (mCons (mC (.int 2)) mNil))) (mAnd (mOp nNotIn (mC (.str "2")) (mVar 3)) (mOp nNotIn (mC (.str "3")) (mVar 3)))))) (mRet (mC (.bl false))) mNext))))
    (mSeq (mSet 6 (mLst (mCons (mC .non) (mCons (mC (.bl true)) (mCons (mC (.int 0)) (mCons (mC (.int 10)) (mCons (mOp nMul (mOp nPow (mC (.int 10)) (mC (.int 60))) (mOp nPow (mC (.int 10)) (mC (.int 39)))) (mCons (mTup mNil) (mCons (mTup (mCons (mC (.str "0")) mNil)) (mCons (mLst (mCons (mC (.str "0")) (mCons (mC (.str "1")) mNil))) (mCons (mDisp [((mC (.str "0")), (mC (.int 1)))]) (mCons (mOp nMul (mC (.str "0")) (mC (.int 201))) (mCons (mOp nMul (mC (.str "01")) (mC (.int 1500))) (mCons (mOp nSub (mC (.int 0)) (mC (.int 1))) mNil))))))))))))))
    (mRet (mOp nEq (mLc (mIt (mVar 6)) (gN 7) (mB (mOp nIsN (mCall m_is_text (mCons (mVar 7) (mCons (mVar 1) mNil))) (mC (.bl false)))) (mVar 7) [7]) (mLst mNil)))))
theorem x_law_are_texts : ∃ m : MF, m = mDef N_law_are_texts.length b_law_are_texts := ⟨_, rfl⟩
def m_law_are_texts : MF := Classical.choose x_law_are_texts
theorem m_law_are_texts_eq : m_law_are_texts = mDef N_law_are_texts.length b_law_are_texts := Classical.choose_spec x_law_are_texts
abbrev s_law_texts : Stmt := topS 24
abbrev N_law_texts : List Str := ["_law_letters", "_law_width", "_law_found", "_law_turn", "_law_longer", "_law_text_here", "_law_letter"]
abbrev P_law_texts : List Str := ["_law_letters", "_law_width"]
def b_law_texts : MS := (mSeq (mSet 2 (mLst (mCons (mC (.str "")) mNil)))
    (mSeq (mFor (mRng rng1 (mCons (mVar 1) mNil)) (gN 3) (mSeq (mSet 4 (mLst mNil))
    (mSeq (mFor (mIt (mVar 2)) (gN 5) (mSet 4 (mOp nAdd (mVar 4) (mLc (mRng rng1 (mCons (mVar 0) mNil)) (gN 6) mYes (mOp nAdd (mVar 5) (mCB (pureF nStr) (mCons (mVar 6) mNil))) [6]))))
    (mSet 2 (mVar 4)))))
    (mRet (mVar 2))))
theorem x_law_texts : ∃ m : MF, m = mDef N_law_texts.length b_law_texts := ⟨_, rfl⟩
def m_law_texts : MF := Classical.choose x_law_texts
theorem m_law_texts_eq : m_law_texts = mDef N_law_texts.length b_law_texts := Classical.choose_spec x_law_texts
abbrev s_is_integer_within : Stmt := topS 10
abbrev N_is_integer_within : List Str := ["value", "low", "high"]
abbrev P_is_integer_within : List Str := ["value", "low", "high"]
def b_is_integer_within : MS := (mRet (mAnd (mCall m_is_integer (mCons (mVar 0) mNil)) (mChain nLe nLe (mVar 1) (mVar 0) (mVar 2))))
theorem x_is_integer_within : ∃ m : MF, m = mDef N_is_integer_within.length b_is_integer_within := ⟨_, rfl⟩
def m_is_integer_within : MF := Classical.choose x_is_integer_within
theorem m_is_integer_within_eq : m_is_integer_within = mDef N_is_integer_within.length b_is_integer_within := Classical.choose_spec x_is_integer_within
abbrev s_require_width : Stmt := topS 12
abbrev N_require_width : List Str := ["value"]
abbrev P_require_width : List Str := ["value"]
def b_require_width : MS := (mIfS (mNotT (mTru (mCall m_is_integer_within (mCons (mVar 0) (mCons (mC (.int 0)) (mCons (mC w_MAX_WIDTH) mNil)))))) mStuck mNext)
theorem x_require_width : ∃ m : MF, m = mDef N_require_width.length b_require_width := ⟨_, rfl⟩
def m_require_width : MF := Classical.choose x_require_width
theorem m_require_width_eq : m_require_width = mDef N_require_width.length b_require_width := Classical.choose_spec x_require_width
abbrev s_next_digits : Stmt := topS 16
abbrev N_next_digits : List Str := ["digits", "letters", "at", "place"]
abbrev P_next_digits : List Str := ["digits", "letters"]
def b_next_digits : MS := (mSeq (mSet 2 (mOp nSub (mCB (pureF nLen) (mCons (mVar 0) mNil)) (mC (.int 1))))
    (mSeq (mWhile (mAndT (mB (mOp nGe (mVar 2) (mC (.int 0)))) (mB (mOp nEq (mOp nIx (mVar 0) (mVar 2)) (mOp nSub (mVar 1) (mC (.int 1)))))) (mAug 2 iSub (mC (.int 1))) 5000)
    (mSeq (mIfS (mB (mOp nLtT (mVar 2) (mC (.int 0)))) (mRet (mC .non)) mNext)
    (mRet (mLst (mStar (mSl (mVar 0) mNoP (mPart (mVar 2))) (mCons (mOp nAdd (mOp nIx (mVar 0) (mVar 2)) (mC (.int 1))) (mStar (mLc (mRng rng2 (mCons (mOp nAdd (mVar 2) (mC (.int 1))) (mCons (mCB (pureF nLen) (mCons (mVar 0) mNil)) mNil))) (gN 3) mYes (mC (.int 0)) [3]) mNil))))))))
theorem x_next_digits : ∃ m : MF, m = mDef N_next_digits.length b_next_digits := ⟨_, rfl⟩
def m_next_digits : MF := Classical.choose x_next_digits
theorem m_next_digits_eq : m_next_digits = mDef N_next_digits.length b_next_digits := Classical.choose_spec x_next_digits
abbrev s_texts_of : Stmt := topS 17
abbrev N_texts_of : List Str := ["letters", "width", "digits", "place", "digit"]
abbrev P_texts_of : List Str := ["letters", "width"]
def yb_texts_of : MGn := (ySeq (yPlain (mDrop (mCall m_require_letters (mCons (mVar 0) mNil))))
    (ySeq (yPlain (mDrop (mCall m_require_width (mCons (mVar 1) mNil))))
    (ySeq (yPlain (mSet 2 (mLc (mRng rng1 (mCons (mVar 1) mNil)) (gN 3) mYes (mC (.int 0)) [3])))
    (ySeq (yWhile (mB (mOp nIsN (mVar 2) (mC .non))) (ySeq (yYield (mBM "str" (pureM nJoin) (mC (.str "")) (mCons (mLc (mIt (mVar 2)) (gN 4) mYes (mCB (pureF nStr) (mCons (mVar 4) mNil)) [4]) mNil)))
    (yPlain (mSet 2 (mCall m_next_digits (mCons (mVar 2) (mCons (mVar 0) mNil)))))) 5000)
    yNil))))
theorem yx_texts_of : ∃ m : MGn, m = yb_texts_of := ⟨_, rfl⟩
def y_texts_of : MGn := Classical.choose yx_texts_of
theorem y_texts_of_eq : y_texts_of = yb_texts_of := Classical.choose_spec yx_texts_of
abbrev s_law_are_all : Stmt := topS 27
abbrev N_law_are_all : List Str := ["_law_bag_here", "_law_letters", "_law_width", "_law_due", "_law_first", "_law_one", "_law_wide", "_law_digit"]
abbrev P_law_are_all : List Str := ["_law_bag_here", "_law_letters"]
def b_law_are_all : MS := (mSeq (mSet 2 (mCall m_law_draw (mCons (mVar 0) (mCons (mIf (mB (mOp nEq (mVar 1) (mC (.int 2)))) (mC (.int 6)) (mC (.int 4))) mNil))))
    (mSeq (mSet 3 (mCall m_law_texts (mCons (mVar 1) (mCons (mVar 2) mNil))))
    (mSeq (mIfS (mOrT (mB (mOp nNe (mListG y_texts_of 5 (mCons (mVar 1) (mCons (mVar 2) mNil))) (mVar 3))) (mB (mOp nNe (mTupG y_texts_of 5 (mCons (mVar 1) (mCons (mVar 2) mNil))) (mCB (pureF nTuple) (mCons (mVar 3) mNil))))) (mRet (mC (.bl false))) mNext)
    (mSeq (mSet 4 (mLstN mNil))
    (mSeq (mForG y_texts_of 5 (mCons (mVar 1) (mCons (mCall m_law_one_of (mCons (mVar 0) (mCons (mLst (mCons (mC (.int 198)) (mCons (mC (.int 199)) (mCons (mC (.int 200)) mNil)))) mNil))) mNil)) (gN 5) (mSeq (mDrop (mBM "list" nAppend (mVar 4) (mCons (mVar 5) mNil)))
    (mIfS (mB (mOp nEq (mCB (pureF nLen) (mCons (mVar 4) mNil)) (mOp nAdd (mVar 1) (mC (.int 1))))) mBrk mNext)))
    (mSeq (mSet 6 (mCB (pureF nLen) (mCons (mOp nIx (mVar 4) (mC (.int 0))) mNil)))
    (mRet (mOp nEq (mVar 4) (mOp nAdd (mLc (mRng rng1 (mCons (mVar 1) mNil)) (gN 7) mYes (mOp nAdd (mOp nMul (mC (.str "0")) (mOp nSub (mVar 6) (mC (.int 1)))) (mCB (pureF nStr) (mCons (mVar 7) mNil))) [7]) (mLst (mCons (mOp nAdd (mOp nMul (mC (.str "0")) (mOp nSub (mVar 6) (mC (.int 2)))) (mC (.str "10"))) mNil)))))))))))
theorem x_law_are_all : ∃ m : MF, m = mDef N_law_are_all.length b_law_are_all := ⟨_, rfl⟩
def m_law_are_all : MF := Classical.choose x_law_are_all
theorem m_law_are_all_eq : m_law_are_all = mDef N_law_are_all.length b_law_are_all := Classical.choose_spec x_law_are_all
abbrev s_require_text : Stmt := topS 13
abbrev N_require_text : List Str := ["letters", "value"]
abbrev P_require_text : List Str := ["letters", "value"]
def b_require_text : MS := (mIfS (mNotT (mTru (mCall m_is_text_of (mCons (mVar 0) (mCons (mVar 1) mNil))))) mStuck mNext)
theorem x_require_text : ∃ m : MF, m = mDef N_require_text.length b_require_text := ⟨_, rfl⟩
def m_require_text : MF := Classical.choose x_require_text
theorem m_require_text_eq : m_require_text = mDef N_require_text.length b_require_text := Classical.choose_spec x_require_text
abbrev s_comes_ahead : Stmt := topS 18
abbrev N_comes_ahead : List Str := ["one", "other"]
abbrev P_comes_ahead : List Str := ["one", "other"]
def b_comes_ahead : MS := (mSeq (mDrop (mCall m_require_text (mCons (mC (.int 4)) (mCons (mVar 0) mNil))))
    (mSeq (mDrop (mCall m_require_text (mCons (mC (.int 4)) (mCons (mVar 1) mNil))))
    (mRet (mOp nLtT (mTup (mCons (mCB (pureF nLen) (mCons (mVar 0) mNil)) (mCons (mVar 0) mNil))) (mTup (mCons (mCB (pureF nLen) (mCons (mVar 1) mNil)) (mCons (mVar 1) mNil)))))))
theorem x_comes_ahead : ∃ m : MF, m = mDef N_comes_ahead.length b_comes_ahead := ⟨_, rfl⟩
def m_comes_ahead : MF := Classical.choose x_comes_ahead
theorem m_comes_ahead_eq : m_comes_ahead = mDef N_comes_ahead.length b_comes_ahead := Classical.choose_spec x_comes_ahead
abbrev s_law_ahead : Stmt := topS 28
abbrev N_law_ahead : List Str := ["_law_one", "_law_other", "_law_mine", "_law_theirs"]
abbrev P_law_ahead : List Str := ["_law_one", "_law_other"]
def b_law_ahead : MS := (mSeq (mIfS (mB (mOp nNe (mCB (pureF nLen) (mCons (mVar 0) mNil)) (mCB (pureF nLen) (mCons (mVar 1) mNil)))) (mRet (mOp nLtT (mCB (pureF nLen) (mCons (mVar 0) mNil)) (mCB (pureF nLen) (mCons (mVar 1) mNil)))) mNext)
    (mSeq (mFor (mZip (mCons (mVar 0) (mCons (mVar 1) mNil))) (gT [(gN 2), (gN 3)]) (mIfS (mB (mOp nNe (mVar 2) (mVar 3))) (mRet (mOp nLtT (mBM "str" (pureM nIndex) (mC (.str "0123")) (mCons (mVar 2) mNil)) (mBM "str" (pureM nIndex) (mC (.str "0123")) (mCons (mVar 3) mNil)))) mNext))
    (mRet (mC (.bl false)))))
theorem x_law_ahead : ∃ m : MF, m = mDef N_law_ahead.length b_law_ahead := ⟨_, rfl⟩
def m_law_ahead : MF := Classical.choose x_law_ahead
theorem m_law_ahead_eq : m_law_ahead = mDef N_law_ahead.length b_law_ahead := Classical.choose_spec x_law_ahead
abbrev s_law_are_ordered : Stmt := topS 29
abbrev N_law_are_ordered : List Str := ["_law_bag_here", "_law_some", "_law_at", "_law_one", "_law_other", "_law_turn"]
abbrev P_law_are_ordered : List Str := ["_law_bag_here"]
def b_law_are_ordered : MS := (mSeq (mSet 1 (mLcN (mRng rng1 (mCons (mC (.int 2)) mNil)) (gN 5) mYes (mCall m_law_text (mCons (mVar 0) (mCons (mCall m_law_one_of (mCons (mVar 0) (mCons (mLst (mCons (mC (.int 2)) (mCons (mC (.int 4)) mNil))) mNil))) (mCons (mCall m_law_draw (mCons (mVar 0) (mCons (mC (.int 4)) mNil))) mNil)))) [5]))
    (mSeq (mSet 2 (mCall m_law_draw (mCons (mVar 0) (mCons (mOp nAdd (mCB (pureF nLen) (mCons (mOp nIx (mVar 1) (mC (.int 0))) mNil)) (mC (.int 1))) mNil))))
    (mSeq (mDrop (mBM "list" nAppend (mVar 1) (mCons (mOp nAdd (mOp nAdd (mSl (mOp nIx (mVar 1) (mC (.int 0))) mNoP (mPart (mVar 2))) (mCall m_law_one_of (mCons (mVar 0) (mCons (mLst (mCons (mC (.str "")) (mCons (mC (.str "0")) (mCons (mC (.str "1")) (mCons (mC (.str "3")) mNil))))) mNil)))) (mSl (mOp nIx (mVar 1) (mC (.int 0))) (mPart (mOp nAdd (mVar 2) (mCall m_law_draw (mCons (mVar 0) (mCons (mC (.int 2)) mNil))))) mNoP)) mNil)))
    (mSeq (mDrop (mBM "list" nAppend (mVar 1) (mCons (mCall m_law_text (mCons (mVar 0) (mCons (mC (.int 4)) (mCons (mOp nAdd (mC (.int 199)) (mCall m_law_draw (mCons (mVar 0) (mCons (mC (.int 2)) mNil)))) mNil)))) mNil)))
    (mSeq (mFor (mIt (mVar 1)) (gN 3) (mFor (mIt (mVar 1)) (gN 4) (mSeq (mIfS (mB (mOp nNe (mCB (pureF nRepr) (mCons (mCall m_comes_ahead (mCons (mVar 3) (mCons (mVar 4) mNil))) mNil)) (mCB (pureF nRepr) (mCons (mCall m_law_ahead (mCons (mVar 3) (mCons (mVar 4) mNil))) mNil)))) (mRet (mC (.bl false))) mNext)
    (mIfS (mB (mOp nNe (mOp nAdd (mOp nAdd (mCall m_comes_ahead (mCons (mVar 3) (mCons (mVar 4) mNil))) (mCall m_comes_ahead (mCons (mVar 4) (mCons (mVar 3) mNil)))) (mCB (pureF nInt) (mCons (mOp nEq (mVar 3) (mVar 4)) mNil))) (mC (.int 1)))) (mRet (mC (.bl false))) mNext))))
    (mRet (mC (.bl true))))))))
theorem x_law_are_ordered : ∃ m : MF, m = mDef N_law_are_ordered.length b_law_are_ordered := ⟨_, rfl⟩
def m_law_are_ordered : MF := Classical.choose x_law_are_ordered
theorem m_law_are_ordered_eq : m_law_are_ordered = mDef N_law_are_ordered.length b_law_are_ordered := Classical.choose_spec x_law_are_ordered
abbrev s_law : Stmt := topS 30
abbrev N_law : List Str := ["_law_script", "_law_at", "_law_bag_here", "_law_letters"]
abbrev P_law : List Str := ["_law_script"]
def b_law : MS := (mSeq (mFor (mRng rng1 (mCons (mCB (pureF nMax) (mCons (mC (.int 1)) (mCons (mCB (pureF nMin) (mCons (mC (.int 3)) (mCons (mCB (pureF nLen) (mCons (mVar 0) mNil)) mNil))) mNil))) mNil)) (gN 1) (mSeq (mSet 2 (mCall m_law_bag (mCons (mVar 0) (mCons (mVar 1) mNil))))
    (mSeq (mSet 3 (mCall m_law_one_of (mCons (mVar 2) (mCons (mLst (mCons (mC (.int 2)) (mCons (mC (.int 4)) mNil))) mNil))))
    (mIfS (mOrT (mNotT (mTru (mCall m_law_are_texts (mCons (mVar 2) (mCons (mVar 3) mNil))))) (mOrT (mNotT (mTru (mCall m_law_are_all (mCons (mVar 2) (mCons (mVar 3) mNil))))) (mNotT (mTru (mCall m_law_are_ordered (mCons (mVar 2) mNil)))))) (mRet (mC (.bl false))) mNext))))
    (mRet (mOp nEq (mC w_MAX_WIDTH) (mC (.int 200)))))
theorem x_law : ∃ m : MF, m = mDef N_law.length b_law := ⟨_, rfl⟩
def m_law : MF := Classical.choose x_law
theorem m_law_eq : m_law = mDef N_law.length b_law := Classical.choose_spec x_law
end
end N

set_option maxHeartbeats 4000000
namespace N
open PySem L2
/-- the bag of draws -/
def Bag (b n : Nat) (h : List O) : Prop := ∃ x y z : Int, h[b]? = some (.lst [.int x, .int y, .int z]) ∧ 0 ≤ z ∧ z ≤ n
theorem draw (b n : Nat) (h : List O) (t : Int) (hb : Bag b n h) (hn : n ≤ 1000000000) (h1 : 1 ≤ t) (h2 : t ≤ 1000000) : ∃ (r : Int) (o : O), m_law_draw [.ref b, .int t] h = .ok (.int r) (h.set b o) ∧ 0 ≤ r ∧ r < t ∧ Bag b (n + 1) (h.set b o) := by
  obtain ⟨x, y, z, hz, h3, h4⟩ := hb
  have hl : b < h.length := (List.getElem?_eq_some_iff.mp hz).1
  have ht : t.natAbs.log2 < 9000 := log_small 1000000 (by omega)
  have ht0 : 0 < t := by omega
  rw [m_law_draw_eq]; unfold b_law_draw
  by_cases hx : 0 < x
  · refine ⟨x % t, .lst [.int (x / t), .int y, .int z], ?_, Int.emod_nonneg _ (by omega), Int.emod_lt_of_pos _ (by omega), ?_⟩
    · simp [-bind_ok, -sbind_ok, -ofO_some, -ofH_some, -nb_ok, mDef, mSeq, mSet, mIfS, mRet, mDrop, mNext, mVar, mC, mOp, mCB, mCons, mNil, mB, mTru, mCall, mAndT, mOrT, mNotT, mAnd, mOr, mNot, mIf, mChain, mUn, mStore, mAug, mLst, mLstN, mTup, mSl, mNoP, mPart, mBM, pureF, pureM, sbindN, bindN, ofON, ofHN, nbN, nIx, nAdd, nSub, nMul, nMod, nDiv, nGt, nLt, nLtT, nLe, nGe, nInt_int, nInt_bl, nLen, nAbs, seqU, lstX, atI, guardO, setW, seqL, ixN, asB, hz, hx, ht, ht0]
    · exact ⟨x / t, y, z, by simp [hl], h3, by omega⟩
  · have hu : Nat.log2 1048609 + (z + 1).natAbs.log2 < 1000000 := by
      have := log_small (i := z + 1) (k := 900) 1000000001 (by omega)
      have : Nat.log2 1048609 = 20 := by decide
      omega
    obtain ⟨one, hone⟩ : ∃ o, o = (y + 1048609 * (z + 1)) % 2305843009213693951 := ⟨_, rfl⟩
    obtain ⟨q, hq⟩ : ∃ o, o = one * one % 2305843009213693723 := ⟨_, rfl⟩
    have o1 : one.natAbs.log2 < 100 := log_small 2305843009213693951 (by omega)
    have q1 : q.natAbs.log2 < 100 := log_small 2305843009213693723 (by omega)
    have u1 : one.natAbs.log2 + one.natAbs.log2 < 1000000 := by omega
    have u2 : q.natAbs.log2 + one.natAbs.log2 < 1000000 := by omega
    have u3 : Nat.log2 8117 + (z + 1).natAbs.log2 < 1000000 := by
      have := log_small (i := z + 1) (k := 900) 1000000001 (by omega)
      have : Nat.log2 8117 = 12 := by decide
      omega
    refine ⟨(q * one + 8117 * (z + 1)) % 2305843009213693921 / 16384 % t, .lst [.int x, .int y, .int (z + 1)], ?_, Int.emod_nonneg _ (by omega), Int.emod_lt_of_pos _ (by omega), ⟨x, y, z + 1, by simp [hl], by omega, by omega⟩⟩
    have hset : ∀ o : O, (h.set b o)[b]? = some o := fun o => by simp [hl]
    have u4 : Nat.log2 16384 < 9000 := by decide
    simp [-bind_ok, -sbind_ok, -ofO_some, -ofH_some, -nb_ok, mDef, mSeq, mSet, mIfS, mRet, mDrop, mNext, mVar, mC, mOp, mCB, mCons, mNil, mB, mTru, mCall, mAndT, mOrT, mNotT, mAnd, mOr, mNot, mIf, mChain, mUn, mStore, mAug, mLst, mLstN, mTup, mSl, mNoP, mPart, mBM, pureF, pureM, sbindN, bindN, ofON, ofHN, nbN, nIx, nAdd, nSub, nMul, nMod, nDiv, nGt, nLt, nLtT, nLe, nGe, nInt_int, nInt_bl, nLen, nAbs, seqU, lstX, atI, guardO, setW, seqL, ixN, asB, hz, hx, ht, ht0, hset, hu, u4, ← hone, ← hq, u1, u2, u3]

noncomputable def e_cell : ME := mIf (mB (mOp nLtT (mVar 1) (mCB (pureF nLen) (mCons (mVar 0) mNil)))) (mOp nIx (mVar 0) (mVar 1)) (mOp nAdd (mOp nAdd (mCB (pureF nSum) (mCons (mSl (mVar 0) mNoP (mPart (mC (.int 1)))) mNil)) (mOp nMul (mC (.int 103)) (mVar 1))) (mC (.int 71)))
theorem cell_ok (ns : List Int) (i : Nat) (hi : i ≤ 1000) (x2 x3 x4 : Option W) (h : List O) : ∃ c : Int, e_cell [some (.lro (ns.map W.int)), some (.int i), x2, x3, x4] h = .ok (.int c) h := by
  by_cases hl : (i : Int) < ((ns.map W.int).length : Int)
  · have hi2 : i < ns.length := by simpa using hl
    have e : nIx h (.lro (ns.map W.int)) (.int i) = some (.int (ns[i])) := by
      show ((seqU h (.lro (ns.map W.int))).bind fun ws => atI ws (i : Int)) = _
      show atI (ns.map W.int) (i : Int) = _
      unfold atI ixN
      simp [hi2]
    refine ⟨ns[i], ?_⟩
    unfold e_cell
    have hd : decide ((i : Int) < ((ns.map W.int).length : Int)) = true := decide_eq_true hl
    have l := len_lro (ns.map W.int) h
    have t := lt_int h i ((ns.map W.int).length : Int)
    rw [hd] at t
    generalize ((ns.map W.int).length : Int) = L at *
    generalize ns.map W.int = ws at *
    generalize ns[i] = c at *
    simp only [mIf, mB, mOp, mVar, mCB, mCons, mNil, List.getElem?_cons_succ, List.getElem?_cons_zero, bindN, pureF, l, Option.map_some, ofHN, t, ofON, asB, if_true, e]
  · refine ⟨(cutL ns none (some 1)).sum + 103 * i + 71, ?_⟩
    unfold e_cell
    have hd : decide ((i : Int) < ((ns.map W.int).length : Int)) = false := decide_eq_false hl
    have l := len_lro (ns.map W.int) h
    have t := lt_int h i ((ns.map W.int).length : Int)
    have s1 := sl_lro ns h
    have s2 := sum_lst (cutL ns none (some 1)) h
    have m := mul103 i hi h
    rw [hd] at t
    generalize ((ns.map W.int).length : Int) = L at *
    generalize ns.map W.int = ws at *
    generalize (cutL ns none (some 1)).map W.int = us at *
    simp only [mIf, mB, mOp, mVar, mC, mCB, mCons, mNil, mSl, mNoP, mPart, List.getElem?_cons_succ, List.getElem?_cons_zero, bindN, pureF, l, Option.map_some, ofHN, t, ofON, asB, Bool.false_eq_true, if_false, s1, s2, m, add_int]
noncomputable def e_great : ME := mOp nMod (mCB (pureF nInt) (mCons (mCB (pureF nAbs) (mCons (mVar 2) mNil)) mNil)) (mOp nPow (mOp nPow (mC (.int 10)) (mC (.int 47))) (mC (.int 13)))
noncomputable def e_mixed : ME := mOp nAdd (mOp nAdd (mOp nAdd (mOp nMul (mOp nMod (mCB (pureF nInt) (mCons (mVar 3) mNil)) (mC (.int 2305843009213693723))) (mC (.int 1000231))) (mOp nMul (mC (.int 9011)) (mVar 1))) (mOp nMul (mC (.int 41)) (mCB (pureF nInt) (mCons (mOp nLtT (mVar 2) (mC (.int 0))) mNil)))) (mC (.int 23))
theorem great_ok (x0 x1 x3 x4 : Option W) (c : Int) (h : List O) : ∃ g : Int, e_great [x0, x1, some (.int c), x3, x4] h = .ok (.int g) h := by
  have hp : (0 : Int) < (10 ^ 47) ^ 13 := by decide +kernel
  have p1 := pow1 h
  have p2 := pow2 h
  generalize ((10 : Int) ^ 47) ^ 13 = M at *
  generalize (10 : Int) ^ 47 = M1 at *
  refine ⟨(if c < 0 then -c else c) % M, ?_⟩
  have m := fun i => mod_int h i M hp
  unfold e_great
  simp only [mOp, mVar, mC, mCB, mCons, mNil, List.getElem?_cons_succ, List.getElem?_cons_zero, bindN, pureF, abs_int, nInt_int, Option.map_some, ofHN, p1, p2, ofON, m]
theorem mixed_ok (x0 x4 : Option W) (c g : Int) (i : Nat) (hi : i ≤ 1000) (h : List O) : ∃ y : Int, e_mixed [x0, some (.int i), some (.int c), some (.int g), x4] h = .ok (.int y) h := by
  have m1 := mod_int h g 2305843009213693723 (by decide)
  have l1 := log_small (i := g % 2305843009213693723) (k := 900) 2305843009213693723 (by omega)
  have k1 : (1000231 : Int).natAbs.log2 < 900 := by decide
  have u1 := mul_int h (g % 2305843009213693723) 1000231 (by omega)
  have l2 := log_small (i := (i : Int)) (k := 900) 1000 (by omega)
  have k2 : (9011 : Int).natAbs.log2 < 900 := by decide
  have u2 := mul_int h 9011 i (by omega)
  have k3 : (41 : Int).natAbs.log2 < 900 := by decide
  have l3 : (if decide (c < 0) = true then (1 : Int) else 0).natAbs.log2 < 900 := log_small 1 (by split <;> decide)
  have u3 := mul_int h 41 (if decide (c < 0) = true then 1 else 0) (by omega)
  have t := lt_int h c 0
  generalize decide (c < 0) = b at *
  refine ⟨g % 2305843009213693723 * 1000231 + 9011 * i + 41 * (if b = true then 1 else 0) + 23, ?_⟩
  unfold e_mixed
  simp only [mOp, mVar, mC, mCB, mCons, mNil, List.getElem?_cons_succ, List.getElem?_cons_zero, bindN, pureF, nInt_int, nInt_bl, Option.map_some, ofHN, ofON, m1, u1, u2, u3, t, add_int]
noncomputable def e_list : ME := mLstN (mCons (mCB (pureF nMax) (mCons (mC (.int 0)) (mCons (mOp nSub (mVar 3) (mOp nPow (mC (.int 10)) (mC (.int 18)))) mNil))) (mCons (mOp nMod (mCB (pureF nInt) (mCons (mVar 4) mNil)) (mC (.int 2305843009213693951))) (mCons (mC (.int 0)) mNil)))
theorem b_bag_eq : b_law_bag = mSeq (mSet 2 e_cell) (mSeq (mSet 3 e_great) (mSeq (mSet 4 e_mixed) (mRet e_list))) := rfl
theorem list_ok (x0 x1 x2 : Option W) (g m : Int) (h : List O) : ∃ x y : Int, e_list [x0, x1, x2, some (.int g), some (.int m)] h = .ok (.ref h.length) (h ++ [.lst [.int x, .int y, .int 0]]) := by
  have p := pow3 h
  generalize (10 : Int) ^ 18 = M at *
  refine ⟨if g - M > 0 then g - M else 0, m % 2305843009213693951, ?_⟩
  have m1 := mod_int h m 2305843009213693951 (by decide)
  have h3 : (3 : Nat) ≤ sizeLine := by decide
  have o : ∀ ws : List W, ws.length ≤ 3 → okLen ws = some ws := fun ws hl => if_pos (Nat.le_trans hl h3)
  unfold e_list
  simp only [mLstN, mOp, mVar, mC, mCB, mCons, mNil, List.getElem?_cons_succ, List.getElem?_cons_zero, bindN, pureF, nInt_int, Option.map_some, ofHN, ofON, p, m1, sub_int, max_int]
  rw [o _ (by simp)]
  rfl
theorem bag_ok (ns : List Int) (i : Nat) (hi : i ≤ 1000) (h : List O) : ∃ o, m_law_bag [.lro (ns.map W.int), .int i] h = .ok (.ref h.length) (h ++ [o]) ∧ Bag h.length 0 (h ++ [o]) := by
  obtain ⟨c, e1⟩ := cell_ok ns i hi none none none h
  obtain ⟨g, e2⟩ := great_ok (some (.lro (ns.map W.int))) (some (.int i)) none none c h
  obtain ⟨m, e3⟩ := mixed_ok (some (.lro (ns.map W.int))) none c g i hi h
  obtain ⟨x, y, e4⟩ := list_ok (some (.lro (ns.map W.int))) (some (.int i)) (some (.int c)) g m h
  refine ⟨.lst [.int x, .int y, .int 0], ?_, x, y, 0, by simp, by decide, by decide⟩
  rw [m_law_bag_eq, b_bag_eq]
  simp only [mDef, List.map_cons, List.map_nil, List.length_cons, List.length_nil, List.replicate, List.cons_append, List.nil_append, mSeq, mSet, mRet, e1, e2, e3, e4, sbindN, List.set]
theorem one_of_ok (b n : Nat) (h : List O) (items : List W) (hb : Bag b n h) (hn : n ≤ 1000000000) (h1 : 1 ≤ items.length) (h2 : items.length ≤ 1000) : ∃ w o, w ∈ items ∧ m_law_one_of [.ref b, .lst items] h = .ok w (h.set b o) ∧ Bag b (n + 1) (h.set b o) := by
  obtain ⟨r, o, e, h3, h4, hb'⟩ := draw b n h items.length hb hn (by omega) (by omega)
  obtain ⟨d, rfl⟩ := Int.eq_ofNat_of_zero_le h3
  have hd : d < items.length := by omega
  refine ⟨items[d], o, List.getElem_mem hd, ?_, hb'⟩
  have l := len_lst items h
  have ix : ∀ h' : List O, nIx h' (.lst items) (.int (d : Int)) = some items[d] := fun h' => by
    show atI items (d : Int) = _
    unfold atI ixN
    simp [hd]
  generalize items[d] = w at *
  rw [m_law_one_of_eq]
  unfold b_law_one_of
  simp only [mDef, List.map_cons, List.map_nil, List.length_cons, List.length_nil, List.replicate, List.cons_append, List.nil_append, mRet, mOp, mVar, mCall, mCB, mCons, mNil, List.getElem?_cons_succ, List.getElem?_cons_zero, bindN, sbindN, pureF, l, Option.map_some, ofHN, ofON, e, ix]
noncomputable def el_text : ME := mCB (pureF nStr) (mCons (mCall m_law_draw (mCons (mVar 0) (mCons (mVar 1) mNil))) mNil)
noncomputable def j_text : ME := mBM "str" (pureM nJoin) (mC (.str "")) (mCons (mLc (mRng rng1 (mCons (mVar 2) mNil)) (gN 3) mYes el_text [3]) mNil)
theorem b_text_eq : b_law_text = mRet j_text := rfl
theorem el_text_ok (b j c w : Nat) (h : List O) (x : W) (hp : Bag b j h) (hj : j ≤ 1000000000) (hc : 1 ≤ c) (hc4 : c ≤ 4) : ∃ y h', el_text [some (.ref b), some (.int c), some (.int w), some x] h = .ok y h' ∧ (∃ d : Nat, d < c ∧ y = sg d) ∧ Bag b (j + 1) h' := by
  obtain ⟨r, o, e, h0, h1, hb'⟩ := draw b j h c hp hj (by omega) (by omega)
  obtain ⟨d, rfl⟩ := Int.eq_ofNat_of_zero_le h0
  have hd : d < c := by omega
  refine ⟨sg d, h.set b o, ?_, ⟨d, hd, rfl⟩, hb'⟩
  have ds := digit_str d (h.set b o) (by omega)
  unfold el_text
  simp [-bind_ok, -sbind_ok, -ofO_some, -ofH_some, -nb_ok, mDef, mSeq, mSet, mIfS, mRet, mDrop, mNext, mVar, mC, mOp, mCB, mCons, mNil, mB, mTru, mCall, mAndT, mOrT, mNotT, mAnd, mOr, mNot, mIf, mChain, mUn, mStore, mAug, mLst, mLstN, mTup, mSl, mNoP, mPart, mBM, pureF, pureM, sbindN, bindN, ofON, ofHN, nbN, nAdd, nSub, nMul, nMod, nDiv, nGt, nLt, nLtT, nLe, nGe, nInt_int, nInt_bl, nAbs, seqU, lstX, atI, guardO, setW, seqL, ixN, asB, e, ds]
theorem it_ok (x0 x1 x3 : Option W) (w : Nat) (hw : w ≤ 1000) (h : List O) : mRng rng1 (mCons (mVar 2) mNil) [x0, x1, some (.int w), x3] h = .ok (rngW 0 w, fun _ => true) h := by
  have e : mCons (mVar 2) mNil [x0, x1, some (.int (w : Int)), x3] h = .ok [.int (w : Int)] h := rfl
  unfold mRng
  rw [e, bindN, rng1_ok w hw, ofON]
theorem b_run (x0 x1 x2 : W) (v : W) (h h' : List O) (e : j_text [some x0, some x1, some x2, none] h = .ok v h') : m_law_text [x0, x1, x2] h = .ok v h' := by
  rw [m_law_text_eq, b_text_eq]
  simp [-bind_ok, -sbind_ok, -ofO_some, -ofH_some, -nb_ok, mDef, mSeq, mSet, mIfS, mRet, mDrop, mNext, mVar, mC, mOp, mCB, mCons, mNil, mB, mTru, mCall, mAndT, mOrT, mNotT, mAnd, mOr, mNot, mIf, mChain, mUn, mStore, mAug, mLst, mLstN, mTup, mSl, mNoP, mPart, mBM, pureF, pureM, sbindN, bindN, ofON, ofHN, nbN, nAdd, nSub, nMul, nMod, nDiv, nGt, nLt, nLtT, nLe, nGe, nInt_int, nInt_bl, nAbs, seqU, lstX, atI, guardO, setW, seqL, ixN, asB, e]
theorem text_ok (b n : Nat) (h : List O) (c w : Nat) (hb : Bag b n h) (hn : n + w ≤ 1000000000) (hc : 1 ≤ c) (hc4 : c ≤ 4) (hw : w ≤ 1000) :
    ∃ ds h', m_law_text [.ref b, .int c, .int w] h = .ok (.str (tx ds)) h' ∧ ds.length = w ∧ (∀ d ∈ ds, d < c) ∧ Bag b (n + w) h' := by
  have lz : ([] : List W).length + (rngW 0 w).length ≤ sizeLine := by
    have : (1000 : Nat) ≤ sizeLine := by decide
    rw [rng_len]; show 0 + w ≤ _; omega
  obtain ⟨ys, h', e, hl, hr, hp⟩ := lc_inv (el := el_text) (i := 3) (σ := [some (.ref b), some (.int c), some (.int w), none]) (P := fun j h => Bag b j h) (R := fun y => ∃ d : Nat, d < c ∧ y = sg d) (rngW 0 w) [] n h (fun x hx j h hj hj2 hp =>
      el_text_ok b j c w h x hp (by rw [rng_len] at hj2; omega) hc hc4) lz hb
  rw [rng_len] at hl hp
  obtain ⟨ds, rfl, hd⟩ := sgs_of ys c hr
  rw [List.length_map] at hl
  rw [List.nil_append] at e
  have e3 : j_text [some (.ref b), some (.int c), some (.int w), none] h = .ok (.str (tx ds)) h' := joinS_ok (σ1 := [some (.ref b), some (.int c), some (.int w), none]) (rngW 0 w) ds
    (it_ok _ _ _ w hw h) rfl e (by omega)
  exact ⟨ds, h', b_run _ _ _ _ h h' e3, hl, hd, hp⟩
theorem Bag.mono {b n m : Nat} {h : List O} (hb : Bag b n h) (hm : n ≤ m) : Bag b m h := by
  obtain ⟨x, y, z, h1, h2, h3⟩ := hb
  exact ⟨x, y, z, h1, h2, by omega⟩
end N

set_option maxHeartbeats 4000000
namespace N
open PySem L2
/-- what is proved of a function: a row for each -/
local macro_rules
  | `(tactic| walk_at "xu") => `(tactic| fail)
/-- side facts -/
local macro_rules
  | `(tactic| walk_at "xs") => `(tactic| first | with_reducible assumption | omega | (simp only [List.length_cons, List.length_nil]; decide) | decide)
/-- facts of Bools -/
local macro_rules
  | `(tactic| walk_at "xk") => `(tactic| first | with_reducible exact rfl | with_reducible assumption | (exact decide_eq_true (by omega)) | (exact decide_eq_false (by omega)) | (simp; omega) | (simp; done))
local macro_rules
  | `(tactic| walk_at "xset") => `(tactic| (simp only [List.set_cons_succ, List.set_cons_zero]; first | done | rfl))
local macro_rules
  | `(tactic| walk_at "xo") => `(tactic| first
    | walk_at "xo1"
    | ((with_reducible apply o_mod) <;> walk_at "xs") | ((with_reducible apply o_div) <;> walk_at "xs") | ((with_reducible apply o_mul) <;> walk_at "xs") | ((with_reducible apply o_lenS) <;> walk_at "xs")
    | ((with_reducible apply o_rng1) <;> walk_at "xs") | ((with_reducible apply o_rng2) <;> walk_at "xs") | ((with_reducible refine o_ixR (by assumption) ?_); exact rfl)
    | ((with_reducible first
        | refine Eq.trans o_eqI (x_bl ?_) | refine Eq.trans o_neI (x_bl ?_) | refine Eq.trans o_lt (x_bl ?_) | refine Eq.trans o_ltT (x_bl ?_) | refine Eq.trans o_le (x_bl ?_) | refine Eq.trans o_gt (x_bl ?_) | refine Eq.trans o_ge (x_bl ?_) | refine Eq.trans o_eqB (x_bl ?_) | refine Eq.trans o_neB (x_bl ?_)
        | refine Eq.trans (o_eqS (by assumption) (by assumption)) (x_bl ?_) | refine Eq.trans (o_neS (by assumption) (by assumption)) (x_bl ?_)); walk_at "xk"))
local macro_rules
  | `(tactic| walk_at "xo1") => `(tactic| with_reducible first
    | exact o_add | exact o_sub | exact o_iadd | exact o_isub | exact o_lt | exact o_ltT | exact o_le | exact o_gt | exact o_ge | exact o_neg | exact o_eqI | exact o_neI | exact o_eqB | exact o_neB | exact o_reprB | exact o_addBB
    | exact o_intI | exact o_intB | exact o_abs | exact o_max | exact o_min | exact o_lenL | exact o_lenT | exact o_lenLo | exact o_lenTo
    | exact o_isiI | exact o_isiB | exact o_isiS | refine o_eqS (by assumption) (by assumption) | refine o_neS (by assumption) (by assumption)
    | refine o_lenR (by assumption))
local macro_rules
  | `(tactic| walk_at "x1") => `(tactic| first
    | with_reducible exact x_ok
    | with_reducible refine x_asm (by assumption)
    | with_reducible walk_at "xu"
    | with_reducible exact x_c | with_reducible exact x_nil | with_reducible exact x_noP | with_reducible exact x_next | with_reducible exact x_brk | with_reducible exact x_cnt | with_reducible exact x_retN
    | with_reducible exact x_krt | with_reducible exact x_kbk | with_reducible exact x_kct | with_reducible exact x_dnx | with_reducible exact x_drt
    | ((with_reducible apply x_var); exact rfl)
    | with_reducible apply x_op | with_reducible apply x_un | with_reducible apply x_cb | with_reducible apply x_call
    | with_reducible apply x_bm | with_reducible apply x_pm
    | with_reducible apply x_cons | with_reducible apply x_star | with_reducible apply x_b | with_reducible apply x_tru | with_reducible apply x_notT | with_reducible apply x_not
    | with_reducible apply x_andT | with_reducible apply x_orT | with_reducible apply x_and | with_reducible apply x_or | with_reducible apply x_ifE | with_reducible apply x_chain | with_reducible apply x_chain2
    | with_reducible apply x_tup | with_reducible apply x_lst | with_reducible apply x_lstN | with_reducible apply x_sl | with_reducible apply x_part
    | with_reducible apply x_it | with_reducible apply x_rng | with_reducible apply x_zip | with_reducible apply x_lc | with_reducible apply x_lcN
    | with_reducible apply x_seq | with_reducible apply x_knx | with_reducible apply x_drop | with_reducible apply x_ret | with_reducible apply x_ifS | with_reducible apply x_set | with_reducible apply x_par | with_reducible apply x_asg
    | with_reducible apply x_store | with_reducible apply x_aug | with_reducible apply x_for | with_reducible apply x_def
    | ((with_reducible apply x_t); focus (walk_at "xk"; done)) | ((with_reducible apply x_f); focus (walk_at "xk"; done))
    | with_reducible apply x_andV | with_reducible apply x_orV | with_reducible apply x_andS | with_reducible apply x_orS
    | with_reducible apply x_listG | with_reducible apply x_tupG
    | walk_at "xo"
    | ((with_reducible show List.set _ _ _ = _); walk_at "xset")
    | ((first
        | with_reducible show gN _ _ _ = _
        | with_reducible show gT _ _ _ = _); simp only [gT, gNs, gN, List.set_cons_succ, List.set_cons_zero]; first | done | exact rfl)
    | ((with_reducible show mNext _ _ = _); exact rfl)
    | ((with_reducible show wipeN _ _ = _); simp only [wipeN, List.set_cons_succ, List.set_cons_zero]; first | done | exact rfl)
    | ((with_reducible show List.map some _ ++ _ = _); simp only [List.map_cons, List.map_nil, List.length_cons, List.length_nil, List.cons_append, List.nil_append, List.replicate, Nat.reduceAdd, Nat.reduceSub]; exact rfl)
    | ((with_reducible show (_ : Nat) ≤ sizeLine); first | assumption | (simp only [List.length_cons, List.length_nil]; decide))
    | ((first
        | with_reducible show isT _ _ _ = _
        | with_reducible show itW _ _ = _
        | with_reducible show seqU _ _ = _
        | with_reducible show tru _ _ = _
        | with_reducible show zipW _ = _
        | with_reducible show setW _ _ _ _ = _
        | with_reducible show nIs _ _ _ = _
        | with_reducible show nIsN _ _ _ = _
        | with_reducible show nIx _ (W.tup _) (W.int _) = _
        | with_reducible show nIx _ (W.lst _) (W.int _) = _
        | with_reducible show nSl _ _ _ _ = _
        | with_reducible show _[_]? = _); exact rfl))
local macro_rules
  | `(tactic| walk_at "xe") => `(tactic| repeat walk_at "x1")
theorem is_integer_ok (i : Int) (h : List O) (hi : i.natAbs ≤ 1000) : m_is_integer [.int i] h = .ok (.bl true) h := by
  have h1 : -1000000000000000000000000000000000000000000000000000000000000 < i := by omega
  have h2 : i < 1000000000000000000000000000000000000000000000000000000000000 := by omega
  rw [m_is_integer_eq]; unfold b_is_integer
  simp [-bind_ok, -sbind_ok, -ofO_some, -ofH_some, -nb_ok, mDef, mSeq, mSet, mIfS, mRet, mDrop, mNext, mVar, mC, mOp, mCB, mCons, mNil, mB, mTru, mCall, mAndT, mOrT, mNotT, mAnd, mOr, mNot, mIf, mChain, mUn, mStore, mAug, mLst, mLstN, mTup, mSl, mNoP, mPart, mBM, pureF, pureM, sbindN, bindN, ofON, ofHN, nbN, nIx, nAdd, nSub, nMul, nMod, nDiv, nGt, nLt, nLtT, nLe, nGe, nInt_int, nInt_bl, nLen, nAbs, seqU, lstX, atI, guardO, setW, seqL, ixN, asB, o_isiI, o_isiB, w_INTEGER_BOUND, tru, nNeg, h1, h2]
theorem is_within_ok (i a b : Int) (h : List O) (hi : i.natAbs ≤ 1000) (h1 : a ≤ i) (h2 : i ≤ b) : m_is_integer_within [.int i, .int a, .int b] h = .ok (.bl true) h := by
  have e := is_integer_ok i h hi
  rw [m_is_integer_within_eq]; unfold b_is_integer_within
  simp [-bind_ok, -sbind_ok, -ofO_some, -ofH_some, -nb_ok, mDef, mSeq, mSet, mIfS, mRet, mDrop, mNext, mVar, mC, mOp, mCB, mCons, mNil, mB, mTru, mCall, mAndT, mOrT, mNotT, mAnd, mOr, mNot, mIf, mChain, mUn, mStore, mAug, mLst, mLstN, mTup, mSl, mNoP, mPart, mBM, pureF, pureM, sbindN, bindN, ofON, ofHN, nbN, nIx, nAdd, nSub, nMul, nMod, nDiv, nGt, nLt, nLtT, nLe, nGe, nInt_int, nInt_bl, nLen, nAbs, seqU, lstX, atI, guardO, setW, seqL, ixN, asB, e, tru, h1, h2]
theorem require_letters_ok (c : Int) (hc : c = 2 ∨ c = 4) (h : List O) : m_require_letters [.int c] h = .ok .non h := by
  have e := is_integer_ok c h (by omega)
  have e2 : nNotIn h (.int c) w_BOTH_LETTERS = some (.bl false) := by
    rcases hc with rfl | rfl <;> rfl
  rw [m_require_letters_eq]; unfold b_require_letters
  simp [-bind_ok, -sbind_ok, -ofO_some, -ofH_some, -nb_ok, mDef, mSeq, mSet, mIfS, mRet, mDrop, mNext, mVar, mC, mOp, mCB, mCons, mNil, mB, mTru, mCall, mAndT, mOrT, mNotT, mAnd, mOr, mNot, mIf, mChain, mUn, mStore, mAug, mLst, mLstN, mTup, mSl, mNoP, mPart, mBM, pureF, pureM, sbindN, bindN, ofON, ofHN, nbN, nIx, nAdd, nSub, nMul, nMod, nDiv, nGt, nLt, nLtT, nLe, nGe, nInt_int, nInt_bl, nLen, nAbs, seqU, lstX, atI, guardO, setW, seqL, ixN, asB, e, tru, e2]
theorem require_width_ok (i : Int) (h : List O) (h1 : 0 ≤ i) (h2 : i ≤ 200) : m_require_width [.int i] h = .ok .non h := by
  have e := is_within_ok i 0 200 h (by omega) h1 h2
  rw [m_require_width_eq]; unfold b_require_width
  simp [-bind_ok, -sbind_ok, -ofO_some, -ofH_some, -nb_ok, mDef, mSeq, mSet, mIfS, mRet, mDrop, mNext, mVar, mC, mOp, mCB, mCons, mNil, mB, mTru, mCall, mAndT, mOrT, mNotT, mAnd, mOr, mNot, mIf, mChain, mUn, mStore, mAug, mLst, mLstN, mTup, mSl, mNoP, mPart, mBM, pureF, pureM, sbindN, bindN, ofON, ofHN, nbN, nIx, nAdd, nSub, nMul, nMod, nDiv, nGt, nLt, nLtT, nLe, nGe, nInt_int, nInt_bl, nLen, nAbs, seqU, lstX, atI, guardO, setW, seqL, ixN, asB, e, tru, w_MAX_WIDTH]
def nxt (c : Nat) : List Nat → Option (List Nat)
  | [] => none
  | d :: ds => match nxt c ds with
    | some e => some (d :: e)
    | none => if d = c - 1 then none else some ((d + 1) :: ds.map fun _ => 0)
theorem nxt_max (c : Nat) : ∀ k, nxt c (List.replicate k (c - 1)) = none
  | 0 => rfl
  | k + 1 => by simp [List.replicate_succ, nxt, nxt_max c k]
theorem nxt_snoc (c x k : Nat) (hx : x ≠ c - 1) : ∀ p : List Nat, nxt c (p ++ x :: List.replicate k (c - 1)) = some (p ++ (x + 1) :: List.replicate k 0)
  | [] => by simp [nxt, nxt_max, hx]
  | d :: p => by simp [nxt, nxt_snoc c x k hx p]
noncomputable def nd_t : MT := mAndT (mB (mOp nGe (mVar 2) (mC (.int 0)))) (mB (mOp nEq (mOp nIx (mVar 0) (mVar 2)) (mOp nSub (mVar 1) (mC (.int 1)))))
noncomputable def nd_b : MS := mAug 2 iSub (mC (.int 1))
noncomputable def nd_r : ME := mLst (mStar (mSl (mVar 0) mNoP (mPart (mVar 2))) (mCons (mOp nAdd (mOp nIx (mVar 0) (mVar 2)) (mC (.int 1))) (mStar (mLc (mRng rng2 (mCons (mOp nAdd (mVar 2) (mC (.int 1))) (mCons (mCB (pureF nLen) (mCons (mVar 0) mNil)) mNil))) (gN 3) mYes (mC (.int 0)) [3]) mNil)))
theorem b_nd_eq : b_next_digits = mSeq (mSet 2 (mOp nSub (mCB (pureF nLen) (mCons (mVar 0) mNil)) (mC (.int 1)))) (mSeq (mWhile nd_t nd_b 5000) (mSeq (mIfS (mB (mOp nLtT (mVar 2) (mC (.int 0)))) (mRet (mC .non)) mNext) (mRet nd_r))) := rfl
abbrev nd_s (ds : List Nat) (c : Nat) (a : Int) : Slo := [some (.lst (nums ds)), some (.int (c : Int)), some (.int a), none]
theorem nd_loop (ds : List Nat) (c : Nat) (hc : 1 ≤ c) (h : List O) : ∀ (m F : Nat) (a : Int), m < F → m ≤ ds.length → a = (m : Int) - 1 → ∃ j, j ≤ m ∧ (∀ i (hi : i < ds.length), j ≤ i → i < m → ds[i] = c - 1) ∧ (∀ i (hi : i < ds.length), j = i + 1 → ds[i] ≠ c - 1) ∧ mWhile nd_t nd_b F (nd_s ds c a) h = .nx (nd_s ds c ((j : Int) - 1)) h
  | 0, F + 1, a, _, _, ha => by
    refine ⟨0, by omega, fun i _ _ hi => absurd hi (by omega), fun i _ hi => absurd hi (by omega), ?_⟩
    subst ha
    refine while_f ?_
    unfold nd_t
    walk_at "xe"
  | m + 1, F + 1, a, hF, hm, ha => by
    have ha : a = (m : Int) := by omega
    subst ha
    have e1 := ix_nums ds m (by omega) h
    by_cases hd : ds[m] = c - 1
    · obtain ⟨j, h1, h2, h3, h4⟩ := nd_loop ds c hc h m F ((m : Int) - 1) (by omega) (by omega) rfl
      refine ⟨j, by omega, fun i hi h5 h6 => ?_, h3, while_t (h1 := h) (h2 := h) (σ1 := nd_s ds c ((m : Int) - 1)) ?_ ?_ h4⟩
      · by_cases hh : i = m
        · subst hh; exact hd
        · exact h2 i hi h5 (by omega)
      · unfold nd_t
        walk_at "xe"
      · unfold nd_b
        walk_at "xe"
    · refine ⟨m + 1, by omega, fun i _ _ _ => by omega, fun i hi hj => ?_, ?_⟩
      · have : i = m := by omega
        subst this; exact hd
      · have e : ((m + 1 : Nat) : Int) - 1 = (m : Int) := by omega
        rw [e]
        refine while_f ?_
        unfold nd_t
        walk_at "xe"
def wOf : Option (List Nat) → W
  | some e => .lst (nums e)
  | none => .non
theorem nd_ret (ds : List Nat) (c i : Nat) (hi : i < ds.length) (hl : ds.length ≤ 200) (h : List O) : nd_r (nd_s ds c (i : Int)) h = .ok (.lst (nums (ds.take i ++ (ds[i] + 1) :: List.replicate (ds.length - (i + 1)) 0))) h := by
  have e1 := ix_nums ds i hi h
  have e2 : nSl h (.lst (nums ds)) none (some (i : Int)) = some (.lst (nums (ds.take i))) := by
    show some (W.lst (cutL (nums ds) none (some (i : Int)))) = _
    rw [take_int _ _ (by rw [nums_len]; omega)]
    simp [nums, List.map_take]
  have e3 : nLen h [.lst (nums ds)] = some (.int (ds.length : Int)) := by rw [o_lenL, nums_len]
  have e4 := lc_zero (nd_s ds c (i : Int)) h 3 (rngW ((i : Int) + 1) ((ds.length : Int) - ((i : Int) + 1)).toNat) (by simp [rngW]; omega)
  have e5 : nums (ds.take i ++ (ds[i] + 1) :: List.replicate (ds.length - (i + 1)) 0) = nums (ds.take i) ++ (W.int ((ds[i] : Nat) + 1 : Int) :: (List.replicate (rngW ((i : Int) + 1) ((ds.length : Int) - ((i : Int) + 1)).toNat).length (W.int 0) ++ [])) := by
    have : ((ds.length : Int) - ((i : Int) + 1)).toNat = ds.length - (i + 1) := by omega
    rw [this]
    simp [nums, rngW]
  have e6 : ((nums (ds.take i)) ++ (W.int ((ds[i] : Nat) + 1 : Int) :: (List.replicate (rngW ((i : Int) + 1) ((ds.length : Int) - ((i : Int) + 1)).toNat).length (W.int 0) ++ []))).length ≤ sizeLine := by
    have : (1000 : Nat) ≤ sizeLine := by decide
    rw [← e5, nums_len]
    simp; omega
  rw [e5]
  unfold nd_r
  walk_at "xe"
theorem next_ok (ds : List Nat) (c : Nat) (hc : 1 ≤ c) (hl : ds.length ≤ 200) (h : List O) : m_next_digits [.lst (nums ds), .int (c : Int)] h = .ok (wOf (nxt c ds)) h := by
  obtain ⟨j, h1, h2, h3, h4⟩ := nd_loop ds c hc h ds.length 5000 ((ds.length : Int) - 1) (by omega) (Nat.le_refl _) rfl
  have e3 : nLen h [.lst (nums ds)] = some (.int (ds.length : Int)) := by rw [o_lenL, nums_len]
  rw [m_next_digits_eq, b_nd_eq]
  cases j with
  | zero =>
    have e := all_rep ds (c - 1) ds.length rfl fun i hi => h2 i hi (Nat.zero_le _) hi
    have e0 : nxt c ds = none := by rw [e]; exact nxt_max _ _
    rw [e0]
    walk_at "xe"
    exact rfl
  | succ i =>
    have hi : i < ds.length := by omega
    have e1 : ds.drop (i + 1) = List.replicate (ds.length - (i + 1)) (c - 1) := all_rep _ _ _ (by simp) fun k hk => by
      rw [List.getElem_drop]
      exact h2 _ _ (by omega) (by simp at hk; omega)
    have e2 : ds = ds.take i ++ ds[i] :: List.replicate (ds.length - (i + 1)) (c - 1) := by
      rw [← e1, ← List.drop_eq_getElem_cons hi, List.take_append_drop]
    have e0 : nxt c ds = some (ds.take i ++ (ds[i] + 1) :: List.replicate (ds.length - (i + 1)) 0) := by
      conv => lhs; rw [e2]
      exact nxt_snoc _ _ _ (h3 i hi rfl) _
    have hr := nd_ret ds c i hi hl h
    have ej : ((i + 1 : Nat) : Int) - 1 = (i : Int) := by omega
    rw [ej] at h4
    rw [e0]
    walk_at "xe"
    exact rfl
def Ch (c : Nat) : List Nat → List (List Nat) → Bool
  | t, [] => nxt c t == none
  | t, u :: us => nxt c t == some u && Ch c u us
noncomputable def tx_j : ME := mBM "str" (pureM nJoin) (mC (.str "")) (mCons (mLc (mIt (mVar 2)) (gN 4) mYes (mCB (pureF nStr) (mCons (mVar 4) mNil)) [4]) mNil)
noncomputable def tx_t : MT := mB (mOp nIsN (mVar 2) (mC .non))
noncomputable def tx_n : MS := mSet 2 (mCall m_next_digits (mCons (mVar 2) (mCons (mVar 0) mNil)))
noncomputable def tx_b : MGn := ySeq (yYield tx_j) (yPlain tx_n)
noncomputable def tx_z : MS := mSet 2 (mLc (mRng rng1 (mCons (mVar 1) mNil)) (gN 3) mYes (mC (.int 0)) [3])
noncomputable def tx_r1 : MS := mDrop (mCall m_require_letters (mCons (mVar 0) mNil))
noncomputable def tx_r2 : MS := mDrop (mCall m_require_width (mCons (mVar 1) mNil))
theorem yb_eq : yb_texts_of = ySeq (yPlain tx_r1) (ySeq (yPlain tx_r2) (ySeq (yPlain tx_z) (ySeq (yWhile tx_t tx_b 5000) yNil))) := rfl
abbrev tx_s (c w : Nat) (x : W) : Slo := [some (.int (c : Int)), some (.int (w : Int)), some x, none, none]
theorem tx_j_ok (c w : Nat) (t : List Nat) (h : List O) (hd : ∀ d ∈ t, d < 4) (hl : t.length ≤ 200) : tx_j (tx_s c w (.lst (nums t))) h = .ok (.str (tx t)) h := by
  have e3 : tx_j (tx_s c w (.lst (nums t))) h = .ok (.str (tx ((nums t).map unI))) h := joinL_ok (σ1 := tx_s c w (.lst (nums t))) (nums t) unI rfl rfl (fun x hx => by
      obtain ⟨d, hm, rfl⟩ := List.mem_map.mp hx
      have e := digit_str d h (hd d hm)
      have : unI (W.int (d : Int)) = d := by simp [unI]
      rw [this]
      simp only [List.set_cons_succ, List.set_cons_zero]
      walk_at "xe") (by rw [nums_len]; omega)
  rw [unI_nums] at e3
  exact e3
theorem tx_body {σ σ1 : Slo} {h : List O} {w : W} {f : SR → GO} (e1 : tx_j σ h = .ok w h) (e2 : ∀ h, tx_n σ h = .nx σ1 h) : (tx_b σ h).bind f = .yld w h fun h' => f (.nx σ1 h') := by
  unfold tx_b ySeq yYield
  rw [e1]
  show GO.yld w h _ = GO.yld w h _
  congr 1
  funext h'
  show f (tx_n σ h') = _
  rw [e2]
theorem tx_t_ok (c w : Nat) (ws : List W) (h : List O) : tx_t (tx_s c w (.lst ws)) h = .ok true h := by
  have e := isn_lst h ws
  unfold tx_t
  walk_at "xe"
theorem tx_t_no (c w : Nat) (h : List O) : tx_t (tx_s c w .non) h = .ok false h := by
  have e := isn_non h
  unfold tx_t
  walk_at "xe"
theorem tx_n_ok (c w : Nat) (hc : 1 ≤ c) (t : List Nat) (hl : t.length ≤ 200) (h : List O) : tx_n (tx_s c w (.lst (nums t))) h = .nx (tx_s c w (wOf (nxt c t))) h := by
  have e := next_ok t c hc hl h
  unfold tx_n
  walk_at "xe"
theorem tx_tree (c w : Nat) (hc : 1 ≤ c) : ∀ (us : List (List Nat)) (t : List Nat) (F : Nat) (h : List O), Ch c t us = true → us.length + 1 < F → (∀ u ∈ t :: us, (∀ d ∈ u, d < 4) ∧ u.length ≤ 200) →
    yWhile tx_t tx_b F (tx_s c w (.lst (nums t))) h = ylist (fun h => .nx (tx_s c w .non) h) ((t :: us).map fun u => .str (tx u)) h
  | us, t, 0, h, _, hF, _ => absurd hF (by omega)
  | us, t, F + 1, h, hch, hF, hu => by
    obtain ⟨h1, h2⟩ := hu t List.mem_cons_self
    rw [yw_t (tx_t_ok c w _ h), tx_body (tx_j_ok c w t h h1 h2) (tx_n_ok c w hc t h2)]
    show GO.yld _ h _ = GO.yld _ h _
    congr 1
    funext h'
    match us, hch, hF, hu with
    | [], hch, hF, hu =>
      have e : nxt c t = none := by simpa [Ch] using hch
      rw [e]
      show yWhile tx_t tx_b F (tx_s c w .non) h' = _
      obtain ⟨G, rfl⟩ : ∃ G, F = G + 1 := ⟨F - 1, by simp at hF; omega⟩
      exact yw_f (tx_t_no c w h')
    | u :: us, hch, hF, hu =>
      have e : nxt c t = some u ∧ Ch c u us = true := by simpa [Ch] using hch
      rw [e.1]
      exact tx_tree c w hc us u F h' e.2 (by simp at hF; omega) fun x hx => hu x (List.mem_cons_of_mem _ hx)
theorem texts_tree (c w : Nat) (hc : c = 2 ∨ c = 4) (us : List (List Nat)) (h : List O) (hw : w ≤ 200) (hch : Ch c (List.replicate w 0) us = true) (hF : us.length + 1 < 5000) (hu : ∀ u ∈ List.replicate w 0 :: us, (∀ d ∈ u, d < 4) ∧ u.length ≤ 200) :
    y_texts_of (startN 5 [.int (c : Int), .int (w : Int)]) h = ylist (fun h => .nx (tx_s c w .non) h) ((List.replicate w 0 :: us).map fun u => .str (tx u)) h := by
  have r1 := require_letters_ok (c : Int) (by omega) h
  have r2 := require_width_ok (w : Int) h (by omega) (by omega)
  have s : startN 5 [.int (c : Int), .int (w : Int)] = [some (.int (c : Int)), some (.int (w : Int)), none, none, none] := rfl
  have e1 : tx_r1 [some (.int (c : Int)), some (.int (w : Int)), none, none, none] h = .nx [some (.int (c : Int)), some (.int (w : Int)), none, none, none] h := by unfold tx_r1; walk_at "xe"
  have e2 : tx_r2 [some (.int (c : Int)), some (.int (w : Int)), none, none, none] h = .nx [some (.int (c : Int)), some (.int (w : Int)), none, none, none] h := by unfold tx_r2; walk_at "xe"
  have e4 := lc_zero [some (.int (c : Int)), some (.int (w : Int)), none, none, none] h 3 (rngW 0 w) (by rw [rng_len]; omega)
  have e5 : List.replicate (rngW 0 w).length (W.int 0) = nums (List.replicate w 0) := by rw [rng_len]; simp [nums]
  rw [e5] at e4
  have e6 := rng1_ok w (by omega)
  have e3 : tx_z [some (.int (c : Int)), some (.int (w : Int)), none, none, none] h = .nx (tx_s c w (.lst (nums (List.replicate w 0)))) h := by
    unfold tx_z
    walk_at "xe"
  rw [y_texts_of_eq, yb_eq, s, y_plain e1, y_plain e2, y_plain e3]
  unfold ySeq
  rw [tx_tree c w (by omega) us _ _ h hch hF hu]
  exact ylist_bind _ (fun h => SR.nx (tx_s c w .non) h) (SR.thenG yNil) (fun h => rfl) _ h
end N

set_option maxHeartbeats 4000000
namespace N
open PySem L2
/-- what is proved of a function: a row for each -/
local macro_rules
  | `(tactic| walk_at "xu") => `(tactic| fail)
/-- side facts -/
local macro_rules
  | `(tactic| walk_at "xs") => `(tactic| first | with_reducible assumption | omega | (simp only [List.length_cons, List.length_nil]; decide) | decide)
/-- facts of Bools -/
local macro_rules
  | `(tactic| walk_at "xk") => `(tactic| first | with_reducible exact rfl | with_reducible assumption | (exact decide_eq_true (by omega)) | (exact decide_eq_false (by omega)) | (simp; omega) | (simp; done))
local macro_rules
  | `(tactic| walk_at "xset") => `(tactic| (simp only [List.set_cons_succ, List.set_cons_zero]; first | done | rfl))
local macro_rules
  | `(tactic| walk_at "xo") => `(tactic| first
    | walk_at "xo1"
    | ((with_reducible apply o_mod) <;> walk_at "xs") | ((with_reducible apply o_div) <;> walk_at "xs") | ((with_reducible apply o_mul) <;> walk_at "xs") | ((with_reducible apply o_lenS) <;> walk_at "xs")
    | ((with_reducible apply o_rng1) <;> walk_at "xs") | ((with_reducible apply o_rng2) <;> walk_at "xs") | ((with_reducible refine o_ixR (by assumption) ?_); exact rfl)
    | ((with_reducible first
        | refine Eq.trans o_eqI (x_bl ?_) | refine Eq.trans o_neI (x_bl ?_) | refine Eq.trans o_lt (x_bl ?_) | refine Eq.trans o_ltT (x_bl ?_) | refine Eq.trans o_le (x_bl ?_) | refine Eq.trans o_gt (x_bl ?_) | refine Eq.trans o_ge (x_bl ?_) | refine Eq.trans o_eqB (x_bl ?_) | refine Eq.trans o_neB (x_bl ?_)
        | refine Eq.trans (o_eqS (by assumption) (by assumption)) (x_bl ?_) | refine Eq.trans (o_neS (by assumption) (by assumption)) (x_bl ?_)); walk_at "xk"))
local macro_rules
  | `(tactic| walk_at "xo1") => `(tactic| with_reducible first
    | exact o_add | exact o_sub | exact o_iadd | exact o_isub | exact o_lt | exact o_ltT | exact o_le | exact o_gt | exact o_ge | exact o_neg | exact o_eqI | exact o_neI | exact o_eqB | exact o_neB | exact o_reprB | exact o_addBB
    | exact o_intI | exact o_intB | exact o_abs | exact o_max | exact o_min | exact o_lenL | exact o_lenT | exact o_lenLo | exact o_lenTo
    | exact o_isiI | exact o_isiB | exact o_isiS | refine o_eqS (by assumption) (by assumption) | refine o_neS (by assumption) (by assumption)
    | refine o_lenR (by assumption))
local macro_rules
  | `(tactic| walk_at "x1") => `(tactic| first
    | with_reducible exact x_ok
    | with_reducible refine x_asm (by assumption)
    | with_reducible walk_at "xu"
    | with_reducible exact x_c | with_reducible exact x_nil | with_reducible exact x_noP | with_reducible exact x_next | with_reducible exact x_brk | with_reducible exact x_cnt | with_reducible exact x_retN
    | with_reducible exact x_krt | with_reducible exact x_kbk | with_reducible exact x_kct | with_reducible exact x_dnx | with_reducible exact x_drt
    | ((with_reducible apply x_var); exact rfl)
    | with_reducible apply x_op | with_reducible apply x_un | with_reducible apply x_cb | with_reducible apply x_call
    | with_reducible apply x_bm | with_reducible apply x_pm
    | with_reducible apply x_cons | with_reducible apply x_star | with_reducible apply x_b | with_reducible apply x_tru | with_reducible apply x_notT | with_reducible apply x_not
    | with_reducible apply x_andT | with_reducible apply x_orT | with_reducible apply x_and | with_reducible apply x_or | with_reducible apply x_ifE | with_reducible apply x_chain | with_reducible apply x_chain2
    | with_reducible apply x_tup | with_reducible apply x_lst | with_reducible apply x_lstN | with_reducible apply x_sl | with_reducible apply x_part
    | with_reducible apply x_it | with_reducible apply x_rng | with_reducible apply x_zip | with_reducible apply x_lc | with_reducible apply x_lcN
    | with_reducible apply x_seq | with_reducible apply x_knx | with_reducible apply x_drop | with_reducible apply x_ret | with_reducible apply x_ifS | with_reducible apply x_set | with_reducible apply x_par | with_reducible apply x_asg
    | with_reducible apply x_store | with_reducible apply x_aug | with_reducible apply x_for | with_reducible apply x_def
    | ((with_reducible apply x_t); focus (walk_at "xk"; done)) | ((with_reducible apply x_f); focus (walk_at "xk"; done))
    | with_reducible apply x_andV | with_reducible apply x_orV | with_reducible apply x_andS | with_reducible apply x_orS
    | with_reducible apply x_listG | with_reducible apply x_tupG
    | walk_at "xo"
    | ((with_reducible show List.set _ _ _ = _); walk_at "xset")
    | ((first
        | with_reducible show gN _ _ _ = _
        | with_reducible show gT _ _ _ = _); simp only [gT, gNs, gN, List.set_cons_succ, List.set_cons_zero]; first | done | exact rfl)
    | ((with_reducible show mNext _ _ = _); exact rfl)
    | ((with_reducible show wipeN _ _ = _); simp only [wipeN, List.set_cons_succ, List.set_cons_zero]; first | done | exact rfl)
    | ((with_reducible show List.map some _ ++ _ = _); simp only [List.map_cons, List.map_nil, List.length_cons, List.length_nil, List.cons_append, List.nil_append, List.replicate, Nat.reduceAdd, Nat.reduceSub]; exact rfl)
    | ((with_reducible show (_ : Nat) ≤ sizeLine); first | assumption | (simp only [List.length_cons, List.length_nil]; decide))
    | ((first
        | with_reducible show isT _ _ _ = _
        | with_reducible show itW _ _ = _
        | with_reducible show seqU _ _ = _
        | with_reducible show tru _ _ = _
        | with_reducible show zipW _ = _
        | with_reducible show setW _ _ _ _ = _
        | with_reducible show nIs _ _ _ = _
        | with_reducible show nIsN _ _ _ = _
        | with_reducible show nIx _ (W.tup _) (W.int _) = _
        | with_reducible show nIx _ (W.lst _) (W.int _) = _
        | with_reducible show nSl _ _ _ _ = _
        | with_reducible show _[_]? = _); exact rfl))
local macro_rules
  | `(tactic| walk_at "xe") => `(tactic| repeat walk_at "x1")
/-! ### texts of any signs -/
def sx (cs : List Nat) : Str := ⟨cs.toArray⟩
def so (x : Nat) : W := .str ⟨#[x]⟩
theorem tx_sx (ds : List Nat) : tx ds = sx (ds.map (48 + ·)) := rfl
theorem signs_sx (cs : List Nat) : signsW (sx cs) = cs.map so := by unfold signsW sx so; simp
theorem sx_len (cs : List Nat) : (sx cs).length = cs.length := by unfold sx Str.length; simp
def lets (c : Nat) : List Nat := (List.range c).map (48 + ·)
def isL (c x : Nat) : Bool := decide (x ∈ lets c)
def allL (c : Nat) (cs : List Nat) : Bool := cs.all (isL c)
theorem bls_map (f : Nat → Bool) : ∀ cs : List Nat, blsW (cs.map fun x => W.bl (f x)) = some (cs.map f)
  | [] => rfl
  | c :: cs => by
    have := bls_map f cs
    simp only [List.map_cons, blsW, this]; rfl
theorem cut_lets (c : Nat) (hc : c = 2 ∨ c = 4) (h : List O) : nSl h w_LETTERS none (some (c : Int)) = some (.str (sx (lets c))) := by
  rcases hc with rfl | rfl <;> kernel_rfl
theorem in_lets (x c : Nat) (h : List O) : nIn h (so x) (.str (sx (lets c))) = some (.bl (isL c x)) := by
  show (inW h (so x) (.str (sx (lets c)))).map W.bl = _
  have e : inW h (so x) (.str (sx (lets c))) = some (decide (x ∈ lets c)) := by
    simp [inW, so, sx]
  rw [e]; rfl
noncomputable def it_el : ME := mOp nIn (mVar 2) (mSl (mC w_LETTERS) mNoP (mPart (mVar 0)))
noncomputable def it_r : ME := mCB (pureF nAll) (mCons (mLc (mIt (mVar 1)) (gN 2) mYes it_el [2]) mNil)
noncomputable def it_t : MT := mOrT (mNotT (mTru (mCB (pureF nIsi) (mCons (mVar 1) (mCons (mC (.ty "str")) mNil))))) (mB (mOp nGt (mCB (pureF nLen) (mCons (mVar 1) mNil)) (mC w_MAX_WIDTH)))
theorem b_it_eq : b_is_text_of = mSeq (mIfS it_t (mRet (mC (.bl false))) mNext) (mRet it_r) := rfl
theorem tru_bl (b : Bool) (h : List O) : tru h (.bl b) = some b := rfl
def unS (x : W) : Nat := match x with | .str z => z.cps.getD 0 0 | _ => 0
theorem unS_so (d : Nat) : unS (so d) = d := by simp [unS, so]
theorem it_el_ok (c : Nat) (hc : c = 2 ∨ c = 4) (y : Option W) (d : Nat) (h : List O) : it_el ([some (.int (c : Int)), y, some (so d)]) h = .ok (.bl (isL c d)) h := by
  have e1 := cut_lets c hc h
  have e2 := in_lets d c h
  unfold it_el
  walk_at "xe"
theorem it_r_ok (c : Nat) (hc : c = 2 ∨ c = 4) (cs : List Nat) (h : List O) (hl : cs.length ≤ 10000) : it_r [some (.int (c : Int)), some (.str (sx cs)), none] h = .ok (.bl (allL c cs)) h := by
  have lc := lc_map (σ := [some (.int (c : Int)), some (.str (sx cs)), none]) (i := 2) (f := fun x => W.bl (isL c (unS x))) (el := it_el) (h := h) (cs.map so) [] (fun x hx => by
    obtain ⟨d, hm, rfl⟩ := List.mem_map.mp hx
    rw [unS_so]
    exact it_el_ok c hc _ d h) (by simpa using sz hl)
  rw [List.nil_append, List.map_map] at lc
  have e : cs.map ((fun x => W.bl (isL c (unS x))) ∘ so) = cs.map fun x => W.bl (isL c x) := List.map_congr_left fun d _ => by simp [unS_so]
  rw [e] at lc
  have s := signs_sx cs
  have it : itW h (.str (sx cs)) = some (cs.map so, fun _ => true) := by rw [← s]; rfl
  have al : nAll h [.lst (cs.map fun x => W.bl (isL c x))] = some (.bl (allL c cs)) := by
    show ((blsW (cs.map fun x => W.bl (isL c x))).map fun bs => W.bl (bs.all id)) = _
    rw [bls_map]
    simp [allL, List.all_map, Function.comp_def]
  unfold it_r
  walk_at "xe"
theorem it_of (c : Nat) (hc : c = 2 ∨ c = 4) (cs : List Nat) (h : List O) (hl : cs.length ≤ 10000) : m_is_text_of [.int (c : Int), .str (sx cs)] h = .ok (.bl (decide (cs.length ≤ 200) && allL c cs)) h := by
  have ln : nLen h [.str (sx cs)] = some (.int (cs.length : Int)) := by rw [o_lenS (by rw [sx_len]; exact sz hl), sx_len]
  have t1 := tru_bl true h
  have is := o_isiS (h := h) (i := sx cs)
  rw [m_is_text_of_eq, b_it_eq]
  by_cases h2 : cs.length ≤ 200
  · have r := it_r_ok c hc cs h hl
    have e0 : (decide (cs.length ≤ 200) && allL c cs) = allL c cs := by simp [h2]
    rw [e0]
    unfold it_t w_MAX_WIDTH
    walk_at "xe"
  · have e0 : (decide (cs.length ≤ 200) && allL c cs) = false := by simp [h2]
    rw [e0]
    unfold it_t w_MAX_WIDTH
    walk_at "xe"
theorem it_s (c : Nat) (hc : c = 2 ∨ c = 4) (cs : List Nat) (h : List O) (hl : cs.length ≤ 10000) : m_is_text [.str (sx cs), .int (c : Int)] h = .ok (.bl (decide (cs.length ≤ 200) && allL c cs)) h := by
  have e := it_of c hc cs h hl
  have e2 := require_letters_ok c (by omega) h
  rw [m_is_text_eq]; unfold b_is_text
  walk_at "xe"
/-- no text at all -/
theorem it_no (c : Nat) (hc : c = 2 ∨ c = 4) (w : W) (h : List O) (e : nIsi h [w, .ty "str"] = some (.bl false)) : m_is_text [w, .int (c : Int)] h = .ok (.bl false) h := by
  have t1 := tru_bl false h
  have e1 : m_is_text_of [.int (c : Int), w] h = .ok (.bl false) h := by
    rw [m_is_text_of_eq, b_it_eq]
    unfold it_t
    walk_at "xe"
  have e2 := require_letters_ok c (by omega) h
  rw [m_is_text_eq]; unfold b_is_text
  walk_at "xe"
theorem allL_tx (c : Nat) (ds : List Nat) : allL c (ds.map (48 + ·)) = ds.all fun d => decide (d < c) := by
  unfold allL
  rw [List.all_map]
  congr 1
  funext d
  simp [isL, lets]
end N

set_option maxHeartbeats 4000000
namespace N
open PySem L2
/-- what is proved of a function: a row for each -/
local macro_rules
  | `(tactic| walk_at "xu") => `(tactic| fail)
/-- side facts -/
local macro_rules
  | `(tactic| walk_at "xs") => `(tactic| first | with_reducible assumption | omega | (simp only [List.length_cons, List.length_nil]; decide) | decide)
/-- facts of Bools -/
local macro_rules
  | `(tactic| walk_at "xk") => `(tactic| first | with_reducible exact rfl | with_reducible assumption | (exact decide_eq_true (by omega)) | (exact decide_eq_false (by omega)) | (simp; omega) | (simp; done))
local macro_rules
  | `(tactic| walk_at "xset") => `(tactic| (simp only [List.set_cons_succ, List.set_cons_zero]; first | done | rfl))
local macro_rules
  | `(tactic| walk_at "xo") => `(tactic| first
    | walk_at "xo1"
    | ((with_reducible apply o_mod) <;> walk_at "xs") | ((with_reducible apply o_div) <;> walk_at "xs") | ((with_reducible apply o_mul) <;> walk_at "xs") | ((with_reducible apply o_lenS) <;> walk_at "xs")
    | ((with_reducible apply o_rng1) <;> walk_at "xs") | ((with_reducible apply o_rng2) <;> walk_at "xs") | ((with_reducible refine o_ixR (by assumption) ?_); exact rfl)
    | ((with_reducible first
        | refine Eq.trans o_eqI (x_bl ?_) | refine Eq.trans o_neI (x_bl ?_) | refine Eq.trans o_lt (x_bl ?_) | refine Eq.trans o_ltT (x_bl ?_) | refine Eq.trans o_le (x_bl ?_) | refine Eq.trans o_gt (x_bl ?_) | refine Eq.trans o_ge (x_bl ?_) | refine Eq.trans o_eqB (x_bl ?_) | refine Eq.trans o_neB (x_bl ?_)
        | refine Eq.trans (o_eqS (by assumption) (by assumption)) (x_bl ?_) | refine Eq.trans (o_neS (by assumption) (by assumption)) (x_bl ?_)); walk_at "xk"))
local macro_rules
  | `(tactic| walk_at "xo1") => `(tactic| with_reducible first
    | exact o_add | exact o_sub | exact o_iadd | exact o_isub | exact o_lt | exact o_ltT | exact o_le | exact o_gt | exact o_ge | exact o_neg | exact o_eqI | exact o_neI | exact o_eqB | exact o_neB | exact o_reprB | exact o_addBB
    | exact o_intI | exact o_intB | exact o_abs | exact o_max | exact o_min | exact o_lenL | exact o_lenT | exact o_lenLo | exact o_lenTo
    | exact o_isiI | exact o_isiB | exact o_isiS | refine o_eqS (by assumption) (by assumption) | refine o_neS (by assumption) (by assumption)
    | refine o_lenR (by assumption))
local macro_rules
  | `(tactic| walk_at "x1") => `(tactic| first
    | with_reducible exact x_ok
    | with_reducible refine x_asm (by assumption)
    | with_reducible walk_at "xu"
    | with_reducible exact x_c | with_reducible exact x_nil | with_reducible exact x_noP | with_reducible exact x_next | with_reducible exact x_brk | with_reducible exact x_cnt | with_reducible exact x_retN
    | with_reducible exact x_krt | with_reducible exact x_kbk | with_reducible exact x_kct | with_reducible exact x_dnx | with_reducible exact x_drt
    | ((with_reducible apply x_var); exact rfl)
    | with_reducible apply x_op | with_reducible apply x_un | with_reducible apply x_cb | with_reducible apply x_call
    | with_reducible apply x_bm | with_reducible apply x_pm
    | with_reducible apply x_cons | with_reducible apply x_star | with_reducible apply x_b | with_reducible apply x_tru | with_reducible apply x_notT | with_reducible apply x_not
    | with_reducible apply x_andT | with_reducible apply x_orT | with_reducible apply x_and | with_reducible apply x_or | with_reducible apply x_ifE | with_reducible apply x_chain | with_reducible apply x_chain2
    | with_reducible apply x_tup | with_reducible apply x_lst | with_reducible apply x_lstN | with_reducible apply x_sl | with_reducible apply x_part
    | with_reducible apply x_it | with_reducible apply x_rng | with_reducible apply x_zip | with_reducible apply x_lc | with_reducible apply x_lcN
    | with_reducible apply x_seq | with_reducible apply x_knx | with_reducible apply x_drop | with_reducible apply x_ret | with_reducible apply x_ifS | with_reducible apply x_set | with_reducible apply x_par | with_reducible apply x_asg
    | with_reducible apply x_store | with_reducible apply x_aug | with_reducible apply x_for | with_reducible apply x_def
    | ((with_reducible apply x_t); focus (walk_at "xk"; done)) | ((with_reducible apply x_f); focus (walk_at "xk"; done))
    | with_reducible apply x_andV | with_reducible apply x_orV | with_reducible apply x_andS | with_reducible apply x_orS
    | with_reducible apply x_listG | with_reducible apply x_tupG
    | walk_at "xo"
    | ((with_reducible show List.set _ _ _ = _); walk_at "xset")
    | ((first
        | with_reducible show gN _ _ _ = _
        | with_reducible show gT _ _ _ = _); simp only [gT, gNs, gN, List.set_cons_succ, List.set_cons_zero]; first | done | exact rfl)
    | ((with_reducible show mNext _ _ = _); exact rfl)
    | ((with_reducible show wipeN _ _ = _); simp only [wipeN, List.set_cons_succ, List.set_cons_zero]; first | done | exact rfl)
    | ((with_reducible show List.map some _ ++ _ = _); simp only [List.map_cons, List.map_nil, List.length_cons, List.length_nil, List.cons_append, List.nil_append, List.replicate, Nat.reduceAdd, Nat.reduceSub]; exact rfl)
    | ((with_reducible show (_ : Nat) ≤ sizeLine); first | assumption | (simp only [List.length_cons, List.length_nil]; decide))
    | ((first
        | with_reducible show isT _ _ _ = _
        | with_reducible show itW _ _ = _
        | with_reducible show seqU _ _ = _
        | with_reducible show tru _ _ = _
        | with_reducible show zipW _ = _
        | with_reducible show setW _ _ _ _ = _
        | with_reducible show nIs _ _ _ = _
        | with_reducible show nIsN _ _ _ = _
        | with_reducible show nIx _ (W.tup _) (W.int _) = _
        | with_reducible show nIx _ (W.lst _) (W.int _) = _
        | with_reducible show nSl _ _ _ _ = _
        | with_reducible show _[_]? = _); exact rfl))
local macro_rules
  | `(tactic| walk_at "xe") => `(tactic| repeat walk_at "x1")
/-! ### a text and one near it -/
theorem lc_filter {el : ME} {t : MT} {i : Nat} {σ : Slo} {h : List O} {p : W → Bool} {f : W → W} : ∀ (ws acc : List W), (∀ x ∈ ws, t (σ.set i (some x)) h = .ok (p x) h) → (∀ x ∈ ws, el (σ.set i (some x)) h = .ok (f x) h) → acc.length + ws.length ≤ sizeLine → mLcL (fun _ => true) (gN i) t el σ ws acc h = .ok (acc ++ (ws.filter p).map f) h
  | [], acc, _, _, _ => by simp [mLcL]
  | x :: ws, acc, ht, he, hl => by
    simp only [mLcL, if_true, gN]
    rw [ht x List.mem_cons_self, nb_ok]
    simp only [List.length_cons] at hl
    have ih := fun acc hl => lc_filter (el := el) (t := t) (i := i) (σ := σ) (h := h) (p := p) (f := f) ws acc (fun y hy => ht y (List.mem_cons_of_mem _ hy)) (fun y hy => he y (List.mem_cons_of_mem _ hy)) hl
    cases hp : p x with
    | true =>
      rw [if_pos rfl, he x List.mem_cons_self, nb_ok, if_pos (by omega), ih _ (by simp; omega)]
      simp [hp]
    | false =>
      rw [if_neg Bool.false_ne_true, ih _ (by omega)]
      simp [hp]
theorem lay_strs : ∀ L : List Str, (∀ s ∈ L, PyData.strOk s = true) → PyData.canLayAll0 (L.map PyData.str) = true ∧ PyData.depthAll (L.map PyData.str) ≤ 1
  | [], _ => by simp [PyData.canLayAll0, PyData.depthAll]
  | s :: L, h => by
    obtain ⟨a, b⟩ := lay_strs L fun x hx => h x (List.mem_cons_of_mem _ hx)
    have := h s List.mem_cons_self
    constructor
    · simp [PyData.canLayAll0, PyData.canLay0, a, this]
    · simp [PyData.depthAll, PyData.depth]; omega
theorem shaped_strs (L : List Str) (h : ∀ s ∈ L, PyData.strOk s = true) : SeqAt.shaped (.list (L.map PyData.str)) = true := by
  obtain ⟨a, b⟩ := lay_strs L h
  simp [SeqAt.shaped, PyData.canLay0, PyData.depth, a]; omega
theorem datWs_strs : ∀ L : List Str, datWs (L.map W.str) = some (L.map PyData.str)
  | [] => rfl
  | s :: L => by simp [datWs, datW, datWs_strs L]
theorem eq_nil (L : List Str) (hL : ∀ s ∈ L, PyData.strOk s = true) (h : List O) : nEq h (.lst (L.map W.str)) (.lst []) = some (.bl L.isEmpty) := by
  show (eqW (.lst (L.map W.str)) (.lst [])).map W.bl = _
  unfold eqW
  simp only [datW, datWs_strs, Option.map_some, datWs]
  have s1 := shaped_strs L hL
  have s2 := shaped_strs [] (by simp)
  rw [if_pos ⟨s1, s2⟩]
  cases L with
  | nil => rfl
  | cons s L => rfl
theorem ok_sx (L : List Nat) (h : ∀ x ∈ L, x < 1114112) : PyData.strOk (sx L) = true := by
  show (sx L).cps.all _ = true
  unfold sx
  rw [List.all_toArray, List.all_eq_true]
  intro d hm
  have := h d hm
  simp; omega
theorem cut_take (L : List Nat) (k : Nat) (hk : k ≤ L.length) (hl : L.length ≤ 10000) (h : List O) : nSl h (.str (sx L)) none (some (k : Int)) = some (.str (sx (L.take k))) := by
  have z : (sx L).length ≤ sizeLine := by rw [sx_len]; exact sz hl
  show (if (sx L).length ≤ sizeLine then some (W.str (cutS (sx L) none (some (k : Int)))) else none) = _
  rw [if_pos z]
  have e : cutS (sx L) none (some (k : Int)) = sx (L.take k) := by
    unfold cutS
    rw [HT.sIx_none, HT.sIx_nat, sx_len, Nat.min_eq_left hk]
    simp [sx]
  rw [e]
theorem cut_drop (L : List Nat) (k : Nat) (hk : k ≤ L.length) (hl : L.length ≤ 10000) (h : List O) : nSl h (.str (sx L)) (some (k : Int)) none = some (.str (sx (L.drop k))) := by
  have z : (sx L).length ≤ sizeLine := by rw [sx_len]; exact sz hl
  show (if (sx L).length ≤ sizeLine then some (W.str (cutS (sx L) (some (k : Int)) none)) else none) = _
  rw [if_pos z]
  have e : cutS (sx L) (some (k : Int)) none = sx (L.drop k) := by
    unfold cutS
    rw [HT.sIx_none, HT.sIx_nat, sx_len, Nat.min_eq_left hk]
    simp only [sx, List.toList_toArray]
    rw [List.take_of_length_le (by simp)]
  rw [e]
theorem cat_sx (a b : List Nat) (ha : a.length ≤ 10000) (hb : b.length ≤ 10000) (h : List O) : nAdd h (.str (sx a)) (.str (sx b)) = some (.str (sx (a ++ b))) := by
  show guardO (decide ((sx a).length + (sx b).length ≤ sizeLine)) (.str (sx a ++ sx b)) = _
  have : a.length + b.length ≤ sizeLine := sz (m := 20000) (by omega)
  unfold guardO
  rw [if_pos (by rw [sx_len, sx_len]; exact decide_eq_true this)]
  have e : sx a ++ sx b = sx (a ++ b) := by
    show (⟨a.toArray ++ b.toArray⟩ : Str) = ⟨(a ++ b).toArray⟩
    simp
  rw [e]
end N

set_option maxHeartbeats 4000000
namespace N
open PySem L2
/-- what is proved of a function: a row for each -/
local macro_rules
  | `(tactic| walk_at "xu") => `(tactic| fail)
/-- side facts -/
local macro_rules
  | `(tactic| walk_at "xs") => `(tactic| first | with_reducible assumption | omega | (simp only [List.length_cons, List.length_nil]; decide) | decide)
/-- facts of Bools -/
local macro_rules
  | `(tactic| walk_at "xk") => `(tactic| first | with_reducible exact rfl | with_reducible assumption | (exact decide_eq_true (by omega)) | (exact decide_eq_false (by omega)) | (simp; omega) | (simp; done))
local macro_rules
  | `(tactic| walk_at "xset") => `(tactic| (simp only [List.set_cons_succ, List.set_cons_zero]; first | done | rfl))
local macro_rules
  | `(tactic| walk_at "xo") => `(tactic| first
    | walk_at "xo1"
    | ((with_reducible apply o_mod) <;> walk_at "xs") | ((with_reducible apply o_div) <;> walk_at "xs") | ((with_reducible apply o_mul) <;> walk_at "xs") | ((with_reducible apply o_lenS) <;> walk_at "xs")
    | ((with_reducible apply o_rng1) <;> walk_at "xs") | ((with_reducible apply o_rng2) <;> walk_at "xs") | ((with_reducible refine o_ixR (by assumption) ?_); exact rfl)
    | ((with_reducible first
        | refine Eq.trans o_eqI (x_bl ?_) | refine Eq.trans o_neI (x_bl ?_) | refine Eq.trans o_lt (x_bl ?_) | refine Eq.trans o_ltT (x_bl ?_) | refine Eq.trans o_le (x_bl ?_) | refine Eq.trans o_gt (x_bl ?_) | refine Eq.trans o_ge (x_bl ?_) | refine Eq.trans o_eqB (x_bl ?_) | refine Eq.trans o_neB (x_bl ?_)
        | refine Eq.trans (o_eqS (by assumption) (by assumption)) (x_bl ?_) | refine Eq.trans (o_neS (by assumption) (by assumption)) (x_bl ?_)); walk_at "xk"))
local macro_rules
  | `(tactic| walk_at "xo1") => `(tactic| with_reducible first
    | exact o_add | exact o_sub | exact o_iadd | exact o_isub | exact o_lt | exact o_ltT | exact o_le | exact o_gt | exact o_ge | exact o_neg | exact o_eqI | exact o_neI | exact o_eqB | exact o_neB | exact o_reprB | exact o_addBB
    | exact o_intI | exact o_intB | exact o_abs | exact o_max | exact o_min | exact o_lenL | exact o_lenT | exact o_lenLo | exact o_lenTo
    | exact o_isiI | exact o_isiB | exact o_isiS | refine o_eqS (by assumption) (by assumption) | refine o_neS (by assumption) (by assumption)
    | refine o_lenR (by assumption))
local macro_rules
  | `(tactic| walk_at "x1") => `(tactic| first
    | with_reducible exact x_ok
    | with_reducible refine x_asm (by assumption)
    | with_reducible walk_at "xu"
    | with_reducible exact x_c | with_reducible exact x_nil | with_reducible exact x_noP | with_reducible exact x_next | with_reducible exact x_brk | with_reducible exact x_cnt | with_reducible exact x_retN
    | with_reducible exact x_krt | with_reducible exact x_kbk | with_reducible exact x_kct | with_reducible exact x_dnx | with_reducible exact x_drt
    | ((with_reducible apply x_var); exact rfl)
    | with_reducible apply x_op | with_reducible apply x_un | with_reducible apply x_cb | with_reducible apply x_call
    | with_reducible apply x_bm | with_reducible apply x_pm
    | with_reducible apply x_cons | with_reducible apply x_star | with_reducible apply x_b | with_reducible apply x_tru | with_reducible apply x_notT | with_reducible apply x_not
    | with_reducible apply x_andT | with_reducible apply x_orT | with_reducible apply x_and | with_reducible apply x_or | with_reducible apply x_ifE | with_reducible apply x_chain | with_reducible apply x_chain2
    | with_reducible apply x_tup | with_reducible apply x_lst | with_reducible apply x_lstN | with_reducible apply x_sl | with_reducible apply x_part
    | with_reducible apply x_it | with_reducible apply x_rng | with_reducible apply x_zip | with_reducible apply x_lc | with_reducible apply x_lcN
    | with_reducible apply x_seq | with_reducible apply x_knx | with_reducible apply x_drop | with_reducible apply x_ret | with_reducible apply x_ifS | with_reducible apply x_set | with_reducible apply x_par | with_reducible apply x_asg
    | with_reducible apply x_store | with_reducible apply x_aug | with_reducible apply x_for | with_reducible apply x_def
    | ((with_reducible apply x_t); focus (walk_at "xk"; done)) | ((with_reducible apply x_f); focus (walk_at "xk"; done))
    | with_reducible apply x_andV | with_reducible apply x_orV | with_reducible apply x_andS | with_reducible apply x_orS
    | with_reducible apply x_listG | with_reducible apply x_tupG
    | walk_at "xo"
    | ((with_reducible show List.set _ _ _ = _); walk_at "xset")
    | ((first
        | with_reducible show gN _ _ _ = _
        | with_reducible show gT _ _ _ = _); simp only [gT, gNs, gN, List.set_cons_succ, List.set_cons_zero]; first | done | exact rfl)
    | ((with_reducible show mNext _ _ = _); exact rfl)
    | ((with_reducible show wipeN _ _ = _); simp only [wipeN, List.set_cons_succ, List.set_cons_zero]; first | done | exact rfl)
    | ((with_reducible show List.map some _ ++ _ = _); simp only [List.map_cons, List.map_nil, List.length_cons, List.length_nil, List.cons_append, List.nil_append, List.replicate, Nat.reduceAdd, Nat.reduceSub]; exact rfl)
    | ((with_reducible show (_ : Nat) ≤ sizeLine); first | assumption | (simp only [List.length_cons, List.length_nil]; decide))
    | ((first
        | with_reducible show isT _ _ _ = _
        | with_reducible show itW _ _ = _
        | with_reducible show seqU _ _ = _
        | with_reducible show tru _ _ = _
        | with_reducible show zipW _ = _
        | with_reducible show setW _ _ _ _ = _
        | with_reducible show nIs _ _ _ = _
        | with_reducible show nIsN _ _ _ = _
        | with_reducible show nIx _ (W.tup _) (W.int _) = _
        | with_reducible show nIx _ (W.lst _) (W.int _) = _
        | with_reducible show nSl _ _ _ _ = _
        | with_reducible show _[_]? = _); exact rfl))
local macro_rules
  | `(tactic| walk_at "xe") => `(tactic| repeat walk_at "x1")
def sgns : List (List Nat) := (([48, 49, 50, 51, 52, 53, 54, 55, 56, 57, 32, 45, 97, 47, 58, 10] : List Nat).map fun x => [x]) ++ [[48, 48], [49, 49], [49, 48], [50, 51], []]
noncomputable def ne_s : ME := mOp nAdd (mCB (pureF nList) (mCons (mC (.str "0123456789 -a/:\n")) mNil)) (mLst (mCons (mC (.str "00")) (mCons (mC (.str "11")) (mCons (mC (.str "10")) (mCons (mC (.str "23")) (mCons (mC (.str "")) mNil))))))
noncomputable def ne_f : ME := mLc (mIt (mVar 5)) (gN 7) (mB (mOp nNotIn (mVar 7) (mSl (mC (.str "0123")) mNoP (mPart (mVar 1))))) (mVar 7) [7]
noncomputable def ne_w : ME := mLst (mCons (mC (.int 0)) (mCons (mC (.int 1)) (mCons (mC (.int 2)) (mCons (mC (.int 3)) (mCons (mC (.int 5)) (mCons (mC (.int 8)) (mCons (mC (.int 60)) (mCons (mC (.int 198)) (mCons (mC (.int 199)) (mCons (mC (.int 200)) mNil))))))))))
noncomputable def ne_r : ME := mTup (mCons (mVar 3) (mCons (mOp nAdd (mOp nAdd (mSl (mVar 3) mNoP (mPart (mVar 4))) (mVar 5)) (mSl (mVar 3) (mPart (mVar 4)) mNoP)) (mCons (mAnd (mVar 6) (mOp nLe (mOp nAdd (mVar 2) (mCB (pureF nLen) (mCons (mVar 5) mNil))) (mC (.int 200)))) mNil)))
theorem b_ne_eq : b_law_near_text = mSeq (mSet 2 (mCall m_law_one_of (mCons (mVar 0) (mCons ne_w mNil))))
    (mSeq (mPar 3 4 (mCons (mCall m_law_text (mCons (mVar 0) (mCons (mVar 1) (mCons (mVar 2) mNil)))) (mCons (mCall m_law_draw (mCons (mVar 0) (mCons (mOp nAdd (mVar 2) (mC (.int 1))) mNil))) mNil)))
    (mSeq (mSet 5 (mCall m_law_one_of (mCons (mVar 0) (mCons ne_s mNil))))
    (mSeq (mSet 6 (mOp nEq ne_f (mLst mNil))) (mRet ne_r)))) := rfl
theorem ne_s_ok (σ : Slo) (h : List O) : ne_s σ h = .ok (.lst (sgns.map fun cs => W.str (sx cs))) h := by kernel_rfl
theorem sgns_ok : ∀ cs ∈ sgns, cs.length ≤ 2 ∧ ∀ x ∈ cs, x < 1114112 := by decide
theorem cut_0123 (c : Nat) (hc : c = 2 ∨ c = 4) (h : List O) : nSl h (.str "0123") none (some (c : Int)) = some (.str (sx (lets c))) := by
  rcases hc with rfl | rfl <;> kernel_rfl
theorem notin_sx (x : Nat) (L : List Nat) (h : List O) : nNotIn h (so x) (.str (sx L)) = some (.bl (!decide (x ∈ L))) := by
  show (inW h (so x) (.str (sx L))).map (fun b => W.bl (!b)) = _
  have e : inW h (so x) (.str (sx L)) = some (decide (x ∈ L)) := by simp [inW, so, sx]
  rw [e]; rfl
abbrev ne_st (b c w : Nat) (te : List Nat) (at' : Nat) (cs : List Nat) (r : Option W) (o : Option W) : Slo := [some (.ref b), some (.int (c : Int)), some (.int (w : Int)), some (.str (sx te)), some (.int (at' : Int)), some (.str (sx cs)), r, o]
theorem ne_f_ok (b c w : Nat) (hc : c = 2 ∨ c = 4) (te : List Nat) (at' : Nat) (cs : List Nat) (hl : cs.length ≤ 1000) (h : List O) : ne_f (ne_st b c w te at' cs none none) h = .ok (.lst ((cs.filter fun x => !isL c x).map so)) h := by
  have lc := lc_filter (σ := ne_st b c w te at' cs none none) (i := 7) (p := fun x => !isL c (unS x)) (f := fun x => x) (el := mVar 7) (t := mB (mOp nNotIn (mVar 7) (mSl (mC (.str "0123")) mNoP (mPart (mVar 1))))) (h := h) (cs.map so) [] (fun x hx => by
    obtain ⟨d, hm, rfl⟩ := List.mem_map.mp hx
    rw [unS_so]
    have e1 := cut_0123 c hc h
    have e2 := notin_sx d (lets c) h
    simp only [List.set_cons_succ, List.set_cons_zero]
    unfold isL
    walk_at "xe") (fun x hx => rfl) (by rw [List.length_map, List.length_nil, Nat.zero_add]; exact sz (Nat.le_trans hl (by decide : 1000 ≤ 10000)))
  rw [List.nil_append, List.map_id'] at lc
  have e : (cs.map so).filter (fun x => !isL c (unS x)) = (cs.filter fun x => !isL c x).map so := by
    rw [List.filter_map]
    have z : ((fun x => !isL c (unS x)) ∘ so) = fun x => !isL c x := by funext x; simp [unS_so]
    rw [z]
  rw [e] at lc
  have it : itW h (.str (sx cs)) = some (cs.map so, fun _ => true) := by rw [← signs_sx cs]; rfl
  unfold ne_f
  walk_at "xe"
theorem filt_nil (c : Nat) (cs : List Nat) : (cs.filter fun x => !isL c x).isEmpty = allL c cs := by
  unfold allL
  induction cs with
  | nil => rfl
  | cons x cs ih =>
    cases hx : isL c x with
    | true => simp [List.filter_cons, hx]; simpa using ih
    | false => simp [List.filter_cons, hx]
theorem w_of : ∀ v ∈ ([.int 0, .int 1, .int 2, .int 3, .int 5, .int 8, .int 60, .int 198, .int 199, .int 200] : List W), ∃ w : Nat, w ≤ 200 ∧ v = .int (w : Int) := by
  intro v hv
  simp only [List.mem_cons, List.not_mem_nil, or_false] at hv
  rcases hv with rfl | rfl | rfl | rfl | rfl | rfl | rfl | rfl | rfl | rfl
  · exact ⟨0, by decide, rfl⟩
  · exact ⟨1, by decide, rfl⟩
  · exact ⟨2, by decide, rfl⟩
  · exact ⟨3, by decide, rfl⟩
  · exact ⟨5, by decide, rfl⟩
  · exact ⟨8, by decide, rfl⟩
  · exact ⟨60, by decide, rfl⟩
  · exact ⟨198, by decide, rfl⟩
  · exact ⟨199, by decide, rfl⟩
  · exact ⟨200, by decide, rfl⟩
theorem ne_r_ok (b c w : Nat) (te : List Nat) (at' : Nat) (cs : List Nat) (r : Bool) (h : List O) (ht : te.length = w) (hw : w ≤ 200) (ha : at' ≤ w) (hl : cs.length ≤ 2) (x : Option W) :
    ne_r (ne_st b c w te at' cs (some (.bl r)) x) h = .ok (.tup [.str (sx te), .str (sx (te.take at' ++ cs ++ te.drop at')), .bl (r && decide (((w : Int) + (cs.length : Int)) ≤ 200))]) h := by
  have e1 := cut_take te at' (by omega) (by omega) h
  have e2 := cut_drop te at' (by omega) (by omega) h
  have e3 := cat_sx (te.take at') cs (by simp; omega) (by omega) h
  have e4 := cat_sx (te.take at' ++ cs) (te.drop at') (by simp; omega) (by simp; omega) h
  have ln : nLen h [.str (sx cs)] = some (.int (cs.length : Int)) := by rw [o_lenS (by rw [sx_len]; exact sz (Nat.le_trans hl (by decide : 2 ≤ 10000))), sx_len]
  have t := tru_bl r h
  unfold ne_r
  walk_at "xe"
theorem all_app (c : Nat) (a b : List Nat) : allL c (a ++ b) = (allL c a && allL c b) := by simp [allL]
theorem near_ok (b n c : Nat) (h : List O) (hc : c = 2 ∨ c = 4) (hb : Bag b n h) (hn : n ≤ 900000000) : ∃ ds near r h', m_law_near_text [.ref b, .int (c : Int)] h = .ok (.tup [.str (tx ds), .str (sx near), .bl r]) h' ∧ (∀ d ∈ ds, d < c) ∧ ds.length ≤ 200 ∧ near.length ≤ 300 ∧ (decide (near.length ≤ 200) && allL c near) = r ∧ Bag b (n + 203) h' := by
  obtain ⟨v, o, hv, e1, b1⟩ := one_of_ok b n h [.int 0, .int 1, .int 2, .int 3, .int 5, .int 8, .int 60, .int 198, .int 199, .int 200] hb (by omega) (by simp) (by simp)
  obtain ⟨w, hw, rfl⟩ := w_of v hv
  generalize h.set b o = h1 at *
  obtain ⟨ds, h2, e2, l2, d2, b2⟩ := text_ok b (n + 1) h1 c w b1 (by omega) (by omega) (by omega) (by omega)
  obtain ⟨r, o2, e3, r0, r1, b3⟩ := draw b (n + 1 + w) h2 ((w : Int) + 1) b2 (by omega) (by omega) (by omega)
  obtain ⟨k, rfl⟩ := Int.eq_ofNat_of_zero_le r0
  generalize h2.set b o2 = h3 at *
  obtain ⟨v, o3, hv, e4, b4⟩ := one_of_ok b _ h3 (sgns.map fun cs => W.str (sx cs)) b3 (by omega) (by decide) (by decide)
  obtain ⟨cs, hcs, rfl⟩ := List.mem_map.mp hv
  obtain ⟨cl, cx⟩ := sgns_ok cs hcs
  generalize h3.set b o3 = h4 at *
  rw [tx_sx] at e2
  have lt : (ds.map (48 + ·)).length = w := by rw [List.length_map]; exact l2
  refine ⟨ds, (ds.map (48 + ·)).take k ++ cs ++ (ds.map (48 + ·)).drop k, (allL c cs && decide (((w : Int) + (cs.length : Int)) ≤ 200)), h4, ?_, d2, by omega, by simp; omega, ?_, b4.mono (by omega)⟩
  · have f := ne_f_ok b c w hc (ds.map (48 + ·)) k cs (by omega) h4
    have rr := ne_r_ok b c w (ds.map (48 + ·)) k cs (allL c cs) h4 lt hw (by omega) cl none
    have s := ne_s_ok [some (.ref b), some (.int (c : Int)), some (.int (w : Int)), some (.str (sx (ds.map (48 + ·)))), some (.int (k : Int)), none, none, none] h3
    have q := eq_nil ((cs.filter fun x => !isL c x).map fun x => ⟨#[x]⟩) (by
      intro s hs
      obtain ⟨x, hx, rfl⟩ := List.mem_map.mp hs
      exact ok_sx [x] (by intro y hy; rw [List.mem_singleton] at hy; rw [hy]; exact cx x ((List.mem_filter.mp hx).1))) h4
    rw [List.map_map, List.isEmpty_map, filt_nil] at q
    have q : nEq h4 (.lst ((cs.filter fun x => !isL c x).map so)) (.lst []) = some (.bl (allL c cs)) := q
    rw [m_law_near_text_eq, b_ne_eq, tx_sx]
    unfold ne_w
    walk_at "xe"
  · have a1 : allL c ((ds.map (48 + ·)).take k) = true := by
      unfold allL; rw [List.all_eq_true]; intro x hx
      obtain ⟨d, hd, rfl⟩ := List.mem_map.mp (List.mem_of_mem_take hx)
      have := d2 d hd
      simp [isL, lets, this]
    have a2 : allL c ((ds.map (48 + ·)).drop k) = true := by
      unfold allL; rw [List.all_eq_true]; intro x hx
      obtain ⟨d, hd, rfl⟩ := List.mem_map.mp (List.mem_of_mem_drop hx)
      have := d2 d hd
      simp [isL, lets, this]
    rw [all_app, all_app, a1, a2, Bool.true_and, Bool.and_true, Bool.and_comm]
    congr 1
    refine dec_eq ?_
    have : ((ds.map (48 + ·)).take k ++ cs ++ (ds.map (48 + ·)).drop k).length = w + cs.length := by
      rw [List.length_append, List.length_append, List.length_take, List.length_drop, lt]; omega
    rw [this]; omega
end N

set_option maxHeartbeats 4000000
namespace N
open PySem L2
/-- what is proved of a function: a row for each -/
local macro_rules
  | `(tactic| walk_at "xu") => `(tactic| fail)
/-- side facts -/
local macro_rules
  | `(tactic| walk_at "xs") => `(tactic| first | with_reducible assumption | omega | (simp only [List.length_cons, List.length_nil]; decide) | decide)
/-- facts of Bools -/
local macro_rules
  | `(tactic| walk_at "xk") => `(tactic| first | with_reducible exact rfl | with_reducible assumption | (exact decide_eq_true (by omega)) | (exact decide_eq_false (by omega)) | (simp; omega) | (simp; done))
local macro_rules
  | `(tactic| walk_at "xset") => `(tactic| (simp only [List.set_cons_succ, List.set_cons_zero]; first | done | rfl))
local macro_rules
  | `(tactic| walk_at "xo") => `(tactic| first
    | walk_at "xo1"
    | ((with_reducible apply o_mod) <;> walk_at "xs") | ((with_reducible apply o_div) <;> walk_at "xs") | ((with_reducible apply o_mul) <;> walk_at "xs") | ((with_reducible apply o_lenS) <;> walk_at "xs")
    | ((with_reducible apply o_rng1) <;> walk_at "xs") | ((with_reducible apply o_rng2) <;> walk_at "xs") | ((with_reducible refine o_ixR (by assumption) ?_); exact rfl)
    | ((with_reducible first
        | refine Eq.trans o_eqI (x_bl ?_) | refine Eq.trans o_neI (x_bl ?_) | refine Eq.trans o_lt (x_bl ?_) | refine Eq.trans o_ltT (x_bl ?_) | refine Eq.trans o_le (x_bl ?_) | refine Eq.trans o_gt (x_bl ?_) | refine Eq.trans o_ge (x_bl ?_) | refine Eq.trans o_eqB (x_bl ?_) | refine Eq.trans o_neB (x_bl ?_)
        | refine Eq.trans (o_eqS (by assumption) (by assumption)) (x_bl ?_) | refine Eq.trans (o_neS (by assumption) (by assumption)) (x_bl ?_)); walk_at "xk"))
local macro_rules
  | `(tactic| walk_at "xo1") => `(tactic| with_reducible first
    | exact o_add | exact o_sub | exact o_iadd | exact o_isub | exact o_lt | exact o_ltT | exact o_le | exact o_gt | exact o_ge | exact o_neg | exact o_eqI | exact o_neI | exact o_eqB | exact o_neB | exact o_reprB | exact o_addBB
    | exact o_intI | exact o_intB | exact o_abs | exact o_max | exact o_min | exact o_lenL | exact o_lenT | exact o_lenLo | exact o_lenTo
    | exact o_isiI | exact o_isiB | exact o_isiS | refine o_eqS (by assumption) (by assumption) | refine o_neS (by assumption) (by assumption)
    | refine o_lenR (by assumption))
local macro_rules
  | `(tactic| walk_at "x1") => `(tactic| first
    | with_reducible exact x_ok
    | with_reducible refine x_asm (by assumption)
    | with_reducible walk_at "xu"
    | with_reducible exact x_c | with_reducible exact x_nil | with_reducible exact x_noP | with_reducible exact x_next | with_reducible exact x_brk | with_reducible exact x_cnt | with_reducible exact x_retN
    | with_reducible exact x_krt | with_reducible exact x_kbk | with_reducible exact x_kct | with_reducible exact x_dnx | with_reducible exact x_drt
    | ((with_reducible apply x_var); exact rfl)
    | with_reducible apply x_op | with_reducible apply x_un | with_reducible apply x_cb | with_reducible apply x_call
    | with_reducible apply x_bm | with_reducible apply x_pm
    | with_reducible apply x_cons | with_reducible apply x_star | with_reducible apply x_b | with_reducible apply x_tru | with_reducible apply x_notT | with_reducible apply x_not
    | with_reducible apply x_andT | with_reducible apply x_orT | with_reducible apply x_and | with_reducible apply x_or | with_reducible apply x_ifE | with_reducible apply x_chain | with_reducible apply x_chain2
    | with_reducible apply x_tup | with_reducible apply x_lst | with_reducible apply x_lstN | with_reducible apply x_sl | with_reducible apply x_part
    | with_reducible apply x_it | with_reducible apply x_rng | with_reducible apply x_zip | with_reducible apply x_lc | with_reducible apply x_lcN
    | with_reducible apply x_seq | with_reducible apply x_knx | with_reducible apply x_drop | with_reducible apply x_ret | with_reducible apply x_ifS | with_reducible apply x_set | with_reducible apply x_par | with_reducible apply x_asg
    | with_reducible apply x_store | with_reducible apply x_aug | with_reducible apply x_for | with_reducible apply x_def
    | ((with_reducible apply x_t); focus (walk_at "xk"; done)) | ((with_reducible apply x_f); focus (walk_at "xk"; done))
    | with_reducible apply x_andV | with_reducible apply x_orV | with_reducible apply x_andS | with_reducible apply x_orS
    | with_reducible apply x_listG | with_reducible apply x_tupG
    | walk_at "xo"
    | ((with_reducible show List.set _ _ _ = _); walk_at "xset")
    | ((first
        | with_reducible show gN _ _ _ = _
        | with_reducible show gT _ _ _ = _); simp only [gT, gNs, gN, List.set_cons_succ, List.set_cons_zero]; first | done | exact rfl)
    | ((with_reducible show mNext _ _ = _); exact rfl)
    | ((with_reducible show wipeN _ _ = _); simp only [wipeN, List.set_cons_succ, List.set_cons_zero]; first | done | exact rfl)
    | ((with_reducible show List.map some _ ++ _ = _); simp only [List.map_cons, List.map_nil, List.length_cons, List.length_nil, List.cons_append, List.nil_append, List.replicate, Nat.reduceAdd, Nat.reduceSub]; exact rfl)
    | ((with_reducible show (_ : Nat) ≤ sizeLine); first | assumption | (simp only [List.length_cons, List.length_nil]; decide))
    | ((first
        | with_reducible show isT _ _ _ = _
        | with_reducible show itW _ _ = _
        | with_reducible show seqU _ _ = _
        | with_reducible show tru _ _ = _
        | with_reducible show zipW _ = _
        | with_reducible show setW _ _ _ _ = _
        | with_reducible show nIs _ _ _ = _
        | with_reducible show nIsN _ _ _ = _
        | with_reducible show nIx _ (W.tup _) (W.int _) = _
        | with_reducible show nIx _ (W.lst _) (W.int _) = _
        | with_reducible show nSl _ _ _ _ = _
        | with_reducible show _[_]? = _); exact rfl))
local macro_rules
  | `(tactic| walk_at "xe") => `(tactic| repeat walk_at "x1")
/-! ### what is a text and what is none -/
theorem for_okN {g : MG} {b : MS} {P : Nat → Slo → List O → Prop} : ∀ (ws : List W) (k : Nat) (σ : Slo) (h : List O), P k σ h → (∀ w j σ h, w ∈ ws → k ≤ j → j < k + ws.length → P j σ h → ∃ σ1, g w σ = some σ1 ∧ ∃ σ2 h2, b σ1 h = .nx σ2 h2 ∧ P (j + 1) σ2 h2) → ∃ σ' h', P (k + ws.length) σ' h' ∧ mForL (fun _ => true) g b ws σ h = .nx σ' h'
  | [], k, σ, h, hp, _ => ⟨σ, h, hp, rfl⟩
  | w :: ws, k, σ, h, hp, hb => by
    obtain ⟨σ1, e1, σ2, h2, e2, p2⟩ := hb w k σ h List.mem_cons_self (Nat.le_refl _) (by simp) hp
    obtain ⟨σ', h', p3, e3⟩ := for_okN ws (k + 1) σ2 h2 p2 (fun x j σ h hx h1 h2 => hb x j σ h (List.mem_cons_of_mem _ hx) (by omega) (by simp only [List.length_cons]; omega))
    refine ⟨σ', h', by rw [List.length_cons, show k + (ws.length + 1) = k + 1 + ws.length by omega]; exact p3, ?_⟩
    unfold mForL
    rw [if_pos rfl, e1]
    simp only []
    rw [e2]
    exact e3
noncomputable def at_t : MS := mSeq (mAsg (gT [(gN 3), (gN 4), (gN 5)]) (mCall m_law_near_text (mCons (mVar 0) (mCons (mVar 1) mNil))))
    (mSeq (mIfS (mOrT (mB (mOp nIsN (mCall m_is_text (mCons (mVar 3) (mCons (mVar 1) mNil))) (mC (.bl true)))) (mB (mOp nNe (mCB (pureF nRepr) (mCons (mCall m_is_text (mCons (mVar 4) (mCons (mVar 1) mNil))) mNil)) (mCB (pureF nRepr) (mCons (mVar 5) mNil))))) (mRet (mC (.bl false))) mNext)
    (mIfS (mOrT (mB (mOp nIsN (mCall m_is_text (mCons (mVar 3) (mCons (mC (.int 4)) mNil))) (mC (.bl true)))) (mB (mOp nNe (mCall m_is_text (mCons (mVar 3) (mCons (mC (.int 2)) mNil))) (mAnd (mOp nNotIn (mC (.str "2")) (mVar 3)) (mOp nNotIn (mC (.str "3")) (mVar 3)))))) (mRet (mC (.bl false))) mNext))
noncomputable def at_o : ME := mLst (mCons (mC .non) (mCons (mC (.bl true)) (mCons (mC (.int 0)) (mCons (mC (.int 10)) (mCons (mOp nMul (mOp nPow (mC (.int 10)) (mC (.int 60))) (mOp nPow (mC (.int 10)) (mC (.int 39)))) (mCons (mTup mNil) (mCons (mTup (mCons (mC (.str "0")) mNil)) (mCons (mLst (mCons (mC (.str "0")) (mCons (mC (.str "1")) mNil))) (mCons (mDisp [((mC (.str "0")), (mC (.int 1)))]) (mCons (mOp nMul (mC (.str "0")) (mC (.int 201))) (mCons (mOp nMul (mC (.str "01")) (mC (.int 1500))) (mCons (mOp nSub (mC (.int 0)) (mC (.int 1))) mNil))))))))))))
noncomputable def at_f : ME := mLc (mIt (mVar 6)) (gN 7) (mB (mOp nIsN (mCall m_is_text (mCons (mVar 7) (mCons (mVar 1) mNil))) (mC (.bl false)))) (mVar 7) [7]
theorem b_at_eq : b_law_are_texts = mSeq (mFor (mRng rng1 (mCons (mC (.int 4)) mNil)) (gN 2) at_t) (mSeq (mSet 6 at_o) (mRet (mOp nEq at_f (mLst mNil)))) := rfl
theorem repr_ne (r : Bool) (h : List O) : nNe h (.str (if r then "True" else "False")) (.str (if r then "True" else "False")) = some (.bl false) := by
  cases r
  · exact (o_neS (h := h) (i := "False") (j := "False") (by decide +kernel) (by decide +kernel)).trans (x_bl (by simp))
  · exact (o_neS (h := h) (i := "True") (j := "True") (by decide +kernel) (by decide +kernel)).trans (x_bl (by simp))
theorem at_t_ok (b n c : Nat) (hc : c = 2 ∨ c = 4) (x2 x3 x4 x5 x6 x7 : Option W) (h : List O) (hb : Bag b n h) (hn : n ≤ 900000000) : ∃ y3 y4 y5 h', at_t [some (.ref b), some (.int (c : Int)), x2, x3, x4, x5, x6, x7] h = .nx [some (.ref b), some (.int (c : Int)), x2, y3, y4, y5, x6, x7] h' ∧ Bag b (n + 203) h' := by
  obtain ⟨ds, near, r, h', e1, d1, l1, l2, hr, b1⟩ := near_ok b n c h hc hb hn
  have d4 : ∀ d ∈ ds, d < 4 := fun d hd => Nat.lt_of_lt_of_le (d1 d hd) (by omega)
  have lm : (ds.map (48 + ·)).length ≤ 200 := by rw [List.length_map]; exact l1
  have i1 := it_s c hc (ds.map (48 + ·)) h' (by omega)
  have i2 := it_s c hc near h' (by omega)
  have i3 := it_s 4 (.inr rfl) (ds.map (48 + ·)) h' (by omega)
  have i4 := it_s 2 (.inl rfl) (ds.map (48 + ·)) h' (by omega)
  have a1 : (ds.all fun d => decide (d < c)) = true := by rw [List.all_eq_true]; exact fun d hd => decide_eq_true (d1 d hd)
  have a3 : (ds.all fun d => decide (d < 4)) = true := by rw [List.all_eq_true]; exact fun d hd => decide_eq_true (d4 d hd)
  rw [allL_tx, a1, decide_eq_true lm, Bool.and_true] at i1
  rw [allL_tx, a3, decide_eq_true lm, Bool.and_true] at i3
  rw [allL_tx, decide_eq_true lm, Bool.true_and] at i4
  rw [hr] at i2
  rw [show ((4 : Nat) : Int) = 4 from rfl] at i3
  rw [show ((2 : Nat) : Int) = 2 from rfl] at i4
  have n2 : nNotIn h' (.str "2") (.str (sx (ds.map (48 + ·)))) = some (.bl (!decide (50 ∈ ds.map (48 + ·)))) := notin_sx 50 _ h'
  have n3 : nNotIn h' (.str "3") (.str (sx (ds.map (48 + ·)))) = some (.bl (!decide (51 ∈ ds.map (48 + ·)))) := notin_sx 51 _ h'
  have q : (ds.all fun d => decide (d < 2)) = ((!decide (50 ∈ ds.map (48 + ·))) && (!decide (51 ∈ ds.map (48 + ·)))) := by
    rw [Bool.eq_iff_iff]
    simp only [List.all_eq_true, decide_eq_true_eq, Bool.and_eq_true, Bool.not_eq_true', decide_eq_false_iff_not, List.mem_map, not_exists, not_and]
    constructor
    · exact fun z => ⟨fun d hd e => by have := z d hd; omega, fun d hd e => by have := z d hd; omega⟩
    · exact fun ⟨z1, z2⟩ d hd => by
        have := z1 d hd
        have := z2 d hd
        have := d4 d hd
        omega
  rw [q] at i4
  have rn := repr_ne r h'
  have re := o_reprB (h := h') (b := r)
  refine ⟨some (.str (tx ds)), some (.str (sx near)), some (.bl r), h', ?_, b1⟩
  rw [tx_sx] at e1 ⊢
  generalize sx (ds.map (48 + ·)) = te at *
  have t1 := tru_bl (!decide (50 ∈ ds.map (48 + ·))) h'
  generalize (!decide (50 ∈ ds.map (48 + ·))) = p at *
  generalize (!decide (51 ∈ ds.map (48 + ·))) = p' at *
  have nb : nNe h' (.bl (p && p')) (.bl (p && p')) = some (.bl false) := by rw [o_neB]; simp
  generalize sx near = ne at *
  generalize (if r = true then ("True" : Str) else ("False" : Str)) = rr at *
  have an : mAnd (mOp nNotIn (mC (.str "2")) (mVar 3)) (mOp nNotIn (mC (.str "3")) (mVar 3)) [some (.ref b), some (.int (c : Int)), x2, some (.str te), some (.str ne), some (.bl r), x6, x7] h' = .ok (.bl (p && p')) h' := by
    walk_at "xe"
  unfold at_t
  walk_at "xe"
/-! odd values -/
theorem mulStr_sx (L : List Nat) (n : Nat) : mulStr (sx L) (n : Int) = sx (List.replicate n L).flatten := by
  have fold : ∀ (n : Nat) (a : Array Nat), (List.replicate n L.toArray).foldl (· ++ ·) a = a ++ (List.replicate n L).flatten.toArray := by
    intro n
    induction n with
    | zero => intro a; simp
    | succ n ih =>
      intro a
      rw [List.replicate_succ, List.foldl_cons, ih, List.replicate_succ, List.flatten_cons]
      apply Array.ext'
      simp
  unfold mulStr
  rcases n with _ | _ | n
  · rfl
  · rw [if_neg (by omega), if_pos (by simp)]; simp
  · rw [if_neg (by omega)]
    by_cases hl : L = []
    · subst hl
      rw [if_pos (by simp [sx_len])]
      simp
    · have : ((((n + 1 + 1 : Nat) : Int) == 1) || ((sx L).length == 0)) = false := by
        rw [sx_len]
        have : L.length ≠ 0 := fun z => hl (List.length_eq_zero_iff.mp z)
        simp [this]; omega
      rw [this, if_neg Bool.false_ne_true, Int.toNat_natCast]
      show (⟨(List.replicate (n + 1 + 1) L.toArray).foldl (· ++ ·) #[]⟩ : Str) = _
      rw [fold]
      simp [sx]
theorem mul_sx (L : List Nat) (n : Nat) (hn : n ≤ 10000) (hl : L.length ≤ 1000) (h : List O) : nMul h (.str (sx L)) (.int (n : Int)) = some (.str (sx (List.replicate n L).flatten)) := by
  show guardO (decide ((n : Int) ≤ 10000 ∧ (sx L).length ≤ 1000 ∧ -1000 ≤ (n : Int) ∧ (mulStr (sx L) n).length ≤ sizeLine)) (.str (mulStr (sx L) n)) = _
  rw [mulStr_sx]
  have e : (sx (List.replicate n L).flatten).length = n * L.length := by rw [sx_len]; simp
  have : n * L.length ≤ 10000 * 1000 := Nat.mul_le_mul hn hl
  unfold guardO
  rw [if_pos (decide_eq_true ⟨by omega, by rw [sx_len]; exact hl, by omega, by rw [e]; exact sz this⟩)]
def z201 : List Nat := (List.replicate 201 [48]).flatten
def z3000 : List Nat := (List.replicate 1500 [48, 49]).flatten
def odds : List W := [.non, .bl true, .int 0, .int 10, .int (10 ^ 99), .tup [], .tup [.str "0"], .lst [.str "0", .str "1"], .dct false [(.str "0", .int 1)], .str (sx z201), .str (sx z3000), .int (-1)]
theorem at_o_ok (σ : Slo) (h : List O) : at_o σ h = .ok (.lst odds) h := by
  have m1 : nMul h (.str "0") (.int 201) = some (.str (sx z201)) := mul_sx [48] 201 (by decide) (by decide) h
  have m2 : nMul h (.str "01") (.int 1500) = some (.str (sx z3000)) := mul_sx [48, 49] 1500 (by decide) (by decide) h
  have p1 : nPow h (.int 10) (.int 60) = some (.int (10 ^ 60)) := by
    show guardO _ _ = _
    unfold guardO
    rw [if_pos (by decide +kernel)]; rfl
  have p2 : nPow h (.int 10) (.int 39) = some (.int (10 ^ 39)) := by
    show guardO _ _ = _
    unfold guardO
    rw [if_pos (by decide +kernel)]; rfl
  have p3 : nMul h (.int (10 ^ 60)) (.int (10 ^ 39)) = some (.int (10 ^ 99)) := by
    show guardO _ _ = _
    unfold guardO
    rw [if_pos (by decide +kernel)]; rfl
  have d : mDisp [((mC (.str "0")), (mC (.int 1)))] σ h = .ok (.dct false [(.str "0", .int 1)]) h := by kernel_rfl
  have n1 : nSub h (.int 0) (.int 1) = some (.int (-1)) := rfl
  unfold at_o odds
  generalize (10 : Int) ^ 60 = a at *
  generalize (10 : Int) ^ 39 = b at *
  generalize (10 : Int) ^ 99 = c at *
  generalize z201 = y1 at *
  generalize z3000 = y2 at *
  walk_at "xe"
theorem odds_no (c : Nat) (hc : c = 2 ∨ c = 4) (h : List O) : ∀ w ∈ odds, m_is_text [w, .int (c : Int)] h = .ok (.bl false) h := by
  have s1 := it_s c hc z201 h (by decide)
  have s2 := it_s c hc z3000 h (by decide +kernel)
  rw [show decide (z201.length ≤ 200) = false by decide +kernel, Bool.false_and] at s1
  rw [show decide (z3000.length ≤ 200) = false by decide +kernel, Bool.false_and] at s2
  intro w hw
  unfold odds at hw
  simp only [List.mem_cons, List.not_mem_nil, or_false] at hw
  have key : ∀ n : String, kitB n "str" = some false → ∀ w, tyW h w = some n → m_is_text [w, .int (c : Int)] h = .ok (.bl false) h := fun n hn w hw => it_no c hc w h (by
    show (((tyW h w).bind fun n => kitB n "str").map W.bl) = _
    rw [hw, Option.bind_some, hn]; rfl)
  rcases hw with rfl | rfl | rfl | rfl | rfl | rfl | rfl | rfl | rfl | rfl | rfl | rfl
  · exact key "NoneType" (by decide +kernel) _ rfl
  · exact key "bool" (by decide +kernel) _ rfl
  · exact key "int" (by decide +kernel) _ rfl
  · exact key "int" (by decide +kernel) _ rfl
  · exact key "int" (by decide +kernel) _ rfl
  · exact key "tuple" (by decide +kernel) _ rfl
  · exact key "tuple" (by decide +kernel) _ rfl
  · exact key "list" (by decide +kernel) _ rfl
  · exact key "dict" (by decide +kernel) _ rfl
  · exact s1
  · exact s2
  · exact key "int" (by decide +kernel) _ rfl
theorem at_f_ok (c : Nat) (hc : c = 2 ∨ c = 4) (x0 x2 x3 x4 x5 x7 : Option W) (h : List O) : at_f [x0, some (.int (c : Int)), x2, x3, x4, x5, some (.lst odds), x7] h = .ok (.lst []) h := by
  have lc := lc_filter (σ := [x0, some (.int (c : Int)), x2, x3, x4, x5, some (.lst odds), none]) (i := 7) (p := fun _ => false) (f := fun x => x) (el := mVar 7) (t := mB (mOp nIsN (mCall m_is_text (mCons (mVar 7) (mCons (mVar 1) mNil))) (mC (.bl false)))) (h := h) odds [] (fun w hw => by
    have e := odds_no c hc h w hw
    simp only [List.set_cons_succ, List.set_cons_zero]
    walk_at "xe") (fun x hx => rfl) (by decide)
  have fn : odds.filter (fun _ => false) = [] := by simp
  rw [List.nil_append, List.map_id', fn] at lc
  have it : itW h (.lst odds) = some (odds, fun _ => true) := rfl
  generalize odds = o at *
  unfold at_f
  walk_at "xe"
theorem are_texts_ok (b n c : Nat) (hc : c = 2 ∨ c = 4) (h : List O) (hb : Bag b n h) (hn : n ≤ 800000000) : ∃ h', m_law_are_texts [.ref b, .int (c : Int)] h = .ok (.bl true) h' ∧ Bag b (n + 812) h' := by
  obtain ⟨σ', h', ⟨x2, x3, x4, x5, x6, x7, rfl, b1⟩, e1⟩ := for_okN (g := gN 2) (b := at_t) (P := fun j σ h => ∃ x2 x3 x4 x5 x6 x7, σ = [some (.ref b), some (.int (c : Int)), x2, x3, x4, x5, x6, x7] ∧ Bag b (n + j * 203) h) (rngW 0 4) 0 [some (.ref b), some (.int (c : Int)), none, none, none, none, none, none] h ⟨_, _, _, _, _, _, rfl, by simpa using hb⟩
    (by
      rintro w j σ h _ _ hj ⟨x2, x3, x4, x5, x6, x7, rfl, hb⟩
      rw [rng_len] at hj
      obtain ⟨y3, y4, y5, h', e, b1⟩ := at_t_ok b _ c hc (some w) x3 x4 x5 x6 x7 h hb (by omega)
      exact ⟨_, rfl, _, h', e, _, _, _, _, _, _, rfl, b1.mono (by rw [Nat.add_mul]; omega)⟩)
  rw [rng_len] at b1
  have o := at_o_ok [some (.ref b), some (.int (c : Int)), x2, x3, x4, x5, x6, x7] h'
  have f := at_f_ok c hc (some (.ref b)) x2 x3 x4 x5 x7 h'
  have q : nEq h' (.lst []) (.lst []) = some (.bl true) := by kernel_rfl
  have r : rng1 [.int 4] = some (rngW 0 4, fun _ => true) := rng1_ok 4 (by decide)
  have f2 : mFor (mRng rng1 (mCons (mC (.int 4)) mNil)) (gN 2) at_t [some (.ref b), some (.int (c : Int)), none, none, none, none, none, none] h = .nx [some (.ref b), some (.int (c : Int)), x2, x3, x4, x5, x6, x7] h' := by
    walk_at "xe"
  refine ⟨h', ?_, b1.mono (by omega)⟩
  rw [m_law_are_texts_eq, b_at_eq]
  walk_at "xe"
end N

set_option maxHeartbeats 4000000
namespace N
open PySem L2
/-- what is proved of a function: a row for each -/
local macro_rules
  | `(tactic| walk_at "xu") => `(tactic| fail)
/-- side facts -/
local macro_rules
  | `(tactic| walk_at "xs") => `(tactic| first | with_reducible assumption | omega | (simp only [List.length_cons, List.length_nil]; decide) | decide)
/-- facts of Bools -/
local macro_rules
  | `(tactic| walk_at "xk") => `(tactic| first | with_reducible exact rfl | with_reducible assumption | (exact decide_eq_true (by omega)) | (exact decide_eq_false (by omega)) | (simp; omega) | (simp; done))
local macro_rules
  | `(tactic| walk_at "xset") => `(tactic| (simp only [List.set_cons_succ, List.set_cons_zero]; first | done | rfl))
local macro_rules
  | `(tactic| walk_at "xo") => `(tactic| first
    | walk_at "xo1"
    | ((with_reducible apply o_mod) <;> walk_at "xs") | ((with_reducible apply o_div) <;> walk_at "xs") | ((with_reducible apply o_mul) <;> walk_at "xs") | ((with_reducible apply o_lenS) <;> walk_at "xs")
    | ((with_reducible apply o_rng1) <;> walk_at "xs") | ((with_reducible apply o_rng2) <;> walk_at "xs") | ((with_reducible refine o_ixR (by assumption) ?_); exact rfl)
    | ((with_reducible first
        | refine Eq.trans o_eqI (x_bl ?_) | refine Eq.trans o_neI (x_bl ?_) | refine Eq.trans o_lt (x_bl ?_) | refine Eq.trans o_ltT (x_bl ?_) | refine Eq.trans o_le (x_bl ?_) | refine Eq.trans o_gt (x_bl ?_) | refine Eq.trans o_ge (x_bl ?_) | refine Eq.trans o_eqB (x_bl ?_) | refine Eq.trans o_neB (x_bl ?_)
        | refine Eq.trans (o_eqS (by assumption) (by assumption)) (x_bl ?_) | refine Eq.trans (o_neS (by assumption) (by assumption)) (x_bl ?_)); walk_at "xk"))
local macro_rules
  | `(tactic| walk_at "xo1") => `(tactic| with_reducible first
    | exact o_add | exact o_sub | exact o_iadd | exact o_isub | exact o_lt | exact o_ltT | exact o_le | exact o_gt | exact o_ge | exact o_neg | exact o_eqI | exact o_neI | exact o_eqB | exact o_neB | exact o_reprB | exact o_addBB
    | exact o_intI | exact o_intB | exact o_abs | exact o_max | exact o_min | exact o_lenL | exact o_lenT | exact o_lenLo | exact o_lenTo
    | exact o_isiI | exact o_isiB | exact o_isiS | refine o_eqS (by assumption) (by assumption) | refine o_neS (by assumption) (by assumption)
    | refine o_lenR (by assumption))
local macro_rules
  | `(tactic| walk_at "x1") => `(tactic| first
    | with_reducible exact x_ok
    | with_reducible refine x_asm (by assumption)
    | with_reducible walk_at "xu"
    | with_reducible exact x_c | with_reducible exact x_nil | with_reducible exact x_noP | with_reducible exact x_next | with_reducible exact x_brk | with_reducible exact x_cnt | with_reducible exact x_retN
    | with_reducible exact x_krt | with_reducible exact x_kbk | with_reducible exact x_kct | with_reducible exact x_dnx | with_reducible exact x_drt
    | ((with_reducible apply x_var); exact rfl)
    | with_reducible apply x_op | with_reducible apply x_un | with_reducible apply x_cb | with_reducible apply x_call
    | with_reducible apply x_bm | with_reducible apply x_pm
    | with_reducible apply x_cons | with_reducible apply x_star | with_reducible apply x_b | with_reducible apply x_tru | with_reducible apply x_notT | with_reducible apply x_not
    | with_reducible apply x_andT | with_reducible apply x_orT | with_reducible apply x_and | with_reducible apply x_or | with_reducible apply x_ifE | with_reducible apply x_chain | with_reducible apply x_chain2
    | with_reducible apply x_tup | with_reducible apply x_lst | with_reducible apply x_lstN | with_reducible apply x_sl | with_reducible apply x_part
    | with_reducible apply x_it | with_reducible apply x_rng | with_reducible apply x_zip | with_reducible apply x_lc | with_reducible apply x_lcN
    | with_reducible apply x_seq | with_reducible apply x_knx | with_reducible apply x_drop | with_reducible apply x_ret | with_reducible apply x_ifS | with_reducible apply x_set | with_reducible apply x_par | with_reducible apply x_asg
    | with_reducible apply x_store | with_reducible apply x_aug | with_reducible apply x_for | with_reducible apply x_def
    | ((with_reducible apply x_t); focus (walk_at "xk"; done)) | ((with_reducible apply x_f); focus (walk_at "xk"; done))
    | with_reducible apply x_andV | with_reducible apply x_orV | with_reducible apply x_andS | with_reducible apply x_orS
    | with_reducible apply x_listG | with_reducible apply x_tupG
    | walk_at "xo"
    | ((with_reducible show List.set _ _ _ = _); walk_at "xset")
    | ((first
        | with_reducible show gN _ _ _ = _
        | with_reducible show gT _ _ _ = _); simp only [gT, gNs, gN, List.set_cons_succ, List.set_cons_zero]; first | done | exact rfl)
    | ((with_reducible show mNext _ _ = _); exact rfl)
    | ((with_reducible show wipeN _ _ = _); simp only [wipeN, List.set_cons_succ, List.set_cons_zero]; first | done | exact rfl)
    | ((with_reducible show List.map some _ ++ _ = _); simp only [List.map_cons, List.map_nil, List.length_cons, List.length_nil, List.cons_append, List.nil_append, List.replicate, Nat.reduceAdd, Nat.reduceSub]; exact rfl)
    | ((with_reducible show (_ : Nat) ≤ sizeLine); first | assumption | (simp only [List.length_cons, List.length_nil]; decide))
    | ((first
        | with_reducible show isT _ _ _ = _
        | with_reducible show itW _ _ = _
        | with_reducible show seqU _ _ = _
        | with_reducible show tru _ _ = _
        | with_reducible show zipW _ = _
        | with_reducible show setW _ _ _ _ = _
        | with_reducible show nIs _ _ _ = _
        | with_reducible show nIsN _ _ _ = _
        | with_reducible show nIx _ (W.tup _) (W.int _) = _
        | with_reducible show nIx _ (W.lst _) (W.int _) = _
        | with_reducible show nSl _ _ _ _ = _
        | with_reducible show _[_]? = _); exact rfl))
local macro_rules
  | `(tactic| walk_at "xe") => `(tactic| repeat walk_at "x1")
/-! ### all texts of a width -/
theorem forL_nx {chk : List O → Bool} {g : MG} {b : MS} {w : W} {ws : List W} {σ σ1 σ2 : Slo} {h h2 : List O} {r : SR} (e0 : chk h = true) (e1 : g w σ = some σ1) (e2 : b σ1 h = .nx σ2 h2) (e3 : mForL chk g b ws σ2 h2 = r) : mForL chk g b (w :: ws) σ h = r := by
  unfold mForL
  rw [if_pos e0, e1]
  simp only []
  rw [e2]
  exact e3
def ext (c : Nat) (t : List Nat) : List (List Nat) := (List.range c).map fun d => t ++ [d]
def tw (c : Nat) : Nat → List (List Nat)
  | 0 => [[]]
  | n + 1 => (tw c n).flatMap (ext c)
def stx (t : List Nat) : W := .str (tx t)
noncomputable def tk_e : ME := mOp nAdd (mVar 5) (mCB (pureF nStr) (mCons (mVar 6) mNil))
noncomputable def tk_i : MS := mSet 4 (mOp nAdd (mVar 4) (mLc (mRng rng1 (mCons (mVar 0) mNil)) (gN 6) mYes tk_e [6]))
noncomputable def tk_o : MS := mSeq (mSet 4 (mLst mNil)) (mSeq (mFor (mIt (mVar 2)) (gN 5) tk_i) (mSet 2 (mVar 4)))
theorem b_tk_eq : b_law_texts = mSeq (mSet 2 (mLst (mCons (mC (.str "")) mNil))) (mSeq (mFor (mRng rng1 (mCons (mVar 1) mNil)) (gN 3) tk_o) (mRet (mVar 2))) := rfl
abbrev tk_s (c w : Nat) (f : W) (x3 : Option W) (l : W) (x5 x6 : Option W) : Slo := [some (.int (c : Int)), some (.int (w : Int)), some f, x3, some l, x5, x6]
theorem sg_tx (d : Nat) : sg d = .str (tx [d]) := rfl
theorem tk_i_ok (c w : Nat) (hc : c ≤ 4) (f : W) (x3 : Option W) (A : List (List Nat)) (t : List Nat) (x6 : Option W) (h : List O) (hA : A.length ≤ 1000) (ht : t.length ≤ 1000) :
    tk_i (tk_s c w f x3 (.lst (A.map stx)) (some (stx t)) x6) h = .nx (tk_s c w f x3 (.lst ((A ++ ext c t).map stx)) (some (stx t)) x6) h := by
  have lc := lc_map (σ := tk_s c w f x3 (.lst (A.map stx)) (some (stx t)) none) (i := 6) (f := fun x => stx (t ++ [unI x])) (el := tk_e) (h := h) (rngW 0 c) [] (fun x hx => by
    obtain ⟨d, hm, rfl⟩ := List.mem_map.mp hx
    have hd : d < 4 := by simp at hm; omega
    have e1 := digit_str d h hd
    have e2 : nAdd h (stx t) (sg d) = some (stx (t ++ [d])) := by
      have := cat_sx (t.map (48 + ·)) ([d].map (48 + ·)) (by rw [List.length_map]; omega) (by simp) h
      rw [← List.map_append] at this
      exact this
    have e3 : unI (.int (0 + (d : Int))) = d := by simp [unI]
    rw [e3]
    have e4 : (0 : Int) + (d : Int) = (d : Int) := by omega
    rw [e4]
    simp only [List.set_cons_succ, List.set_cons_zero]
    unfold tk_e
    walk_at "xe") (by rw [rng_len]; exact sz (m := 1000) (by simp; omega))
  rw [List.nil_append] at lc
  have e : (rngW 0 c).map (fun x => stx (t ++ [unI x])) = (ext c t).map stx := by
    unfold rngW ext
    rw [List.map_map, List.map_map]
    refine List.map_congr_left fun d _ => ?_
    simp [unI]
  rw [e] at lc
  have r := rng1_ok c (by omega)
  have cat : nAdd h (.lst (A.map stx)) (.lst ((ext c t).map stx)) = some (.lst ((A ++ ext c t).map stx)) := by
    show guardO (decide ((A.map stx).length + ((ext c t).map stx).length ≤ sizeLine)) (.lst (A.map stx ++ (ext c t).map stx)) = _
    unfold guardO
    rw [if_pos (decide_eq_true (by rw [List.length_map, List.length_map]; exact sz (m := 2000) (by simp [ext]; omega))), List.map_append]
  unfold tk_i
  walk_at "xe"
theorem tk_in (c w : Nat) (hc : c ≤ 4) (f : W) (x3 : Option W) (h : List O) (x6 : Option W) : ∀ (ts A : List (List Nat)) (x5 : Option W), A.length + 4 * ts.length ≤ 1000 → (∀ t ∈ ts, t.length ≤ 1000) →
    ∃ y5, mForL (fun _ => true) (gN 5) tk_i (ts.map stx) (tk_s c w f x3 (.lst (A.map stx)) x5 x6) h = .nx (tk_s c w f x3 (.lst ((A ++ ts.flatMap (ext c)).map stx)) y5 x6) h
  | [], A, x5, _, _ => ⟨x5, by simp [mForL]⟩
  | t :: ts, A, x5, hA, ht => by
    have e1 := tk_i_ok c w hc f x3 A t x6 h (by omega) (ht t List.mem_cons_self)
    obtain ⟨y5, e2⟩ := tk_in c w hc f x3 h x6 ts (A ++ ext c t) (some (stx t)) (by simp [ext] at hA ⊢; omega) fun u hu => ht u (List.mem_cons_of_mem _ hu)
    refine ⟨y5, ?_⟩
    rw [List.append_assoc] at e2
    rw [List.map_cons, List.flatMap_cons]
    exact forL_nx rfl rfl e1 e2
theorem tw_len (c : Nat) : ∀ n, ∀ t ∈ tw c n, t.length = n
  | 0, t, h => by simp [tw] at h; subst h; rfl
  | n + 1, t, h => by
    simp only [tw, List.mem_flatMap, ext, List.mem_map] at h
    obtain ⟨u, hu, d, _, rfl⟩ := h
    simp [tw_len c n u hu]
theorem tk_o_ok (c w j : Nat) (hc : c ≤ 4) (hj : j ≤ 100) (hl : (tw c j).length ≤ 100) (x3 x4 x5 x6 : Option W) (h : List O) :
    ∃ y4 y5, tk_o [some (.int (c : Int)), some (.int (w : Int)), some (.lst ((tw c j).map stx)), x3, x4, x5, x6] h = .nx [some (.int (c : Int)), some (.int (w : Int)), some (.lst ((tw c (j + 1)).map stx)), x3, y4, y5, x6] h := by
  obtain ⟨y5, e⟩ := tk_in c w hc (.lst ((tw c j).map stx)) x3 h x6 (tw c j) [] x5 (by simp; omega) fun t ht => by rw [tw_len c j t ht]; omega
  rw [List.nil_append] at e
  have e : mForL (fun _ => true) (gN 5) tk_i ((tw c j).map stx) [some (.int (c : Int)), some (.int (w : Int)), some (.lst ((tw c j).map stx)), x3, some (.lst []), x5, x6] h = .nx [some (.int (c : Int)), some (.int (w : Int)), some (.lst ((tw c j).map stx)), x3, some (.lst ((tw c (j + 1)).map stx)), y5, x6] h := e
  have it : itW h (.lst ((tw c j).map stx)) = some ((tw c j).map stx, fun _ => true) := rfl
  refine ⟨some (.lst ((tw c (j + 1)).map stx)), y5, ?_⟩
  generalize (tw c (j + 1)).map stx = B at *
  generalize (tw c j).map stx = A at *
  unfold tk_o
  walk_at "xe"
theorem texts_k (c w : Nat) (hc : c ≤ 4) (hw : w ≤ 100) (hl : ∀ j, j < w → (tw c j).length ≤ 100) (h : List O) : m_law_texts [.int (c : Int), .int (w : Int)] h = .ok (.lst ((tw c w).map stx)) h := by
  obtain ⟨σ', h', ⟨x3, x4, x5, x6, rfl, he⟩, e⟩ := for_okN (g := gN 3) (b := tk_o) (P := fun j σ h' => ∃ x3 x4 x5 x6, σ = [some (.int (c : Int)), some (.int (w : Int)), some (.lst ((tw c j).map stx)), x3, x4, x5, x6] ∧ h' = h) (rngW 0 w) 0 [some (.int (c : Int)), some (.int (w : Int)), some (.lst ((tw c 0).map stx)), none, none, none, none] h ⟨_, _, _, _, rfl, rfl⟩
    (by
      rintro v j σ h' _ _ hj ⟨x3, x4, x5, x6, rfl, rfl⟩
      rw [rng_len] at hj
      obtain ⟨y4, y5, e⟩ := tk_o_ok c w j hc (by omega) (hl j (by omega)) (some v) x4 x5 x6 h'
      exact ⟨_, rfl, _, h', e, _, _, _, _, rfl, rfl⟩)
  rw [rng_len, Nat.zero_add, he] at e
  have e : mForL (fun _ => true) (gN 3) tk_o (rngW 0 w) [some (.int (c : Int)), some (.int (w : Int)), some (.lst [.str ""]), none, none, none, none] h = .nx [some (.int (c : Int)), some (.int (w : Int)), some (.lst ((tw c w).map stx)), x3, x4, x5, x6] h := e
  have r := rng1_ok w (by omega)
  generalize (tw c w).map stx = B at *
  rw [m_law_texts_eq, b_tk_eq]
  walk_at "xe"
end N

set_option maxHeartbeats 4000000
namespace N
open PySem L2
/-- what is proved of a function: a row for each -/
local macro_rules
  | `(tactic| walk_at "xu") => `(tactic| fail)
/-- side facts -/
local macro_rules
  | `(tactic| walk_at "xs") => `(tactic| first | with_reducible assumption | omega | (simp only [List.length_cons, List.length_nil]; decide) | decide)
/-- facts of Bools -/
local macro_rules
  | `(tactic| walk_at "xk") => `(tactic| first | with_reducible exact rfl | with_reducible assumption | (exact decide_eq_true (by omega)) | (exact decide_eq_false (by omega)) | (simp; omega) | (simp; done))
local macro_rules
  | `(tactic| walk_at "xset") => `(tactic| (simp only [List.set_cons_succ, List.set_cons_zero]; first | done | rfl))
local macro_rules
  | `(tactic| walk_at "xo") => `(tactic| first
    | walk_at "xo1"
    | ((with_reducible apply o_mod) <;> walk_at "xs") | ((with_reducible apply o_div) <;> walk_at "xs") | ((with_reducible apply o_mul) <;> walk_at "xs") | ((with_reducible apply o_lenS) <;> walk_at "xs")
    | ((with_reducible apply o_rng1) <;> walk_at "xs") | ((with_reducible apply o_rng2) <;> walk_at "xs") | ((with_reducible refine o_ixR (by assumption) ?_); exact rfl)
    | ((with_reducible first
        | refine Eq.trans o_eqI (x_bl ?_) | refine Eq.trans o_neI (x_bl ?_) | refine Eq.trans o_lt (x_bl ?_) | refine Eq.trans o_ltT (x_bl ?_) | refine Eq.trans o_le (x_bl ?_) | refine Eq.trans o_gt (x_bl ?_) | refine Eq.trans o_ge (x_bl ?_) | refine Eq.trans o_eqB (x_bl ?_) | refine Eq.trans o_neB (x_bl ?_)
        | refine Eq.trans (o_eqS (by assumption) (by assumption)) (x_bl ?_) | refine Eq.trans (o_neS (by assumption) (by assumption)) (x_bl ?_)); walk_at "xk"))
local macro_rules
  | `(tactic| walk_at "xo1") => `(tactic| with_reducible first
    | exact o_add | exact o_sub | exact o_iadd | exact o_isub | exact o_lt | exact o_ltT | exact o_le | exact o_gt | exact o_ge | exact o_neg | exact o_eqI | exact o_neI | exact o_eqB | exact o_neB | exact o_reprB | exact o_addBB
    | exact o_intI | exact o_intB | exact o_abs | exact o_max | exact o_min | exact o_lenL | exact o_lenT | exact o_lenLo | exact o_lenTo
    | exact o_isiI | exact o_isiB | exact o_isiS | refine o_eqS (by assumption) (by assumption) | refine o_neS (by assumption) (by assumption)
    | refine o_lenR (by assumption))
local macro_rules
  | `(tactic| walk_at "x1") => `(tactic| first
    | with_reducible exact x_ok
    | with_reducible refine x_asm (by assumption)
    | with_reducible walk_at "xu"
    | with_reducible exact x_c | with_reducible exact x_nil | with_reducible exact x_noP | with_reducible exact x_next | with_reducible exact x_brk | with_reducible exact x_cnt | with_reducible exact x_retN
    | with_reducible exact x_krt | with_reducible exact x_kbk | with_reducible exact x_kct | with_reducible exact x_dnx | with_reducible exact x_drt
    | ((with_reducible apply x_var); exact rfl)
    | with_reducible apply x_op | with_reducible apply x_un | with_reducible apply x_cb | with_reducible apply x_call
    | with_reducible apply x_bm | with_reducible apply x_pm
    | with_reducible apply x_cons | with_reducible apply x_star | with_reducible apply x_b | with_reducible apply x_tru | with_reducible apply x_notT | with_reducible apply x_not
    | with_reducible apply x_andT | with_reducible apply x_orT | with_reducible apply x_and | with_reducible apply x_or | with_reducible apply x_ifE | with_reducible apply x_chain | with_reducible apply x_chain2
    | with_reducible apply x_tup | with_reducible apply x_lst | with_reducible apply x_lstN | with_reducible apply x_sl | with_reducible apply x_part
    | with_reducible apply x_it | with_reducible apply x_rng | with_reducible apply x_zip | with_reducible apply x_lc | with_reducible apply x_lcN
    | with_reducible apply x_seq | with_reducible apply x_knx | with_reducible apply x_drop | with_reducible apply x_ret | with_reducible apply x_ifS | with_reducible apply x_set | with_reducible apply x_par | with_reducible apply x_asg
    | with_reducible apply x_store | with_reducible apply x_aug | with_reducible apply x_for | with_reducible apply x_def
    | ((with_reducible apply x_t); focus (walk_at "xk"; done)) | ((with_reducible apply x_f); focus (walk_at "xk"; done))
    | with_reducible apply x_andV | with_reducible apply x_orV | with_reducible apply x_andS | with_reducible apply x_orS
    | with_reducible apply x_listG | with_reducible apply x_tupG
    | walk_at "xo"
    | ((with_reducible show List.set _ _ _ = _); walk_at "xset")
    | ((first
        | with_reducible show gN _ _ _ = _
        | with_reducible show gT _ _ _ = _); simp only [gT, gNs, gN, List.set_cons_succ, List.set_cons_zero]; first | done | exact rfl)
    | ((with_reducible show mNext _ _ = _); exact rfl)
    | ((with_reducible show wipeN _ _ = _); simp only [wipeN, List.set_cons_succ, List.set_cons_zero]; first | done | exact rfl)
    | ((with_reducible show List.map some _ ++ _ = _); simp only [List.map_cons, List.map_nil, List.length_cons, List.length_nil, List.cons_append, List.nil_append, List.replicate, Nat.reduceAdd, Nat.reduceSub]; exact rfl)
    | ((with_reducible show (_ : Nat) ≤ sizeLine); first | assumption | (simp only [List.length_cons, List.length_nil]; decide))
    | ((first
        | with_reducible show isT _ _ _ = _
        | with_reducible show itW _ _ = _
        | with_reducible show seqU _ _ = _
        | with_reducible show tru _ _ = _
        | with_reducible show zipW _ = _
        | with_reducible show setW _ _ _ _ = _
        | with_reducible show nIs _ _ _ = _
        | with_reducible show nIsN _ _ _ = _
        | with_reducible show nIx _ (W.tup _) (W.int _) = _
        | with_reducible show nIx _ (W.lst _) (W.int _) = _
        | with_reducible show nSl _ _ _ _ = _
        | with_reducible show _[_]? = _); exact rfl))
local macro_rules
  | `(tactic| walk_at "xe") => `(tactic| repeat walk_at "x1")
/-! ### all that a generator hands out -/
theorem set_self {h : List O} {n : Nat} {o : O} (e : h[n]? = some o) : h.set n o = h := by
  obtain ⟨hl, e⟩ := List.getElem?_eq_some_iff.mp e
  rw [← e]; exact List.set_getElem_self ..
theorem drain_list (n : Nat) (r : List O → SR) (hr : ∀ h, (r h).ends = some h) : ∀ (ws xs : List W) (h : List O), h[n]? = some (.lst xs) → xs.length + ws.length ≤ sizeLine → drainG n (ylist r ws h) = some (h.set n (.lst (xs ++ ws)))
  | [], xs, h, e, _ => by
    rw [List.append_nil, set_self e]
    exact hr h
  | w :: ws, xs, h, e, hl => by
    simp only [List.length_cons] at hl
    have hn := (List.getElem?_eq_some_iff.mp e).1
    have ih := drain_list n r hr ws (xs ++ [w]) (h.set n (.lst (xs ++ [w]))) (by simp [hn]) (by simp; omega)
    rw [show ylist r (w :: ws) h = .yld w h (fun h' => ylist r ws h') from rfl]
    unfold drainG
    rw [e]
    dsimp only
    rw [if_pos (by omega), ih]
    simp
theorem push_get (h : List O) (o : O) : (h ++ [o])[h.length]? = some o := by simp
theorem push_set (h : List O) (o o' : O) : (h ++ [o]).set h.length o' = h ++ [o'] := by simp
theorem Bag.app {b n : Nat} {h : List O} (hb : Bag b n h) (o : O) : Bag b n (h ++ [o]) := by
  obtain ⟨x, y, z, h1, h2⟩ := hb
  exact ⟨x, y, z, by rw [List.getElem?_append_left (List.getElem?_eq_some_iff.mp h1).1]; exact h1, h2⟩
theorem Bag.put {b n p : Nat} {h : List O} (hb : Bag b n h) (hp : b ≠ p) (o : O) : Bag b n (h.set p o) := by
  obtain ⟨x, y, z, h1, h2⟩ := hb
  exact ⟨x, y, z, by rw [List.getElem?_set_ne (Ne.symm hp)]; exact h1, h2⟩
theorem Bag.lt {b n : Nat} {h : List O} (hb : Bag b n h) : b < h.length := by
  obtain ⟨x, y, z, h1, h2⟩ := hb
  exact (List.getElem?_eq_some_iff.mp h1).1
/-! equal lists of texts -/
theorem eqv_strs : ∀ L : List Str, PyData.eqvAll (L.map PyData.str) (L.map PyData.str) = true
  | [] => by simp [PyData.eqvAll]
  | s :: L => by simp [PyData.eqvAll, PyData.eqv, eqv_strs L]
theorem shaped_strsT (L : List Str) (h : ∀ s ∈ L, PyData.strOk s = true) : SeqAt.shaped (.tuple (L.map PyData.str)) = true := by
  obtain ⟨a, b⟩ := lay_strs L h
  simp [SeqAt.shaped, PyData.canLay0, PyData.depth, a]; omega
theorem eqL_same (L : List Str) (hL : ∀ s ∈ L, PyData.strOk s = true) : eqW (.lst (L.map W.str)) (.lst (L.map W.str)) = some true := by
  unfold eqW
  simp only [datW, datWs_strs, Option.map_some]
  rw [if_pos ⟨shaped_strs L hL, shaped_strs L hL⟩]
  have := eqv_strs L
  simp [PyData.eqv, this]
theorem eqT_same (L : List Str) (hL : ∀ s ∈ L, PyData.strOk s = true) : eqW (.tup (L.map W.str)) (.tup (L.map W.str)) = some true := by
  unfold eqW
  simp only [datW, datWs_strs, Option.map_some]
  rw [if_pos ⟨shaped_strsT L hL, shaped_strsT L hL⟩]
  have := eqv_strs L
  simp [PyData.eqv, this]
theorem stx_strs (T : List (List Nat)) (hd : ∀ t ∈ T, ∀ d ∈ t, d < 4) : ∃ L : List Str, T.map stx = L.map W.str ∧ ∀ s ∈ L, PyData.strOk s = true :=
  ⟨T.map tx, by rw [List.map_map]; rfl, fun s hs => by
    obtain ⟨t, ht, rfl⟩ := List.mem_map.mp hs
    exact ok_tx t (hd t ht)⟩
theorem ne_ref (T : List (List Nat)) (hd : ∀ t ∈ T, ∀ d ∈ t, d < 4) (h : List O) (n : Nat) (e : h[n]? = some (.lst (T.map stx))) : nNe h (.ref n) (.lst (T.map stx)) = some (.bl false) := by
  obtain ⟨L, e1, e2⟩ := stx_strs T hd
  have := eqL_same L e2
  rw [← e1] at this
  simp only [nNe, topW, e, this]; rfl
theorem eq_ref (T : List (List Nat)) (hd : ∀ t ∈ T, ∀ d ∈ t, d < 4) (h : List O) (n : Nat) (e : h[n]? = some (.lst (T.map stx))) : nEq h (.ref n) (.lst (T.map stx)) = some (.bl true) := by
  obtain ⟨L, e1, e2⟩ := stx_strs T hd
  have := eqL_same L e2
  rw [← e1] at this
  simp only [nEq, topW, e, this]; rfl
theorem ne_tupS (T : List (List Nat)) (hd : ∀ t ∈ T, ∀ d ∈ t, d < 4) (h : List O) : nNe h (.tup (T.map stx)) (.tup (T.map stx)) = some (.bl false) := by
  obtain ⟨L, e1, e2⟩ := stx_strs T hd
  have := eqT_same L e2
  rw [← e1] at this
  simp only [nNe, topW, this]; rfl
/-! only the first ones -/
def ypre (R : List O → GO) : List W → List O → GO
  | [], h => R h
  | w :: ws, h => .yld w h fun h' => ypre R ws h'
theorem ypre_bind (R : List O → GO) (f : SR → GO) : ∀ (ws : List W) (h : List O), (ypre R ws h).bind f = ypre (fun h => (R h).bind f) ws h
  | [], h => rfl
  | w :: ws, h => by
    show GO.yld w h _ = GO.yld w h _
    congr 1
    funext h'
    exact ypre_bind R f ws h'
def Lk (c : Nat) : List Nat → List (List Nat) → Prop
  | _, [] => True
  | t, u :: us => nxt c t = some u ∧ Lk c u us
theorem tx_pre (c w : Nat) (hc : 1 ≤ c) : ∀ (us : List (List Nat)) (t : List Nat) (F : Nat), Lk c t us → us.length < F → (∀ u ∈ t :: us, (∀ d ∈ u, d < 4) ∧ u.length ≤ 200) →
    ∃ R, ∀ h, yWhile tx_t tx_b F (tx_s c w (.lst (nums t))) h = ypre R ((t :: us).map stx) h
  | us, t, 0, _, hF, _ => absurd hF (by omega)
  | us, t, F + 1, hch, hF, hu => by
    obtain ⟨h1, h2⟩ := hu t List.mem_cons_self
    have key : ∀ h, yWhile tx_t tx_b (F + 1) (tx_s c w (.lst (nums t))) h = .yld (stx t) h fun h' => yWhile tx_t tx_b F (tx_s c w (wOf (nxt c t))) h' := fun h => by
      rw [yw_t (tx_t_ok c w _ h), tx_body (tx_j_ok c w t h h1 h2) (tx_n_ok c w hc t h2)]
      rfl
    match us, hch, hF, hu with
    | [], _, _, _ => exact ⟨fun h' => yWhile tx_t tx_b F (tx_s c w (wOf (nxt c t))) h', fun h => key h⟩
    | u :: us, hch, hF, hu =>
      obtain ⟨R, hR⟩ := tx_pre c w hc us u F hch.2 (by simp at hF; omega) fun x hx => hu x (List.mem_cons_of_mem _ hx)
      refine ⟨R, fun h => ?_⟩
      rw [key h, hch.1]
      show GO.yld _ h _ = GO.yld _ h _
      congr 1
      funext h'
      exact hR h'
theorem texts_pre (c w : Nat) (hc : c = 2 ∨ c = 4) (us : List (List Nat)) (hw : w ≤ 200) (hch : Lk c (List.replicate w 0) us) (hF : us.length < 5000) (hu : ∀ u ∈ List.replicate w 0 :: us, (∀ d ∈ u, d < 4) ∧ u.length ≤ 200) :
    ∃ R, ∀ h, y_texts_of (startN 5 [.int (c : Int), .int (w : Int)]) h = ypre R ((List.replicate w 0 :: us).map stx) h := by
  obtain ⟨R, hR⟩ := tx_pre c w (by omega) us _ 5000 hch hF hu
  refine ⟨fun h => (R h).bind (SR.thenG yNil), fun h => ?_⟩
  have r1 := require_letters_ok (c : Int) (by omega) h
  have r2 := require_width_ok (w : Int) h (by omega) (by omega)
  have s : startN 5 [.int (c : Int), .int (w : Int)] = [some (.int (c : Int)), some (.int (w : Int)), none, none, none] := rfl
  have e1 : tx_r1 [some (.int (c : Int)), some (.int (w : Int)), none, none, none] h = .nx [some (.int (c : Int)), some (.int (w : Int)), none, none, none] h := by unfold tx_r1; walk_at "xe"
  have e2 : tx_r2 [some (.int (c : Int)), some (.int (w : Int)), none, none, none] h = .nx [some (.int (c : Int)), some (.int (w : Int)), none, none, none] h := by unfold tx_r2; walk_at "xe"
  have e4 := lc_zero [some (.int (c : Int)), some (.int (w : Int)), none, none, none] h 3 (rngW 0 w) (by rw [rng_len]; omega)
  have e5 : List.replicate (rngW 0 w).length (W.int 0) = nums (List.replicate w 0) := by rw [rng_len]; simp [nums]
  rw [e5] at e4
  have e6 := rng1_ok w (by omega)
  have e3 : tx_z [some (.int (c : Int)), some (.int (w : Int)), none, none, none] h = .nx (tx_s c w (.lst (nums (List.replicate w 0)))) h := by
    unfold tx_z
    walk_at "xe"
  rw [y_texts_of_eq, yb_eq, s, y_plain e1, y_plain e2, y_plain e3]
  unfold ySeq
  rw [hR h, ypre_bind]
end N

set_option maxHeartbeats 4000000
namespace N
open PySem L2
/-- what is proved of a function: a row for each -/
local macro_rules
  | `(tactic| walk_at "xu") => `(tactic| fail)
/-- side facts -/
local macro_rules
  | `(tactic| walk_at "xs") => `(tactic| first | with_reducible assumption | omega | (simp only [List.length_cons, List.length_nil]; decide) | decide)
/-- facts of Bools -/
local macro_rules
  | `(tactic| walk_at "xk") => `(tactic| first | with_reducible exact rfl | with_reducible assumption | (exact decide_eq_true (by omega)) | (exact decide_eq_false (by omega)) | (simp; omega) | (simp; done))
local macro_rules
  | `(tactic| walk_at "xset") => `(tactic| (simp only [List.set_cons_succ, List.set_cons_zero]; first | done | rfl))
local macro_rules
  | `(tactic| walk_at "xo") => `(tactic| first
    | walk_at "xo1"
    | ((with_reducible apply o_mod) <;> walk_at "xs") | ((with_reducible apply o_div) <;> walk_at "xs") | ((with_reducible apply o_mul) <;> walk_at "xs") | ((with_reducible apply o_lenS) <;> walk_at "xs")
    | ((with_reducible apply o_rng1) <;> walk_at "xs") | ((with_reducible apply o_rng2) <;> walk_at "xs") | ((with_reducible refine o_ixR (by assumption) ?_); exact rfl)
    | ((with_reducible first
        | refine Eq.trans o_eqI (x_bl ?_) | refine Eq.trans o_neI (x_bl ?_) | refine Eq.trans o_lt (x_bl ?_) | refine Eq.trans o_ltT (x_bl ?_) | refine Eq.trans o_le (x_bl ?_) | refine Eq.trans o_gt (x_bl ?_) | refine Eq.trans o_ge (x_bl ?_) | refine Eq.trans o_eqB (x_bl ?_) | refine Eq.trans o_neB (x_bl ?_)
        | refine Eq.trans (o_eqS (by assumption) (by assumption)) (x_bl ?_) | refine Eq.trans (o_neS (by assumption) (by assumption)) (x_bl ?_)); walk_at "xk"))
local macro_rules
  | `(tactic| walk_at "xo1") => `(tactic| with_reducible first
    | exact o_add | exact o_sub | exact o_iadd | exact o_isub | exact o_lt | exact o_ltT | exact o_le | exact o_gt | exact o_ge | exact o_neg | exact o_eqI | exact o_neI | exact o_eqB | exact o_neB | exact o_reprB | exact o_addBB
    | exact o_intI | exact o_intB | exact o_abs | exact o_max | exact o_min | exact o_lenL | exact o_lenT | exact o_lenLo | exact o_lenTo
    | exact o_isiI | exact o_isiB | exact o_isiS | refine o_eqS (by assumption) (by assumption) | refine o_neS (by assumption) (by assumption)
    | refine o_lenR (by assumption))
local macro_rules
  | `(tactic| walk_at "x1") => `(tactic| first
    | with_reducible exact x_ok
    | with_reducible refine x_asm (by assumption)
    | with_reducible walk_at "xu"
    | with_reducible exact x_c | with_reducible exact x_nil | with_reducible exact x_noP | with_reducible exact x_next | with_reducible exact x_brk | with_reducible exact x_cnt | with_reducible exact x_retN
    | with_reducible exact x_krt | with_reducible exact x_kbk | with_reducible exact x_kct | with_reducible exact x_dnx | with_reducible exact x_drt
    | ((with_reducible apply x_var); exact rfl)
    | with_reducible apply x_op | with_reducible apply x_un | with_reducible apply x_cb | with_reducible apply x_call
    | with_reducible apply x_bm | with_reducible apply x_pm
    | with_reducible apply x_cons | with_reducible apply x_star | with_reducible apply x_b | with_reducible apply x_tru | with_reducible apply x_notT | with_reducible apply x_not
    | with_reducible apply x_andT | with_reducible apply x_orT | with_reducible apply x_and | with_reducible apply x_or | with_reducible apply x_ifE | with_reducible apply x_chain | with_reducible apply x_chain2
    | with_reducible apply x_tup | with_reducible apply x_lst | with_reducible apply x_lstN | with_reducible apply x_sl | with_reducible apply x_part
    | with_reducible apply x_it | with_reducible apply x_rng | with_reducible apply x_zip | with_reducible apply x_lc | with_reducible apply x_lcN
    | with_reducible apply x_seq | with_reducible apply x_knx | with_reducible apply x_drop | with_reducible apply x_ret | with_reducible apply x_ifS | with_reducible apply x_set | with_reducible apply x_par | with_reducible apply x_asg
    | with_reducible apply x_store | with_reducible apply x_aug | with_reducible apply x_for | with_reducible apply x_def
    | ((with_reducible apply x_t); focus (walk_at "xk"; done)) | ((with_reducible apply x_f); focus (walk_at "xk"; done))
    | with_reducible apply x_andV | with_reducible apply x_orV | with_reducible apply x_andS | with_reducible apply x_orS
    | with_reducible apply x_listG | with_reducible apply x_tupG
    | walk_at "xo"
    | ((with_reducible show List.set _ _ _ = _); walk_at "xset")
    | ((first
        | with_reducible show gN _ _ _ = _
        | with_reducible show gT _ _ _ = _); simp only [gT, gNs, gN, List.set_cons_succ, List.set_cons_zero]; first | done | exact rfl)
    | ((with_reducible show mNext _ _ = _); exact rfl)
    | ((with_reducible show wipeN _ _ = _); simp only [wipeN, List.set_cons_succ, List.set_cons_zero]; first | done | exact rfl)
    | ((with_reducible show List.map some _ ++ _ = _); simp only [List.map_cons, List.map_nil, List.length_cons, List.length_nil, List.cons_append, List.nil_append, List.replicate, Nat.reduceAdd, Nat.reduceSub]; exact rfl)
    | ((with_reducible show (_ : Nat) ≤ sizeLine); first | assumption | (simp only [List.length_cons, List.length_nil]; decide))
    | ((first
        | with_reducible show isT _ _ _ = _
        | with_reducible show itW _ _ = _
        | with_reducible show seqU _ _ = _
        | with_reducible show tru _ _ = _
        | with_reducible show zipW _ = _
        | with_reducible show setW _ _ _ _ = _
        | with_reducible show nIs _ _ _ = _
        | with_reducible show nIsN _ _ _ = _
        | with_reducible show nIx _ (W.tup _) (W.int _) = _
        | with_reducible show nIx _ (W.lst _) (W.int _) = _
        | with_reducible show nSl _ _ _ _ = _
        | with_reducible show _[_]? = _); exact rfl))
local macro_rules
  | `(tactic| walk_at "xe") => `(tactic| repeat walk_at "x1")
noncomputable def aa_w : ME := mLst (mCons (mC (.int 198)) (mCons (mC (.int 199)) (mCons (mC (.int 200)) mNil)))
noncomputable def aa_b : MS := mSeq (mDrop (mBM "list" nAppend (mVar 4) (mCons (mVar 5) mNil))) (mIfS (mB (mOp nEq (mCB (pureF nLen) (mCons (mVar 4) mNil)) (mOp nAdd (mVar 1) (mC (.int 1))))) mBrk mNext)
noncomputable def aa_f : MS := mForG y_texts_of 5 (mCons (mVar 1) (mCons (mCall m_law_one_of (mCons (mVar 0) (mCons aa_w mNil))) mNil)) (gN 5) aa_b
noncomputable def aa_e : ME := mOp nAdd (mOp nMul (mC (.str "0")) (mOp nSub (mVar 6) (mC (.int 1)))) (mCB (pureF nStr) (mCons (mVar 7) mNil))
noncomputable def aa_r : ME := mOp nEq (mVar 4) (mOp nAdd (mLc (mRng rng1 (mCons (mVar 1) mNil)) (gN 7) mYes aa_e [7]) (mLst (mCons (mOp nAdd (mOp nMul (mC (.str "0")) (mOp nSub (mVar 6) (mC (.int 2)))) (mC (.str "10"))) mNil)))
noncomputable def aa_d : ME := mCall m_law_draw (mCons (mVar 0) (mCons (mIf (mB (mOp nEq (mVar 1) (mC (.int 2)))) (mC (.int 6)) (mC (.int 4))) mNil))
noncomputable def aa_l : MT := mB (mOp nNe (mListG y_texts_of 5 (mCons (mVar 1) (mCons (mVar 2) mNil))) (mVar 3))
noncomputable def aa_t : MT := mB (mOp nNe (mTupG y_texts_of 5 (mCons (mVar 1) (mCons (mVar 2) mNil))) (mCB (pureF nTuple) (mCons (mVar 3) mNil)))
theorem b_aa_eq : b_law_are_all = mSeq (mSet 2 aa_d) (mSeq (mSet 3 (mCall m_law_texts (mCons (mVar 1) (mCons (mVar 2) mNil))))
    (mSeq (mIfS (mOrT aa_l aa_t) (mRet (mC (.bl false))) mNext)
    (mSeq (mSet 4 (mLstN mNil)) (mSeq aa_f (mSeq (mSet 6 (mCB (pureF nLen) (mCons (mOp nIx (mVar 4) (mC (.int 0))) mNil))) (mRet aa_r)))))) := rfl
def wt (c w : Nat) : List (List Nat) := (List.range c).map (fun i => List.replicate (w - 1) 0 ++ [i]) ++ [List.replicate (w - 2) 0 ++ [1, 0]]
theorem wt_cons (c w : Nat) (hc : c = 2 ∨ c = 4) (hw : 2 ≤ w) : ∃ us, wt c w = List.replicate w 0 :: us ∧ Lk c (List.replicate w 0) us ∧ us.length = c := by
  obtain ⟨v, rfl⟩ : ∃ v, w = v + 2 := ⟨w - 2, by omega⟩
  have e1 : List.replicate (v + 1) 0 = List.replicate v 0 ++ [0] := by rw [List.replicate_succ']
  have e2 : List.replicate (v + 2) 0 = List.replicate (v + 1) 0 ++ [0] := by rw [List.replicate_succ']
  have s := fun x (hx : x ≠ c - 1) => nxt_snoc c x 0 hx (List.replicate (v + 1) 0)
  have z := nxt_snoc c 0 1 (by omega) (List.replicate v 0)
  rcases hc with rfl | rfl
  · refine ⟨[List.replicate (v + 1) 0 ++ [1], List.replicate v 0 ++ [1, 0]], ?_, ⟨?_, ?_, trivial⟩, rfl⟩
    · show [List.replicate (v + 1) 0 ++ [0], List.replicate (v + 1) 0 ++ [1]] ++ [List.replicate v 0 ++ [1, 0]] = _
      rw [e2]; rfl
    · rw [e2]; exact s 0 (by decide)
    · rw [e1, List.append_assoc]; exact z
  · refine ⟨[List.replicate (v + 1) 0 ++ [1], List.replicate (v + 1) 0 ++ [2], List.replicate (v + 1) 0 ++ [3], List.replicate v 0 ++ [1, 0]], ?_, ⟨?_, ?_, ?_, ?_, trivial⟩, rfl⟩
    · show [List.replicate (v + 1) 0 ++ [0], List.replicate (v + 1) 0 ++ [1], List.replicate (v + 1) 0 ++ [2], List.replicate (v + 1) 0 ++ [3]] ++ [List.replicate v 0 ++ [1, 0]] = _
      rw [e2]; rfl
    · rw [e2]; exact s 0 (by decide)
    · exact s 1 (by decide)
    · exact s 2 (by decide)
    · rw [e1, List.append_assoc]; exact z
theorem wt_ok (c w : Nat) (hc : c ≤ 4) (hw2 : 2 ≤ w) (hw : w ≤ 200) : ∀ u ∈ wt c w, (∀ d ∈ u, d < 4) ∧ u.length ≤ 200 := by
  intro u hu
  simp only [wt, List.mem_append, List.mem_map, List.mem_range, List.mem_singleton] at hu
  rcases hu with ⟨i, hi, rfl⟩ | rfl
  · refine ⟨fun d hd => ?_, by simp; omega⟩
    rcases List.mem_append.mp hd with hd | hd
    · rw [List.eq_of_mem_replicate hd]; decide
    · simp at hd; omega
  · refine ⟨fun d hd => ?_, by simp; omega⟩
    rcases List.mem_append.mp hd with hd | hd
    · rw [List.eq_of_mem_replicate hd]; decide
    · simp at hd; omega
abbrev aa_s (b c w : Nat) (due : W) (p : Nat) (x5 x6 x7 : Option W) : Slo := [some (.ref b), some (.int (c : Int)), some (.int (w : Int)), some due, some (.ref p), x5, x6, x7]
theorem app_ok (h : List O) (p : Nat) (xs : List W) (w : W) (e : h[p]? = some (.lst xs)) (hl : xs.length ≤ 1000) : nAppend h (.ref p) [w] = some (.non, h.set p (.lst (xs ++ [w]))) := by
  show (match h[p]? with
    | some (.lst xs) => if xs.length < sizeLine then some (W.non, h.set p (.lst (xs ++ [w]))) else none
    | _ => none) = _
  rw [e]
  dsimp only
  rw [if_pos (Nat.lt_of_le_of_lt hl (by decide))]
theorem isT_ref (h : List O) (p : Nat) (xs : List W) (e : h[p]? = some (.lst xs)) : isT "list" h (.ref p) = true := by simp [isT, e]
theorem aa_b_ok (b c w : Nat) (due : W) (p : Nat) (x : W) (x6 x7 : Option W) (xs : List W) (h : List O) (e : h[p]? = some (.lst xs)) (hl : xs.length ≤ 1000) :
    aa_b (aa_s b c w due p (some x) x6 x7) h = if xs.length = c then .bk (aa_s b c w due p (some x) x6 x7) (h.set p (.lst (xs ++ [x]))) else .nx (aa_s b c w due p (some x) x6 x7) (h.set p (.lst (xs ++ [x]))) := by
  have a := app_ok h p xs x e hl
  have t := isT_ref h p xs e
  have hn := (List.getElem?_eq_some_iff.mp e).1
  have g : (h.set p (.lst (xs ++ [x])))[p]? = some (.lst (xs ++ [x])) := by simp [hn]
  have ln : nLen (h.set p (.lst (xs ++ [x]))) [.ref p] = some (.int ((xs.length : Int) + 1)) := by rw [o_lenR g]; simp
  generalize h.set p (.lst (xs ++ [x])) = h2 at *
  by_cases hc : xs.length = c
  · rw [if_pos hc]
    unfold aa_b
    walk_at "xe"
  · rw [if_neg hc]
    unfold aa_b
    walk_at "xe"
theorem forG_yld {g : MG} {b : MS} {w : W} {h : List O} {k : List O → GO} {σ σ1 : Slo} (e : g w σ = some σ1) : forG g b (.yld w h k) σ = match b σ1 h with
      | .nx σ2 h2 => forG g b (k h2) σ2
      | .ct σ2 h2 => forG g b (k h2) σ2
      | .bk σ2 h2 => .nx σ2 h2
      | r => r := by
  conv => lhs; unfold forG
  rw [e]
  first
    | done
    | (dsimp only; done)
    | (dsimp only; cases b σ1 h <;> rfl)
theorem aa_loop (b c w : Nat) (due : W) (p : Nat) (x6 x7 : Option W) (R : List O → GO) (hc : c ≤ 4) : ∀ (ws xs : List W) (h : List O) (x5 : Option W), ws ≠ [] → xs.length + ws.length = c + 1 → h[p]? = some (.lst xs) →
    ∃ y5, forG (gN 5) aa_b (ypre R ws h) (aa_s b c w due p x5 x6 x7) = .nx (aa_s b c w due p y5 x6 x7) (h.set p (.lst (xs ++ ws)))
  | [], _, _, _, hn, _, _ => absurd rfl hn
  | x :: ws, xs, h, x5, _, hl, e => by
    simp only [List.length_cons] at hl
    have hb := aa_b_ok b c w due p x x6 x7 xs h e (by omega)
    have hn := (List.getElem?_eq_some_iff.mp e).1
    match ws, hl with
    | [], hl =>
      refine ⟨some x, ?_⟩
      rw [show ypre R [x] h = .yld x h (fun h' => R h') from rfl, forG_yld (σ1 := aa_s b c w due p (some x) x6 x7) rfl, hb, if_pos (by simpa using hl)]
    | y :: ws, hl =>
      simp only [List.length_cons] at hl
      obtain ⟨y5, e2⟩ := aa_loop b c w due p x6 x7 R hc (y :: ws) (xs ++ [x]) (h.set p (.lst (xs ++ [x]))) (some x) (by simp) (by simp; omega) (by simp [hn])
      refine ⟨y5, ?_⟩
      rw [show ypre R (x :: y :: ws) h = .yld x h (fun h' => ypre R (y :: ws) h') from rfl, forG_yld (σ1 := aa_s b c w due p (some x) x6 x7) rfl, hb, if_neg (by omega)]
      simp only [e2]
      simp
end N

set_option maxHeartbeats 4000000
namespace N
open PySem L2
/-- what is proved of a function: a row for each -/
local macro_rules
  | `(tactic| walk_at "xu") => `(tactic| fail)
/-- side facts -/
local macro_rules
  | `(tactic| walk_at "xs") => `(tactic| first | with_reducible assumption | omega | (simp only [List.length_cons, List.length_nil]; decide) | decide)
/-- facts of Bools -/
local macro_rules
  | `(tactic| walk_at "xk") => `(tactic| first | with_reducible exact rfl | with_reducible assumption | (exact decide_eq_true (by omega)) | (exact decide_eq_false (by omega)) | (simp; omega) | (simp; done))
local macro_rules
  | `(tactic| walk_at "xset") => `(tactic| (simp only [List.set_cons_succ, List.set_cons_zero]; first | done | rfl))
local macro_rules
  | `(tactic| walk_at "xo") => `(tactic| first
    | walk_at "xo1"
    | ((with_reducible apply o_mod) <;> walk_at "xs") | ((with_reducible apply o_div) <;> walk_at "xs") | ((with_reducible apply o_mul) <;> walk_at "xs") | ((with_reducible apply o_lenS) <;> walk_at "xs")
    | ((with_reducible apply o_rng1) <;> walk_at "xs") | ((with_reducible apply o_rng2) <;> walk_at "xs") | ((with_reducible refine o_ixR (by assumption) ?_); exact rfl)
    | ((with_reducible first
        | refine Eq.trans o_eqI (x_bl ?_) | refine Eq.trans o_neI (x_bl ?_) | refine Eq.trans o_lt (x_bl ?_) | refine Eq.trans o_ltT (x_bl ?_) | refine Eq.trans o_le (x_bl ?_) | refine Eq.trans o_gt (x_bl ?_) | refine Eq.trans o_ge (x_bl ?_) | refine Eq.trans o_eqB (x_bl ?_) | refine Eq.trans o_neB (x_bl ?_)
        | refine Eq.trans (o_eqS (by assumption) (by assumption)) (x_bl ?_) | refine Eq.trans (o_neS (by assumption) (by assumption)) (x_bl ?_)); walk_at "xk"))
local macro_rules
  | `(tactic| walk_at "xo1") => `(tactic| with_reducible first
    | exact o_add | exact o_sub | exact o_iadd | exact o_isub | exact o_lt | exact o_ltT | exact o_le | exact o_gt | exact o_ge | exact o_neg | exact o_eqI | exact o_neI | exact o_eqB | exact o_neB | exact o_reprB | exact o_addBB
    | exact o_intI | exact o_intB | exact o_abs | exact o_max | exact o_min | exact o_lenL | exact o_lenT | exact o_lenLo | exact o_lenTo
    | exact o_isiI | exact o_isiB | exact o_isiS | refine o_eqS (by assumption) (by assumption) | refine o_neS (by assumption) (by assumption)
    | refine o_lenR (by assumption))
local macro_rules
  | `(tactic| walk_at "x1") => `(tactic| first
    | with_reducible exact x_ok
    | with_reducible refine x_asm (by assumption)
    | with_reducible walk_at "xu"
    | with_reducible exact x_c | with_reducible exact x_nil | with_reducible exact x_noP | with_reducible exact x_next | with_reducible exact x_brk | with_reducible exact x_cnt | with_reducible exact x_retN
    | with_reducible exact x_krt | with_reducible exact x_kbk | with_reducible exact x_kct | with_reducible exact x_dnx | with_reducible exact x_drt
    | ((with_reducible apply x_var); exact rfl)
    | with_reducible apply x_op | with_reducible apply x_un | with_reducible apply x_cb | with_reducible apply x_call
    | with_reducible apply x_bm | with_reducible apply x_pm
    | with_reducible apply x_cons | with_reducible apply x_star | with_reducible apply x_b | with_reducible apply x_tru | with_reducible apply x_notT | with_reducible apply x_not
    | with_reducible apply x_andT | with_reducible apply x_orT | with_reducible apply x_and | with_reducible apply x_or | with_reducible apply x_ifE | with_reducible apply x_chain | with_reducible apply x_chain2
    | with_reducible apply x_tup | with_reducible apply x_lst | with_reducible apply x_lstN | with_reducible apply x_sl | with_reducible apply x_part
    | with_reducible apply x_it | with_reducible apply x_rng | with_reducible apply x_zip | with_reducible apply x_lc | with_reducible apply x_lcN
    | with_reducible apply x_seq | with_reducible apply x_knx | with_reducible apply x_drop | with_reducible apply x_ret | with_reducible apply x_ifS | with_reducible apply x_set | with_reducible apply x_par | with_reducible apply x_asg
    | with_reducible apply x_store | with_reducible apply x_aug | with_reducible apply x_for | with_reducible apply x_def
    | ((with_reducible apply x_t); focus (walk_at "xk"; done)) | ((with_reducible apply x_f); focus (walk_at "xk"; done))
    | with_reducible apply x_andV | with_reducible apply x_orV | with_reducible apply x_andS | with_reducible apply x_orS
    | with_reducible apply x_listG | with_reducible apply x_tupG
    | walk_at "xo"
    | ((with_reducible show List.set _ _ _ = _); walk_at "xset")
    | ((first
        | with_reducible show gN _ _ _ = _
        | with_reducible show gT _ _ _ = _); simp only [gT, gNs, gN, List.set_cons_succ, List.set_cons_zero]; first | done | exact rfl)
    | ((with_reducible show mNext _ _ = _); exact rfl)
    | ((with_reducible show wipeN _ _ = _); simp only [wipeN, List.set_cons_succ, List.set_cons_zero]; first | done | exact rfl)
    | ((with_reducible show List.map some _ ++ _ = _); simp only [List.map_cons, List.map_nil, List.length_cons, List.length_nil, List.cons_append, List.nil_append, List.replicate, Nat.reduceAdd, Nat.reduceSub]; exact rfl)
    | ((with_reducible show (_ : Nat) ≤ sizeLine); first | assumption | (simp only [List.length_cons, List.length_nil]; decide))
    | ((first
        | with_reducible show isT _ _ _ = _
        | with_reducible show itW _ _ = _
        | with_reducible show seqU _ _ = _
        | with_reducible show tru _ _ = _
        | with_reducible show zipW _ = _
        | with_reducible show setW _ _ _ _ = _
        | with_reducible show nIs _ _ _ = _
        | with_reducible show nIsN _ _ _ = _
        | with_reducible show nIx _ (W.tup _) (W.int _) = _
        | with_reducible show nIx _ (W.lst _) (W.int _) = _
        | with_reducible show nSl _ _ _ _ = _
        | with_reducible show _[_]? = _); exact rfl))
local macro_rules
  | `(tactic| walk_at "xe") => `(tactic| repeat walk_at "x1")
theorem tw_ok2 : ∀ w, w ≤ 5 → (∀ j, j < w → (tw 2 j).length ≤ 100) ∧ (tw 2 w).length ≤ 100 ∧ (tw 2 w).head? = some (List.replicate w 0) ∧ Ch 2 (List.replicate w 0) (tw 2 w).tail = true ∧ ∀ u ∈ tw 2 w, (∀ d ∈ u, d < 4) ∧ u.length ≤ 200 := by decide +kernel
theorem tw_ok4 : ∀ w, w ≤ 3 → (∀ j, j < w → (tw 4 j).length ≤ 100) ∧ (tw 4 w).length ≤ 100 ∧ (tw 4 w).head? = some (List.replicate w 0) ∧ Ch 4 (List.replicate w 0) (tw 4 w).tail = true ∧ ∀ u ∈ tw 4 w, (∀ d ∈ u, d < 4) ∧ u.length ≤ 200 := by decide +kernel
theorem tw_ok (c w : Nat) (hc : c = 2 ∨ c = 4) (hw : w < if c = 2 then 6 else 4) : (∀ j, j < w → (tw c j).length ≤ 100) ∧ (tw c w).length ≤ 100 ∧ (∃ us, tw c w = List.replicate w 0 :: us ∧ Ch c (List.replicate w 0) us = true) ∧ ∀ u ∈ tw c w, (∀ d ∈ u, d < 4) ∧ u.length ≤ 200 := by
  have key : (∀ j, j < w → (tw c j).length ≤ 100) ∧ (tw c w).length ≤ 100 ∧ (tw c w).head? = some (List.replicate w 0) ∧ Ch c (List.replicate w 0) (tw c w).tail = true ∧ ∀ u ∈ tw c w, (∀ d ∈ u, d < 4) ∧ u.length ≤ 200 := by
    rcases hc with rfl | rfl
    · exact tw_ok2 w (by rw [if_pos rfl] at hw; omega)
    · exact tw_ok4 w (by rw [if_neg (by decide)] at hw; omega)
  obtain ⟨k1, k2, k3, k4, k5⟩ := key
  refine ⟨k1, k2, ⟨(tw c w).tail, ?_, k4⟩, k5⟩
  cases e : tw c w with
  | nil => rw [e] at k3; cases k3
  | cons a l => rw [e] at k3; cases k3; rfl
theorem mul0' (n : Nat) (h : List O) (hn : n ≤ 200) : nMul h (.str "0") (.int (n : Int)) = some (stx (List.replicate n 0)) := mul0 n h hn
theorem cat_tx (a b : List Nat) (ha : a.length ≤ 10000) (hb : b.length ≤ 10000) (h : List O) : nAdd h (stx a) (stx b) = some (stx (a ++ b)) := by
  have := cat_sx (a.map (48 + ·)) (b.map (48 + ·)) (by rw [List.length_map]; exact ha) (by rw [List.length_map]; exact hb) h
  rw [← List.map_append] at this
  exact this
theorem aa_e_ok (c w v d : Nat) (b : Nat) (due : W) (p : Nat) (x5 : Option W) (hd : d < 4) (hw : w ≤ 200) (hw1 : 2 ≤ w) (h : List O) : aa_e (aa_s b c v due p x5 (some (.int (w : Int))) (some (.int (d : Int)))) h = .ok (stx (List.replicate (w - 1) 0 ++ [d])) h := by
  have e1 := mul0' (w - 1) h (by omega)
  have e0 : ((w - 1 : Nat) : Int) = (w : Int) - 1 := by omega
  rw [e0] at e1
  have e2 := digit_str d h hd
  have e3 : nAdd h (stx (List.replicate (w - 1) 0)) (sg d) = some (stx (List.replicate (w - 1) 0 ++ [d])) := cat_tx (List.replicate (w - 1) 0) [d] (by simp; omega) (by simp) h
  unfold aa_e
  walk_at "xe"
theorem aa_r_ok (c w v : Nat) (hc : c = 2 ∨ c = 4) (b : Nat) (due : W) (p : Nat) (x5 x7 : Option W) (hw : w ≤ 200) (hw1 : 2 ≤ w) (h : List O) (e : h[p]? = some (.lst ((wt c w).map stx))) : aa_r (aa_s b c v due p x5 (some (.int (w : Int))) x7) h = .ok (.bl true) h := by
  have lc := lc_map (σ := aa_s b c v due p x5 (some (.int (w : Int))) none) (i := 7) (f := fun x => stx (List.replicate (w - 1) 0 ++ [unI x])) (el := aa_e) (h := h) (rngW 0 c) [] (fun x hx => by
    obtain ⟨d, hm, rfl⟩ := List.mem_map.mp hx
    have hd : d < 4 := by simp at hm; omega
    have e4 : (0 : Int) + (d : Int) = (d : Int) := by omega
    rw [e4]
    have e3 : unI (.int (d : Int)) = d := by simp [unI]
    rw [e3]
    exact aa_e_ok c w v d b due p x5 hd hw hw1 h) (by rw [rng_len]; exact sz (m := 1000) (by simp; omega))
  rw [List.nil_append] at lc
  have e5 : (rngW 0 c).map (fun x => stx (List.replicate (w - 1) 0 ++ [unI x])) = ((List.range c).map fun i => List.replicate (w - 1) 0 ++ [i]).map stx := by
    unfold rngW
    rw [List.map_map, List.map_map]
    refine List.map_congr_left fun d _ => ?_
    simp [unI]
  rw [e5] at lc
  have r := rng1_ok c (by omega)
  have e1 := mul0' (w - 2) h (by omega)
  have e0 : ((w - 2 : Nat) : Int) = (w : Int) - 2 := by omega
  rw [e0] at e1
  have e3 : nAdd h (stx (List.replicate (w - 2) 0)) (.str "10") = some (stx (List.replicate (w - 2) 0 ++ [1, 0])) := cat_tx (List.replicate (w - 2) 0) [1, 0] (by simp; omega) (by simp) h
  have cat : nAdd h (.lst (((List.range c).map fun i => List.replicate (w - 1) 0 ++ [i]).map stx)) (.lst [stx (List.replicate (w - 2) 0 ++ [1, 0])]) = some (.lst ((wt c w).map stx)) := by
    show guardO (decide ((((List.range c).map fun i => List.replicate (w - 1) 0 ++ [i]).map stx).length + 1 ≤ sizeLine)) (.lst (((List.range c).map fun i => List.replicate (w - 1) 0 ++ [i]).map stx ++ [stx (List.replicate (w - 2) 0 ++ [1, 0])])) = _
    unfold guardO
    rw [if_pos (decide_eq_true (by rw [List.length_map]; exact sz (m := 2000) (by simp; omega)))]
    unfold wt
    rw [List.map_append]; rfl
  have q := eq_ref (wt c w) (fun t ht => (wt_ok c w (by omega) hw1 hw t ht).1) h p e
  generalize (wt c w).map stx = T at *
  generalize ((List.range c).map fun i => List.replicate (w - 1) 0 ++ [i]).map stx = T1 at *
  generalize stx (List.replicate (w - 2) 0 ++ [1, 0]) = T2 at *
  generalize stx (List.replicate (w - 2) 0) = T3 at *
  unfold aa_r
  walk_at "xe"
theorem aa_d_ok (b n c : Nat) (hc : c = 2 ∨ c = 4) (h : List O) (hb : Bag b n h) (hn : n ≤ 900000000) (x2 x3 x4 x5 x6 x7 : Option W) : ∃ w h', (w < if c = 2 then 6 else 4) ∧ aa_d [some (.ref b), some (.int (c : Int)), x2, x3, x4, x5, x6, x7] h = .ok (.int ((w : Nat) : Int)) h' ∧ Bag b (n + 1) h' := by
  have k : ∃ (t : Int) (tn : Nat), t = (tn : Int) ∧ tn = (if c = 2 then 6 else 4) ∧ 1 ≤ t ∧ t ≤ 6 ∧ mIf (mB (mOp nEq (mVar 1) (mC (.int 2)))) (mC (.int 6)) (mC (.int 4)) [some (.ref b), some (.int (c : Int)), x2, x3, x4, x5, x6, x7] h = .ok (.int t) h := by
    rcases hc with rfl | rfl
    · exact ⟨6, 6, rfl, rfl, by decide, by decide, by walk_at "xe"⟩
    · exact ⟨4, 4, rfl, rfl, by decide, by decide, by walk_at "xe"⟩
  obtain ⟨t, tn, tt, ht, t1, t6, ke⟩ := k
  obtain ⟨r, o, e1, r0, r1, b1⟩ := draw b n h t hb (by omega) t1 (by omega)
  obtain ⟨w, rfl⟩ := Int.eq_ofNat_of_zero_le r0
  refine ⟨w, h.set b o, by rw [← ht]; omega, ?_, b1⟩
  unfold aa_d
  walk_at "xe"
theorem are_all_ok (b n c : Nat) (hc : c = 2 ∨ c = 4) (h : List O) (hb : Bag b n h) (hn : n ≤ 800000000) : ∃ h', m_law_are_all [.ref b, .int (c : Int)] h = .ok (.bl true) h' ∧ Bag b (n + 2) h' := by
  obtain ⟨w, h1, hw, e1, b1⟩ := aa_d_ok b n c hc h hb (by omega) none none none none none none
  obtain ⟨k1, k2, ⟨us, k3, k4⟩, k5⟩ := tw_ok c w hc hw
  have hw6 : w ≤ 5 := by split at hw <;> omega
  have e2 := texts_k c w (by omega) (by omega) k1 h1
  have tree := fun h => texts_tree c w hc us h (by omega) k4 (by rw [k3] at k2; simp at k2; omega) (by rw [← k3]; exact k5)
  rw [← k3] at tree
  have tree : ∀ h, y_texts_of (startN 5 [.int (c : Int), .int (w : Int)]) h = ylist (fun h => .nx (tx_s c w .non) h) ((tw c w).map stx) h := tree
  have dr := drain_list h1.length (fun h => .nx (tx_s c w .non) h) (fun h => rfl) ((tw c w).map stx) [] (h1 ++ [.lst []]) (push_get h1 _) (by rw [List.length_map]; exact sz (m := 1000) (by simp; omega))
  rw [← tree, List.nil_append, push_set] at dr
  have g2 := push_get h1 (.lst ((tw c w).map stx))
  have n1 := ne_ref (tw c w) (fun t ht => (k5 t ht).1) _ _ g2
  have b2 := b1.app (.lst ((tw c w).map stx))
  generalize h1 ++ [.lst ((tw c w).map stx)] = h2 at *
  have dr2 := drain_list h2.length (fun h => .nx (tx_s c w .non) h) (fun h => rfl) ((tw c w).map stx) [] (h2 ++ [.lst []]) (push_get h2 _) (by rw [List.length_map]; exact sz (m := 1000) (by simp; omega))
  rw [← tree, List.nil_append, push_set] at dr2
  have g3 := push_get h2 (.lst ((tw c w).map stx))
  have n2 := ne_tupS (tw c w) (fun t ht => (k5 t ht).1) (h2 ++ [.lst ((tw c w).map stx)])
  have b3 := b2.app (.lst ((tw c w).map stx))
  have tu : nTuple (h2 ++ [.lst ((tw c w).map stx)]) [.lst ((tw c w).map stx)] = some (.tup ((tw c w).map stx)) := rfl
  generalize (tw c w).map stx = T at *
  generalize h2 ++ [.lst T] = h3 at *
  -- the first ones of wide texts
  have b4 := b3.app (.lst [])
  have g4 := push_get h3 (.lst [])
  have hp : b ≠ h3.length := Nat.ne_of_lt b3.lt
  have ln : mLstN mNil [some (.ref b), some (.int (c : Int)), some (.int (w : Int)), some (.lst T), none, none, none, none] h3 = .ok (.ref h3.length) (h3 ++ [.lst []]) := by walk_at "xe"
  generalize h3 ++ [.lst []] = h4 at *
  generalize h3.length = p at *
  obtain ⟨v, o, hv, e5, b5⟩ := one_of_ok b _ h4 [.int 198, .int 199, .int 200] b4 (by omega) (by simp) (by simp)
  obtain ⟨y, hy2, hy, rfl⟩ : ∃ y : Nat, 2 ≤ y ∧ y ≤ 200 ∧ v = .int (y : Int) := by
    simp only [List.mem_cons, List.not_mem_nil, or_false] at hv
    rcases hv with rfl | rfl | rfl
    · exact ⟨198, by decide, by decide, rfl⟩
    · exact ⟨199, by decide, by decide, rfl⟩
    · exact ⟨200, by decide, by decide, rfl⟩
  have g5 : (h4.set b o)[p]? = some (.lst []) := by rw [List.getElem?_set_ne hp]; exact g4
  generalize h4.set b o = h5 at *
  obtain ⟨us2, w1, w2, w3⟩ := wt_cons c y hc hy2
  obtain ⟨R, hR⟩ := texts_pre c y hc us2 hy w2 (by omega) (by rw [← w1]; exact wt_ok c y (by omega) hy2 hy)
  rw [← w1] at hR
  obtain ⟨y5, e6⟩ := aa_loop b c w (.lst T) p none none R (by omega) ((wt c y).map stx) [] h5 none (by rw [w1]; simp) (by rw [w1]; simp [w3]) g5
  rw [List.nil_append, ← hR h5] at e6
  have b6 := b5.put hp (.lst ((wt c y).map stx))
  have hn5 := (List.getElem?_eq_some_iff.mp g5).1
  have g6 : (h5.set p (.lst ((wt c y).map stx)))[p]? = some (.lst ((wt c y).map stx)) := by simp [hn5]
  generalize h5.set p (.lst ((wt c y).map stx)) = h6 at *
  have af : aa_f (aa_s b c w (.lst T) p none none none) h4 = .nx (aa_s b c w (.lst T) p y5 none none) h6 := by
    unfold aa_f
    refine x_forG (ws := [.int (c : Int), .int (y : Int)]) (h1 := h5) ?_ e6
    unfold aa_w
    walk_at "xe"
  have rr := aa_r_ok c y w hc b (.lst T) p y5 none hy hy2 h6 g6
  have ix : nIx h6 (.ref p) (.int 0) = some (stx (List.replicate y 0)) := by
    refine o_ixR g6 ?_
    rw [w1]; simp [atI, ixN]
  have ly : nLen h6 [stx (List.replicate y 0)] = some (.int (y : Int)) := by
    have := len_tx (List.replicate y 0) h6 (by simp; omega)
    rw [List.length_replicate] at this; exact this
  have q1 : aa_l [some (.ref b), some (.int (c : Int)), some (.int (w : Int)), some (.lst T), none, none, none, none] h1 = .ok false h2 := by
    unfold aa_l
    walk_at "xe"
  have q2 : aa_t [some (.ref b), some (.int (c : Int)), some (.int (w : Int)), some (.lst T), none, none, none, none] h2 = .ok false h3 := by
    unfold aa_t
    walk_at "xe"
  generalize stx (List.replicate y 0) = Y at *
  refine ⟨h6, ?_, b6⟩
  rw [m_law_are_all_eq, b_aa_eq]
  walk_at "xe"
end N

set_option maxHeartbeats 4000000
namespace N
open PySem L2
/-- what is proved of a function: a row for each -/
local macro_rules
  | `(tactic| walk_at "xu") => `(tactic| fail)
/-- side facts -/
local macro_rules
  | `(tactic| walk_at "xs") => `(tactic| first | with_reducible assumption | omega | (simp only [List.length_cons, List.length_nil]; decide) | decide)
/-- facts of Bools -/
local macro_rules
  | `(tactic| walk_at "xk") => `(tactic| first | with_reducible exact rfl | with_reducible assumption | (exact decide_eq_true (by omega)) | (exact decide_eq_false (by omega)) | (simp; omega) | (simp; done))
local macro_rules
  | `(tactic| walk_at "xset") => `(tactic| (simp only [List.set_cons_succ, List.set_cons_zero]; first | done | rfl))
local macro_rules
  | `(tactic| walk_at "xo") => `(tactic| first
    | walk_at "xo1"
    | ((with_reducible apply o_mod) <;> walk_at "xs") | ((with_reducible apply o_div) <;> walk_at "xs") | ((with_reducible apply o_mul) <;> walk_at "xs") | ((with_reducible apply o_lenS) <;> walk_at "xs")
    | ((with_reducible apply o_rng1) <;> walk_at "xs") | ((with_reducible apply o_rng2) <;> walk_at "xs") | ((with_reducible refine o_ixR (by assumption) ?_); exact rfl)
    | ((with_reducible first
        | refine Eq.trans o_eqI (x_bl ?_) | refine Eq.trans o_neI (x_bl ?_) | refine Eq.trans o_lt (x_bl ?_) | refine Eq.trans o_ltT (x_bl ?_) | refine Eq.trans o_le (x_bl ?_) | refine Eq.trans o_gt (x_bl ?_) | refine Eq.trans o_ge (x_bl ?_) | refine Eq.trans o_eqB (x_bl ?_) | refine Eq.trans o_neB (x_bl ?_)
        | refine Eq.trans (o_eqS (by assumption) (by assumption)) (x_bl ?_) | refine Eq.trans (o_neS (by assumption) (by assumption)) (x_bl ?_)); walk_at "xk"))
local macro_rules
  | `(tactic| walk_at "xo1") => `(tactic| with_reducible first
    | exact o_add | exact o_sub | exact o_iadd | exact o_isub | exact o_lt | exact o_ltT | exact o_le | exact o_gt | exact o_ge | exact o_neg | exact o_eqI | exact o_neI | exact o_eqB | exact o_neB | exact o_reprB | exact o_addBB
    | exact o_intI | exact o_intB | exact o_abs | exact o_max | exact o_min | exact o_lenL | exact o_lenT | exact o_lenLo | exact o_lenTo
    | exact o_isiI | exact o_isiB | exact o_isiS | refine o_eqS (by assumption) (by assumption) | refine o_neS (by assumption) (by assumption)
    | refine o_lenR (by assumption))
local macro_rules
  | `(tactic| walk_at "x1") => `(tactic| first
    | with_reducible exact x_ok
    | with_reducible refine x_asm (by assumption)
    | with_reducible walk_at "xu"
    | with_reducible exact x_c | with_reducible exact x_nil | with_reducible exact x_noP | with_reducible exact x_next | with_reducible exact x_brk | with_reducible exact x_cnt | with_reducible exact x_retN
    | with_reducible exact x_krt | with_reducible exact x_kbk | with_reducible exact x_kct | with_reducible exact x_dnx | with_reducible exact x_drt
    | ((with_reducible apply x_var); exact rfl)
    | with_reducible apply x_op | with_reducible apply x_un | with_reducible apply x_cb | with_reducible apply x_call
    | with_reducible apply x_bm | with_reducible apply x_pm
    | with_reducible apply x_cons | with_reducible apply x_star | with_reducible apply x_b | with_reducible apply x_tru | with_reducible apply x_notT | with_reducible apply x_not
    | with_reducible apply x_andT | with_reducible apply x_orT | with_reducible apply x_and | with_reducible apply x_or | with_reducible apply x_ifE | with_reducible apply x_chain | with_reducible apply x_chain2
    | with_reducible apply x_tup | with_reducible apply x_lst | with_reducible apply x_lstN | with_reducible apply x_sl | with_reducible apply x_part
    | with_reducible apply x_it | with_reducible apply x_rng | with_reducible apply x_zip | with_reducible apply x_lc | with_reducible apply x_lcN
    | with_reducible apply x_seq | with_reducible apply x_knx | with_reducible apply x_drop | with_reducible apply x_ret | with_reducible apply x_ifS | with_reducible apply x_set | with_reducible apply x_par | with_reducible apply x_asg
    | with_reducible apply x_store | with_reducible apply x_aug | with_reducible apply x_for | with_reducible apply x_def
    | ((with_reducible apply x_t); focus (walk_at "xk"; done)) | ((with_reducible apply x_f); focus (walk_at "xk"; done))
    | with_reducible apply x_andV | with_reducible apply x_orV | with_reducible apply x_andS | with_reducible apply x_orS
    | with_reducible apply x_listG | with_reducible apply x_tupG
    | walk_at "xo"
    | ((with_reducible show List.set _ _ _ = _); walk_at "xset")
    | ((first
        | with_reducible show gN _ _ _ = _
        | with_reducible show gT _ _ _ = _); simp only [gT, gNs, gN, List.set_cons_succ, List.set_cons_zero]; first | done | exact rfl)
    | ((with_reducible show mNext _ _ = _); exact rfl)
    | ((with_reducible show wipeN _ _ = _); simp only [wipeN, List.set_cons_succ, List.set_cons_zero]; first | done | exact rfl)
    | ((with_reducible show List.map some _ ++ _ = _); simp only [List.map_cons, List.map_nil, List.length_cons, List.length_nil, List.cons_append, List.nil_append, List.replicate, Nat.reduceAdd, Nat.reduceSub]; exact rfl)
    | ((with_reducible show (_ : Nat) ≤ sizeLine); first | assumption | (simp only [List.length_cons, List.length_nil]; decide))
    | ((first
        | with_reducible show isT _ _ _ = _
        | with_reducible show itW _ _ = _
        | with_reducible show seqU _ _ = _
        | with_reducible show tru _ _ = _
        | with_reducible show zipW _ = _
        | with_reducible show setW _ _ _ _ = _
        | with_reducible show nIs _ _ _ = _
        | with_reducible show nIsN _ _ _ = _
        | with_reducible show nIx _ (W.tup _) (W.int _) = _
        | with_reducible show nIx _ (W.lst _) (W.int _) = _
        | with_reducible show nSl _ _ _ _ = _
        | with_reducible show _[_]? = _); exact rfl))
local macro_rules
  | `(tactic| walk_at "xe") => `(tactic| repeat walk_at "x1")
/-! ### the order of texts -/
def cmpB (a b : List Nat) : Bool := if ((a.length : Int) == (b.length : Int)) = true then (if (tx a == tx b) = true then decide (2 < 2) else decide ((tx a).cps.toList < (tx b).cps.toList)) else decide ((a.length : Int) < (b.length : Int))
theorem lt_pair (a b : List Nat) (h : List O) : nLtT h (.tup [.int (a.length : Int), stx a]) (.tup [.int (b.length : Int), stx b]) = some (.bl (cmpB a b)) := rfl
theorem rq4 (ds : List Nat) (h : List O) (hd : ∀ d ∈ ds, d < 4) (hl : ds.length ≤ 200) : m_require_text [.int 4, stx ds] h = .ok .non h := by
  have lm : (ds.map (48 + ·)).length ≤ 200 := by rw [List.length_map]; exact hl
  have e := it_of 4 (.inr rfl) (ds.map (48 + ·)) h (by omega)
  have a3 : (ds.all fun d => decide (d < 4)) = true := by rw [List.all_eq_true]; exact fun d hm => decide_eq_true (hd d hm)
  rw [allL_tx, a3, decide_eq_true lm, Bool.and_true, show ((4 : Nat) : Int) = 4 from rfl] at e
  have e : m_is_text_of [.int 4, stx ds] h = .ok (.bl true) h := e
  have t := tru_bl true h
  generalize stx ds = A at *
  rw [m_require_text_eq]
  unfold b_require_text
  walk_at "xe"
theorem len_stx (ds : List Nat) (h : List O) (hl : ds.length ≤ 200) : nLen h [stx ds] = some (.int ds.length) := len_tx ds h hl
theorem comes_ok (a b : List Nat) (h : List O) (ha : ∀ d ∈ a, d < 4) (hb : ∀ d ∈ b, d < 4) (la : a.length ≤ 200) (lb : b.length ≤ 200) : m_comes_ahead [stx a, stx b] h = .ok (.bl (cmpB a b)) h := by
  have r1 := rq4 a h ha la
  have r2 := rq4 b h hb lb
  have l1 := len_stx a h la
  have l2 := len_stx b h lb
  have lt := lt_pair a b h
  generalize stx a = A at *
  generalize stx b = B at *
  rw [m_comes_ahead_eq]
  unfold b_comes_ahead
  walk_at "xe"
def lexN : List Nat → List Nat → Bool
  | x :: xs, y :: ys => if x = y then lexN xs ys else decide (x < y)
  | _, _ => false
noncomputable def ah_b : MS := mIfS (mB (mOp nNe (mVar 2) (mVar 3))) (mRet (mOp nLtT (mBM "str" (pureM nIndex) (mC (.str "0123")) (mCons (mVar 2) mNil)) (mBM "str" (pureM nIndex) (mC (.str "0123")) (mCons (mVar 3) mNil)))) mNext
theorem index_ok (d : Nat) (hd : d < 4) (h : List O) : nIndex h (.str "0123") [sg d] = some (.int (d : Int)) := by
  rcases d with _ | _ | _ | _ | d
  · kernel_rfl
  · kernel_rfl
  · kernel_rfl
  · kernel_rfl
  · omega
theorem ne_sg (x y : Nat) (hx : x < 4) (hy : y < 4) (h : List O) : nNe h (sg x) (sg y) = some (.bl (!decide (x = y))) := by
  have e := o_neS (h := h) (i := tx [x]) (j := tx [y]) (ok_tx [x] (by simpa using hx)) (ok_tx [y] (by simpa using hy))
  have q : decide (tx [x] = tx [y]) = decide (x = y) := dec_eq ⟨fun e => by
    have e : (#[48 + x] : Array Nat) = #[48 + y] := congrArg Str.cps e
    have e := congrArg (fun a : Array Nat => a.toList) e
    simp at e
    exact e, fun e => by rw [e]⟩
  rw [q] at e
  exact e
theorem ah_loop (o1 o2 : Option W) (h : List O) : ∀ (a b : List Nat) (x2 x3 : Option W), a.length = b.length → (∀ d ∈ a, d < 4) → (∀ d ∈ b, d < 4) →
    (a = b → ∃ y2 y3, mForL (fun _ => true) (gT [(gN 2), (gN 3)]) ah_b (zipPs (a.map sg) (b.map sg)) [o1, o2, x2, x3] h = .nx [o1, o2, y2, y3] h) ∧
    (a ≠ b → mForL (fun _ => true) (gT [(gN 2), (gN 3)]) ah_b (zipPs (a.map sg) (b.map sg)) [o1, o2, x2, x3] h = .rt (.bl (lexN a b)) h)
  | [], [], x2, x3, _, _, _ => ⟨fun _ => ⟨x2, x3, rfl⟩, fun z => absurd rfl z⟩
  | [], _ :: _, _, _, hl, _, _ => by simp at hl
  | _ :: _, [], _, _, hl, _, _ => by simp at hl
  | x :: a, y :: b, x2, x3, hl, ha, hb => by
    have hx := ha x List.mem_cons_self
    have hy := hb y List.mem_cons_self
    have n := ne_sg x y hx hy h
    have i1 := index_ok x hx h
    have i2 := index_ok y hy h
    have g : gT [(gN 2), (gN 3)] (.tup [sg x, sg y]) [o1, o2, x2, x3] = some [o1, o2, some (sg x), some (sg y)] := rfl
    obtain ⟨ih1, ih2⟩ := ah_loop o1 o2 h a b (some (sg x)) (some (sg y)) (by simpa using hl) (fun d hd => ha d (List.mem_cons_of_mem _ hd)) (fun d hd => hb d (List.mem_cons_of_mem _ hd))
    by_cases e : x = y
    · subst e
      rw [show (!decide (x = x)) = false by simp] at n
      have hb : ah_b [o1, o2, some (sg x), some (sg x)] h = .nx [o1, o2, some (sg x), some (sg x)] h := by unfold ah_b; walk_at "xe"
      refine ⟨fun z => ?_, fun z => ?_⟩
      · obtain ⟨y2, y3, e2⟩ := ih1 (by injection z)
        exact ⟨y2, y3, forL_nx rfl g hb e2⟩
      · have := ih2 (fun q => z (by rw [q]))
        rw [show lexN (x :: a) (x :: b) = lexN a b by simp [lexN]]
        exact forL_nx rfl g hb this
    · rw [show (!decide (x = y)) = true by simp [e]] at n
      have lt := o_ltT (h := h) (i := (x : Int)) (j := (y : Int))
      rw [show decide ((x : Int) < (y : Int)) = decide (x < y) from dec_eq (by omega)] at lt
      have hb : ah_b [o1, o2, some (sg x), some (sg y)] h = .rt (.bl (decide (x < y))) h := by
        generalize decide (x < y) = k at *
        generalize sg x = A at *
        generalize sg y = B at *
        unfold ah_b
        walk_at "xe"
      refine ⟨fun z => absurd (by injection z) e, fun _ => ?_⟩
      rw [show lexN (x :: a) (y :: b) = decide (x < y) by simp [lexN, e]]
      show mForL _ _ _ (.tup [sg x, sg y] :: zipPs (a.map sg) (b.map sg)) _ _ = _
      unfold mForL
      rw [if_pos rfl, g]
      simp only []
      rw [hb]
def ahd (a b : List Nat) : Bool := if a.length = b.length then lexN a b else decide (a.length < b.length)
theorem lexN_same : ∀ a, lexN a a = false
  | [] => rfl
  | x :: a => by simp [lexN, lexN_same a]
theorem ahead_ok (a b : List Nat) (h : List O) (ha : ∀ d ∈ a, d < 4) (hb : ∀ d ∈ b, d < 4) (la : a.length ≤ 200) (lb : b.length ≤ 200) : m_law_ahead [stx a, stx b] h = .ok (.bl (ahd a b)) h := by
  have l1 := len_stx a h la
  have l2 := len_stx b h lb
  have nl := o_neI (h := h) (i := (a.length : Int)) (j := (b.length : Int))
  rw [m_law_ahead_eq]
  unfold b_law_ahead
  rw [show (mIfS (mB (mOp nNe (mVar 2) (mVar 3))) (mRet (mOp nLtT (mBM "str" (pureM nIndex) (mC (.str "0123")) (mCons (mVar 2) mNil)) (mBM "str" (pureM nIndex) (mC (.str "0123")) (mCons (mVar 3) mNil)))) mNext) = ah_b from rfl]
  by_cases e : a.length = b.length
  · rw [show (!decide ((a.length : Int) = (b.length : Int))) = false by simp [e]] at nl
    obtain ⟨k1, k2⟩ := ah_loop (some (stx a)) (some (stx b)) h a b none none e ha hb
    have zp : zipW [stx a, stx b] = some (zipPs (a.map sg) (b.map sg), fun _ => true) := by
      show some (zipPs (signsW (tx a)) (signsW (tx b)), fun _ => true) = _
      rw [signs_tx, signs_tx]
    unfold ahd
    rw [if_pos e]
    generalize zipPs (a.map sg) (b.map sg) = Z at *
    generalize stx a = A at *
    generalize stx b = B at *
    by_cases q : a = b
    · obtain ⟨y2, y3, e2⟩ := k1 q
      rw [q, lexN_same]
      walk_at "xe"
    · have e2 := k2 q
      generalize lexN a b = L at *
      walk_at "xe"
  · rw [show (!decide ((a.length : Int) = (b.length : Int))) = true by simp; omega] at nl
    have lt := o_ltT (h := h) (i := (a.length : Int)) (j := (b.length : Int))
    rw [show decide ((a.length : Int) < (b.length : Int)) = decide (a.length < b.length) from dec_eq (by omega)] at lt
    unfold ahd
    rw [if_neg e]
    generalize stx a = A at *
    generalize stx b = B at *
    generalize decide (a.length < b.length) = k at *
    walk_at "xe"
theorem lex_lt : ∀ a b : List Nat, a.length = b.length → (lexN a b = true ↔ a.map (48 + ·) < b.map (48 + ·))
  | [], [], _ => by simp [lexN]
  | [], _ :: _, h => by simp at h
  | _ :: _, [], h => by simp at h
  | x :: a, y :: b, h => by
    have ih := lex_lt a b (by simpa using h)
    rw [List.map_cons, List.map_cons, List.cons_lt_cons_iff]
    by_cases e : x = y
    · subst e
      rw [show lexN (x :: a) (x :: b) = lexN a b by simp [lexN], ih]
      simp
    · rw [show lexN (x :: a) (y :: b) = decide (x < y) by simp [lexN, e], decide_eq_true_eq]
      constructor
      · exact fun z => .inl (by omega)
      · rintro (z | ⟨z, _⟩)
        · omega
        · omega
theorem tx_inj (a b : List Nat) : tx a = tx b ↔ a = b := ⟨fun e => by
  have e : (a.map (48 + ·)).toArray = (b.map (48 + ·)).toArray := congrArg Str.cps e
  have e := List.toArray_inj e
  exact (List.map_inj_right (fun a b q => by omega)).mp e, fun e => by rw [e]⟩
theorem cmp_ahd (a b : List Nat) : cmpB a b = ahd a b := by
  unfold cmpB ahd
  by_cases e : a.length = b.length
  · rw [if_pos (by simp [e]), if_pos e]
    by_cases q : a = b
    · subst q
      rw [if_pos (by simp), lexN_same]; rfl
    · rw [if_neg (by simpa using fun z => q ((tx_inj a b).mp z))]
      have h1 : (tx a).cps.toList = a.map (48 + ·) := by simp [tx]
      have h2 : (tx b).cps.toList = b.map (48 + ·) := by simp [tx]
      rw [h1, h2, Bool.eq_iff_iff, decide_eq_true_eq]
      exact (lex_lt a b e).symm
  · rw [if_neg (by simp; omega), if_neg e]
    exact dec_eq (by omega)
theorem lex_tri : ∀ a b : List Nat, a.length = b.length → (if lexN a b = true then (1 : Int) else 0) + (if lexN b a = true then 1 else 0) + (if decide (a = b) = true then 1 else 0) = 1
  | [], [], _ => by simp [lexN]
  | [], _ :: _, h => by simp at h
  | _ :: _, [], h => by simp at h
  | x :: a, y :: b, h => by
    have ih := lex_tri a b (by simpa using h)
    by_cases e : x = y
    · subst e
      rw [show lexN (x :: a) (x :: b) = lexN a b by simp [lexN], show lexN (x :: b) (x :: a) = lexN b a by simp [lexN], show decide (x :: a = x :: b) = decide (a = b) from dec_eq (by simp)]
      exact ih
    · rw [show lexN (x :: a) (y :: b) = decide (x < y) by simp [lexN, e], show lexN (y :: b) (x :: a) = decide (y < x) by simp [lexN, Ne.symm e], show decide (x :: a = y :: b) = false by simp [e]]
      by_cases l : x < y
      · have : ¬ y < x := by omega
        simp [l, this]
      · have : y < x := by omega
        simp [l, this]
theorem ahd_tri (a b : List Nat) : (if ahd a b = true then (1 : Int) else 0) + (if ahd b a = true then 1 else 0) + (if decide (tx a = tx b) = true then 1 else 0) = 1 := by
  rw [show decide (tx a = tx b) = decide (a = b) from dec_eq (tx_inj a b)]
  unfold ahd
  by_cases e : a.length = b.length
  · rw [if_pos e, if_pos e.symm]
    exact lex_tri a b e
  · rw [if_neg e, if_neg (Ne.symm e)]
    have ne : a ≠ b := fun z => e (by rw [z])
    by_cases l : a.length < b.length
    · have : ¬ b.length < a.length := by omega
      simp [l, this, ne]
    · have : b.length < a.length := by omega
      simp [l, this, ne]
end N

set_option maxHeartbeats 4000000
namespace N
open PySem L2
/-- what is proved of a function: a row for each -/
local macro_rules
  | `(tactic| walk_at "xu") => `(tactic| fail)
/-- side facts -/
local macro_rules
  | `(tactic| walk_at "xs") => `(tactic| first | with_reducible assumption | omega | (simp only [List.length_cons, List.length_nil]; decide) | decide)
/-- facts of Bools -/
local macro_rules
  | `(tactic| walk_at "xk") => `(tactic| first | with_reducible exact rfl | with_reducible assumption | (exact decide_eq_true (by omega)) | (exact decide_eq_false (by omega)) | (simp; omega) | (simp; done))
local macro_rules
  | `(tactic| walk_at "xset") => `(tactic| (simp only [List.set_cons_succ, List.set_cons_zero]; first | done | rfl))
local macro_rules
  | `(tactic| walk_at "xo") => `(tactic| first
    | walk_at "xo1"
    | ((with_reducible apply o_mod) <;> walk_at "xs") | ((with_reducible apply o_div) <;> walk_at "xs") | ((with_reducible apply o_mul) <;> walk_at "xs") | ((with_reducible apply o_lenS) <;> walk_at "xs")
    | ((with_reducible apply o_rng1) <;> walk_at "xs") | ((with_reducible apply o_rng2) <;> walk_at "xs") | ((with_reducible refine o_ixR (by assumption) ?_); exact rfl)
    | ((with_reducible first
        | refine Eq.trans o_eqI (x_bl ?_) | refine Eq.trans o_neI (x_bl ?_) | refine Eq.trans o_lt (x_bl ?_) | refine Eq.trans o_ltT (x_bl ?_) | refine Eq.trans o_le (x_bl ?_) | refine Eq.trans o_gt (x_bl ?_) | refine Eq.trans o_ge (x_bl ?_) | refine Eq.trans o_eqB (x_bl ?_) | refine Eq.trans o_neB (x_bl ?_)
        | refine Eq.trans (o_eqS (by assumption) (by assumption)) (x_bl ?_) | refine Eq.trans (o_neS (by assumption) (by assumption)) (x_bl ?_)); walk_at "xk"))
local macro_rules
  | `(tactic| walk_at "xo1") => `(tactic| with_reducible first
    | exact o_add | exact o_sub | exact o_iadd | exact o_isub | exact o_lt | exact o_ltT | exact o_le | exact o_gt | exact o_ge | exact o_neg | exact o_eqI | exact o_neI | exact o_eqB | exact o_neB | exact o_reprB | exact o_addBB
    | exact o_intI | exact o_intB | exact o_abs | exact o_max | exact o_min | exact o_lenL | exact o_lenT | exact o_lenLo | exact o_lenTo
    | exact o_isiI | exact o_isiB | exact o_isiS | refine o_eqS (by assumption) (by assumption) | refine o_neS (by assumption) (by assumption)
    | refine o_lenR (by assumption))
local macro_rules
  | `(tactic| walk_at "x1") => `(tactic| first
    | with_reducible exact x_ok
    | with_reducible refine x_asm (by assumption)
    | with_reducible walk_at "xu"
    | with_reducible exact x_c | with_reducible exact x_nil | with_reducible exact x_noP | with_reducible exact x_next | with_reducible exact x_brk | with_reducible exact x_cnt | with_reducible exact x_retN
    | with_reducible exact x_krt | with_reducible exact x_kbk | with_reducible exact x_kct | with_reducible exact x_dnx | with_reducible exact x_drt
    | ((with_reducible apply x_var); exact rfl)
    | with_reducible apply x_op | with_reducible apply x_un | with_reducible apply x_cb | with_reducible apply x_call
    | with_reducible apply x_bm | with_reducible apply x_pm
    | with_reducible apply x_cons | with_reducible apply x_star | with_reducible apply x_b | with_reducible apply x_tru | with_reducible apply x_notT | with_reducible apply x_not
    | with_reducible apply x_andT | with_reducible apply x_orT | with_reducible apply x_and | with_reducible apply x_or | with_reducible apply x_ifE | with_reducible apply x_chain | with_reducible apply x_chain2
    | with_reducible apply x_tup | with_reducible apply x_lst | with_reducible apply x_lstN | with_reducible apply x_sl | with_reducible apply x_part
    | with_reducible apply x_it | with_reducible apply x_rng | with_reducible apply x_zip | with_reducible apply x_lc | with_reducible apply x_lcN
    | with_reducible apply x_seq | with_reducible apply x_knx | with_reducible apply x_drop | with_reducible apply x_ret | with_reducible apply x_ifS | with_reducible apply x_set | with_reducible apply x_par | with_reducible apply x_asg
    | with_reducible apply x_store | with_reducible apply x_aug | with_reducible apply x_for | with_reducible apply x_def
    | ((with_reducible apply x_t); focus (walk_at "xk"; done)) | ((with_reducible apply x_f); focus (walk_at "xk"; done))
    | with_reducible apply x_andV | with_reducible apply x_orV | with_reducible apply x_andS | with_reducible apply x_orS
    | with_reducible apply x_listG | with_reducible apply x_tupG
    | walk_at "xo"
    | ((with_reducible show List.set _ _ _ = _); walk_at "xset")
    | ((first
        | with_reducible show gN _ _ _ = _
        | with_reducible show gT _ _ _ = _); simp only [gT, gNs, gN, List.set_cons_succ, List.set_cons_zero]; first | done | exact rfl)
    | ((with_reducible show mNext _ _ = _); exact rfl)
    | ((with_reducible show wipeN _ _ = _); simp only [wipeN, List.set_cons_succ, List.set_cons_zero]; first | done | exact rfl)
    | ((with_reducible show List.map some _ ++ _ = _); simp only [List.map_cons, List.map_nil, List.length_cons, List.length_nil, List.cons_append, List.nil_append, List.replicate, Nat.reduceAdd, Nat.reduceSub]; exact rfl)
    | ((with_reducible show (_ : Nat) ≤ sizeLine); first | assumption | (simp only [List.length_cons, List.length_nil]; decide))
    | ((first
        | with_reducible show isT _ _ _ = _
        | with_reducible show itW _ _ = _
        | with_reducible show seqU _ _ = _
        | with_reducible show tru _ _ = _
        | with_reducible show zipW _ = _
        | with_reducible show setW _ _ _ _ = _
        | with_reducible show nIs _ _ _ = _
        | with_reducible show nIsN _ _ _ = _
        | with_reducible show nIx _ (W.tup _) (W.int _) = _
        | with_reducible show nIx _ (W.lst _) (W.int _) = _
        | with_reducible show nSl _ _ _ _ = _
        | with_reducible show _[_]? = _); exact rfl))
local macro_rules
  | `(tactic| walk_at "xe") => `(tactic| repeat walk_at "x1")
theorem get_set {b p : Nat} {h : List O} {o x : O} (hp : b ≠ p) (e : h[p]? = some x) : (h.set b o)[p]? = some x := by rw [List.getElem?_set_ne hp]; exact e
/-- only the bag is changed -/
def Frm (b : Nat) (h h' : List O) : Prop := ∀ q, b ≠ q → h'[q]? = h[q]?
theorem text_okF (b n : Nat) (h : List O) (c w : Nat) (hb : Bag b n h) (hn : n + w ≤ 1000000000) (hc : 1 ≤ c) (hc4 : c ≤ 4) (hw : w ≤ 1000) :
    ∃ ds h', m_law_text [.ref b, .int c, .int w] h = .ok (stx ds) h' ∧ ds.length = w ∧ (∀ d ∈ ds, d < c) ∧ Bag b (n + w) h' ∧ Frm b h h' := by
  obtain ⟨ys, h', e, hl, hr, hp⟩ := lc_inv (el := el_text) (i := 3) (σ := [some (.ref b), some (.int c), some (.int w), none]) (P := fun j h' => Bag b j h' ∧ Frm b h h') (R := fun y => ∃ d : Nat, d < c ∧ y = sg d) (rngW 0 w) [] n h (fun x hx j h1 hj hj2 hp => by
    rw [rng_len] at hj2
    obtain ⟨r, o, e, h0, h2, hb'⟩ := draw b j h1 c hp.1 (by omega) (by omega) (by omega)
    obtain ⟨d, rfl⟩ := Int.eq_ofNat_of_zero_le h0
    have hd : d < c := by omega
    have ds := digit_str d (h1.set b o) (by omega)
    refine ⟨sg d, h1.set b o, ?_, ⟨d, hd, rfl⟩, hb', fun q hq => (List.getElem?_set_ne hq).trans (hp.2 q hq)⟩
    generalize h1.set b o = h3 at *
    unfold el_text
    simp only [List.set_cons_succ, List.set_cons_zero]
    walk_at "xe") (by rw [rng_len]; exact sz (m := 1000) (by simp; omega)) ⟨hb, fun _ _ => rfl⟩
  rw [rng_len] at hl hp
  obtain ⟨ds, rfl, hd⟩ := sgs_of ys c hr
  rw [List.length_map] at hl
  rw [List.nil_append] at e
  have e3 : j_text [some (.ref b), some (.int c), some (.int w), none] h = .ok (.str (tx ds)) h' := joinS_ok (σ1 := [some (.ref b), some (.int c), some (.int w), none]) (rngW 0 w) ds
    (it_ok _ _ _ w hw h) rfl e (by omega)
  exact ⟨ds, h', b_run _ _ _ _ h h' e3, hl, hd, hp.1, hp.2⟩
/-- a drawn text that the law takes -/
def Tx (w : W) : Prop := ∃ ds : List Nat, w = stx ds ∧ (∀ d ∈ ds, d < 4) ∧ ds.length ≤ 200
noncomputable def ao_e : ME := mCall m_law_text (mCons (mVar 0) (mCons (mCall m_law_one_of (mCons (mVar 0) (mCons (mLst (mCons (mC (.int 2)) (mCons (mC (.int 4)) mNil))) mNil))) (mCons (mCall m_law_draw (mCons (mVar 0) (mCons (mC (.int 4)) mNil))) mNil)))
theorem ao_e_ok (b n : Nat) (x1 x2 x3 x4 x5 : Option W) (h : List O) (hb : Bag b n h) (hn : n ≤ 900000000) : ∃ y h', ao_e [some (.ref b), x1, x2, x3, x4, x5] h = .ok y h' ∧ (∃ ds, y = stx ds ∧ (∀ d ∈ ds, d < 4) ∧ ds.length ≤ 3) ∧ Bag b (n + 5) h' := by
  obtain ⟨v, o, hv, e1, b1⟩ := one_of_ok b n h [.int 2, .int 4] hb (by omega) (by simp) (by simp)
  obtain ⟨c, hc, rfl⟩ : ∃ c : Nat, (c = 2 ∨ c = 4) ∧ v = .int (c : Int) := by
    simp only [List.mem_cons, List.not_mem_nil, or_false] at hv
    rcases hv with rfl | rfl
    · exact ⟨2, .inl rfl, rfl⟩
    · exact ⟨4, .inr rfl, rfl⟩
  generalize h.set b o = h1 at *
  obtain ⟨r, o2, e2, r0, r1, b2⟩ := draw b (n + 1) h1 4 b1 (by omega) (by omega) (by omega)
  obtain ⟨w, rfl⟩ := Int.eq_ofNat_of_zero_le r0
  generalize h1.set b o2 = h2 at *
  obtain ⟨ds, h3, e3, l3, d3, b3⟩ := text_ok b (n + 1 + 1) h2 c w b2 (by omega) (by omega) (by omega) (by omega)
  refine ⟨stx ds, h3, ?_, ⟨ds, rfl, fun d hd => Nat.lt_of_lt_of_le (d3 d hd) (by omega), by omega⟩, b3.mono (by omega)⟩
  have e3 : m_law_text [.ref b, .int (c : Int), .int (w : Int)] h2 = .ok (stx ds) h3 := e3
  generalize stx ds = A at *
  unfold ao_e
  walk_at "xe"
noncomputable def ao_1 : ME := mLcN (mRng rng1 (mCons (mC (.int 2)) mNil)) (gN 5) mYes ao_e [5]
theorem ao_1_ok (b n : Nat) (h : List O) (hb : Bag b n h) (hn : n ≤ 800000000) : ∃ a1 a2 h', ao_1 [some (.ref b), none, none, none, none, none] h = .ok (.ref h'.length) (h' ++ [.lst [stx a1, stx a2]]) ∧ (∀ d ∈ a1, d < 4) ∧ a1.length ≤ 3 ∧ (∀ d ∈ a2, d < 4) ∧ a2.length ≤ 3 ∧ Bag b (n + 10) h' := by
  obtain ⟨ys, h', e, hl, hr, hp⟩ := lc_inv (el := ao_e) (i := 5) (σ := [some (.ref b), none, none, none, none, none]) (P := fun j h => Bag b (n + j * 5) h) (R := fun y => ∃ ds, y = stx ds ∧ (∀ d ∈ ds, d < 4) ∧ ds.length ≤ 3) (rngW 0 2) [] 0 h (fun x hx j h _ hj2 hp => by
      rw [rng_len] at hj2
      obtain ⟨y, h', e, r, b'⟩ := ao_e_ok b _ none none none none (some x) h hp (by omega)
      exact ⟨y, h', e, r, b'.mono (by omega)⟩) (by rw [rng_len]; decide) (by simpa using hb)
  rw [rng_len] at hl hp
  obtain ⟨y1, y2, rfl⟩ : ∃ y1 y2, ys = [y1, y2] := by
    match ys, hl with
    | [y1, y2], _ => exact ⟨y1, y2, rfl⟩
  obtain ⟨a1, rfl, d1, l1⟩ := hr y1 (by simp)
  obtain ⟨a2, rfl, d2, l2⟩ := hr y2 (by simp)
  rw [List.nil_append] at e
  have r : rng1 [.int 2] = some (rngW 0 2, fun _ => true) := rng1_ok 2 (by decide)
  refine ⟨a1, a2, h', ?_, d1, l1, d2, l2, hp.mono (by omega)⟩
  unfold ao_1
  walk_at "xe"
noncomputable def ao_2 : ME := mCall m_law_draw (mCons (mVar 0) (mCons (mOp nAdd (mCB (pureF nLen) (mCons (mOp nIx (mVar 1) (mC (.int 0))) mNil)) (mC (.int 1))) mNil))
noncomputable def ao_3 : ME := mOp nAdd (mOp nAdd (mSl (mOp nIx (mVar 1) (mC (.int 0))) mNoP (mPart (mVar 2))) (mCall m_law_one_of (mCons (mVar 0) (mCons (mLst (mCons (mC (.str "")) (mCons (mC (.str "0")) (mCons (mC (.str "1")) (mCons (mC (.str "3")) mNil))))) mNil)))) (mSl (mOp nIx (mVar 1) (mC (.int 0))) (mPart (mOp nAdd (mVar 2) (mCall m_law_draw (mCons (mVar 0) (mCons (mC (.int 2)) mNil))))) mNoP)
noncomputable def ao_4 : ME := mCall m_law_text (mCons (mVar 0) (mCons (mC (.int 4)) (mCons (mOp nAdd (mC (.int 199)) (mCall m_law_draw (mCons (mVar 0) (mCons (mC (.int 2)) mNil)))) mNil)))
noncomputable def ao_i : MS := mSeq (mIfS (mB (mOp nNe (mCB (pureF nRepr) (mCons (mCall m_comes_ahead (mCons (mVar 3) (mCons (mVar 4) mNil))) mNil)) (mCB (pureF nRepr) (mCons (mCall m_law_ahead (mCons (mVar 3) (mCons (mVar 4) mNil))) mNil)))) (mRet (mC (.bl false))) mNext)
    (mIfS (mB (mOp nNe (mOp nAdd (mOp nAdd (mCall m_comes_ahead (mCons (mVar 3) (mCons (mVar 4) mNil))) (mCall m_comes_ahead (mCons (mVar 4) (mCons (mVar 3) mNil)))) (mCB (pureF nInt) (mCons (mOp nEq (mVar 3) (mVar 4)) mNil))) (mC (.int 1)))) (mRet (mC (.bl false))) mNext)
theorem b_ao_eq : b_law_are_ordered = mSeq (mSet 1 ao_1) (mSeq (mSet 2 ao_2) (mSeq (mDrop (mBM "list" nAppend (mVar 1) (mCons ao_3 mNil))) (mSeq (mDrop (mBM "list" nAppend (mVar 1) (mCons ao_4 mNil)))
    (mSeq (mFor (mIt (mVar 1)) (gN 3) (mFor (mIt (mVar 1)) (gN 4) ao_i)) (mRet (mC (.bl true))))))) := rfl
theorem ao_i_ok (x0 x1 x2 x5 : Option W) (a b : List Nat) (h : List O) (ha : ∀ d ∈ a, d < 4) (hb : ∀ d ∈ b, d < 4) (la : a.length ≤ 200) (lb : b.length ≤ 200) : ao_i [x0, x1, x2, some (stx a), some (stx b), x5] h = .nx [x0, x1, x2, some (stx a), some (stx b), x5] h := by
  have c1 := comes_ok a b h ha hb la lb
  have c2 := comes_ok b a h hb ha lb la
  rw [cmp_ahd] at c1 c2
  have c3 := ahead_ok a b h ha hb la lb
  have tri := ahd_tri a b
  have q : nEq h (stx a) (stx b) = some (.bl (decide (tx a = tx b))) := o_eqS (ok_tx a ha) (ok_tx b hb)
  have rn := repr_ne (ahd a b) h
  generalize stx a = A at *
  generalize stx b = B at *
  generalize ahd a b = k1 at *
  generalize ahd b a = k2 at *
  generalize decide (tx a = tx b) = k3 at *
  have re := o_reprB (h := h) (b := k1)
  generalize (if k1 = true then ("True" : Str) else ("False" : Str)) = rr at *
  have ne : nNe h (.int ((if k1 = true then (1 : Int) else 0) + (if k2 = true then 1 else 0) + (if k3 = true then 1 else 0))) (.int 1) = some (.bl false) := by rw [o_neI, tri]; rfl
  unfold ao_i
  walk_at "xe"
theorem for_okC {g : MG} {b : MS} {chk : List O → Bool} {P : Slo → Prop} {Q : W → Prop} {h : List O} (hc : chk h = true) : ∀ (ws : List W) (σ : Slo), P σ → (∀ w ∈ ws, Q w) → (∀ w σ, Q w → P σ → ∃ σ1, g w σ = some σ1 ∧ ∃ σ2, b σ1 h = .nx σ2 h ∧ P σ2) → ∃ σ', P σ' ∧ mForL chk g b ws σ h = .nx σ' h
  | [], σ, hp, _, _ => ⟨σ, hp, by unfold mForL; rw [if_pos hc]⟩
  | w :: ws, σ, hp, hq, hb => by
    obtain ⟨σ1, e1, σ2, e2, p2⟩ := hb w σ (hq w List.mem_cons_self) hp
    obtain ⟨σ', p3, e3⟩ := for_okC hc ws σ2 p2 (fun x hx => hq x (List.mem_cons_of_mem _ hx)) hb
    exact ⟨σ', p3, forL_nx hc e1 e2 e3⟩
theorem it_ref (h : List O) (p : Nat) (ws : List W) (e : h[p]? = some (.lst ws)) : itW h (.ref p) = some (ws, chkL p ws) := by simp [itW, e]
theorem ao_f_ok (x0 x2 x3 x4 x5 : Option W) (p : Nat) (ws : List W) (h : List O) (e : h[p]? = some (.lst ws)) (ht : ∀ w ∈ ws, Tx w) : ∃ y3 y4, mFor (mIt (mVar 1)) (gN 3) (mFor (mIt (mVar 1)) (gN 4) ao_i) [x0, some (.ref p), x2, x3, x4, x5] h = .nx [x0, some (.ref p), x2, y3, y4, x5] h := by
  have it := it_ref h p ws e
  have ck := chkL_some e
  obtain ⟨σ', ⟨y3, y4, rfl⟩, e2⟩ := for_okC (g := gN 3) (b := mFor (mIt (mVar 1)) (gN 4) ao_i) (P := fun σ => ∃ y3 y4, σ = [x0, some (.ref p), x2, y3, y4, x5]) (Q := Tx) ck ws [x0, some (.ref p), x2, x3, x4, x5] ⟨_, _, rfl⟩ ht (by
    rintro w σ ⟨a, rfl, da, la⟩ ⟨y3, y4, rfl⟩
    obtain ⟨σ', ⟨z4, rfl⟩, e3⟩ := for_okC (g := gN 4) (b := ao_i) (P := fun σ => ∃ z4, σ = [x0, some (.ref p), x2, some (stx a), z4, x5]) (Q := Tx) ck ws [x0, some (.ref p), x2, some (stx a), y4, x5] ⟨_, rfl⟩ ht (by
      rintro w σ ⟨b, rfl, db, lb⟩ ⟨z4, rfl⟩
      exact ⟨_, rfl, _, ao_i_ok x0 (some (.ref p)) x2 x5 a b h da db la lb, _, rfl⟩)
    refine ⟨_, rfl, _, ?_, some (stx a), z4, rfl⟩
    simp only [List.set_cons_succ, List.set_cons_zero]
    generalize stx a = A at *
    walk_at "xe")
  refine ⟨y3, y4, ?_⟩
  walk_at "xe"
theorem cut_drop' (L : List Nat) (k : Nat) (hl : L.length ≤ 10000) (h : List O) : nSl h (.str (sx L)) (some (k : Int)) none = some (.str (sx (L.drop k))) := by
  by_cases hk : k ≤ L.length
  · exact cut_drop L k hk hl h
  · have z : (sx L).length ≤ sizeLine := by rw [sx_len]; exact sz hl
    show (if (sx L).length ≤ sizeLine then some (W.str (cutS (sx L) (some (k : Int)) none)) else none) = _
    rw [if_pos z]
    have e : cutS (sx L) (some (k : Int)) none = sx (L.drop k) := by
      unfold cutS
      rw [HT.sIx_none, HT.sIx_nat, sx_len, Nat.min_eq_right (by omega), Nat.sub_self, List.take_zero, List.drop_eq_nil_of_le (by omega)]
      rfl
    rw [e]
theorem sl_take (a : List Nat) (k : Nat) (hk : k ≤ a.length) (hl : a.length ≤ 1000) (h : List O) : nSl h (stx a) none (some (k : Int)) = some (stx (a.take k)) := by
  have e := cut_take (a.map (48 + ·)) k (by rw [List.length_map]; exact hk) (by rw [List.length_map]; omega) h
  rw [← List.map_take] at e
  exact e
theorem sl_drop (a : List Nat) (k : Nat) (hl : a.length ≤ 1000) (h : List O) : nSl h (stx a) (some (k : Int)) none = some (stx (a.drop k)) := by
  have e := cut_drop' (a.map (48 + ·)) k (by rw [List.length_map]; omega) h
  rw [← List.map_drop] at e
  exact e
theorem ao_3_ok (b n p : Nat) (k : Nat) (a1 a2 : List Nat) (x3 x4 x5 : Option W) (h : List O) (hb : Bag b n h) (hn : n ≤ 900000000) (hp : b ≠ p) (e : h[p]? = some (.lst [stx a1, stx a2])) (hd : ∀ d ∈ a1, d < 4) (hl : a1.length ≤ 3) (hk : k ≤ a1.length) :
    ∃ a3 h', ao_3 [some (.ref b), some (.ref p), some (.int (k : Int)), x3, x4, x5] h = .ok (stx a3) h' ∧ (∀ d ∈ a3, d < 4) ∧ a3.length ≤ 200 ∧ Bag b (n + 2) h' ∧ h'[p]? = some (.lst [stx a1, stx a2]) := by
  obtain ⟨v, o, hv, e1, b1⟩ := one_of_ok b n h [.str "", .str "0", .str "1", .str "3"] hb (by omega) (by simp) (by simp)
  obtain ⟨s, hs, ls, rfl⟩ : ∃ s : List Nat, (∀ d ∈ s, d < 4) ∧ s.length ≤ 1 ∧ v = stx s := by
    simp only [List.mem_cons, List.not_mem_nil, or_false] at hv
    rcases hv with rfl | rfl | rfl | rfl
    · exact ⟨[], by simp, by simp, rfl⟩
    · exact ⟨[0], by simp, by simp, rfl⟩
    · exact ⟨[1], by simp, by simp, rfl⟩
    · exact ⟨[3], by simp, by simp, rfl⟩
  have g1 := get_set (o := o) hp e
  generalize h.set b o = h1 at *
  obtain ⟨r, o2, e2, r0, r1, b2⟩ := draw b (n + 1) h1 2 b1 (by omega) (by omega) (by omega)
  obtain ⟨j, rfl⟩ := Int.eq_ofNat_of_zero_le r0
  have g2 := get_set (o := o2) hp g1
  generalize h1.set b o2 = h2 at *
  have t1 := sl_take a1 k hk (by omega) h
  have t2 := sl_drop a1 (k + j) (by omega) h2
  rw [show ((k + j : Nat) : Int) = (k : Int) + (j : Int) by omega] at t2
  have c1 := cat_tx (a1.take k) s (by simp; omega) (by omega) h1
  have c2 := cat_tx (a1.take k ++ s) (a1.drop (k + j)) (by simp; omega) (by simp; omega) h2
  have i1 : nIx h (.ref p) (.int 0) = some (stx a1) := o_ixR e rfl
  have i2 : nIx h1 (.ref p) (.int 0) = some (stx a1) := o_ixR g1 rfl
  refine ⟨a1.take k ++ s ++ a1.drop (k + j), h2, ?_, fun d hm => ?_, by simp; omega, b2, g2⟩
  · generalize stx (a1.take k ++ s ++ a1.drop (k + j)) = T1 at *
    generalize stx (a1.take k ++ s) = T2 at *
    generalize stx (a1.take k) = T3 at *
    generalize stx (a1.drop (k + j)) = T4 at *
    generalize stx a1 = T5 at *
    generalize stx s = T6 at *
    unfold ao_3
    walk_at "xe"
  · rcases List.mem_append.mp hm with hm | hm
    · rcases List.mem_append.mp hm with hm | hm
      · exact hd d (List.mem_of_mem_take hm)
      · exact hs d hm
    · exact hd d (List.mem_of_mem_drop hm)
theorem ao_4_ok (b n p : Nat) (x1 x2 x3 x4 x5 : Option W) (ws : List W) (h : List O) (hb : Bag b n h) (hn : n ≤ 900000000) (hp : b ≠ p) (e : h[p]? = some (.lst ws)) :
    ∃ a4 h', ao_4 [some (.ref b), x1, x2, x3, x4, x5] h = .ok (stx a4) h' ∧ (∀ d ∈ a4, d < 4) ∧ a4.length ≤ 200 ∧ Bag b (n + 202) h' ∧ h'[p]? = some (.lst ws) := by
  obtain ⟨r, o, e1, r0, r1, b1⟩ := draw b n h 2 hb (by omega) (by omega) (by omega)
  obtain ⟨j, rfl⟩ := Int.eq_ofNat_of_zero_le r0
  have g1 := get_set (o := o) hp e
  generalize h.set b o = h1 at *
  obtain ⟨ds, h2, e2, l2, d2, b2, f2⟩ := text_okF b (n + 1) h1 4 (199 + j) b1 (by omega) (by omega) (by omega) (by omega)
  rw [show ((4 : Nat) : Int) = 4 from rfl, show ((199 + j : Nat) : Int) = 199 + (j : Int) by omega] at e2
  refine ⟨ds, h2, ?_, d2, by omega, b2.mono (by omega), (f2 p hp).trans g1⟩
  generalize stx ds = T at *
  unfold ao_4
  walk_at "xe"
theorem ordered_ok (b n : Nat) (h : List O) (hb : Bag b n h) (hn : n ≤ 800000000) : ∃ h', m_law_are_ordered [.ref b] h = .ok (.bl true) h' ∧ Bag b (n + 300) h' := by
  obtain ⟨a1, a2, h1, e1, d1, l1, d2, l2, b1⟩ := ao_1_ok b n h hb hn
  have hp : b ≠ h1.length := Nat.ne_of_lt b1.lt
  have g1 := push_get h1 (.lst [stx a1, stx a2])
  have b2 := b1.app (.lst [stx a1, stx a2])
  generalize h1 ++ [.lst [stx a1, stx a2]] = h2 at *
  generalize h1.length = p at *
  obtain ⟨r, o, e2, r0, r1, b3⟩ := draw b _ h2 ((a1.length : Int) + 1) b2 (by omega) (by omega) (by omega)
  obtain ⟨k, rfl⟩ := Int.eq_ofNat_of_zero_le r0
  have g2 := get_set (o := o) hp g1
  generalize h2.set b o = h3 at *
  have i1 : nIx h2 (.ref p) (.int 0) = some (stx a1) := o_ixR g1 rfl
  have ln := len_stx a1 h2 (by omega)
  have q2 : ao_2 [some (.ref b), some (.ref p), none, none, none, none] h2 = .ok (.int (k : Int)) h3 := by
    generalize stx a1 = T at *
    unfold ao_2
    walk_at "xe"
  obtain ⟨a3, h4, e3, d3, l3, b4, g3⟩ := ao_3_ok b _ p k a1 a2 none none none h3 b3 (by omega) hp g2 d1 l1 (by omega)
  have ap1 := app_ok h4 p _ (stx a3) g3 (by simp)
  have t1 := isT_ref h3 p _ g2
  have hn4 := (List.getElem?_eq_some_iff.mp g3).1
  have g4 : (h4.set p (.lst ([stx a1, stx a2] ++ [stx a3])))[p]? = some (.lst ([stx a1, stx a2] ++ [stx a3])) := by simp [hn4]
  have b5 := b4.put hp (.lst ([stx a1, stx a2] ++ [stx a3]))
  generalize h4.set p (.lst ([stx a1, stx a2] ++ [stx a3])) = h5 at *
  obtain ⟨a4, h6, e4, d4, l4, b6, g5⟩ := ao_4_ok b _ p (some (.ref p)) (some (.int (k : Int))) none none none _ h5 b5 (by omega) hp g4
  have ap2 := app_ok h6 p _ (stx a4) g5 (by simp)
  have t2 := isT_ref h5 p _ g4
  have hn6 := (List.getElem?_eq_some_iff.mp g5).1
  have g6 : (h6.set p (.lst ([stx a1, stx a2] ++ [stx a3] ++ [stx a4])))[p]? = some (.lst ([stx a1, stx a2] ++ [stx a3] ++ [stx a4])) := by simp [hn6]
  have b7 := b6.put hp (.lst ([stx a1, stx a2] ++ [stx a3] ++ [stx a4]))
  generalize h6.set p (.lst ([stx a1, stx a2] ++ [stx a3] ++ [stx a4])) = h7 at *
  obtain ⟨y3, y4, f⟩ := ao_f_ok (some (.ref b)) (some (.int (k : Int))) none none none p _ h7 g6 (by
    intro w hw
    simp only [List.cons_append, List.nil_append, List.mem_cons, List.not_mem_nil, or_false] at hw
    rcases hw with rfl | rfl | rfl | rfl
    · exact ⟨a1, rfl, d1, by omega⟩
    · exact ⟨a2, rfl, d2, by omega⟩
    · exact ⟨a3, rfl, d3, l3⟩
    · exact ⟨a4, rfl, d4, l4⟩)
  refine ⟨h7, ?_, b7.mono (by omega)⟩
  generalize stx a3 = T3 at *
  generalize stx a4 = T4 at *
  rw [m_law_are_ordered_eq, b_ao_eq]
  walk_at "xe"
end N

set_option maxHeartbeats 4000000
namespace N
open PySem L2
/-- what is proved of a function: a row for each -/
local macro_rules
  | `(tactic| walk_at "xu") => `(tactic| fail)
/-- side facts -/
local macro_rules
  | `(tactic| walk_at "xs") => `(tactic| first | with_reducible assumption | omega | (simp only [List.length_cons, List.length_nil]; decide) | decide)
/-- facts of Bools -/
local macro_rules
  | `(tactic| walk_at "xk") => `(tactic| first | with_reducible exact rfl | with_reducible assumption | (exact decide_eq_true (by omega)) | (exact decide_eq_false (by omega)) | (simp; omega) | (simp; done))
local macro_rules
  | `(tactic| walk_at "xset") => `(tactic| (simp only [List.set_cons_succ, List.set_cons_zero]; first | done | rfl))
local macro_rules
  | `(tactic| walk_at "xo") => `(tactic| first
    | walk_at "xo1"
    | ((with_reducible apply o_mod) <;> walk_at "xs") | ((with_reducible apply o_div) <;> walk_at "xs") | ((with_reducible apply o_mul) <;> walk_at "xs") | ((with_reducible apply o_lenS) <;> walk_at "xs")
    | ((with_reducible apply o_rng1) <;> walk_at "xs") | ((with_reducible apply o_rng2) <;> walk_at "xs") | ((with_reducible refine o_ixR (by assumption) ?_); exact rfl)
    | ((with_reducible first
        | refine Eq.trans o_eqI (x_bl ?_) | refine Eq.trans o_neI (x_bl ?_) | refine Eq.trans o_lt (x_bl ?_) | refine Eq.trans o_ltT (x_bl ?_) | refine Eq.trans o_le (x_bl ?_) | refine Eq.trans o_gt (x_bl ?_) | refine Eq.trans o_ge (x_bl ?_) | refine Eq.trans o_eqB (x_bl ?_) | refine Eq.trans o_neB (x_bl ?_)
        | refine Eq.trans (o_eqS (by assumption) (by assumption)) (x_bl ?_) | refine Eq.trans (o_neS (by assumption) (by assumption)) (x_bl ?_)); walk_at "xk"))
local macro_rules
  | `(tactic| walk_at "xo1") => `(tactic| with_reducible first
    | exact o_add | exact o_sub | exact o_iadd | exact o_isub | exact o_lt | exact o_ltT | exact o_le | exact o_gt | exact o_ge | exact o_neg | exact o_eqI | exact o_neI | exact o_eqB | exact o_neB | exact o_reprB | exact o_addBB
    | exact o_intI | exact o_intB | exact o_abs | exact o_max | exact o_min | exact o_lenL | exact o_lenT | exact o_lenLo | exact o_lenTo
    | exact o_isiI | exact o_isiB | exact o_isiS | refine o_eqS (by assumption) (by assumption) | refine o_neS (by assumption) (by assumption)
    | refine o_lenR (by assumption))
local macro_rules
  | `(tactic| walk_at "x1") => `(tactic| first
    | with_reducible exact x_ok
    | with_reducible refine x_asm (by assumption)
    | with_reducible walk_at "xu"
    | with_reducible exact x_c | with_reducible exact x_nil | with_reducible exact x_noP | with_reducible exact x_next | with_reducible exact x_brk | with_reducible exact x_cnt | with_reducible exact x_retN
    | with_reducible exact x_krt | with_reducible exact x_kbk | with_reducible exact x_kct | with_reducible exact x_dnx | with_reducible exact x_drt
    | ((with_reducible apply x_var); exact rfl)
    | with_reducible apply x_op | with_reducible apply x_un | with_reducible apply x_cb | with_reducible apply x_call
    | with_reducible apply x_bm | with_reducible apply x_pm
    | with_reducible apply x_cons | with_reducible apply x_star | with_reducible apply x_b | with_reducible apply x_tru | with_reducible apply x_notT | with_reducible apply x_not
    | with_reducible apply x_andT | with_reducible apply x_orT | with_reducible apply x_and | with_reducible apply x_or | with_reducible apply x_ifE | with_reducible apply x_chain | with_reducible apply x_chain2
    | with_reducible apply x_tup | with_reducible apply x_lst | with_reducible apply x_lstN | with_reducible apply x_sl | with_reducible apply x_part
    | with_reducible apply x_it | with_reducible apply x_rng | with_reducible apply x_zip | with_reducible apply x_lc | with_reducible apply x_lcN
    | with_reducible apply x_seq | with_reducible apply x_knx | with_reducible apply x_drop | with_reducible apply x_ret | with_reducible apply x_ifS | with_reducible apply x_set | with_reducible apply x_par | with_reducible apply x_asg
    | with_reducible apply x_store | with_reducible apply x_aug | with_reducible apply x_for | with_reducible apply x_def
    | ((with_reducible apply x_t); focus (walk_at "xk"; done)) | ((with_reducible apply x_f); focus (walk_at "xk"; done))
    | with_reducible apply x_andV | with_reducible apply x_orV | with_reducible apply x_andS | with_reducible apply x_orS
    | with_reducible apply x_listG | with_reducible apply x_tupG
    | walk_at "xo"
    | ((with_reducible show List.set _ _ _ = _); walk_at "xset")
    | ((first
        | with_reducible show gN _ _ _ = _
        | with_reducible show gT _ _ _ = _); simp only [gT, gNs, gN, List.set_cons_succ, List.set_cons_zero]; first | done | exact rfl)
    | ((with_reducible show mNext _ _ = _); exact rfl)
    | ((with_reducible show wipeN _ _ = _); simp only [wipeN, List.set_cons_succ, List.set_cons_zero]; first | done | exact rfl)
    | ((with_reducible show List.map some _ ++ _ = _); simp only [List.map_cons, List.map_nil, List.length_cons, List.length_nil, List.cons_append, List.nil_append, List.replicate, Nat.reduceAdd, Nat.reduceSub]; exact rfl)
    | ((with_reducible show (_ : Nat) ≤ sizeLine); first | assumption | (simp only [List.length_cons, List.length_nil]; decide))
    | ((first
        | with_reducible show isT _ _ _ = _
        | with_reducible show itW _ _ = _
        | with_reducible show seqU _ _ = _
        | with_reducible show tru _ _ = _
        | with_reducible show zipW _ = _
        | with_reducible show setW _ _ _ _ = _
        | with_reducible show nIs _ _ _ = _
        | with_reducible show nIsN _ _ _ = _
        | with_reducible show nIx _ (W.tup _) (W.int _) = _
        | with_reducible show nIx _ (W.lst _) (W.int _) = _
        | with_reducible show nSl _ _ _ _ = _
        | with_reducible show _[_]? = _); exact rfl))
local macro_rules
  | `(tactic| walk_at "xe") => `(tactic| repeat walk_at "x1")
noncomputable def la_r : MI := mRng rng1 (mCons (mCB (pureF nMax) (mCons (mC (.int 1)) (mCons (mCB (pureF nMin) (mCons (mC (.int 3)) (mCons (mCB (pureF nLen) (mCons (mVar 0) mNil)) mNil))) mNil))) mNil)
noncomputable def la_t : MS := mSeq (mSet 2 (mCall m_law_bag (mCons (mVar 0) (mCons (mVar 1) mNil))))
    (mSeq (mSet 3 (mCall m_law_one_of (mCons (mVar 2) (mCons (mLst (mCons (mC (.int 2)) (mCons (mC (.int 4)) mNil))) mNil))))
    (mIfS (mOrT (mNotT (mTru (mCall m_law_are_texts (mCons (mVar 2) (mCons (mVar 3) mNil))))) (mOrT (mNotT (mTru (mCall m_law_are_all (mCons (mVar 2) (mCons (mVar 3) mNil))))) (mNotT (mTru (mCall m_law_are_ordered (mCons (mVar 2) mNil)))))) (mRet (mC (.bl false))) mNext))
theorem b_la_eq : b_law = mSeq (mFor la_r (gN 1) la_t) (mRet (mOp nEq (mC w_MAX_WIDTH) (mC (.int 200)))) := rfl
theorem la_r_ok (ws : List W) (x1 x2 x3 : Option W) (h : List O) : ∃ k : Nat, k ≤ 3 ∧ la_r [some (.lro ws), x1, x2, x3] h = .ok (rngW 0 k, fun _ => true) h := by
  obtain ⟨m, hm⟩ : ∃ m : Int, m = if ((ws.length : Int)) < 3 then (ws.length : Int) else 3 := ⟨_, rfl⟩
  have m3 : m ≤ 3 ∧ 0 ≤ m := by split at hm <;> omega
  obtain ⟨k, hk⟩ : ∃ k : Nat, (k : Int) = if m > 1 then m else 1 := ⟨(if m > 1 then m else 1).toNat, by split <;> omega⟩
  have k3 : k ≤ 3 := by split at hk <;> omega
  have e1 : nMin h [.int 3, .int (ws.length : Int)] = some (.int m) := by rw [o_min, hm]
  have e2 : nMax h [.int 1, .int m] = some (.int k) := by rw [o_max, hk]
  have e3 := rng1_ok k (by omega)
  refine ⟨k, k3, ?_⟩
  unfold la_r
  walk_at "xe"
theorem la_t_ok (ns : List Int) (i : Nat) (hi : i ≤ 3) (x2 x3 : Option W) (h : List O) : ∃ y2 y3 h', la_t [some (.lro (ns.map W.int)), some (.int (i : Int)), x2, x3] h = .nx [some (.lro (ns.map W.int)), some (.int (i : Int)), y2, y3] h' := by
  obtain ⟨o, e1, b1⟩ := bag_ok ns i (by omega) h
  generalize h ++ [o] = h1 at *
  generalize h.length = p at *
  obtain ⟨v, o, hv, e2, b2⟩ := one_of_ok p 0 h1 [.int 2, .int 4] b1 (by omega) (by simp) (by simp)
  obtain ⟨c, hc, rfl⟩ : ∃ c : Nat, (c = 2 ∨ c = 4) ∧ v = .int (c : Int) := by
    simp only [List.mem_cons, List.not_mem_nil, or_false] at hv
    rcases hv with rfl | rfl
    · exact ⟨2, .inl rfl, rfl⟩
    · exact ⟨4, .inr rfl, rfl⟩
  generalize h1.set p o = h2 at *
  obtain ⟨h3, e3, b3⟩ := are_texts_ok p _ c hc h2 b2 (by omega)
  obtain ⟨h4, e4, b4⟩ := are_all_ok p _ c hc h3 b3 (by omega)
  obtain ⟨h5, e5, b5⟩ := ordered_ok p _ h4 b4 (by omega)
  have t3 := tru_bl true h3
  have t4 := tru_bl true h4
  have t5 := tru_bl true h5
  refine ⟨some (.ref p), some (.int (c : Int)), h5, ?_⟩
  unfold la_t
  walk_at "xe"
theorem law_true : ∀ ns : List Int, ns.length ≤ 63 → ∃ h, m_law [.lro (ns.map W.int)] [] = .ok (.bl true) h := by
  intro ns _
  obtain ⟨k, hk, e1⟩ := la_r_ok (ns.map W.int) none none none []
  obtain ⟨σ', h', ⟨x1, x2, x3, rfl⟩, e2⟩ := for_okH (g := gN 1) (b := la_t) (P := fun σ _ => ∃ x1 x2 x3, σ = [some (.lro (ns.map W.int)), x1, x2, x3]) (Q := fun v => ∃ i : Nat, i ≤ 3 ∧ v = .int (i : Int)) (rngW 0 k) [some (.lro (ns.map W.int)), none, none, none] [] ⟨_, _, _, rfl⟩
    (fun v hv => by
      obtain ⟨i, hi, rfl⟩ := List.mem_map.mp hv
      exact ⟨i, by simp at hi; omega, by simp⟩)
    (by
      rintro v σ h ⟨i, hi, rfl⟩ ⟨x1, x2, x3, rfl⟩
      obtain ⟨y2, y3, h', e⟩ := la_t_ok ns i hi x2 x3 h
      exact ⟨_, rfl, _, h', e, _, _, _, rfl⟩)
  refine ⟨h', ?_⟩
  have q : nEq h' w_MAX_WIDTH (.int 200) = some (.bl true) := by unfold w_MAX_WIDTH; exact o_eqI.trans (x_bl rfl)
  rw [m_law_eq, b_la_eq]
  walk_at "xe"
end N

set_option maxHeartbeats 4000000
open PySem L2
namespace N
theorem hu64 {k : Nat} {A : Around} (h : Room k A) : A.units + 64 < cLine := by have := h.un; omega
theorem hu65 {k : Nat} {A : Around} (h : Room k A) : A.units + 65 < cLine := by have := h.un; omega
theorem hu0 {k : Nat} {A : Around} (h : Room k A) : A.units < cLine := by have := h.un; omega
theorem hu1 {k : Nat} {A : Around} (h : Room k A) : A.units + 1 < cLine := by have := h.un; omega
structure Txt (K : PySem.W.Frag) (mg : Str → Option Value) : Prop where
  b_len : mg "len" = none
  b_sum : mg "sum" = none
  b_abs : mg "abs" = none
  b_int : mg "int" = none
  b_max : mg "max" = none
  b_range : mg "range" = none
  b_str : mg "str" = none
  b_list : mg "list" = none
  b_isinstance : mg "isinstance" = none
  b_bool : mg "bool" = none
  b_all : mg "all" = none
  b_repr : mg "repr" = none
  b_tuple : mg "tuple" = none
  b_zip : mg "zip" = none
  b_min : mg "min" = none
  c_INTEGER_BOUND : ∃ u v, mg "INTEGER_BOUND" = some u ∧ RelV v u ∧ ∀ ι H, RW K mg ι H w_INTEGER_BOUND v
  c_BOTH_LETTERS : ∃ u v, mg "BOTH_LETTERS" = some u ∧ RelV v u ∧ ∀ ι H, RW K mg ι H w_BOTH_LETTERS v
  c_MAX_WIDTH : ∃ u v, mg "MAX_WIDTH" = some u ∧ RelV v u ∧ ∀ ι H, RW K mg ι H w_MAX_WIDTH v
  c_LETTERS : ∃ u v, mg "LETTERS" = some u ∧ RelV v u ∧ ∀ ι H, RW K mg ι H w_LETTERS v
section
variable {P : Program} {w : World} {K : PySem.W.Frag} {mg : Str → Option Value} {base : Heap}
theorem sc_law_bag : FnScope N_law_bag P_law_bag (defScope s_law_bag) := ⟨rfl, rfl, rfl, by decide +kernel, rfl, by decide +kernel, by decide +kernel⟩
theorem ok_law_bag (F : FunD K mg "_law_bag" s_law_bag P_law_bag) (T : Txt K mg)  : Def P w K mg base 1 "_law_bag" P_law_bag m_law_bag :=
  by
  rw [m_law_bag_eq]
  exact FunD.ok F sc_law_bag (fun f cdv A outer s H E hr =>
    (nss_cons (ns_set (i := 2) sc_law_bag.nd rfl (Or.inl rfl) (ne_if (nt_cmp (on_ltT (hu0 hr)) (ne_var (pv 1)) (ne_callB cn_len (by rfl) T.b_len (by decide +kernel) (na_cons (ne_var (pv 0)) na_nil)) (nomark _)) (ne_ix (hu1 hr) (ne_var (pv 0)) (ne_var (pv 1)) (fun _ _ => rfl)) (ne_op on_add (ne_op on_add (ne_callB (cn_sum (by rfl)) (by rfl) T.b_sum (by decide +kernel) (na_cons (ne_sl (ne_var (pv 0)) no_none (no_some ne_int)) na_nil)) (ne_op on_mul ne_int (ne_var (pv 1)))) ne_int)))
      (nss_cons (ns_set (i := 3) sc_law_bag.nd rfl (Or.inl rfl) (ne_op on_mod (ne_callTy cn_int (by rfl) T.b_int (by decide +kernel) (na_cons (ne_callB cn_abs (by rfl) T.b_abs (by decide +kernel) (na_cons (ne_var (pv 2)) na_nil)) na_nil)) (ne_op on_pow (ne_op on_pow ne_int ne_int) ne_int)))
      (nss_cons (ns_set (i := 4) sc_law_bag.nd rfl (Or.inl rfl) (ne_op on_add (ne_op on_add (ne_op on_add (ne_op on_mul (ne_op on_mod (ne_callTy cn_int (by rfl) T.b_int (by decide +kernel) (na_cons (ne_var (pv 3)) na_nil)) ne_int) ne_int) (ne_op on_mul ne_int (ne_var (pv 1)))) (ne_op on_mul ne_int (ne_callTy cn_int (by rfl) T.b_int (by decide +kernel) (na_cons (ne_cmp (on_ltT (hu0 hr)) (ne_var (pv 2)) ne_int (nomark _)) na_nil)))) ne_int))
      (nss_one (ns_ret (ne_lstN (na_cons (ne_callB (cn_max (by rfl)) (by rfl) T.b_max (by decide +kernel) (na_cons ne_int (na_cons (ne_op on_sub (ne_var (pv 3)) (ne_op on_pow ne_int ne_int)) na_nil))) (na_cons (ne_op on_mod (ne_callTy cn_int (by rfl) T.b_int (by decide +kernel) (na_cons (ne_var (pv 4)) na_nil)) ne_int) (na_cons ne_int na_nil))))))))))
theorem sc_law_draw : FnScope N_law_draw P_law_draw (defScope s_law_draw) := ⟨rfl, rfl, rfl, by decide +kernel, rfl, by decide +kernel, by decide +kernel⟩
theorem ok_law_draw (F : FunD K mg "_law_draw" s_law_draw P_law_draw) (T : Txt K mg)  : Def P w K mg base 1 "_law_draw" P_law_draw m_law_draw :=
  by
  rw [m_law_draw_eq]
  exact FunD.ok F sc_law_draw (fun f cdv A outer s H E hr =>
    (nss_cons (ns_if (nt_cmp on_gt (ne_ix (hu1 hr) (ne_var (pv 0)) ne_int (fun _ _ => rfl)) ne_int (nomark _)) (nss_cons (ns_set (i := 2) sc_law_draw.nd rfl (Or.inl rfl) (ne_op on_mod (ne_callTy cn_int (by rfl) T.b_int (by decide +kernel) (na_cons (ne_ix (hu1 hr) (ne_var (pv 0)) ne_int (fun _ _ => rfl)) na_nil)) (ne_var (pv 1))))
      (nss_cons (ns_store (hu1 hr) (ne_var (pv 0)) ne_int (ne_op on_div (ne_ix (hu1 hr) (ne_var (pv 0)) ne_int (fun _ _ => rfl)) (ne_var (pv 1))))
      (nss_one (ns_ret (ne_var (pv 2)))))) nss_nil)
      (nss_cons (ns_store (hu1 hr) (ne_var (pv 0)) ne_int (ne_op on_add (ne_ix (hu1 hr) (ne_var (pv 0)) ne_int (fun _ _ => rfl)) ne_int))
      (nss_cons (ns_set (i := 3) sc_law_draw.nd rfl (Or.inl rfl) (ne_op on_mod (ne_callTy cn_int (by rfl) T.b_int (by decide +kernel) (na_cons (ne_op on_add (ne_ix (hu1 hr) (ne_var (pv 0)) ne_int (fun _ _ => rfl)) (ne_op on_mul ne_int (ne_ix (hu1 hr) (ne_var (pv 0)) ne_int (fun _ _ => rfl)))) na_nil)) ne_int))
      (nss_cons (ns_set (i := 4) sc_law_draw.nd rfl (Or.inl rfl) (ne_op on_add (ne_op on_mul (ne_op on_mod (ne_callTy cn_int (by rfl) T.b_int (by decide +kernel) (na_cons (ne_op on_mul (ne_var (pv 3)) (ne_var (pv 3))) na_nil)) ne_int) (ne_var (pv 3))) (ne_op on_mul ne_int (ne_ix (hu1 hr) (ne_var (pv 0)) ne_int (fun _ _ => rfl)))))
      (nss_one (ns_ret (ne_op on_mod (ne_callTy cn_int (by rfl) T.b_int (by decide +kernel) (na_cons (ne_op on_div (ne_op on_mod (ne_callTy cn_int (by rfl) T.b_int (by decide +kernel) (na_cons (ne_var (pv 4)) na_nil)) ne_int) ne_int) na_nil)) (ne_var (pv 1))))))))))
theorem sc_law_one_of : FnScope N_law_one_of P_law_one_of (defScope s_law_one_of) := ⟨rfl, rfl, rfl, by decide +kernel, rfl, by decide +kernel, by decide +kernel⟩
theorem ok_law_one_of (F : FunD K mg "_law_one_of" s_law_one_of P_law_one_of) (T : Txt K mg) (D__law_draw : Def P w K mg base 1 "_law_draw" P_law_draw m_law_draw) : Def P w K mg base 2 "_law_one_of" P_law_one_of m_law_one_of :=
  by
  rw [m_law_one_of_eq]
  exact FunD.ok F sc_law_one_of (fun f cdv A outer s H E hr =>
    (nss_one (ns_ret (ne_ix (hu1 hr) (ne_var (pv 1)) (ne_call D__law_draw (hr.mono (by decide)) (by rfl) (by rfl) (takes_of rfl rfl rfl rfl) (na_cons (ne_var (pv 0)) (na_cons (ne_callB cn_len (by rfl) T.b_len (by decide +kernel) (na_cons (ne_var (pv 1)) na_nil)) na_nil)) (fun _ _ _ _ e => len_cons (fun _ _ _ _ e => len_cons (fun _ _ _ _ e => len_nil e) e) e)) (fun _ _ => rfl)))))
theorem sc_law_text : FnScope N_law_text P_law_text (defScope s_law_text) := ⟨rfl, rfl, rfl, by decide +kernel, rfl, by decide +kernel, by decide +kernel⟩
theorem ok_law_text (F : FunD K mg "_law_text" s_law_text P_law_text) (T : Txt K mg) (D__law_draw : Def P w K mg base 1 "_law_draw" P_law_draw m_law_draw) : Def P w K mg base 2 "_law_text" P_law_text m_law_text :=
  by
  rw [m_law_text_eq]
  exact FunD.ok F sc_law_text (fun f cdv A outer s H E hr =>
    (nss_one (ns_ret (ne_bm PySem.F.plainAttrs_str PySem.F.slot_str_join PySem.F.type_str_join mn_join ne_str (na_cons (ne_lc (own := [("_law_turn", 3)]) (by rfl) sc_law_text.nd (ni_range1 (by rfl) T.b_range (na_cons (ne_var (pv 2)) na_nil)) (blkOk_by (N := N_law_text) (sc := defScope s_law_text) (by decide +kernel)) (ts := [3]) (g := (gN 3)) (by decide) (fun _ _ _ _ _ => (ng_name (i := 3) sc_law_text.nd rfl (Or.inl rfl))) (fun _ _ _ _ _ => nts_nil) (fun _ _ _ _ _ => (ne_callTy cn_str (by rfl) T.b_str (by decide +kernel) (na_cons (ne_call D__law_draw (hr.mono (by decide)) (by rfl) (by rfl) takes0 (na_cons (ne_var (pv 0)) (na_cons (ne_var (pv 1)) na_nil)) (fun _ _ _ _ e => len_cons (fun _ _ _ _ e => len_cons (fun _ _ _ _ e => len_nil e) e) e)) na_nil)))) na_nil)))))
theorem sc_law_near_text : FnScope N_law_near_text P_law_near_text (defScope s_law_near_text) := ⟨rfl, rfl, rfl, by decide +kernel, rfl, by decide +kernel, by decide +kernel⟩
theorem ok_law_near_text (F : FunD K mg "_law_near_text" s_law_near_text P_law_near_text) (T : Txt K mg) (D__law_one_of : Def P w K mg base 2 "_law_one_of" P_law_one_of m_law_one_of) (D__law_draw : Def P w K mg base 1 "_law_draw" P_law_draw m_law_draw) (D__law_text : Def P w K mg base 2 "_law_text" P_law_text m_law_text) : Def P w K mg base 3 "_law_near_text" P_law_near_text m_law_near_text :=
  by
  rw [m_law_near_text_eq]
  exact FunD.ok F sc_law_near_text (fun f cdv A outer s H E hr =>
    (nss_cons (ns_set (i := 2) sc_law_near_text.nd rfl (Or.inl rfl) (ne_call D__law_one_of (hr.mono (by decide)) (by rfl) (by rfl) (takes_of rfl rfl rfl rfl) (na_cons (ne_var (pv 0)) (na_cons (ne_lst (na_cons ne_int (na_cons ne_int (na_cons ne_int (na_cons ne_int (na_cons ne_int (na_cons ne_int (na_cons ne_int (na_cons ne_int (na_cons ne_int (na_cons ne_int na_nil))))))))))) na_nil)) (fun _ _ _ _ e => len_cons (fun _ _ _ _ e => len_cons (fun _ _ _ _ e => len_nil e) e) e)))
      (nss_cons (ns_par (i := 3) (j := 4) (by rfl) sc_law_near_text.nd rfl rfl (by decide) rfl rfl (na_cons (ne_call D__law_text (hr.mono (by decide)) (by rfl) (by rfl) (takes_of rfl rfl rfl rfl) (na_cons (ne_var (pv 0)) (na_cons (ne_var (pv 1)) (na_cons (ne_var (pv 2)) na_nil))) (fun _ _ _ _ e => len_cons (fun _ _ _ _ e => len_cons (fun _ _ _ _ e => len_cons (fun _ _ _ _ e => len_nil e) e) e) e)) (na_cons (ne_call D__law_draw (hr.mono (by decide)) (by rfl) (by rfl) (takes_of rfl rfl rfl rfl) (na_cons (ne_var (pv 0)) (na_cons (ne_op on_add (ne_var (pv 2)) ne_int) na_nil)) (fun _ _ _ _ e => len_cons (fun _ _ _ _ e => len_cons (fun _ _ _ _ e => len_nil e) e) e)) na_nil)) (by rfl))
      (nss_cons (ns_set (i := 5) sc_law_near_text.nd rfl (Or.inl rfl) (ne_call D__law_one_of (hr.mono (by decide)) (by rfl) (by rfl) (takes_of rfl rfl rfl rfl) (na_cons (ne_var (pv 0)) (na_cons (ne_op on_add (ne_callTy (cn_list hr.hd) (by rfl) T.b_list (by decide +kernel) (na_cons ne_str na_nil)) (ne_lst (na_cons ne_str (na_cons ne_str (na_cons ne_str (na_cons ne_str (na_cons ne_str na_nil))))))) na_nil)) (fun _ _ _ _ e => len_cons (fun _ _ _ _ e => len_cons (fun _ _ _ _ e => len_nil e) e) e)))
      (nss_cons (ns_set (i := 6) sc_law_near_text.nd rfl (Or.inl rfl) (ne_cmp (on_eq (hu64 hr)) (ne_lc (own := [("_law_one", 7)]) (by rfl) sc_law_near_text.nd (ni_any (ne_var (pv 5))) (blkOk_by (N := N_law_near_text) (sc := defScope s_law_near_text) (by decide +kernel)) (ts := [7]) (g := (gN 7)) (by decide) (fun _ _ _ _ _ => (ng_name (i := 7) sc_law_near_text.nd rfl (Or.inl rfl))) (fun _ _ _ _ _ => (nts_one (nt_cmp (on_notIn (hu65 hr)) (ne_var (pv 7)) (ne_sl ne_str no_none (no_some (ne_var (pv 1)))) (by rfl)))) (fun _ _ _ _ _ => (ne_var (pv 7)))) (ne_lst na_nil) (nomark _)))
      (nss_one (ns_ret (ne_tup (na_cons (ne_var (pv 3)) (na_cons (ne_op on_add (ne_op on_add (ne_sl (ne_var (pv 3)) no_none (no_some (ne_var (pv 4)))) (ne_var (pv 5))) (ne_sl (ne_var (pv 3)) (no_some (ne_var (pv 4))) no_none)) (na_cons (ne_and (ne_var (pv 6)) (ne_one (ne_cmp on_le (ne_op on_add (ne_var (pv 2)) (ne_callB cn_len (by rfl) T.b_len (by decide +kernel) (na_cons (ne_var (pv 5)) na_nil))) ne_int (nomark _)))) na_nil)))))))))))
theorem sc_is_integer : FnScope N_is_integer P_is_integer (defScope s_is_integer) := ⟨rfl, rfl, rfl, by decide +kernel, rfl, by decide +kernel, by decide +kernel⟩
theorem ok_is_integer (F : FunD K mg "is_integer" s_is_integer P_is_integer) (T : Txt K mg)  : Def P w K mg base 1 "is_integer" P_is_integer m_is_integer :=
  by
  rw [m_is_integer_eq]
  exact FunD.ok F sc_is_integer (fun f cdv A outer s H E hr =>
    (nss_one (ns_ret (ne_and (ne_callB cn_isi (by rfl) T.b_isinstance (by decide +kernel) (na_cons (ne_var (pv 0)) (na_cons (ne_ty (n := "int") (by rfl) T.b_int (by decide +kernel)) na_nil))) (ne_and (ne_not (ne_callB cn_isi (by rfl) T.b_isinstance (by decide +kernel) (na_cons (ne_var (pv 0)) (na_cons (ne_ty (n := "bool") (by rfl) T.b_bool (by decide +kernel)) na_nil)))) (ne_one (ne_chain (on_ltT (hu0 hr)) (on_ltT (hu0 hr)) (ne_un on_neg (ne_glob (by rfl) T.c_INTEGER_BOUND)) (ne_var (pv 0)) (ne_glob (by rfl) T.c_INTEGER_BOUND))))))))
theorem sc_require_letters : FnScope N_require_letters P_require_letters (defScope s_require_letters) := ⟨rfl, rfl, rfl, by decide +kernel, rfl, by decide +kernel, by decide +kernel⟩
theorem ok_require_letters (F : FunD K mg "require_letters" s_require_letters P_require_letters) (T : Txt K mg) (D_is_integer : Def P w K mg base 1 "is_integer" P_is_integer m_is_integer) : Def P w K mg base 2 "require_letters" P_require_letters m_require_letters :=
  by
  rw [m_require_letters_eq]
  exact FunD.ok F sc_require_letters (fun f cdv A outer s H E hr =>
    (nss_one (ns_if (nt_w (nw_or (nt_not (nt_tru (ne_call D_is_integer (hr.mono (by decide)) (by rfl) (by rfl) (takes_of rfl rfl rfl rfl) (na_cons (ne_var (pv 0)) na_nil) (fun _ _ _ _ e => len_cons (fun _ _ _ _ e => len_nil e) e)))) (nw_or1 (nt_cmp (on_notIn (hu65 hr)) (ne_var (pv 0)) (ne_glob (by rfl) T.c_BOTH_LETTERS) (by rfl))))) (nss_one ns_never) nss_nil)))
theorem sc_is_text_of : FnScope N_is_text_of P_is_text_of (defScope s_is_text_of) := ⟨rfl, rfl, rfl, by decide +kernel, rfl, by decide +kernel, by decide +kernel⟩
theorem ok_is_text_of (F : FunD K mg "is_text_of" s_is_text_of P_is_text_of) (T : Txt K mg)  : Def P w K mg base 1 "is_text_of" P_is_text_of m_is_text_of :=
  by
  rw [m_is_text_of_eq]
  exact FunD.ok F sc_is_text_of (fun f cdv A outer s H E hr =>
    (nss_cons (ns_if (nt_w (nw_or (nt_not (nt_tru (ne_callB cn_isi (by rfl) T.b_isinstance (by decide +kernel) (na_cons (ne_var (pv 1)) (na_cons (ne_ty (n := "str") (by rfl) T.b_str (by decide +kernel)) na_nil))))) (nw_or1 (nt_cmp on_gt (ne_callB cn_len (by rfl) T.b_len (by decide +kernel) (na_cons (ne_var (pv 1)) na_nil)) (ne_glob (by rfl) T.c_MAX_WIDTH) (nomark _))))) (nss_one (ns_ret ne_bl)) nss_nil)
      (nss_one (ns_ret (ne_callB (cn_all (by rfl)) (by rfl) T.b_all (by decide +kernel) (na_cons (ne_lc (own := [("sign", 2)]) (by rfl) sc_is_text_of.nd (ni_any (ne_var (pv 1))) (blkOk_by (N := N_is_text_of) (sc := defScope s_is_text_of) (by decide +kernel)) (ts := [2]) (g := (gN 2)) (by decide) (fun _ _ _ _ _ => (ng_name (i := 2) sc_is_text_of.nd rfl (Or.inl rfl))) (fun _ _ _ _ _ => nts_nil) (fun _ _ _ _ _ => (ne_cmp (on_in (hu65 hr)) (ne_var (pv 2)) (ne_sl (ne_glob (by rfl) T.c_LETTERS) no_none (no_some (ne_var (pv 0)))) (by rfl)))) na_nil))))))
theorem sc_is_text : FnScope N_is_text P_is_text (defScope s_is_text) := ⟨rfl, rfl, rfl, by decide +kernel, rfl, by decide +kernel, by decide +kernel⟩
theorem ok_is_text (F : FunD K mg "is_text" s_is_text P_is_text) (T : Txt K mg) (D_require_letters : Def P w K mg base 2 "require_letters" P_require_letters m_require_letters) (D_is_text_of : Def P w K mg base 1 "is_text_of" P_is_text_of m_is_text_of) : Def P w K mg base 3 "is_text" P_is_text m_is_text :=
  by
  rw [m_is_text_eq]
  exact FunD.ok F sc_is_text (fun f cdv A outer s H E hr =>
    (nss_cons (ns_expr (ne_call D_require_letters (hr.mono (by decide)) (by rfl) (by rfl) (takes_of rfl rfl rfl rfl) (na_cons (ne_var (pv 1)) na_nil) (fun _ _ _ _ e => len_cons (fun _ _ _ _ e => len_nil e) e)))
      (nss_one (ns_ret (ne_call D_is_text_of (hr.mono (by decide)) (by rfl) (by rfl) (takes_of rfl rfl rfl rfl) (na_cons (ne_var (pv 1)) (na_cons (ne_var (pv 0)) na_nil)) (fun _ _ _ _ e => len_cons (fun _ _ _ _ e => len_cons (fun _ _ _ _ e => len_nil e) e) e))))))
theorem sc_law_are_texts : FnScope N_law_are_texts P_law_are_texts (defScope s_law_are_texts) := ⟨rfl, rfl, rfl, by decide +kernel, rfl, by decide +kernel, by decide +kernel⟩
theorem ok_law_are_texts (F : FunD K mg "_law_are_texts" s_law_are_texts P_law_are_texts) (T : Txt K mg) (D__law_near_text : Def P w K mg base 3 "_law_near_text" P_law_near_text m_law_near_text) (D_is_text : Def P w K mg base 3 "is_text" P_is_text m_is_text) : Def P w K mg base 4 "_law_are_texts" P_law_are_texts m_law_are_texts :=
  by
  rw [m_law_are_texts_eq]
  exact FunD.ok F sc_law_are_texts (fun f cdv A outer s H E hr =>
    (nss_cons (ns_for (passes_of rfl) (by rfl) (ni_range1 (by rfl) T.b_range (na_cons ne_int na_nil)) (ng_name (i := 2) sc_law_are_texts.nd rfl (Or.inl rfl)) (nss_cons (ns_asg (ne_call D__law_near_text (hr.mono (by decide)) (by rfl) (by rfl) (takes_of rfl rfl rfl rfl) (na_cons (ne_var (pv 0)) (na_cons (ne_var (pv 1)) na_nil)) (fun _ _ _ _ e => len_cons (fun _ _ _ _ e => len_cons (fun _ _ _ _ e => len_nil e) e) e)) (ng_tup (by rfl) (ngs_cons (ng_name (i := 3) sc_law_are_texts.nd rfl (Or.inl rfl)) (ngs_cons (ng_name (i := 4) sc_law_are_texts.nd rfl (Or.inl rfl)) (ngs_cons (ng_name (i := 5) sc_law_are_texts.nd rfl (Or.inl rfl)) ngs_nil)))))
      (nss_cons (ns_if (nt_w (nw_or (nt_cmp on_isN (ne_call D_is_text (hr.mono (by decide)) (by rfl) (by rfl) (takes_of rfl rfl rfl rfl) (na_cons (ne_var (pv 3)) (na_cons (ne_var (pv 1)) na_nil)) (fun _ _ _ _ e => len_cons (fun _ _ _ _ e => len_cons (fun _ _ _ _ e => len_nil e) e) e)) ne_bl (nomark _)) (nw_or1 (nt_cmp (on_ne (hu64 hr)) (ne_callB cn_repr (by rfl) T.b_repr (by decide +kernel) (na_cons (ne_call D_is_text (hr.mono (by decide)) (by rfl) (by rfl) (takes_of rfl rfl rfl rfl) (na_cons (ne_var (pv 4)) (na_cons (ne_var (pv 1)) na_nil)) (fun _ _ _ _ e => len_cons (fun _ _ _ _ e => len_cons (fun _ _ _ _ e => len_nil e) e) e)) na_nil)) (ne_callB cn_repr (by rfl) T.b_repr (by decide +kernel) (na_cons (ne_var (pv 5)) na_nil)) (nomark _))))) (nss_one (ns_ret ne_bl)) nss_nil)
      (nss_one (ns_if (nt_w (nw_or (nt_cmp on_isN (ne_call D_is_text (hr.mono (by decide)) (by rfl) (by rfl) (takes_of rfl rfl rfl rfl) (na_cons (ne_var (pv 3)) (na_cons ne_int na_nil)) (fun _ _ _ _ e => len_cons (fun _ _ _ _ e => len_cons (fun _ _ _ _ e => len_nil e) e) e)) ne_bl (nomark _)) (nw_or1 (nt_cmp (on_ne (hu64 hr)) (ne_call D_is_text (hr.mono (by decide)) (by rfl) (by rfl) (takes_of rfl rfl rfl rfl) (na_cons (ne_var (pv 3)) (na_cons ne_int na_nil)) (fun _ _ _ _ e => len_cons (fun _ _ _ _ e => len_cons (fun _ _ _ _ e => len_nil e) e) e)) (ne_and (ne_cmp (on_notIn (hu65 hr)) ne_str (ne_var (pv 3)) (by rfl)) (ne_one (ne_cmp (on_notIn (hu65 hr)) ne_str (ne_var (pv 3)) (by rfl)))) (nomark _))))) (nss_one (ns_ret ne_bl)) nss_nil)))))
      (nss_cons (ns_set (i := 6) sc_law_are_texts.nd rfl (Or.inl rfl) (ne_lst (na_cons ne_non (na_cons ne_bl (na_cons ne_int (na_cons ne_int (na_cons (ne_op on_mul (ne_op on_pow ne_int ne_int) (ne_op on_pow ne_int ne_int)) (na_cons (ne_tup na_nil) (na_cons (ne_tup (na_cons ne_str na_nil)) (na_cons (ne_lst (na_cons ne_str (na_cons ne_str na_nil))) (na_cons (ne_disp (nps_cons ne_str ne_int nps_nil)) (na_cons (ne_op on_mul ne_str ne_int) (na_cons (ne_op on_mul ne_str ne_int) (na_cons (ne_op on_sub ne_int ne_int) na_nil))))))))))))))
      (nss_one (ns_ret (ne_cmp (on_eq (hu64 hr)) (ne_lc (own := [("_law_one", 7)]) (by rfl) sc_law_are_texts.nd (ni_any (ne_var (pv 6))) (blkOk_by (N := N_law_are_texts) (sc := defScope s_law_are_texts) (by decide +kernel)) (ts := [7]) (g := (gN 7)) (by decide) (fun _ _ _ _ _ => (ng_name (i := 7) sc_law_are_texts.nd rfl (Or.inl rfl))) (fun _ _ _ _ _ => (nts_one (nt_cmp on_isN (ne_call D_is_text (hr.mono (by decide)) (by rfl) (by rfl) takes0 (na_cons (ne_var (pv 7)) (na_cons (ne_var (pv 1)) na_nil)) (fun _ _ _ _ e => len_cons (fun _ _ _ _ e => len_cons (fun _ _ _ _ e => len_nil e) e) e)) ne_bl (nomark _)))) (fun _ _ _ _ _ => (ne_var (pv 7)))) (ne_lst na_nil) (nomark _)))))))
theorem sc_law_texts : FnScope N_law_texts P_law_texts (defScope s_law_texts) := ⟨rfl, rfl, rfl, by decide +kernel, rfl, by decide +kernel, by decide +kernel⟩
theorem ok_law_texts (F : FunD K mg "_law_texts" s_law_texts P_law_texts) (T : Txt K mg)  : Def P w K mg base 1 "_law_texts" P_law_texts m_law_texts :=
  by
  rw [m_law_texts_eq]
  exact FunD.ok F sc_law_texts (fun f cdv A outer s H E hr =>
    (nss_cons (ns_set (i := 2) sc_law_texts.nd rfl (Or.inl rfl) (ne_lst (na_cons ne_str na_nil)))
      (nss_cons (ns_for (passes_of rfl) (by rfl) (ni_range1 (by rfl) T.b_range (na_cons (ne_var (pv 1)) na_nil)) (ng_name (i := 3) sc_law_texts.nd rfl (Or.inl rfl)) (nss_cons (ns_set (i := 4) sc_law_texts.nd rfl (Or.inl rfl) (ne_lst na_nil))
      (nss_cons (ns_for (passes_of rfl) (by rfl) (ni_any (ne_var (pv 2))) (ng_name (i := 5) sc_law_texts.nd rfl (Or.inr rfl)) (nss_one (ns_set (i := 4) sc_law_texts.nd rfl (Or.inl rfl) (ne_op on_add (ne_var (pv 4)) (ne_lc (own := [("_law_letter", 6)]) (by rfl) sc_law_texts.nd (ni_range1 (by rfl) T.b_range (na_cons (ne_var (pv 0)) na_nil)) (blkOk_by (N := N_law_texts) (sc := defScope s_law_texts) (by decide +kernel)) (ts := [6]) (g := (gN 6)) (by decide) (fun _ _ _ _ _ => (ng_name (i := 6) sc_law_texts.nd rfl (Or.inl rfl))) (fun _ _ _ _ _ => nts_nil) (fun _ _ _ _ _ => (ne_op on_add (ne_var (pv 5)) (ne_callTy cn_str (by rfl) T.b_str (by decide +kernel) (na_cons (ne_var (pv 6)) na_nil)))))))))
      (nss_one (ns_set (i := 2) sc_law_texts.nd rfl (Or.inl rfl) (ne_var (pv 4)))))))
      (nss_one (ns_ret (ne_var (pv 2)))))))
theorem sc_is_integer_within : FnScope N_is_integer_within P_is_integer_within (defScope s_is_integer_within) := ⟨rfl, rfl, rfl, by decide +kernel, rfl, by decide +kernel, by decide +kernel⟩
theorem ok_is_integer_within (F : FunD K mg "is_integer_within" s_is_integer_within P_is_integer_within) (T : Txt K mg) (D_is_integer : Def P w K mg base 1 "is_integer" P_is_integer m_is_integer) : Def P w K mg base 2 "is_integer_within" P_is_integer_within m_is_integer_within :=
  by
  rw [m_is_integer_within_eq]
  exact FunD.ok F sc_is_integer_within (fun f cdv A outer s H E hr =>
    (nss_one (ns_ret (ne_and (ne_call D_is_integer (hr.mono (by decide)) (by rfl) (by rfl) (takes_of rfl rfl rfl rfl) (na_cons (ne_var (pv 0)) na_nil) (fun _ _ _ _ e => len_cons (fun _ _ _ _ e => len_nil e) e)) (ne_one (ne_chain on_le on_le (ne_var (pv 1)) (ne_var (pv 0)) (ne_var (pv 2))))))))
theorem sc_require_width : FnScope N_require_width P_require_width (defScope s_require_width) := ⟨rfl, rfl, rfl, by decide +kernel, rfl, by decide +kernel, by decide +kernel⟩
theorem ok_require_width (F : FunD K mg "require_width" s_require_width P_require_width) (T : Txt K mg) (D_is_integer_within : Def P w K mg base 2 "is_integer_within" P_is_integer_within m_is_integer_within) : Def P w K mg base 3 "require_width" P_require_width m_require_width :=
  by
  rw [m_require_width_eq]
  exact FunD.ok F sc_require_width (fun f cdv A outer s H E hr =>
    (nss_one (ns_if (nt_not (nt_tru (ne_call D_is_integer_within (hr.mono (by decide)) (by rfl) (by rfl) (takes_of rfl rfl rfl rfl) (na_cons (ne_var (pv 0)) (na_cons ne_int (na_cons (ne_glob (by rfl) T.c_MAX_WIDTH) na_nil))) (fun _ _ _ _ e => len_cons (fun _ _ _ _ e => len_cons (fun _ _ _ _ e => len_cons (fun _ _ _ _ e => len_nil e) e) e) e)))) (nss_one ns_never) nss_nil)))
theorem sc_next_digits : FnScope N_next_digits P_next_digits (defScope s_next_digits) := ⟨rfl, rfl, rfl, by decide +kernel, rfl, by decide +kernel, by decide +kernel⟩
theorem ok_next_digits (F : FunD K mg "next_digits" s_next_digits P_next_digits) (T : Txt K mg)  : Def P w K mg base 1 "next_digits" P_next_digits m_next_digits :=
  by
  rw [m_next_digits_eq]
  exact FunD.ok F sc_next_digits (fun f cdv A outer s H E hr =>
    (nss_cons (ns_set (i := 2) sc_next_digits.nd rfl (Or.inl rfl) (ne_op on_sub (ne_callB cn_len (by rfl) T.b_len (by decide +kernel) (na_cons (ne_var (pv 0)) na_nil)) ne_int))
      (nss_cons (ns_while 5000 (passes_of rfl) (nt_w (nw_and (nt_cmp on_ge (ne_var (pv 2)) ne_int (nomark _)) (nw_and1 (nt_cmp (on_eq (hu64 hr)) (ne_ix (hu1 hr) (ne_var (pv 0)) (ne_var (pv 2)) (fun _ _ => rfl)) (ne_op on_sub (ne_var (pv 1)) ne_int) (nomark _))))) (nss_one (ns_aug (i := 2) sc_next_digits.nd rfl (Or.inl rfl) ne_int ip_subN)))
      (nss_cons (ns_if (nt_cmp (on_ltT (hu0 hr)) (ne_var (pv 2)) ne_int (nomark _)) (nss_one (ns_ret ne_non)) nss_nil)
      (nss_one (ns_ret (ne_lst (na_star (ne_sl (ne_var (pv 0)) no_none (no_some (ne_var (pv 2)))) (na_cons (ne_op on_add (ne_ix (hu1 hr) (ne_var (pv 0)) (ne_var (pv 2)) (fun _ _ => rfl)) ne_int) (na_star (ne_lc (own := [("place", 3)]) (by rfl) sc_next_digits.nd (ni_range2 (by rfl) T.b_range (na_cons (ne_op on_add (ne_var (pv 2)) ne_int) (na_cons (ne_callB cn_len (by rfl) T.b_len (by decide +kernel) (na_cons (ne_var (pv 0)) na_nil)) na_nil))) (blkOk_by (N := N_next_digits) (sc := defScope s_next_digits) (by decide +kernel)) (ts := [3]) (g := (gN 3)) (by decide) (fun _ _ _ _ _ => (ng_name (i := 3) sc_next_digits.nd rfl (Or.inl rfl))) (fun _ _ _ _ _ => nts_nil) (fun _ _ _ _ _ => ne_int)) na_nil))))))))))
theorem sc_texts_of : GScope N_texts_of P_texts_of (defScope s_texts_of) := ⟨rfl, rfl, rfl, by decide +kernel, rfl, by decide +kernel, by decide +kernel⟩
theorem ok_texts_of {f : Addr} {fd : FuncData} (F : Fun K "texts_of" "texts_of" s_texts_of f fd) (hmg : mg "texts_of" = some (.ref f)) (hb : Binds K fd P_texts_of []) (T : Txt K mg) (D_require_letters : Def P w K mg base 2 "require_letters" P_require_letters m_require_letters) (D_require_width : Def P w K mg base 3 "require_width" P_require_width m_require_width) (D_next_digits : Def P w K mg base 1 "next_digits" P_next_digits m_next_digits) : GenD P w K mg base 3 "texts_of" P_texts_of 5 y_texts_of :=
  ⟨N_texts_of, s_texts_of, f, rfl, ⟨⟨fd, F, hb⟩, sc_texts_of, fun _ => by rfl, noCell (by decide +kernel), hmg, fun cdv outer A0 L pn g hr => by
    rw [y_texts_of_eq]
    exact (nys_cons (ny_plain fun _ _ => (ns_expr (ne_call D_require_letters (hr.mono (by decide)) (by rfl) (by rfl) takes0 (na_cons (ne_var (pv 0)) na_nil) (fun _ _ _ _ e => len_cons (fun _ _ _ _ e => len_nil e) e))))
      (nys_cons (ny_plain fun _ _ => (ns_expr (ne_call D_require_width (hr.mono (by decide)) (by rfl) (by rfl) takes0 (na_cons (ne_var (pv 1)) na_nil) (fun _ _ _ _ e => len_cons (fun _ _ _ _ e => len_nil e) e))))
      (nys_cons (ny_plain fun _ _ => (ns_setLc (i := 2) (own := [("place", 3)]) (by rfl) sc_texts_of.nd rfl rfl (sw_true rfl rfl rfl (by decide +kernel)) (ni_range1 (by rfl) T.b_range (na_cons (ne_var (pv 1)) na_nil)) (blkOk_by (N := N_texts_of) (sc := defScope s_texts_of) (by decide +kernel)) (ts := [3]) (g := (gN 3)) (by decide) (fun _ _ _ _ _ => (ng_name (i := 3) sc_texts_of.nd rfl (Or.inl rfl))) (fun _ _ _ _ _ => nts_nil) (fun _ _ _ _ _ => ne_int)))
      (nys_cons (ny_while 5000 (fun _ _ => (nt_cmp on_isN (ne_var (pv 2)) ne_non (nomark _))) (nys_cons (ny_yield fun _ _ => (ne_bm PySem.F.plainAttrs_str PySem.F.slot_str_join PySem.F.type_str_join mn_join ne_str (na_cons (ne_lc (own := [("digit", 4)]) (by rfl) sc_texts_of.nd (ni_any (ne_var (pv 2))) (blkOk_by (N := N_texts_of) (sc := defScope s_texts_of) (by decide +kernel)) (ts := [4]) (g := (gN 4)) (by decide) (fun _ _ _ _ _ => (ng_name (i := 4) sc_texts_of.nd rfl (Or.inl rfl))) (fun _ _ _ _ _ => nts_nil) (fun _ _ _ _ _ => (ne_callTy cn_str (by rfl) T.b_str (by decide +kernel) (na_cons (ne_var (pv 4)) na_nil)))) na_nil)))
      (nys_plain fun _ _ => (nss_one (ns_set (i := 2) sc_texts_of.nd rfl (Or.inl rfl) (ne_call D_next_digits (hr.mono (by decide)) (by rfl) (by rfl) takes0 (na_cons (ne_var (pv 2)) (na_cons (ne_var (pv 0)) na_nil)) (fun _ _ _ _ e => len_cons (fun _ _ _ _ e => len_cons (fun _ _ _ _ e => len_nil e) e) e)))))))
      nys_nil))))⟩⟩
theorem sc_law_are_all : FnScope N_law_are_all P_law_are_all (defScope s_law_are_all) := ⟨rfl, rfl, rfl, by decide +kernel, rfl, by decide +kernel, by decide +kernel⟩
theorem ok_law_are_all (F : FunD K mg "_law_are_all" s_law_are_all P_law_are_all) (T : Txt K mg) (D__law_draw : Def P w K mg base 1 "_law_draw" P_law_draw m_law_draw) (D__law_texts : Def P w K mg base 1 "_law_texts" P_law_texts m_law_texts) (D__law_one_of : Def P w K mg base 2 "_law_one_of" P_law_one_of m_law_one_of) (G_texts_of : GenD P w K mg base 3 "texts_of" P_texts_of 5 y_texts_of) (Gk_texts_of : ∀ f, mg "texts_of" = some (.ref f) → PySem.W.keepIn K (.ref f) = true) : Def P w K mg base 7 "_law_are_all" P_law_are_all m_law_are_all :=
  by
  rw [m_law_are_all_eq]
  exact FunD.ok F sc_law_are_all (fun f cdv A outer s H E hr =>
    (nss_cons (ns_set (i := 2) sc_law_are_all.nd rfl (Or.inl rfl) (ne_call D__law_draw (hr.mono (by decide)) (by rfl) (by rfl) (takes_of rfl rfl rfl rfl) (na_cons (ne_var (pv 0)) (na_cons (ne_if (nt_cmp (on_eq (hu64 hr)) (ne_var (pv 1)) ne_int (nomark _)) ne_int ne_int) na_nil)) (fun _ _ _ _ e => len_cons (fun _ _ _ _ e => len_cons (fun _ _ _ _ e => len_nil e) e) e)))
      (nss_cons (ns_set (i := 3) sc_law_are_all.nd rfl (Or.inl rfl) (ne_call D__law_texts (hr.mono (by decide)) (by rfl) (by rfl) (takes_of rfl rfl rfl rfl) (na_cons (ne_var (pv 1)) (na_cons (ne_var (pv 2)) na_nil)) (fun _ _ _ _ e => len_cons (fun _ _ _ _ e => len_cons (fun _ _ _ _ e => len_nil e) e) e)))
      (nss_cons (ns_if (nt_w (nw_or (nt_cmp (on_ne (hu64 hr)) (ne_listG G_texts_of Gk_texts_of (hr.mono (by decide)) (by rfl) (by rfl) (na_cons (ne_var (pv 1)) (na_cons (ne_var (pv 2)) na_nil)) (fun _ _ _ _ e => len_cons (fun _ _ _ _ e => len_cons (fun _ _ _ _ e => len_nil e) e) e) (by rfl) T.b_list) (ne_var (pv 3)) (nomark _)) (nw_or1 (nt_cmp (on_ne (hu64 hr)) (ne_tupG G_texts_of Gk_texts_of (hr.mono (by decide)) (by rfl) (by rfl) (na_cons (ne_var (pv 1)) (na_cons (ne_var (pv 2)) na_nil)) (fun _ _ _ _ e => len_cons (fun _ _ _ _ e => len_cons (fun _ _ _ _ e => len_nil e) e) e) (by rfl) T.b_tuple) (ne_callTy cn_tuple (by rfl) T.b_tuple (by decide +kernel) (na_cons (ne_var (pv 3)) na_nil)) (nomark _))))) (nss_one (ns_ret ne_bl)) nss_nil)
      (nss_cons (ns_set (i := 4) sc_law_are_all.nd rfl (Or.inl rfl) (ne_lstN na_nil))
      (nss_cons (ns_forG G_texts_of Gk_texts_of (hr.mono (by decide)) (by rfl) (by rfl) (passes_of rfl) keepX_cx (na_cons (ne_var (pv 1)) (na_cons (ne_call D__law_one_of (hr.mono (by decide)) (by rfl) (by rfl) (takes_of rfl rfl rfl rfl) (na_cons (ne_var (pv 0)) (na_cons (ne_lst (na_cons ne_int (na_cons ne_int (na_cons ne_int na_nil)))) na_nil)) (fun _ _ _ _ e => len_cons (fun _ _ _ _ e => len_cons (fun _ _ _ _ e => len_nil e) e) e)) na_nil)) (fun _ _ _ _ e => len_cons (fun _ _ _ _ e => len_cons (fun _ _ _ _ e => len_nil e) e) e) (ng_name (i := 5) sc_law_are_all.nd rfl (Or.inl rfl)) (nss_cons (ns_expr (ne_bm PySem.F.plainAttrs_list PySem.F.slot_list_append PySem.F.type_list_append mn_append (ne_var (pv 4)) (na_cons (ne_var (pv 5)) na_nil)))
      (nss_one (ns_if (nt_cmp (on_eq (hu64 hr)) (ne_callB cn_len (by rfl) T.b_len (by decide +kernel) (na_cons (ne_var (pv 4)) na_nil)) (ne_op on_add (ne_var (pv 1)) ne_int) (nomark _)) (nss_one ns_break) nss_nil))))
      (nss_cons (ns_set (i := 6) sc_law_are_all.nd rfl (Or.inr rfl) (ne_callB cn_len (by rfl) T.b_len (by decide +kernel) (na_cons (ne_ix (hu1 hr) (ne_var (pv 4)) ne_int (fun _ _ => rfl)) na_nil)))
      (nss_one (ns_ret (ne_cmp (on_eq (hu64 hr)) (ne_var (pv 4)) (ne_op on_add (ne_lc (own := [("_law_digit", 7)]) (by rfl) sc_law_are_all.nd (ni_range1 (by rfl) T.b_range (na_cons (ne_var (pv 1)) na_nil)) (blkOk_by (N := N_law_are_all) (sc := defScope s_law_are_all) (by decide +kernel)) (ts := [7]) (g := (gN 7)) (by decide) (fun _ _ _ _ _ => (ng_name (i := 7) sc_law_are_all.nd rfl (Or.inl rfl))) (fun _ _ _ _ _ => nts_nil) (fun _ _ _ _ _ => (ne_op on_add (ne_op on_mul ne_str (ne_op on_sub (ne_var (pv 6)) ne_int)) (ne_callTy cn_str (by rfl) T.b_str (by decide +kernel) (na_cons (ne_var (pv 7)) na_nil))))) (ne_lst (na_cons (ne_op on_add (ne_op on_mul ne_str (ne_op on_sub (ne_var (pv 6)) ne_int)) ne_str) na_nil))) (nomark _)))))))))))
theorem sc_require_text : FnScope N_require_text P_require_text (defScope s_require_text) := ⟨rfl, rfl, rfl, by decide +kernel, rfl, by decide +kernel, by decide +kernel⟩
theorem ok_require_text (F : FunD K mg "require_text" s_require_text P_require_text) (T : Txt K mg) (D_is_text_of : Def P w K mg base 1 "is_text_of" P_is_text_of m_is_text_of) : Def P w K mg base 2 "require_text" P_require_text m_require_text :=
  by
  rw [m_require_text_eq]
  exact FunD.ok F sc_require_text (fun f cdv A outer s H E hr =>
    (nss_one (ns_if (nt_not (nt_tru (ne_call D_is_text_of (hr.mono (by decide)) (by rfl) (by rfl) (takes_of rfl rfl rfl rfl) (na_cons (ne_var (pv 0)) (na_cons (ne_var (pv 1)) na_nil)) (fun _ _ _ _ e => len_cons (fun _ _ _ _ e => len_cons (fun _ _ _ _ e => len_nil e) e) e)))) (nss_one ns_never) nss_nil)))
theorem sc_comes_ahead : FnScope N_comes_ahead P_comes_ahead (defScope s_comes_ahead) := ⟨rfl, rfl, rfl, by decide +kernel, rfl, by decide +kernel, by decide +kernel⟩
theorem ok_comes_ahead (F : FunD K mg "comes_ahead" s_comes_ahead P_comes_ahead) (T : Txt K mg) (D_require_text : Def P w K mg base 2 "require_text" P_require_text m_require_text) : Def P w K mg base 3 "comes_ahead" P_comes_ahead m_comes_ahead :=
  by
  rw [m_comes_ahead_eq]
  exact FunD.ok F sc_comes_ahead (fun f cdv A outer s H E hr =>
    (nss_cons (ns_expr (ne_call D_require_text (hr.mono (by decide)) (by rfl) (by rfl) (takes_of rfl rfl rfl rfl) (na_cons ne_int (na_cons (ne_var (pv 0)) na_nil)) (fun _ _ _ _ e => len_cons (fun _ _ _ _ e => len_cons (fun _ _ _ _ e => len_nil e) e) e)))
      (nss_cons (ns_expr (ne_call D_require_text (hr.mono (by decide)) (by rfl) (by rfl) (takes_of rfl rfl rfl rfl) (na_cons ne_int (na_cons (ne_var (pv 1)) na_nil)) (fun _ _ _ _ e => len_cons (fun _ _ _ _ e => len_cons (fun _ _ _ _ e => len_nil e) e) e)))
      (nss_one (ns_ret (ne_cmp (on_ltT (hu0 hr)) (ne_tup (na_cons (ne_callB cn_len (by rfl) T.b_len (by decide +kernel) (na_cons (ne_var (pv 0)) na_nil)) (na_cons (ne_var (pv 0)) na_nil))) (ne_tup (na_cons (ne_callB cn_len (by rfl) T.b_len (by decide +kernel) (na_cons (ne_var (pv 1)) na_nil)) (na_cons (ne_var (pv 1)) na_nil))) (nomark _)))))))
theorem sc_law_ahead : FnScope N_law_ahead P_law_ahead (defScope s_law_ahead) := ⟨rfl, rfl, rfl, by decide +kernel, rfl, by decide +kernel, by decide +kernel⟩
theorem ok_law_ahead (F : FunD K mg "_law_ahead" s_law_ahead P_law_ahead) (T : Txt K mg)  : Def P w K mg base 1 "_law_ahead" P_law_ahead m_law_ahead :=
  by
  rw [m_law_ahead_eq]
  exact FunD.ok F sc_law_ahead (fun f cdv A outer s H E hr =>
    (nss_cons (ns_if (nt_cmp (on_ne (hu64 hr)) (ne_callB cn_len (by rfl) T.b_len (by decide +kernel) (na_cons (ne_var (pv 0)) na_nil)) (ne_callB cn_len (by rfl) T.b_len (by decide +kernel) (na_cons (ne_var (pv 1)) na_nil)) (nomark _)) (nss_one (ns_ret (ne_cmp (on_ltT (hu0 hr)) (ne_callB cn_len (by rfl) T.b_len (by decide +kernel) (na_cons (ne_var (pv 0)) na_nil)) (ne_callB cn_len (by rfl) T.b_len (by decide +kernel) (na_cons (ne_var (pv 1)) na_nil)) (nomark _)))) nss_nil)
      (nss_cons (ns_for (passes_of rfl) (by rfl) (ni_zip (by rfl) T.b_zip (na_cons (ne_var (pv 0)) (na_cons (ne_var (pv 1)) na_nil))) (ng_tup (by rfl) (ngs_cons (ng_name (i := 2) sc_law_ahead.nd rfl (Or.inl rfl)) (ngs_cons (ng_name (i := 3) sc_law_ahead.nd rfl (Or.inl rfl)) ngs_nil))) (nss_one (ns_if (nt_cmp (on_ne (hu64 hr)) (ne_var (pv 2)) (ne_var (pv 3)) (nomark _)) (nss_one (ns_ret (ne_cmp (on_ltT (hu0 hr)) (ne_bm PySem.F.plainAttrs_str PySem.F.slot_str_index PySem.F.type_str_index mn_index ne_str (na_cons (ne_var (pv 2)) na_nil)) (ne_bm PySem.F.plainAttrs_str PySem.F.slot_str_index PySem.F.type_str_index mn_index ne_str (na_cons (ne_var (pv 3)) na_nil)) (nomark _)))) nss_nil)))
      (nss_one (ns_ret ne_bl)))))
theorem sc_law_are_ordered : FnScope N_law_are_ordered P_law_are_ordered (defScope s_law_are_ordered) := ⟨rfl, rfl, rfl, by decide +kernel, rfl, by decide +kernel, by decide +kernel⟩
theorem ok_law_are_ordered (F : FunD K mg "_law_are_ordered" s_law_are_ordered P_law_are_ordered) (T : Txt K mg) (D__law_draw : Def P w K mg base 1 "_law_draw" P_law_draw m_law_draw) (D__law_one_of : Def P w K mg base 2 "_law_one_of" P_law_one_of m_law_one_of) (D__law_text : Def P w K mg base 2 "_law_text" P_law_text m_law_text) (D_comes_ahead : Def P w K mg base 3 "comes_ahead" P_comes_ahead m_comes_ahead) (D__law_ahead : Def P w K mg base 1 "_law_ahead" P_law_ahead m_law_ahead) : Def P w K mg base 4 "_law_are_ordered" P_law_are_ordered m_law_are_ordered :=
  by
  rw [m_law_are_ordered_eq]
  exact FunD.ok F sc_law_are_ordered (fun f cdv A outer s H E hr =>
    (nss_cons (ns_setLcN (i := 1) (own := [("_law_turn", 5)]) (by rfl) sc_law_are_ordered.nd rfl rfl (sw_true rfl rfl rfl (by decide +kernel)) (ni_range1 (by rfl) T.b_range (na_cons ne_int na_nil)) (blkOk_by (N := N_law_are_ordered) (sc := defScope s_law_are_ordered) (by decide +kernel)) (ts := [5]) (g := (gN 5)) (by decide) (fun _ _ _ _ _ => (ng_name (i := 5) sc_law_are_ordered.nd rfl (Or.inl rfl))) (fun _ _ _ _ _ => nts_nil) (fun _ _ _ _ _ => (ne_call D__law_text (hr.mono (by decide)) (by rfl) (by rfl) takes0 (na_cons (ne_var (pv 0)) (na_cons (ne_call D__law_one_of (hr.mono (by decide)) (by rfl) (by rfl) takes0 (na_cons (ne_var (pv 0)) (na_cons (ne_lst (na_cons ne_int (na_cons ne_int na_nil))) na_nil)) (fun _ _ _ _ e => len_cons (fun _ _ _ _ e => len_cons (fun _ _ _ _ e => len_nil e) e) e)) (na_cons (ne_call D__law_draw (hr.mono (by decide)) (by rfl) (by rfl) takes0 (na_cons (ne_var (pv 0)) (na_cons ne_int na_nil)) (fun _ _ _ _ e => len_cons (fun _ _ _ _ e => len_cons (fun _ _ _ _ e => len_nil e) e) e)) na_nil))) (fun _ _ _ _ e => len_cons (fun _ _ _ _ e => len_cons (fun _ _ _ _ e => len_cons (fun _ _ _ _ e => len_nil e) e) e) e))))
      (nss_cons (ns_set (i := 2) sc_law_are_ordered.nd rfl (Or.inl rfl) (ne_call D__law_draw (hr.mono (by decide)) (by rfl) (by rfl) (takes_of rfl rfl rfl rfl) (na_cons (ne_var (pv 0)) (na_cons (ne_op on_add (ne_callB cn_len (by rfl) T.b_len (by decide +kernel) (na_cons (ne_ix (hu1 hr) (ne_var (pv 1)) ne_int (fun _ _ => rfl)) na_nil)) ne_int) na_nil)) (fun _ _ _ _ e => len_cons (fun _ _ _ _ e => len_cons (fun _ _ _ _ e => len_nil e) e) e)))
      (nss_cons (ns_expr (ne_bm PySem.F.plainAttrs_list PySem.F.slot_list_append PySem.F.type_list_append mn_append (ne_var (pv 1)) (na_cons (ne_op on_add (ne_op on_add (ne_sl (ne_ix (hu1 hr) (ne_var (pv 1)) ne_int (fun _ _ => rfl)) no_none (no_some (ne_var (pv 2)))) (ne_call D__law_one_of (hr.mono (by decide)) (by rfl) (by rfl) (takes_of rfl rfl rfl rfl) (na_cons (ne_var (pv 0)) (na_cons (ne_lst (na_cons ne_str (na_cons ne_str (na_cons ne_str (na_cons ne_str na_nil))))) na_nil)) (fun _ _ _ _ e => len_cons (fun _ _ _ _ e => len_cons (fun _ _ _ _ e => len_nil e) e) e))) (ne_sl (ne_ix (hu1 hr) (ne_var (pv 1)) ne_int (fun _ _ => rfl)) (no_some (ne_op on_add (ne_var (pv 2)) (ne_call D__law_draw (hr.mono (by decide)) (by rfl) (by rfl) (takes_of rfl rfl rfl rfl) (na_cons (ne_var (pv 0)) (na_cons ne_int na_nil)) (fun _ _ _ _ e => len_cons (fun _ _ _ _ e => len_cons (fun _ _ _ _ e => len_nil e) e) e)))) no_none)) na_nil)))
      (nss_cons (ns_expr (ne_bm PySem.F.plainAttrs_list PySem.F.slot_list_append PySem.F.type_list_append mn_append (ne_var (pv 1)) (na_cons (ne_call D__law_text (hr.mono (by decide)) (by rfl) (by rfl) (takes_of rfl rfl rfl rfl) (na_cons (ne_var (pv 0)) (na_cons ne_int (na_cons (ne_op on_add ne_int (ne_call D__law_draw (hr.mono (by decide)) (by rfl) (by rfl) (takes_of rfl rfl rfl rfl) (na_cons (ne_var (pv 0)) (na_cons ne_int na_nil)) (fun _ _ _ _ e => len_cons (fun _ _ _ _ e => len_cons (fun _ _ _ _ e => len_nil e) e) e))) na_nil))) (fun _ _ _ _ e => len_cons (fun _ _ _ _ e => len_cons (fun _ _ _ _ e => len_cons (fun _ _ _ _ e => len_nil e) e) e) e)) na_nil)))
      (nss_cons (ns_for (passes_of rfl) (by rfl) (ni_any (ne_var (pv 1))) (ng_name (i := 3) sc_law_are_ordered.nd rfl (Or.inl rfl)) (nss_one (ns_for (passes_of rfl) (by rfl) (ni_any (ne_var (pv 1))) (ng_name (i := 4) sc_law_are_ordered.nd rfl (Or.inl rfl)) (nss_cons (ns_if (nt_cmp (on_ne (hu64 hr)) (ne_callB cn_repr (by rfl) T.b_repr (by decide +kernel) (na_cons (ne_call D_comes_ahead (hr.mono (by decide)) (by rfl) (by rfl) (takes_of rfl rfl rfl rfl) (na_cons (ne_var (pv 3)) (na_cons (ne_var (pv 4)) na_nil)) (fun _ _ _ _ e => len_cons (fun _ _ _ _ e => len_cons (fun _ _ _ _ e => len_nil e) e) e)) na_nil)) (ne_callB cn_repr (by rfl) T.b_repr (by decide +kernel) (na_cons (ne_call D__law_ahead (hr.mono (by decide)) (by rfl) (by rfl) (takes_of rfl rfl rfl rfl) (na_cons (ne_var (pv 3)) (na_cons (ne_var (pv 4)) na_nil)) (fun _ _ _ _ e => len_cons (fun _ _ _ _ e => len_cons (fun _ _ _ _ e => len_nil e) e) e)) na_nil)) (nomark _)) (nss_one (ns_ret ne_bl)) nss_nil)
      (nss_one (ns_if (nt_cmp (on_ne (hu64 hr)) (ne_op on_add (ne_op on_add (ne_call D_comes_ahead (hr.mono (by decide)) (by rfl) (by rfl) (takes_of rfl rfl rfl rfl) (na_cons (ne_var (pv 3)) (na_cons (ne_var (pv 4)) na_nil)) (fun _ _ _ _ e => len_cons (fun _ _ _ _ e => len_cons (fun _ _ _ _ e => len_nil e) e) e)) (ne_call D_comes_ahead (hr.mono (by decide)) (by rfl) (by rfl) (takes_of rfl rfl rfl rfl) (na_cons (ne_var (pv 4)) (na_cons (ne_var (pv 3)) na_nil)) (fun _ _ _ _ e => len_cons (fun _ _ _ _ e => len_cons (fun _ _ _ _ e => len_nil e) e) e))) (ne_callTy cn_int (by rfl) T.b_int (by decide +kernel) (na_cons (ne_cmp (on_eq (hu64 hr)) (ne_var (pv 3)) (ne_var (pv 4)) (nomark _)) na_nil))) ne_int (nomark _)) (nss_one (ns_ret ne_bl)) nss_nil))))))
      (nss_one (ns_ret ne_bl))))))))
theorem sc_law : FnScope N_law P_law (defScope s_law) := ⟨rfl, rfl, rfl, by decide +kernel, rfl, by decide +kernel, by decide +kernel⟩
theorem ok_law {f : Addr} {fd : FuncData} (F : Fun K "law" "law" s_law f fd) (T : Txt K mg) (D__law_bag : Def P w K mg base 1 "_law_bag" P_law_bag m_law_bag) (D__law_one_of : Def P w K mg base 2 "_law_one_of" P_law_one_of m_law_one_of) (D__law_are_texts : Def P w K mg base 4 "_law_are_texts" P_law_are_texts m_law_are_texts) (D__law_are_all : Def P w K mg base 7 "_law_are_all" P_law_are_all m_law_are_all) (D__law_are_ordered : Def P w K mg base 4 "_law_are_ordered" P_law_are_ordered m_law_are_ordered) (hp : ∀ ns : List Int, ns.length ≤ 63 → ∃ h, m_law [.lro (ns.map W.int)] [] = .ok (.bl true) h) : FnOk P w K mg base CX0 8 f fd P_law (spLaw K) :=
  by
  rw [m_law_eq] at hp
  exact law_ok F sc_law rfl (fun cdv A outer s H E hr =>
    (nss_cons (ns_for PassesOwn.never (by rfl) (ni_range1 (by rfl) T.b_range (na_cons (ne_callB (cn_max (by rfl)) (by rfl) T.b_max (by decide +kernel) (na_cons ne_int (na_cons (ne_callB (cn_min (by rfl)) (by rfl) T.b_min (by decide +kernel) (na_cons ne_int (na_cons (ne_callB cn_len (by rfl) T.b_len (by decide +kernel) (na_cons (ne_var (pv 0)) na_nil)) na_nil))) na_nil))) na_nil)) (ng_name (i := 1) sc_law.nd rfl (Or.inl rfl)) (nss_cons (ns_set (i := 2) sc_law.nd rfl (Or.inl rfl) (ne_call D__law_bag (hr.mono (by decide)) (by rfl) (by rfl) takes0 (na_cons (ne_var (pv 0)) (na_cons (ne_var (pv 1)) na_nil)) (fun _ _ _ _ e => len_cons (fun _ _ _ _ e => len_cons (fun _ _ _ _ e => len_nil e) e) e)))
      (nss_cons (ns_set (i := 3) sc_law.nd rfl (Or.inl rfl) (ne_call D__law_one_of (hr.mono (by decide)) (by rfl) (by rfl) takes0 (na_cons (ne_var (pv 2)) (na_cons (ne_lst (na_cons ne_int (na_cons ne_int na_nil))) na_nil)) (fun _ _ _ _ e => len_cons (fun _ _ _ _ e => len_cons (fun _ _ _ _ e => len_nil e) e) e)))
      (nss_one (ns_if (nt_w (nw_or (nt_not (nt_tru (ne_call D__law_are_texts (hr.mono (by decide)) (by rfl) (by rfl) takes0 (na_cons (ne_var (pv 2)) (na_cons (ne_var (pv 3)) na_nil)) (fun _ _ _ _ e => len_cons (fun _ _ _ _ e => len_cons (fun _ _ _ _ e => len_nil e) e) e)))) (nw_or (nt_not (nt_tru (ne_call D__law_are_all (hr.mono (by decide)) (by rfl) (by rfl) takes0 (na_cons (ne_var (pv 2)) (na_cons (ne_var (pv 3)) na_nil)) (fun _ _ _ _ e => len_cons (fun _ _ _ _ e => len_cons (fun _ _ _ _ e => len_nil e) e) e)))) (nw_or1 (nt_not (nt_tru (ne_call D__law_are_ordered (hr.mono (by decide)) (by rfl) (by rfl) takes0 (na_cons (ne_var (pv 2)) na_nil) (fun _ _ _ _ e => len_cons (fun _ _ _ _ e => len_nil e) e)))))))) (nss_one (ns_ret ne_bl)) nss_nil)))))
      (nss_one (ns_ret (ne_cmp (on_eq (hu64 hr)) (ne_glob (by rfl) T.c_MAX_WIDTH) ne_int (nomark _)))))) hp
end
end N

set_option maxHeartbeats 4000000
open PySem L2
namespace N
theorem all_mk {l : PySem.W.OpenLaw} {w : World} {K : PySem.W.Frag} {h : Heap} {mg : Str → Option Value} {fa : Addr} (X : K.In h) (G : h.Ns mainGlobals mg) (hfa : mg "law" = some (.ref fa))
    {f_law_bag : Addr} {od_law_bag an_law_bag : Option Addr} {sl_law_bag : Array (Option Value)} {oc_law_bag kV_law_bag dc_law_bag pm_law_bag cd_law_bag ct_law_bag : Value}
    {f_law_draw : Addr} {od_law_draw an_law_draw : Option Addr} {sl_law_draw : Array (Option Value)} {oc_law_draw kV_law_draw dc_law_draw pm_law_draw cd_law_draw ct_law_draw : Value}
    {f_law_one_of : Addr} {od_law_one_of an_law_one_of : Option Addr} {sl_law_one_of : Array (Option Value)} {oc_law_one_of kV_law_one_of dc_law_one_of pm_law_one_of cd_law_one_of ct_law_one_of : Value}
    {f_law_text : Addr} {od_law_text an_law_text : Option Addr} {sl_law_text : Array (Option Value)} {oc_law_text kV_law_text dc_law_text pm_law_text cd_law_text ct_law_text : Value}
    {f_law_near_text : Addr} {od_law_near_text an_law_near_text : Option Addr} {sl_law_near_text : Array (Option Value)} {oc_law_near_text kV_law_near_text dc_law_near_text pm_law_near_text cd_law_near_text ct_law_near_text : Value}
    {f_is_integer : Addr} {od_is_integer an_is_integer : Option Addr} {sl_is_integer : Array (Option Value)} {oc_is_integer kV_is_integer dc_is_integer pm_is_integer cd_is_integer ct_is_integer : Value}
    {f_require_letters : Addr} {od_require_letters an_require_letters : Option Addr} {sl_require_letters : Array (Option Value)} {oc_require_letters kV_require_letters dc_require_letters pm_require_letters cd_require_letters ct_require_letters : Value}
    {f_is_text_of : Addr} {od_is_text_of an_is_text_of : Option Addr} {sl_is_text_of : Array (Option Value)} {oc_is_text_of kV_is_text_of dc_is_text_of pm_is_text_of cd_is_text_of ct_is_text_of : Value}
    {f_is_text : Addr} {od_is_text an_is_text : Option Addr} {sl_is_text : Array (Option Value)} {oc_is_text kV_is_text dc_is_text pm_is_text cd_is_text ct_is_text : Value}
    {f_law_are_texts : Addr} {od_law_are_texts an_law_are_texts : Option Addr} {sl_law_are_texts : Array (Option Value)} {oc_law_are_texts kV_law_are_texts dc_law_are_texts pm_law_are_texts cd_law_are_texts ct_law_are_texts : Value}
    {f_law_texts : Addr} {od_law_texts an_law_texts : Option Addr} {sl_law_texts : Array (Option Value)} {oc_law_texts kV_law_texts dc_law_texts pm_law_texts cd_law_texts ct_law_texts : Value}
    {f_is_integer_within : Addr} {od_is_integer_within an_is_integer_within : Option Addr} {sl_is_integer_within : Array (Option Value)} {oc_is_integer_within kV_is_integer_within dc_is_integer_within pm_is_integer_within cd_is_integer_within ct_is_integer_within : Value}
    {f_require_width : Addr} {od_require_width an_require_width : Option Addr} {sl_require_width : Array (Option Value)} {oc_require_width kV_require_width dc_require_width pm_require_width cd_require_width ct_require_width : Value}
    {f_next_digits : Addr} {od_next_digits an_next_digits : Option Addr} {sl_next_digits : Array (Option Value)} {oc_next_digits kV_next_digits dc_next_digits pm_next_digits cd_next_digits ct_next_digits : Value}
    {f_texts_of : Addr} {od_texts_of an_texts_of : Option Addr} {sl_texts_of : Array (Option Value)} {oc_texts_of kV_texts_of dc_texts_of pm_texts_of cd_texts_of ct_texts_of : Value}
    {f_law_are_all : Addr} {od_law_are_all an_law_are_all : Option Addr} {sl_law_are_all : Array (Option Value)} {oc_law_are_all kV_law_are_all dc_law_are_all pm_law_are_all cd_law_are_all ct_law_are_all : Value}
    {f_require_text : Addr} {od_require_text an_require_text : Option Addr} {sl_require_text : Array (Option Value)} {oc_require_text kV_require_text dc_require_text pm_require_text cd_require_text ct_require_text : Value}
    {f_comes_ahead : Addr} {od_comes_ahead an_comes_ahead : Option Addr} {sl_comes_ahead : Array (Option Value)} {oc_comes_ahead kV_comes_ahead dc_comes_ahead pm_comes_ahead cd_comes_ahead ct_comes_ahead : Value}
    {f_law_ahead : Addr} {od_law_ahead an_law_ahead : Option Addr} {sl_law_ahead : Array (Option Value)} {oc_law_ahead kV_law_ahead dc_law_ahead pm_law_ahead cd_law_ahead ct_law_ahead : Value}
    {f_law_are_ordered : Addr} {od_law_are_ordered an_law_are_ordered : Option Addr} {sl_law_are_ordered : Array (Option Value)} {oc_law_are_ordered kV_law_are_ordered dc_law_are_ordered pm_law_are_ordered cd_law_are_ordered ct_law_are_ordered : Value}
    {f_law : Addr} {od_law an_law : Option Addr} {sl_law : Array (Option Value)} {oc_law kV_law dc_law pm_law cd_law ct_law : Value}
    {tk_INTEGER_BOUND : Tok}
    {ta_BOTH_LETTERS : Addr} {t0_BOTH_LETTERS t1_BOTH_LETTERS : Tok} {tn_BOTH_LETTERS : Nat} {ts_BOTH_LETTERS : Array (Option Value)}
    {tk_MAX_WIDTH : Tok}
    {tk_LETTERS : Tok}
    (a_law_bag : PySem.W.nsIn K mainGlobals "_law_bag" = some (some (.ref f_law_bag))) (l_law_bag : K.lookup f_law_bag = some ⟨oc_law_bag, od_law_bag, .func (PySem.W.fnOf "_law_bag" "_law_bag" (defArgs s_law_bag) (defBody s_law_bag) (defScope s_law_bag) .none kV_law_bag dc_law_bag pm_law_bag an_law_bag cd_law_bag ct_law_bag), sl_law_bag⟩) (c_law_bag : PySem.W.codeIn K cd_law_bag "_law_bag" = true) (k_law_bag : PySem.W.keepIn K (.ref f_law_bag) = true)
    (a_law_draw : PySem.W.nsIn K mainGlobals "_law_draw" = some (some (.ref f_law_draw))) (l_law_draw : K.lookup f_law_draw = some ⟨oc_law_draw, od_law_draw, .func (PySem.W.fnOf "_law_draw" "_law_draw" (defArgs s_law_draw) (defBody s_law_draw) (defScope s_law_draw) .none kV_law_draw dc_law_draw pm_law_draw an_law_draw cd_law_draw ct_law_draw), sl_law_draw⟩) (c_law_draw : PySem.W.codeIn K cd_law_draw "_law_draw" = true) (k_law_draw : PySem.W.keepIn K (.ref f_law_draw) = true)
    (a_law_one_of : PySem.W.nsIn K mainGlobals "_law_one_of" = some (some (.ref f_law_one_of))) (l_law_one_of : K.lookup f_law_one_of = some ⟨oc_law_one_of, od_law_one_of, .func (PySem.W.fnOf "_law_one_of" "_law_one_of" (defArgs s_law_one_of) (defBody s_law_one_of) (defScope s_law_one_of) .none kV_law_one_of dc_law_one_of pm_law_one_of an_law_one_of cd_law_one_of ct_law_one_of), sl_law_one_of⟩) (c_law_one_of : PySem.W.codeIn K cd_law_one_of "_law_one_of" = true) (k_law_one_of : PySem.W.keepIn K (.ref f_law_one_of) = true)
    (a_law_text : PySem.W.nsIn K mainGlobals "_law_text" = some (some (.ref f_law_text))) (l_law_text : K.lookup f_law_text = some ⟨oc_law_text, od_law_text, .func (PySem.W.fnOf "_law_text" "_law_text" (defArgs s_law_text) (defBody s_law_text) (defScope s_law_text) .none kV_law_text dc_law_text pm_law_text an_law_text cd_law_text ct_law_text), sl_law_text⟩) (c_law_text : PySem.W.codeIn K cd_law_text "_law_text" = true) (k_law_text : PySem.W.keepIn K (.ref f_law_text) = true)
    (a_law_near_text : PySem.W.nsIn K mainGlobals "_law_near_text" = some (some (.ref f_law_near_text))) (l_law_near_text : K.lookup f_law_near_text = some ⟨oc_law_near_text, od_law_near_text, .func (PySem.W.fnOf "_law_near_text" "_law_near_text" (defArgs s_law_near_text) (defBody s_law_near_text) (defScope s_law_near_text) .none kV_law_near_text dc_law_near_text pm_law_near_text an_law_near_text cd_law_near_text ct_law_near_text), sl_law_near_text⟩) (c_law_near_text : PySem.W.codeIn K cd_law_near_text "_law_near_text" = true) (k_law_near_text : PySem.W.keepIn K (.ref f_law_near_text) = true)
    (a_is_integer : PySem.W.nsIn K mainGlobals "is_integer" = some (some (.ref f_is_integer))) (l_is_integer : K.lookup f_is_integer = some ⟨oc_is_integer, od_is_integer, .func (PySem.W.fnOf "is_integer" "is_integer" (defArgs s_is_integer) (defBody s_is_integer) (defScope s_is_integer) .none kV_is_integer dc_is_integer pm_is_integer an_is_integer cd_is_integer ct_is_integer), sl_is_integer⟩) (c_is_integer : PySem.W.codeIn K cd_is_integer "is_integer" = true) (k_is_integer : PySem.W.keepIn K (.ref f_is_integer) = true)
    (a_require_letters : PySem.W.nsIn K mainGlobals "require_letters" = some (some (.ref f_require_letters))) (l_require_letters : K.lookup f_require_letters = some ⟨oc_require_letters, od_require_letters, .func (PySem.W.fnOf "require_letters" "require_letters" (defArgs s_require_letters) (defBody s_require_letters) (defScope s_require_letters) .none kV_require_letters dc_require_letters pm_require_letters an_require_letters cd_require_letters ct_require_letters), sl_require_letters⟩) (c_require_letters : PySem.W.codeIn K cd_require_letters "require_letters" = true) (k_require_letters : PySem.W.keepIn K (.ref f_require_letters) = true)
    (a_is_text_of : PySem.W.nsIn K mainGlobals "is_text_of" = some (some (.ref f_is_text_of))) (l_is_text_of : K.lookup f_is_text_of = some ⟨oc_is_text_of, od_is_text_of, .func (PySem.W.fnOf "is_text_of" "is_text_of" (defArgs s_is_text_of) (defBody s_is_text_of) (defScope s_is_text_of) .none kV_is_text_of dc_is_text_of pm_is_text_of an_is_text_of cd_is_text_of ct_is_text_of), sl_is_text_of⟩) (c_is_text_of : PySem.W.codeIn K cd_is_text_of "is_text_of" = true) (k_is_text_of : PySem.W.keepIn K (.ref f_is_text_of) = true)
    (a_is_text : PySem.W.nsIn K mainGlobals "is_text" = some (some (.ref f_is_text))) (l_is_text : K.lookup f_is_text = some ⟨oc_is_text, od_is_text, .func (PySem.W.fnOf "is_text" "is_text" (defArgs s_is_text) (defBody s_is_text) (defScope s_is_text) .none kV_is_text dc_is_text pm_is_text an_is_text cd_is_text ct_is_text), sl_is_text⟩) (c_is_text : PySem.W.codeIn K cd_is_text "is_text" = true) (k_is_text : PySem.W.keepIn K (.ref f_is_text) = true)
    (a_law_are_texts : PySem.W.nsIn K mainGlobals "_law_are_texts" = some (some (.ref f_law_are_texts))) (l_law_are_texts : K.lookup f_law_are_texts = some ⟨oc_law_are_texts, od_law_are_texts, .func (PySem.W.fnOf "_law_are_texts" "_law_are_texts" (defArgs s_law_are_texts) (defBody s_law_are_texts) (defScope s_law_are_texts) .none kV_law_are_texts dc_law_are_texts pm_law_are_texts an_law_are_texts cd_law_are_texts ct_law_are_texts), sl_law_are_texts⟩) (c_law_are_texts : PySem.W.codeIn K cd_law_are_texts "_law_are_texts" = true) (k_law_are_texts : PySem.W.keepIn K (.ref f_law_are_texts) = true)
    (a_law_texts : PySem.W.nsIn K mainGlobals "_law_texts" = some (some (.ref f_law_texts))) (l_law_texts : K.lookup f_law_texts = some ⟨oc_law_texts, od_law_texts, .func (PySem.W.fnOf "_law_texts" "_law_texts" (defArgs s_law_texts) (defBody s_law_texts) (defScope s_law_texts) .none kV_law_texts dc_law_texts pm_law_texts an_law_texts cd_law_texts ct_law_texts), sl_law_texts⟩) (c_law_texts : PySem.W.codeIn K cd_law_texts "_law_texts" = true) (k_law_texts : PySem.W.keepIn K (.ref f_law_texts) = true)
    (a_is_integer_within : PySem.W.nsIn K mainGlobals "is_integer_within" = some (some (.ref f_is_integer_within))) (l_is_integer_within : K.lookup f_is_integer_within = some ⟨oc_is_integer_within, od_is_integer_within, .func (PySem.W.fnOf "is_integer_within" "is_integer_within" (defArgs s_is_integer_within) (defBody s_is_integer_within) (defScope s_is_integer_within) .none kV_is_integer_within dc_is_integer_within pm_is_integer_within an_is_integer_within cd_is_integer_within ct_is_integer_within), sl_is_integer_within⟩) (c_is_integer_within : PySem.W.codeIn K cd_is_integer_within "is_integer_within" = true) (k_is_integer_within : PySem.W.keepIn K (.ref f_is_integer_within) = true)
    (a_require_width : PySem.W.nsIn K mainGlobals "require_width" = some (some (.ref f_require_width))) (l_require_width : K.lookup f_require_width = some ⟨oc_require_width, od_require_width, .func (PySem.W.fnOf "require_width" "require_width" (defArgs s_require_width) (defBody s_require_width) (defScope s_require_width) .none kV_require_width dc_require_width pm_require_width an_require_width cd_require_width ct_require_width), sl_require_width⟩) (c_require_width : PySem.W.codeIn K cd_require_width "require_width" = true) (k_require_width : PySem.W.keepIn K (.ref f_require_width) = true)
    (a_next_digits : PySem.W.nsIn K mainGlobals "next_digits" = some (some (.ref f_next_digits))) (l_next_digits : K.lookup f_next_digits = some ⟨oc_next_digits, od_next_digits, .func (PySem.W.fnOf "next_digits" "next_digits" (defArgs s_next_digits) (defBody s_next_digits) (defScope s_next_digits) .none kV_next_digits dc_next_digits pm_next_digits an_next_digits cd_next_digits ct_next_digits), sl_next_digits⟩) (c_next_digits : PySem.W.codeIn K cd_next_digits "next_digits" = true) (k_next_digits : PySem.W.keepIn K (.ref f_next_digits) = true)
    (a_texts_of : PySem.W.nsIn K mainGlobals "texts_of" = some (some (.ref f_texts_of))) (l_texts_of : K.lookup f_texts_of = some ⟨oc_texts_of, od_texts_of, .func (PySem.W.fnOf "texts_of" "texts_of" (defArgs s_texts_of) (defBody s_texts_of) (defScope s_texts_of) .none kV_texts_of dc_texts_of pm_texts_of an_texts_of cd_texts_of ct_texts_of), sl_texts_of⟩) (c_texts_of : PySem.W.codeIn K cd_texts_of "texts_of" = true) (k_texts_of : PySem.W.keepIn K (.ref f_texts_of) = true)
    (a_law_are_all : PySem.W.nsIn K mainGlobals "_law_are_all" = some (some (.ref f_law_are_all))) (l_law_are_all : K.lookup f_law_are_all = some ⟨oc_law_are_all, od_law_are_all, .func (PySem.W.fnOf "_law_are_all" "_law_are_all" (defArgs s_law_are_all) (defBody s_law_are_all) (defScope s_law_are_all) .none kV_law_are_all dc_law_are_all pm_law_are_all an_law_are_all cd_law_are_all ct_law_are_all), sl_law_are_all⟩) (c_law_are_all : PySem.W.codeIn K cd_law_are_all "_law_are_all" = true) (k_law_are_all : PySem.W.keepIn K (.ref f_law_are_all) = true)
    (a_require_text : PySem.W.nsIn K mainGlobals "require_text" = some (some (.ref f_require_text))) (l_require_text : K.lookup f_require_text = some ⟨oc_require_text, od_require_text, .func (PySem.W.fnOf "require_text" "require_text" (defArgs s_require_text) (defBody s_require_text) (defScope s_require_text) .none kV_require_text dc_require_text pm_require_text an_require_text cd_require_text ct_require_text), sl_require_text⟩) (c_require_text : PySem.W.codeIn K cd_require_text "require_text" = true) (k_require_text : PySem.W.keepIn K (.ref f_require_text) = true)
    (a_comes_ahead : PySem.W.nsIn K mainGlobals "comes_ahead" = some (some (.ref f_comes_ahead))) (l_comes_ahead : K.lookup f_comes_ahead = some ⟨oc_comes_ahead, od_comes_ahead, .func (PySem.W.fnOf "comes_ahead" "comes_ahead" (defArgs s_comes_ahead) (defBody s_comes_ahead) (defScope s_comes_ahead) .none kV_comes_ahead dc_comes_ahead pm_comes_ahead an_comes_ahead cd_comes_ahead ct_comes_ahead), sl_comes_ahead⟩) (c_comes_ahead : PySem.W.codeIn K cd_comes_ahead "comes_ahead" = true) (k_comes_ahead : PySem.W.keepIn K (.ref f_comes_ahead) = true)
    (a_law_ahead : PySem.W.nsIn K mainGlobals "_law_ahead" = some (some (.ref f_law_ahead))) (l_law_ahead : K.lookup f_law_ahead = some ⟨oc_law_ahead, od_law_ahead, .func (PySem.W.fnOf "_law_ahead" "_law_ahead" (defArgs s_law_ahead) (defBody s_law_ahead) (defScope s_law_ahead) .none kV_law_ahead dc_law_ahead pm_law_ahead an_law_ahead cd_law_ahead ct_law_ahead), sl_law_ahead⟩) (c_law_ahead : PySem.W.codeIn K cd_law_ahead "_law_ahead" = true) (k_law_ahead : PySem.W.keepIn K (.ref f_law_ahead) = true)
    (a_law_are_ordered : PySem.W.nsIn K mainGlobals "_law_are_ordered" = some (some (.ref f_law_are_ordered))) (l_law_are_ordered : K.lookup f_law_are_ordered = some ⟨oc_law_are_ordered, od_law_are_ordered, .func (PySem.W.fnOf "_law_are_ordered" "_law_are_ordered" (defArgs s_law_are_ordered) (defBody s_law_are_ordered) (defScope s_law_are_ordered) .none kV_law_are_ordered dc_law_are_ordered pm_law_are_ordered an_law_are_ordered cd_law_are_ordered ct_law_are_ordered), sl_law_are_ordered⟩) (c_law_are_ordered : PySem.W.codeIn K cd_law_are_ordered "_law_are_ordered" = true) (k_law_are_ordered : PySem.W.keepIn K (.ref f_law_are_ordered) = true)
    (a_law : PySem.W.nsIn K mainGlobals "law" = some (some (.ref f_law))) (l_law : K.lookup f_law = some ⟨oc_law, od_law, .func (PySem.W.fnOf "law" "law" (defArgs s_law) (defBody s_law) (defScope s_law) .none kV_law dc_law pm_law an_law cd_law ct_law), sl_law⟩) (c_law : PySem.W.codeIn K cd_law "law" = true) (k_law : PySem.W.keepIn K (.ref f_law) = true)
    (zb_len : PySem.W.nsIn K mainGlobals "len" = some none)
    (zb_sum : PySem.W.nsIn K mainGlobals "sum" = some none)
    (zb_abs : PySem.W.nsIn K mainGlobals "abs" = some none)
    (zb_int : PySem.W.nsIn K mainGlobals "int" = some none)
    (zb_max : PySem.W.nsIn K mainGlobals "max" = some none)
    (zb_range : PySem.W.nsIn K mainGlobals "range" = some none)
    (zb_str : PySem.W.nsIn K mainGlobals "str" = some none)
    (zb_list : PySem.W.nsIn K mainGlobals "list" = some none)
    (zb_isinstance : PySem.W.nsIn K mainGlobals "isinstance" = some none)
    (zb_bool : PySem.W.nsIn K mainGlobals "bool" = some none)
    (zb_all : PySem.W.nsIn K mainGlobals "all" = some none)
    (zb_repr : PySem.W.nsIn K mainGlobals "repr" = some none)
    (zb_tuple : PySem.W.nsIn K mainGlobals "tuple" = some none)
    (zb_zip : PySem.W.nsIn K mainGlobals "zip" = some none)
    (zb_min : PySem.W.nsIn K mainGlobals "min" = some none)
    (zc_INTEGER_BOUND : PySem.W.nsIn K mainGlobals "INTEGER_BOUND" = some (some (.int (1000000000000000000000000000000000000000000000000000000000000) tk_INTEGER_BOUND)))
    (zc_BOTH_LETTERS : PySem.W.nsIn K mainGlobals "BOTH_LETTERS" = some (some (.ref ta_BOTH_LETTERS))) (zl_BOTH_LETTERS : K.lookup ta_BOTH_LETTERS = some ⟨.type "tuple", none, .seq #[.int 2 t0_BOTH_LETTERS, .int 4 t1_BOTH_LETTERS] tn_BOTH_LETTERS, ts_BOTH_LETTERS⟩)
    (zc_MAX_WIDTH : PySem.W.nsIn K mainGlobals "MAX_WIDTH" = some (some (.int (200) tk_MAX_WIDTH)))
    (zc_LETTERS : PySem.W.nsIn K mainGlobals "LETTERS" = some (some (.str "0123" tk_LETTERS)))
    : ∃ fd : FuncData, (∀ (s : Shared) (v : Value), BindsTo s fd ⟨[v], []⟩ [("_law_script", v)]) ∧ ∀ base : Heap, K.In base → base.Ns mainGlobals mg → FnOk l.prog w K mg base CX0 8 fa fd P_law (spLaw K) := by
  have e := hfa.symm.trans (PySem.W.mg_of X G a_law)
  cases e
  have T : Txt K mg := ⟨PySem.W.mg_none_of X G zb_len, PySem.W.mg_none_of X G zb_sum, PySem.W.mg_none_of X G zb_abs, PySem.W.mg_none_of X G zb_int, PySem.W.mg_none_of X G zb_max, PySem.W.mg_none_of X G zb_range, PySem.W.mg_none_of X G zb_str, PySem.W.mg_none_of X G zb_list, PySem.W.mg_none_of X G zb_isinstance, PySem.W.mg_none_of X G zb_bool, PySem.W.mg_none_of X G zb_all, PySem.W.mg_none_of X G zb_repr, PySem.W.mg_none_of X G zb_tuple, PySem.W.mg_none_of X G zb_zip, PySem.W.mg_none_of X G zb_min, ⟨_, V.int (1000000000000000000000000000000000000000000000000000000000000), PySem.W.mg_of X G zc_INTEGER_BOUND, ⟨_, rfl⟩, fun _ _ => .int _⟩, ⟨_, .ref ta_BOTH_LETTERS, PySem.W.mg_of X G zc_BOTH_LETTERS, rfl, fun _ _ => .tro (vs := [V.int 2, V.int 4]) (.inr ⟨_, _, _, zl_BOTH_LETTERS, rfl, rfl, by show 2 ≤ sizeLine; decide, (.cons (show L2.RelV (V.int 2) (.int 2 t0_BOTH_LETTERS) from ⟨_, rfl⟩) (.cons (show L2.RelV (V.int 4) (.int 4 t1_BOTH_LETTERS) from ⟨_, rfl⟩) .nil))⟩) (.cons (.int _) (.cons (.int _) .nil))⟩, ⟨_, V.int (200), PySem.W.mg_of X G zc_MAX_WIDTH, ⟨_, rfl⟩, fun _ _ => .int _⟩, ⟨_, V.str "0123", PySem.W.mg_of X G zc_LETTERS, ⟨_, rfl⟩, fun _ _ => .str _⟩⟩
  have F_law_bag : FunD K mg "_law_bag" s_law_bag P_law_bag := funD_mk (PySem.W.mg_of X G a_law_bag) (fun_mk (st := s_law_bag) l_law_bag c_law_bag k_law_bag) (Fun.binds (fun_mk (st := s_law_bag) l_law_bag c_law_bag k_law_bag) (ps := P_law_bag) fun _ _ _ _ _ _ us hl => match us, hl with | [_, _], _ => rfl)
  have F_law_draw : FunD K mg "_law_draw" s_law_draw P_law_draw := funD_mk (PySem.W.mg_of X G a_law_draw) (fun_mk (st := s_law_draw) l_law_draw c_law_draw k_law_draw) (Fun.binds (fun_mk (st := s_law_draw) l_law_draw c_law_draw k_law_draw) (ps := P_law_draw) fun _ _ _ _ _ _ us hl => match us, hl with | [_, _], _ => rfl)
  have F_law_one_of : FunD K mg "_law_one_of" s_law_one_of P_law_one_of := funD_mk (PySem.W.mg_of X G a_law_one_of) (fun_mk (st := s_law_one_of) l_law_one_of c_law_one_of k_law_one_of) (Fun.binds (fun_mk (st := s_law_one_of) l_law_one_of c_law_one_of k_law_one_of) (ps := P_law_one_of) fun _ _ _ _ _ _ us hl => match us, hl with | [_, _], _ => rfl)
  have F_law_text : FunD K mg "_law_text" s_law_text P_law_text := funD_mk (PySem.W.mg_of X G a_law_text) (fun_mk (st := s_law_text) l_law_text c_law_text k_law_text) (Fun.binds (fun_mk (st := s_law_text) l_law_text c_law_text k_law_text) (ps := P_law_text) fun _ _ _ _ _ _ us hl => match us, hl with | [_, _, _], _ => rfl)
  have F_law_near_text : FunD K mg "_law_near_text" s_law_near_text P_law_near_text := funD_mk (PySem.W.mg_of X G a_law_near_text) (fun_mk (st := s_law_near_text) l_law_near_text c_law_near_text k_law_near_text) (Fun.binds (fun_mk (st := s_law_near_text) l_law_near_text c_law_near_text k_law_near_text) (ps := P_law_near_text) fun _ _ _ _ _ _ us hl => match us, hl with | [_, _], _ => rfl)
  have F_is_integer : FunD K mg "is_integer" s_is_integer P_is_integer := funD_mk (PySem.W.mg_of X G a_is_integer) (fun_mk (st := s_is_integer) l_is_integer c_is_integer k_is_integer) (Fun.binds (fun_mk (st := s_is_integer) l_is_integer c_is_integer k_is_integer) (ps := P_is_integer) fun _ _ _ _ _ _ us hl => match us, hl with | [_], _ => rfl)
  have F_require_letters : FunD K mg "require_letters" s_require_letters P_require_letters := funD_mk (PySem.W.mg_of X G a_require_letters) (fun_mk (st := s_require_letters) l_require_letters c_require_letters k_require_letters) (Fun.binds (fun_mk (st := s_require_letters) l_require_letters c_require_letters k_require_letters) (ps := P_require_letters) fun _ _ _ _ _ _ us hl => match us, hl with | [_], _ => rfl)
  have F_is_text_of : FunD K mg "is_text_of" s_is_text_of P_is_text_of := funD_mk (PySem.W.mg_of X G a_is_text_of) (fun_mk (st := s_is_text_of) l_is_text_of c_is_text_of k_is_text_of) (Fun.binds (fun_mk (st := s_is_text_of) l_is_text_of c_is_text_of k_is_text_of) (ps := P_is_text_of) fun _ _ _ _ _ _ us hl => match us, hl with | [_, _], _ => rfl)
  have F_is_text : FunD K mg "is_text" s_is_text P_is_text := funD_mk (PySem.W.mg_of X G a_is_text) (fun_mk (st := s_is_text) l_is_text c_is_text k_is_text) (Fun.binds (fun_mk (st := s_is_text) l_is_text c_is_text k_is_text) (ps := P_is_text) fun _ _ _ _ _ _ us hl => match us, hl with | [_, _], _ => rfl)
  have F_law_are_texts : FunD K mg "_law_are_texts" s_law_are_texts P_law_are_texts := funD_mk (PySem.W.mg_of X G a_law_are_texts) (fun_mk (st := s_law_are_texts) l_law_are_texts c_law_are_texts k_law_are_texts) (Fun.binds (fun_mk (st := s_law_are_texts) l_law_are_texts c_law_are_texts k_law_are_texts) (ps := P_law_are_texts) fun _ _ _ _ _ _ us hl => match us, hl with | [_, _], _ => rfl)
  have F_law_texts : FunD K mg "_law_texts" s_law_texts P_law_texts := funD_mk (PySem.W.mg_of X G a_law_texts) (fun_mk (st := s_law_texts) l_law_texts c_law_texts k_law_texts) (Fun.binds (fun_mk (st := s_law_texts) l_law_texts c_law_texts k_law_texts) (ps := P_law_texts) fun _ _ _ _ _ _ us hl => match us, hl with | [_, _], _ => rfl)
  have F_is_integer_within : FunD K mg "is_integer_within" s_is_integer_within P_is_integer_within := funD_mk (PySem.W.mg_of X G a_is_integer_within) (fun_mk (st := s_is_integer_within) l_is_integer_within c_is_integer_within k_is_integer_within) (Fun.binds (fun_mk (st := s_is_integer_within) l_is_integer_within c_is_integer_within k_is_integer_within) (ps := P_is_integer_within) fun _ _ _ _ _ _ us hl => match us, hl with | [_, _, _], _ => rfl)
  have F_require_width : FunD K mg "require_width" s_require_width P_require_width := funD_mk (PySem.W.mg_of X G a_require_width) (fun_mk (st := s_require_width) l_require_width c_require_width k_require_width) (Fun.binds (fun_mk (st := s_require_width) l_require_width c_require_width k_require_width) (ps := P_require_width) fun _ _ _ _ _ _ us hl => match us, hl with | [_], _ => rfl)
  have F_next_digits : FunD K mg "next_digits" s_next_digits P_next_digits := funD_mk (PySem.W.mg_of X G a_next_digits) (fun_mk (st := s_next_digits) l_next_digits c_next_digits k_next_digits) (Fun.binds (fun_mk (st := s_next_digits) l_next_digits c_next_digits k_next_digits) (ps := P_next_digits) fun _ _ _ _ _ _ us hl => match us, hl with | [_, _], _ => rfl)
  have B_texts_of := (Fun.binds (fun_mk (st := s_texts_of) l_texts_of c_texts_of k_texts_of) (ps := P_texts_of) fun _ _ _ _ _ _ us hl => match us, hl with | [_, _], _ => rfl)
  have Gk_texts_of : ∀ f, mg "texts_of" = some (.ref f) → PySem.W.keepIn K (.ref f) = true := fun f hf => by have e := hf.symm.trans (PySem.W.mg_of X G a_texts_of); cases e; exact k_texts_of
  have F_law_are_all : FunD K mg "_law_are_all" s_law_are_all P_law_are_all := funD_mk (PySem.W.mg_of X G a_law_are_all) (fun_mk (st := s_law_are_all) l_law_are_all c_law_are_all k_law_are_all) (Fun.binds (fun_mk (st := s_law_are_all) l_law_are_all c_law_are_all k_law_are_all) (ps := P_law_are_all) fun _ _ _ _ _ _ us hl => match us, hl with | [_, _], _ => rfl)
  have F_require_text : FunD K mg "require_text" s_require_text P_require_text := funD_mk (PySem.W.mg_of X G a_require_text) (fun_mk (st := s_require_text) l_require_text c_require_text k_require_text) (Fun.binds (fun_mk (st := s_require_text) l_require_text c_require_text k_require_text) (ps := P_require_text) fun _ _ _ _ _ _ us hl => match us, hl with | [_, _], _ => rfl)
  have F_comes_ahead : FunD K mg "comes_ahead" s_comes_ahead P_comes_ahead := funD_mk (PySem.W.mg_of X G a_comes_ahead) (fun_mk (st := s_comes_ahead) l_comes_ahead c_comes_ahead k_comes_ahead) (Fun.binds (fun_mk (st := s_comes_ahead) l_comes_ahead c_comes_ahead k_comes_ahead) (ps := P_comes_ahead) fun _ _ _ _ _ _ us hl => match us, hl with | [_, _], _ => rfl)
  have F_law_ahead : FunD K mg "_law_ahead" s_law_ahead P_law_ahead := funD_mk (PySem.W.mg_of X G a_law_ahead) (fun_mk (st := s_law_ahead) l_law_ahead c_law_ahead k_law_ahead) (Fun.binds (fun_mk (st := s_law_ahead) l_law_ahead c_law_ahead k_law_ahead) (ps := P_law_ahead) fun _ _ _ _ _ _ us hl => match us, hl with | [_, _], _ => rfl)
  have F_law_are_ordered : FunD K mg "_law_are_ordered" s_law_are_ordered P_law_are_ordered := funD_mk (PySem.W.mg_of X G a_law_are_ordered) (fun_mk (st := s_law_are_ordered) l_law_are_ordered c_law_are_ordered k_law_are_ordered) (Fun.binds (fun_mk (st := s_law_are_ordered) l_law_are_ordered c_law_are_ordered k_law_are_ordered) (ps := P_law_are_ordered) fun _ _ _ _ _ _ us hl => match us, hl with | [_], _ => rfl)
  refine ⟨PySem.W.fnOf "law" "law" (defArgs s_law) (defBody s_law) (defScope s_law) .none kV_law dc_law pm_law an_law cd_law ct_law, fun s v => .of_eq rfl, fun base _ _ => ?_⟩
  have D__law_bag : Def l.prog w K mg base 1 "_law_bag" P_law_bag m_law_bag := ok_law_bag F_law_bag T 
  have D__law_draw : Def l.prog w K mg base 1 "_law_draw" P_law_draw m_law_draw := ok_law_draw F_law_draw T 
  have D__law_one_of : Def l.prog w K mg base 2 "_law_one_of" P_law_one_of m_law_one_of := ok_law_one_of F_law_one_of T D__law_draw
  have D__law_text : Def l.prog w K mg base 2 "_law_text" P_law_text m_law_text := ok_law_text F_law_text T D__law_draw
  have D__law_near_text : Def l.prog w K mg base 3 "_law_near_text" P_law_near_text m_law_near_text := ok_law_near_text F_law_near_text T D__law_one_of D__law_draw D__law_text
  have D_is_integer : Def l.prog w K mg base 1 "is_integer" P_is_integer m_is_integer := ok_is_integer F_is_integer T 
  have D_require_letters : Def l.prog w K mg base 2 "require_letters" P_require_letters m_require_letters := ok_require_letters F_require_letters T D_is_integer
  have D_is_text_of : Def l.prog w K mg base 1 "is_text_of" P_is_text_of m_is_text_of := ok_is_text_of F_is_text_of T 
  have D_is_text : Def l.prog w K mg base 3 "is_text" P_is_text m_is_text := ok_is_text F_is_text T D_require_letters D_is_text_of
  have D__law_are_texts : Def l.prog w K mg base 4 "_law_are_texts" P_law_are_texts m_law_are_texts := ok_law_are_texts F_law_are_texts T D__law_near_text D_is_text
  have D__law_texts : Def l.prog w K mg base 1 "_law_texts" P_law_texts m_law_texts := ok_law_texts F_law_texts T 
  have D_is_integer_within : Def l.prog w K mg base 2 "is_integer_within" P_is_integer_within m_is_integer_within := ok_is_integer_within F_is_integer_within T D_is_integer
  have D_require_width : Def l.prog w K mg base 3 "require_width" P_require_width m_require_width := ok_require_width F_require_width T D_is_integer_within
  have D_next_digits : Def l.prog w K mg base 1 "next_digits" P_next_digits m_next_digits := ok_next_digits F_next_digits T 
  have G_texts_of : GenD l.prog w K mg base 3 "texts_of" P_texts_of 5 y_texts_of := ok_texts_of (fun_mk (st := s_texts_of) l_texts_of c_texts_of k_texts_of) (PySem.W.mg_of X G a_texts_of) B_texts_of T D_require_letters D_require_width D_next_digits
  have D__law_are_all : Def l.prog w K mg base 7 "_law_are_all" P_law_are_all m_law_are_all := ok_law_are_all F_law_are_all T D__law_draw D__law_texts D__law_one_of G_texts_of Gk_texts_of
  have D_require_text : Def l.prog w K mg base 2 "require_text" P_require_text m_require_text := ok_require_text F_require_text T D_is_text_of
  have D_comes_ahead : Def l.prog w K mg base 3 "comes_ahead" P_comes_ahead m_comes_ahead := ok_comes_ahead F_comes_ahead T D_require_text
  have D__law_ahead : Def l.prog w K mg base 1 "_law_ahead" P_law_ahead m_law_ahead := ok_law_ahead F_law_ahead T 
  have D__law_are_ordered : Def l.prog w K mg base 4 "_law_are_ordered" P_law_are_ordered m_law_are_ordered := ok_law_are_ordered F_law_are_ordered T D__law_draw D__law_one_of D__law_text D_comes_ahead D__law_ahead
  exact ok_law (fun_mk (st := s_law) l_law c_law k_law) T D__law_bag D__law_one_of D__law_are_texts D__law_are_all D__law_are_ordered law_true
theorem walk {l : PySem.W.OpenLaw} {q : Program} {loose : List Str} {XP : (Str → Option Value) → Heap → Prop} {YP : World → Heap → Prop} {d : DefRec} {K : Params → PySem.W.Frag} (hn : l.most = some 63) (hdf : d.params.defaults = [])
    (hY : ∀ (w : World) (h : Heap), YP w h → (K w.params).In h)
    (F : ∀ (w : World) (mg : Str → Option Value) (fa : Addr) (h : Heap), (K w.params).In h → h.Ns mainGlobals mg → mg d.name = some (.ref fa) →
      ∃ fd : FuncData, (∀ (s : Shared) (u : Value), BindsTo s fd ⟨[u], []⟩ [("_law_script", u)]) ∧ ∀ base : Heap, (K w.params).In base → base.Ns mainGlobals mg → FnOk l.prog w (K w.params) mg base CX0 8 fa fd P_law (spLaw (K w.params))) :
    PySem.W.WalkO q loose XP YP l.row.toRowW d [] (fun f vs => PySem.call f vs) :=
  L2.walk_of (n := 63) (k := 8) (x := "_law_script") (CX := fun _ => CX0) (sp := fun w => spLaw (K w.params)) hn (by decide) hdf ⟨rfl, by decide, by decide⟩ hY F (fun _ _ a ns hl ho hS => ⟨a, ns, rfl, ho, hS, hl, rfl⟩) fun _ _ _ _ _ z => z
end N
open PySem PySem.W PyProof.Rows in
set_option maxHeartbeats 0 in
theorem PySem.Challenge.cw_mayrows_k01_whole_texts_holds : PySem.Challenge.rw_mayrows_k01_whole_texts.Holds := by
  w_on; o_law; k_head; (case hw => w_witness2)
  k_fill
  refine N.walk (l := PySem.Challenge.rw_mayrows_k01_whole_texts) rfl rfl (fun w h Y => PySem.W.kIn_of Y) ?F
  case F =>
    intro w mg fa h KX G hmg
    refine' N.all_mk KX G hmg ?a_law_bag ?l_law_bag ?c_law_bag ?k_law_bag ?a_law_draw ?l_law_draw ?c_law_draw ?k_law_draw ?a_law_one_of ?l_law_one_of ?c_law_one_of ?k_law_one_of ?a_law_text ?l_law_text ?c_law_text ?k_law_text ?a_law_near_text ?l_law_near_text ?c_law_near_text ?k_law_near_text ?a_is_integer ?l_is_integer ?c_is_integer ?k_is_integer ?a_require_letters ?l_require_letters ?c_require_letters ?k_require_letters ?a_is_text_of ?l_is_text_of ?c_is_text_of ?k_is_text_of ?a_is_text ?l_is_text ?c_is_text ?k_is_text ?a_law_are_texts ?l_law_are_texts ?c_law_are_texts ?k_law_are_texts ?a_law_texts ?l_law_texts ?c_law_texts ?k_law_texts ?a_is_integer_within ?l_is_integer_within ?c_is_integer_within ?k_is_integer_within ?a_require_width ?l_require_width ?c_require_width ?k_require_width ?a_next_digits ?l_next_digits ?c_next_digits ?k_next_digits ?a_texts_of ?l_texts_of ?c_texts_of ?k_texts_of ?a_law_are_all ?l_law_are_all ?c_law_are_all ?k_law_are_all ?a_require_text ?l_require_text ?c_require_text ?k_require_text ?a_comes_ahead ?l_comes_ahead ?c_comes_ahead ?k_comes_ahead ?a_law_ahead ?l_law_ahead ?c_law_ahead ?k_law_ahead ?a_law_are_ordered ?l_law_are_ordered ?c_law_are_ordered ?k_law_are_ordered ?a_law ?l_law ?c_law ?k_law ?zb_len ?zb_sum ?zb_abs ?zb_int ?zb_max ?zb_range ?zb_str ?zb_list ?zb_isinstance ?zb_bool ?zb_all ?zb_repr ?zb_tuple ?zb_zip ?zb_min ?zc_INTEGER_BOUND ?zc_BOTH_LETTERS ?zl_BOTH_LETTERS ?zc_MAX_WIDTH ?zc_LETTERS
    (case a_law_bag => k_is)
    (case l_law_bag => k_is)
    (case c_law_bag => k_is)
    (case k_law_bag => k_is)
    (case a_law_draw => k_is)
    (case l_law_draw => k_is)
    (case c_law_draw => k_is)
    (case k_law_draw => k_is)
    (case a_law_one_of => k_is)
    (case l_law_one_of => k_is)
    (case c_law_one_of => k_is)
    (case k_law_one_of => k_is)
    (case a_law_text => k_is)
    (case l_law_text => k_is)
    (case c_law_text => k_is)
    (case k_law_text => k_is)
    (case a_law_near_text => k_is)
    (case l_law_near_text => k_is)
    (case c_law_near_text => k_is)
    (case k_law_near_text => k_is)
    (case a_is_integer => k_is)
    (case l_is_integer => k_is)
    (case c_is_integer => k_is)
    (case k_is_integer => k_is)
    (case a_require_letters => k_is)
    (case l_require_letters => k_is)
    (case c_require_letters => k_is)
    (case k_require_letters => k_is)
    (case a_is_text_of => k_is)
    (case l_is_text_of => k_is)
    (case c_is_text_of => k_is)
    (case k_is_text_of => k_is)
    (case a_is_text => k_is)
    (case l_is_text => k_is)
    (case c_is_text => k_is)
    (case k_is_text => k_is)
    (case a_law_are_texts => k_is)
    (case l_law_are_texts => k_is)
    (case c_law_are_texts => k_is)
    (case k_law_are_texts => k_is)
    (case a_law_texts => k_is)
    (case l_law_texts => k_is)
    (case c_law_texts => k_is)
    (case k_law_texts => k_is)
    (case a_is_integer_within => k_is)
    (case l_is_integer_within => k_is)
    (case c_is_integer_within => k_is)
    (case k_is_integer_within => k_is)
    (case a_require_width => k_is)
    (case l_require_width => k_is)
    (case c_require_width => k_is)
    (case k_require_width => k_is)
    (case a_next_digits => k_is)
    (case l_next_digits => k_is)
    (case c_next_digits => k_is)
    (case k_next_digits => k_is)
    (case a_texts_of => k_is)
    (case l_texts_of => k_is)
    (case c_texts_of => k_is)
    (case k_texts_of => k_is)
    (case a_law_are_all => k_is)
    (case l_law_are_all => k_is)
    (case c_law_are_all => k_is)
    (case k_law_are_all => k_is)
    (case a_require_text => k_is)
    (case l_require_text => k_is)
    (case c_require_text => k_is)
    (case k_require_text => k_is)
    (case a_comes_ahead => k_is)
    (case l_comes_ahead => k_is)
    (case c_comes_ahead => k_is)
    (case k_comes_ahead => k_is)
    (case a_law_ahead => k_is)
    (case l_law_ahead => k_is)
    (case c_law_ahead => k_is)
    (case k_law_ahead => k_is)
    (case a_law_are_ordered => k_is)
    (case l_law_are_ordered => k_is)
    (case c_law_are_ordered => k_is)
    (case k_law_are_ordered => k_is)
    (case a_law => k_is)
    (case l_law => k_is)
    (case c_law => k_is)
    (case k_law => k_is)
    (case zb_len => k_is)
    (case zb_sum => k_is)
    (case zb_abs => k_is)
    (case zb_int => k_is)
    (case zb_max => k_is)
    (case zb_range => k_is)
    (case zb_str => k_is)
    (case zb_list => k_is)
    (case zb_isinstance => k_is)
    (case zb_bool => k_is)
    (case zb_all => k_is)
    (case zb_repr => k_is)
    (case zb_tuple => k_is)
    (case zb_zip => k_is)
    (case zb_min => k_is)
    (case zc_INTEGER_BOUND => k_is)
    (case zc_BOTH_LETTERS => k_is)
    (case zl_BOTH_LETTERS => k_is)
    (case zc_MAX_WIDTH => k_is)
    (case zc_LETTERS => k_is)
