import PyProof.Rows.All
import Wide.All
import OpenK.AllK
import Wide.FinOn
import HandS.ForMost
import HandS.Exc
import HandS.ExcOwn
import HandS.TryOnly
import HandS.WordsExc
import HandS.Wide
import HandS.IsInst
import HandS.Walk
import HandS.Flow
import HandS.Slots
import HandS.TupAny
import HandS.TupMul
import HandS.TupLe
import HandS.SortInts
import HandS.RaiseMore
import HandS.Zip
import HandS.Conv
import KE.KRevSl
import PyProof.StrOps2
import HandS.More
import HandS.Deep
import PyProof.P3In
import HandS.TupLen
import PyProof.ListStr
import HandS.Small
import HandS.Star
import KE.GoesZip
import PyProof.EnumMake
import HandS.GenList
import HandS.Ends
import HandS.SlotsOwn
import HandS.Dict
import HandS.TupSets
import HandS.Strs
import HandS.SetKeys
import PyProof.DictMoreH
import HandS.FStr
import KE.KCallOwn
import HandS.Iter
import PyProof.Draws
import HandS.WordsDict
import HandS.Style
import PyProof.SliceStr2
import KE.SortData
import OpenK.KMeth
import PyProof.InstNe
import HandS.Defaults
import HandS.MakeKwOnly
import HandS.OwnIter
import KE.KExcLine
import HandS.ExcSuper
import HandS.ExcValue
import HandS.TryMany
import HandS.ExcField
import HandS.DictComp
import KE.KDictZip
import HandS.ClsMeth
import KE.GoesMore
import HandS.HeadEnd
import PyProof.ReprRoads
import KE.RegKTryMore
import HandS.DictTup
import HandS.ListItems
import HandS.DictEq
import HandS.Head0
import HandS.Head1
import HandS.Head2
import HandS.HeadHook1
import HandS.HeadHook2
import PySem.Challenge.RW_mayrows_k03_errors_of_texts
set_option Elab.async false
set_option linter.all false
set_option maxRecDepth 100000
set_option maxHeartbeats 1000000
namespace N
open PySem L2
inductive W where
  | non | bl (b : Bool) | int (i : Int) | str (s : Str) | ty (n : String)
  | tup (xs : List W) | tro (xs : List W) | lst (xs : List W) | lro (xs : List W) | dct (t : Bool) (kvs : List (W × W))
  | ref (n : Nat) | fn (x : Str) | exo (ns : List Str) (ws : List W)
  deriving Inhabited
/-- a numbered object -/
inductive O where
  | lst (xs : List W)
  | dct (lk t : Bool) (kvs : List (W × W))
  | ins (c : Str) (ws : List (Option W))
  deriving Inhabited
def keyK : W → Option Key
  | .int i => some (.inl i)
  | .str s => some (.inr s)
  | _ => none
def keyKs : List W → Option (List Key)
  | [] => some []
  | w :: ws => match keyK w, keyKs ws with
    | some k, some ks => some (k :: ks)
    | _, _ => none
def keyT : W → Option (List Key)
  | .tup ws => keyKs ws
  | _ => none
/-- apart from a lock -/
def bare : HO → HO
  | .frz _ (.dK q) => .dK q
  | .frz _ (.dT q) => .dT q
  | o => o
def NoH : Hp := fun _ => none
/-- the addresses: the numbered ones, those that are hidden for a while; the exception that is handled, and its dict -/
structure Ix where
  num : List Addr
  hid : List Addr
  exs : Option (Addr × Addr)
def Ix.out (ι : Ix) (a : Addr) : Prop := a ∉ ι.num ∧ a ∉ ι.hid
def Ix.add (ι : Ix) (p : Addr) : Ix := ⟨ι.num ++ [p], ι.hid, ι.exs⟩
def FxL (K : PySem.W.Frag) (ι : Ix) (H : Hp) (a : Addr) (vs : List V) : Prop := (ι.out a ∧ ∃ ob, H a = some (.frz ob (.lst vs))) ∨ SqL K NoH a vs
section
variable (K : PySem.W.Frag) (mg : Str → Option Value) (ι : Ix) (H : Hp)
mutual
inductive RW : W → V → Prop
  | non : RW .non .non
  | bl (b : Bool) : RW (.bl b) (.bl b)
  | int (i : Int) : RW (.int i) (.int i)
  | str (s : Str) : RW (.str s) (.str s)
  | ty (n : String) : RW (.ty n) (.ty n)
  | tup {ws : List W} {a : Addr} {vs : List V} : ι.out a → H a = some (.tup vs) → RWs ws vs → RW (.tup ws) (.ref a)
  | tro {ws : List W} {a : Addr} {vs : List V} : SqT K NoH a vs → RWs ws vs → RW (.tro ws) (.ref a)
  | lst {ws : List W} {a : Addr} {vs : List V} : ι.out a → H a = some (.lst vs) → RWs ws vs → RW (.lst ws) (.ref a)
  | lro {ws : List W} {a : Addr} {vs : List V} : FxL K ι H a vs → RWs ws vs → RW (.lro ws) (.ref a)
  | dctK {kvs : List (W × W)} {a : Addr} {qs : List (Key × V)} : ι.out a → Rd H a (.dK qs) → RWk kvs qs → RW (.dct false kvs) (.ref a)
  | dctT {kvs : List (W × W)} {a : Addr} {qs : List (List Key × V)} : ι.out a → Rd H a (.dT qs) → RWt kvs qs → RW (.dct true kvs) (.ref a)
  | ref {n : Nat} {a : Addr} : ι.num[n]? = some a → RW (.ref n) (.ref a)
  | fn {x : Str} {a : Addr} : mg x = some (.ref a) → RW (.fn x) (.ref a)
  | exo {ns : List Str} {ws : List W} {a d : Addr} {vs : List V} : ι.exs = some (a, d) → ι.out d → H d = some (.xd (ns.zip vs)) → RWs ws vs → RW (.exo ns ws) (.ref a)
inductive RWs : List W → List V → Prop
  | nil : RWs [] []
  | cons {w : W} {ws : List W} {v : V} {vs : List V} : RW w v → RWs ws vs → RWs (w :: ws) (v :: vs)
inductive RWk : List (W × W) → List (Key × V) → Prop
  | nil : RWk [] []
  | cons {p : W × W} {ps : List (W × W)} {q : Key × V} {qs : List (Key × V)} : keyK p.1 = some q.1 → RW p.2 q.2 → RWk ps qs → RWk (p :: ps) (q :: qs)
inductive RWt : List (W × W) → List (List Key × V) → Prop
  | nil : RWt [] []
  | cons {p : W × W} {ps : List (W × W)} {q : List Key × V} {qs : List (List Key × V)} : keyT p.1 = some q.1 → RW p.2 q.2 → RWt ps qs → RWt (p :: ps) (q :: qs)
end
end
/-- from one moment to a later one: more numbered objects; what is not numbered stays -/
structure Gro0 (ι ι' : Ix) (H H' : Hp) : Prop where
  pre : ∃ t, ι'.num = ι.num ++ t
  keep : ∀ a o, ι.out a → H a = some o → ι'.out a ∧ ∃ o', H' a = some o' ∧ (bare o' = bare o ∨ ((∃ b, o = .own b) ∧ o' = .xd []) ∨ ((∃ ps, o = .tbl ps) ∧ ∃ ps, o' = .tbl ps))
  ex : ι'.exs = ι.exs
  lk : ∀ a ob u, H a = some (.frz ob u) → H' a = some (.frz ob u)
/-- .. and what is hidden is as it was -/
structure Grow (ι ι' : Ix) (H H' : Hp) : Prop where
  g0 : Gro0 ι ι' H H'
  hid : ι'.hid = ι.hid
  hkeep : ∀ a, a ∈ ι.hid → H' a = H a
instance {ι ι' : Ix} {H H' : Hp} : CoeOut (Grow ι ι' H H') (Gro0 ι ι' H H') := ⟨Grow.g0⟩
theorem bare_own {o : HO} {b : Addr} (h : bare o = .own b) : o = .own b := by
  unfold bare at h; split at h <;> simp_all
theorem bare_tbl {o : HO} {ps : Array Value} (h : bare o = .tbl ps) : o = .tbl ps := by
  unfold bare at h; split at h <;> simp_all
theorem Gro0.refl {ι : Ix} {H : Hp} : Gro0 ι ι H H := ⟨⟨[], by simp⟩, fun _ o n h => ⟨n, o, h, .inl rfl⟩, rfl, fun _ _ _ h => h⟩
theorem Grow.refl {ι : Ix} {H : Hp} : Grow ι ι H H := ⟨.refl, rfl, fun _ _ => rfl⟩
theorem Gro0.trans {ι ι1 ι2 : Ix} {H H1 H2 : Hp} (a : Gro0 ι ι1 H H1) (b : Gro0 ι1 ι2 H1 H2) : Gro0 ι ι2 H H2 := by
  obtain ⟨t, e⟩ := a.pre
  obtain ⟨u, f⟩ := b.pre
  refine ⟨⟨t ++ u, by rw [f, e, List.append_assoc]⟩, fun x o n h => ?_, b.ex.trans a.ex, fun x ob u h => b.lk x ob u (a.lk x ob u h)⟩
  obtain ⟨n1, o1, h1, e1⟩ := a.keep x o n h
  obtain ⟨n2, o2, h2, e2⟩ := b.keep x o1 n1 h1
  refine ⟨n2, o2, h2, ?_⟩
  rcases e1 with e1 | ⟨q1, rfl⟩ | ⟨q1, p1, rfl⟩
  · rcases e2 with e2 | ⟨⟨b, e2⟩, e3⟩ | ⟨⟨b, e2⟩, e3⟩
    · exact .inl (e2.trans e1)
    · subst e2; exact .inr (.inl ⟨⟨b, bare_own e1.symm⟩, e3⟩)
    · subst e2; exact .inr (.inr ⟨⟨b, bare_tbl e1.symm⟩, e3⟩)
  · rcases e2 with e2 | ⟨⟨b, e2⟩, e3⟩ | ⟨⟨b, e2⟩, e3⟩
    · refine .inr (.inl ⟨q1, ?_⟩)
      have : ∀ o, bare o = .xd [] → o = .xd [] := fun o h => by unfold bare at h; split at h <;> simp_all
      exact this _ e2
    · cases e2
    · cases e2
  · rcases e2 with e2 | ⟨⟨b, e2⟩, e3⟩ | ⟨⟨b, e2⟩, e3⟩
    · exact .inr (.inr ⟨q1, p1, bare_tbl e2⟩)
    · cases e2
    · exact .inr (.inr ⟨q1, e3⟩)
theorem Gro0.out {ι ι' : Ix} {H H' : Hp} (g : Gro0 ι ι' H H') {a : Addr} {o : HO} (n : ι.out a) (h : H a = some o) : ι'.out a := (g.keep a o n h).1
theorem Gro0.kept {ι ι' : Ix} {H H' : Hp} (g : Gro0 ι ι' H H') {a : Addr} {o : HO} (n : ι.out a) (h : H a = some o) (ho : ∀ b, o ≠ .own b) (ht : ∀ ps, o ≠ .tbl ps := by intro ps z; cases z) : ι'.out a ∧ ∃ o', H' a = some o' ∧ bare o' = bare o := by
  obtain ⟨n', o', h', e⟩ := g.keep a o n h
  rcases e with e | ⟨⟨b, e⟩, _⟩ | ⟨⟨b, e⟩, _⟩
  · exact ⟨n', o', h', e⟩
  · exact (ho b e).elim
  · exact (ht b e).elim
theorem Grow.trans {ι ι1 ι2 : Ix} {H H1 H2 : Hp} (a : Grow ι ι1 H H1) (b : Grow ι1 ι2 H1 H2) : Grow ι ι2 H H2 :=
  ⟨a.g0.trans b.g0, b.hid.trans a.hid, fun x hx => (b.hkeep x (by rw [a.hid]; exact hx)).trans (a.hkeep x hx)⟩
theorem bare_lst {o : HO} {vs : List V} (h : bare o = .lst vs) : o = .lst vs := by
  unfold bare at h; split at h <;> simp_all
theorem bare_xd {o : HO} {q : List (Str × V)} (h : bare o = .xd q) : o = .xd q := by
  unfold bare at h; split at h <;> simp_all
theorem bare_tup {o : HO} {vs : List V} (h : bare o = .tup vs) : o = .tup vs := by
  unfold bare at h; split at h <;> simp_all
theorem bare_fl {o : HO} {ob : Obj} {vs : List V} (h : bare o = .frz ob (.lst vs)) : o = .frz ob (.lst vs) := by
  unfold bare at h; split at h <;> simp_all
theorem bare_dK {o : HO} {q : List (Key × V)} (h : bare o = .dK q) : o = .dK q ∨ ∃ ob, o = .frz ob (.dK q) := by
  unfold bare at h; split at h <;> simp_all
theorem bare_dT {o : HO} {q : List (List Key × V)} (h : bare o = .dT q) : o = .dT q ∨ ∃ ob, o = .frz ob (.dT q) := by
  unfold bare at h; split at h <;> simp_all
section
variable {K : PySem.W.Frag} {mg : Str → Option Value} {ι ι' : Ix} {H H' : Hp}
theorem Gro0.at (g : Gro0 ι ι' H H') {n : Nat} {a : Addr} (h : ι.num[n]? = some a) : ι'.num[n]? = some a := by
  obtain ⟨t, e⟩ := g.pre
  rw [e, List.getElem?_append_left]
  · exact h
  · exact (List.getElem?_eq_some_iff.mp h).1
theorem Gro0.lst (g : Gro0 ι ι' H H') {a : Addr} {vs : List V} (n : ι.out a) (h : H a = some (.lst vs)) : ι'.out a ∧ H' a = some (.lst vs) := by
  obtain ⟨n', o', h', e⟩ := g.kept n h (by intro b z; cases z)
  rw [bare_lst e] at h'
  exact ⟨n', h'⟩
theorem Gro0.tup (g : Gro0 ι ι' H H') {a : Addr} {vs : List V} (n : ι.out a) (h : H a = some (.tup vs)) : ι'.out a ∧ H' a = some (.tup vs) := by
  obtain ⟨n', o', h', e⟩ := g.kept n h (by intro b z; cases z)
  rw [bare_tup e] at h'
  exact ⟨n', h'⟩
theorem NoH.sqT {a : Addr} {vs : List V} (h : SqT K NoH a vs) : SqT K H a vs := by
  rcases h with (h | ⟨_, h⟩) | h
  · cases h
  · cases h
  · exact .inr h
theorem Gro0.fxL (g : Gro0 ι ι' H H') {a : Addr} {vs : List V} (h : FxL K ι H a vs) : FxL K ι' H' a vs := by
  rcases h with ⟨n, ob, h⟩ | h
  · obtain ⟨n', o', h', e⟩ := g.kept n h (by intro b z; cases z)
    rw [bare_fl e] at h'
    exact .inl ⟨n', ob, h'⟩
  · exact .inr h
theorem Gro0.dK (g : Gro0 ι ι' H H') {a : Addr} {q : List (Key × V)} (n : ι.out a) (h : Rd H a (.dK q)) : ι'.out a ∧ Rd H' a (.dK q) := by
  have : ∃ o, H a = some o ∧ bare o = .dK q := by
    rcases h with h | ⟨ob, h⟩
    · exact ⟨_, h, rfl⟩
    · exact ⟨_, h, rfl⟩
  obtain ⟨o, h1, e1⟩ := this
  obtain ⟨n', o', h', e⟩ := g.kept n h1 (by rintro b rfl; cases e1) (by rintro b rfl; cases e1)
  rcases bare_dK (e.trans e1) with rfl | ⟨ob, rfl⟩
  · exact ⟨n', .inl h'⟩
  · exact ⟨n', .inr ⟨ob, h'⟩⟩
theorem Gro0.dT (g : Gro0 ι ι' H H') {a : Addr} {q : List (List Key × V)} (n : ι.out a) (h : Rd H a (.dT q)) : ι'.out a ∧ Rd H' a (.dT q) := by
  have : ∃ o, H a = some o ∧ bare o = .dT q := by
    rcases h with h | ⟨ob, h⟩
    · exact ⟨_, h, rfl⟩
    · exact ⟨_, h, rfl⟩
  obtain ⟨o, h1, e1⟩ := this
  obtain ⟨n', o', h', e⟩ := g.kept n h1 (by rintro b rfl; cases e1) (by rintro b rfl; cases e1)
  rcases bare_dT (e.trans e1) with rfl | ⟨ob, rfl⟩
  · exact ⟨n', .inl h'⟩
  · exact ⟨n', .inr ⟨ob, h'⟩⟩
mutual
theorem RW.mono (g : Gro0 ι ι' H H') : ∀ (w : W) (v : V), RW K mg ι H w v → RW K mg ι' H' w v
  | .non, _, h => by cases h; exact .non
  | .bl b, _, h => by cases h; exact .bl b
  | .int b, _, h => by cases h; exact .int b
  | .str b, _, h => by cases h; exact .str b
  | .ty b, _, h => by cases h; exact .ty b
  | .tup ws, _, h => by
    cases h with
    | tup h0 h1 h2 => exact .tup (g.tup h0 h1).1 (g.tup h0 h1).2 (RWs.mono g ws _ h2)
  | .tro ws, _, h => by
    cases h with
    | tro h1 h2 => exact .tro h1 (RWs.mono g ws _ h2)
  | .lst ws, _, h => by
    cases h with
    | lst h0 h1 h2 => exact .lst (g.lst h0 h1).1 (g.lst h0 h1).2 (RWs.mono g ws _ h2)
  | .lro ws, _, h => by
    cases h with
    | lro h1 h2 => exact .lro (g.fxL h1) (RWs.mono g ws _ h2)
  | .dct _ kvs, _, h => by
    cases h with
    | dctK h0 h1 h2 => exact .dctK (g.dK h0 h1).1 (g.dK h0 h1).2 (RWk.mono g kvs _ h2)
    | dctT h0 h1 h2 => exact .dctT (g.dT h0 h1).1 (g.dT h0 h1).2 (RWt.mono g kvs _ h2)
  | .ref n, _, h => by
    cases h with
    | ref h1 => exact .ref (g.at h1)
  | .fn x, _, h => by
    cases h with
    | fn h1 => exact .fn h1
  | .exo ns ws, _, h => by
    cases h with
    | exo h0 h1 h2 h3 =>
      obtain ⟨n', o', h', e⟩ := g.kept h1 h2 (by intro b z; cases z)
      rw [bare_xd e] at h'
      exact .exo (g.ex.trans h0) n' h' (RWs.mono g ws _ h3)
theorem RWs.mono (g : Gro0 ι ι' H H') : ∀ (ws : List W) (vs : List V), RWs K mg ι H ws vs → RWs K mg ι' H' ws vs
  | [], _, h => by cases h; exact .nil
  | w :: ws, _, h => by
    cases h with
    | cons h1 h2 => exact .cons (RW.mono g w _ h1) (RWs.mono g ws _ h2)
theorem RWk.mono (g : Gro0 ι ι' H H') : ∀ (ws : List (W × W)) (vs : List (Key × V)), RWk K mg ι H ws vs → RWk K mg ι' H' ws vs
  | [], _, h => by cases h; exact .nil
  | (k, w) :: ws, _, h => by
    cases h with
    | cons h0 h1 h2 => exact .cons h0 (RW.mono g w _ h1) (RWk.mono g ws _ h2)
theorem RWt.mono (g : Gro0 ι ι' H H') : ∀ (ws : List (W × W)) (vs : List (List Key × V)), RWt K mg ι H ws vs → RWt K mg ι' H' ws vs
  | [], _, h => by cases h; exact .nil
  | (k, w) :: ws, _, h => by
    cases h with
    | cons h0 h1 h2 => exact .cons h0 (RW.mono g w _ h1) (RWt.mono g ws _ h2)
end
theorem RWs.len : ∀ {ws : List W} {vs : List V}, RWs K mg ι H ws vs → vs.length = ws.length
  | [], _, h => by cases h; rfl
  | w :: ws, _, h => by
    cases h with
    | cons h1 h2 => rw [List.length_cons, List.length_cons, RWs.len h2]
theorem RWs.at : ∀ {ws : List W} {vs : List V} {i : Nat} {w : W}, RWs K mg ι H ws vs → ws[i]? = some w → ∃ v, vs[i]? = some v ∧ RW K mg ι H w v
  | [], _, i, w, h, e => by simp at e
  | x :: ws, _, 0, w, h, e => by
    cases h with
    | cons h1 h2 =>
      have e' := Option.some.inj e
      subst e'
      exact ⟨_, rfl, h1⟩
  | x :: ws, _, i + 1, w, h, e => by
    cases h with
    | cons h1 h2 => exact RWs.at (i := i) h2 e
theorem RWs.get : ∀ {ws : List W} {vs : List V} {i : Nat} {v : V}, RWs K mg ι H ws vs → vs[i]? = some v → ∃ w, ws[i]? = some w ∧ RW K mg ι H w v
  | [], _, i, w, h, e => by cases h; simp at e
  | x :: ws, _, 0, w, h, e => by
    cases h with
    | cons h1 h2 =>
      have e' := Option.some.inj e
      subst e'
      exact ⟨_, rfl, h1⟩
  | x :: ws, _, i + 1, w, h, e => by
    cases h with
    | cons h1 h2 => exact RWs.get (i := i) h2 e
theorem RWs.app : ∀ {ws xs : List W} {vs us : List V}, RWs K mg ι H ws vs → RWs K mg ι H xs us → RWs K mg ι H (ws ++ xs) (vs ++ us)
  | [], _, _, _, h, q => by cases h; exact q
  | w :: ws, _, _, _, h, q => by
    cases h with
    | cons h1 h2 => exact .cons h1 (RWs.app h2 q)
theorem RWs.take : ∀ {ws : List W} {vs : List V} (n : Nat), RWs K mg ι H ws vs → RWs K mg ι H (ws.take n) (vs.take n)
  | _, _, 0, _ => .nil
  | [], _, n + 1, h => by cases h; exact .nil
  | w :: ws, _, n + 1, h => by
    cases h with
    | cons h1 h2 => exact .cons h1 (RWs.take n h2)
theorem RWs.drop : ∀ {ws : List W} {vs : List V} (n : Nat), RWs K mg ι H ws vs → RWs K mg ι H (ws.drop n) (vs.drop n)
  | _, _, 0, h => h
  | [], _, n + 1, h => by cases h; exact .nil
  | w :: ws, _, n + 1, h => by
    cases h with
    | cons h1 h2 => exact RWs.drop n h2
theorem RWs.set : ∀ {ws : List W} {vs : List V} {w : W} {v : V} (n : Nat), RWs K mg ι H ws vs → RW K mg ι H w v → RWs K mg ι H (ws.set n w) (vs.set n v)
  | [], _, _, _, n, h, q => by cases h; exact .nil
  | x :: ws, _, _, _, 0, h, q => by
    cases h with
    | cons h1 h2 => exact .cons q h2
  | x :: ws, _, _, _, n + 1, h, q => by
    cases h with
    | cons h1 h2 => exact .cons h1 (RWs.set n h2 q)
theorem FxL.sq {a : Addr} {vs : List V} (h : FxL K ι H a vs) : SqL K H a vs := by
  rcases h with ⟨_, ob, h⟩ | h
  · exact .inl (.inr ⟨ob, h⟩)
  · rcases h with (h | ⟨_, h⟩) | h
    · cases h
    · cases h
    · exact .inr h
end
section
variable (K : PySem.W.Frag) (mg : Str → Option Value) (ι : Ix) (H : Hp)
def LkD (lk : Bool) (a : Addr) (u : HO) : Prop := if lk then ∃ ob, H a = some (.frz ob u) else H a = some u
inductive RO : O → Addr → Prop
  | lst {ws : List W} {a : Addr} {vs : List V} : H a = some (.lst vs) → RWs K mg ι H ws vs → RO (.lst ws) a
  | dctK {lk : Bool} {kvs : List (W × W)} {a : Addr} {qs : List (Key × V)} : LkD H lk a (.dK qs) → RWk K mg ι H kvs qs → RO (.dct lk false kvs) a
  | dctT {lk : Bool} {kvs : List (W × W)} {a : Addr} {qs : List (List Key × V)} : LkD H lk a (.dT qs) → RWt K mg ι H kvs qs → RO (.dct lk true kvs) a
  | ins {c : Str} {C a dx : Addr} {ws : List (Option W)} {vs : List (Option V)} : mg c = some (.ref C) → ι.out dx → (H dx = some (.own a) ∨ H dx = some (.xd [])) → SlX.Slt H a C dx vs → (∀ (i : Nat) (w : W), ws[i]? = some (some w) → ∃ v, vs[i]? = some (some v) ∧ RW K mg ι H w v) → RO (.ins c ws) a
structure Fit (h : List O) : Prop where
  nd : ι.num.Nodup
  len : ι.num.length = h.length
  obj : ∀ (n : Nat) (o : O) (a : Addr), h[n]? = some o → ι.num[n]? = some a → RO K mg ι H o a
  hd : ∀ a, a ∈ ι.hid → (∃ o, H a = some o ∧ ∀ vs, o ≠ .tup vs) ∧ a ∉ ι.num
/-- the slots -/
structure Sl (z : Option (Addr × Addr)) (σn : List (Option W)) (σ : St) : Prop where
  ex : ι.exs = z
  len : σn.length = σ.length
  at' : ∀ (i : Nat) (w : W), σn[i]? = some (some w) → ∃ v, σ[i]? = some (some v) ∧ RW K mg ι H w v
end
section
variable {K : PySem.W.Frag} {mg : Str → Option Value} {ι ι' : Ix} {H H' : Hp} {h h' : List O} {σn : List (Option W)} {σ : St} {z : Option (Addr × Addr)}
theorem Sl.mono (s : Sl K mg ι H z σn σ) (g : Gro0 ι ι' H H') : Sl K mg ι' H' z σn σ := ⟨g.ex.trans s.ex, s.len, fun i w e => by
  obtain ⟨v, h1, h2⟩ := s.at' i w e
  exact ⟨v, h1, RW.mono g _ _ h2⟩⟩
theorem Sl.set (s : Sl K mg ι H z σn σ) {w : W} {v : V} (r : RW K mg ι H w v) (i : Nat) : Sl K mg ι H z (σn.set i (some w)) (σ.set i (some v)) := ⟨s.ex, by simp [s.len], fun j x e => by
  by_cases hj : i = j
  · subst hj
    by_cases hl : i < σn.length
    · rw [List.getElem?_set_self hl] at e
      cases e
      exact ⟨v, by rw [List.getElem?_set_self (by rw [← s.len]; exact hl)], r⟩
    · rw [List.getElem?_eq_none (by simpa using hl)] at e
      cases e
  · rw [List.getElem?_set_ne hj] at e ⊢
    exact s.at' j x e⟩
theorem Sl.un (s : Sl K mg ι H z σn σ) (i : Nat) (u : Option V) : Sl K mg ι H z (σn.set i none) (σ.set i u) := ⟨s.ex, by simp [s.len], fun j x e => by
  by_cases hj : i = j
  · subst hj
    by_cases hl : i < σn.length
    · rw [List.getElem?_set_self hl] at e
      cases e
    · rw [List.getElem?_eq_none (by simpa using hl)] at e
      cases e
  · rw [List.getElem?_set_ne hj] at e ⊢
    exact s.at' j x e⟩
theorem RO.trk {o : O} {a : Addr} (r : RO K mg ι H o a) : ∃ u, H a = some u := by
  cases r with
  | lst h1 _ => exact ⟨_, h1⟩
  | @dctK lk _ _ _ h1 _ => cases lk with
    | true => obtain ⟨ob, h1⟩ := h1; exact ⟨_, h1⟩
    | false => exact ⟨_, h1⟩
  | @dctT lk _ _ _ h1 _ => cases lk with
    | true => obtain ⟨ob, h1⟩ := h1; exact ⟨_, h1⟩
    | false => exact ⟨_, h1⟩
  | ins _ _ _ h1 _ =>
    rcases h1 with ⟨h1, _⟩ | ⟨h1, _⟩
    · exact ⟨_, h1⟩
    · exact ⟨_, h1⟩
theorem Fit.trk (f : Fit K mg ι H h) {a : Addr} (ha : a ∈ ι.num) : ∃ u, H a = some u := by
  obtain ⟨n, hn, rfl⟩ := List.getElem_of_mem ha
  have hl : n < h.length := by rw [← f.len]; exact hn
  exact (f.obj n _ _ (List.getElem?_eq_getElem hl) (List.getElem?_eq_getElem hn)).trk
theorem Fit.nin (f : Fit K mg ι H h) {p : Addr} (hp : H p = none) : ι.out p := by
  refine ⟨fun hm => ?_, fun hm => ?_⟩
  · obtain ⟨u, e⟩ := f.trk hm
    rw [hp] at e; cases e
  · obtain ⟨⟨u, e, _⟩, _⟩ := f.hd p hm
    rw [hp] at e; cases e
theorem RO.mono {o : O} {a : Addr} (r : RO K mg ι H o a) (g : Gro0 ι ι' H H') (e : H' a = H a) : RO K mg ι' H' o a := by
  cases r with
  | lst h1 h2 => exact .lst (e.trans h1) (RWs.mono g _ _ h2)
  | dctK h1 h2 => exact .dctK (by unfold LkD at h1 ⊢; rw [e]; exact h1) (RWk.mono g _ _ h2)
  | dctT h1 h2 => exact .dctT (by unfold LkD at h1 ⊢; rw [e]; exact h1) (RWt.mono g _ _ h2)
  | @ins _ _ _ dx _ _ hm hd hs h1 h2 =>
    have r : ∀ (i : Nat) (w : W), _ → ∃ v, _ ∧ RW K mg ι' H' w v := fun i w q => let ⟨v, q1, q2⟩ := h2 i w q; ⟨v, q1, RW.mono g _ _ q2⟩
    have key : ι'.out dx ∧ (H' dx = some (.own a) ∨ H' dx = some (.xd [])) := by
      rcases hs with hs | hs
      · obtain ⟨n', o', q, eo⟩ := g.keep _ _ hd hs
        refine ⟨n', ?_⟩
        rcases eo with eo | ⟨_, rfl⟩ | ⟨⟨_, z⟩, _⟩
        · rw [bare_own eo] at q; exact .inl q
        · exact .inr q
        · cases z
      · obtain ⟨n', o', q, eo⟩ := g.kept hd hs (by intro b z; cases z)
        rw [bare_xd eo] at q
        exact ⟨n', .inr q⟩
    refine .ins hm key.1 key.2 ?_ r
    rcases h1 with ⟨h1, h3⟩ | ⟨h1, h3⟩
    · exact .inl ⟨e.trans h1, h3⟩
    · obtain ⟨n', o', q, eo⟩ := g.kept hd h3 (by intro b z; cases z)
      rw [bare_xd eo] at q
      exact .inr ⟨e.trans h1, q⟩
theorem Fit.mono (f : Fit K mg ι H h) (g : Grow ι ι H H') (e : ∀ a, a ∈ ι.num → H' a = H a) : Fit K mg ι H' h :=
  ⟨f.nd, f.len, fun n o a h1 h2 => (f.obj n o a h1 h2).mono g (e a (List.mem_of_getElem? h2)), fun a ha => by rw [g.hkeep a ha]; exact f.hd a ha⟩
theorem Fit.hne (f : Fit K mg ι H h) {p a : Addr} (hp : H p = none) (ha : a ∈ ι.hid) : a ≠ p := fun z => by
  obtain ⟨⟨u, e, _⟩, _⟩ := f.hd a ha
  rw [z, hp] at e; cases e
/-- a new thing that is not numbered -/
theorem Fit.grow (f : Fit K mg ι H h) {p : Addr} (hp : H p = none) (o : HO) : Grow ι ι H (upd H p o) :=
  ⟨⟨⟨[], by simp⟩, fun a u n q => ⟨n, u, by rw [upd_ne (ne_of_none q hp)]; exact q, .inl rfl⟩, rfl, fun a ob u q => by rw [upd_ne (ne_of_none q hp)]; exact q⟩, rfl, fun a ha => upd_ne (f.hne hp ha)⟩
theorem Fit.new (f : Fit K mg ι H h) {p : Addr} (hp : H p = none) (o : HO) : Fit K mg ι (upd H p o) h :=
  f.mono (f.grow hp o) fun a ha => upd_ne (fun z => (f.nin hp).1 (z ▸ ha))
/-- a new numbered thing -/
theorem Fit.growN (f : Fit K mg ι H h) {p : Addr} (hp : H p = none) (o : HO) : Grow ι (ι.add p) H (upd H p o) :=
  ⟨⟨⟨[p], rfl⟩, fun a u n q => by
    have hx : a ≠ p := ne_of_none q hp
    refine ⟨⟨?_, n.2⟩, u, ?_, .inl rfl⟩
    · show a ∉ ι.num ++ [p]
      rw [List.mem_append, List.mem_singleton]
      exact fun z => z.elim n.1 hx
    · rw [upd_ne hx]; exact q, rfl, fun a ob u q => by rw [upd_ne (ne_of_none q hp)]; exact q⟩, rfl, fun a ha => upd_ne (f.hne hp ha)⟩
theorem Fit.push (f : Fit K mg ι H h) {p : Addr} (hp : H p = none) {o : HO} {on : O} (r : RO K mg (ι.add p) (upd H p o) on p) : Fit K mg (ι.add p) (upd H p o) (h ++ [on]) := by
  have np := (f.nin hp).1
  refine ⟨?_, by simp [f.len, Ix.add], fun n u a h1 h2 => ?_, fun a ha => ?_⟩
  · show (ι.num ++ [p]).Nodup
    rw [List.nodup_append]
    exact ⟨f.nd, by simp, fun x hx y hy => by rw [List.mem_singleton] at hy; subst hy; exact fun z => np (z ▸ hx)⟩
  · have h2 : (ι.num ++ [p])[n]? = some a := h2
    by_cases hn : n < h.length
    · rw [List.getElem?_append_left hn] at h1
      rw [List.getElem?_append_left (by rw [f.len]; exact hn)] at h2
      exact (f.obj n u a h1 h2).mono (f.growN hp o) (upd_ne fun z => np (z ▸ List.mem_of_getElem? h2))
    · have hn2 : n = h.length := by
        have := (List.getElem?_eq_some_iff.mp h1).1
        simp at this
        omega
      subst hn2
      rw [List.getElem?_append_right (Nat.le_refl _), Nat.sub_self] at h1
      rw [← f.len, List.getElem?_append_right (Nat.le_refl _), Nat.sub_self] at h2
      cases h1
      cases h2
      exact r
  · have ha : a ∈ ι.hid := ha
    obtain ⟨h1, h2⟩ := f.hd a ha
    refine ⟨by rw [upd_ne (f.hne hp ha)]; exact h1, ?_⟩
    show a ∉ ι.num ++ [p]
    rw [List.mem_append, List.mem_singleton]
    exact fun z => z.elim h2 (f.hne hp ha)
theorem nf {H : Hp} {a : Addr} {o : HO} (e : H a = some o) (h : ∀ ob u, o ≠ .frz ob u := by intro _ _ z; cases z) : ∀ ob u, H a ≠ some (.frz ob u) := fun ob u z => by
  rw [e] at z; cases z; exact h ob u rfl
theorem Fit.growP (f : Fit K mg ι H h) {n : Nat} {a : Addr} (ha : ι.num[n]? = some a) (hnf : ∀ ob u, H a ≠ some (.frz ob u)) (o : HO) : Grow ι ι H (upd H a o) :=
  ⟨⟨⟨[], by simp⟩, fun b u nb q => by
    have hx : b ≠ a := fun z => nb.1 (by rw [z]; exact List.mem_of_getElem? ha)
    exact ⟨nb, u, by rw [upd_ne hx]; exact q, .inl rfl⟩, rfl, fun b ob u q => by rw [upd_ne (fun z => hnf ob u (by rw [← z]; exact q))]; exact q⟩, rfl, fun b hb => upd_ne fun z => (f.hd b hb).2 (by rw [z]; exact List.mem_of_getElem? ha)⟩
/-- a numbered thing is changed -/
theorem Fit.put (f : Fit K mg ι H h) {n : Nat} {a : Addr} (ha : ι.num[n]? = some a) (hnf : ∀ ob u, H a ≠ some (.frz ob u)) {o : HO} {on : O} (r : RO K mg ι (upd H a o) on a) : Fit K mg ι (upd H a o) (h.set n on) := by
  refine ⟨f.nd, by simp [f.len], fun m u b h1 h2 => ?_, fun b hb => by rw [(f.growP ha hnf o).hkeep b hb]; exact f.hd b hb⟩
  by_cases hm : n = m
  · subst hm
    rw [ha] at h2
    cases h2
    have hl := (List.getElem?_eq_some_iff.mp h1).1
    rw [List.getElem?_set_self (by simpa using hl)] at h1
    cases h1
    exact r
  · rw [List.getElem?_set_ne hm] at h1
    have hb : b ≠ a := fun z => by
      subst z
      obtain ⟨p1, q1⟩ := List.getElem?_eq_some_iff.mp ha
      obtain ⟨p2, q2⟩ := List.getElem?_eq_some_iff.mp h2
      exact hm ((List.getElem_inj f.nd).mp (q1.trans q2.symm))
    exact (f.obj m u b h1 h2).mono (f.growP ha hnf o) (upd_ne hb)
def putW (i : Nat) (w : W) (ws : List (Option W)) : List (Option W) := (ws ++ List.replicate (i + 1 - ws.length) none).set i (some w)
/-- a tracked tuple has no number and is not hidden -/
theorem Fit.outT (f : Fit K mg ι H h) {b : Addr} {vs : List V} (e : H b = some (.tup vs)) : ι.out b := by
  refine ⟨fun hm => ?_, fun hm => ?_⟩
  · obtain ⟨n, hn, rfl⟩ := List.getElem_of_mem hm
    have hl : n < h.length := by rw [← f.len]; exact hn
    have r := f.obj n _ _ (List.getElem?_eq_getElem hl) (List.getElem?_eq_getElem hn)
    generalize h[n] = ob at r
    cases r with
    | lst h1 _ => rw [e] at h1; cases h1
    | @dctK lk _ _ _ h1 _ => cases lk with
      | true => obtain ⟨ob, h1⟩ := h1; rw [e] at h1; cases h1
      | false => have h1 : H _ = some _ := h1; rw [e] at h1; cases h1
    | @dctT lk _ _ _ h1 _ => cases lk with
      | true => obtain ⟨ob, h1⟩ := h1; rw [e] at h1; cases h1
      | false => have h1 : H _ = some _ := h1; rw [e] at h1; cases h1
    | ins _ _ _ h1 _ =>
      rcases h1 with ⟨h1, _⟩ | ⟨h1, _⟩
      · rw [e] at h1; cases h1
      · rw [e] at h1; unfold SlX.SlO at h1; cases h1
  · obtain ⟨⟨o, e1, e2⟩, _⟩ := f.hd b hm
    rw [e] at e1; cases e1; exact e2 _ rfl
end
end N
set_option maxHeartbeats 1000000
namespace N
open PySem L2
structure Ex where
  c : Str
  fs : List (Str × W)
inductive ER (α : Type) where
  | ok (a : α) (h : List O) | exc (x : Ex) (h : List O) | stuck
inductive SR where
  | nx (σ : List (Option W)) (h : List O) | rt (w : W) (h : List O) | bk (σ : List (Option W)) (h : List O) | ct (σ : List (Option W)) (h : List O)
  | exc (x : Ex) (σ : List (Option W)) (h : List O) | stuck
abbrev Slo := List (Option W)
abbrev ME := Slo → List O → ER W
abbrev MT := Slo → List O → ER Bool
abbrev MA := Slo → List O → ER (List W)
abbrev MS := Slo → List O → SR
abbrev MF := List W → List O → ER W
def ER.bind {α β : Type} (r : ER α) (f : α → List O → ER β) : ER β := match r with
  | .ok a h => f a h
  | .exc x h => .exc x h
  | .stuck => .stuck
def ER.sbind {α : Type} (r : ER α) (σ : Slo) (f : α → List O → SR) : SR := match r with
  | .ok a h => f a h
  | .exc x h => .exc x σ h
  | .stuck => .stuck
def ofO {α : Type} (h : List O) : Option α → ER α
  | some a => .ok a h
  | none => .stuck
def ofH {α : Type} : Option (α × List O) → ER α
  | some (a, h) => .ok a h
  | none => .stuck
@[simp] theorem bind_ok {α β : Type} (a : α) (h : List O) (f : α → List O → ER β) : (ER.ok a h).bind f = f a h := rfl
@[simp] theorem bind_exc {α β : Type} (x : Ex) (h : List O) (f : α → List O → ER β) : (ER.exc x h : ER α).bind f = .exc x h := rfl
@[simp] theorem bind_stuck {α β : Type} (f : α → List O → ER β) : (ER.stuck : ER α).bind f = .stuck := rfl
@[simp] theorem sbind_ok {α : Type} (a : α) (h : List O) (σ : Slo) (f : α → List O → SR) : (ER.ok a h).sbind σ f = f a h := rfl
@[simp] theorem sbind_exc {α : Type} (x : Ex) (h : List O) (σ : Slo) (f : α → List O → SR) : (ER.exc x h : ER α).sbind σ f = .exc x σ h := rfl
@[simp] theorem sbind_stuck {α : Type} (σ : Slo) (f : α → List O → SR) : (ER.stuck : ER α).sbind σ f = .stuck := rfl
@[simp] theorem ofO_some {α : Type} (h : List O) (a : α) : ofO h (some a) = .ok a h := rfl
@[simp] theorem ofO_none {α : Type} (h : List O) : ofO h (none : Option α) = .stuck := rfl
@[simp] theorem ofH_some {α : Type} (h : List O) (a : α) : ofH (some (a, h)) = .ok a h := rfl
@[simp] theorem ofH_none {α : Type} : ofH (none : Option (α × List O)) = .stuck := rfl
/-- what is handled, by the context -/
def zX (X : Cx) : Option (Addr × Addr) := if X.calm = true then none else match X.pn with
  | (a, oe) :: _ => oe.dict.map fun d => (a, d)
  | [] => none
section
variable (K : PySem.W.Frag) (mg : Str → Option Value) (z : Option (Addr × Addr))
inductive RXc : Str → Value → Prop
  | own {x : Str} {a : Addr} : mg x = some (.ref a) → RXc x (.ref a)
  | blt {x : Str} {c : Value} : mg x = none → bootBuiltins x = some c → x ≠ "__name__" → RXc x c
/-- an exception in flight -/
inductive RX (ι : Ix) (H : Hp) : Ex → Value → Option Addr → Prop
  | no {x : Str} {c : Value} : RXc mg x c → RX ι H ⟨x, []⟩ c none
  | xd {x : Str} {c : Value} {a : Addr} {fs : List (Str × W)} {qs : List (Str × V)} : RXc mg x c → ι.out a → H a = some (.xd qs) → fs.map (·.1) = qs.map (·.1) → RWs K mg ι H (fs.map (·.2)) (qs.map (·.2)) → RX ι H ⟨x, fs⟩ c (some a)
/-- behind a run from ι, H -/
def Aft {α β : Type} (ι : Ix) (H : Hp) (r : ER α) (rel : Ix → Hp → α → β → Prop) (Q : β → Hp → Prop) (E : XK) : Prop := match r with
  | .ok w h' => ∀ ι' v H', Grow ι ι' H H' → Fit K mg ι' H' h' → rel ι' H' w v → Q v H'
  | .exc x h' => ∀ ι' c d H', Grow ι ι' H H' → Fit K mg ι' H' h' → RX K mg ι' H' x c d → E c d H'
  | .stuck => False
def AftS (ι : Ix) (H : Hp) (r : SR) (D : Ends) (E : WX) : Prop := match r with
  | .nx σn h' => ∀ ι' σ' H', Grow ι ι' H H' → Fit K mg ι' H' h' → Sl K mg ι' H' z σn σ' → D.nx σ' H'
  | .rt w h' => ∀ ι' v H', Grow ι ι' H H' → Fit K mg ι' H' h' → RW K mg ι' H' w v → D.rt v H'
  | .bk σn h' => ∀ ι' σ' H', Grow ι ι' H H' → Fit K mg ι' H' h' → Sl K mg ι' H' z σn σ' → D.bk σ' H'
  | .ct σn h' => ∀ ι' σ' H', Grow ι ι' H H' → Fit K mg ι' H' h' → Sl K mg ι' H' z σn σ' → D.ct σ' H'
  | .exc x σn h' => ∀ ι' c d σ' H', Grow ι ι' H H' → Fit K mg ι' H' h' → Sl K mg ι' H' z σn σ' → RX K mg ι' H' x c d → E c d σ' H'
  | .stuck => False
/-- lifted readings -/
def tN (E : WX) (m : ME) : TE := fun σ H Q => ∃ ι σn h, Fit K mg ι H h ∧ Sl K mg ι H z σn σ ∧ Aft K mg ι H (m σn h) (RW K mg) Q (fun c d H' => E c d σ H')
def tNT (E : WX) (m : MT) : TT := fun σ H Q => ∃ ι σn h, Fit K mg ι H h ∧ Sl K mg ι H z σn σ ∧ Aft K mg ι H (m σn h) (fun _ _ a b => a = b) Q (fun c d H' => E c d σ H')
def tNA (E : WX) (m : MA) : TA := fun σ H Q => ∃ ι σn h, Fit K mg ι H h ∧ Sl K mg ι H z σn σ ∧ Aft K mg ι H (m σn h) (RWs K mg) Q (fun c d H' => E c d σ H')
def tNS (E : WX) (m : MS) : TS := fun D σ H => ∃ ι σn h, Fit K mg ι H h ∧ Sl K mg ι H z σn σ ∧ AftS K mg z ι H (m σn h) D E
end
abbrev NE (X : Cx) (E : WX) (e : Expr) (m : ME) : Prop := PE X e (tN X.K X.mg (zX X) E m)
abbrev NT (X : Cx) (E : WX) (e : Expr) (m : MT) : Prop := PT X e (tNT X.K X.mg (zX X) E m)
abbrev NW (X : Cx) (E : WX) (e : Expr) (m : MT) : Prop := PW X e (tNT X.K X.mg (zX X) E m)
abbrev NA (X : Cx) (E : WX) (es : List Expr) (m : MA) : Prop := PA X es (tNA X.K X.mg (zX X) E m)
abbrev NS (X : Cx) (E : WX) (s : Stmt) (m : MS) : Prop := PS X s (tNS X.K X.mg (zX X) E m)
abbrev NSs (X : Cx) (E : WX) (s : List Stmt) (m : MS) : Prop := PSs X s (tNS X.K X.mg (zX X) E m)
theorem PE.imp {X : Cx} {e : Expr} {t t' : TE} (h : PE X e t) (k : ∀ σ H Q, t' σ H Q → t σ H Q) : PE X e t' := ⟨fun pins s σ H Q I q => h.run pins s σ H Q I (k _ _ _ q)⟩
theorem PT.imp {X : Cx} {e : Expr} {t t' : TT} (h : PT X e t) (k : ∀ σ H Q, t' σ H Q → t σ H Q) : PT X e t' := ⟨fun pins s σ H Q I q => h.run pins s σ H Q I (k _ _ _ q)⟩
theorem PW.imp {X : Cx} {e : Expr} {t t' : TT} (h : PW X e t) (k : ∀ σ H Q, t' σ H Q → t σ H Q) : PW X e t' := ⟨fun wh pins s σ H Q I q => h.run wh pins s σ H Q I (k _ _ _ q)⟩
theorem PA.imp {X : Cx} {e : List Expr} {t t' : TA} (h : PA X e t) (k : ∀ σ H Q, t' σ H Q → t σ H Q) : PA X e t' := ⟨fun p pins s σ H Q I q => h.run p pins s σ H Q I (k _ _ _ q)⟩
theorem PS.imp {X : Cx} {e : Stmt} {t t' : TS} (h : PS X e t) (k : ∀ D σ H, t' D σ H → t D σ H) : PS X e t' := ⟨fun pins s σ H D I q => h.run pins s σ H D I (k _ _ _ q)⟩
theorem PSs.imp {X : Cx} {e : List Stmt} {t t' : TS} (h : PSs X e t) (k : ∀ D σ H, t' D σ H → t D σ H) : PSs X e t' := ⟨fun pins s σ H D I q => h.run pins s σ H D I (k _ _ _ q)⟩
section
variable {K : PySem.W.Frag} {mg : Str → Option Value} {ι ι' : Ix} {H H' : Hp} {h : List O} {σn : Slo} {σ : St} {E : WX} {z : Option (Addr × Addr)}
theorem RX.mono {x : Ex} {c : Value} {d : Option Addr} (r : RX K mg ι H x c d) (g : Grow ι ι' H H') : RX K mg ι' H' x c d := by
  cases r with
  | no h => exact .no h
  | xd h0 h1 h2 h3 h4 =>
    obtain ⟨n, o', e, f⟩ := g.g0.kept h1 h2 (by intro b z; cases z)
    rw [bare_xd f] at e
    exact .xd h0 n e h3 (RWs.mono g _ _ h4)
theorem Aft.step {α β : Type} {r : ER α} {rel : Ix → Hp → α → β → Prop} {Q : β → Hp → Prop} {E : XK} (q : Aft K mg ι H r rel Q E) (g : Grow ι ι' H H') : Aft K mg ι' H' r rel Q E := by
  cases r with
  | ok w h' => exact fun ι2 v H2 g2 => q ι2 v H2 (g.trans g2)
  | exc x h' => exact fun ι2 c d H2 g2 => q ι2 c d H2 (g.trans g2)
  | stuck => exact q
theorem AftS.step {r : SR} {D : Ends} {E : WX} (q : AftS K mg z ι H r D E) (g : Grow ι ι' H H') : AftS K mg z ι' H' r D E := by
  cases r with
  | nx s h' => exact fun ι2 v H2 g2 => q ι2 v H2 (g.trans g2)
  | rt w h' => exact fun ι2 v H2 g2 => q ι2 v H2 (g.trans g2)
  | bk s h' => exact fun ι2 v H2 g2 => q ι2 v H2 (g.trans g2)
  | ct s h' => exact fun ι2 v H2 g2 => q ι2 v H2 (g.trans g2)
  | exc x s h' => exact fun ι2 c d s2 H2 g2 => q ι2 c d s2 H2 (g.trans g2)
  | stuck => exact q
/-- one run, then another -/
theorem Aft.bind {α β γ δ : Type} {r : ER α} {f : α → List O → ER γ} {rel : Ix → Hp → α → β → Prop} {rel2 : Ix → Hp → γ → δ → Prop} {Q : δ → Hp → Prop} {Q1 : β → Hp → Prop} {E : XK}
    (q : Aft K mg ι H (r.bind f) rel2 Q E) (k : ∀ ι1 w h1 v H1, Grow ι ι1 H H1 → Fit K mg ι1 H1 h1 → rel ι1 H1 w v → Aft K mg ι1 H1 (f w h1) rel2 Q E → Q1 v H1) : Aft K mg ι H r rel Q1 E := by
  cases r with
  | ok w h' => exact fun ι2 v H2 g f2 r2 => k ι2 w h' v H2 g f2 r2 (Aft.step q g)
  | exc x h' => exact q
  | stuck => exact q
theorem Aft.sbind {α β : Type} {r : ER α} {f : α → List O → SR} {rel : Ix → Hp → α → β → Prop} {D : Ends} {Q1 : β → Hp → Prop} (s : Sl K mg ι H z σn σ)
    (q : AftS K mg z ι H (r.sbind σn f) D E) (k : ∀ ι1 w h1 v H1, Grow ι ι1 H H1 → Fit K mg ι1 H1 h1 → rel ι1 H1 w v → AftS K mg z ι1 H1 (f w h1) D E → Q1 v H1) : Aft K mg ι H r rel Q1 (fun c d H' => E c d σ H') := by
  cases r with
  | ok w h' => exact fun ι2 v H2 g f2 r2 => k ι2 w h' v H2 g f2 r2 (AftS.step q g)
  | exc x h' => exact fun ι2 c d H2 g f2 r2 => q ι2 c d σ H2 g f2 (s.mono g) r2
  | stuck => exact q
end
def mVar (i : Nat) : ME := fun σ h => match σ[i]? with
  | some (some w) => .ok w h
  | _ => .stuck
def mC (w : W) : ME := fun _ h => .ok w h
section
variable {X : Cx} {E : WX} {e a b c : Expr} {pos : Pos}
theorem ne_var {i : Nat} (p : PE X e (tVar i)) : NE X E e (mVar i) := PE.imp p fun σ H Q ⟨ι, σn, h, f, s, q⟩ => by
  unfold mVar at q
  split at q
  · rename_i w e
    obtain ⟨v, h1, h2⟩ := s.at' i w e
    exact ⟨v, h1, q ι v H .refl f h2⟩
  · exact q.elim
theorem ne_c {v : V} {w : W} (p : PE X e (tC v)) (r : ∀ ι H, RW X.K X.mg ι H w v) : NE X E e (mC w) := PE.imp p fun σ H Q ⟨ι, σn, h, f, s, q⟩ => q ι v H .refl f (r _ _)
theorem ne_int {i : Int} {j} : NE X E (.Constant (.int i) j pos) (mC (.int i)) := ne_c pe_int fun _ _ => .int _
theorem ne_bl {i : Bool} {j} : NE X E (.Constant (.bool i) j pos) (mC (.bl i)) := ne_c pe_bl fun _ _ => .bl _
theorem ne_non {j} : NE X E (.Constant .none j pos) (mC .non) := ne_c pe_non fun _ _ => .non
theorem ne_str {i : Str} {j} : NE X E (.Constant (.str i) j pos) (mC (.str i)) := ne_c pe_str fun _ _ => .str _
/-- a constant of the module -/
theorem ne_glob {x : Str} {w : W} (hg : Gl X x) (hm : ∃ u v, X.mg x = some u ∧ RelV v u ∧ ∀ ι H, RW X.K X.mg ι H w v) (hd : (x == ("__debug__" : Str)) = false := by decide) : NE X E (.Name x pos) (mC w) := by
  obtain ⟨u, v, h1, h2, h3⟩ := hm
  exact ne_c (pe_glob hg h1 h2 hd) h3
theorem ne_ty {x : Str} {n : String} (hg : Gl X x) (hm : X.mg x = none) (hv : bootBuiltins x = some (.type n)) (hn : x ≠ "__name__" := by decide) (hd : (x == ("__debug__" : Str)) = false := by decide) : NE X E (.Name x pos) (mC (.ty n)) :=
  ne_c (pe_bltn (v := .ty n) hg hm hv rfl hn hd) fun _ _ => .ty _
/-- a two-place operation by its function: it neither raises nor changes what is numbered -/
def r2N (K : PySem.W.Frag) (mg : Str → Option Value) (f : List O → W → W → Option W) : R2 := fun x y H Q => ∃ ι h w1 w2 w, Fit K mg ι H h ∧ RW K mg ι H w1 x ∧ RW K mg ι H w2 y ∧ f h w1 w2 = some w ∧
  ∀ ι' v H', Grow ι ι' H H' → Fit K mg ι' H' h → RW K mg ι' H' w v → Q v H'
def r1N (K : PySem.W.Frag) (mg : Str → Option Value) (f : List O → W → Option W) : V → Hp → VK → Prop := fun x H Q => ∃ ι h w1 w, Fit K mg ι H h ∧ RW K mg ι H w1 x ∧ f h w1 = some w ∧
  ∀ ι' v H', Grow ι ι' H H' → Fit K mg ι' H' h → RW K mg ι' H' w v → Q v H'
def mOp (f : List O → W → W → Option W) (ma mb : ME) : ME := fun σ h => (ma σ h).bind fun x h1 => (mb σ h1).bind fun y h2 => ofO h2 (f h2 x y)
def mUn (f : List O → W → Option W) (ma : ME) : ME := fun σ h => (ma σ h).bind fun x h1 => ofO h1 (f h1 x)
theorem tN_op {f : List O → W → W → Option W} {ma mb : ME} {σ : St} {H : Hp} {Q : VK} {K : PySem.W.Frag} {mg : Str → Option Value} {z : Option (Addr × Addr)} (q : tN K mg z E (mOp f ma mb) σ H Q) : tOp (r2N K mg f) (tN K mg z E ma) (tN K mg z E mb) σ H Q := by
  obtain ⟨ι, σn, h, ft, s, q⟩ := q
  refine ⟨ι, σn, h, ft, s, Aft.bind q fun ι1 w1 h1 v1 H1 g1 f1 r1 q1 => ?_⟩
  refine ⟨ι1, σn, h1, f1, s.mono g1, Aft.bind q1 fun ι2 w2 h2 v2 H2 g2 f2 r2 q2 => ?_⟩
  cases e : f h2 w1 w2 with
  | none => rw [e] at q2; exact q2.elim
  | some w => rw [e] at q2; exact ⟨ι2, h2, w1, w2, w, f2, RW.mono g2 _ _ r1, r2, e, q2⟩
theorem ne_op {op : Operator} {f : List O → W → W → Option W} {ma mb : ME} (ho : OpR X (binaryOp op) (r2N X.K X.mg f)) (ha : NE X E a ma) (hb : NE X E b mb) : NE X E (.BinOp a op b pos) (mOp f ma mb) :=
  PE.imp (pe_op ho ha hb) fun _ _ _ => tN_op
theorem ne_cmp {op : CmpOp} {f : List O → W → W → Option W} {ma mb : ME} (ho : OpR X (compareOp op) (r2N X.K X.mg f)) (ha : NE X E a ma) (hb : NE X E b mb) (hm : behindInMarks op b = false) : NE X E (.Compare a [op] [b] pos) (mOp f ma mb) :=
  PE.imp (pe_cmpR ho ha hb hm) fun _ _ _ => tN_op
def asB : W → Option Bool
  | .bl b => some b
  | _ => none
def mB (m : ME) : MT := fun σ h => (m σ h).bind fun x h1 => ofO h1 (asB x)
theorem tN_test {m : ME} {σ : St} {H : Hp} {Q : Bool → Hp → Prop} {K : PySem.W.Frag} {mg : Str → Option Value} {z : Option (Addr × Addr)} (q : tNT K mg z E (mB m) σ H Q) : tTest (tN K mg z E m) σ H Q := by
  obtain ⟨ι, σn, h, ft, s, q⟩ := q
  refine ⟨ι, σn, h, ft, s, Aft.bind q fun ι1 w1 h1 v1 H1 g1 f1 r1 q1 => ?_⟩
  cases w1 with
  | bl b => cases r1; exact ⟨b, rfl, q1 ι1 b H1 .refl f1 rfl⟩
  | _ => exact q1.elim
theorem tTest_imp {t t' : TE} (k : ∀ σ H Q, t' σ H Q → t σ H Q) {σ : St} {H : Hp} {Q : Bool → Hp → Prop} (q : tTest t' σ H Q) : tTest t σ H Q := k _ _ _ q
theorem nt_cmp {op : CmpOp} {f : List O → W → W → Option W} {ma mb : ME} (ho : OpR X (compareOp op) (r2N X.K X.mg f)) (ha : NE X E a ma) (hb : NE X E b mb) (hm : behindInMarks op b = false) : NT X E (.Compare a [op] [b] pos) (mB (mOp f ma mb)) :=
  PT.imp (pt_cmpR ho ha hb hm) fun _ _ _ q => tTest_imp (fun _ _ _ => tN_op) (tN_test q)
/-- a op b op' c -/
def mChain (f f' : List O → W → W → Option W) (ma mb mc : ME) : ME := fun σ h => (ma σ h).bind fun x h1 => (mb σ h1).bind fun y h2 => (ofO h2 ((f h2 x y).bind asB)).bind fun k h3 =>
  if k = true then (mc σ h3).bind fun z h4 => ofO h4 (f' h4 y z) else .ok (.bl false) h3
theorem tN_chain {f f' : List O → W → W → Option W} {ma mb mc : ME} {σ : St} {H : Hp} {Q : VK} {K : PySem.W.Frag} {mg : Str → Option Value} {z : Option (Addr × Addr)} (q : tN K mg z E (mChain f f' ma mb mc) σ H Q) :
    tChain (r2N K mg f) (r2N K mg f') (tN K mg z E ma) (tN K mg z E mb) (tN K mg z E mc) σ H Q := by
  obtain ⟨ι, σn, h, ft, s, q⟩ := q
  refine ⟨ι, σn, h, ft, s, Aft.bind q fun ι1 w1 h1 v1 H1 g1 f1 r1 q1 => ?_⟩
  refine ⟨ι1, σn, h1, f1, s.mono g1, Aft.bind q1 fun ι2 w2 h2 v2 H2 g2 f2 r2 q2 => ?_⟩
  cases e : f h2 w1 w2 with
  | none => rw [e] at q2; exact q2.elim
  | some w =>
    rw [e] at q2
    refine ⟨ι2, h2, w1, w2, w, f2, RW.mono g2 _ _ r1, r2, e, fun ι3 v3 H3 g3 f3 r3 => ?_⟩
    cases w with
    | bl k =>
      cases r3
      refine ⟨k, rfl, ?_⟩
      cases k with
      | false => rw [if_neg Bool.false_ne_true]; exact q2 ι3 _ H3 g3 f3 (.bl _)
      | true =>
        rw [if_pos rfl]
        refine ⟨ι3, σn, h2, f3, (s.mono g1).mono (g2.trans g3).g0, Aft.bind (Aft.step q2 g3) fun ι4 w4 h4 v4 H4 g4 f4 r4 q4 => ?_⟩
        cases e4 : f' h4 w2 w4 with
        | none => rw [e4] at q4; exact q4.elim
        | some w5 => rw [e4] at q4; exact ⟨ι4, h4, w2, w4, w5, f4, RW.mono (g3.trans g4).g0 _ _ r2, r4, e4, q4⟩
    | _ => exact q2.elim
theorem ne_chain {op op' : CmpOp} {f f' : List O → W → W → Option W} {ma mb mc : ME} (ho : OpR X (compareOp op) (r2N X.K X.mg f)) (ho' : OpR X (compareOp op') (r2N X.K X.mg f')) (ha : NE X E a ma) (hb : NE X E b mb) (hc : NE X E c mc)
    (hm : lastMarks [op, op'] [b, c] = false := by with_unfolding_all rfl) : NE X E (.Compare a [op, op'] [b, c] pos) (mChain f f' ma mb mc) := PE.imp (pe_chain ho ho' ha hb hc hm) fun _ _ _ => tN_chain
theorem nt_chain {op op' : CmpOp} {f f' : List O → W → W → Option W} {ma mb mc : ME} (ho : OpR X (compareOp op) (r2N X.K X.mg f)) (ho' : OpR X (compareOp op') (r2N X.K X.mg f')) (ha : NE X E a ma) (hb : NE X E b mb) (hc : NE X E c mc)
    (hm : lastMarks [op, op'] [b, c] = false := by with_unfolding_all rfl) : NT X E (.Compare a [op, op'] [b, c] pos) (mB (mChain f f' ma mb mc)) := PT.imp (pt_chain ho ho' ha hb hc hm) fun _ _ _ q => tTest_imp (fun _ _ _ => tN_chain) (tN_test q)
theorem ne_un {op : UnaryOp} {f : List O → W → Option W} {ma : ME} (ho : UnR X (unaryOp op) (r1N X.K X.mg f)) (ha : NE X E a ma) : NE X E (.UnaryOp op a pos) (mUn f ma) :=
  PE.imp (pe_un ho ha) fun σ H Q ⟨ι, σn, h, ft, s, q⟩ => ⟨ι, σn, h, ft, s, Aft.bind q fun ι1 w1 h1 v1 H1 g1 f1 r1 q1 => by
    cases e : f h1 w1 with
    | none => rw [e] at q1; exact q1.elim
    | some w => rw [e] at q1; exact ⟨ι1, h1, w1, w, f1, r1, e, q1⟩⟩
def tru (h : List O) : W → Option Bool
  | .non => some false
  | .bl b => some b
  | .int i => some (i != 0)
  | .str s => if s.length ≤ sizeLine then some ((s.length : Int) != 0) else none
  | .tup ws => some (!ws.isEmpty)
  | .tro ws => some (!ws.isEmpty)
  | .lst ws => some (!ws.isEmpty)
  | .lro ws => some (!ws.isEmpty)
  | .ref n => match h[n]? with
    | some (.lst ws) => some (!ws.isEmpty)
    | _ => none
  | _ => none
theorem isE {K : PySem.W.Frag} {mg : Str → Option Value} {ι : Ix} {H : Hp} {ws : List W} {vs : List V} (r : RWs K mg ι H ws vs) : ws.isEmpty = vs.isEmpty := by cases r <;> rfl
/-- what a value that is a list or tuple holds -/
theorem tru_V {K : PySem.W.Frag} {mg : Str → Option Value} {ι : Ix} {H : Hp} {h : List O} {w : W} {v : V} {b : Bool} (f : Fit K mg ι H h) (r : RW K mg ι H w v) (e : tru h w = some b) : TruV K v H b := by
  cases r with
  | non => cases e; exact rfl
  | bl b => cases e; exact rfl
  | int i => cases e; exact rfl
  | str s =>
    have e : (if s.length ≤ sizeLine then some ((s.length : Int) != 0) else none) = some b := e
    split at e
    · cases e; exact ⟨by assumption, rfl⟩
    · cases e
  | tup h0 h1 h2 => cases e; exact .inr (.inl ⟨_, SqT.of h1, by rw [isE h2]⟩)
  | tro h1 h2 => cases e; exact .inr (.inl ⟨_, NoH.sqT h1, by rw [isE h2]⟩)
  | lst h0 h1 h2 => cases e; exact .inl ⟨_, SqL.of h1, by rw [isE h2]⟩
  | lro h1 h2 => cases e; exact .inl ⟨_, h1.sq, by rw [isE h2]⟩
  | @ref n a h1 =>
    cases eo : h[n]? with
    | none => simp [tru, eo] at e
    | some o =>
      cases o with
      | lst ws =>
        simp only [tru, eo, Option.some.injEq] at e
        subst e
        cases f.obj _ _ _ eo h1 with
        | lst a1 a2 => exact .inl ⟨_, SqL.of a1, by rw [isE a2]⟩
      | _ => simp [tru, eo] at e
  | _ => cases e
def mTru (m : ME) : MT := fun σ h => (m σ h).bind fun x h1 => ofO h1 (tru h1 x)
theorem nt_tru {m : ME} (ha : NE X E a m) (he : ∀ whole, isTrue a X.env whole = (do let v ← whole; standAt a.pos; holding [v] (truthy v)) := by intro _; rfl) : NT X E a (mTru m) :=
  PT.imp (pt_truth ha he) fun σ H Q ⟨ι, σn, h, ft, s, q⟩ => ⟨ι, σn, h, ft, s, Aft.bind q fun ι1 w1 h1 v1 H1 g1 f1 r1 q1 => by
    cases e : tru h1 w1 with
    | none => rw [e] at q1; exact q1.elim
    | some b => rw [e] at q1; exact ⟨b, tru_V f1 r1 e, q1 ι1 b H1 .refl f1 rfl⟩⟩
def mAndT (t u : MT) : MT := fun σ h => (t σ h).bind fun c h1 => if c = true then u σ h1 else .ok false h1
def mOrT (t u : MT) : MT := fun σ h => (t σ h).bind fun c h1 => if c = true then .ok true h1 else u σ h1
def mNotT (t : MT) : MT := fun σ h => (t σ h).bind fun c h1 => .ok (!c) h1
variable {rest : List Expr}
theorem nw_and1 {t : MT} (ha : NT X E a t) : NW X E (.BoolOp .And [a] pos) t := pw_and1 ha
theorem nw_or1 {t : MT} (ha : NT X E a t) : NW X E (.BoolOp .Or [a] pos) t := pw_or1 ha
theorem nw_and {t u : MT} (ha : NT X E a t) (hb : NW X E (.BoolOp .And (b :: rest) pos) u) : NW X E (.BoolOp .And (a :: b :: rest) pos) (mAndT t u) :=
  PW.imp (pw_and ha hb) fun σ H Q ⟨ι, σn, h, ft, s, q⟩ => ⟨ι, σn, h, ft, s, Aft.bind q fun ι1 w1 h1 v1 H1 g1 f1 r1 q1 => by
    subst r1
    cases w1 with
    | true => rw [if_pos rfl] at q1 ⊢; exact ⟨ι1, σn, h1, f1, s.mono g1, q1⟩
    | false => rw [if_neg Bool.false_ne_true] at q1 ⊢; exact q1 ι1 _ H1 .refl f1 rfl⟩
theorem nw_or {t u : MT} (ha : NT X E a t) (hb : NW X E (.BoolOp .Or (b :: rest) pos) u) : NW X E (.BoolOp .Or (a :: b :: rest) pos) (mOrT t u) :=
  PW.imp (pw_or ha hb) fun σ H Q ⟨ι, σn, h, ft, s, q⟩ => ⟨ι, σn, h, ft, s, Aft.bind q fun ι1 w1 h1 v1 H1 g1 f1 r1 q1 => by
    subst r1
    cases w1 with
    | false => rw [if_neg Bool.false_ne_true] at q1 ⊢; exact ⟨ι1, σn, h1, f1, s.mono g1, q1⟩
    | true => rw [if_pos rfl] at q1 ⊢; exact q1 ι1 _ H1 .refl f1 rfl⟩
theorem nt_w {t : MT} (h : NW X E a t) : NT X E a t := h.pt
theorem nt_not {t : MT} (ha : NT X E a t) : NT X E (.UnaryOp .Not a pos) (mNotT t) :=
  PT.imp (pt_not ha) fun σ H Q ⟨ι, σn, h, ft, s, q⟩ => ⟨ι, σn, h, ft, s, Aft.bind q fun ι1 w1 h1 v1 H1 g1 f1 r1 q1 => by subst r1; exact q1 ι1 _ H1 .refl f1 rfl⟩
def mAnd (m n : ME) : ME := fun σ h => (m σ h).bind fun x h1 => (ofO h1 (tru h1 x)).bind fun k h2 => if k = true then n σ h2 else .ok x h2
def mOr (m n : ME) : ME := fun σ h => (m σ h).bind fun x h1 => (ofO h1 (tru h1 x)).bind fun k h2 => if k = true then .ok x h2 else n σ h2
def mNot (m : ME) : ME := fun σ h => (m σ h).bind fun x h1 => ofO h1 ((tru h1 x).map fun k => .bl (!k))
theorem ne_one {op} {m : ME} (h : NE X E a m) : NE X E (.BoolOp op [a] pos) m := pe_one h
theorem ne_and {m n : ME} (ha : NE X E a m) (hb : NE X E (.BoolOp .And (b :: rest) pos) n) : NE X E (.BoolOp .And (a :: b :: rest) pos) (mAnd m n) :=
  PE.imp (pe_andT ha hb) fun σ H Q ⟨ι, σn, h, ft, s, q⟩ => ⟨ι, σn, h, ft, s, Aft.bind q fun ι1 w1 h1 v1 H1 g1 f1 r1 q1 => by
    cases e : tru h1 w1 with
    | none => rw [e] at q1; exact q1.elim
    | some k =>
      rw [e] at q1
      refine ⟨k, tru_V f1 r1 e, ?_⟩
      cases k with
      | true => rw [if_pos rfl]; exact ⟨ι1, σn, h1, f1, s.mono g1, q1⟩
      | false => rw [if_neg Bool.false_ne_true]; exact q1 ι1 _ H1 .refl f1 r1⟩
theorem ne_not {m : ME} (ha : NE X E a m) : NE X E (.UnaryOp .Not a pos) (mNot m) :=
  PE.imp (pe_notT ha) fun σ H Q ⟨ι, σn, h, ft, s, q⟩ => ⟨ι, σn, h, ft, s, Aft.bind q fun ι1 w1 h1 v1 H1 g1 f1 r1 q1 => by
    cases e : tru h1 w1 with
    | none => rw [e] at q1; exact q1.elim
    | some k => rw [e] at q1; exact ⟨k, tru_V f1 r1 e, q1 ι1 _ H1 .refl f1 (.bl _)⟩⟩
def mIf (t : MT) (m n : ME) : ME := fun σ h => (t σ h).bind fun k h1 => if k = true then m σ h1 else n σ h1
theorem ne_if {t : MT} {m n : ME} (hc : NT X E c t) (ha : NE X E a m) (hb : NE X E b n) : NE X E (.IfExp c a b pos) (mIf t m n) :=
  PE.imp (pe_ifExp hc ha hb) fun σ H Q ⟨ι, σn, h, ft, s, q⟩ => ⟨ι, σn, h, ft, s, Aft.bind q fun ι1 w1 h1 v1 H1 g1 f1 r1 q1 => by
    subst r1
    cases w1 with
    | true => rw [if_pos rfl] at q1 ⊢; exact ⟨ι1, σn, h1, f1, s.mono g1, q1⟩
    | false => rw [if_neg Bool.false_ne_true] at q1 ⊢; exact ⟨ι1, σn, h1, f1, s.mono g1, q1⟩⟩
def mNil : MA := fun _ h => .ok [] h
def mCons (m : ME) (n : MA) : MA := fun σ h => (m σ h).bind fun x h1 => (n σ h1).bind fun xs h2 => .ok (x :: xs) h2
variable {es : List Expr}
theorem na_nil : NA X E [] mNil := PA.imp pa_nil fun σ H Q ⟨ι, σn, h, ft, s, q⟩ => q ι [] H .refl ft .nil
theorem tNA_cons {m : ME} {n : MA} {σ : St} {H : Hp} {Q : List V → Hp → Prop} {K : PySem.W.Frag} {mg : Str → Option Value} {z : Option (Addr × Addr)} (q : tNA K mg z E (mCons m n) σ H Q) : tCons (tN K mg z E m) (tNA K mg z E n) σ H Q := by
  obtain ⟨ι, σn, h, ft, s, q⟩ := q
  refine ⟨ι, σn, h, ft, s, Aft.bind q fun ι1 w1 h1 v1 H1 g1 f1 r1 q1 => ?_⟩
  refine ⟨ι1, σn, h1, f1, s.mono g1, Aft.bind q1 fun ι2 w2 h2 v2 H2 g2 f2 r2 q2 => ?_⟩
  exact q2 ι2 _ H2 .refl f2 (.cons (RW.mono g2 _ _ r1) r2)
theorem na_cons {m : ME} {n : MA} (ha : NE X E a m) (hr : NA X E es n) (hs : starEach (a :: es) X.env = (false, eval a X.env) :: starEach es X.env := by rfl) : NA X E (a :: es) (mCons m n) :=
  PA.imp (pa_cons ha hr hs) fun _ _ _ => tNA_cons
def okLen (ws : List W) : Option (List W) := if ws.length ≤ sizeLine then some ws else none
theorem okLen_some {ws xs : List W} (h : okLen ws = some xs) : xs = ws ∧ ws.length ≤ sizeLine := by
  unfold okLen at h; split at h
  · cases h; exact ⟨rfl, by assumption⟩
  · cases h
def mTup (n : MA) : ME := fun σ h => (n σ h).bind fun ws h1 => ofO h1 ((okLen ws).map .tup)
def mLst (n : MA) : ME := fun σ h => (n σ h).bind fun ws h1 => ofO h1 ((okLen ws).map .lst)
/-- a new numbered list -/
def mLstN (n : MA) : ME := fun σ h => (n σ h).bind fun ws h1 => ofH ((okLen ws).map fun ws => (.ref h1.length, h1 ++ [.lst ws]))
section
variable {K : PySem.W.Frag} {mg : Str → Option Value} {ι : Ix} {H : Hp} {h : List O}
theorem new_tup (f : Fit K mg ι H h) {ws : List W} {vs : List V} (r : RWs K mg ι H ws vs) {p : Addr} (hp : H p = none) : Grow ι ι H (upd H p (.tup vs)) ∧ Fit K mg ι (upd H p (.tup vs)) h ∧ RW K mg ι (upd H p (.tup vs)) (.tup ws) (.ref p) :=
  ⟨f.grow hp _, f.new hp _, .tup (f.nin hp) upd_same (RWs.mono (f.grow hp _).g0 _ _ r)⟩
theorem new_lst (f : Fit K mg ι H h) {ws : List W} {vs : List V} (r : RWs K mg ι H ws vs) {p : Addr} (hp : H p = none) : Grow ι ι H (upd H p (.lst vs)) ∧ Fit K mg ι (upd H p (.lst vs)) h ∧ RW K mg ι (upd H p (.lst vs)) (.lst ws) (.ref p) :=
  ⟨f.grow hp _, f.new hp _, .lst (f.nin hp) upd_same (RWs.mono (f.grow hp _).g0 _ _ r)⟩
theorem new_lstN (f : Fit K mg ι H h) {ws : List W} {vs : List V} (r : RWs K mg ι H ws vs) {p : Addr} (hp : H p = none) :
    Grow ι (ι.add p) H (upd H p (.lst vs)) ∧ Fit K mg (ι.add p) (upd H p (.lst vs)) (h ++ [.lst ws]) ∧ RW K mg (ι.add p) (upd H p (.lst vs)) (.ref h.length) (.ref p) :=
  ⟨f.growN hp _, f.push hp (.lst upd_same (RWs.mono (f.growN hp _).g0 _ _ r)), .ref (by show (ι.num ++ [p])[h.length]? = some p; rw [← f.len, List.getElem?_append_right (Nat.le_refl _), Nat.sub_self]; rfl)⟩
end
theorem ne_tup {n : MA} {x1} (h : NA X E es n) : NE X E (.Tuple es x1 pos) (mTup n) :=
  PE.imp (pe_tup h) fun σ H Q ⟨ι, σn, h, ft, s, q⟩ => ⟨ι, σn, h, ft, s, Aft.bind q fun ι1 w1 h1 v1 H1 g1 f1 r1 q1 => by
    cases e : okLen w1 with
    | none => rw [e] at q1; exact q1.elim
    | some ws =>
      obtain ⟨rfl, hl⟩ := okLen_some e
      rw [e] at q1
      refine ⟨by rw [r1.len]; exact hl, fun p hp => ?_⟩
      obtain ⟨a1, a2, a3⟩ := new_tup f1 r1 hp
      exact q1 ι1 _ _ a1 a2 a3⟩
theorem ne_lst {n : MA} (h : NA X E es n) : NE X E (.List es pos) (mLst n) :=
  PE.imp (pe_lst h) fun σ H Q ⟨ι, σn, h, ft, s, q⟩ => ⟨ι, σn, h, ft, s, Aft.bind q fun ι1 w1 h1 v1 H1 g1 f1 r1 q1 => by
    cases e : okLen w1 with
    | none => rw [e] at q1; exact q1.elim
    | some ws =>
      obtain ⟨rfl, hl⟩ := okLen_some e
      rw [e] at q1
      refine ⟨by rw [r1.len]; exact hl, fun p hp => ?_⟩
      obtain ⟨a1, a2, a3⟩ := new_lst f1 r1 hp
      exact q1 ι1 _ _ a1 a2 a3⟩
theorem ne_lstN {n : MA} (h : NA X E es n) : NE X E (.List es pos) (mLstN n) :=
  PE.imp (pe_lst h) fun σ H Q ⟨ι, σn, h, ft, s, q⟩ => ⟨ι, σn, h, ft, s, Aft.bind q fun ι1 w1 h1 v1 H1 g1 f1 r1 q1 => by
    cases e : okLen w1 with
    | none => rw [e] at q1; exact q1.elim
    | some ws =>
      obtain ⟨rfl, hl⟩ := okLen_some e
      rw [e] at q1
      refine ⟨by rw [r1.len]; exact hl, fun p hp => ?_⟩
      obtain ⟨a1, a2, a3⟩ := new_lstN f1 r1 hp
      exact q1 _ _ _ a1 a2 a3⟩
end
end N
set_option maxHeartbeats 1000000
namespace N
open PySem L2
def mNext : MS := fun σ h => .nx σ h
def mSeq (a b : MS) : MS := fun σ h => match a σ h with
  | .nx σ' h' => b σ' h'
  | r => r
def mDrop (m : ME) : MS := fun σ h => (m σ h).sbind σ fun _ h1 => .nx σ h1
def mRet (m : ME) : MS := fun σ h => (m σ h).sbind σ fun w h1 => .rt w h1
def mRetN : MS := fun _ h => .rt .non h
def mIfS (t : MT) (a b : MS) : MS := fun σ h => (t σ h).sbind σ fun k h1 => if k = true then a σ h1 else b σ h1
def mBrk : MS := fun σ h => .bk σ h
def mCnt : MS := fun σ h => .ct σ h
def mSet (i : Nat) (m : ME) : MS := fun σ h => (m σ h).sbind σ fun w h1 => .nx (σ.set i (some w)) h1
def mStuck : MS := fun _ _ => .stuck
def mPar (i j : Nat) (ma : MA) : MS := fun σ h => (ma σ h).sbind σ fun ws h1 => match ws with
  | [v, w] => .nx ((σ.set i (some v)).set j (some w)) h1
  | _ => .stuck
/-- a target: names, tuples of targets -/
abbrev MG := W → Slo → Option Slo
def gN (i : Nat) : MG := fun w σ => some (σ.set i (some w))
def gNs : List MG → List W → Slo → Option Slo
  | [], [], σ => some σ
  | g :: gs, w :: ws, σ => (g w σ).bind (gNs gs ws)
  | _, _, _ => none
def gT (gs : List MG) : MG := fun w σ => match w with
  | .tup ws => gNs gs ws σ
  | .tro ws => gNs gs ws σ
  | _ => none
def mAsg (g : MG) (m : ME) : MS := fun σ h => (m σ h).sbind σ fun w h1 => match g w σ with
  | some σ' => .nx σ' h1
  | none => .stuck
section
variable {K : PySem.W.Frag} {mg : Str → Option Value} {ι ι' : Ix} {H H' : Hp} {h : List O} {σn : Slo} {σ : St} {E : WX} {D : Ends} {z : Option (Addr × Addr)}
theorem AftS.ends {r : SR} {D D' : Ends} (q : AftS K mg z ι H r D E) (h1 : ∀ σ H, D.nx σ H → D'.nx σ H) (h2 : ∀ v H, D.rt v H → D'.rt v H) (h3 : ∀ σ H, D.bk σ H → D'.bk σ H) (h4 : ∀ σ H, D.ct σ H → D'.ct σ H) : AftS K mg z ι H r D' E := by
  cases r with
  | nx s h' => exact fun ι2 v H2 g f s => h1 _ _ (q ι2 v H2 g f s)
  | rt w h' => exact fun ι2 v H2 g f s => h2 _ _ (q ι2 v H2 g f s)
  | bk s h' => exact fun ι2 v H2 g f s => h3 _ _ (q ι2 v H2 g f s)
  | ct s h' => exact fun ι2 v H2 g f s => h4 _ _ (q ι2 v H2 g f s)
  | exc x s h' => exact q
  | stuck => exact q
end
section
variable {X : Cx} {E : WX} {e a b c : Expr} {pos : Pos} {st : Stmt} {rest : List Stmt}
theorem nss_nil : NSs X E [] mNext := PSs.imp pss_nil fun D σ H ⟨ι, σn, h, f, s, q⟩ => q ι σ H .refl f s
theorem nss_one {m : MS} (h : NS X E st m) : NSs X E [st] m := pss_one h
theorem nss_cons {m n : MS} (h1 : NS X E st m) (h2 : NSs X E rest n) : NSs X E (st :: rest) (mSeq m n) := PSs.imp (pss_cons h1 h2) fun D σ H ⟨ι, σn, h, f, s, q⟩ => by
  refine ⟨ι, σn, h, f, s, ?_⟩
  unfold mSeq at q
  cases e : m σn h with
  | nx σ' h' => rw [e] at q; exact fun ι2 σ2 H2 g2 f2 s2 => ⟨ι2, σ', h', f2, s2, AftS.step q g2⟩
  | rt w h' => rw [e] at q; exact q
  | bk s h' => rw [e] at q; exact q
  | ct s h' => rw [e] at q; exact q
  | exc x s h' => rw [e] at q; exact q
  | stuck => rw [e] at q; exact q
theorem ns_expr {m : ME} (he : NE X E e m) (hs : swapsWith e none pos.line X.env = pure false := by rfl) : NS X E (.Expr e pos) (mDrop m) :=
  PS.imp (ps_expr he hs) fun D σ H ⟨ι, σn, h, f, s, q⟩ => ⟨ι, σn, h, f, s, Aft.sbind s q fun ι1 w1 h1 v1 H1 g1 f1 r1 q1 => q1 ι1 σ H1 .refl f1 (s.mono g1)⟩
theorem ns_ret {m : ME} (he : NE X E e m) : NS X E (.Return (some e) pos) (mRet m) :=
  PS.imp (ps_ret he) fun D σ H ⟨ι, σn, h, f, s, q⟩ => ⟨ι, σn, h, f, s, Aft.sbind s q fun ι1 w1 h1 v1 H1 g1 f1 r1 q1 => q1 ι1 v1 H1 .refl f1 r1⟩
theorem ns_if {t : MT} {m n : MS} {sa sb : List Stmt} (hc : NT X E c t) (ha : NSs X E sa m) (hb : NSs X E sb n) : NS X E (.If c sa sb pos) (mIfS t m n) :=
  PS.imp (ps_if hc ha hb) fun D σ H ⟨ι, σn, h, f, s, q⟩ => ⟨ι, σn, h, f, s, Aft.sbind s q fun ι1 w1 h1 v1 H1 g1 f1 r1 q1 => by
    subst r1
    cases w1 with
    | true => rw [if_pos rfl] at q1 ⊢; exact ⟨ι1, σn, h1, f1, s.mono g1, q1⟩
    | false => rw [if_neg Bool.false_ne_true] at q1 ⊢; exact ⟨ι1, σn, h1, f1, s.mono g1, q1⟩⟩
theorem ns_set {i : Nat} {x : Str} {m : ME} {pos' : Pos} (hN : X.N.Nodup) (hi : X.N[i]? = some x) (hx : Loc X.env.scope x) (he : NE X E e m) (hs : swapsWith e (some (.Name x pos')) pos.line X.env = pure false := by rfl)
    (hf : X.fn x = true ∨ X.env.scope.names.lookup x = some .local := by first | exact .inl rfl | exact .inr rfl | assumption) : NS X E (.Assign [.Name x pos'] e pos) (mSet i m) :=
  PS.imp (ps_set hN hi hx he hs hf) fun D σ H ⟨ι, σn, h, f, s, q⟩ => ⟨ι, σn, h, f, s, Aft.sbind s q fun ι1 w1 h1 v1 H1 g1 f1 r1 q1 => q1 ι1 _ H1 .refl f1 ((s.mono g1).set r1 i)⟩
theorem ns_par {i j : Nat} {x y : Str} {m : MA} {px py pt : Pos} {kt k2 pt2} (hc : X.calm = true) (hN : X.N.Nodup) (hi : X.N[i]? = some x) (hj : X.N[j]? = some y) (hij : i ≠ j)
    (hx : X.env.scope.names.lookup x = some .local) (hy : X.env.scope.names.lookup y = some .local) (ha : NA X E [a, b] m)
    (hw : swappedStores [.Tuple [.Name x px, .Name y py] kt pt] (.Tuple [a, b] k2 pt2) X.env = pure (some [x, y]))
    (hs : swapsWithSole [.Tuple [.Name x px, .Name y py] kt pt] (.Tuple [a, b] k2 pt2) pos.line X.env = pure false := by rfl) :
    NS X E (.Assign [.Tuple [.Name x px, .Name y py] kt pt] (.Tuple [a, b] k2 pt2) pos) (mPar i j m) :=
  PS.imp (ps_par hc hN hi hj hij hx hy ha hw hs) fun D σ H ⟨ι, σn, h, f, s, q⟩ => ⟨ι, σn, h, f, s, Aft.sbind s q fun ι1 w1 h1 v1 H1 g1 f1 r1 q1 => by
    match w1, r1, q1 with
    | [w, u], .cons r (.cons r' .nil), q1 => exact ⟨_, _, rfl, q1 ι1 _ H1 .refl f1 (((s.mono g1).set r i).set r' j)⟩
    | [], _, q1 => exact q1.elim
    | [_], _, q1 => exact q1.elim
    | _ :: _ :: _ :: _, _, q1 => exact q1.elim⟩
/-- what a target stores: only the slots ts -/
def tNG (K : PySem.W.Frag) (mg : Str → Option Value) (z : Option (Addr × Addr)) (g : MG) (ts : List Nat) : TG := fun v σ H Q => ∃ ι σn σn' h w, Fit K mg ι H h ∧ Sl K mg ι H z σn σ ∧ RW K mg ι H w v ∧ g w σn = some σn' ∧
  ∀ σ', Sl K mg ι H z σn' σ' → (∀ vs : List Nat, (∀ i, i ∈ ts → i ∈ vs) → wipe σ' vs = wipe σ vs) → Q σ' H
def tNGs (K : PySem.W.Frag) (mg : Str → Option Value) (z : Option (Addr × Addr)) (gs : List MG) (ts : List Nat) : TGs := fun vs σ H Q => ∃ ι σn σn' h ws, Fit K mg ι H h ∧ Sl K mg ι H z σn σ ∧ RWs K mg ι H ws vs ∧ gNs gs ws σn = some σn' ∧
  ∀ σ', Sl K mg ι H z σn' σ' → (∀ vs : List Nat, (∀ i, i ∈ ts → i ∈ vs) → wipe σ' vs = wipe σ vs) → Q σ' H
abbrev NG (X : Cx) (e : Expr) (g : MG) (ts : List Nat) : Prop := PG X e (tNG X.K X.mg (zX X) g ts)
abbrev NGs (X : Cx) (es : List Expr) (gs : List MG) (ts : List Nat) : Prop := PGs X es (tNGs X.K X.mg (zX X) gs ts)
theorem PG.imp {X : Cx} {e : Expr} {t t' : TG} (h : PG X e t) (k : ∀ v σ H Q, t' v σ H Q → t v σ H Q) : PG X e t' := ⟨fun pins s σ H v u Q I r q => h.run pins s σ H v u Q I r (k _ _ _ _ q)⟩
theorem PGs.imp {X : Cx} {e : List Expr} {t t' : TGs} (h : PGs X e t) (k : ∀ v σ H Q, t' v σ H Q → t v σ H Q) : PGs X e t' := ⟨fun pins s σ H v u Q I r q => h.run pins s σ H v u Q I r (k _ _ _ _ q)⟩
theorem wipe_set {σ : St} {i : Nat} {u : Option V} : ∀ {vs : List Nat}, i ∈ vs → wipe (σ.set i u) vs = wipe σ vs
  | [], h => by cases h
  | v :: vs, h => by
    show (wipe (σ.set i u) vs).set v none = (wipe σ vs).set v none
    by_cases hm : i ∈ vs
    · rw [wipe_set hm]
    · have hv : i = v := by
        rcases List.mem_cons.mp h with h | h
        · exact h
        · exact absurd h hm
      subst hv
      apply List.ext_getElem?
      intro j
      by_cases hj : i = j
      · subst hj
        by_cases hl : i < σ.length
        · rw [List.getElem?_set_self (by rw [wipe_length]; simpa using hl), List.getElem?_set_self (by rw [wipe_length]; exact hl)]
        · rw [List.getElem?_eq_none (by rw [List.length_set, wipe_length]; simpa using hl), List.getElem?_eq_none (by rw [List.length_set, wipe_length]; omega)]
      · rw [List.getElem?_set_ne hj, List.getElem?_set_ne hj]
        have : ∀ ws : List Nat, (wipe (σ.set i u) ws)[j]? = (wipe σ ws)[j]? := by
          intro ws
          induction ws with
          | nil => exact List.getElem?_set_ne hj
          | cons w ws ih =>
            show ((wipe (σ.set i u) ws).set w none)[j]? = ((wipe σ ws).set w none)[j]?
            by_cases hw : w = j
            · subst hw
              by_cases hl : w < σ.length
              · rw [List.getElem?_set_self (by rw [wipe_length]; simpa using hl), List.getElem?_set_self (by rw [wipe_length]; exact hl)]
              · rw [List.getElem?_eq_none (by rw [List.length_set, wipe_length]; simpa using hl), List.getElem?_eq_none (by rw [List.length_set, wipe_length]; omega)]
            · rw [List.getElem?_set_ne hw, List.getElem?_set_ne hw]
              exact ih
        exact this vs
theorem wipe_wipe {σ : St} : ∀ {us vs : List Nat}, (∀ i, i ∈ us → i ∈ vs) → wipe (wipe σ us) vs = wipe σ vs
  | [], vs, _ => rfl
  | u :: us, vs, h => by
    show wipe ((wipe σ us).set u none) vs = _
    rw [wipe_set (h u (List.mem_cons_self ..))]
    exact wipe_wipe fun i hi => h i (List.mem_cons_of_mem _ hi)
theorem ng_name {i : Nat} {x : Str} (hN : X.N.Nodup) (hi : X.N[i]? = some x) (hx : Loc X.env.scope x) (hf : X.fn x = true ∨ X.env.scope.names.lookup x = some .local := by first | exact .inl rfl | exact .inr rfl | assumption) : NG X (.Name x pos) (gN i) [i] :=
  PG.imp (pg_name hN hi hx hf) fun v σ H Q ⟨ι, σn, σn', h, w, f, s, r, e, q⟩ => by
    cases e
    exact q _ (s.set r i) fun vs hv => wipe_set (hv i (List.mem_singleton.mpr rfl))
theorem ngs_nil : NGs X [] [] [] := PGs.imp pgs_nil fun v σ H Q ⟨ι, σn, σn', h, ws, f, s, r, e, q⟩ => by
  cases ws with
  | nil => cases r; cases e; exact ⟨rfl, q _ s fun _ _ => rfl⟩
  | cons w ws => cases e
theorem ngs_cons {es : List Expr} {g : MG} {gs : List MG} {ts us : List Nat} (h1 : NG X e g ts) (h2 : NGs X es gs us)
    (hs : (assignEach (e :: es) X.env).map (·.2) = assign e X.env :: (assignEach es X.env).map (·.2) := by rfl) : NGs X (e :: es) (g :: gs) (ts ++ us) :=
  PGs.imp (pgs_cons h1 h2 hs) fun v σ H Q ⟨ι, σn, σn', h, ws, f, s, r, e, q⟩ => by
    cases ws with
    | nil => cases e
    | cons w ws =>
      cases r with
      | cons r1 r2 =>
        have e' : (g w σn).bind (gNs gs ws) = some σn' := e
        cases eg : g w σn with
        | none => rw [eg] at e'; cases e'
        | some σ1 =>
          rw [eg] at e'
          refine ⟨_, _, rfl, ι, σn, σ1, h, w, f, s, r1, eg, fun σ' s' k1 => ⟨ι, σ1, σn', h, ws, f, s', r2, e', fun σ2 s2 k2 => q σ2 s2 fun vs hv => ?_⟩⟩
          rw [k2 vs fun i hi => hv i (List.mem_append_right _ hi), k1 vs fun i hi => hv i (List.mem_append_left _ hi)]
theorem ng_tup {es : List Expr} {k : Nat} {gs : List MG} {ts : List Nat} {n : Nat} (hc : X.calm = true) (h : NGs X es gs ts)
    (hn : (assignEach es X.env).length = n := by rfl) (hst : (assignEach es X.env).findIdx? (·.1) = none := by rfl) (hl : gs.length = n := by rfl) : NG X (.Tuple es k pos) (gT gs) ts :=
  PG.imp (pg_tup hc h hn hst) fun v σ H Q ⟨ι, σn, σn', h, w, f, s, r, e, q⟩ => by
    have lenG : ∀ (gs : List MG) (ws : List W) (σ σ' : Slo), gNs gs ws σ = some σ' → ws.length = gs.length := by
      intro gs
      induction gs with
      | nil => intro ws σ σ' h; cases ws with
        | nil => rfl
        | cons _ _ => cases h
      | cons g gs ih => intro ws σ σ' h; cases ws with
        | nil => cases h
        | cons w ws =>
          have h' : (g w σ).bind (gNs gs ws) = some σ' := h
          cases eg : g w σ with
          | none => rw [eg] at h'; cases h'
          | some σ1 => rw [eg] at h'; rw [List.length_cons, List.length_cons, ih ws σ1 σ' h']
    cases w with
    | tup ws =>
      cases r with
      | @tup ws a vs r0 r1 r2 =>
        have e' : gNs gs ws σn = some σn' := e
        exact ⟨_, _, rfl, SqT.of r1, by rw [r2.len, lenG gs ws _ _ e', hl], ι, σn, σn', h, ws, f, s, r2, e, q⟩
    | tro ws =>
      cases r with
      | @tro ws a vs r1 r2 =>
        have e' : gNs gs ws σn = some σn' := e
        exact ⟨_, _, rfl, NoH.sqT r1, by rw [r2.len, lenG gs ws _ _ e', hl], ι, σn, σn', h, ws, f, s, r2, e, q⟩
    | _ => cases e
def mWhile (t : MT) (b : MS) : Nat → MS
  | 0 => mStuck
  | F + 1 => fun σ h => (t σ h).sbind σ fun k h1 => if k = true then (match b σ h1 with
      | .nx σ' h' => mWhile t b F σ' h'
      | .ct σ' h' => mWhile t b F σ' h'
      | .bk σ' h' => .nx σ' h'
      | r => r) else .nx σ h1
theorem ns_while {t : MT} {b : MS} {body : List Stmt} (F : Nat) (hp : PassesOwn (model X.prog X.w) X.A X.env X.xe) (hc : NT X E c t) (hb : NSs X E body b) : NS X E (.While c body [] pos) (mWhile t b F) :=
  PS.imp (ps_while hp hc hb) fun D σ H ⟨ι, σn, h, f, s, q⟩ => by
    refine ⟨fun m σ H => ∃ ι σn h, Fit X.K X.mg ι H h ∧ Sl X.K X.mg ι H (zX X) σn σ ∧ AftS X.K X.mg (zX X) ι H (mWhile t b m σn h) D E, ⟨F, ι, σn, h, f, s, q⟩, ?_⟩
    rintro m σ H ⟨ι, σn, h, f, s, q⟩
    cases m with
    | zero => exact q.elim
    | succ m =>
      refine ⟨ι, σn, h, f, s, Aft.sbind s q fun ι1 w1 h1 v1 H1 g1 f1 r1 q1 => ?_⟩
      subst r1
      cases w1 with
      | false => rw [if_neg Bool.false_ne_true] at q1 ⊢; exact q1 ι1 σ H1 .refl f1 (s.mono g1)
      | true =>
        rw [if_pos rfl] at q1 ⊢
        refine ⟨fun σ H => ∃ ι σn h, Fit X.K X.mg ι H h ∧ Sl X.K X.mg ι H (zX X) σn σ ∧ AftS X.K X.mg (zX X) ι H (mWhile t b m σn h) D E, fun σ' H' p => ⟨m, Nat.lt_succ_self _, p⟩, ι1, σn, h1, f1, s.mono g1, ?_⟩
        cases e : b σn h1 with
        | nx σ' h' => rw [e] at q1; exact fun ι2 σ2 H2 g2 f2 s2 => ⟨ι2, σ', h', f2, s2, AftS.step q1 g2⟩
        | ct σ' h' => rw [e] at q1; exact fun ι2 σ2 H2 g2 f2 s2 => ⟨ι2, σ', h', f2, s2, AftS.step q1 g2⟩
        | bk σ' h' => rw [e] at q1; exact q1
        | rt w h' => rw [e] at q1; exact q1
        | exc x s h' => rw [e] at q1; exact q1
        | stuck => rw [e] at q1; exact q1
end
abbrev MI := Slo → List O → ER (List W × (List O → Bool))
def ItN (K : PySem.W.Frag) (mg : Str → Option Value) (ι : Ix) (H : Hp) (a : List W × (List O → Bool)) (J : It) : Prop :=
  ∃ (n : Nat) (G : Hp → Prop) (Y : Nat → Hp → V → Hp → Prop), Walk J n G Y ∧ n = a.1.length ∧
    (∀ ι2 H2 h2, Gro0 ι ι2 H H2 → Fit K mg ι2 H2 h2 → a.2 h2 = true → G H2) ∧
    ∀ i ι2 H2 h2 x H3, i < n → Gro0 ι ι2 H H2 → Fit K mg ι2 H2 h2 → a.2 h2 = true → Y i H2 x H3 → ∃ w, a.1[i]? = some w ∧ RW K mg ι2 H3 w x ∧ Grow ι2 ι2 H2 H3 ∧ Fit K mg ι2 H3 h2
def tNI (K : PySem.W.Frag) (mg : Str → Option Value) (z : Option (Addr × Addr)) (E : WX) (m : MI) : TI := fun σ H R => ∃ ι σn h, Fit K mg ι H h ∧ Sl K mg ι H z σn σ ∧ Aft K mg ι H (m σn h) (ItN K mg) R (fun c d H' => E c d σ H')
abbrev NI (X : Cx) (E : WX) (tg iter : Expr) (m : MI) : Prop := PI X tg iter (tNI X.K X.mg (zX X) E m)
theorem PI.imp {X : Cx} {tg e : Expr} {t t' : TI} (h : PI X tg e t) (k : ∀ σ H R, t' σ H R → t σ H R) : PI X tg e t' := ⟨fun pins s σ H R I q => h.run pins s σ H R I (k _ _ _ q)⟩
def mForL (chk : List O → Bool) (g : MG) (b : MS) : List W → MS
  | [] => fun σ h => if chk h = true then .nx σ h else .stuck
  | x :: xs => fun σ h => if chk h = true then (match g x σ with
    | none => .stuck
    | some σ1 => match b σ1 h with
      | .nx σ2 h2 => mForL chk g b xs σ2 h2
      | .ct σ2 h2 => mForL chk g b xs σ2 h2
      | .bk σ2 h2 => .nx σ2 h2
      | r => r) else .stuck
def mFor (it : MI) (g : MG) (b : MS) : MS := fun σ h => (it σ h).sbind σ fun a h1 => mForL a.2 g b a.1 σ h1
section
variable {X : Cx} {E : WX} {pos : Pos}
theorem ns_for {tg iter : Expr} {body : List Stmt} {it : MI} {g : MG} {ts : List Nat} {b : MS} (hp : PassesOwn (model X.prog X.w) X.A X.env X.xe) (hc : X.calm = true) (hi : NI X E tg iter it) (hg : NG X tg g ts) (hb : NSs X E body b)
    (hs : ∀ x, foldedSetIterable iter X.env x = pure x := by intro _; rfl) : NS X E (.For tg iter body [] pos) (mFor it g b) :=
  PS.imp (ps_for hp hc hi hg hb hs) fun D σ H ⟨ι, σn, h, f, s, q⟩ => ⟨ι, σn, h, f, s, Aft.sbind s q fun ι1 a h1 J H1 g1 f1 r1 q1 => by
    obtain ⟨ws, chk⟩ := a
    obtain ⟨n, G, Y, wk, hn, hG, hY⟩ := r1
    subst hn
    refine for_it wk (fun i σ H2 => ∃ ι2 σ2 h2, Grow ι1 ι2 H1 H2 ∧ Fit X.K X.mg ι2 H2 h2 ∧ Sl X.K X.mg ι2 H2 (zX X) σ2 σ ∧ AftS X.K X.mg (zX X) ι2 H2 (mForL chk g b (ws.drop i) σ2 h2) D E) ⟨ι1, σn, h1, .refl, f1, s.mono g1, q1⟩ ?_ ?_ ?_
    · rintro i σ H2 hi ⟨ι2, σ2, h2, g2, f2, s2, q2⟩
      have hk : chk h2 = true := by
        cases hk : chk h2 with
        | true => rfl
        | false =>
          cases hd : ws.drop i with
          | nil => rw [hd] at q2; simp [mForL, hk] at q2; exact q2.elim
          | cons x xs => rw [hd] at q2; simp [mForL, hk] at q2; exact q2.elim
      exact hG ι2 H2 h2 g2.g0 f2 hk
    · rintro i x σ H2 H3 hi ⟨ι2, σ2, h2, g2, f2, s2, q2⟩ hy
      have hi' : i < ws.length := hi
      have hd : ws.drop i = ws[i] :: ws.drop (i + 1) := List.drop_eq_getElem_cons hi'
      rw [hd] at q2
      have hk : chk h2 = true := by
        cases hk : chk h2 with
        | true => rfl
        | false => simp [mForL, hk] at q2; exact q2.elim
      simp only [mForL, hk, if_true] at q2
      obtain ⟨w, e1, r3, g3, f3⟩ := hY i ι2 H2 h2 x H3 hi g2.g0 f2 hk hy
      rw [List.getElem?_eq_getElem hi'] at e1
      cases e1
      cases eg : g ws[i] σ2 with
      | none => rw [eg] at q2; exact q2.elim
      | some σ3 =>
        rw [eg] at q2
        dsimp only at q2
        refine ⟨ι2, σ2, σ3, h2, ws[i], f3, s2.mono g3.g0, r3, eg, fun σ4 s4 _ => ⟨ι2, σ3, h2, f3, s4, ?_⟩⟩
        have q3 := AftS.step q2 g3
        cases e : b σ3 h2 with
        | nx σ' h' => rw [e] at q3; exact fun ι5 σ5 H5 g5 f5 s5 => ⟨ι5, σ', h', (g2.trans g3).trans g5, f5, s5, AftS.step q3 g5⟩
        | ct σ' h' => rw [e] at q3; exact fun ι5 σ5 H5 g5 f5 s5 => ⟨ι5, σ', h', (g2.trans g3).trans g5, f5, s5, AftS.step q3 g5⟩
        | bk σ' h' => rw [e] at q3; exact q3
        | rt w h' => rw [e] at q3; exact q3
        | exc x s h' => rw [e] at q3; exact q3
        | stuck => rw [e] at q3; exact q3
    · rintro σ H2 ⟨ι2, σ2, h2, g2, f2, s2, q2⟩
      rw [List.drop_length] at q2
      cases hk : chk h2 with
      | true => simp only [mForL, hk, if_true] at q2; exact q2 ι2 σ H2 .refl f2 s2
      | false => simp [mForL, hk] at q2; exact q2.elim⟩
end
end N
set_option maxHeartbeats 1000000
namespace N
open PySem L2
def wipeN (σ : Slo) : List Nat → Slo
  | [] => σ
  | v :: vs => (wipeN σ vs).set v none
abbrev E00 : WX := fun _ _ _ _ => False
/-- what raises has no reading here -/
def ER.nb {α β : Type} (r : ER α) (f : α → List O → ER β) : ER β := match r with
  | .ok a h => f a h
  | _ => .stuck
@[simp] theorem nb_ok {α β : Type} (a : α) (h : List O) (f : α → List O → ER β) : (ER.ok a h).nb f = f a h := rfl
@[simp] theorem nb_exc {α β : Type} (x : Ex) (h : List O) (f : α → List O → ER β) : (ER.exc x h : ER α).nb f = .stuck := rfl
@[simp] theorem nb_stuck {α β : Type} (f : α → List O → ER β) : (ER.stuck : ER α).nb f = .stuck := rfl
def mLcL (chk : List O → Bool) (g : MG) (t : MT) (el : ME) (σ0 : Slo) : List W → List W → List O → ER (List W)
  | [], acc, h => if chk h = true then .ok acc h else .stuck
  | x :: xs, acc, h => if chk h = true then (match g x σ0 with
    | none => .stuck
    | some σ1 => (t σ1 h).nb fun b h2 => if b = true then (el σ1 h2).nb fun y h3 => if acc.length < sizeLine then mLcL chk g t el σ0 xs (acc ++ [y]) h3 else .stuck else mLcL chk g t el σ0 xs acc h2) else .stuck
def lcF : List W → List O → ER W := fun acc h => .ok (.lst acc) h
/-- .. as a new numbered list -/
def lcFN : List W → List O → ER W := fun acc h => .ok (.ref h.length) (h ++ [.lst acc])
def mLcN (it : MI) (g : MG) (t : MT) (el : ME) (own : List Nat) : ME := fun σ h => (it σ h).bind fun a h1 => (mLcL a.2 g t el (wipeN σ own) a.1 [] h1).nb lcFN
def mLc (it : MI) (g : MG) (t : MT) (el : ME) (own : List Nat) : ME := fun σ h => (it σ h).bind fun a h1 => (mLcL a.2 g t el (wipeN σ own) a.1 [] h1).nb lcF
def mYes : MT := fun _ h => .ok true h
section
variable {K : PySem.W.Frag} {mg : Str → Option Value} {ι ι' : Ix} {H H' : Hp} {h : List O} {σn : Slo} {σ : St} {E : WX} {z : Option (Addr × Addr)}
theorem Sl.wipe (s : Sl K mg ι H z σn σ) : ∀ vs : List Nat, Sl K mg ι H z (wipeN σn vs) (wipe σ vs)
  | [] => s
  | v :: vs => (Sl.wipe s vs).un v none
/-- behind a run that raises nothing -/
theorem Aft.nb {α β γ δ : Type} {r : ER α} {f : α → List O → ER γ} {rel : Ix → Hp → α → β → Prop} {rel2 : Ix → Hp → γ → δ → Prop} {Q : δ → Hp → Prop} {Q1 : β → Hp → Prop} {E E' : XK}
    (q : Aft K mg ι H (r.nb f) rel2 Q E) (k : ∀ ι1 w h1 v H1, Grow ι ι1 H H1 → Fit K mg ι1 H1 h1 → rel ι1 H1 w v → Aft K mg ι1 H1 (f w h1) rel2 Q E → Q1 v H1) : Aft K mg ι H r rel Q1 E' := by
  cases r with
  | ok w h' => exact fun ι2 v H2 g f2 r2 => k ι2 w h' v H2 g f2 r2 (Aft.step q g)
  | exc x h' => exact q.elim
  | stuck => exact q.elim
/-- D is hidden -/
def Ix.hide (ι : Ix) (D : Addr) : Ix := ⟨ι.num, D :: ι.hid, ι.exs⟩
theorem Fit.hide (f : Fit K mg ι H h) {D : Addr} (hD : H D = none) (o : HO) (ho : ∀ vs, o ≠ .tup vs := by intro vs z; cases z) : Fit K mg (ι.hide D) (upd H D o) h ∧ Gro0 ι (ι.hide D) H (upd H D o) := by
  have nD := f.nin hD
  have g0 : Gro0 ι (ι.hide D) H (upd H D o) := ⟨⟨[], by simp [Ix.hide]⟩, fun a u n q => by
    have hx : a ≠ D := ne_of_none q hD
    exact ⟨⟨n.1, fun z => (List.mem_cons.mp z).elim hx n.2⟩, u, by rw [upd_ne hx]; exact q, .inl rfl⟩, rfl, fun a ob u q => by rw [upd_ne (ne_of_none q hD)]; exact q⟩
  refine ⟨⟨f.nd, f.len, fun n u a h1 h2 => (f.obj n u a h1 h2).mono g0 (upd_ne fun z => nD.1 (z ▸ List.mem_of_getElem? h2)), fun a ha => ?_⟩, g0⟩
  rcases List.mem_cons.mp ha with rfl | ha
  · exact ⟨⟨_, upd_same, ho⟩, nD.1⟩
  · obtain ⟨h1, h2⟩ := f.hd a ha
    exact ⟨by rw [upd_ne (f.hne hD ha)]; exact h1, h2⟩
/-- the hidden thing is changed -/
theorem Fit.putH {D : Addr} (f : Fit K mg (ι.hide D) H h) (hnf : ∀ ob u, H D ≠ some (.frz ob u)) (o : HO) (ho : ∀ vs, o ≠ .tup vs := by intro vs z; cases z) : Fit K mg (ι.hide D) (upd H D o) h ∧ Gro0 (ι.hide D) (ι.hide D) H (upd H D o) := by
  have g0 : Gro0 (ι.hide D) (ι.hide D) H (upd H D o) := ⟨⟨[], by simp⟩, fun a u n q => by
    have hx : a ≠ D := fun z => n.2 (by rw [z]; exact List.mem_cons_self ..)
    exact ⟨n, u, by rw [upd_ne hx]; exact q, .inl rfl⟩, rfl, fun a ob u q => by rw [upd_ne (fun z => hnf ob u (by rw [← z]; exact q))]; exact q⟩
  have nD := (f.hd D (List.mem_cons_self ..)).2
  refine ⟨⟨f.nd, f.len, fun n u a h1 h2 => (f.obj n u a h1 h2).mono g0 (upd_ne fun z => nD (z ▸ List.mem_of_getElem? h2)), fun a ha => ⟨?_, (f.hd a ha).2⟩⟩, g0⟩
  by_cases hx : a = D
  · subst hx; exact ⟨_, upd_same, ho⟩
  · rw [upd_ne hx]; exact (f.hd a ha).1
/-- the hidden thing is seen again -/
theorem Fit.show' {D : Addr} (f : Fit K mg (ι.hide D) H h) : Fit K mg ι H h ∧ Gro0 (ι.hide D) ι H H := by
  have g0 : Gro0 (ι.hide D) ι H H := ⟨⟨[], by simp [Ix.hide]⟩, fun a u n q => ⟨⟨n.1, fun z => n.2 (List.mem_cons_of_mem _ z)⟩, u, q, .inl rfl⟩, rfl, fun _ _ _ q => q⟩
  exact ⟨⟨f.nd, f.len, fun n u a h1 h2 => (f.obj n u a h1 h2).mono g0 rfl, fun a ha => f.hd a (List.mem_cons_of_mem _ ha)⟩, g0⟩
/-- the hidden list gets a number -/
theorem Fit.showN {D : Addr} {acc : List W} {vs : List V} (f : Fit K mg (ι.hide D) H h) (hD : D ∉ ι.hid) (e : H D = some (.lst vs)) (r : RWs K mg (ι.hide D) H acc vs) : Fit K mg (ι.add D) H (h ++ [.lst acc]) ∧ Gro0 (ι.hide D) (ι.add D) H H := by
  have nD : D ∉ ι.num := (f.hd D (List.mem_cons_self ..)).2
  have g0 : Gro0 (ι.hide D) (ι.add D) H H := ⟨⟨[D], rfl⟩, fun a u n q => ⟨⟨fun z => by
    have z : a ∈ ι.num ++ [D] := z
    rw [List.mem_append, List.mem_singleton] at z
    rcases z with z | z
    · exact n.1 z
    · exact n.2 (by rw [z]; exact List.mem_cons_self ..), fun z => n.2 (List.mem_cons_of_mem _ z)⟩, u, q, .inl rfl⟩, rfl, fun _ _ _ q => q⟩
  have hl : ι.num.length = h.length := f.len
  refine ⟨⟨?_, by simp [Ix.add, hl], fun n u a h1 h2 => ?_, fun a ha => ?_⟩, g0⟩
  · show (ι.num ++ [D]).Nodup
    rw [List.nodup_append]
    exact ⟨f.nd, by simp, fun x hx y hy => by rw [List.mem_singleton] at hy; subst hy; exact fun z => nD (z ▸ hx)⟩
  · have h2 : (ι.num ++ [D])[n]? = some a := h2
    by_cases hn : n < h.length
    · rw [List.getElem?_append_left hn] at h1
      rw [List.getElem?_append_left (by rw [hl]; exact hn)] at h2
      exact (f.obj n u a h1 h2).mono g0 rfl
    · have hn2 : n = h.length := by
        have := (List.getElem?_eq_some_iff.mp h1).1
        simp at this
        omega
      subst hn2
      rw [List.getElem?_append_right (Nat.le_refl _), Nat.sub_self] at h1
      rw [← hl, List.getElem?_append_right (Nat.le_refl _), Nat.sub_self] at h2
      cases h1
      cases h2
      exact .lst e (RWs.mono g0 _ _ r)
  · have ha : a ∈ ι.hid := ha
    obtain ⟨h1, h2⟩ := f.hd a (List.mem_cons_of_mem _ ha)
    refine ⟨h1, ?_⟩
    show a ∉ ι.num ++ [D]
    rw [List.mem_append, List.mem_singleton]
    exact fun z => z.elim h2 fun z => hD (z ▸ ha)
theorem lc_aft {fin : List W → List O → ER W} (hf : fin = lcF ∨ fin = lcFN) {wi : TI} {J : It} {it : MI} {g : MG} {ts own : List Nat} {t : MT} {tt : TT} {el : ME} {ws : List W} {chk : List O → Bool} {Q : VK} (htt : ∀ σ H Q, tNT K mg z E00 t σ H Q → tt σ H Q) (hts : ∀ i, i ∈ ts → i ∈ own) (f : Fit K mg ι H h) (s : Sl K mg ι H z σn σ)
    (r : ItN K mg ι H (ws, chk) J) (q : Aft K mg ι H ((mLcL chk g t el (wipeN σn own) ws [] h).nb fin) (RW K mg) Q (fun c d H' => E c d σ H')) (D : Addr) (hD : H D = none) :
    ∃ W : Nat → Nat → Hp → Prop, (∃ m, W 0 m (upd H D (.lst []))) ∧ ∀ i m H, W i m H →
      (J.stop i H ∧ Q (.ref D) H) ∨ (J.go i H ∧ ∃ Nx : Hp → Prop, (∀ H', Nx H' → ∃ m', m' < m ∧ W (i + 1) m' H') ∧ ∀ x H', J.yld i H x H' → tNG K mg z g ts x (wipe σ own) H' fun σ2 H2 => wipe σ2 own = wipe σ own ∧ tt σ2 H2 fun b H3 =>
        if b = true then tN K mg z E00 el σ2 H3 fun y H4 => ∃ acc, H4 D = some (.lst acc) ∧ acc.length < sizeLine ∧ Nx (upd H4 D (.lst (acc ++ [y]))) else Nx H3) := by
  obtain ⟨n, G, Y, wk, hn, hG, hY⟩ := r
  subst hn
  obtain ⟨fD, gD⟩ := f.hide hD (.lst [])
  refine lc_it wk (fun i H2 => ∃ ι2 acc vs h2, Gro0 ι (Ix.hide ι2 D) H H2 ∧ ι2.hid = ι.hid ∧ (∀ a, a ∈ ι.hid → H2 a = H a) ∧ Fit K mg (Ix.hide ι2 D) H2 h2 ∧ H2 D = some (.lst vs) ∧ RWs K mg (Ix.hide ι2 D) H2 acc vs ∧
    Aft K mg ι H ((mLcL chk g t el (wipeN σn own) (ws.drop i) acc h2).nb fin) (RW K mg) Q (fun c d H' => E c d σ H'))
    ⟨ι, [], [], h, gD, rfl, fun a ha => upd_ne (f.hne hD ha), fD, upd_same, .nil, q⟩ ?_ ?_ ?_
  · rintro i H2 hi ⟨ι2, acc, vs, h2, g2, eh, kh, f2, e2, r2, q2⟩
    refine hG _ H2 h2 g2 f2 ?_
    cases hk : chk h2 with
    | true => exact hk
    | false =>
      cases hd : ws.drop i with
      | nil => rw [hd] at q2; simp [mLcL, hk] at q2; exact q2.elim
      | cons x xs => rw [hd] at q2; simp [mLcL, hk] at q2; exact q2.elim
  · rintro i x H2 H3 hi ⟨ι2, acc, vs, h2, g2, eh, kh, f2, e2, r2, q2⟩ hy
    have hi' : i < ws.length := hi
    rw [List.drop_eq_getElem_cons hi'] at q2
    have hk : chk h2 = true := by
      cases hk : chk h2 with
      | true => rfl
      | false => simp [mLcL, hk] at q2; exact q2.elim
    simp only [mLcL, hk, if_true] at q2
    obtain ⟨w, e1, r3, g3, f3⟩ := hY i _ H2 h2 x H3 hi g2 f2 hk hy
    have e1' : ws[i]? = some w := e1
    rw [List.getElem?_eq_getElem hi'] at e1'
    cases e1'
    cases eg : g ws[i] (wipeN σn own) with
    | none => rw [eg] at q2; exact q2.elim
    | some σ3 =>
      rw [eg] at q2
      dsimp only at q2
      refine ⟨_, _, σ3, h2, ws[i], f3, (((s.mono g2).mono g3.g0).wipe own), r3, eg, fun σ4 s4 hw => ⟨?_, htt _ _ _ ⟨_, σ3, h2, f3, s4, ?_⟩⟩⟩
      · rw [hw own hts, wipe_wipe fun _ z => z]
      cases et : t σ3 h2 with
      | exc x h' => rw [et] at q2; exact q2.elim
      | stuck => rw [et] at q2; exact q2.elim
      | ok b h4 =>
        rw [et] at q2
        intro ι4 b' H4 g4 f4 eb
        subst eb
        have g04 : Gro0 ι ι4 H H4 := (g2.trans g3.g0).trans g4.g0
        obtain ⟨num4, hid4, ex4⟩ := ι4
        have hh4 : hid4 = D :: ι2.hid := g4.hid.trans g3.hid
        subst hh4
        have kD : H4 D = some (.lst vs) := by rw [g4.hkeep D (by rw [g3.hid]; exact List.mem_cons_self ..), g3.hkeep D (List.mem_cons_self ..)]; exact e2
        have kh4 : ∀ a, a ∈ ι.hid → H4 a = H a := fun a ha => by
          have ha2 : a ∈ (Ix.hide ι2 D).hid := List.mem_cons_of_mem _ (by rw [eh]; exact ha)
          rw [g4.hkeep a (by rw [g3.hid]; exact ha2), g3.hkeep a ha2, kh a ha]
        have r4 : RWs K mg ⟨num4, D :: ι2.hid, ex4⟩ H4 acc vs := RWs.mono g4.g0 _ _ (RWs.mono g3.g0 _ _ r2)
        cases b with
        | false =>
          rw [if_neg Bool.false_ne_true]
          exact ⟨⟨num4, ι2.hid, ex4⟩, acc, vs, h4, g04, eh, kh4, f4, kD, r4, q2⟩
        | true =>
          rw [if_pos rfl]
          simp only [nb_ok, if_true] at q2
          refine ⟨⟨num4, D :: ι2.hid, ex4⟩, σ3, h4, f4, s4.mono g4.g0, ?_⟩
          cases ee : el σ3 h4 with
          | exc x h' => rw [ee] at q2; exact q2.elim
          | stuck => rw [ee] at q2; exact q2.elim
          | ok y h5 =>
            rw [ee] at q2
            intro ι5 u H5 g5 f5 r5
            obtain ⟨num5, hid5, ex5⟩ := ι5
            have hh5 : hid5 = D :: ι2.hid := g5.hid
            subst hh5
            have kD5 : H5 D = some (.lst vs) := by rw [g5.hkeep D (List.mem_cons_self ..)]; exact kD
            simp only [nb_ok] at q2
            by_cases hl : acc.length < sizeLine
            · rw [if_pos hl] at q2
              obtain ⟨f6, g6⟩ := Fit.putH (ι := ⟨num5, ι2.hid, ex5⟩) f5 (nf kD5) (.lst (vs ++ [u]))
              refine ⟨vs, kD5, by rw [r4.len]; exact hl, ⟨num5, ι2.hid, ex5⟩, acc ++ [y], vs ++ [u], h5, (g04.trans g5.g0).trans g6, eh, fun a ha => ?_, f6, upd_same, ?_, q2⟩
              · have hne : a ≠ D := f.hne hD ha
                rw [upd_ne hne, g5.hkeep a (List.mem_cons_of_mem _ (by rw [eh]; exact ha))]
                exact kh4 a ha
              · exact RWs.mono g6 _ _ ((RWs.mono g5.g0 _ _ r4).app (.cons r5 .nil))
            · rw [if_neg hl] at q2; exact q2.elim
  · rintro H2 ⟨ι2, acc, vs, h2, g2, eh, kh, f2, e2, r2, q2⟩
    have e0 : ws.drop (ws, chk).1.length = [] := List.drop_length
    rw [e0] at q2
    cases hk : chk h2 with
    | false => simp [mLcL, hk] at q2; exact q2.elim
    | true =>
      simp only [mLcL, hk, if_true, nb_ok] at q2
      have nDh : D ∉ ι2.hid := fun z => by
        rw [eh] at z
        obtain ⟨⟨o, e, _⟩, _⟩ := f.hd D z
        rw [hD] at e; cases e
      rcases hf with rfl | rfl
      · obtain ⟨f7, g7⟩ := Fit.show' f2
        have nD : ι2.out D := ⟨(f2.hd D (List.mem_cons_self ..)).2, nDh⟩
        exact q2 ι2 (.ref D) H2 ⟨g2.trans g7, eh, kh⟩ f7 (.lst nD e2 (RWs.mono g7 _ _ r2))
      · obtain ⟨f7, g7⟩ := Fit.showN f2 nDh e2 r2
        refine q2 (ι2.add D) (.ref D) H2 ⟨g2.trans g7, eh, kh⟩ f7 (.ref ?_)
        have hl : ι2.num.length = h2.length := f2.len
        show (ι2.num ++ [D])[h2.length]? = _
        rw [← hl, List.getElem?_append_right (Nat.le_refl _), Nat.sub_self]; rfl
end
section
variable {X : Cx} {E : WX} {pos : Pos}
/-- the tests of a clause -/
abbrev NTs (X : Cx) (E : WX) (es : List Expr) (m : MT) : Prop := PTs X es (tNT X.K X.mg (zX X) E m)
theorem PTs.imp {X : Cx} {e : List Expr} {t t' : TT} (h : PTs X e t) (k : ∀ σ H Q, t' σ H Q → t σ H Q) : PTs X e t' := ⟨fun pins s σ H Q I q => h.run pins s σ H Q I (k _ _ _ q)⟩
theorem nts_nil : NTs X E [] mYes := PTs.imp pts_nil fun σ H Q ⟨ι, σn, h, f, s, q⟩ => q ι true H .refl f rfl
theorem zX_blk {s : Shared} {H : Hp} {scope : Scope} {cenv : Env} {fp : List Addr} (hc : X.calm = true) : zX (X.blk s H scope cenv fp) = zX X := by
  have e : zX X = none := if_pos hc
  rw [e]
  exact if_pos hc
theorem ne_blk {s : Shared} {H : Hp} {scope : Scope} {cenv : Env} {fp : List Addr} {e : Expr} {m : ME} (hc : X.calm = true) (h : NE (X.blk s H scope cenv fp) E e m) : PE (X.blk s H scope cenv fp) e (tN X.K X.mg (zX X) E m) := by
  rw [← zX_blk hc]; exact h
theorem nts_blk {s : Shared} {H : Hp} {scope : Scope} {cenv : Env} {fp : List Addr} {e : List Expr} {m : MT} (hc : X.calm = true) (h : NTs (X.blk s H scope cenv fp) E e m) : PTs (X.blk s H scope cenv fp) e (tNT X.K X.mg (zX X) E m) := by
  rw [← zX_blk hc]; exact h
theorem ng_blk {s : Shared} {H : Hp} {scope : Scope} {cenv : Env} {fp : List Addr} {e : Expr} {m : MG} {ts : List Nat} (hc : X.calm = true) (h : NG (X.blk s H scope cenv fp) e m ts) : PG (X.blk s H scope cenv fp) e (tNG X.K X.mg (zX X) m ts) := by
  rw [← zX_blk hc]; exact h
theorem ne_lc {elt tg iter : Expr} {ifs : List Expr} {scope : Scope} {own : List (Str × Nat)} {it : MI} {g : MG} {ts : List Nat} {t : MT} {el : ME} (hc : X.calm = true) (hN : X.N.Nodup) (hi : NI X E tg iter it) (ok : BlkOk X.N X.env.scope scope own) (hts : ∀ i, i ∈ ts → i ∈ own.map (·.2))
    (hg : ∀ (s : Shared) (H : Hp) (C : Addr) (cl : List (Str × Addr)) (fp : List Addr), NG (X.blk s H scope (compEnvC scope cl C X.env) fp) tg g ts) (ht : ∀ (s : Shared) (H : Hp) (C : Addr) (cl : List (Str × Addr)) (fp : List Addr), NTs (X.blk s H scope (compEnvC scope cl C X.env) fp) E00 ifs t)
    (he : ∀ (s : Shared) (H : Hp) (C : Addr) (cl : List (Str × Addr)) (fp : List Addr), NE (X.blk s H scope (compEnvC scope cl C X.env) fp) E00 elt el) (hs : ∀ x, foldedSetIterable iter X.env x = pure x := by intro _; rfl) :
    NE X E (.ListComp elt [⟨tg, iter, ifs, 0⟩] scope pos) (mLc it g t el (own.map (·.2))) :=
  PE.imp (pe_lc hc hN hi ok (fun s H C cl fp => ng_blk hc (hg s H C cl fp)) (fun s H C cl fp => nts_blk hc (ht s H C cl fp)) (fun s H C cl fp => ne_blk hc (he s H C cl fp)) hs) fun σ H Q ⟨ι, σn, h, f, s, q⟩ => ⟨ι, σn, h, f, s, Aft.bind q fun ι1 a h1 J H1 g1 f1 r1 q1 D hD =>
    lc_aft (.inl rfl) (it := it) (g := g) (t := t) (el := el) (tt := tNT X.K X.mg (zX X) E00 t) (wi := tNI X.K X.mg (zX X) E it) (fun _ _ _ z => z) hts f1 (s.mono g1) r1 q1 D hD⟩
theorem ns_setLc {i : Nat} {y : Str} {py : Pos} {elt tg iter : Expr} {ifs : List Expr} {scope : Scope} {own : List (Str × Nat)} {spos : Pos} {it : MI} {g : MG} {ts : List Nat} {t : MT} {el : ME} (hc : X.calm = true) (hN : X.N.Nodup) (hy : X.N[i]? = some y) (hyl : X.env.scope.names.lookup y = some .local)
    (hsw : swapsWith (.ListComp elt [⟨tg, iter, ifs, 0⟩] scope pos) (some (.Name y py)) spos.line X.env = pure true) (hi : NI X E tg iter it) (ok : BlkOk X.N X.env.scope scope own) (hts : ∀ i, i ∈ ts → i ∈ own.map (·.2))
    (hg : ∀ (s : Shared) (H : Hp) (C : Addr) (cl : List (Str × Addr)) (fp : List Addr), NG (X.blk s H scope (compEnvC scope cl C X.env) fp) tg g ts) (ht : ∀ (s : Shared) (H : Hp) (C : Addr) (cl : List (Str × Addr)) (fp : List Addr), NTs (X.blk s H scope (compEnvC scope cl C X.env) fp) E00 ifs t)
    (he : ∀ (s : Shared) (H : Hp) (C : Addr) (cl : List (Str × Addr)) (fp : List Addr), NE (X.blk s H scope (compEnvC scope cl C X.env) fp) E00 elt el) (hs : ∀ x, foldedSetIterable iter X.env x = pure x := by intro _; rfl) :
    NS X E (.Assign [.Name y py] (.ListComp elt [⟨tg, iter, ifs, 0⟩] scope pos) spos) (mSet i (mLc it g t el (own.map (·.2)))) :=
  PS.imp (ps_setLc hc hN hy hyl hsw hi ok (fun s H C cl fp => ng_blk hc (hg s H C cl fp)) (fun s H C cl fp => nts_blk hc (ht s H C cl fp)) (fun s H C cl fp => ne_blk hc (he s H C cl fp)) hs) fun D σ H ⟨ι, σn, h, f, s, q⟩ => ⟨ι, σn, h, f, s, by
    have q' : AftS X.K X.mg (zX X) ι H ((it σn h).sbind σn fun a h1 => ((mLcL a.2 g t el (wipeN σn (own.map (·.2))) a.1 [] h1).nb lcF).sbind σn fun w h1 => .nx (σn.set i (some w)) h1) D E := by
      have : mSet i (mLc it g t el (own.map (·.2))) σn h = ((it σn h).sbind σn fun a h1 => ((mLcL a.2 g t el (wipeN σn (own.map (·.2))) a.1 [] h1).nb lcF).sbind σn fun w h1 => .nx (σn.set i (some w)) h1) := by
        unfold mSet mLc
        cases it σn h <;> rfl
      rw [← this]; exact q
    refine Aft.sbind s q' fun ι1 a h1 J H1 g1 f1 r1 q1 L hL => ?_
    refine lc_aft (.inl rfl) (it := it) (g := g) (t := t) (el := el) (tt := tNT X.K X.mg (zX X) E00 t) (wi := tNI X.K X.mg (zX X) E it) (E := E) (Q := fun x H1 => D.nx (σ.set i (some x)) H1) (fun _ _ _ z => z) hts f1 (s.mono g1) r1 ?_ L hL
    cases e : (mLcL a.2 g t el (wipeN σn (own.map (·.2))) a.1 [] h1).nb lcF with
    | ok w h2 => rw [e] at q1; exact fun ι2 v H2 g2 f2 r2 => q1 ι2 _ H2 g2 f2 (((s.mono g1.g0).mono g2.g0).set r2 i)
    | exc x h2 => rw [e] at q1; exact fun ι2 c d H2 g2 f2 r2 => q1 ι2 c d σ H2 g2 f2 ((s.mono g1.g0).mono g2.g0) r2
    | stuck => rw [e] at q1; exact q1⟩
end
end N
set_option maxHeartbeats 1000000
namespace N
open PySem L2
/-- a def of the text, by its number of parameters and its function -/
def spN (K : PySem.W.Frag) (mg : Str → Option Value) (n : Nat) (m : MF) : Sp := fun vs H Q E => ∃ ι ws h, Fit K mg ι H h ∧ ι.exs = none ∧ RWs K mg ι H ws vs ∧ ws.length = n ∧ Aft K mg ι H (m ws h) (RW K mg) Q E
structure FunD (K : PySem.W.Frag) (mg : Str → Option Value) (nm : Str) (st : Stmt) (ps : List Str) : Prop where
  ex : ∃ (f : Addr) (fd : FuncData), Fun K nm nm st f fd ∧ mg nm = some (.ref f) ∧ Binds K fd ps []
theorem funD_mk {K : PySem.W.Frag} {mg : Str → Option Value} {nm : Str} {st : Stmt} {ps : List Str} {f : Addr} {fd : FuncData} (h2 : mg nm = some (.ref f)) (h1 : Fun K nm nm st f fd) (h3 : Binds K fd ps []) : FunD K mg nm st ps := ⟨f, fd, h1, h2, h3⟩
structure Def (P : Program) (w : World) (K : PySem.W.Frag) (mg : Str → Option Value) (base : Heap) (k : Nat) (nm : Str) (ps : List Str) (m : MF) : Prop where
  ex : ∃ (f : Addr) (fd : FuncData), FnOk P w K mg base (L2.CX P w) k f fd ps (spN K mg ps.length m) ∧ mg nm = some (.ref f) ∧ PySem.W.keepIn K (.ref f) = true ∧ Binds K fd ps []
/-- what a def gives, by its body and the number of its slots -/
def mDef (n : Nat) (b : MS) : MF := fun ws h => match b (ws.map some ++ List.replicate (n - ws.length) none) h with
  | .nx _ h' => .ok .non h'
  | .rt w h' => .ok w h'
  | .exc x _ h' => .exc x h'
  | _ => .stuck
section
variable {P : Program} {w : World} {K : PySem.W.Frag} {mg : Str → Option Value} {base : Heap}
theorem sl_start {ι : Ix} {H : Hp} {ws : List W} {vs : List V} {N : List Str} (ex : ι.exs = none) (r : RWs K mg ι H ws vs) : Sl K mg ι H none (ws.map some ++ List.replicate (N.length - ws.length) none) (L2.start N vs) := by
  have hl := r.len
  refine ⟨ex, ?_, fun i w e => ?_⟩
  · unfold L2.start
    rw [List.length_append, List.length_append, List.length_map, List.length_map, List.length_replicate, List.length_replicate, hl]
  · have hi : i < ws.length := by
      by_cases hi : i < ws.length
      · exact hi
      · rw [List.getElem?_append_right (by simpa using hi)] at e
        rw [List.getElem?_replicate] at e
        split at e <;> cases e
    rw [List.getElem?_append_left (by simpa using hi), List.getElem?_map] at e
    cases e1 : ws[i]? with
    | none => rw [e1] at e; cases e
    | some w' =>
      rw [e1] at e
      cases e
      obtain ⟨v, h1, h2⟩ := r.at e1
      refine ⟨v, ?_, h2⟩
      unfold L2.start
      rw [List.getElem?_append_left (by rw [List.length_map, hl]; exact hi), List.getElem?_map, h1]
      rfl
theorem FunD.ok {nm : Str} {st : Stmt} {N ps : List Str} {k : Nat} {b : MS} (F : FunD K mg nm st ps) (S : FnScope N ps (defScope st))
    (hb : ∀ (f : Addr) (cdv : Value) (A : Around) (outer : List Env) (s : Shared) (H : Hp) (E : XK), Room k (A.deeper (PyProof.Rows.envOfC nm (defScope st) s.heap.objs.size f cdv)) →
      NSs (cxOf (L2.CX P w) P w K mg base N nm (defScope st) f cdv A outer s H E) (fun cls d _ H' => E cls d H') (defBody st) b) : Def P w K mg base (k + 1) nm ps (mDef N.length b) := by
  obtain ⟨f, fd, h1, h2, h3⟩ := F
  refine ⟨f, fd, h1.okX S (fun vs H Q E h => ?_) (fun cdv A outer s H vs Q E hr h => ?_), h2, h1.kp, h3⟩
  · obtain ⟨ι, ws, h, _, _, r, e, _⟩ := h
    rw [r.len, e]
  · obtain ⟨ι, ws, h, ft, ex, r, e, q⟩ := h
    refine ⟨_, hb f cdv A outer s H E hr, ι, _, h, ft, sl_start ex r, ?_⟩
    unfold mDef at q
    cases e2 : b (ws.map some ++ List.replicate (N.length - ws.length) none) h with
    | nx σ' h' => rw [e2] at q; exact fun ι2 σ2 H2 g2 f2 s2 => q ι2 .non H2 g2 f2 .non
    | rt w h' => rw [e2] at q; exact q
    | exc x σ' h' => rw [e2] at q; exact fun ι2 c d σ2 H2 g2 f2 s2 => q ι2 c d H2 g2 f2
    | bk σ' h' => rw [e2] at q; exact q.elim
    | ct σ' h' => rw [e2] at q; exact q.elim
    | stuck => rw [e2] at q; exact q.elim
end
def mCall (m : MF) (ma : MA) : ME := fun σ h => (ma σ h).bind fun ws h1 => m ws h1
section
variable {X : Cx} {E : WX} {e : Expr} {es : List Expr} {pos : Pos}
theorem ne_call {k : Nat} {x : Str} {ps : List Str} {m : MF} {ma : MA} {p : Pos} (D : Def X.prog X.w X.K X.mg X.base k x ps m) (hr : Room k X.A) (hc : X.calm = true) (hg : Gl X x) (tk : Takes X E) (ha : NA X E (e :: es) ma) (hl : ∀ σ h ws h', ma σ h = .ok ws h' → ws.length = ps.length)
    (hdb : (x == ("__debug__" : Str)) = false := by decide) (he : starEach (e :: es) X.env = (false, eval e X.env) :: starEach es X.env := by rfl) (hpl : (backTo pos (starEach es X.env)).any (·.1) = false := by rfl) :
    NE X E (.Call (.Name x p) (e :: es) [] pos) (mCall m ma) := by
  obtain ⟨f, fd, G, hm, hk, hb⟩ := D
  refine PE.imp (pe_callS (p := p) (pos := pos) G hr hg hm hk hb (fun σ => passAt tk σ) ha hdb he hpl) fun σ H Q ⟨ι, σn, h, ft, s, q⟩ => ⟨ι, σn, h, ft, s, ?_⟩
  cases ea : ma σn h with
  | ok ws h1 =>
    have q' : Aft X.K X.mg ι H (m ws h1) (RW X.K X.mg) Q (fun c d H' => E c d σ H') := by unfold mCall at q; rw [ea] at q; exact q
    exact fun ι1 vs H1 g1 f1 r1 => ⟨ι1, ws, h1, f1, (g1.g0.ex.trans s.ex).trans (if_pos hc), r1, hl _ _ _ _ ea, Aft.step q' g1⟩
  | exc x h1 => unfold mCall at q; rw [ea] at q; exact q
  | stuck => unfold mCall at q; rw [ea] at q; exact q
end
/-- the length of a written list of arguments -/
theorem len_nil {σ : Slo} {h h' : List O} {ws : List W} (e : mNil σ h = .ok ws h') : ws.length = 0 := by cases e; rfl
theorem len_cons {σ : Slo} {h h' : List O} {ws : List W} {m : ME} {n : MA} {k : Nat} (hn : ∀ σ h ws h', n σ h = .ok ws h' → ws.length = k) (e : mCons m n σ h = .ok ws h') : ws.length = k + 1 := by
  unfold mCons at e
  cases e1 : m σ h with
  | ok x h1 =>
    rw [e1, bind_ok] at e
    cases e2 : n σ h1 with
    | ok xs h2 => rw [e2] at e; cases e; rw [List.length_cons, hn _ _ _ _ e2]
    | exc _ _ => rw [e2] at e; cases e
    | stuck => rw [e2] at e; cases e
  | exc _ _ => rw [e1] at e; cases e
  | stuck => rw [e1] at e; cases e
/-- an exception class of the text, without its own __init__ -/
structure ExcK (K : PySem.W.Frag) (mg : Str → Option Value) (nm : Str) (C : Addr) : Prop where
  g : mg nm = some (.ref C)
  x : ∃ (B newId initId : String) (bmB : List Value), ExcBaseFacts B newId initId bmB ∧ PySem.W.excIn K C bmB newId = true
  k : PySem.W.keepIn K (.ref C) = true
  b : PySem.W.subIn K (.ref C) (.type "BaseException") = some true
  t : PySem.W.typeIn K (.ref C) = some (.type "type")
def mRaise (x : Str) : MS := fun σ h => .exc ⟨x, []⟩ σ h
section
variable {X : Cx} {E : WX} {pos : Pos}
theorem ns_raise {nm m : Str} {j : Nat} {p p2 pos2 : Pos} (hc : X.calm = true) (tk : Takes X E) (h : ∃ C, ExcK X.K X.mg nm C) (hg : Gl X nm) (hdb : (nm == ("__debug__" : Str)) = false := by decide) :
    NS X E (.Raise (some (.Call (.Name nm p) [.Constant (.str m) j p2] [] pos)) none pos2) (mRaise nm) := by
  obtain ⟨C, h⟩ := h
  obtain ⟨B, newId, initId, bmB, F, q⟩ := h.x
  have r := ps_raise (pos := pos2) hc tk (pmk_own (p := p) (p2 := p2) (m := m) (j := j) (pos := pos) F q h.g h.k (raises_own h.b h.t) hg hdb)
  exact PS.imp r fun D σ H ⟨ι, σn, hh, ft, s, q⟩ => q ι _ _ σ H .refl ft s (.no (.own h.g))
end
end N
set_option maxHeartbeats 1000000
namespace N
open PySem L2
/-- a list's items, exact (not the script) -/
def lstX (h : List O) : W → Option (List W)
  | .lst ws => some ws
  | .ref n => match h[n]? with
    | some (.lst ws) => some ws
    | _ => none
  | _ => none
def seqL (h : List O) : W → Option (List W)
  | .lro ws => some ws
  | w => lstX h w
section
variable {K : PySem.W.Frag} {mg : Str → Option Value} {ι : Ix} {H : Hp} {h : List O} {w : W} {v : V} {ws : List W}
theorem lstX_at (f : Fit K mg ι H h) (r : RW K mg ι H w v) (e : lstX h w = some ws) : ∃ a vs, v = .ref a ∧ H a = some (.lst vs) ∧ RWs K mg ι H ws vs := by
  cases r with
  | lst h0 h1 h2 => cases e; exact ⟨_, _, rfl, h1, h2⟩
  | @ref n a h1 =>
    cases eo : h[n]? with
    | none => simp [lstX, eo] at e
    | some o =>
      cases o with
      | lst xs =>
        simp only [lstX, eo, Option.some.injEq] at e
        subst e
        cases f.obj _ _ _ eo h1 with
        | lst a1 a2 => exact ⟨_, _, rfl, a1, a2⟩
      | _ => simp [lstX, eo] at e
  | _ => cases e
theorem seqL_at (f : Fit K mg ι H h) (r : RW K mg ι H w v) (e : seqL h w = some ws) : ∃ a vs, v = .ref a ∧ SqL K H a vs ∧ RWs K mg ι H ws vs := by
  cases w with
  | lro xs =>
    cases e
    cases r with
    | lro h1 h2 => exact ⟨_, _, rfl, h1.sq, h2⟩
  | _ =>
    obtain ⟨a, vs, e1, e2, e3⟩ := lstX_at f r e
    exact ⟨a, vs, e1, SqL.of e2, e3⟩
end
def guardO (b : Bool) (w : W) : Option W := if b = true then some w else none
theorem guardO_some {b : Bool} {w u : W} (e : guardO b w = some u) : b = true ∧ u = w := by
  unfold guardO at e; split at e
  · cases e; exact ⟨by assumption, rfl⟩
  · cases e
def nAdd (h : List O) (x y : W) : Option W := match x, y with
  | .int i, .int j => some (.int (i + j))
  | .bl i, .bl j => some (.int ((if i then 1 else 0) + if j then 1 else 0))
  | .int i, .bl j => some (.int (i + if j then 1 else 0))
  | .str i, .str j => guardO (decide (i.length + j.length ≤ sizeLine)) (.str (i ++ j))
  | .tup xs, .tup ys => guardO (decide (xs.length + ys.length ≤ sizeLine)) (.tup (xs ++ ys))
  | x, y => match lstX h x, lstX h y with
    | some xs, some ys => guardO (decide (xs.length + ys.length ≤ sizeLine)) (.lst (xs ++ ys))
    | _, _ => none
section
variable {X : Cx}
theorem on_add : OpR X (binaryOp .Add) (r2N X.K X.mg nAdd) := by
  intro pins s σ H x y v u Q I rx ry ⟨ι, h, w1, w2, w, ft, r1, r2, e, k⟩
  have lists : ∀ xs ys, lstX h w1 = some xs → lstX h w2 = some ys → guardO (decide (xs.length + ys.length ≤ sizeLine)) (.lst (xs ++ ys)) = some w → wpAny (model X.prog X.w) X.A (binaryOp .Add v u) (EP X pins σ Q) X.xe s := by
    intro xs ys e1 e2 e3
    obtain ⟨a, vs, rfl, ha, q1⟩ := lstX_at ft r1 e1
    obtain ⟨b, us, rfl, hb, q2⟩ := lstX_at ft r2 e2
    obtain ⟨e4, rfl⟩ := guardO_some e3
    refine op_cat pins s σ H _ _ v u Q I rx ry ⟨a, b, vs, us, rfl, rfl, ha, hb, by rw [q1.len, q2.len]; exact of_decide_eq_true e4, fun p hp => ?_⟩
    obtain ⟨g, f, r⟩ := new_lst ft (q1.app q2) hp
    exact k ι _ _ g f r
  have listsE : nAdd h w1 w2 = (match lstX h w1, lstX h w2 with
    | some xs, some ys => guardO (decide (xs.length + ys.length ≤ sizeLine)) (.lst (xs ++ ys))
    | _, _ => none) → wpAny (model X.prog X.w) X.A (binaryOp .Add v u) (EP X pins σ Q) X.xe s := by
    intro e0
    rw [e0] at e
    cases e1 : lstX h w1 with
    | none => rw [e1] at e; cases e
    | some xs =>
      cases e2 : lstX h w2 with
      | none => rw [e1, e2] at e; cases e
      | some ys => rw [e1, e2] at e; exact lists xs ys e1 e2 e
  cases w1 with
  | int i =>
    cases r1
    cases w2 with
    | int j => cases r2; cases e; exact op_add pins s σ H _ _ v u Q I rx ry ⟨i, j, rfl, rfl, k ι _ H .refl ft (.int _)⟩
    | bl j =>
      cases r2; cases e
      refine op_add_ib pins s σ H _ _ v u Q I rx ry ⟨i, j, rfl, rfl, ?_⟩
      have := k ι _ H .refl ft (.int _)
      cases j <;> exact this
    | _ => cases e
  | bl i =>
    cases r1
    cases w2 with
    | bl j => cases r2; cases rx; cases ry; cases e; exact PyProof.Rows.add_bool ⟨.int _, H, I.tok _, ⟨_, rfl⟩, k ι _ H .refl ft (.int _)⟩
    | _ => cases e
  | str i =>
    cases r1
    cases w2 with
    | str j =>
      cases r2
      obtain ⟨e4, rfl⟩ := guardO_some e
      exact op_add_str pins s σ H _ _ v u Q I rx ry ⟨i, j, rfl, rfl, of_decide_eq_true e4, k ι _ H .refl ft (.str _)⟩
    | _ => cases e
  | tup xs =>
    cases w2 with
    | tup ys =>
      obtain ⟨e4, rfl⟩ := guardO_some e
      have e4 := of_decide_eq_true e4
      cases r1 with
      | @tup _ a vs a0 a1 a2 =>
        cases r2 with
        | @tup _ b us b0 b1 b2 =>
          refine op_catA pins s σ H _ _ v u Q I rx ry ⟨a, b, vs, us, rfl, rfl, SqT.of a1, SqT.of b1, by rw [a2.len, b2.len]; exact e4, fun hz => ?_, fun _ hz => ?_, fun _ _ p hp => ?_⟩
          · subst hz; cases a2; exact k ι _ H .refl ft (.tup b0 b1 b2)
          · subst hz; cases b2; rw [List.append_nil] at k; exact k ι _ H .refl ft (.tup a0 a1 a2)
          · obtain ⟨g, f, r⟩ := new_tup ft (a2.app b2) hp
            exact k ι _ _ g f r
    | _ => cases e
  | lst xs => exact listsE (by cases w2 <;> rfl)
  | ref n => exact listsE (by cases w2 <;> rfl)
  | _ => cases w2 <;> cases e
def nSub (h : List O) (x y : W) : Option W := match x, y with
  | .int i, .int j => some (.int (i - j))
  | _, _ => none
theorem on_sub : OpR X (binaryOp .Sub) (r2N X.K X.mg nSub) := by
  intro pins s σ H x y v u Q I rx ry ⟨ι, h, w1, w2, w, ft, r1, r2, e, k⟩
  cases w1 with
  | int i =>
    cases r1
    cases w2 with
    | int j => cases r2; cases e; exact op_sub pins s σ H _ _ v u Q I rx ry ⟨i, j, rfl, rfl, k ι _ H .refl ft (.int _)⟩
    | _ => cases e
  | _ => cases w2 <;> cases e
/-- ints of together less than a million bits; a text, a tuple, a list so many times -/
def mulStr (z : Str) (n : Int) : Str := if n < 1 then Str.empty else if (n == 1 || z.length == 0) = true then z else ⟨(List.replicate n.toNat z.cps).foldl (· ++ ·) #[]⟩
def nMul (h : List O) (x y : W) : Option W := match x, y with
  | .int i, .int j => guardO (decide (i.natAbs.log2 + j.natAbs.log2 < 1000000)) (.int (i * j))
  | .str z, .int n => guardO (decide (n ≤ 10000 ∧ z.length ≤ 1000 ∧ -1000 ≤ n ∧ (mulStr z n).length ≤ sizeLine)) (.str (mulStr z n))
  | .tup xs, .int n => guardO (decide (2 ≤ n ∧ n ≤ 1000 ∧ xs.length ≤ 1000 ∧ xs ≠ [])) (.tup (List.replicate n.toNat xs).flatten)
  | x, .int n => match lstX h x with
    | some xs => guardO (decide (-(2 ^ 63) ≤ n ∧ n < 2 ^ 63 ∧ xs.length * n.toNat ≤ sizeLine)) (.lst (List.replicate n.toNat xs).flatten)
    | none => none
  | _, _ => none
theorem rws_rep {K : PySem.W.Frag} {mg : Str → Option Value} {ι : Ix} {H : Hp} {ws : List W} {vs : List V} (r : RWs K mg ι H ws vs) : ∀ n : Nat, RWs K mg ι H (List.replicate n ws).flatten (List.replicate n vs).flatten
  | 0 => .nil
  | n + 1 => by
    rw [List.replicate_succ, List.replicate_succ, List.flatten_cons, List.flatten_cons]
    exact r.app (rws_rep r n)
theorem on_mul : OpR X (binaryOp .Mult) (r2N X.K X.mg nMul) := by
  intro pins s σ H x y v u Q I rx ry ⟨ι, h, w1, w2, w, ft, r1, r2, e, k⟩
  have lists : ∀ n : Int, w2 = .int n → (match lstX h w1 with
    | some xs => guardO (decide (-(2 ^ 63) ≤ n ∧ n < 2 ^ 63 ∧ xs.length * n.toNat ≤ sizeLine)) (.lst (List.replicate n.toNat xs).flatten)
    | none => none) = some w → wpAny (model X.prog X.w) X.A (binaryOp .Mult v u) (EP X pins σ Q) X.xe s := by
    intro n e0 e'
    subst e0
    cases r2
    cases e1 : lstX h w1 with
    | none => rw [e1] at e'; cases e'
    | some xs =>
      rw [e1] at e'
      obtain ⟨e4, rfl⟩ := guardO_some e'
      obtain ⟨h1, h2, h3⟩ := of_decide_eq_true e4
      obtain ⟨a, vs, rfl, ha, q1⟩ := lstX_at ft r1 e1
      refine op_rep pins s σ H _ _ v u Q I rx ry ⟨a, n, vs, rfl, rfl, ha, h1, h2, by rw [q1.len]; exact h3, fun p hp => ?_⟩
      obtain ⟨g, f, r⟩ := new_lst ft (rws_rep q1 n.toNat) hp
      exact k ι _ _ g f r
  cases w2 with
  | int n =>
    cases w1 with
    | int i =>
      cases r1; cases r2
      obtain ⟨e4, rfl⟩ := guardO_some e
      exact op_mulW pins s σ H _ _ v u Q I rx ry ⟨i, n, rfl, rfl, (show i.natAbs.log2 + n.natAbs.log2 < 1000000 from of_decide_eq_true e4), k ι _ H .refl ft (.int _)⟩
    | str z =>
      cases r1; cases r2
      obtain ⟨e4, rfl⟩ := guardO_some e
      obtain ⟨h1, h2, h3, h4⟩ := of_decide_eq_true e4
      obtain ⟨t1, rfl⟩ := rx
      obtain ⟨t2, rfl⟩ := ry
      have q0 := k ι _ H .refl ft (.str _)
      refine PySem.P.mul_str (by rw [decide_eq_false (by omega), decide_eq_false (by omega)] <;> rfl) (fun hn _ => ?_) (fun hn _ => ?_) ?_
      · have h0 : (2 ^ 63 - 1 : Int) / 10000 * n ≤ 2 ^ 63 - 1 := by
          have : (2 ^ 63 - 1 : Int) / 10000 * n ≤ (2 ^ 63 - 1) / 10000 * 10000 := Int.mul_le_mul_of_nonneg_left h1 (by decide)
          exact Int.le_trans this (by decide)
        have : (2 ^ 63 - 1) / n ≥ (2 ^ 63 - 1) / 10000 := Int.le_ediv_of_mul_le (by omega) h0
        have h6 : ((2 ^ 63 - 1 : Int) / 10000) ≥ 1000 := by decide
        omega
      · have hm : z.length * n.toNat ≤ 1000 * 10000 := Nat.mul_le_mul h2 (by omega)
        unfold Builtin.Str.tooLong
        rw [PySem.sizeLine_eq]
        exact decide_eq_false (by omega)
      · unfold mulStr at q0 h4
        by_cases c1 : n < 1
        · rw [if_pos c1] at q0 h4 ⊢
          exact ⟨h4, .str _, H, I.tok _, ⟨_, rfl⟩, q0⟩
        · rw [if_neg c1] at q0 h4 ⊢
          by_cases c2 : (n == 1 || z.length == 0) = true
          · rw [if_pos c2] at q0 ⊢
            exact ⟨.str _, H, I, ⟨_, rfl⟩, q0⟩
          · rw [if_neg c2] at q0 h4 ⊢
            exact ⟨h4, .str _, H, I.tok _, ⟨_, rfl⟩, q0⟩
    | tup xs =>
      obtain ⟨e4, rfl⟩ := guardO_some e
      obtain ⟨h1, h2, h3, h4⟩ := of_decide_eq_true e4
      cases r1 with
      | @tup _ a vs a0 a1 a2 =>
        cases r2
        refine op_repT pins s σ H _ _ v u Q I rx ry ⟨a, n, vs, rfl, rfl, SqT.of a1, fun z => h4 (by subst z; cases a2; rfl), h1, h2, by rw [a2.len]; exact h3, fun p hp => ?_⟩
        obtain ⟨g, f, r⟩ := new_tup ft (rws_rep a2 n.toNat) hp
        exact k ι _ _ g f r
    | lst xs => exact lists n rfl e
    | ref m => exact lists n rfl e
    | _ => cases e
  | _ => cases w1 <;> cases e
def nDiv (h : List O) (x y : W) : Option W := match x, y with
  | .int i, .int j => guardO (decide (0 < j ∧ j.natAbs.log2 < 9000)) (.int (i / j))
  | _, _ => none
theorem on_div : OpR X (binaryOp .FloorDiv) (r2N X.K X.mg nDiv) := by
  intro pins s σ H x y v u Q I rx ry ⟨ι, h, w1, w2, w, ft, r1, r2, e, k⟩
  cases w1 with
  | int i =>
    cases r1
    cases w2 with
    | int j =>
      cases r2
      obtain ⟨e4, rfl⟩ := guardO_some e
      exact op_fdivW pins s σ H _ _ v u Q I rx ry ⟨i, j, rfl, rfl, (show 0 < j ∧ j.natAbs.log2 < 9000 from of_decide_eq_true e4), k ι _ H .refl ft (.int _)⟩
    | _ => cases e
  | _ => cases w2 <;> cases e
def nMod (h : List O) (x y : W) : Option W := match x, y with
  | .int i, .int j => guardO (decide (0 < j)) (.int (i % j))
  | _, _ => none
theorem on_mod : OpR X (binaryOp .Mod) (r2N X.K X.mg nMod) := by
  intro pins s σ H x y v u Q I rx ry ⟨ι, h, w1, w2, w, ft, r1, r2, e, k⟩
  cases w1 with
  | int i =>
    cases r1
    cases w2 with
    | int j =>
      cases r2
      obtain ⟨e4, rfl⟩ := guardO_some e
      exact op_mod pins s σ H _ _ v u Q I rx ry ⟨i, j, rfl, rfl, of_decide_eq_true e4, k ι _ H .refl ft (.int _)⟩
    | _ => cases e
  | _ => cases w2 <;> cases e
def nPow (h : List O) (x y : W) : Option W := match x, y with
  | .int i, .int j => guardO (decide (0 ≤ j ∧ (PySem.Builtin.Int.intBits i : Int) * j ≤ 2 ^ 27)) (.int (i ^ j.toNat))
  | _, _ => none
theorem on_pow : OpR X (binaryOp .Pow) (r2N X.K X.mg nPow) := by
  intro pins s σ H x y v u Q I rx ry ⟨ι, h, w1, w2, w, ft, r1, r2, e, k⟩
  cases w1 with
  | int i =>
    cases r1
    cases w2 with
    | int j =>
      cases r2
      obtain ⟨e4, rfl⟩ := guardO_some e
      have hc := of_decide_eq_true e4
      have op_powW : OpR X (binaryOp .Pow) (rI (fun i j => 0 ≤ j ∧ (PySem.Builtin.Int.intBits i : Int) * j ≤ 2 ^ 27) fun i j => .int (i ^ j.toNat)) := opI fun _ _ _ _ _ _ _ hc q => PyProof.Rows.pow_int hc.1 hc.2 q
      exact op_powW pins s σ H _ _ v u Q I rx ry ⟨i, j, rfl, rfl, hc, k ι _ H .refl ft (.int _)⟩
    | _ => cases e
  | _ => cases w2 <;> cases e
def nNeg (h : List O) (x : W) : Option W := match x with
  | .int i => some (.int (-i))
  | _ => none
theorem on_neg : UnR X (unaryOp .USub) (r1N X.K X.mg nNeg) := by
  intro pins s σ H x v Q I rx ⟨ι, h, w1, w, ft, r1, e, k⟩
  cases w1 with
  | int i => cases r1; cases e; exact un_neg pins s σ H _ v Q I rx ⟨i, rfl, k ι _ H .refl ft (.int _)⟩
  | _ => cases e
end
end N
set_option maxHeartbeats 1000000
namespace N
open PySem L2
mutual
def datW : W → Option PyData
  | .non => some .none
  | .bl b => some (.bool b)
  | .int i => some (.int i)
  | .str s => some (.str s)
  | .tup ws => (datWs ws).map .tuple
  | .tro ws => (datWs ws).map .tuple
  | .lst ws => (datWs ws).map .list
  | .lro ws => (datWs ws).map .list
  | _ => none
def datWs : List W → Option (List PyData)
  | [] => some []
  | w :: ws => match datW w, datWs ws with
    | some d, some ds => some (d :: ds)
    | _, _ => none
end
section
variable {K : PySem.W.Frag} {mg : Str → Option Value} {ι : Ix} {H : Hp}
mutual
theorem datW_dp : ∀ (w : W) (v : V) (d : PyData), RW K mg ι H w v → datW w = some d → Dp K H v d
  | .non, _, _, r, e => by cases r; cases e; exact .non
  | .bl b, _, _, r, e => by cases r; cases e; exact .bl b
  | .int b, _, _, r, e => by cases r; cases e; exact .int b
  | .str b, _, _, r, e => by cases r; cases e; exact .str b
  | .tup ws, _, d, r, e => by
    cases r with
    | tup h0 h1 h2 =>
      cases e1 : datWs ws with
      | none => simp [datW, e1] at e
      | some ds => simp only [datW, e1, Option.map_some, Option.some.injEq] at e; subst e; exact .tup (SqT.of h1) (datWs_dp ws _ ds h2 e1)
  | .tro ws, _, d, r, e => by
    cases r with
    | tro h1 h2 =>
      cases e1 : datWs ws with
      | none => simp [datW, e1] at e
      | some ds => simp only [datW, e1, Option.map_some, Option.some.injEq] at e; subst e; exact .tup (NoH.sqT h1) (datWs_dp ws _ ds h2 e1)
  | .lst ws, _, d, r, e => by
    cases r with
    | lst h0 h1 h2 =>
      cases e1 : datWs ws with
      | none => simp [datW, e1] at e
      | some ds => simp only [datW, e1, Option.map_some, Option.some.injEq] at e; subst e; exact .lst (SqL.of h1) (datWs_dp ws _ ds h2 e1)
  | .lro ws, _, d, r, e => by
    cases r with
    | lro h1 h2 =>
      cases e1 : datWs ws with
      | none => simp [datW, e1] at e
      | some ds => simp only [datW, e1, Option.map_some, Option.some.injEq] at e; subst e; exact .lst h1.sq (datWs_dp ws _ ds h2 e1)
  | .ty _, _, _, _, e => by simp [datW] at e
  | .dct _ _, _, _, _, e => by simp [datW] at e
  | .ref _, _, _, _, e => by simp [datW] at e
  | .fn _, _, _, _, e => by simp [datW] at e
  | .exo _ _, _, _, _, e => by simp [datW] at e
theorem datWs_dp : ∀ (ws : List W) (vs : List V) (ds : List PyData), RWs K mg ι H ws vs → datWs ws = some ds → DpAll K H vs ds
  | [], _, _, r, e => by cases r; cases e; exact .nil
  | w :: ws, _, ds, r, e => by
    cases r with
    | cons r1 r2 =>
      cases e1 : datW w with
      | none => simp [datWs, e1] at e
      | some d =>
        cases e2 : datWs ws with
        | none => simp [datWs, e1, e2] at e
        | some ds' => simp only [datWs, e1, e2, Option.some.injEq] at e; subst e; exact .cons (datW_dp w _ d r1 e1) (datWs_dp ws _ ds' r2 e2)
end
end
/-- a numbered list may stand at the top of a comparison -/
def topW (h : List O) : W → W
  | .ref n => match h[n]? with
    | some (.lst ws) => .lst ws
    | _ => .ref n
  | w => w
def eqW (x y : W) : Option Bool := match datW x, datW y with
  | some d, some e => if SeqAt.shaped d = true ∧ SeqAt.shaped e = true then some (PyData.eqv d e) else none
  | _, _ => none
def nEq (h : List O) (x y : W) : Option W := (eqW (topW h x) (topW h y)).map .bl
def nNe (h : List O) (x y : W) : Option W := (eqW (topW h x) (topW h y)).map fun b => .bl (!b)
section
variable {K : PySem.W.Frag} {mg : Str → Option Value} {ι : Ix} {H : Hp} {h : List O}
theorem topW_dp (f : Fit K mg ι H h) {w : W} {v : V} {d : PyData} (r : RW K mg ι H w v) (e : datW (topW h w) = some d) : Dp K H v d := by
  cases w with
  | ref n =>
    cases r with
    | ref h1 =>
      cases eo : h[n]? with
      | none => simp [topW, eo, datW] at e
      | some o =>
        cases o with
        | lst xs =>
          cases f.obj _ _ _ eo h1 with
          | lst a1 a2 =>
            simp only [topW, eo, datW] at e
            cases e1 : datWs xs with
            | none => simp [e1] at e
            | some ds => simp only [e1, Option.map_some, Option.some.injEq] at e; subst e; exact .lst (SqL.of a1) (datWs_dp _ _ _ a2 e1)
        | _ => simp [topW, eo, datW] at e
  | _ => exact datW_dp _ _ _ r e
theorem eqW_some {x y : W} {b : Bool} (e : eqW x y = some b) : ∃ d d', datW x = some d ∧ datW y = some d' ∧ SeqAt.shaped d = true ∧ SeqAt.shaped d' = true ∧ b = PyData.eqv d d' := by
  unfold eqW at e
  cases e1 : datW x with
  | none => simp [e1] at e
  | some d =>
    cases e2 : datW y with
    | none => simp [e1, e2] at e
    | some d' =>
      simp only [e1, e2] at e
      split at e
      · rename_i hh; cases e; exact ⟨d, d', rfl, rfl, hh.1, hh.2, rfl⟩
      · cases e
end
section
variable {X : Cx}
theorem on_eq (hu : X.A.units + 64 < cLine) : OpR X (compareOp .Eq) (r2N X.K X.mg nEq) := by
  intro pins s σ H x y v u Q I rx ry ⟨ι, h, w1, w2, w, ft, r1, r2, e, k⟩
  cases e0 : eqW (topW h w1) (topW h w2) with
  | none => unfold nEq at e; rw [e0] at e; cases e
  | some b =>
    unfold nEq at e; rw [e0] at e; cases e
    obtain ⟨d, d', h1, h2, h3, h4, rfl⟩ := eqW_some e0
    exact op_eqD hu pins s σ H _ _ v u Q I rx ry ⟨d, d', topW_dp ft r1 h1, topW_dp ft r2 h2, h3, h4, k ι _ H .refl ft (.bl _)⟩
theorem on_ne (hu : X.A.units + 64 < cLine) : OpR X (compareOp .NotEq) (r2N X.K X.mg nNe) := by
  intro pins s σ H x y v u Q I rx ry ⟨ι, h, w1, w2, w, ft, r1, r2, e, k⟩
  cases e0 : eqW (topW h w1) (topW h w2) with
  | none => unfold nNe at e; rw [e0] at e; cases e
  | some b =>
    unfold nNe at e; rw [e0] at e; cases e
    obtain ⟨d, d', h1, h2, h3, h4, rfl⟩ := eqW_some e0
    exact op_neD hu pins s σ H _ _ v u Q I rx ry ⟨d, d', topW_dp ft r1 h1, topW_dp ft r2 h2, h3, h4, k ι _ H .refl ft (.bl _)⟩
def nLt (h : List O) (x y : W) : Option W := match x, y with
  | .int i, .int j => some (.bl (decide (i < j)))
  | .str i, .str j => some (.bl (decide (i.cps.toList < j.cps.toList)))
  | _, _ => none
def nLe (h : List O) (x y : W) : Option W := match x, y with
  | .int i, .int j => some (.bl (decide (i ≤ j)))
  | .str i, .str j => some (.bl (!decide (j.cps.toList < i.cps.toList)))
  | _, _ => none
def nGt (h : List O) (x y : W) : Option W := match x, y with
  | .int i, .int j => some (.bl (decide (j < i)))
  | .str i, .str j => some (.bl (decide (j.cps.toList < i.cps.toList)))
  | _, _ => none
def nGe (h : List O) (x y : W) : Option W := match x, y with
  | .int i, .int j => some (.bl (decide (j ≤ i)))
  | .str i, .str j => some (.bl (!decide (i.cps.toList < j.cps.toList)))
  | _, _ => none
theorem on_cmp {op : CmpOp} {f : List O → W → W → Option W} {p : Int → Int → Bool} {q : Str → Str → Bool} (hI : OpR X (compareOp op) (rI0 fun i j => .bl (p i j)))
    (hS : OpR X (compareOp op) (fun x y H Q => ∃ i j, x = .str i ∧ y = .str j ∧ Q (.bl (q i j)) H)) (hf : ∀ h x y w, f h x y = some w → (∃ i j, x = .int i ∧ y = .int j ∧ w = .bl (p i j)) ∨ ∃ i j, x = .str i ∧ y = .str j ∧ w = .bl (q i j)) : OpR X (compareOp op) (r2N X.K X.mg f) := by
  intro pins s σ H x y v u Q I rx ry ⟨ι, h, w1, w2, w, ft, r1, r2, e, k⟩
  rcases hf _ _ _ _ e with ⟨i, j, rfl, rfl, rfl⟩ | ⟨i, j, rfl, rfl, rfl⟩
  · cases r1; cases r2
    exact hI pins s σ H _ _ v u Q I rx ry ⟨i, j, rfl, rfl, k ι _ H .refl ft (.bl _)⟩
  · cases r1; cases r2
    exact hS pins s σ H _ _ v u Q I rx ry ⟨i, j, rfl, rfl, k ι _ H .refl ft (.bl _)⟩
theorem on_lt : OpR X (compareOp .Lt) (r2N X.K X.mg nLt) := on_cmp op_lt op_lt_str fun h x y w e => by
  cases x <;> cases y <;> first | (cases e; exact .inl ⟨_, _, rfl, rfl, rfl⟩) | (cases e; exact .inr ⟨_, _, rfl, rfl, rfl⟩) | cases e
theorem on_le : OpR X (compareOp .LtE) (r2N X.K X.mg nLe) := on_cmp op_le op_le_str fun h x y w e => by
  cases x <;> cases y <;> first | (cases e; exact .inl ⟨_, _, rfl, rfl, rfl⟩) | (cases e; exact .inr ⟨_, _, rfl, rfl, rfl⟩) | cases e
theorem on_gt : OpR X (compareOp .Gt) (r2N X.K X.mg nGt) := on_cmp op_gt op_gt_str fun h x y w e => by
  cases x <;> cases y <;> first | (cases e; exact .inl ⟨_, _, rfl, rfl, rfl⟩) | (cases e; exact .inr ⟨_, _, rfl, rfl, rfl⟩) | cases e
theorem on_ge : OpR X (compareOp .GtE) (r2N X.K X.mg nGe) := on_cmp op_ge op_ge_str fun h x y w e => by
  cases x <;> cases y <;> first | (cases e; exact .inl ⟨_, _, rfl, rfl, rfl⟩) | (cases e; exact .inr ⟨_, _, rfl, rfl, rfl⟩) | cases e
def isV (x y : W) : Option Bool := match x, y with
  | .bl a, .bl b => some (decide (a = b))
  | .non, .non => some true
  | .bl _, .non => some false | .int _, .non => some false | .str _, .non => some false | .tup _, .non => some false | .tro _, .non => some false | .lst _, .non => some false | .dct _ _, .non => some false | .ref _, .non => some false | .fn _, .non => some false | .ty _, .non => some false
  | _, _ => none
def nIsN (h : List O) (x y : W) : Option W := (isV x y).map fun b => .bl (!b)
theorem on_isN : OpR X (compareOp .IsNot) (r2N X.K X.mg nIsN) := by
  intro pins s σ H x y v u Q I rx ry ⟨ι, h, w1, w2, w, ft, r1, r2, e, k⟩
  cases w2 with
  | non =>
    cases r2
    cases w1 <;> first
      | (cases e; cases r1 <;> exact op_notN pins s σ H _ _ v u Q I rx ry ⟨rfl, k ι _ H .refl ft (.bl _)⟩)
      | cases e
  | bl b =>
    cases w1 with
    | bl a => cases r1; cases r2; cases e; exact op_isnot_bl pins s σ H _ _ v u Q I rx ry ⟨a, b, rfl, rfl, k ι _ H .refl ft (.bl _)⟩
    | _ => cases e
  | _ => cases w1 <;> cases e
end
end N
set_option maxHeartbeats 1000000
namespace N
open PySem L2
/-- a key: an int, a text, or a tuple of such -/
def hk : W → Option (Sum Key (List Key))
  | .tup ws => (keyKs ws).map .inr
  | w => (keyK w).map .inl
def hkIs (q : Sum Key (List Key)) (w : W) : Bool := decide (hk w = some q)
def lookQ (kvs : List (W × W)) (q : Sum Key (List Key)) : Option W := (kvs.find? fun p => hkIs q p.1).map (·.2)
def putQ (kvs : List (W × W)) (q : Sum Key (List Key)) (k v : W) : List (W × W) :=
  if (kvs.any fun p => hkIs q p.1) = true then kvs.map (fun p => if hkIs q p.1 = true then (p.1, v) else p) else kvs ++ [(k, v)]
section
variable {K : PySem.W.Frag} {mg : Str → Option Value} {ι : Ix} {H : Hp} {h : List O}
theorem hk_K {w : W} {k : Key} (e : keyK w = some k) : hk w = some (.inl k) := by
  cases w <;> simp_all [hk, keyK]
theorem hk_T {w : W} {k : List Key} (e : keyT w = some k) : hk w = some (.inr k) := by
  cases w <;> simp_all [hk, keyT]
theorem kW_V {w : W} {k : Key} {v : V} (e : keyK w = some k) (r : RW K mg ι H w v) : v = kV k := by
  cases r <;> first | (cases e; rfl) | cases e
theorem ksW_V : ∀ {ws : List W} {ks : List Key} {vs : List V}, keyKs ws = some ks → RWs K mg ι H ws vs → vs = ks.map kV
  | [], _, _, e, r => by cases e; cases r; rfl
  | w :: ws, ks, _, e, r => by
    cases r with
    | cons r1 r2 =>
      cases e1 : keyK w with
      | none => simp [keyKs, e1] at e
      | some k =>
        cases e2 : keyKs ws with
        | none => simp [keyKs, e1, e2] at e
        | some ks' =>
          simp only [keyKs, e1, e2, Option.some.injEq] at e
          subst e
          rw [List.map_cons, kW_V e1 r1, ksW_V e2 r2]
theorem lookK {q : Key} : ∀ {kvs : List (W × W)} {qs : List (Key × V)}, RWk K mg ι H kvs qs → (∀ w, lookQ kvs (.inl q) = some w → ∃ v, valV qs q = some v ∧ RW K mg ι H w v) ∧ (lookQ kvs (.inl q) = none → valV qs q = none)
  | [], _, r => by
    cases r
    refine ⟨fun w e => ?_, fun _ => rfl⟩
    cases e
  | p :: kvs, _, r => by
    cases r with
    | @cons _ _ x xs h1 h2 h3 =>
      have e1 := hk_K h1
      by_cases hq : x.1 = q
      · have hh : hkIs (.inl q) p.1 = true := by unfold hkIs; rw [e1, hq]; simp
        refine ⟨fun w e => ⟨x.2, valV_pos hq, ?_⟩, fun e => ?_⟩
        · simp only [lookQ, List.find?_cons, hh, Option.map_some, Option.some.injEq] at e; subst e; exact h2
        · simp [lookQ, List.find?_cons, hh] at e
      · have hh : hkIs (.inl q) p.1 = false := by unfold hkIs; rw [e1]; simpa using hq
        have e2 : lookQ (p :: kvs) (.inl q) = lookQ kvs (.inl q) := by simp only [lookQ, List.find?_cons, hh]
        rw [e2, valV_neg hq]
        exact lookK h3
theorem lookT {q : List Key} : ∀ {kvs : List (W × W)} {qs : List (List Key × V)}, RWt K mg ι H kvs qs → (∀ w, lookQ kvs (.inr q) = some w → ∃ v, valV qs q = some v ∧ RW K mg ι H w v) ∧ (lookQ kvs (.inr q) = none → valV qs q = none)
  | [], _, r => by
    cases r
    refine ⟨fun w e => ?_, fun _ => rfl⟩
    cases e
  | p :: kvs, _, r => by
    cases r with
    | @cons _ _ x xs h1 h2 h3 =>
      have e1 := hk_T h1
      by_cases hq : x.1 = q
      · have hh : hkIs (.inr q) p.1 = true := by unfold hkIs; rw [e1, hq]; simp
        refine ⟨fun w e => ⟨x.2, valV_pos hq, ?_⟩, fun e => ?_⟩
        · simp only [lookQ, List.find?_cons, hh, Option.map_some, Option.some.injEq] at e; subst e; exact h2
        · simp [lookQ, List.find?_cons, hh] at e
      · have hh : hkIs (.inr q) p.1 = false := by unfold hkIs; rw [e1]; simpa using hq
        have e2 : lookQ (p :: kvs) (.inr q) = lookQ kvs (.inr q) := by simp only [lookQ, List.find?_cons, hh]
        rw [e2, valV_neg hq]
        exact lookT h3
end
/-- a dict's kind and pairs -/
def dctOf (h : List O) : W → Option (Bool × List (W × W))
  | .dct t kvs => some (t, kvs)
  | .ref n => match h[n]? with
    | some (.dct _ t kvs) => some (t, kvs)
    | _ => none
  | _ => none
def keyQ (t : Bool) (k : W) : Option (Sum Key (List Key)) := if t = true then (keyT k).map .inr else (keyK k).map .inl
/-- what stands at a key -/
def getD' (h : List O) (d k : W) : Option (Option W) := match dctOf h d with
  | some (t, kvs) => (keyQ t k).map (lookQ kvs)
  | none => none
section
variable {K : PySem.W.Frag} {mg : Str → Option Value} {ι : Ix} {H : Hp} {h : List O}
theorem lkd_rd {lk : Bool} {a : Addr} {u : HO} (h : LkD H lk a u) : Rd H a u := by
  cases lk with
  | true => exact .inr h
  | false => exact .inl h
theorem dctOf_at {w : W} {v : V} {t : Bool} {kvs : List (W × W)} (f : Fit K mg ι H h) (r : RW K mg ι H w v) (e : dctOf h w = some (t, kvs)) : ∃ a, v = .ref a ∧ ((t = false ∧ ∃ qs, Rd H a (.dK qs) ∧ RWk K mg ι H kvs qs) ∨ (t = true ∧ ∃ qs, Rd H a (.dT qs) ∧ RWt K mg ι H kvs qs)) := by
  cases r with
  | dctK h0 h1 h2 => cases e; exact ⟨_, rfl, .inl ⟨rfl, _, h1, h2⟩⟩
  | dctT h0 h1 h2 => cases e; exact ⟨_, rfl, .inr ⟨rfl, _, h1, h2⟩⟩
  | @ref n a h1 =>
    cases eo : h[n]? with
    | none => simp [dctOf, eo] at e
    | some o =>
      cases o with
      | dct lk tt xs =>
        simp only [dctOf, eo, Option.some.injEq, Prod.mk.injEq] at e
        obtain ⟨rfl, rfl⟩ := e
        cases f.obj _ _ _ eo h1 with
        | dctK a1 a2 => exact ⟨_, rfl, .inl ⟨rfl, _, lkd_rd a1, a2⟩⟩
        | dctT a1 a2 => exact ⟨_, rfl, .inr ⟨rfl, _, lkd_rd a1, a2⟩⟩
      | _ => simp [dctOf, eo] at e
  | _ => cases e
theorem keyT_at {w : W} {v : V} {ks : List Key} (r : RW K mg ι H w v) (e : keyT w = some ks) : ∃ b, v = .ref b ∧ H b = some (.tup (ks.map kV)) := by
  cases r with
  | tup h0 h1 h2 => exact ⟨_, rfl, by rw [← ksW_V e h2]; exact h1⟩
  | _ => cases e
/-- a key's place -/
theorem dget_at {d k : W} {v y : V} {o : Option W} (f : Fit K mg ι H h) (r : RW K mg ι H d v) (rk : RW K mg ι H k y) (e : getD' h d k = some o) :
    ∃ a z, v = .ref a ∧ DGet H a y z ∧ (∀ w, o = some w → ∃ u, z = some u ∧ RW K mg ι H w u) ∧ (o = none → z = none) := by
  unfold getD' at e
  cases e1 : dctOf h d with
  | none => rw [e1] at e; cases e
  | some p =>
    obtain ⟨t, kvs⟩ := p
    rw [e1] at e
    obtain ⟨a, rfl, hh⟩ := dctOf_at f r e1
    rcases hh with ⟨rfl, qs, h1, h2⟩ | ⟨rfl, qs, h1, h2⟩
    · simp only [keyQ, Bool.false_eq_true, if_false] at e
      cases e2 : keyK k with
      | none => rw [e2] at e; cases e
      | some q =>
        rw [e2] at e
        simp only [Option.map_some, Option.some.injEq] at e
        refine ⟨a, valV qs q, rfl, .inl ⟨qs, q, h1, kW_V e2 rk, rfl⟩, fun w ew => (lookK h2).1 w (e.trans ew), fun en => (lookK h2).2 (e.trans en)⟩
    · simp only [keyQ, if_true] at e
      cases e2 : keyT k with
      | none => rw [e2] at e; cases e
      | some q =>
        rw [e2] at e
        simp only [Option.map_some, Option.some.injEq] at e
        obtain ⟨b, rfl, hb⟩ := keyT_at rk e2
        refine ⟨a, valV qs q, rfl, .inr ⟨qs, q, b, h1, rfl, hb, rfl⟩, fun w ew => (lookT h2).1 w (e.trans ew), fun en => (lookT h2).2 (e.trans en)⟩
/-- a key is put -/
theorem putK_at {kvs : List (W × W)} {qs : List (Key × V)} {k w : W} {q : Key} {v : V} (r : RWk K mg ι H kvs qs) (ek : keyK k = some q) (rw' : RW K mg ι H w v) : RWk K mg ι H (putQ kvs (.inl q) k w) (putK qs q v) := by
  have any : ∀ {kvs : List (W × W)} {qs : List (Key × V)}, RWk K mg ι H kvs qs → (kvs.any fun p => hkIs (.inl q) p.1) = (qs.any fun p => decide (p.1 = q)) := by
    intro kvs
    induction kvs with
    | nil => intro qs r; cases r; rfl
    | cons p kvs ih =>
      intro qs r
      cases r with
      | cons h1 h2 h3 =>
        rw [List.any_cons, List.any_cons, ih h3]
        congr 1
        unfold hkIs; rw [hk_K h1]; simp
  have mp : ∀ {kvs : List (W × W)} {qs : List (Key × V)}, RWk K mg ι H kvs qs → RWk K mg ι H (kvs.map fun p => if hkIs (.inl q) p.1 = true then (p.1, w) else p) (qs.map fun p => if p.1 = q then (p.1, v) else p) := by
    intro kvs
    induction kvs with
    | nil => intro qs r; cases r; exact .nil
    | cons p kvs ih =>
      intro qs r
      cases r with
      | @cons _ _ x xs h1 h2 h3 =>
        rw [List.map_cons, List.map_cons]
        by_cases hq : x.1 = q
        · have hh : hkIs (.inl q) p.1 = true := by unfold hkIs; rw [hk_K h1, hq]; simp
          rw [if_pos hh, if_pos hq]
          exact .cons h1 rw' (ih h3)
        · have hh : ¬ hkIs (.inl q) p.1 = true := by unfold hkIs; rw [hk_K h1]; simpa using hq
          rw [if_neg hh, if_neg hq]
          exact .cons h1 h2 (ih h3)
  have ap : ∀ {kvs : List (W × W)} {qs : List (Key × V)}, RWk K mg ι H kvs qs → RWk K mg ι H (kvs ++ [(k, w)]) (qs ++ [(q, v)]) := by
    intro kvs
    induction kvs with
    | nil => intro qs r; cases r; exact .cons ek rw' .nil
    | cons p kvs ih =>
      intro qs r
      cases r with
      | cons h1 h2 h3 => exact .cons h1 h2 (ih h3)
  unfold putQ putK
  rw [any r]
  split
  · exact mp r
  · exact ap r
theorem putT_at {kvs : List (W × W)} {qs : List (List Key × V)} {k w : W} {q : List Key} {v : V} (r : RWt K mg ι H kvs qs) (ek : keyT k = some q) (rw' : RW K mg ι H w v) : RWt K mg ι H (putQ kvs (.inr q) k w) (putK qs q v) := by
  have any : ∀ {kvs : List (W × W)} {qs : List (List Key × V)}, RWt K mg ι H kvs qs → (kvs.any fun p => hkIs (.inr q) p.1) = (qs.any fun p => decide (p.1 = q)) := by
    intro kvs
    induction kvs with
    | nil => intro qs r; cases r; rfl
    | cons p kvs ih =>
      intro qs r
      cases r with
      | cons h1 h2 h3 =>
        rw [List.any_cons, List.any_cons, ih h3]
        congr 1
        unfold hkIs; rw [hk_T h1]; simp
  have mp : ∀ {kvs : List (W × W)} {qs : List (List Key × V)}, RWt K mg ι H kvs qs → RWt K mg ι H (kvs.map fun p => if hkIs (.inr q) p.1 = true then (p.1, w) else p) (qs.map fun p => if p.1 = q then (p.1, v) else p) := by
    intro kvs
    induction kvs with
    | nil => intro qs r; cases r; exact .nil
    | cons p kvs ih =>
      intro qs r
      cases r with
      | @cons _ _ x xs h1 h2 h3 =>
        rw [List.map_cons, List.map_cons]
        by_cases hq : x.1 = q
        · have hh : hkIs (.inr q) p.1 = true := by unfold hkIs; rw [hk_T h1, hq]; simp
          rw [if_pos hh, if_pos hq]
          exact .cons h1 rw' (ih h3)
        · have hh : ¬ hkIs (.inr q) p.1 = true := by unfold hkIs; rw [hk_T h1]; simpa using hq
          rw [if_neg hh, if_neg hq]
          exact .cons h1 h2 (ih h3)
  have ap : ∀ {kvs : List (W × W)} {qs : List (List Key × V)}, RWt K mg ι H kvs qs → RWt K mg ι H (kvs ++ [(k, w)]) (qs ++ [(q, v)]) := by
    intro kvs
    induction kvs with
    | nil => intro qs r; cases r; exact .cons ek rw' .nil
    | cons p kvs ih =>
      intro qs r
      cases r with
      | cons h1 h2 h3 => exact .cons h1 h2 (ih h3)
  unfold putQ putK
  rw [any r]
  split
  · exact mp r
  · exact ap r
theorem RWk.len : ∀ {kvs : List (W × W)} {qs : List (Key × V)}, RWk K mg ι H kvs qs → qs.length = kvs.length
  | [], _, r => by cases r; rfl
  | p :: kvs, _, r => by
    cases r with
    | cons h1 h2 h3 => rw [List.length_cons, List.length_cons, RWk.len h3]
theorem RWt.len : ∀ {kvs : List (W × W)} {qs : List (List Key × V)}, RWt K mg ι H kvs qs → qs.length = kvs.length
  | [], _, r => by cases r; rfl
  | p :: kvs, _, r => by
    cases r with
    | cons h1 h2 h3 => rw [List.length_cons, List.length_cons, RWt.len h3]
/-- d[k] = w of a numbered dict -/
def putD (h : List O) (d k w : W) : Option (List O) := match d with
  | .ref n => match h[n]? with
    | some (.dct false t kvs) => match keyQ t k with
      | some q => if kvs.length < sizeLine then some (h.set n (.dct false t (putQ kvs q k w))) else none
      | none => none
    | _ => none
  | _ => none
theorem dput_at {d k w : W} {v y u : V} {h' : List O} (f : Fit K mg ι H h) (r : RW K mg ι H d v) (rk : RW K mg ι H k y) (rw' : RW K mg ι H w u) (e : putD h d k w = some h') :
    ∃ a H', v = .ref a ∧ DPut H a y u H' ∧ Grow ι ι H H' ∧ Fit K mg ι H' h' := by
  cases d with
  | ref n =>
    cases r with
    | @ref _ a h1 =>
      cases eo : h[n]? with
      | none => simp [putD, eo] at e
      | some o =>
        cases o with
        | dct lk t kvs =>
          cases lk with
          | true => simp [putD, eo] at e
          | false =>
            simp only [putD, eo] at e
            cases eq : keyQ t k with
            | none => rw [eq] at e; cases e
            | some q =>
              rw [eq] at e
              simp only at e
              by_cases hl : kvs.length < sizeLine
              · rw [if_pos hl] at e
                cases e
                cases f.obj _ _ _ eo h1 with
                | @dctK _ _ _ qs a1 a2 =>
                  simp only [keyQ, Bool.false_eq_true, if_false] at eq
                  cases e2 : keyK k with
                  | none => rw [e2] at eq; cases eq
                  | some q' =>
                    rw [e2] at eq
                    simp only [Option.map_some, Option.some.injEq] at eq
                    subst eq
                    have a1 : H a = some (.dK qs) := a1
                    have g := f.growP h1 (nf a1) (.dK (putK qs q' u))
                    refine ⟨a, _, rfl, .inl ⟨qs, q', a1, kW_V e2 rk, by rw [a2.len]; exact hl, rfl⟩, g, f.put h1 (nf a1) (.dctK upd_same (putK_at (RWk.mono g.g0 _ _ a2) e2 (RW.mono g.g0 _ _ rw')))⟩
                | @dctT _ _ _ qs a1 a2 =>
                  simp only [keyQ, if_true] at eq
                  cases e2 : keyT k with
                  | none => rw [e2] at eq; cases eq
                  | some q' =>
                    rw [e2] at eq
                    simp only [Option.map_some, Option.some.injEq] at eq
                    subst eq
                    have a1 : H a = some (.dT qs) := a1
                    obtain ⟨b, rfl, hb⟩ := keyT_at rk e2
                    have g := f.growP h1 (nf a1) (.dT (putK qs q' u))
                    refine ⟨a, _, rfl, .inr ⟨qs, q', b, a1, rfl, hb, by rw [a2.len]; exact hl, rfl⟩, g, f.put h1 (nf a1) (.dctT upd_same (putT_at (RWt.mono g.g0 _ _ a2) e2 (RW.mono g.g0 _ _ rw')))⟩
              · rw [if_neg hl] at e; cases e
        | _ => simp [putD, eo] at e
  | _ => cases e
end
end N
set_option maxHeartbeats 1000000
namespace N
open PySem L2
def seqU (h : List O) : W → Option (List W)
  | .tup ws => some ws
  | .tro ws => some ws
  | w => seqL h w
def inW (h : List O) (x y : W) : Option Bool := match y with
  | .str z => match x with
    | .str a => if a.cps.size = 1 then some (decide (a.cps.getD 0 0 ∈ z.cps.toList)) else some (!(Builtin.Str.occurrences z a 0 z.length 1).isEmpty)
    | _ => none
  | .dct _ _ => (getD' h y x).map (·.isSome)
  | .ref n => match h[n]? with
    | some (.dct _ _ _) => (getD' h y x).map (·.isSome)
    | _ => (seqU h y).bind fun ws => match datW x, datWs ws with
      | some d, some ds => if SeqAt.shaped d = true ∧ SeqAt.shaped (.list ds) = true then some (ds.any fun z => PyData.eqv z d) else none
      | _, _ => none
  | _ => (seqU h y).bind fun ws => match datW x, datWs ws with
    | some d, some ds => if SeqAt.shaped d = true ∧ SeqAt.shaped (.list ds) = true then some (ds.any fun z => PyData.eqv z d) else none
    | _, _ => none
def inSeq (h : List O) (x y : W) : Option Bool := (seqU h y).bind fun ws => match datW x, datWs ws with
  | some d, some ds => if SeqAt.shaped d = true ∧ SeqAt.shaped (.list ds) = true then some (ds.any fun z => PyData.eqv z d) else none
  | _, _ => none
def nIn (h : List O) (x y : W) : Option W := (inW h x y).map .bl
def nNotIn (h : List O) (x y : W) : Option W := (inW h x y).map fun b => .bl (!b)
theorem seqU_at {K : PySem.W.Frag} {mg : Str → Option Value} {ι : Ix} {H : Hp} {h : List O} {w : W} {v : V} {ws : List W} (f : Fit K mg ι H h) (r : RW K mg ι H w v) (e : seqU h w = some ws) :
    ∃ a vs, v = .ref a ∧ (SqL K H a vs ∨ SqT K H a vs) ∧ RWs K mg ι H ws vs := by
  cases w with
  | tup xs => cases e; cases r with
    | tup h0 h1 h2 => exact ⟨_, _, rfl, .inr (SqT.of h1), h2⟩
  | tro xs => cases e; cases r with
    | tro h1 h2 => exact ⟨_, _, rfl, .inr (NoH.sqT h1), h2⟩
  | _ => obtain ⟨a, vs, e1, e2, e3⟩ := seqL_at f r e; exact ⟨a, vs, e1, .inl e2, e3⟩
section
variable {X : Cx}
theorem on_inS {neg : Bool} {op : CmpOp} (hop : (op = .In ∧ neg = false) ∨ (op = .NotIn ∧ neg = true)) (hu : X.A.units + 65 < cLine) : OpR X (compareOp op) (r2N X.K X.mg fun h x y => (inSeq h x y).map fun b => .bl (if neg then !b else b)) := by
  intro pins s σ H x y v u Q I rx ry ⟨ι, h, w1, w2, w, ft, r1, r2, e, k⟩
  simp only at e
  cases e0 : inSeq h w1 w2 with
  | none => rw [e0] at e; cases e
  | some b =>
    rw [e0] at e; cases e
    unfold inSeq at e0
    cases e1 : seqU h w2 with
    | none => rw [e1] at e0; cases e0
    | some ws =>
      rw [e1] at e0
      simp only [Option.bind_some] at e0
      cases e2 : datW w1 with
      | none => rw [e2] at e0; cases e0
      | some d =>
        cases e3 : datWs ws with
        | none => rw [e2, e3] at e0; cases e0
        | some ds =>
          rw [e2, e3] at e0
          simp only at e0
          split at e0
          · rename_i hh
            cases e0
            obtain ⟨a, vs, rfl, hq, rv⟩ := seqU_at ft r2 e1
            have dx := datW_dp _ _ _ r1 e2
            have dy := datWs_dp _ _ _ rv e3
            obtain ⟨as, rd⟩ := Dp.reads I d x v dx rx
            have q0 := k ι _ H .refl ft (.bl _)
            have room := PyProof.Rows.room_in_shaped hh.1 hu (xs := ds)
            rcases hq with hq | hq
            · obtain ⟨bs, rc⟩ := Dp.reads I (.list ds) _ u (.lst hq dy) ry
              rcases hop with ⟨rfl, rfl⟩ | ⟨rfl, rfl⟩
              · exact SeqAt.in_list_reads rc rd (SeqAt.canLay_of_shaped hh.2) (SeqAt.canLay_of_shaped hh.1) room ⟨.bl _, H, I, rfl, q0⟩
              · exact SeqAt.notIn_list_reads rc rd (SeqAt.canLay_of_shaped hh.2) (SeqAt.canLay_of_shaped hh.1) room ⟨.bl _, H, I, rfl, q0⟩
            · obtain ⟨bs, rc⟩ := Dp.reads I (.tuple ds) _ u (.tup hq dy) ry
              rcases hop with ⟨rfl, rfl⟩ | ⟨rfl, rfl⟩
              · exact SeqAt.in_tuple_reads rc rd (SeqAt.canLay_of_shaped hh.2) (SeqAt.canLay_of_shaped hh.1) room ⟨.bl _, H, I, rfl, q0⟩
              · exact SeqAt.notIn_tuple_reads rc rd (SeqAt.canLay_of_shaped hh.2) (SeqAt.canLay_of_shaped hh.1) room ⟨.bl _, H, I, rfl, q0⟩
          · cases e0
theorem one_sign {a : Str} (h : a.cps.size = 1) : a = ⟨#[a.cps.getD 0 0]⟩ := by
  obtain ⟨⟨l⟩⟩ := a
  have h : l.length = 1 := by simpa using h
  match l, h with
  | [c], _ => rfl
theorem on_inAny {neg : Bool} {op : CmpOp} (hop : (op = .In ∧ neg = false) ∨ (op = .NotIn ∧ neg = true)) (hu : X.A.units + 65 < cLine) : OpR X (compareOp op) (r2N X.K X.mg fun h x y => (inW h x y).map fun b => .bl (if neg then !b else b)) := by
  intro pins s σ H x y v u Q I rx ry ⟨ι, h, w1, w2, w, ft, r1, r2, e, k⟩
  simp only at e
  have dict : ∀ b, ((getD' h w2 w1).map (·.isSome)) = some b → w = .bl (if neg then !b else b) → wpAny (model X.prog X.w) X.A (compareOp op v u) (EP X pins σ Q) X.xe s := by
    intro b eb ew
    subst ew
    cases eg : getD' h w2 w1 with
    | none => rw [eg] at eb; cases eb
    | some o =>
      rw [eg] at eb
      obtain ⟨a, z, rfl, dg, h1, h2⟩ := dget_at ft r2 r1 eg
      cases ry
      have ez : z.isSome = b := by
        cases eb
        cases o with
        | none => rw [h2 rfl]; rfl
        | some w0 => obtain ⟨u0, hu0, _⟩ := h1 w0 rfl; rw [hu0]; rfl
      have q0 := k ι _ H .refl ft (.bl _)
      rcases hop with ⟨rfl, rfl⟩ | ⟨rfl, rfl⟩
      · exact d_in (by omega) I dg rx fun s3 I3 => ⟨.bl z.isSome, H, I3, rfl, by rw [ez]; exact q0⟩
      · exact d_notIn (by omega) I dg rx fun s3 I3 => ⟨.bl (!z.isSome), H, I3, rfl, by rw [ez]; exact q0⟩
  have seqs : inW h w1 w2 = inSeq h w1 w2 → wpAny (model X.prog X.w) X.A (compareOp op v u) (EP X pins σ Q) X.xe s := by
    intro e0
    exact on_inS hop hu pins s σ H x y v u Q I rx ry ⟨ι, h, w1, w2, w, ft, r1, r2, (by show (inSeq h w1 w2).map _ = _; rw [← e0]; exact e), k⟩
  cases w2 with
  | str z =>
    cases w1 with
    | str a =>
      cases r1; cases r2
      by_cases hs : a.cps.size = 1
      · have e0 : inW h (.str a) (.str z) = some (decide (a.cps.getD 0 0 ∈ z.cps.toList)) := if_pos hs
        rw [e0] at e; cases e
        have q0 := k ι _ H .refl ft (.bl _)
        rcases hop with ⟨rfl, rfl⟩ | ⟨rfl, rfl⟩
        · exact op_in_sign pins s σ H _ _ v u Q I rx ry ⟨_, z, by rw [← one_sign hs], rfl, q0⟩
        · exact op_notIn_sign pins s σ H _ _ v u Q I rx ry ⟨_, z, by rw [← one_sign hs], rfl, q0⟩
      · have e0 : inW h (.str a) (.str z) = some (!(Builtin.Str.occurrences z a 0 z.length 1).isEmpty) := if_neg hs
        rw [e0] at e; cases e
        have q0 := k ι _ H .refl ft (.bl _)
        rcases hop with ⟨rfl, rfl⟩ | ⟨rfl, rfl⟩
        · exact op_in_str pins s σ H _ _ v u Q I rx ry ⟨a, z, rfl, rfl, q0⟩
        · exact op_notin_str pins s σ H _ _ v u Q I rx ry ⟨a, z, rfl, rfl, q0⟩
    | _ => cases e
  | dct t kvs =>
    cases eb : (getD' h (.dct t kvs) w1).map (·.isSome) with
    | none => have e0 : inW h w1 (.dct t kvs) = none := eb; rw [e0] at e; cases e
    | some b => have e0 : inW h w1 (.dct t kvs) = some b := eb; rw [e0] at e; cases e; exact dict b eb rfl
  | ref n =>
    cases eo : h[n]? with
    | none => exact seqs (by simp only [inW, eo]; rfl)
    | some o =>
      cases o with
      | dct lk t kvs =>
        cases eb : (getD' h (.ref n) w1).map (·.isSome) with
        | none => have e0 : inW h w1 (.ref n) = none := by simp only [inW, eo]; exact eb
                  rw [e0] at e; cases e
        | some b => have e0 : inW h w1 (.ref n) = some b := by simp only [inW, eo]; exact eb
                    rw [e0] at e; cases e; exact dict b eb rfl
      | _ => exact seqs (by simp only [inW, eo]; rfl)
  | _ => exact seqs rfl
theorem on_in (hu : X.A.units + 65 < cLine) : OpR X (compareOp .In) (r2N X.K X.mg nIn) := on_inAny (neg := false) (.inl ⟨rfl, rfl⟩) hu
theorem on_notIn (hu : X.A.units + 65 < cLine) : OpR X (compareOp .NotIn) (r2N X.K X.mg nNotIn) := on_inAny (neg := true) (.inr ⟨rfl, rfl⟩) hu
def nIx (h : List O) (x y : W) : Option W := match x with
  | .str z => match y with
    | .int i => if z.length ≤ sizeLine then (atI z.cps.toList i).map fun c => .str ⟨#[c]⟩ else none
    | _ => none
  | .dct _ _ => (getD' h x y).bind id
  | .ref n => match h[n]? with
    | some (.dct _ _ _) => (getD' h x y).bind id
    | _ => (seqU h x).bind fun ws => match y with
      | .int i => atI ws i
      | _ => none
  | _ => (seqU h x).bind fun ws => match y with
    | .int i => atI ws i
    | _ => none
theorem atI_at {K : PySem.W.Frag} {mg : Str → Option Value} {ι : Ix} {H : Hp} {ws : List W} {vs : List V} {i : Int} {w : W} (r : RWs K mg ι H ws vs) (e : atI ws i = some w) : ∃ v, atI vs i = some v ∧ RW K mg ι H w v := by
  unfold atI at e ⊢
  rw [r.len]
  cases e1 : ixN ws.length i with
  | none => rw [e1] at e; cases e
  | some j =>
    rw [e1] at e
    exact r.at e
theorem ix_N (hu : X.A.units + 1 < cLine) : IxR X (r2N X.K X.mg nIx) := by
  intro value slice pins s σ H x y v u Q I rx ry hq hs
  obtain ⟨ι, h, w1, w2, w, ft, r1, r2, e, k⟩ := hq
  have dict : (getD' h w1 w2).bind id = some w → wpAny (model X.prog X.w) X.A (PyProof.Rows.subscriptTail value slice v u) (EP X pins σ Q) X.xe s := by
    intro eb
    cases eg : getD' h w1 w2 with
    | none => rw [eg] at eb; cases eb
    | some o =>
      rw [eg] at eb
      have eb : o = some w := eb
      subst eb
      obtain ⟨a, z, rfl, dg, h1, h2⟩ := dget_at ft r1 r2 eg
      cases rx
      obtain ⟨u0, rfl, ru⟩ := h1 w rfl
      exact PyProof.Rows.tail_any (dict_typeIs I dg) PySem.F.slot_dict_getitem.lookup (d_getItem hu I dg ry fun w' s3 I3 rw' => ⟨u0, H, I3, rw', k ι u0 H .refl ft ru⟩) hs
  have seqs : ((seqU h w1).bind fun ws => match w2 with
      | .int i => atI ws i
      | _ => none) = some w → wpAny (model X.prog X.w) X.A (PyProof.Rows.subscriptTail value slice v u) (EP X pins σ Q) X.xe s := by
    intro e0
    cases e1 : seqU h w1 with
    | none => rw [e1] at e0; cases e0
    | some ws =>
      rw [e1] at e0
      simp only [Option.bind_some] at e0
      cases w2 with
      | int i =>
        cases r2
        obtain ⟨a, vs, rfl, hq, rv⟩ := seqU_at ft r1 e1
        obtain ⟨v0, h1, h2⟩ := atI_at rv e0
        rcases hq with hq | hq
        · exact ix_list value slice pins s σ H _ _ v u Q I rx ry ⟨a, vs, i, v0, rfl, rfl, hq, h1, k ι v0 H .refl ft h2⟩ hs
        · exact ix_tup value slice pins s σ H _ _ v u Q I rx ry ⟨a, vs, i, v0, rfl, rfl, hq, h1, k ι v0 H .refl ft h2⟩ hs
      | _ => cases e0
  cases w1 with
  | str z =>
    cases w2 with
    | int i =>
      cases r1; cases r2
      have e : (if z.length ≤ sizeLine then (atI z.cps.toList i).map fun c => W.str ⟨#[c]⟩ else none) = some w := e
      split at e
      · cases e1 : atI z.cps.toList i with
        | none => rw [e1] at e; cases e
        | some c => rw [e1] at e; cases e; exact ix_str value slice pins s σ H _ _ v u Q I rx ry ⟨z, i, c, rfl, rfl, by assumption, e1, k ι _ H .refl ft (.str _)⟩ hs
      · cases e
    | _ => cases e
  | dct t kvs => exact dict e
  | ref n =>
    cases eo : h[n]? with
    | none => exact seqs (by simp only [nIx, eo] at e; exact e)
    | some o =>
      cases o with
      | dct lk t kvs => exact dict (by simp only [nIx, eo] at e; exact e)
      | _ => exact seqs (by simp only [nIx, eo] at e; exact e)
  | _ => exact seqs e
theorem ne_ix {a b : Expr} {ma mb : ME} {E : WX} {pos : Pos} (hu : X.A.units + 1 < cLine) (ha : NE X E a ma) (hb : NE X E b mb) (hs : PlainIx b := by intro _ _; rfl) : NE X E (.Subscript a b pos) (mOp nIx ma mb) :=
  PE.imp (pe_ix (ix_N hu) ha hb hs) fun _ _ _ => tN_op
def cutL {α : Type} (xs : List α) (lo hi : Option Int) : List α := (xs.drop (HT.sIx xs.length 0 lo)).take (HT.sIx xs.length xs.length hi - HT.sIx xs.length 0 lo)
def nSl (h : List O) (x : W) (lo hi : Option Int) : Option W := match x with
  | .str z => if z.length ≤ sizeLine then some (.str (cutS z lo hi)) else none
  | .tup ws => some (.tup (cutL ws lo hi))
  | .tro ws => if HT.sIx ws.length 0 lo = 0 ∧ HT.sIx ws.length ws.length hi = ws.length then some (.tro ws) else some (.tup (cutL ws lo hi))
  | w => (seqL h w).map fun ws => .lst (cutL ws lo hi)
def rSlN (K : PySem.W.Frag) (mg : Str → Option Value) : V → Option Int → Option Int → Hp → VK → Prop := fun x lo hi H Q => ∃ ι h w1 w, Fit K mg ι H h ∧ RW K mg ι H w1 x ∧ nSl h w1 lo hi = some w ∧
  ∀ ι' v H', Grow ι ι' H H' → Fit K mg ι' H' h → RW K mg ι' H' w v → Q v H'
theorem cut_rws {K : PySem.W.Frag} {mg : Str → Option Value} {ι : Ix} {H : Hp} {ws : List W} {vs : List V} (r : RWs K mg ι H ws vs) (lo hi : Option Int) : RWs K mg ι H (cutL ws lo hi) (cutV vs lo hi) := by
  unfold cutL cutV
  rw [r.len]
  exact (r.drop _).take _
theorem cut_whole {α : Type} {xs : List α} {lo hi : Option Int} (h : HT.sIx xs.length 0 lo = 0 ∧ HT.sIx xs.length xs.length hi = xs.length) : cutL xs lo hi = xs := by
  unfold cutL
  rw [h.1, h.2, List.drop_zero, Nat.sub_zero, List.take_length]
theorem sl_N : SlR X (rSlN X.K X.mg) := by
  intro pins s σ H x v vl vu lo hi sl Q I rx hs pl pu hq
  obtain ⟨ι, h, w1, w, ft, r1, e, k⟩ := hq
  have lists : (seqL h w1).map (fun ws => W.lst (cutL ws lo hi)) = some w → ∃ T id, typeLookup (.type T) "__getitem__" = pure (some (.builtin id)) ∧ s.TypeIs v T ∧ wpAny (model X.prog X.w) X.A (getItem v (.ref sl)) (EP X pins σ Q) X.xe s := by
    intro e0
    cases e1 : seqL h w1 with
    | none => rw [e1] at e0; cases e0
    | some ws =>
      rw [e1] at e0; cases e0
      obtain ⟨a, vs, rfl, hq, rv⟩ := seqL_at ft r1 e1
      refine sl_list pins s σ H _ v vl vu lo hi sl Q I rx hs pl pu ⟨a, vs, rfl, hq, fun p hp => ?_⟩
      obtain ⟨g, f, r⟩ := new_lst ft (cut_rws rv lo hi) hp
      exact k ι _ _ g f r
  have tups : ∀ (ws : List W) (a : Addr) (vs : List V), v = .ref a → x = .ref a → SqT X.K H a vs → RWs X.K X.mg ι H ws vs → (HT.sIx ws.length 0 lo = 0 ∧ HT.sIx ws.length ws.length hi = ws.length → Q (.ref a) H) →
      (¬ (HT.sIx ws.length 0 lo = 0 ∧ HT.sIx ws.length ws.length hi = ws.length) → w = .tup (cutL ws lo hi)) → ∃ T id, typeLookup (.type T) "__getitem__" = pure (some (.builtin id)) ∧ s.TypeIs v T ∧ wpAny (model X.prog X.w) X.A (getItem v (.ref sl)) (EP X pins σ Q) X.xe s := by
    intro ws a vs ev ex hq rv hw hn
    subst ex
    have el := rv.len
    refine sl_tupA pins s σ H _ v vl vu lo hi sl Q I rx hs pl pu ⟨a, vs, rfl, hq, fun z => hw (by rw [← el]; exact z), fun z p hp => ?_⟩
    obtain ⟨g, f, r⟩ := new_tup ft (cut_rws rv lo hi) hp
    have := hn (by rw [← el]; exact z)
    subst this
    exact k ι _ _ g f r
  cases w1 with
  | str z =>
    cases r1
    have e : (if z.length ≤ sizeLine then some (W.str (cutS z lo hi)) else none) = some w := e
    split at e
    · cases e; exact sl_str pins s σ H _ v vl vu lo hi sl Q I rx hs pl pu ⟨z, rfl, by assumption, k ι _ H .refl ft (.str _)⟩
    · cases e
  | tup ws =>
    cases e
    cases r1 with
    | @tup _ a vs h0 h1 h2 =>
      exact tups ws a vs rx rfl (SqT.of h1) h2 (fun z => by rw [cut_whole z] at k; exact k ι _ H .refl ft (.tup h0 h1 h2)) fun _ => rfl
  | tro ws =>
    cases r1 with
    | @tro _ a vs h1 h2 =>
      have e : (if HT.sIx ws.length 0 lo = 0 ∧ HT.sIx ws.length ws.length hi = ws.length then some (W.tro ws) else some (.tup (cutL ws lo hi))) = some w := e
      refine tups ws a vs rx rfl (NoH.sqT h1) h2 (fun z => ?_) (fun z => ?_)
      · rw [if_pos z] at e; cases e; exact k ι _ H .refl ft (.tro h1 h2)
      · rw [if_neg z] at e; cases e; rfl
  | _ => exact lists e
/-- a part of a slice -/
abbrev MO := Slo → List O → ER (Option Int)
def mNoP : MO := fun _ h => .ok none h
def mPart (m : ME) : MO := fun σ h => (m σ h).bind fun w h1 => match w with
  | .int i => .ok (some i) h1
  | _ => .stuck
def tNO (K : PySem.W.Frag) (mg : Str → Option Value) (z : Option (Addr × Addr)) (E : WX) (m : MO) : TO := fun σ H Q => ∃ ι σn h, Fit K mg ι H h ∧ Sl K mg ι H z σn σ ∧ Aft K mg ι H (m σn h) (fun _ _ a b => a = b) Q (fun c d H' => E c d σ H')
abbrev NO (X : Cx) (E : WX) (e : Option Expr) (m : MO) : Prop := PO X e (tNO X.K X.mg (zX X) E m)
theorem PO.imp {X : Cx} {e : Option Expr} {t t' : TO} (h : PO X e t) (k : ∀ σ H Q, t' σ H Q → t σ H Q) : PO X e t' := ⟨fun pins s σ H Q I q => h.run pins s σ H Q I (k _ _ _ q)⟩
variable {E : WX} {pos : Pos}
theorem no_none : NO X E none mNoP := PO.imp po_none fun σ H Q ⟨ι, σn, h, f, s, q⟩ => q ι none H .refl f rfl
theorem no_some {e : Expr} {m : ME} (he : NE X E e m) : NO X E (some e) (mPart m) := PO.imp (po_some he) fun σ H Q ⟨ι, σn, h, f, s, q⟩ => ⟨ι, σn, h, f, s, Aft.bind q fun ι1 w1 h1 v1 H1 g1 f1 r1 q1 => by
  cases w1 with
  | int i => cases r1; exact ⟨i, rfl, q1 ι1 _ H1 .refl f1 rfl⟩
  | _ => exact q1.elim⟩
def mSl (m : ME) (lo hi : MO) : ME := fun σ h => (m σ h).bind fun x h1 => (lo σ h1).bind fun l h2 => (hi σ h2).bind fun r h3 => ofO h3 (nSl h3 x l r)
theorem ne_sl {e : Expr} {lo hi : Option Expr} {m : ME} {ml mh : MO} {p2 : Pos} (he : NE X E e m) (hl : NO X E lo ml) (hh : NO X E hi mh) : NE X E (.Subscript e (.Slice lo hi none p2) pos) (mSl m ml mh) :=
  PE.imp (pe_slice sl_N he hl hh) fun σ H Q ⟨ι, σn, h, ft, s, q⟩ => ⟨ι, σn, h, ft, s, Aft.bind q fun ι1 w1 h1 v1 H1 g1 f1 r1 q1 => ⟨ι1, σn, h1, f1, s.mono g1, Aft.bind q1 fun ι2 w2 h2 v2 H2 g2 f2 r2 q2 =>
    ⟨ι2, σn, h2, f2, (s.mono g1.g0).mono g2.g0, Aft.bind q2 fun ι3 w3 h3 v3 H3 g3 f3 r3 q3 => by
      subst r2 r3
      cases e : nSl h3 w1 w2 w3 with
      | none => rw [e] at q3; exact q3.elim
      | some w => rw [e] at q3; exact ⟨ι3, h3, w1, w, f3, RW.mono (g2.trans g3).g0 _ _ r1, e, q3⟩⟩⟩⟩
end
end N
set_option maxHeartbeats 1000000
namespace N
open PySem L2
abbrev NF := List O → List W → Option (W × List O)
def rcN (K : PySem.W.Frag) (mg : Str → Option Value) (f : NF) : List V → Hp → VK → Prop := fun xs H Q => ∃ ι h ws w h', Fit K mg ι H h ∧ RWs K mg ι H ws xs ∧ f h ws = some (w, h') ∧
  ∀ ι' v H', Grow ι ι' H H' → Fit K mg ι' H' h' → RW K mg ι' H' w v → Q v H'
def mCB (f : NF) (ma : MA) : ME := fun σ h => (ma σ h).bind fun ws h1 => ofH (f h1 ws)
theorem tCB_N {f : NF} {ma : MA} {σ : St} {H : Hp} {Q : VK} {K : PySem.W.Frag} {mg : Str → Option Value} {z : Option (Addr × Addr)} {E : WX} (q : tN K mg z E (mCB f ma) σ H Q) : tCB (rcN K mg f) (tNA K mg z E ma) σ H Q := by
  obtain ⟨ι, σn, h, ft, s, q⟩ := q
  refine ⟨ι, σn, h, ft, s, Aft.bind q fun ι1 w1 h1 v1 H1 g1 f1 r1 q1 => ?_⟩
  cases e : f h1 w1 with
  | none => rw [e] at q1; exact q1.elim
  | some p => obtain ⟨w, h'⟩ := p; rw [e] at q1; exact ⟨ι1, h1, w1, w, h', f1, r1, e, q1⟩
/-- pure ones -/
def pureF (f : List O → List W → Option W) : NF := fun h ws => (f h ws).map fun w => (w, h)
theorem rcN_pure {K : PySem.W.Frag} {mg : Str → Option Value} {f : List O → List W → Option W} {xs : List V} {H : Hp} {Q : VK} (q : rcN K mg (pureF f) xs H Q) :
    ∃ ι h ws w, Fit K mg ι H h ∧ RWs K mg ι H ws xs ∧ f h ws = some w ∧ ∀ ι' v H', Grow ι ι' H H' → Fit K mg ι' H' h → RW K mg ι' H' w v → Q v H' := by
  obtain ⟨ι, h, ws, w, h', a1, a2, a3, a4⟩ := q
  unfold pureF at a3
  cases e : f h ws with
  | none => rw [e] at a3; cases a3
  | some w' => rw [e] at a3; cases a3; exact ⟨ι, h, ws, w, a1, a2, e, a4⟩
section
variable {X : Cx} {E : WX} {pos p : Pos} {e : Expr} {es : List Expr}
theorem ne_callB {id : String} {x : Str} {f : NF} {ma : MA} (hc : CallR X (.builtin id) (rcN X.K X.mg f)) (hg : Gl X x) (hm : X.mg x = none) (hv : bootBuiltins x = some (.builtin id)) (ha : NA X E (e :: es) ma) (hn : x ≠ "__name__" := by decide) (hdb : (x == ("__debug__" : Str)) = false := by decide)
    (he : starEach (e :: es) X.env = (false, eval e X.env) :: starEach es X.env := by rfl) (hpl : (backTo pos (starEach es X.env)).any (·.1) = false := by rfl) : NE X E (.Call (.Name x p) (e :: es) [] pos) (mCB f ma) :=
  PE.imp (pe_callB hc hg hm hv ha hn hdb he hpl) fun _ _ _ => tCB_N
theorem ne_callTy {T : String} {x : Str} {f : NF} {ma : MA} (hc : CallR X (.type T) (rcN X.K X.mg f)) (hg : Gl X x) (hm : X.mg x = none) (hv : bootBuiltins x = some (.type T)) (ha : NA X E (e :: es) ma) (hn : x ≠ "__name__" := by decide) (hdb : (x == ("__debug__" : Str)) = false := by decide)
    (he : starEach (e :: es) X.env = (false, eval e X.env) :: starEach es X.env := by rfl) (hpl : (backTo pos (starEach es X.env)).any (·.1) = false := by rfl) : NE X E (.Call (.Name x p) (e :: es) [] pos) (mCB f ma) :=
  PE.imp (pe_callTy hc hg hm hv ha hn hdb he hpl) fun _ _ _ => tCB_N
def nLen (h : List O) (ws : List W) : Option W := match ws with
  | [.str z] => if z.length ≤ sizeLine then some (.int z.length) else none
  | [w] => match seqU h w with
    | some xs => some (.int xs.length)
    | none => none
  | _ => none
theorem cn_len : CallR X (.builtin "len") (rcN X.K X.mg (pureF nLen)) := by
  intro pins s σ H xs us Q I r hq
  obtain ⟨ι, h, ws, w, ft, rw', e, k⟩ := rcN_pure hq
  have seqs : ∀ w0, ws = [w0] → (match seqU h w0 with
      | some xs => some (W.int xs.length)
      | none => none) = some w → wpAny (model X.prog X.w) X.A (call (.builtin "len") us) (EP X pins σ Q) X.xe s := by
    intro w0 e1 e2
    subst e1
    cases rw' with
    | cons r1 r2 =>
      cases r2
      cases e3 : seqU h w0 with
      | none => rw [e3] at e2; cases e2
      | some xs =>
        rw [e3] at e2
        cases e2
        obtain ⟨a, vs, rfl, hs, rv⟩ := seqU_at ft r1 e3
        exact call_len_seq pins s σ H _ us Q I r ⟨a, vs, rfl, hs, by rw [rv.len]; exact k ι _ H .refl ft (.int _)⟩
  match ws, e with
  | [.str z], e =>
    have e : (if z.length ≤ sizeLine then some (W.int z.length) else none) = some w := e
    split at e
    · cases e
      cases rw' with
      | cons r1 r2 => cases r2; cases r1; exact call_len_str pins s σ H _ us Q I r ⟨z, rfl, by assumption, k ι _ H .refl ft (.int _)⟩
    · cases e
  | [.non], e => exact seqs _ rfl e
  | [.bl _], e => exact seqs _ rfl e
  | [.int _], e => exact seqs _ rfl e
  | [.ty _], e => exact seqs _ rfl e
  | [.tup _], e => exact seqs _ rfl e
  | [.tro _], e => exact seqs _ rfl e
  | [.lst _], e => exact seqs _ rfl e
  | [.lro _], e => exact seqs _ rfl e
  | [.dct _ _], e => exact seqs _ rfl e
  | [.ref _], e => exact seqs _ rfl e
  | [.fn _], e => exact seqs _ rfl e
  | [.exo _ _], e => exact seqs _ rfl e
  | [], e => cases e
  | _ :: _ :: _, e => simp [nLen] at e
def nAbs (h : List O) (ws : List W) : Option W := match ws with
  | [.int i] => some (.int (if i < 0 then -i else i))
  | _ => none
theorem cn_abs : CallR X (.builtin "abs") (rcN X.K X.mg (pureF nAbs)) := by
  intro pins s σ H xs us Q I r hq
  obtain ⟨ι, h, ws, w, ft, rw', e, k⟩ := rcN_pure hq
  match ws, rw', e with
  | [.int i], .cons (.int _) .nil, e => cases e; exact call_abs pins s σ H _ us Q I r ⟨i, rfl, k ι _ H .refl ft (.int _)⟩
/-- ints of a list -/
def intsW : List W → Option (List Int)
  | [] => some []
  | .int i :: ws => (intsW ws).map (i :: ·)
  | _ => none
theorem intsW_at {K : PySem.W.Frag} {mg : Str → Option Value} {ι : Ix} {H : Hp} : ∀ {ws : List W} {vs : List V} {ns : List Int}, RWs K mg ι H ws vs → intsW ws = some ns → vs = ns.map V.int
  | [], _, _, r, e => by cases r; cases e; rfl
  | w :: ws, _, ns, r, e => by
    cases w with
    | int i =>
      cases r with
      | cons r1 r2 =>
        cases r1
        cases e1 : intsW ws with
        | none => simp [intsW, e1] at e
        | some ms => simp only [intsW, e1, Option.map_some, Option.some.injEq] at e; subst e; rw [List.map_cons, intsW_at r2 e1]
    | _ => simp [intsW] at e
def maxL : List Int → Int
  | [] => 0
  | [a] => a
  | a :: l => if maxL l > a then maxL l else a
def minL : List Int → Int
  | [] => 0
  | [a] => a
  | a :: l => if minL l < a then minL l else a
theorem maxL_mem : ∀ {l : List Int}, l ≠ [] → maxL l ∈ l ∧ ∀ y ∈ l, y ≤ maxL l
  | [], h => absurd rfl h
  | [a], _ => ⟨List.mem_singleton.mpr rfl, fun y hy => by rw [List.mem_singleton] at hy; subst hy; exact Int.le_refl _⟩
  | a :: b :: l, _ => by
    obtain ⟨h1, h2⟩ := maxL_mem (l := b :: l) (by simp)
    show (if maxL (b :: l) > a then maxL (b :: l) else a) ∈ _ ∧ ∀ y ∈ _, y ≤ (if maxL (b :: l) > a then maxL (b :: l) else a)
    split
    · refine ⟨List.mem_cons_of_mem _ h1, fun y hy => ?_⟩
      rcases List.mem_cons.mp hy with rfl | hy
      · omega
      · exact h2 y hy
    · refine ⟨List.mem_cons_self .., fun y hy => ?_⟩
      rcases List.mem_cons.mp hy with rfl | hy
      · exact Int.le_refl _
      · have := h2 y hy; omega
theorem minL_mem : ∀ {l : List Int}, l ≠ [] → minL l ∈ l ∧ ∀ y ∈ l, minL l ≤ y
  | [], h => absurd rfl h
  | [a], _ => ⟨List.mem_singleton.mpr rfl, fun y hy => by rw [List.mem_singleton] at hy; subst hy; exact Int.le_refl _⟩
  | a :: b :: l, _ => by
    obtain ⟨h1, h2⟩ := minL_mem (l := b :: l) (by simp)
    show (if minL (b :: l) < a then minL (b :: l) else a) ∈ _ ∧ ∀ y ∈ _, (if minL (b :: l) < a then minL (b :: l) else a) ≤ y
    split
    · refine ⟨List.mem_cons_of_mem _ h1, fun y hy => ?_⟩
      rcases List.mem_cons.mp hy with rfl | hy
      · omega
      · exact h2 y hy
    · refine ⟨List.mem_cons_self .., fun y hy => ?_⟩
      rcases List.mem_cons.mp hy with rfl | hy
      · exact Int.le_refl _
      · have := h2 y hy; omega
def nMax (h : List O) (ws : List W) : Option W := match ws with
  | [.int i, .int j] => some (.int (if j > i then j else i))
  | [w] => match seqL h w with
    | some xs => match intsW xs with
      | some (n :: ns) => some (.int (maxL (n :: ns)))
      | _ => none
    | none => none
  | _ => none
def nMin (h : List O) (ws : List W) : Option W := match ws with
  | [.int i, .int j] => some (.int (if j < i then j else i))
  | [w] => match seqL h w with
    | some xs => match intsW xs with
      | some (n :: ns) => some (.int (minL (n :: ns)))
      | _ => none
    | none => none
  | _ => none
theorem cn_max (hc : X.calm = true) : CallR X (.builtin "max") (rcN X.K X.mg (pureF nMax)) := by
  intro pins s σ H xs us Q I r hq
  obtain ⟨ι, h, ws, w, ft, rw', e, k⟩ := rcN_pure hq
  match ws, rw', e with
  | [], _, e => cases e
  | [w1], .cons r1 .nil, e =>
    have e : (match seqL h w1 with
      | some xs => match intsW xs with
        | some (n :: ns) => some (W.int (maxL (n :: ns)))
        | _ => none
      | none => none) = some w := by cases w1 <;> exact e
    cases e1 : seqL h w1 with
    | none => rw [e1] at e; cases e
    | some xs =>
      rw [e1] at e
      simp only at e
      cases e2 : intsW xs with
      | none => rw [e2] at e; cases e
      | some ns =>
        rw [e2] at e
        cases ns with
        | nil => cases e
        | cons n ns =>
          cases e
          obtain ⟨a, vs, rfl, hs, rv⟩ := seqL_at ft r1 e1
          obtain rfl := intsW_at rv e2
          refine cr_max hc pins s σ H _ us Q I r ⟨a, n :: ns, rfl, hs, by simp, fun m hm hmax => ?_⟩
          obtain ⟨h1, h2⟩ := maxL_mem (l := n :: ns) (by simp)
          have : m = maxL (n :: ns) := Int.le_antisymm (h2 m hm) (hmax _ h1)
          rw [this]
          exact k ι _ H .refl ft (.int _)
  | [w1, w2], .cons r1 (.cons r2 .nil), e =>
    cases w1 <;> cases w2 <;> first
      | (cases r1; cases r2; cases e; exact call_max2 hc pins s σ H _ us Q I r ⟨_, _, rfl, k ι _ H .refl ft (.int _)⟩)
      | cases e
  | w1 :: w2 :: w3 :: ws, _, e => cases w1 <;> cases w2 <;> cases e
theorem cn_min (hc : X.calm = true) : CallR X (.builtin "min") (rcN X.K X.mg (pureF nMin)) := by
  intro pins s σ H xs us Q I r hq
  obtain ⟨ι, h, ws, w, ft, rw', e, k⟩ := rcN_pure hq
  match ws, rw', e with
  | [], _, e => cases e
  | [w1], .cons r1 .nil, e =>
    have e : (match seqL h w1 with
      | some xs => match intsW xs with
        | some (n :: ns) => some (W.int (minL (n :: ns)))
        | _ => none
      | none => none) = some w := by cases w1 <;> exact e
    cases e1 : seqL h w1 with
    | none => rw [e1] at e; cases e
    | some xs =>
      rw [e1] at e
      simp only at e
      cases e2 : intsW xs with
      | none => rw [e2] at e; cases e
      | some ns =>
        rw [e2] at e
        cases ns with
        | nil => cases e
        | cons n ns =>
          cases e
          obtain ⟨a, vs, rfl, hs, rv⟩ := seqL_at ft r1 e1
          obtain rfl := intsW_at rv e2
          refine cr_min hc pins s σ H _ us Q I r ⟨a, n :: ns, rfl, hs, by simp, fun m hm hmax => ?_⟩
          obtain ⟨h1, h2⟩ := minL_mem (l := n :: ns) (by simp)
          have : m = minL (n :: ns) := Int.le_antisymm (hmax _ h1) (h2 m hm)
          rw [this]
          exact k ι _ H .refl ft (.int _)
  | [w1, w2], .cons r1 (.cons r2 .nil), e =>
    cases w1 <;> cases w2 <;> first
      | (cases r1; cases r2; cases e; exact call_min2 hc pins s σ H _ us Q I r ⟨_, _, rfl, k ι _ H .refl ft (.int _)⟩)
      | cases e
  | w1 :: w2 :: w3 :: ws, _, e => cases w1 <;> cases w2 <;> cases e
def nSum (h : List O) (ws : List W) : Option W := match ws with
  | [w] => ((seqL h w).bind intsW).map fun ns => .int ns.sum
  | _ => none
theorem cn_sum (hc : X.calm = true) : CallR X (.builtin "sum") (rcN X.K X.mg (pureF nSum)) := by
  intro pins s σ H xs us Q I r hq
  obtain ⟨ι, h, ws, w, ft, rw', e, k⟩ := rcN_pure hq
  match ws, rw', e with
  | [], _, e => cases e
  | [w1], .cons r1 .nil, e =>
    have e : ((seqL h w1).bind intsW).map (fun ns => W.int ns.sum) = some w := e
    cases e1 : seqL h w1 with
    | none => rw [e1] at e; cases e
    | some xs =>
      rw [e1] at e
      simp only [Option.bind_some] at e
      cases e2 : intsW xs with
      | none => rw [e2] at e; cases e
      | some ns =>
        rw [e2] at e
        cases e
        obtain ⟨a, vs, rfl, hs, rv⟩ := seqL_at ft r1 e1
        obtain rfl := intsW_at rv e2
        exact cr_sum hc pins s σ H _ us Q I r ⟨a, ns, rfl, hs, k ι _ H .refl ft (.int _)⟩
  | w1 :: w2 :: ws, _, e => cases e
/-- int(x): an int, a truth value, a text of a number -/
def nInt (h : List O) (ws : List W) : Option W := match ws with
  | [.int i] => some (.int i)
  | [.bl b] => some (.int (if b then 1 else 0))
  | [.str a] => if a.length ≤ 640 then (PySem.intText? a).map .int else none
  | _ => none
theorem cn_int : CallR X (.type "int") (rcN X.K X.mg (pureF nInt)) := by
  intro pins s σ H xs us Q I r hq
  obtain ⟨ι, h, ws, w, ft, rw', e, k⟩ := rcN_pure hq
  match ws, rw', e with
  | [.int i], .cons (.int _) .nil, e => cases e; exact call_int1 pins s σ H _ us Q I r (.inl ⟨i, rfl, k ι _ H .refl ft (.int _)⟩)
  | [.bl i], .cons (.bl _) .nil, e => cases e; exact call_int1 pins s σ H _ us Q I r (.inr ⟨i, rfl, k ι _ H .refl ft (.int _)⟩)
  | [.str a], .cons (.str _) .nil, e =>
    have e : (if a.length ≤ 640 then (PySem.intText? a).map W.int else none) = some w := e
    split at e
    · cases e1 : PySem.intText? a with
      | none => rw [e1] at e; cases e
      | some n => rw [e1] at e; cases e; exact call_int_str pins s σ H _ us Q I r ⟨a, n, rfl, e1, by assumption, k ι _ H .refl ft (.int _)⟩
    · cases e
def nStr (h : List O) (ws : List W) : Option W := match ws with
  | [.int i] => if i.natAbs.log2 < 1920 then some (.str (toString i)) else none
  | [.str a] => some (.str a)
  | _ => none
theorem cn_str : CallR X (.type "str") (rcN X.K X.mg (pureF nStr)) := by
  intro pins s σ H xs us Q I r hq
  obtain ⟨ι, h, ws, w, ft, rw', e, k⟩ := rcN_pure hq
  match ws, rw', e with
  | [.int i], .cons (.int _) .nil, e =>
    have e : (if i.natAbs.log2 < 1920 then some (W.str (toString i)) else none) = some w := e
    split at e
    · cases e; exact call_str_int pins s σ H _ us Q I r ⟨i, rfl, by assumption, k ι _ H .refl ft (.str _)⟩
    · cases e
  | [.str a], .cons (.str _) .nil, e => cases e; exact SkE.call_str_str pins s σ H _ us Q I r ⟨a, rfl, k ι _ H .refl ft (.str _)⟩
def nRepr (h : List O) (ws : List W) : Option W := match ws with
  | [.int i] => if i.natAbs.log2 < 1920 then some (.str (toString i)) else none
  | [.bl b] => some (.str (if b then "True" else "False"))
  | _ => none
/-- truth values of a list -/
def blsW : List W → Option (List Bool)
  | [] => some []
  | .bl i :: ws => (blsW ws).map (i :: ·)
  | _ => none
theorem blsW_at {K : PySem.W.Frag} {mg : Str → Option Value} {ι : Ix} {H : Hp} : ∀ {ws : List W} {vs : List V} {ns : List Bool}, RWs K mg ι H ws vs → blsW ws = some ns → vs = ns.map V.bl
  | [], _, _, r, e => by cases r; cases e; rfl
  | w :: ws, _, ns, r, e => by
    cases w with
    | bl i =>
      cases r with
      | cons r1 r2 =>
        cases r1
        cases e1 : blsW ws with
        | none => simp [blsW, e1] at e
        | some ms => simp only [blsW, e1, Option.map_some, Option.some.injEq] at e; subst e; rw [List.map_cons, blsW_at r2 e1]
    | _ => simp [blsW] at e
def nAll (h : List O) (ws : List W) : Option W := match ws with
  | [w] => ((seqL h w).bind blsW).map fun bs => .bl (bs.all id)
  | _ => none
theorem cn_all (hc : X.calm = true) : CallR X (.builtin "all") (rcN X.K X.mg (pureF nAll)) := by
  intro pins s σ H xs us Q I r hq
  obtain ⟨ι, h, ws, w, ft, rw', e, k⟩ := rcN_pure hq
  match ws, rw', e with
  | [], _, e => cases e
  | [w1], .cons r1 .nil, e =>
    have e : ((seqL h w1).bind blsW).map (fun bs => W.bl (bs.all id)) = some w := e
    cases e1 : seqL h w1 with
    | none => rw [e1] at e; cases e
    | some xs =>
      rw [e1] at e
      simp only [Option.bind_some] at e
      cases e2 : blsW xs with
      | none => rw [e2] at e; cases e
      | some bs =>
        rw [e2] at e
        cases e
        obtain ⟨a, vs, rfl, hs, rv⟩ := seqL_at ft r1 e1
        obtain rfl := blsW_at rv e2
        exact cr_all hc pins s σ H _ us Q I r ⟨a, bs, rfl, hs, k ι _ H .refl ft (.bl _)⟩
  | w1 :: w2 :: ws, _, e => cases e
def tyW (h : List O) : W → Option String
  | .non => some "NoneType"
  | .bl _ => some "bool"
  | .int _ => some "int"
  | .str _ => some "str"
  | .tup _ => some "tuple"
  | .tro _ => some "tuple"
  | .lst _ => some "list"
  | .dct false _ => some "dict"
  | .ref n => match h[n]? with
    | some (.lst _) => some "list"
    | some (.dct false _ _) => some "dict"
    | _ => none
  | _ => none
/-- the same, dicts with tuple keys too -/
def tyI (h : List O) : W → Option String
  | .dct _ _ => some "dict"
  | w => tyW h w
def nIsi (h : List O) (ws : List W) : Option W := match ws with
  | [w, .ty T] => ((tyI h w).bind fun n => kitB n T).map .bl
  | _ => none
theorem tyW_at {K : PySem.W.Frag} {mg : Str → Option Value} {ι : Ix} {H : Hp} {h : List O} {w : W} {v : V} {n : String} (f : Fit K mg ι H h) (r : RW K mg ι H w v) (e : tyW h w = some n) : TyX K H v (.type n) := by
  cases r with
  | non => cases e; exact .base .non
  | bl b => cases e; exact .base (.bl b)
  | int b => cases e; exact .base (.int b)
  | str b => cases e; exact .base (.str b)
  | tup h0 h1 h2 => cases e; exact .base (.tup h1)
  | tro h1 h2 =>
    cases e
    rcases h1 with (h1 | ⟨_, h1⟩) | ⟨o, its, n, h1, h3, _⟩
    · cases h1
    · cases h1
    · exact .kTuple h1 h3
  | lst h0 h1 h2 => cases e; exact .base (.lst h1)
  | dctK h0 h1 h2 =>
    cases e
    rcases h1 with h1 | ⟨ob, h1⟩
    · exact .base (.dK h1)
    · exact .fDict h1
  | @ref m a h1 =>
    cases eo : h[m]? with
    | none => simp [tyW, eo] at e
    | some o =>
      cases o with
      | lst xs =>
        simp only [tyW, eo, Option.some.injEq] at e
        subst e
        cases f.obj _ _ _ eo h1 with
        | lst a1 a2 => exact .base (.lst a1)
      | dct lk t kvs =>
        cases lk with
        | true => simp [tyW, eo] at e
        | false =>
          simp only [tyW, eo, Option.some.injEq] at e
          subst e
          cases f.obj _ _ _ eo h1 with
          | dctK a1 a2 => exact .base (.dK a1)
          | dctT a1 a2 => exact .base (.dT a1)
      | _ => simp [tyW, eo] at e
  | _ => cases e
theorem tyI_at {K : PySem.W.Frag} {mg : Str → Option Value} {ι : Ix} {H : Hp} {h : List O} {w : W} {v : V} {n : String} (f : Fit K mg ι H h) (r : RW K mg ι H w v) (e : tyI h w = some n) : TyX K H v (.type n) ∨ (n = "dict" ∧ ∃ a ob qs, v = .ref a ∧ H a = some (.frz ob (.dT qs))) := by
  cases w with
  | dct t kvs =>
    cases t with
    | false => exact .inl (tyW_at f r e)
    | true =>
      cases r with
      | @dctT kvs a qs h0 h1 h2 =>
        cases e
        rcases h1 with h1 | ⟨ob, h1⟩
        · exact .inl (.base (.dT h1))
        · exact .inr ⟨rfl, a, ob, qs, rfl, h1⟩
  | _ => exact .inl (tyW_at f r e)
theorem cn_isi : CallR X (.builtin "isinstance") (rcN X.K X.mg (pureF nIsi)) := by
  intro pins s σ H xs us Q I r hq
  obtain ⟨ι, h, ws, w, ft, rw', e, k⟩ := rcN_pure hq
  match ws, rw', e with
  | [], _, e => cases e
  | [_], _, e => cases e
  | _ :: w2 :: _ :: _, _, e => cases w2 <;> cases e
  | [w1, w2], .cons (v := v1) r1 (.cons (v := v2) r2 .nil), e =>
    cases w2 with
    | ty T =>
      cases r2
      have e : ((tyI h w1).bind fun n => kitB n T).map W.bl = some w := e
      cases e1 : tyI h w1 with
      | none => rw [e1] at e; cases e
      | some n =>
        rw [e1] at e
        simp only [Option.bind_some] at e
        cases e2 : kitB n T with
        | none => rw [e2] at e; cases e
        | some b =>
          rw [e2] at e; cases e
          rcases tyI_at ft r1 e1 with ty | ⟨rfl, a, ob, qs, rfl, ea⟩
          · exact call_isi pins s σ H _ us Q I r ⟨v1, _, _, _, b, rfl, .ty T, ty, kit_ty e2, k ι _ H .refl ft (.bl _)⟩
          · obtain ⟨u1, u2, rfl, r1, r2⟩ := vals2 r
            cases (show u1 = Value.ref a from r1)
            cases (show u2 = Value.type T from r2)
            obtain ⟨_, _, _, vs, _, o, es, ep, h1, h2, _⟩ := (show ObjOk X.prog X.w H s.heap a (.frz ob (.dT qs)) from I.hok a _ ea)
            exact PySem.W.kia_one PySem.W.kitx_dict I.kIn ⟨o, h1, h2.1⟩ (kit_ty e2) (fun z => nomatch z) fun tk => ⟨.bl b, H, I.tok tk, rfl, k ι _ H .refl ft (.bl _)⟩
    | _ => cases e
end
end N
set_option maxHeartbeats 1000000
namespace N
open PySem L2
mutual
def beqW : W → W → Bool
  | .non, .non => true
  | .bl a, .bl b => decide (a = b)
  | .int a, .int b => decide (a = b)
  | .str a, .str b => decide (a = b)
  | .ty a, .ty b => decide (a = b)
  | .tup a, .tup b => beqWs a b
  | .tro a, .tro b => beqWs a b
  | .lst a, .lst b => beqWs a b
  | .lro a, .lro b => beqWs a b
  | .dct t a, .dct u b => decide (t = u) && beqWk a b
  | .ref a, .ref b => decide (a = b)
  | .fn a, .fn b => decide (a = b)
  | .exo a x, .exo b y => decide (a = b) && beqWs x y
  | _, _ => false
def beqWs : List W → List W → Bool
  | [], [] => true
  | a :: as, b :: bs => beqW a b && beqWs as bs
  | _, _ => false
def beqWk : List (W × W) → List (W × W) → Bool
  | [], [] => true
  | (a, x) :: as, (b, y) :: bs => (beqW a b && beqW x y) && beqWk as bs
  | _, _ => false
end
mutual
theorem beqW_eq : ∀ (a b : W), beqW a b = true → a = b
  | .non, b, h => by cases b <;> first | rfl | simp [beqW] at h
  | .bl a, b, h => by cases b <;> simp_all [beqW]
  | .int a, b, h => by cases b <;> simp_all [beqW]
  | .str a, b, h => by cases b <;> simp_all [beqW]
  | .ty a, b, h => by cases b <;> simp_all [beqW]
  | .ref a, b, h => by cases b <;> simp_all [beqW]
  | .fn a, b, h => by cases b <;> simp_all [beqW]
  | .tup a, b, h => by
    cases b with
    | tup b => rw [beqWs_eq a b (by simpa [beqW] using h)]
    | _ => simp [beqW] at h
  | .tro a, b, h => by
    cases b with
    | tro b => rw [beqWs_eq a b (by simpa [beqW] using h)]
    | _ => simp [beqW] at h
  | .lst a, b, h => by
    cases b with
    | lst b => rw [beqWs_eq a b (by simpa [beqW] using h)]
    | _ => simp [beqW] at h
  | .lro a, b, h => by
    cases b with
    | lro b => rw [beqWs_eq a b (by simpa [beqW] using h)]
    | _ => simp [beqW] at h
  | .dct t a, b, h => by
    cases b with
    | dct u b =>
      have h' : t = u ∧ beqWk a b = true := by simpa [beqW] using h
      rw [beqWk_eq a b h'.2, h'.1]
    | _ => simp [beqW] at h
  | .exo t a, b, h => by
    cases b with
    | exo u b =>
      have h' : t = u ∧ beqWs a b = true := by simpa [beqW] using h
      rw [beqWs_eq a b h'.2, h'.1]
    | _ => simp [beqW] at h
theorem beqWs_eq : ∀ (a b : List W), beqWs a b = true → a = b
  | [], b, h => by cases b <;> first | rfl | simp [beqWs] at h
  | a :: as, b, h => by
    cases b with
    | nil => simp [beqWs] at h
    | cons b bs =>
      have h' : beqW a b = true ∧ beqWs as bs = true := by simpa [beqWs] using h
      rw [beqW_eq a b h'.1, beqWs_eq as bs h'.2]
theorem beqWk_eq : ∀ (a b : List (W × W)), beqWk a b = true → a = b
  | [], b, h => by cases b <;> first | rfl | simp [beqWk] at h
  | (a, x) :: as, b, h => by
    cases b with
    | nil => simp [beqWk] at h
    | cons b bs =>
      obtain ⟨b, y⟩ := b
      have h' : (beqW a b = true ∧ beqW x y = true) ∧ beqWk as bs = true := by simpa [beqWk] using h
      rw [beqW_eq a b h'.1.1, beqW_eq x y h'.1.2, beqWk_eq as bs h'.2]
end
mutual
theorem beqW_refl : ∀ a : W, beqW a a = true
  | .non => rfl
  | .bl a => by simp [beqW]
  | .int a => by simp [beqW]
  | .str a => by simp [beqW]
  | .ty a => by simp [beqW]
  | .ref a => by simp [beqW]
  | .fn a => by simp [beqW]
  | .tup a => by simp [beqW, beqWs_refl a]
  | .tro a => by simp [beqW, beqWs_refl a]
  | .lst a => by simp [beqW, beqWs_refl a]
  | .lro a => by simp [beqW, beqWs_refl a]
  | .dct t a => by simp [beqW, beqWk_refl a]
  | .exo t a => by simp [beqW, beqWs_refl a]
theorem beqWs_refl : ∀ a : List W, beqWs a a = true
  | [] => rfl
  | a :: as => by simp [beqWs, beqW_refl a, beqWs_refl as]
theorem beqWk_refl : ∀ a : List (W × W), beqWk a a = true
  | [] => rfl
  | (a, x) :: as => by simp [beqWk, beqW_refl a, beqW_refl x, beqWk_refl as]
end
/-- the list n holds ws -/
def chkL (n : Nat) (ws : List W) (h : List O) : Bool := match h[n]? with
  | some (.lst xs) => beqWs xs ws
  | _ => false
@[simp] theorem chkL_some {n : Nat} {ws : List W} {h : List O} (e : h[n]? = some (.lst ws)) : chkL n ws h = true := by
  unfold chkL; rw [e]; exact beqWs_refl ws
def signsW (z : Str) : List W := z.cps.toList.map fun c => .str ⟨#[c]⟩
def itW (h : List O) : W → Option (List W × (List O → Bool))
  | .str z => some (signsW z, fun _ => true)
  | .tup ws => some (ws, fun _ => true)
  | .tro ws => some (ws, fun _ => true)
  | .lst ws => some (ws, fun _ => true)
  | .lro ws => some (ws, fun _ => true)
  | .ref n => match h[n]? with
    | some (.lst ws) => some (ws, chkL n ws)
    | _ => none
  | _ => none
def mIt (m : ME) : MI := fun σ h => (m σ h).bind fun w h1 => ofO h1 (itW h1 w)
section
variable {K : PySem.W.Frag} {mg : Str → Option Value} {ι : Ix} {H : Hp} {h : List O}
theorem itN_lst {a : Addr} {vs : List V} {ws : List W} {chk : List O → Bool} (hq : ∀ ι2 H2 h2, Gro0 ι ι2 H H2 → Fit K mg ι2 H2 h2 → chk h2 = true → ∃ vs, SqL K H2 a vs ∧ RWs K mg ι2 H2 ws vs) : ItN K mg ι H (ws, chk) (Itl K a) := by
  refine ⟨ws.length, fun H2 => ∃ vs, SqL K H2 a vs ∧ vs.length = ws.length, fun i H2 x H3 => H3 = H2 ∧ ∀ vs, SqL K H2 a vs → vs[i]? = some x, ⟨fun i H2 hi ⟨vs, h1, h2⟩ => ⟨vs, vs[i]'(by omega), h1, by simp [h2, hi]⟩, fun H2 ⟨vs, h1, h2⟩ => ⟨vs, h1, by omega⟩, fun i H2 x H3 hi _ y => y⟩, rfl, fun ι2 H2 h2 g f c => ?_, fun i ι2 H2 h2 x H3 hi g f c y => ?_⟩
  · obtain ⟨vs, h1, h2⟩ := hq ι2 H2 h2 g f c
    exact ⟨vs, h1, h2.len⟩
  · obtain ⟨vs, h1, r⟩ := hq ι2 H2 h2 g f c
    obtain ⟨rfl, hx⟩ := y
    obtain ⟨w, e, rw'⟩ := r.get (hx vs h1)
    exact ⟨w, e, rw', .refl, f⟩
theorem itN_tup {a : Addr} {vs : List V} {ws : List W} {chk : List O → Bool} (hq : ∀ ι2 H2 h2, Gro0 ι ι2 H H2 → Fit K mg ι2 H2 h2 → ∃ vs, SqT K H2 a vs ∧ RWs K mg ι2 H2 ws vs) : ItN K mg ι H (ws, chk) (Itt K a) := by
  refine ⟨ws.length, fun H2 => ∃ vs, SqT K H2 a vs ∧ vs.length = ws.length, fun i H2 x H3 => H3 = H2 ∧ ∀ vs, SqT K H2 a vs → vs[i]? = some x, ⟨fun i H2 hi ⟨vs, h1, h2⟩ => ⟨vs, vs[i]'(by omega), h1, by simp [h2, hi]⟩, fun H2 ⟨vs, h1, h2⟩ => ⟨vs, h1, by omega⟩, fun i H2 x H3 hi _ y => y⟩, rfl, fun ι2 H2 h2 g f c => ?_, fun i ι2 H2 h2 x H3 hi g f c y => ?_⟩
  · obtain ⟨vs, h1, h2⟩ := hq ι2 H2 h2 g f
    exact ⟨vs, h1, h2.len⟩
  · obtain ⟨vs, h1, r⟩ := hq ι2 H2 h2 g f
    obtain ⟨rfl, hx⟩ := y
    obtain ⟨w, e, rw'⟩ := r.get (hx vs h1)
    exact ⟨w, e, rw', .refl, f⟩
theorem itN_str {z : Str} : ItN K mg ι H (signsW z, fun _ => true) (Its z) := by
  refine ⟨z.cps.size, _, _, walk_str, by simp [signsW], fun _ _ _ _ _ _ => trivial, fun i ι2 H2 h2 x H3 hi g f c y => ?_⟩
  obtain ⟨rfl, c, hc, rfl⟩ := y
  refine ⟨.str ⟨#[c]⟩, ?_, .str _, .refl, f⟩
  have : z.cps.toList[i]? = some c := by simpa using hc
  simp [signsW, this]
end
section
variable {X : Cx} {E : WX} {tg : Expr}
def rngW (lo : Int) (n : Nat) : List W := (List.range n).map fun (i : Nat) => .int (lo + (i : Int))
def rng1 : List W → Option (List W × (List O → Bool))
  | [.int j] => if -(2 ^ 62) ≤ j ∧ j < 2 ^ 62 then some (rngW 0 j.toNat, fun _ => true) else none
  | _ => none
def rng2 : List W → Option (List W × (List O → Bool))
  | [.int i, .int j] => if -(2 ^ 62) ≤ i ∧ i < 2 ^ 62 ∧ -(2 ^ 62) ≤ j ∧ j < 2 ^ 62 then some (rngW i (j - i).toNat, fun _ => true) else none
  | _ => none
theorem rng1_some {ws : List W} {a : List W × (List O → Bool)} (e : rng1 ws = some a) : ∃ j, ws = [.int j] ∧ (-(2 ^ 62) ≤ j ∧ j < 2 ^ 62) ∧ a = (rngW 0 j.toNat, fun _ => true) := by
  unfold rng1 at e
  split at e
  · split at e
    · cases e; exact ⟨_, rfl, by assumption, rfl⟩
    · cases e
  · cases e
theorem rng2_some {ws : List W} {a : List W × (List O → Bool)} (e : rng2 ws = some a) : ∃ i j, ws = [.int i, .int j] ∧ (-(2 ^ 62) ≤ i ∧ i < 2 ^ 62 ∧ -(2 ^ 62) ≤ j ∧ j < 2 ^ 62) ∧ a = (rngW i (j - i).toNat, fun _ => true) := by
  unfold rng2 at e
  split at e
  · split at e
    · cases e; exact ⟨_, _, rfl, by assumption, rfl⟩
    · cases e
  · cases e
def mRng (f : List W → Option (List W × (List O → Bool))) (ma : MA) : MI := fun σ h => (ma σ h).bind fun ws h1 => ofO h1 (f ws)
theorem itN_rng {K : PySem.W.Frag} {mg : Str → Option Value} {ι : Ix} {H : Hp} {lo : Int} {n : Nat} : ItN K mg ι H (rngW lo n, fun _ => true) (Itr lo n) := by
  refine ⟨n, _, _, walk_range, by simp [rngW], fun _ _ _ _ _ _ => trivial, fun i ι2 H2 h2 x H3 hi g f c y => ?_⟩
  obtain ⟨rfl, rfl⟩ := y
  exact ⟨.int (lo + (i : Int)), by simp [rngW, hi], .int _, .refl, f⟩
theorem ni_range1 {a : Expr} {ma : MA} {p pos : Pos} (hg : Gl X "range") (hm : X.mg "range" = none) (ha : NA X E [a] ma) (hs : starEach [a] X.env = [(false, eval a X.env)] := by rfl) : NI X E tg (.Call (.Name "range" p) [a] [] pos) (mRng rng1 ma) :=
  PI.imp (pi_range1 hg hm ha hs) fun σ H R ⟨ι, σn, h, ft, s, q⟩ => ⟨ι, σn, h, ft, s, Aft.bind q fun ι1 ws h1 vs H1 g1 f1 r1 q1 => by
    cases e : rng1 ws with
    | none => rw [e] at q1; exact q1.elim
    | some a =>
      rw [e] at q1
      obtain ⟨j, rfl, hj, rfl⟩ := rng1_some e
      cases r1 with
      | cons r1 r2 => cases r2; cases r1; exact ⟨j, rfl, hj.1, hj.2, q1 ι1 _ H1 .refl f1 itN_rng⟩⟩
theorem ni_range2 {a b : Expr} {ma : MA} {p pos : Pos} (hg : Gl X "range") (hm : X.mg "range" = none) (ha : NA X E [a, b] ma) (hs : starEach [a, b] X.env = [(false, eval a X.env), (false, eval b X.env)] := by rfl) (hs2 : starEach [b] X.env = [(false, eval b X.env)] := by rfl) :
    NI X E tg (.Call (.Name "range" p) [a, b] [] pos) (mRng rng2 ma) :=
  PI.imp (pi_range2 hg hm ha hs hs2) fun σ H R ⟨ι, σn, h, ft, s, q⟩ => ⟨ι, σn, h, ft, s, Aft.bind q fun ι1 ws h1 vs H1 g1 f1 r1 q1 => by
    cases e : rng2 ws with
    | none => rw [e] at q1; exact q1.elim
    | some a =>
      rw [e] at q1
      obtain ⟨i, j, rfl, hj, rfl⟩ := rng2_some e
      cases r1 with
      | cons r1 r2 =>
        cases r2 with
        | cons r2 r3 => cases r3; cases r1; cases r2; exact ⟨i, j, rfl, hj, q1 ι1 _ H1 .refl f1 itN_rng⟩⟩
end
end N
set_option maxHeartbeats 1000000
namespace N
open PySem L2
def setW (h : List O) (o i v : W) : Option (List O) := match o with
  | .ref n => match h[n]? with
    | some (.lst ws) => match i with
      | .int k => (ixN ws.length k).map fun j => h.set n (.lst (ws.set j v))
      | _ => none
    | _ => putD h o i v
  | _ => none
def rSetN (K : PySem.W.Frag) (mg : Str → Option Value) : TSet := fun o i v H Q => ∃ ι h w1 w2 w3 h', Fit K mg ι H h ∧ RW K mg ι H w1 o ∧ RW K mg ι H w2 i ∧ RW K mg ι H w3 v ∧ setW h w1 w2 w3 = some h' ∧
  ∀ ι' H', Grow ι ι' H H' → Fit K mg ι' H' h' → Q H'
def mStore (mo mi mv : ME) : MS := fun σ h => (mv σ h).sbind σ fun v h1 => (mo σ h1).sbind σ fun o h2 => (mi σ h2).sbind σ fun i h3 => match setW h3 o i v with
  | some h4 => .nx σ h4
  | none => .stuck
section
variable {X : Cx} {E : WX} {pos : Pos}
theorem set_N (hu : X.A.units + 1 < cLine) : PSet X (rSetN X.K X.mg) := by
  intro pins s σ H o i v ov iv u Q I ro ri rv hq
  obtain ⟨ι, h, w1, w2, w3, h', ft, r1, r2, r3, e, k⟩ := hq
  cases w1 with
  | ref n =>
    cases eo : h[n]? with
    | none =>
      simp only [setW, eo] at e
      obtain ⟨a, H', rfl, dp, g, f⟩ := dput_at ft r1 r2 r3 e
      exact set_dict hu pins s σ H _ i v ov iv u Q I ro ri rv ⟨a, H', rfl, dp, k ι H' g f⟩
    | some ob =>
      cases ob with
      | lst ws =>
        simp only [setW, eo] at e
        cases w2 with
        | int j =>
          simp only at e
          cases e1 : ixN ws.length j with
          | none => rw [e1] at e; cases e
          | some m =>
            rw [e1] at e; cases e
            cases r1 with
            | @ref _ a hn =>
              cases r2
              cases ft.obj _ _ _ eo hn with
              | @lst _ _ vs a1 a2 =>
                have g := ft.growP hn (nf a1) (.lst (vs.set m v))
                exact set_list pins s σ H _ _ v ov iv u Q I ro ri rv ⟨a, vs, j, m, rfl, rfl, a1, by rw [a2.len]; exact e1, k ι _ g (ft.put hn (nf a1) (.lst upd_same ((RWs.mono g.g0 _ _ a2).set m (RW.mono g.g0 _ _ r3))))⟩
        | _ => cases e
      | _ =>
        simp only [setW, eo] at e
        obtain ⟨a, H', rfl, dp, g, f⟩ := dput_at ft r1 r2 r3 e
        exact set_dict hu pins s σ H _ i v ov iv u Q I ro ri rv ⟨a, H', rfl, dp, k ι H' g f⟩
  | _ => cases e
theorem ns_store {o i e : Expr} {mo mi mv : ME} {tpos : Pos} (hu : X.A.units + 1 < cLine) (ho : NE X E o mo) (hi : NE X E i mi) (he : NE X E e mv) (hs : swapsWithSole [.Subscript o i tpos] e pos.line X.env = pure false := by rfl) (hw : swappedStores [.Subscript o i tpos] e X.env = pure none := by rfl)
    (h1 : (assignEach [.Subscript o i tpos] X.env).map (·.2) = [assign (.Subscript o i tpos) X.env] := by rfl)
    (ha : ∀ v, assign (.Subscript o i tpos) X.env v = (do
      let ov ← holding [v] (eval o X.env)
      let iv ← holding [v, ov] (eval i X.env)
      standAt tpos
      holding [v, ov, iv] (setItem ov iv v)
      release [v, ov, iv] []) := by intro _; rfl) : NS X E (.Assign [.Subscript o i tpos] e pos) (mStore mo mi mv) :=
  PS.imp (ps_asg he (pg_sub ho hi (set_N hu) ha) hs hw h1) fun D σ H ⟨ι, σn, h, ft, s, q⟩ => ⟨ι, σn, h, ft, s, Aft.sbind s q fun ι1 w1 h1 v1 H1 g1 f1 r1 q1 =>
    ⟨ι1, σn, h1, f1, s.mono g1, Aft.sbind (s.mono g1.g0) q1 fun ι2 w2 h2 v2 H2 g2 f2 r2 q2 => ⟨ι2, σn, h2, f2, (s.mono g1.g0).mono g2.g0, Aft.sbind ((s.mono g1.g0).mono g2.g0) q2 fun ι3 w3 h3 v3 H3 g3 f3 r3 q3 => by
      cases e : setW h3 w2 w3 w1 with
      | none => rw [e] at q3; exact q3.elim
      | some h4 =>
        rw [e] at q3
        exact ⟨ι3, h3, w2, w3, w1, h4, f3, RW.mono g3.g0 _ _ r2, r3, RW.mono (g2.trans g3).g0 _ _ r1, e, fun ι4 H4 g4 f4 => q3 ι4 σ H4 g4 f4 ((((s.mono g1.g0).mono g2.g0).mono g3.g0).mono g4.g0)⟩⟩⟩⟩
def mAug (i : Nat) (f : List O → W → W → Option W) (m : ME) : MS := fun σ h => match σ[i]? with
  | some (some x) => (m σ h).sbind σ fun y h1 => match f h1 x y with
    | some w => .nx (σ.set i (some w)) h1
    | none => .stuck
  | _ => .stuck
def iAdd (h : List O) (x y : W) : Option W := match x, y with
  | .int i, .int j => some (.int (i + j))
  | .str i, .str j => guardO (decide (i.length + j.length ≤ sizeLine)) (.str (i ++ j))
  | _, _ => none
def iSub (h : List O) (x y : W) : Option W := match x, y with
  | .int i, .int j => some (.int (i - j))
  | _, _ => none
theorem ip_subN : PIp X .Sub (r2N X.K X.mg iSub) := by
  intro pins s σ H x y v u Q I rx ry ⟨ι, h, w1, w2, w, ft, r1, r2, e, k⟩
  cases w1 with
  | int i =>
    cases r1
    cases w2 with
    | int j => cases r2; cases e; exact ip_sub pins s σ H _ _ v u Q I rx ry ⟨i, j, rfl, rfl, k ι _ H .refl ft (.int _)⟩
    | _ => cases e
  | _ => cases w2 <;> cases e
theorem ns_aug {i : Nat} {x : Str} {e : Expr} {m : ME} {op : Operator} {f : List O → W → W → Option W} {pos' : Pos} (hN : X.N.Nodup) (hi : X.N[i]? = some x) (hx : Loc X.env.scope x) (he : NE X E e m) (ho : PIp X op (r2N X.K X.mg f)) (hf : X.fn x = true ∨ X.env.scope.names.lookup x = some .local := by first | exact .inl rfl | exact .inr rfl | assumption) :
    NS X E (.AugAssign (.Name x pos') op e pos) (mAug i f m) :=
  PS.imp (ps_aug hN hi hx he ho hf) fun D σ H ⟨ι, σn, h, ft, s, q⟩ => by
    unfold mAug at q
    split at q
    · rename_i w0 ew
      obtain ⟨v0, hv, rv⟩ := s.at' i w0 ew
      refine ⟨v0, hv, ι, σn, h, ft, s, Aft.sbind s q fun ι1 w1 h1 v1 H1 g1 f1 r1 q1 => ?_⟩
      cases e : f h1 w0 w1 with
      | none => rw [e] at q1; exact q1.elim
      | some w =>
        rw [e] at q1
        exact ⟨ι1, h1, w0, w1, w, f1, RW.mono g1.g0 _ _ rv, r1, e, fun ι2 v2 H2 g2 f2 r2 => q1 ι2 _ H2 g2 f2 (((s.mono g1.g0).mono g2.g0).set r2 i)⟩
    · exact q.elim
abbrev NM := List O → W → List W → Option (W × List O)
def rmN (K : PySem.W.Frag) (mg : Str → Option Value) (f : NM) : V → List V → Hp → VK → Prop := fun x xs H Q => ∃ ι h w1 ws w h', Fit K mg ι H h ∧ RW K mg ι H w1 x ∧ RWs K mg ι H ws xs ∧ f h w1 ws = some (w, h') ∧
  ∀ ι' v H', Grow ι ι' H H' → Fit K mg ι' H' h' → RW K mg ι' H' w v → Q v H'
def isT (T : String) (h : List O) (w : W) : Bool := match w with
  | .str _ => T == "str"
  | .lst _ => T == "list"
  | .lro _ => T == "list"
  | .ref n => match h[n]? with
    | some (.lst _) => T == "list"
    | some (.dct false _ _) => T == "dict"
    | _ => false
  | _ => false
theorem isT_at {K : PySem.W.Frag} {mg : Str → Option Value} {ι : Ix} {H : Hp} {h : List O} {w : W} {v : V} {T : String} (f : Fit K mg ι H h) (r : RW K mg ι H w v) (e : isT T h w = true) : tyV K T v H := by
  cases r with
  | str s => exact eq_of_beq e
  | lst h0 h1 h2 => exact .inl ⟨eq_of_beq e, _, SqL.of h1⟩
  | lro h1 h2 => exact .inl ⟨eq_of_beq e, _, h1.sq⟩
  | @ref n a h1 =>
    cases eo : h[n]? with
    | none => simp [isT, eo] at e
    | some o =>
      cases o with
      | lst xs =>
        simp only [isT, eo] at e
        cases f.obj _ _ _ eo h1 with
        | lst a1 a2 => exact .inl ⟨eq_of_beq e, _, SqL.of a1⟩
      | dct lk t kvs =>
        cases lk with
        | true => simp [isT, eo] at e
        | false =>
          simp only [isT, eo] at e
          cases f.obj _ _ _ eo h1 with
          | dctK a1 a2 => exact .inr (.inr (.inl ⟨eq_of_beq e, .inl ⟨_, a1⟩⟩))
          | dctT a1 a2 => exact .inr (.inr (.inl ⟨eq_of_beq e, .inr ⟨_, a1⟩⟩))
      | _ => simp [isT, eo] at e
  | _ => cases e
def mBM (T : String) (f : NM) (mo : ME) (ma : MA) : ME := fun σ h => (mo σ h).bind fun x h1 => if isT T h1 x = true then (ma σ h1).bind fun ws h2 => ofH (f h2 x ws) else .stuck
theorem tBM_N {T : String} {f : NM} {mo : ME} {ma : MA} {σ : St} {H : Hp} {Q : VK} {K : PySem.W.Frag} {mg : Str → Option Value} {z : Option (Addr × Addr)} (q : tN K mg z E (mBM T f mo ma) σ H Q) : tBM K T (rmN K mg f) (tN K mg z E mo) (tNA K mg z E ma) σ H Q := by
  obtain ⟨ι, σn, h, ft, s, q⟩ := q
  refine ⟨ι, σn, h, ft, s, Aft.bind q fun ι1 w1 h1 v1 H1 g1 f1 r1 q1 => ?_⟩
  by_cases hT : isT T h1 w1 = true
  · rw [if_pos hT] at q1
    refine ⟨isT_at f1 r1 hT, ι1, σn, h1, f1, s.mono g1, Aft.bind q1 fun ι2 w2 h2 v2 H2 g2 f2 r2 q2 => ?_⟩
    cases e : f h2 w1 w2 with
    | none => rw [e] at q2; exact q2.elim
    | some p => obtain ⟨w, h'⟩ := p; rw [e] at q2; exact ⟨ι2, h2, w1, w2, w, h', f2, RW.mono g2.g0 _ _ r1, r2, e, q2⟩
  · rw [if_neg hT] at q1; exact q1.elim
variable {o e : Expr} {es : List Expr} {name : Str} {apos cpos : Pos} {T id : String}
theorem ne_bm {f : NM} {mo : ME} {ma : MA} (pa : PlainAttrs T) (slot : Slot T name id) (hty : typeOf (.builtin id) = pure (.type "method_descriptor")) (hm : MtR X id (rmN X.K X.mg f)) (ho : NE X E o mo) (ha : NA X E (e :: es) ma)
    (hbase : attributeBase o name X.env (eval o X.env) = eval o X.env := by rfl)
    (hfew : ((backTo cpos (starEach (e :: es) X.env)).all (fun x => !x.1) && (backToKw cpos (keywordEach [] X.env)).all (fun x => x.1.isSome)
      && decide ((e :: es).length + ([] : List Keyword).length + (if ([] : List Keyword).isEmpty then 0 else 1) < 30)) = true := by rfl)
    (hline : (apos.endLine == cpos.line) = true := by rfl) (hs : starEach (e :: es) X.env = (false, eval e X.env) :: starEach es X.env := by rfl) (hplain : (backTo cpos (starEach es X.env)).any (·.1) = false := by rfl) :
    NE X E (.Call (.Attribute o name apos) (e :: es) [] cpos) (mBM T f mo ma) := PE.imp (pe_bm pa slot hty hm ho ha hbase hfew hline hs hplain) fun _ _ _ => tBM_N
def nAppend : NM := fun h x ws => match x, ws with
  | .ref n, [y] => match h[n]? with
    | some (.lst xs) => if xs.length < sizeLine then some (.non, h.set n (.lst (xs ++ [y]))) else none
    | _ => none
  | _, _ => none
def nExtend : NM := fun h x ws => match x, ws with
  | .ref n, [y] => match h[n]?, lstX h y with
    | some (.lst xs), some ys => if xs.length + ys.length ≤ sizeLine then some (.non, h.set n (.lst (xs ++ ys))) else none
    | _, _ => none
  | _, _ => none
def strsW : List W → Option (List Str)
  | [] => some []
  | .str i :: ws => (strsW ws).map (i :: ·)
  | _ => none
theorem strsW_at {K : PySem.W.Frag} {mg : Str → Option Value} {ι : Ix} {H : Hp} : ∀ {ws : List W} {vs : List V} {ns : List Str}, RWs K mg ι H ws vs → strsW ws = some ns → vs = ns.map V.str
  | [], _, _, r, e => by cases r; cases e; rfl
  | w :: ws, _, ns, r, e => by
    cases w with
    | str i =>
      cases r with
      | cons r1 r2 =>
        cases r1
        cases e1 : strsW ws with
        | none => simp [strsW, e1] at e
        | some ms => simp only [strsW, e1, Option.map_some, Option.some.injEq] at e; subst e; rw [List.map_cons, strsW_at r2 e1]
    | _ => simp [strsW] at e
def pureM (f : List O → W → List W → Option W) : NM := fun h x ws => (f h x ws).map fun w => (w, h)
theorem rmN_pure {K : PySem.W.Frag} {mg : Str → Option Value} {f : List O → W → List W → Option W} {x : V} {xs : List V} {H : Hp} {Q : VK} (q : rmN K mg (pureM f) x xs H Q) :
    ∃ ι h w1 ws w, Fit K mg ι H h ∧ RW K mg ι H w1 x ∧ RWs K mg ι H ws xs ∧ f h w1 ws = some w ∧ ∀ ι' v H', Grow ι ι' H H' → Fit K mg ι' H' h → RW K mg ι' H' w v → Q v H' := by
  obtain ⟨ι, h, w1, ws, w, h', a1, a2, a3, a4, a5⟩ := q
  unfold pureM at a4
  cases e : f h w1 ws with
  | none => rw [e] at a4; cases a4
  | some w' => rw [e] at a4; cases a4; exact ⟨ι, h, w1, ws, w, a1, a2, a3, e, a5⟩
def nJoin (h : List O) (x : W) (ws : List W) : Option W := match x, ws with
  | .str a, [y] => match (seqU h y).bind strsW with
    | some ys => if (ys.map (·.length)).sum + ys.length * a.length ≤ 16777216 then some (.str (Txt.join a ys)) else none
    | none => none
  | _, _ => none
theorem mn_join : MtR X "str.join" (rmN X.K X.mg (pureM nJoin)) := by
  intro pins s σ H x xs v us Q I rx rs hq
  obtain ⟨ι, h, w1, ws, w, ft, r1, rw', e, k⟩ := rmN_pure hq
  unfold nJoin at e
  split at e
  · rename_i a y
    cases e1 : seqU h y with
    | none => rw [e1] at e; cases e
    | some zs =>
      rw [e1] at e
      simp only [Option.bind_some] at e
      cases e2 : strsW zs with
      | none => rw [e2] at e; cases e
      | some ys =>
        rw [e2] at e
        simp only at e
        split at e
        · rename_i hl
          cases e
          cases r1
          cases rw' with
          | cons r2 r3 =>
            cases r3
            obtain ⟨p, vs, rfl, hs, rv⟩ := seqU_at ft r2 e1
            obtain rfl := strsW_at rv e2
            exact mt_join pins s σ H _ _ v us Q I rx rs ⟨a, p, ys, rfl, rfl, hs, hl, k ι _ H .refl ft (.str _)⟩
        · cases e
  · cases e
end
end N
set_option maxHeartbeats 1000000
namespace N
open PySem L2
def mStar (m : ME) (n : MA) : MA := fun σ h => (m σ h).bind fun w h1 => match seqU h1 w with
  | some ws => (n σ h1).bind fun us h2 => .ok (ws ++ us) h2
  | none => .stuck
section
variable {X : Cx} {E : WX} {pos : Pos}
theorem na_star {e : Expr} {es : List Expr} {p : Pos} {m : ME} {n : MA} (he : NE X E e m) (hr : NA X E es n) (hs : starEach (.Starred e p :: es) X.env = (true, eval e X.env) :: starEach es X.env := by rfl) : NA X E (.Starred e p :: es) (mStar m n) :=
  PA.imp (StX.pa_star he hr hs) fun σ H Q ⟨ι, σn, h, f, s, q⟩ => ⟨ι, σn, h, f, s, Aft.bind q fun ι1 w1 h1 v1 H1 g1 f1 r1 q1 => by
    cases e : seqU h1 w1 with
    | none => rw [e] at q1; exact q1.elim
    | some ws =>
      rw [e] at q1
      obtain ⟨a, vs, e1, e2, e3⟩ := seqU_at f1 r1 e
      refine ⟨a, vs, e1, e2.symm, ι1, σn, h1, f1, s.mono g1, Aft.bind q1 fun ι2 us h2 vs2 H2 g2 f2 r2 q2 => q2 ι2 (vs ++ vs2) H2 .refl f2 ?_⟩
      exact RWs.app (RWs.mono g2.g0 _ _ e3) r2⟩
end
def mPairs : List (ME × ME) → Slo → List O → ER (List (W × W))
  | [], _, h => .ok [] h
  | p :: r, σ, h => (p.1 σ h).bind fun a h1 => (p.2 σ h1).bind fun b h2 => (mPairs r σ h2).bind fun l h3 => .ok ((a, b) :: l) h3
def dispW : List (W × W) → List (W × W) → Option (List (W × W))
  | acc, [] => some acc
  | acc, p :: r => (keyK p.1).bind fun k => dispW (putQ acc (.inl k) p.1 p.2) r
def mDisp (l : List (ME × ME)) : ME := fun σ h => (mPairs l σ h).nb fun kvs h1 => match dispW [] kvs with
  | some q => if kvs.length ≤ 15 then .ok (.dct false q) h1 else .stuck
  | none => .stuck
inductive RWp (K : PySem.W.Frag) (mg : Str → Option Value) (ι : Ix) (H : Hp) : List (W × W) → List (V × V) → Prop
  | nil : RWp K mg ι H [] []
  | cons {a b : W} {x y : V} {l : List (W × W)} {vs : List (V × V)} : RW K mg ι H a x → RW K mg ι H b y → RWp K mg ι H l vs → RWp K mg ι H ((a, b) :: l) ((x, y) :: vs)
theorem pairs_aft {K : PySem.W.Frag} {mg : Str → Option Value} {z : Option (Addr × Addr)} {E : WX} : ∀ {l : List (ME × ME)} {ι : Ix} {H : Hp} {h : List O} {σn : Slo} {σ : St} {Q : List (V × V) → Hp → Prop}, Fit K mg ι H h → Sl K mg ι H z σn σ →
    Aft K mg ι H (mPairs l σn h) (RWp K mg) Q (fun c d H' => E c d σ H') → tPairs (l.map fun p => (tN K mg z E p.1, tN K mg z E p.2)) σ H Q
  | [], ι, H, h, σn, σ, Q, f, s, q => q ι [] H .refl f .nil
  | p :: r, ι, H, h, σn, σ, Q, f, s, q => by
    refine ⟨ι, σn, h, f, s, Aft.bind q fun ι1 w1 h1 v1 H1 g1 f1 r1 q1 => ?_⟩
    refine ⟨ι1, σn, h1, f1, s.mono g1, Aft.bind q1 fun ι2 w2 h2 v2 H2 g2 f2 r2 q2 => ?_⟩
    refine pairs_aft (E := E) f2 ((s.mono g1.g0).mono g2.g0) ?_
    refine Aft.bind q2 fun ι3 w3 h3 v3 H3 g3 f3 r3 q3 => q3 ι3 _ H3 .refl f3 ?_
    exact .cons (RW.mono (g2.g0.trans g3.g0) _ _ r1) (RW.mono g3.g0 _ _ r2) r3
theorem dispW_at {K : PySem.W.Frag} {mg : Str → Option Value} {ι : Ix} {H : Hp} : ∀ {l : List (W × W)} {vs : List (V × V)} {acc q : List (W × W)} {qs : List (Key × V)}, RWp K mg ι H l vs → dispW acc l = some q → RWk K mg ι H acc qs →
    ∃ kvs : List (Key × V), vs = kvs.map (fun kv => (kV kv.1, kv.2)) ∧ kvs.length = l.length ∧ RWk K mg ι H q (mergeK qs kvs)
  | [], _, acc, q, qs, .nil, e, r => by cases e; exact ⟨[], rfl, rfl, r⟩
  | _, _, acc, q, qs, .cons (a := a) (b := b) (x := x) (y := y) (l := l) ra rb rr, e, r => by
    unfold dispW at e
    cases ek : keyK a with
    | none => simp only [ek, Option.bind_none] at e; cases e
    | some k =>
      simp only [ek, Option.bind_some] at e
      obtain ⟨kvs, e1, e2, e3⟩ := dispW_at rr e (putK_at r ek rb)
      refine ⟨(k, y) :: kvs, ?_, by simp [e2], e3⟩
      rw [e1, kW_V ek ra]; rfl
section
variable {X : Cx} {E : WX} {pos : Pos}
abbrev NPs (X : Cx) (pos : Pos) (ks : List (Option Expr)) (vs : List Expr) (l : List (ME × ME)) : Prop := PPs X pos ks vs (l.map fun p => (tN X.K X.mg (zX X) E00 p.1, tN X.K X.mg (zX X) E00 p.2))
theorem nps_nil : NPs X pos [] [] [] := pps_nil
theorem nps_cons {k v : Expr} {ks : List (Option Expr)} {vs : List Expr} {mk mv : ME} {l : List (ME × ME)} (hk : NE X E00 k mk) (hv : NE X E00 v mv) (hr : NPs X pos ks vs l) : NPs X pos (some k :: ks) (v :: vs) ((mk, mv) :: l) := pps_cons hk hv hr
theorem ne_disp {ks : List (Option Expr)} {vs : List Expr} {l : List (ME × ME)} (h : NPs X pos ks vs l) (hall : ks.all (·.isSome) = true := by rfl) (hl : ks.length = vs.length := by rfl) (h0 : ks ≠ [] := by intro z; cases z) (h15 : ks.length ≤ 15 := by decide) : NE X E (.Dict ks vs pos) (mDisp l) :=
  PE.imp (pe_disp h hall hl h0 h15) fun σ H Q ⟨ι, σn, h, f, s, q⟩ D hD => by
    obtain ⟨fD, gD⟩ := f.hide hD (.dK [])
    refine pairs_aft (E := E00) fD (s.mono gD) ?_
    have q : Aft X.K X.mg ι H ((mPairs l σn h).nb fun kvs h1 => match dispW [] kvs with
      | some q => if kvs.length ≤ 15 then .ok (.dct false q) h1 else .stuck
      | none => .stuck) (RW X.K X.mg) Q (fun c d H' => E c d σ H') := q
    have end1 : ∀ {ι2 : Ix} {H2 : Hp} {h2 : List O}, Grow (ι.hide D) ι2 (upd H D (.dK [])) H2 → Fit X.K X.mg ι2 H2 h2 → ∀ o, (∀ vs, o ≠ .tup vs) → Grow ι ⟨ι2.num, ι.hid, ι2.exs⟩ H (upd H2 D o) ∧ Fit X.K X.mg ⟨ι2.num, ι.hid, ι2.exs⟩ (upd H2 D o) h2 ∧ Gro0 ι2 ⟨ι2.num, ι.hid, ι2.exs⟩ H2 (upd H2 D o) ∧ (⟨ι2.num, ι.hid, ι2.exs⟩ : Ix).out D ∧ H2 D = some (.dK []) := fun {ι2 H2 h2} g2 f2 o ho => by
      have eh : ι2 = Ix.hide ⟨ι2.num, ι.hid, ι2.exs⟩ D := by
        obtain ⟨n2, hi2, e2⟩ := ι2
        have : hi2 = D :: ι.hid := g2.hid
        rw [this]; rfl
      have hk : H2 D = some (.dK []) := by rw [g2.hkeep D (List.mem_cons_self ..)]; exact upd_same
      have f2' := f2
      rw [eh] at f2'
      obtain ⟨f3, g3⟩ := f2'.putH (nf hk) o ho
      obtain ⟨f4, g4⟩ := Fit.show' f3
      have g23 : Gro0 ι2 ⟨ι2.num, ι.hid, ι2.exs⟩ H2 (upd H2 D o) := by
        have := g3.trans g4
        rw [← eh] at this
        exact this
      have nD : D ∉ ι.hid := fun z => by
        obtain ⟨⟨u, e, _⟩, _⟩ := f.hd D z
        rw [hD] at e; cases e
      refine ⟨⟨(gD.trans g2.g0).trans g23, rfl, fun a ha => ?_⟩, f4, g23, ⟨fun z => ?_, nD⟩, hk⟩
      · have ne : a ≠ D := fun z => nD (z ▸ ha)
        rw [upd_ne ne, g2.hkeep a (List.mem_cons_of_mem _ ha), upd_ne ne]
      · have := (f2.hd D (by rw [g2.hid]; exact List.mem_cons_self ..)).2
        exact this z
    cases em : mPairs l σn h with
    | stuck => rw [em] at q; exact q.elim
    | exc x h1 => rw [em] at q; exact q.elim
    | ok kvs h1 =>
      rw [em] at q
      simp only [nb_ok] at q
      intro ι2 vs2 H2 g2 f2 r2
      cases ed : dispW [] kvs with
      | none => rw [ed] at q; exact q.elim
      | some dq =>
        rw [ed] at q
        by_cases h15 : kvs.length ≤ 15
        · simp only [if_pos h15] at q
          obtain ⟨qs, e1, e2, e3⟩ := dispW_at r2 ed .nil
          obtain ⟨t1, t2, t3, t4, t5⟩ := end1 g2 f2 (.dK (mergeK [] qs)) (by intro vs z; cases z)
          refine ⟨t5, qs, e1, by omega, q _ (.ref D) _ t1 t2 (.dctK t4 (.inl upd_same) (RWk.mono t3 _ _ e3))⟩
        · simp only [if_neg h15] at q
          exact q.elim
end
end N
set_option maxHeartbeats 1000000
namespace N
open PySem L2 StX
def mDefV (np n : Nat) (b : MS) : MF := fun ws h => if np ≤ ws.length ∧ (ws.drop np).length ≤ sizeLine then mDef n b (ws.take np ++ [.tup (ws.drop np)]) h else .stuck
def spR (K : PySem.W.Frag) (mg : Str → Option Value) (m : MF) : Sp := fun vs H Q E => ∃ ι ws h, Fit K mg ι H h ∧ ι.exs = none ∧ RWs K mg ι H ws vs ∧ Aft K mg ι H (m ws h) (RW K mg) Q E
structure DefR (P : Program) (w : World) (K : PySem.W.Frag) (mg : Str → Option Value) (base : Heap) (k : Nat) (nm : Str) (m : MF) : Prop where
  ex : ∃ (f : Addr), FnR P w K mg base (L2.CX P w) k f (spR K mg m) ∧ mg nm = some (.ref f) ∧ PySem.W.keepIn K (.ref f) = true
structure FunV (K : PySem.W.Frag) (mg : Str → Option Value) (nm : Str) (st : Stmt) (ps : List Str) (pv : Str) : Prop where
  ex : ∃ (f : Addr) (fd : FuncData), Fun K nm nm st f fd ∧ mg nm = some (.ref f) ∧ ∀ us rest : List Value, us.length = ps.length → bindArgs fd ⟨us ++ rest, []⟩ = (newTuple rest >>= fun t => pure (ps.zip us ++ [(pv, t)]))
section
variable {P : Program} {w : World} {K : PySem.W.Frag} {mg : Str → Option Value} {base : Heap}
theorem RWs.cutAt : ∀ {ws : List W} {vs : List V} {ι : Ix} {H : Hp} (n : Nat), RWs K mg ι H ws vs → RWs K mg ι H (ws.take n) (vs.take n) ∧ RWs K mg ι H (ws.drop n) (vs.drop n)
  | ws, vs, ι, H, 0, r => ⟨.nil, r⟩
  | _, _, ι, H, n + 1, .nil => ⟨.nil, .nil⟩
  | _, _, ι, H, n + 1, .cons r rr => ⟨.cons r (RWs.cutAt n rr).1, (RWs.cutAt n rr).2⟩
theorem FunV.ok {nm : Str} {st : Stmt} {N ps : List Str} {pv : Str} {k : Nat} {b : MS} (F : FunV K mg nm st ps pv) (S : FnScope N (ps ++ [pv]) (defScope st))
    (hb : ∀ (f : Addr) (cdv : Value) (A : Around) (outer : List Env) (s : Shared) (H : Hp) (E : XK), Room k (A.deeper (PyProof.Rows.envOfC nm (defScope st) s.heap.objs.size f cdv)) →
      NSs (cxOf (L2.CX P w) P w K mg base N nm (defScope st) f cdv A outer s H E) (fun cls d _ H' => E cls d H') (defBody st) b) : DefR P w K mg base (k + 1) nm (mDefV ps.length N.length b) := by
  obtain ⟨f, fd, h1, h2, h3⟩ := F
  obtain ⟨oc, od, kV, doc, pm, an, cdv, ct, osl, rfl, lk, hcd⟩ := h1.ex
  have R := fn_star (P := P) (w := w) (mg := mg) (base := base) (CX := L2.CX P w) (k := k) (sp := spN K mg (ps.length + 1) (mDef N.length b)) lk hcd S cxUp h3 fun A outer s H vs Q E hr h => by
    obtain ⟨ι, ws, h, ft, ex, r, e, q⟩ := h
    refine ⟨_, hb f cdv A outer s H E hr, ι, _, h, ft, sl_start ex r, ?_⟩
    unfold mDef at q
    cases e2 : b (ws.map some ++ List.replicate (N.length - ws.length) none) h with
    | nx σ' h' => rw [e2] at q; exact fun ι2 σ2 H2 g2 f2 s2 => q ι2 .non H2 g2 f2 .non
    | rt w h' => rw [e2] at q; exact q
    | exc x σ' h' => rw [e2] at q; exact fun ι2 c d σ2 H2 g2 f2 s2 => q ι2 c d H2 g2 f2
    | bk σ' h' => rw [e2] at q; exact q.elim
    | ct σ' h' => rw [e2] at q; exact q.elim
    | stuck => rw [e2] at q; exact q.elim
  refine ⟨f, fun A outer s H us vs Q E hr e0 r hsp => R A outer s H us vs Q E hr e0 r ?_, h2, h1.kp⟩
  obtain ⟨ι, ws, h, ft, ex, rw', q⟩ := hsp
  unfold mDefV at q
  by_cases hc : ps.length ≤ ws.length ∧ (ws.drop ps.length).length ≤ sizeLine
  · rw [if_pos hc] at q
    obtain ⟨r1, r2⟩ := RWs.cutAt ps.length rw'
    refine ⟨vs.take ps.length, vs.drop ps.length, (List.take_append_drop _ _).symm, ?_, by rw [r2.len]; exact hc.2, fun p hp => ?_⟩
    · rw [r1.len, List.length_take]; omega
    · obtain ⟨g, f2, r3⟩ := new_tup ft r2 hp
      refine ⟨ι, ws.take ps.length ++ [.tup (ws.drop ps.length)], h, f2, ex, RWs.app (RWs.mono g.g0 _ _ r1) (.cons r3 .nil), ?_, Aft.step q g⟩
      rw [List.length_append, List.length_take]
      simp; omega
  · rw [if_neg hc] at q; exact q.elim
end
section
variable {X : Cx} {E : WX} {e : Expr} {es : List Expr} {pos : Pos}
theorem run_fnRS {X : Cx} {CX : CXT} {k : Nat} {f : Addr} {sp : Sp} {E : XK} {Q : VK} {us : List Value} {vs : List V} {pins : List (Addr × Obj)} {σ : L2.St} {H : Hp} {s : Shared} (F : FnR X.prog X.w X.K X.mg X.base CX k f sp) (hr : Room k X.A) (hx : PassesAt CX X σ E) (I : Inv X pins σ H s) (r : Vals vs us) (h : sp vs H Q E) :
    codeAny (model X.prog X.w) X.A (.call (.ref f) ⟨us, []⟩) (fun r s' => match r with | .ok (.ret v) => EP X pins σ Q v s' | .ok _ => False | .error e => X.xe e s') s := by
  refine codeAny_mono (F X.A X.stack s H us vs Q E hr I.env0 r h) fun r s' hq => ?_
  cases r with
  | error e => exact hx pins H s e s' I hq
  | ok fl =>
    cases fl with
    | ret u => exact I.after hq
    | next => exact False.elim hq
    | brk => exact False.elim hq
    | cont => exact False.elim hq
theorem ne_callR {k : Nat} {x : Str} {m : MF} {ma : MA} {p : Pos} (D : DefR X.prog X.w X.K X.mg X.base k x m) (hr : Room k X.A) (hc : X.calm = true) (hg : Gl X x) (tk : Takes X E) (ha : NA X E (e :: es) ma)
    (hdb : (x == ("__debug__" : Str)) = false := by decide) (he : starEach (e :: es) X.env = (false, eval e X.env) :: starEach es X.env := by rfl) (hpl : (backTo pos (starEach es X.env)).any (·.1) = false := by rfl) :
    NE X E (.Call (.Name x p) (e :: es) [] pos) (mCall m ma) := by
  obtain ⟨f, F, hm, hk⟩ := D
  refine ⟨fun pins s σ H Q I q => ?_⟩
  obtain ⟨ι, σn, h, ft, sl, q⟩ := q
  refine wpAny_Call_Name_kw (ld_glob I hg hm ?_ hdb)
  have aft : Aft X.K X.mg ι H (ma σn h) (RWs X.K X.mg) (fun vs H1 => spR X.K X.mg m vs H1 Q (fun c d H' => E c d σ H')) (fun c d H' => E c d σ H') := by
    cases ea : ma σn h with
    | ok ws h1 =>
      have q' : Aft X.K X.mg ι H (m ws h1) (RW X.K X.mg) Q (fun c d H' => E c d σ H') := by unfold mCall at q; rw [ea] at q; exact q
      exact fun ι1 vs H1 g1 f1 r1 => ⟨ι1, ws, h1, f1, (g1.g0.ex.trans sl.ex).trans (if_pos hc), r1, Aft.step q' g1⟩
    | exc x h1 => unfold mCall at q; rw [ea] at q; exact q
    | stuck => unfold mCall at q; rw [ea] at q; exact q
  have hx := passAt tk σ
  refine PySem.W.callWith_K (h₀ := X.base) I.ok.mod.kin hk (thn (ha.run pos pins s σ H _ I ⟨ι, σn, h, ft, sl, aft⟩) fun us s1 ⟨vs, H1, I1, r, q1⟩ => ⟨I1.kIn, ?_⟩) he hpl
  exact wpAny_call (run_fnRS F hr hx I1 r q1)
end
end N
set_option maxHeartbeats 1000000
namespace N
open PySem PySem.Spec PyProof.Rows L2
def ItzS (x y : Str) : It :=
  ⟨fun i _ => i < x.cps.size ∧ i < y.cps.size, fun i H v H' => ∃ T c d, v = .ref T ∧ H T = none ∧ H' = upd H T (.tup [.str ⟨#[c]⟩, .str ⟨#[d]⟩]) ∧ x.cps[i]? = some c ∧ y.cps[i]? = some d, fun i _ => i = min x.cps.size y.cps.size⟩
def PSt (x : Str) : Nat → Value → Prop := fun i v => ∃ c u, x.cps[i]? = some c ∧ v = .str ⟨#[c]⟩ u
theorem drawsS {P : Program} {w : World} {A : Around} (hh : A.handled = none) (it : Addr) (x : Str) (t : Tok) : Draws P w A it [it] x.cps.size (PSt x) (fun i h => h.IsStrIter it (strIterType x) x t i) := by
  unfold strIterType PSt
  cases ha : x.cps.all (· < 128)
  · exact Draws.strWide hh it x t
  · exact Draws.strAscii hh it x t
theorem sepS {z TI TO i1 i2 : Addr} (h : z = i1 + 4 ∧ TI = i1 + 2 ∧ TO = i1 + 3 ∧ i2 = i1 + 1) : ZipSep2 z TI TO i1 i2 [i1] [i2] := by
  obtain ⟨rfl, rfl, rfl, rfl⟩ := h
  have ne : ∀ a b : Nat, a ≠ b → (i1 + a : Addr) ≠ i1 + b := fun a b hab e => hab (Nat.add_left_cancel e)
  have ne0 : ∀ a : Nat, a ≠ 0 → (i1 + a : Addr) ≠ i1 := fun a ha e => ha (by have : i1 + a = i1 + 0 := e; exact Nat.add_left_cancel this)
  constructor <;> first
    | exact ne _ _ (by decide)
    | exact ne0 _ (by decide)
    | exact List.mem_singleton.mpr rfl
    | (intro hm; exact ne _ _ (by decide) (List.mem_singleton.mp hm))
    | (intro hm; exact ne0 _ (by decide) (List.mem_singleton.mp hm))
    | (intro hm; exact ne0 _ (by decide) (List.mem_singleton.mp hm).symm)
theorem turn_zipS {P : Program} {w : World} {K : PySem.W.Frag} {elts : List Expr} {kk : Nat} {tpos : Pos} {z TI TO i1 i2 : Addr} {x y : Str} {t1 t2 : Tok} (D : z = i1 + 4 ∧ TI = i1 + 2 ∧ TO = i1 + 3 ∧ i2 = i1 + 1) :
    Turn P w K (.Tuple elts kk tpos) (ItzS x y) [z, TI, TO, i1, i2] z (fun i h => IsZip h z TI TO .none ∧ IsTupOf2 h TI (.ref i1) (.ref i2) ∧ (∃ a b, IsTupOf2 h TO a b) ∧ h.IsStrIter i1 (strIterType x) x t1 i ∧ h.IsStrIter i2 (strIterType y) y t2 i) where
  mem := by simp
  obj := fun i h st c hc => by
    obtain ⟨hz, hTI, ⟨a, b, hTO⟩, ⟨o1, e1, _, d1⟩, ⟨o2, e2, _, d2⟩⟩ := st
    have e' : c = z ∨ c = TI ∨ c = TO ∨ c = i1 ∨ c = i2 := by simpa using hc
    rcases e' with q | q | q | q | q
    · rw [q]; exact ⟨_, hz, fun v q => nomatch q⟩
    · rw [q]; exact ⟨_, hTI, fun v q => nomatch q⟩
    · rw [q]; exact ⟨_, hTO, fun v q => nomatch q⟩
    · rw [q]; exact ⟨o1, e1, fun v q => by rw [d1] at q; cases q⟩
    · rw [q]; exact ⟨o2, e2, fun v q => by rw [d2] at q; cases q⟩
  keep := fun i h h' st k => by
    obtain ⟨hz, hTI, ⟨a, b, hTO⟩, ⟨o1, e1, r1⟩, ⟨o2, e2, r2⟩⟩ := st
    exact ⟨k z (by simp) _ hz, k TI (by simp) _ hTI, ⟨a, b, k TO (by simp) _ hTO⟩, ⟨o1, k i1 (by simp) o1 e1, r1⟩, ⟨o2, k i2 (by simp) o2 e2, r2⟩⟩
  item := by
    intro X hP hw hK hc i pins s σ H E I hf st hg
    subst hP hw hK
    obtain ⟨hz, hTI, ⟨a0, b0, hTO⟩, h1, h2⟩ := st
    obtain ⟨lt1, lt2⟩ := hg
    have hzl : z < s.heap.objs.size := Heap.lt_size hz
    refine wpAny_pyNext_zipD2_item (sepS D) (drawsS (A := X.A.in1) (I.ok.hd hc) i1 x t1) (drawsS (A := X.A.in1) (I.ok.hd hc) i2 y t2) hz hTI hTO h1 h2 lt1 lt2 fun v1 v2 h' tk p1 p2 z' TO' h1' h2' hT hsz hk => ?_
    obtain ⟨c1, u1, ec1, rfl⟩ := p1
    obtain ⟨c2, u2, ec2, rfl⟩ := p2
    refine ⟨_, rfl, wpAny_letOwnedTupleGo_zip (s := { s with heap := h', toks := tk }) z' fun h'' z'' sb => ?_⟩
    have hT2 : h''.get? s.heap.objs.size = some { cls := .type "tuple", data := .seq #[.str ⟨#[c1]⟩ u1, .str ⟨#[c2]⟩ u2] } := (sb.2 _ (Nat.ne_of_gt hzl)).trans hT
    have new : ObjOk X.prog X.w (upd H s.heap.objs.size (.tup [.str ⟨#[c1]⟩, .str ⟨#[c2]⟩])) h'' s.heap.objs.size (.tup [.str ⟨#[c1]⟩, .str ⟨#[c2]⟩]) :=
      ⟨by show 2 ≤ sizeLine; decide, [.str ⟨#[c1]⟩ u1, .str ⟨#[c2]⟩ u2], .cons ⟨_, rfl⟩ (.cons ⟨_, rfl⟩ .nil), ⟨_, hT2, rfl, _, rfl⟩⟩
    have I1 : Inv X pins σ (upd H s.heap.objs.size (.tup [.str ⟨#[c1]⟩, .str ⟨#[c2]⟩])) { s with heap := h'', toks := tk } :=
      I.turnedNew (t' := tk) (ch := [z, TI, TO, i1, i2]) (fun c o hb q => (sb.2 c (fun q' => hb (by simp [q']))).trans (hk c o (fun q' => hb (by simp [q'])) (fun q' => hb (by simp [q'])) (fun q' => hb (by simp [q'])) (fun q' => hb (by simp [q'])) q)) hf (Nat.le_refl _) new
    have S := sepS D
    refine ⟨.ref s.heap.objs.size, _, I1, rfl, ⟨_, c1, c2, rfl, I.hok.fresh (Nat.le_refl _), rfl, ec1, ec2⟩, ⟨z'', ?_, ⟨.str ⟨#[c1]⟩ u1, .str ⟨#[c2]⟩ u2, ?_⟩, ?_, ?_⟩, fun c hcm => ?_⟩
    · exact (sb.2 _ S.TIz).trans (hk _ _ S.TIz S.TITO S.TIi1 S.TIi2 hTI)
    · exact (sb.2 _ S.TOz).trans TO'
    · obtain ⟨o, e, r⟩ := h1'
      exact ⟨o, (sb.2 _ (Ne.symm S.zi1)).trans e, r⟩
    · obtain ⟨o, e, r⟩ := h2'
      exact ⟨o, (sb.2 _ (Ne.symm S.zi2)).trans e, r⟩
    · have hlt : c < s.heap.objs.size := by
        have e' : c = z ∨ c = TI ∨ c = TO ∨ c = i1 ∨ c = i2 := by simpa using hcm
        rcases e' with q | q | q | q | q
        · rw [q]; exact hzl
        · rw [q]; exact Heap.lt_size hTI
        · rw [q]; exact Heap.lt_size hTO
        · rw [q]; obtain ⟨_, e1, _⟩ := h1; exact Heap.lt_size e1
        · rw [q]; obtain ⟨_, e2, _⟩ := h2; exact Heap.lt_size e2
      rw [upd_ne (Nat.ne_of_lt hlt)]
      exact (hf c hcm).1
  done := by
    intro X hP hw hK hc i pins s σ H E I hf st hg
    subst hP hw hK
    obtain ⟨hz, hTI, ⟨a0, b0, hTO⟩, h1, h2⟩ := st
    have hg : i = min x.cps.size y.cps.size := hg
    exact wpAny_pyNext_zipD2_end (sepS D) (drawsS (A := X.A.in1) (I.ok.hd hc) i1 x t1) (drawsS (A := X.A.in1) (I.ok.hd hc) i2 y t2) hz hTI hTO h1 h2 (by omega) (by omega) (by omega) fun h' tk hk => ⟨rfl, I.turnedL (t' := tk) (ch := [z, TI, TO, i1, i2]) (fun c o hb q =>
      hk c o (fun q' => hb (by simp [q'])) (fun q' => hb (by simp [q'])) (fun q' => hb (by simp [q'])) (fun q' => hb (by simp [q'])) q) hf⟩
  self := fun A i s Q E st h => wpAny_pyIter_zip st.1 h
abbrev zS (x : Str) (t : Tok) : Obj := { cls := .type (strIterType x), data := .fields #[.str x t, .int 0 0] }
abbrev zipS1 (h : Heap) (x : Str) (t : Tok) : Heap := h.push (zS x t)
abbrev zipS2 (h : Heap) (x y : Str) (t u : Tok) : Heap := (zipS1 h x t).push (zS y u)
abbrev zipS3 (h : Heap) (x y : Str) (t u : Tok) : Heap := (zipS2 h x y t u).push { cls := .type "tuple", data := .seq #[.ref h.objs.size, .ref (zipS1 h x t).objs.size] }
abbrev zipS4 (h : Heap) (x y : Str) (t u : Tok) : Heap := (zipS3 h x y t u).push { cls := .type "tuple", data := .seq #[.none, .none] }
abbrev zipS5 (h : Heap) (x y : Str) (t u : Tok) : Heap := (zipS4 h x y t u).push { cls := .type "zip", data := .fields #[.none, .bool false, .bool false, .ref (zipS2 h x y t u).objs.size, .ref (zipS3 h x y t u).objs.size] }
theorem meets_zipS_new (x y : Str) (t u : Tok) :
    Meets (Builtin.«zip.__new__» ⟨[.type "zip", .str x t, .str y u], []⟩) (fun _ R s => R (.ok (.ret (.ref (zipS4 s.heap x y t u).objs.size))) { s with heap := zipS5 s.heap x y t u }) :=
  .of_wp fun prog w A R s h => by
    obtain ⟨hp, g, d, tk, os⟩ := s
    have hsub := sub_zip
    wp_walk using wpAny_pyIter_strU, wpAny_pyIter_strU
    exact ⟨_, rfl, h⟩
section
variable {prog : Program} {w : World} {A : Around} {E : Value → Shared → Prop} {s : Shared}
theorem call_zipS {x y : Str} {t u : Tok} {Q : Value → Shared → Prop}
    (h : ∀ h', IsZip h' (s.heap.objs.size + 4) (s.heap.objs.size + 2) (s.heap.objs.size + 3) .none → IsTupOf2 h' (s.heap.objs.size + 2) (.ref s.heap.objs.size) (.ref (s.heap.objs.size + 1)) →
      IsTupOf2 h' (s.heap.objs.size + 3) .none .none → h'.IsStrIter s.heap.objs.size (strIterType x) x t 0 → h'.IsStrIter (s.heap.objs.size + 1) (strIterType y) y u 0 →
      (∀ c o, s.heap.get? c = some o → h'.get? c = some o) → Q (.ref (s.heap.objs.size + 4)) { s with heap := h' }) :
    wpAny (model prog w) A (call (.type "zip") [.str x t, .str y u]) Q E s := by
  refine callType_new F.called_zip (by decide) (F.typeCall_zip_2 _ _) (F.newCall_zip_2 _ _) (fun obj => F.args_object_init_3 obj _ _) F.entry_zip_new
    (meets_zipS_new x y t u) ?_
  have z1 : (zipS1 s.heap x t).objs.size = s.heap.objs.size + 1 := Heap.size_push ..
  have z2 : (zipS2 s.heap x y t u).objs.size = s.heap.objs.size + 2 := by rw [Heap.size_push, z1]
  have z3 : (zipS3 s.heap x y t u).objs.size = s.heap.objs.size + 3 := by rw [Heap.size_push, z2]
  have z4 : (zipS4 s.heap x y t u).objs.size = s.heap.objs.size + 4 := by rw [Heap.size_push, z3]
  have g5 : (zipS5 s.heap x y t u).get? (zipS4 s.heap x y t u).objs.size = some _ := Heap.get?_push_size _ rfl
  have g4 : (zipS5 s.heap x y t u).get? (zipS3 s.heap x y t u).objs.size = some _ := Heap.get?_push_of_some _ (Heap.get?_push_size _ rfl)
  have g3 : (zipS5 s.heap x y t u).get? (zipS2 s.heap x y t u).objs.size = some _ := Heap.get?_push_of_some _ (Heap.get?_push_of_some _ (Heap.get?_push_size _ rfl))
  have g2 : (zipS5 s.heap x y t u).get? (zipS1 s.heap x t).objs.size = some (zS y u) := Heap.get?_push_of_some _ (Heap.get?_push_of_some _ (Heap.get?_push_of_some _ (Heap.get?_push_size _ rfl)))
  have g1 : (zipS5 s.heap x y t u).get? s.heap.objs.size = some (zS x t) := Heap.get?_push_of_some _ (Heap.get?_push_of_some _ (Heap.get?_push_of_some _ (Heap.get?_push_of_some _ (Heap.get?_push_size _ rfl))))
  show _ ∧ _
  rw [z2, z3, z4] at g5
  rw [z1, z2] at g3
  rw [z3] at g4
  rw [z1] at g2
  rw [z4]
  exact ⟨⟨_, g5, rfl⟩, h _ g5 g3 g4 ⟨_, g1, rfl, rfl⟩ ⟨_, g2, rfl, rfl⟩ fun c o x =>
    Heap.get?_push_of_some _ (Heap.get?_push_of_some _ (Heap.get?_push_of_some _ (Heap.get?_push_of_some _ (Heap.get?_push_of_some _ x))))⟩
end
def iZipS (ta : TA) : TI := fun σ H R => ta σ H fun vs H1 => ∃ x y, vs = [.str x, .str y] ∧ R (ItzS x y) H1
theorem pi_zipS {X : Cx} {e e2 : Expr} {ta : TA} {p pos tpos : Pos} {elts : List Expr} {kk : Nat} (hg : Gl X "zip") (hm : X.mg "zip" = none) (ha : PA X [e, e2] ta)
    (hs : starEach [e, e2] X.env = (false, eval e X.env) :: starEach [e2] X.env := by rfl) (hpl : (backTo pos (starEach [e2] X.env)).any (·.1) = false := by rfl) :
    PI X (.Tuple elts kk tpos) (.Call (.Name "zip" p) [e, e2] [] pos) (iZipS ta) := by
  refine ⟨fun pins s σ H R I h => ?_⟩
  refine Call_ (ld_blt I hg hm PyProof.Rows.boot_zip (PyProof.Rows.callWith_type1 (thn (ha.run pos pins s σ H _ I h) fun us s1 ⟨vs, H1, I1, r1, q1⟩ => ?_) hs hpl))
  obtain ⟨a, b, ex, q⟩ := q1
  subst ex
  cases r1 with
  | cons r rr =>
    cases rr with
    | cons r' rr =>
      cases rr
      obtain ⟨t, rfl⟩ := r
      obtain ⟨u, rfl⟩ := r'
      have fresh5 : ∀ c, c ∈ [s1.heap.objs.size + 4, s1.heap.objs.size + 2, s1.heap.objs.size + 3, s1.heap.objs.size, s1.heap.objs.size + 1] → FpOk X pins H1 c := fun c hcm => by
        have e' : c = s1.heap.objs.size + 4 ∨ c = s1.heap.objs.size + 2 ∨ c = s1.heap.objs.size + 3 ∨ c = s1.heap.objs.size ∨ c = s1.heap.objs.size + 1 := by simpa using hcm
        have hle : s1.heap.objs.size ≤ c := by
          rcases e' with z | z | z | z | z
          · rw [z]; exact Nat.le_add_right _ _
          · rw [z]; exact Nat.le_add_right _ _
          · rw [z]; exact Nat.le_add_right _ _
          · rw [z]; exact Nat.le_refl _
          · rw [z]; exact Nat.le_add_right _ _
        exact I1.fpOk hle (I1.hok.fresh hle)
      refine call_zipS fun h' hz hTI hTO h1 h2 hk => wpAny_pyIter_zip hz ?_
      have I2 : Inv X pins σ H1 { s1 with heap := h' } := I1.kept (t' := s1.toks) hk
      exact ⟨s1.heap.objs.size + 4, [s1.heap.objs.size + 4, s1.heap.objs.size + 2, s1.heap.objs.size + 3, s1.heap.objs.size, s1.heap.objs.size + 1], _, _, H1, rfl, I2, turn_zipS ⟨rfl, rfl, rfl, rfl⟩, ⟨hz, hTI, ⟨_, _, hTO⟩, h1, h2⟩, fresh5, q⟩
/-- zip of two texts, of two lists, of two tuples (the lists that nobody changes) -/
def zipPs : List W → List W → List W
  | x :: xs, y :: ys => .tup [x, y] :: zipPs xs ys
  | _, _ => []
theorem zipPs_len : ∀ (xs ys : List W), (zipPs xs ys).length = min xs.length ys.length
  | [], _ => by simp [zipPs]
  | _ :: _, [] => by simp [zipPs]
  | x :: xs, y :: ys => by simp [zipPs, zipPs_len xs ys]
theorem zipPs_at : ∀ (xs ys : List W) (i : Nat) (x y : W), xs[i]? = some x → ys[i]? = some y → (zipPs xs ys)[i]? = some (.tup [x, y])
  | _ :: _, _ :: _, 0, _, _, h1, h2 => by cases h1; cases h2; rfl
  | a :: xs, b :: ys, i + 1, x, y, h1, h2 => zipPs_at xs ys i x y h1 h2
  | [], _, _, _, _, h1, _ => by cases h1
  | _ :: _, [], _, _, _, _, h2 => by cases h2
def zipW : List W → Option (List W × (List O → Bool))
  | [.str x, .str y] => some (zipPs (signsW x) (signsW y), fun _ => true)
  | _ => none
def mZip (ma : MA) : MI := fun σ h => (ma σ h).bind fun ws h1 => match zipW ws with
  | some a => .ok a h1
  | none => .stuck
theorem itN_zipS {K : PySem.W.Frag} {mg : Str → Option Value} {ι : Ix} {H : Hp} {x y : Str} : ItN K mg ι H (zipPs (signsW x) (signsW y), fun _ => true) (ItzS x y) := by
  refine ⟨min x.cps.size y.cps.size, fun _ => True, (ItzS x y).yld, ⟨fun i H hi _ => ⟨by omega, by omega⟩, fun H _ => rfl, fun i H v H' _ _ q => q⟩, by rw [zipPs_len]; simp [signsW], fun _ _ _ _ _ _ => trivial, fun i ι2 H2 h2 v H3 hi g f c q => ?_⟩
  obtain ⟨T, c, d, rfl, hT, rfl, hc, hd⟩ := q
  obtain ⟨g1, f1, r1⟩ := new_tup f (ws := [.str ⟨#[c]⟩, .str ⟨#[d]⟩]) (.cons (.str _) (.cons (.str _) .nil)) hT
  refine ⟨_, zipPs_at _ _ i (.str ⟨#[c]⟩) (.str ⟨#[d]⟩) ?_ ?_, r1, g1, f1⟩
  · have : x.cps.toList[i]? = some c := by simpa using hc
    simp [signsW, this]
  · have : y.cps.toList[i]? = some d := by simpa using hd
    simp [signsW, this]
section
variable {X : Cx} {E : WX}
theorem ni_zip {e e2 : Expr} {ma : MA} {p pos tpos : Pos} {elts : List Expr} {kk : Nat} (hg : Gl X "zip") (hm : X.mg "zip" = none) (ha : NA X E [e, e2] ma)
    (hs : starEach [e, e2] X.env = (false, eval e X.env) :: starEach [e2] X.env := by rfl) (hpl : (backTo pos (starEach [e2] X.env)).any (·.1) = false := by rfl) :
    NI X E (.Tuple elts kk tpos) (.Call (.Name "zip" p) [e, e2] [] pos) (mZip ma) :=
  PI.imp (pi_zipS hg hm ha hs hpl) fun σ H R ⟨ι, σn, h, f, s, q⟩ => ⟨ι, σn, h, f, s, Aft.bind q fun ι1 ws h1 vs H1 g1 f1 r1 q1 => by
    unfold zipW at q1
    match ws, r1, q1 with
    | [.str x, .str y], .cons (.str _) (.cons (.str _) .nil), q1 => exact ⟨x, y, rfl, q1 ι1 _ H1 .refl f1 itN_zipS⟩⟩
end
end N
set_option maxHeartbeats 1000000
namespace G
open PySem
open Sem (wp)
def asleep : GenState → Bool
  | .suspended .. => true
  | _ => false
/-- a state that cannot be woken -/
def trap : GenState → GenState
  | .suspended _ l c p fs cl => .suspended (fun _ => .unsupported "") l c p fs cl
  | x => x
theorem trap_bare (x : GenState) : (trap x).bare = x.bare := by cases x <;> rfl
def real (T : Nat → Option GenState) (s : Shared) : Shared := { s with gens := s.gens.mapIdx fun i x => (T i).getD x }
structure OkT (T : Nat → Option GenState) (z : Shared) : Prop where
  at' : ∀ i x, T i = some x → z.gens[i]? = some (trap x) ∧ asleep x = true
  cl : ∀ i k l c p fs c2, T i = none → z.gens[i]? = some (.suspended k l c p fs c2) → splitAtGen fs = none
theorem real_at {T : Nat → Option GenState} {s : Shared} {i : Nat} : (real T s).gens[i]? = (s.gens[i]?).map fun x => (T i).getD x := by
  show (s.gens.mapIdx _)[i]? = _
  rw [Array.getElem?_mapIdx]
theorem OkT.size {T : Nat → Option GenState} {z : Shared} (o : OkT T z) {i : Nat} (h : z.gens.size ≤ i) : T i = none := by
  cases e : T i with
  | none => rfl
  | some x =>
    have := (o.at' i x e).1
    rw [Array.getElem?_eq_none h] at this
    cases this
theorem OkT.push {T : Nat → Option GenState} {s : Shared} {c : Code} (o : OkT T s) : OkT T { s with gens := s.gens.push (.fresh c) } := by
  refine ⟨fun i x e => ?_, fun i k l c' p fs c2 e e2 => ?_⟩
  · obtain ⟨h1, h2⟩ := o.at' i x e
    exact ⟨by
      show (s.gens.push _)[i]? = _
      have ne : i ≠ s.gens.size := by
        rintro rfl
        rw [Array.getElem?_eq_none (Nat.le_refl _)] at h1
        cases h1
      rw [Array.getElem?_push, if_neg ne, h1], h2⟩
  · have e2 : (s.gens.push (.fresh c))[i]? = _ := e2
    rw [Array.getElem?_push] at e2
    split at e2
    · cases e2
    · exact o.cl i k l c' p fs c2 e e2
theorem OkT.set {T : Nat → Option GenState} {s : Shared} {g : Nat} {x : GenState} (o : OkT T s) (h : T g = none) (hx : ∀ k l c p fs cl, x = .suspended k l c p fs cl → splitAtGen fs = none) : OkT T (s.setGen g x) := by
  refine ⟨fun i y e => ?_, fun i k l c' p fs c2 e e2 => ?_⟩
  · obtain ⟨h1, h2⟩ := o.at' i y e
    have ne : g ≠ i := by rintro rfl; rw [h] at e; cases e
    exact ⟨by
      show (s.gens.setIfInBounds g x)[i]? = _
      rw [Array.getElem?_setIfInBounds_ne ne, h1], h2⟩
  · have e2 : (s.gens.setIfInBounds g x)[i]? = _ := e2
    rw [Array.getElem?_setIfInBounds] at e2
    split at e2
    · split at e2
      · cases e2; exact hx _ _ _ _ _ _ rfl
      · cases e2
    · exact o.cl i k l c' p fs c2 e e2
/-- the sleeping ones -/
def tab (s : Shared) : Nat → Option GenState := fun i => match s.gens[i]? with
  | some x => if asleep x then some x else none
  | none => none
/-- what is kept by code that runs beside sleeping generators -/
structure Kept (s s' z : Shared) : Prop where
  re : s' = real (tab s) z
  ok : OkT (tab s) z
theorem Kept.gen {s s' z : Shared} (k : Kept s s' z) {g : Nat} {x : GenState} (h : s.gens[g]? = some x) (ha : asleep x = true) : s'.gens[g]? = some x := by
  have e : tab s g = some x := by unfold tab; rw [h]; exact if_pos ha
  rw [k.re, real_at, (k.ok.at' _ _ e).1, e]
  rfl
theorem Kept.heap {s s' z : Shared} (k : Kept s s' z) : s'.heap = z.heap := by rw [k.re]; rfl
theorem Kept.os {s s' z : Shared} (k : Kept s s' z) : s'.os = z.os := by rw [k.re]; rfl
theorem Kept.bare {s s' z : Shared} (k : Kept s s' z) (h : PyProof.Rows.AllBare z.gens) : PyProof.Rows.AllBare s'.gens := by
  intro y hy
  obtain ⟨i, hi⟩ := Array.mem_iff_getElem?.mp hy
  rw [k.re, real_at] at hi
  cases q : z.gens[i]? with
  | none => rw [q] at hi; cases hi
  | some w =>
    rw [q] at hi
    have hw := h w (Array.mem_of_getElem? q)
    cases e : tab s i with
    | none => rw [e] at hi; cases hi; exact hw
    | some x =>
      rw [e] at hi
      cases hi
      have q2 := (k.ok.at' _ _ e).1
      rw [q] at q2
      cases q2
      rw [trap_bare] at hw
      exact hw
end G
set_option maxHeartbeats 1000000
namespace G
open PySem PySem.Spec PyProof.Rows GenW L2
open Sem (wp)
section
variable {M : Model}
def Go (M : Model) (A : Around) (Φ : End → Shared → Prop) (c : Code) (t : Sem PySem.Fin) (fs : List Frame) (s : Shared) : Prop :=
  ∀ Γ p, Γ.code = c → Γ.Woken A → ∃ e s', Runs M Γ p t fs s e s' ∧ Φ e s'
variable {A : Around} {Φ : End → Shared → Prop} {c : Code} {fs : List Frame} {s : Shared}
end
def Goes (M : Model) (A : Around) (Φ : End → Shared → Prop) (gs : GenState) (s : Shared) : Prop :=
  match gs with
  | .fresh c => Go M A Φ c (M.den c) [] s
  | .suspended k _ c _ fs _ => Go M A Φ c (k (.send .none)) fs s
  | _ => False
end G
set_option maxHeartbeats 1000000
namespace N
open PySem PySem.Spec PyProof.Rows GenW L2 G
/-- a generator's activation -/
structure GD where
  P : Program
  w : World
  K : PySem.W.Frag
  mg : Str → Option Value
  base : Heap
  N : List Str
  env : Env
  A : Around
  outer : List Env
  pn : List (Addr × Obj)
abbrev GD.L (D : GD) : Addr := D.env.locals
structure GD.Ok (D : GD) : Prop where
  mod : Mod D.K D.mg D.base
  kind : D.env.scope.kind = .function
  glob : D.env.globals = mainGlobals
  blt : D.env.builtins = builtinsNs
  cells : D.env.cells = []
  nok : ∀ x, ¬ (D.env.kindOf x = some .cell ∨ D.env.kindOf x = some .free)
  hd : D.A.handled = none
  frames : D.A.frames = some (D.env :: D.outer)
  frame : D.env.frame = some D.env.locals
  bsz : D.base.objs.size ≤ D.L
  frl : ∀ b ∈ frs D.outer, b < D.L
  pnl : ∀ p ∈ D.pn, D.L < p.1 ∧ ∀ v, p.2.data ≠ .cell v
structure GD.At (D : GD) (s : Shared) (H : Hp) : Prop where
  bs : ∀ b o, D.base.get? b = some o → s.heap.get? b = some o ∧ H b = none
  funs : s.heap.FunFrames D.base D.outer
  frf : ∀ b ∈ frs D.outer, H b = none
  hok : HOk D.P D.w H s.heap
  bare : AllBare s.gens
  pin : ∀ p ∈ D.pn, s.heap.get? p.1 = some p.2 ∧ H p.1 = none
  fr : H D.L = none
  lob : ∃ ob, s.heap.get? D.L = some ob ∧ ∀ v, ob.data ≠ .cell v
def GD.Lo (D : GD) (σ : L2.St) (s : Shared) : Prop := (∃ m, s.heap.Ns D.L m ∧ ∀ (i : Nat) (x : Str) (v : V), D.N[i]? = some x → σ[i]? = some (some v) → Vis D.env.scope x → ∃ u, RelV v u ∧ Look D.env s.heap m x u) ∧ σ.length = D.N.length
def GD.Young (D : GD) (pins : List (Addr × Obj)) (s : Shared) (H : Hp) : Prop := ∀ p ∈ pins, s.heap.get? p.1 = some p.2 ∧ H p.1 = none ∧ D.L < p.1 ∧ ∀ v, p.2.data ≠ .cell v
/-- what a segment changes -/
def GD.May (D : GD) (ip : List (Addr × Obj)) (s : Shared) (b : Addr) : Prop := b = D.L ∨ (D.L < b ∧ ((∃ v, s.heap.IsCell b v) ∨ ∃ p ∈ ip, p.1 = b))
structure GD.Step (D : GD) (ip : List (Addr × Obj)) (s0 : Shared) (H0 : Hp) (s : Shared) (H : Hp) : Prop where
  os : s.os = s0.os
  un : ∃ ch, Un (frs D.outer) ch H0 H s0.heap s.heap ∧ ∀ b ∈ ch, D.May ip s0 b
end N
set_option maxHeartbeats 1000000
namespace N
open PySem PySem.Spec PyProof.Rows GenW L2 G
/-- what comes next: it ends, or it hands out w and waits -/
inductive GO where
  | fin (r : SR)
  | yld (w : W) (h : List O) (k : List O → GO)
def GO.bind : GO → (SR → GO) → GO
  | .fin r, f => f r
  | .yld w h k, f => .yld w h fun h' => (k h').bind f
abbrev MGn := Slo → List O → GO
def SR.thenG (f : Slo → List O → GO) : SR → GO
  | .nx σ h => f σ h
  | r => .fin r
def yPlain (m : MS) : MGn := fun σ h => .fin (m σ h)
def yNil : MGn := fun σ h => .fin (.nx σ h)
def ySeq (a b : MGn) : MGn := fun σ h => (a σ h).bind (SR.thenG b)
def yYield (m : ME) : MGn := fun σ h => match m σ h with
  | .ok w h' => .yld w h' fun h2 => .fin (.nx σ h2)
  | .exc x h' => .fin (.exc x σ h')
  | .stuck => .fin .stuck
def ER.thenG {α : Type} (σ : Slo) (r : ER α) (f : α → List O → GO) : GO := match r with
  | .ok a h => f a h
  | .exc x h => .fin (.exc x σ h)
  | .stuck => .fin .stuck
def yWhile (t : MT) (b : MGn) : Nat → MGn
  | 0 => fun _ _ => .fin .stuck
  | F + 1 => fun σ h => (t σ h).thenG σ fun k h1 => if k = true then (b σ h1).bind (fun r => match r with
      | .nx σ' h' => yWhile t b F σ' h'
      | .ct σ' h' => yWhile t b F σ' h'
      | .bk σ' h' => .fin (.nx σ' h')
      | r => .fin r) else .fin (.nx σ h1)
/-- the end of the whole -/
def SR.ends : SR → Option (List O)
  | .nx _ h => some h
  | .rt .non h => some h
  | _ => none
def Safe : GO → Prop
  | .fin r => ∃ h, r.ends = some h
  | .yld .. => True
structure GD.Rest (D : GD) (A0 : Around) (g : Nat) (ip : List (Addr × Obj)) (s1 : Shared) (s2 : Shared) (H2 : Hp) : Prop where
  at' : D.At s2 H2
  fr : ∀ o, s1.heap.get? D.L = some o → s2.heap.get? D.L = some o
  ip : ∀ p ∈ ip, s2.heap.get? p.1 = some p.2 ∧ H2 p.1 = none
  gens : ∀ i x, i ≠ g → s1.gens[i]? = some x → asleep x = true → s2.gens[i]? = some x
/-- a promise of how a part of a run ends -/
def EndT (D : GD) (A0 : Around) (g : Nat) : GO → List (Addr × Obj) → Ix → Hp → Shared → End → Shared → Prop
  | .fin r => fun ip0 ι0 H0 s0 e s => e = .ret (.ok (.ret .none)) ∧ ∃ h ι H, r.ends = some h ∧ Grow ι0 ι H0 H ∧ Fit D.K D.mg ι H h ∧ D.At s H ∧ D.Step ip0 s0 H0 s H
  | .yld w h k => fun ip0 ι0 H0 s0 e s => ∃ v l kk c p fs ip ι H x, e = .susp v false l kk c p fs ∧ fs.any Frame.guarded = false ∧ Grow ι0 ι H0 H ∧ Fit D.K D.mg ι H h ∧ RW D.K D.mg ι H w x ∧ RelV x v ∧
      D.At s H ∧ D.Step ip0 s0 H0 s H ∧ D.Young ip s H ∧ ∀ s2 ι2 H2 h2, Safe (k h2) → Grow ι ι2 H H2 → Fit D.K D.mg ι2 H2 h2 → D.Rest A0 g ip s s2 H2 → Go (model D.P D.w) A0 (EndT D A0 g (k h2) ip ι2 H2 s2) c (kk (.send .none)) fs s2
end N
set_option maxHeartbeats 1000000
namespace N
open PySem PySem.Spec PyProof.Rows GenW L2 G
theorem GD.Lo.keep {D : GD} (ok : D.Ok) {σ : L2.St} {s s2 : Shared} (lo : D.Lo σ s) (h : ∀ o, s.heap.get? D.L = some o → s2.heap.get? D.L = some o) : D.Lo σ s2 := by
  obtain ⟨⟨m, ⟨o, es, ep, ho, r⟩, hm⟩, hl⟩ := lo
  refine ⟨⟨m, ⟨o, es, ep, h o ho, r⟩, fun i x v h1 h2 h3 => ?_⟩, hl⟩
  obtain ⟨u, ru, lk⟩ := hm i x v h1 h2 h3
  refine ⟨u, ru, ?_⟩
  rcases lk with lk | lk
  · exact .inl lk
  · exact (ok.nok x lk.1).elim
end N
set_option maxHeartbeats 1000000
namespace N
open PySem PySem.Spec PyProof.Rows GenW L2 G
@[reducible] def gX (X : Cx) (N : List Str) (nm : Str) (sc : Scope) (f : Addr) (cdv : Value) (A0 : Around) (L : Addr) (pn : List (Addr × Obj)) : GD :=
  { P := X.prog, w := X.w, K := X.K, mg := X.mg, base := X.base, N := N, env := envOfC nm sc L f cdv, A := A0.deeper (envOfC nm sc L f cdv), outer := X.stack, pn := pn }
@[reducible] def gD (P : Program) (w : World) (K : PySem.W.Frag) (mg : Str → Option Value) (base : Heap) (N : List Str) (nm : Str) (sc : Scope) (f : Addr) (cdv : Value) (A0 : Around) (L : Addr) (outer : List Env) (pn : List (Addr × Obj)) : GD :=
  { P := P, w := w, K := K, mg := mg, base := base, N := N, env := envOfC nm sc L f cdv, A := A0.deeper (envOfC nm sc L f cdv), outer := outer, pn := pn }
/-- what stays true of a generator that its maker X holds -/
structure Stat (X : Cx) (pins : List (Addr × Obj)) (D : GD) (g : Nat) (a : Addr) (go : Obj) : Prop where
  ok : D.Ok
  lx : X.env.locals < D.L
  ls : X.s_0.heap.objs.size ≤ D.L
  cel : ∀ x c, X.env.cells.lookup x = some c → c < D.L
  pin : ∀ p ∈ X.pn ++ pins, p.1 < D.L
  pn : D.pn = [(a, go)]
  cls : go.cls = .type "generator"
  dat : ∃ nm qn, go.data = .fields #[.int g 0, nm, qn] ∧ go.slots = #[]
  dp : X.A.depth < recursionLimit
  hd : X.A.handled = none
structure LS (X : Cx) (pins : List (Addr × Obj)) (D : GD) (A0 : Around) (g : Nat) (a : Addr) (go : Obj) (T : GO) (gs : GenState) (ip : List (Addr × Obj)) (s : Shared) (ι : Ix) (σ : L2.St) (H : Hp) : Prop where
  I : Inv X pins σ H s
  hL : ∃ ob, s.heap.get? D.L = some ob ∧ ∀ v, ob.data ≠ .cell v
  nL : H D.L = none
  ha : s.heap.get? a = some go
  na : H a = none
  en : s.gens[g]? = some gs
  wk : Safe T → Goes (model D.P D.w) A0 (EndT D A0 g T ip ι H (s.setGen g .running)) gs (s.setGen g .running)
/-- a generator that has not begun -/
structure LS0 (X : Cx) (pins : List (Addr × Obj)) (D : GD) (A0 : Around) (g : Nat) (a : Addr) (go : Obj) (F : List O → GO) (ws : List W) (vs : List V) (gs : GenState) (s : Shared) (σ : L2.St) (H : Hp) : Prop where
  I : Inv X pins σ H s
  hL : ∃ ob, s.heap.get? D.L = some ob ∧ ∀ v, ob.data ≠ .cell v
  nL : H D.L = none
  ha : s.heap.get? a = some go
  na : H a = none
  en : s.gens[g]? = some gs
  wk : ∀ s2 ι2 H2 h2, Safe (F h2) → RWs D.K D.mg ι2 H2 ws vs → ι2.exs = none → Fit D.K D.mg ι2 H2 h2 → D.Rest A0 g [] s s2 H2 → Goes (model D.P D.w) A0 (EndT D A0 g (F h2) [] ι2 H2 s2) gs s2
/-- its names as the call binds them -/
def startN (n : Nat) (ws : List W) : Slo := ws.map some ++ List.replicate (n - ws.length) none
section
variable {X : Cx} {pins : List (Addr × Obj)} {σ : L2.St} {H : Hp} {s : Shared}
theorem LS0.ls {D : GD} {A0 : Around} {g : Nat} {a : Addr} {go : Obj} {F : List O → GO} {ws : List W} {vs : List V} {gs : GenState} (ok : D.Ok) (hpn : D.pn = [(a, go)]) (hK : D.K = X.K ∧ D.mg = X.mg ∧ D.P = X.prog ∧ D.w = X.w ∧ D.base = X.base ∧ D.outer = X.stack) (l : LS0 X pins D A0 g a go F ws vs gs s σ H) {ι : Ix} {h : List O} (r : RWs D.K D.mg ι H ws vs) (ex : ι.exs = none) (ft : Fit D.K D.mg ι H h) :
    LS X pins D A0 g a go (F h) gs [] s ι σ H := by
  obtain ⟨k1, k2, k3, k4, k5, k6⟩ := hK
  refine ⟨l.I, l.hL, l.nL, l.ha, l.na, l.en, fun sf => l.wk _ ι H h sf r ex ft ⟨⟨by rw [k5]; exact l.I.bs, by rw [k5, k6]; exact l.I.stack, by rw [k6]; exact l.I.stkFree, by rw [k3, k4]; exact l.I.hok, allBare_setGen l.I.bare rfl, fun p hp => ?_, l.nL, l.hL⟩, fun o e => e, fun p hp => by simp at hp, fun i x hi e _ => ?_⟩⟩
  · rw [hpn] at hp
    rw [List.mem_singleton.mp hp]
    exact ⟨l.ha, l.na⟩
  · show (s.gens.setIfInBounds g _)[i]? = _
    rw [Array.getElem?_setIfInBounds_ne (Ne.symm hi)]
    exact e
end
end N
set_option maxHeartbeats 1000000
namespace N
open PySem PySem.Spec PyProof.Rows GenW L2 G
section
variable {X : Cx} {pins : List (Addr × Obj)} {N : List Str} {nm : Str} {sc : Scope} {f : Addr} {cdv : Value} {A0 : Around} {L : Addr} {pn : List (Addr × Obj)} {g : Nat} {a : Addr} {go : Obj} {T : GO} {gs : GenState} {ip : List (Addr × Obj)} {s : Shared} {ι : Ix} {σ : L2.St} {H : Hp}
theorem LS.after (S : Stat X pins (gX X N nm sc f cdv A0 L pn) g a go) (l : LS X pins (gX X N nm sc f cdv A0 L pn) A0 g a go T gs ip s ι σ H) {s1 s2 : Shared} {H1 : Hp} (st : (gX X N nm sc f cdv A0 L pn).Step ip (s.setGen g .running) H s1 H1)
    (at1 : (gX X N nm sc f cdv A0 L pn).At s1 H1) (hk : ∀ b o, s1.heap.get? b = some o → s2.heap.get? b = some o) (ho : s2.os = s1.os) (hb : AllBare s2.gens) : Inv X pins σ H1 s2 := by
  obtain ⟨os, ch, un, may⟩ := st
  refine l.I.call' (ch := ch) (ho.trans os) (un.trans (Un.kept hk)) (at1.hok.kept hk) hb fun b hb' => ?_
  have hL : L ≤ b := by
    rcases may b hb' with q | q
    · exact Nat.le_of_eq q.symm
    · exact Nat.le_of_lt q.1
  have lx : X.env.locals < L := S.lx
  exact ⟨.inr (Nat.le_trans S.ls hL), Nat.ne_of_gt (Nat.lt_of_lt_of_le lx hL), fun x c e => Nat.ne_of_lt (Nat.lt_of_lt_of_le (S.cel x c e) hL), fun p hp => Nat.ne_of_lt (Nat.lt_of_lt_of_le (S.pin p hp) hL)⟩
end
end N
set_option maxHeartbeats 1000000
namespace N
open PySem PySem.Spec PyProof.Rows GenW L2 G
section
variable {X : Cx} {E : WX} {pos : Pos}
/-- the call of a generator def, as a generator that has not begun -/
def AftC {α : Type} (K : PySem.W.Frag) (mg : Str → Option Value) (ι : Ix) (H : Hp) (r : ER α) (P : Ix → Hp → α → List O → Prop) (E : XK) : Prop := match r with
  | .ok ws h1 => ∀ ι1 H1, Grow ι ι1 H H1 → P ι1 H1 ws h1
  | .exc x h1 => ∀ ι2 c d H2, Grow ι ι2 H H2 → Fit K mg ι2 H2 h1 → RX K mg ι2 H2 x c d → E c d H2
  | .stuck => False
theorem AftC.sbind {α : Type} {K : PySem.W.Frag} {mg : Str → Option Value} {z : Option (Addr × Addr)} {ι : Ix} {H : Hp} {r : ER α} {f2 : α → List O → SR} {Dd : Ends} {E : WX} {σn : Slo} {σ : L2.St} (sl : Sl K mg ι H z σn σ) (q : AftS K mg z ι H (r.sbind σn f2) Dd E) : AftC K mg ι H r (fun ι1 H1 ws h1 => AftS K mg z ι1 H1 (f2 ws h1) Dd E) (fun c d H' => E c d σ H') := by
  cases r with
  | ok ws h1 => exact fun ι1 H1 g => AftS.step q g
  | exc y h1 => exact fun ι2 c d H2 g2 fi2 r2 => q ι2 c d σ H2 g2 fi2 (sl.mono g2) r2
  | stuck => exact q
theorem AftC.bind {α γ δ : Type} {K : PySem.W.Frag} {mg : Str → Option Value} {ι : Ix} {H : Hp} {r : ER α} {f2 : α → List O → ER γ} {rel : Ix → Hp → γ → δ → Prop} {Q : δ → Hp → Prop} {E : XK} (q : Aft K mg ι H (r.bind f2) rel Q E) : AftC K mg ι H r (fun ι1 H1 ws h1 => Aft K mg ι1 H1 (f2 ws h1) rel Q E) E := by
  cases r with
  | ok ws h1 => exact fun ι1 H1 g => Aft.step q g
  | exc y h1 => exact q
  | stuck => exact q
end
end N
set_option maxHeartbeats 1000000
namespace N
open PySem L2
def spLaw (K : PySem.W.Frag) : Sp := fun vs H Q E => ∃ (a : Addr) (ns : List Int), vs = [V.ref a] ∧ Only H ∧ SqL K H a (ns.map V.int) ∧ ns.length ≤ 63 ∧ Q = fun v _ => v = .bl true
theorem lro_script {K : PySem.W.Frag} {mg : Str → Option Value} {H : Hp} {a : Addr} {ns : List Int} (o : Only H) (h : SqL K H a (ns.map V.int)) : RW K mg ⟨[], [], none⟩ H (.lro (ns.map W.int)) (.ref a) := by
  have r : RWs K mg ⟨[], [], none⟩ H (ns.map W.int) (ns.map V.int) := by
    clear h
    induction ns with
    | nil => exact .nil
    | cons n ns ih => exact .cons (.int _) ih
  refine .lro ?_ r
  rcases h with (h | ⟨ob, h⟩) | h
  · rcases o a with q | ⟨ob, xs, q⟩
    · rw [q] at h; cases h
    · rw [q] at h; cases h
  · exact .inl ⟨⟨List.not_mem_nil, List.not_mem_nil⟩, ob, h⟩
  · exact .inr (.inr h)
end N
set_option maxHeartbeats 1000000
set_option maxHeartbeats 1000000
namespace N
open PySem L2
def flatEq : W → W → Bool
  | .int i, .int j => i == j
  | .str i, .str j => i == j
  | _, _ => false
def flatLt : W → W → Bool
  | .int i, .int j => decide (i < j)
  | .str i, .str j => decide (i.cps.toList < j.cps.toList)
  | _, _ => false
def likeW : List W → List W → Bool
  | .int _ :: xs, .int _ :: ys => likeW xs ys
  | .str _ :: xs, .str _ :: ys => likeW xs ys
  | [], _ => true
  | _, [] => true
  | _, _ => false
def nLtT (h : List O) (x y : W) : Option W := match x, y with
  | .tup xs, .tup ys => if likeW xs ys = true then some (.bl (Ob.lexAt (fun j => flatEq (xs.getD j .non) (ys.getD j .non)) (fun j => flatLt (xs.getD j .non) (ys.getD j .non)) (decide (xs.length < ys.length)) 0 (min xs.length ys.length))) else none
  | x, y => nLt h x y
theorem like_at {K : PySem.W.Frag} {mg : Str → Option Value} {ι : Ix} {H : Hp} : ∀ {xs ys : List W} {vs us : List V} {its its2 : List Value}, likeW xs ys = true → RWs K mg ι H xs vs → RWs K mg ι H ys us → Vals vs its → Vals us its2 → ∀ j (h1 : j < its.length) (h2 : j < its2.length),
    (∃ a b t u, its[j] = .int a t ∧ its2[j] = .int b u ∧ xs.getD j .non = .int a ∧ ys.getD j .non = .int b) ∨ ∃ a b t u, its[j] = .str a t ∧ its2[j] = .str b u ∧ xs.getD j .non = .str a ∧ ys.getD j .non = .str b
  | [], _, _, _, _, _, _, r, _, v, _, j, h1, _ => by cases r; cases v; simp at h1
  | _ :: _, [], _, _, _, _, _, _, r, _, v, j, _, h2 => by cases r; cases v; simp at h2
  | x :: xs, y :: ys, _, _, _, _, hl, .cons r1 r2, .cons q1 q2, .cons v1 v2, .cons u1 u2, j, h1, h2 => by
    have key : likeW xs ys = true ∧ ((∃ a b, x = .int a ∧ y = .int b) ∨ ∃ a b, x = .str a ∧ y = .str b) := by
      cases x <;> cases y <;> first
        | exact ⟨hl, .inl ⟨_, _, rfl, rfl⟩⟩
        | exact ⟨hl, .inr ⟨_, _, rfl, rfl⟩⟩
        | (simp [likeW] at hl)
    cases j with
    | zero =>
      rcases key.2 with ⟨a, b, rfl, rfl⟩ | ⟨a, b, rfl, rfl⟩
      · cases r1; cases q1
        obtain ⟨t, rfl⟩ := (show ∃ t, _ = Value.int a t from v1)
        obtain ⟨u, rfl⟩ := (show ∃ t, _ = Value.int b t from u1)
        exact .inl ⟨a, b, t, u, rfl, rfl, rfl, rfl⟩
      · cases r1; cases q1
        obtain ⟨t, rfl⟩ := (show ∃ t, _ = Value.str a t from v1)
        obtain ⟨u, rfl⟩ := (show ∃ t, _ = Value.str b t from u1)
        exact .inr ⟨a, b, t, u, rfl, rfl, rfl, rfl⟩
    | succ j => exact like_at key.1 r2 q2 v2 u2 j (by simpa using h1) (by simpa using h2)
theorem RcOp_lt_str {A : Around} {s : Shared} (a b : Str) (t u : Tok) : Ob.RcOp .Lt A s (.str a t) (.str b u) (decide (a.cps.toList < b.cps.toList)) := fun _ _ _ _ h => PyProof.Rows.lt_str h
section
variable {X : Cx}
theorem on_ltT (hu : X.A.units < cLine) : OpR X (compareOp .Lt) (r2N X.K X.mg nLtT) := by
  intro pins s σ H x y v u Q I rx ry ⟨ι, h, w1, w2, w, ft, r1, r2, e, k⟩
  have old : nLtT h w1 w2 = nLt h w1 w2 → wpAny (model X.prog X.w) X.A (compareOp .Lt v u) (EP X pins σ Q) X.xe s := fun e0 => on_lt pins s σ H x y v u Q I rx ry ⟨ι, h, w1, w2, w, ft, r1, r2, by rw [← e0]; exact e, k⟩
  cases w1 with
  | tup xs =>
    cases w2 with
    | tup ys =>
      unfold nLtT at e
      dsimp only at e
      split at e
      case isFalse => cases e
      case isTrue hl =>
        cases e
        cases r1 with
        | @tup _ a vs a0 a1 a2 =>
          cases r2 with
          | @tup _ b us b0 b1 b2 =>
            cases rx
            cases ry
            obtain ⟨its, q1, p1, _⟩ := I.tuple (SqT.of a1)
            obtain ⟨its2, q2, p2, _⟩ := I.tuple (SqT.of b1)
            have s1 : its.toArray.size = xs.length := by rw [List.size_toArray, ← q1.length, a2.len]
            have s2 : its2.toArray.size = ys.length := by rw [List.size_toArray, ← q2.length, b2.len]
            have R := Ob.RcOp.tuples_lt (A := X.A) (s := s) (e := fun j => flatEq (xs.getD j .non) (ys.getD j .non)) (r := fun j => flatLt (xs.getD j .non) (ys.getD j .non)) p1 p2 hu (fun j h1 h2 => by
              rcases like_at hl a2 b2 q1 q2 j (by simpa using h1) (by simpa using h2) with ⟨i, i', t, t', e1, e2, e3, e4⟩ | ⟨i, i', t, t', e1, e2, e3, e4⟩
              · simp only [List.getElem_toArray, e1, e2, e3, e4]
                exact SeqAt.EqAt.int_int _ _ _ _
              · simp only [List.getElem_toArray, e1, e2, e3, e4]
                exact SeqAt.EqAt.str_str _ _ _ _) (fun j h1 h2 _ => by
              rcases like_at hl a2 b2 q1 q2 j (by simpa using h1) (by simpa using h2) with ⟨i, i', t, t', e1, e2, e3, e4⟩ | ⟨i, i', t, t', e1, e2, e3, e4⟩
              · simp only [List.getElem_toArray, e1, e2, e3, e4]
                exact Ob.RcOp.lt_int _ _ _ _
              · simp only [List.getElem_toArray, e1, e2, e3, e4]
                exact RcOp_lt_str _ _ _ _)
            rw [s1, s2] at R
            exact R X.prog X.w X.xe (EP X pins σ Q) ⟨.bl _, H, I, rfl, k ι _ H .refl ft (.bl _)⟩
    | _ => exact old rfl
  | _ => exact old rfl
end
end N
set_option maxHeartbeats 1000000
namespace N
open PySem L2
def mSlot (c : Str) (i : Nat) (m : ME) : ME := fun σ h => (m σ h).bind fun w h1 => match w with
  | .ref n => match h1[n]? with
    | some (.ins d ws) => if d = c then (match ws[i]? with
      | some (some x) => .ok x h1
      | _ => .stuck) else .stuck
    | _ => .stuck
  | _ => .stuck
def mPut (c : Str) (i : Nat) (mo mv : ME) : MS := fun σ h => (mv σ h).sbind σ fun v h1 => (mo σ h1).sbind σ fun w h2 => match w with
  | .ref n => match h2[n]? with
    | some (.ins d ws) => if d = c then .nx σ (h2.set n (.ins c (putW i v ws))) else .stuck
    | _ => .stuck
  | _ => .stuck
def isIns (c : Str) (h : List O) (w : W) : Bool := match w with
  | .ref n => match h[n]? with
    | some (.ins d _) => d == c
    | _ => false
  | _ => false
def mMeth (c : Str) (f : MF) (mo : ME) (ma : MA) : ME := fun σ h => (mo σ h).bind fun w h1 => if isIns c h1 w = true then (ma σ h1).bind fun ws h2 => f (w :: ws) h2 else .stuck
def mMake (c : Str) (f : MF) (ma : MA) : ME := fun σ h => (ma σ h).bind fun ws h1 => (f (.ref h1.length :: ws) (h1 ++ [.ins c []])).bind fun r h2 => match r with
  | .non => .ok (.ref h1.length) h2
  | _ => .stuck
end N
set_option maxHeartbeats 1000000
set_option maxHeartbeats 1000000
set_option maxHeartbeats 1000000
namespace N
open PySem PySem.Spec L2
def tupOf : W → Option (List Int)
  | .tup ws => intsW ws
  | _ => none
def tupsOf : List W → Option (List (List Int))
  | [] => some []
  | w :: ws => match tupOf w, tupsOf ws with
    | some n, some ns => some (n :: ns)
    | _, _ => none
end N
set_option maxHeartbeats 1000000
namespace N
open PySem PySem.Spec L2
section
variable {K : PySem.W.Frag} {mg : Str → Option Value} {ι : Ix} {H : Hp} {h : List O}
theorem keyKs_at {H : Hp} : ∀ {ws : List W} {ks : List Key}, keyKs ws = some ks → RWs K mg ι H ws (ks.map kV)
  | [], _, e => by cases e; exact .nil
  | w :: ws, ks, e => by
    cases e1 : keyK w with
    | none => simp [keyKs, e1] at e
    | some k =>
      cases e2 : keyKs ws with
      | none => simp [keyKs, e1, e2] at e
      | some ks' =>
        simp only [keyKs, e1, e2, Option.some.injEq] at e
        subst e
        refine .cons ?_ (keyKs_at e2)
        cases w with
        | int i => cases e1; exact .int i
        | str i => cases e1; exact .str i
        | _ => cases e1
theorem key_rw (f : Fit K mg ι H h) {w : W} {ks : List Key} {b : Addr} (e : keyT w = some ks) (hb : H b = some (.tup (ks.map kV))) : RW K mg ι H w (.ref b) := by
  cases w with
  | tup ws => exact .tup (f.outT hb) hb (keyKs_at e)
  | _ => cases e
end
end N
set_option maxHeartbeats 1000000
set_option maxHeartbeats 1000000
set_option maxHeartbeats 4000000
set_option maxHeartbeats 2000000
namespace N
open PySem PySem.Spec PyProof.Rows L2
/-- each item once -/
def dd (l : List (List Int)) : List (List Int) := l.foldr (fun x acc => if x ∈ acc then acc else x :: acc) []
def lenSetW (ws : List W) : Option Nat := match intsW ws with
  | some ns => if ns.length + 1 < scanBound then some (firstMet (fun i => ns.getD i 0) ns.length).length else none
  | none => match tupsOf ws with
    | some nss => if nss.length < 64 then some (dd nss).length else none
    | none => none
def mLenSet (m : ME) : ME := fun σ h => (m σ h).bind fun x h1 => ofO h1 (((seqU h1 x).bind lenSetW).map fun n => .int n)
end N
set_option maxHeartbeats 1000000
set_option maxHeartbeats 1000000
namespace N
open PySem L2
def mDctN (t : Bool) : ME := fun _ h => .ok (.ref h.length) (h ++ [.dct false t []])
end N
set_option maxHeartbeats 1000000
namespace N
open PySem L2
def fmtW : W → Option Str
  | .str y => if y.length ≤ sizeLine then some y else none
  | .int i => if i.natAbs.log2 < 1920 then some (toString i) else none
  | _ => none
def mFmt (m : ME) : ME := fun σ h => (m σ h).bind fun x h1 => ofO h1 ((fmtW x).map .str)
end N
set_option maxHeartbeats 1000000
namespace N
open PySem L2
def isiC (c : Str) (h : List O) (w : W) : Option Bool := if isIns c h w = true then some true else match tyW h w with
  | some T => if T ∈ (["NoneType", "bool", "int", "str", "tuple", "list", "dict"] : List String) then some false else none
  | none => none
def mIsi (c : Str) (m : ME) : ME := fun σ h => (m σ h).bind fun x h1 => ofO h1 ((isiC c h1 x).map .bl)
end N
set_option maxHeartbeats 1000000
namespace N
open PySem PySem.Spec PyProof.Rows L2
section
variable {X : Cx} {E : WX} {e : Expr} {m : ME} {p pos : Pos}
def isLen (r : W) : Bool := match r with
  | .int i => decide (0 ≤ i ∧ i < 2 ^ 63)
  | _ => false
def mLenC (c : Str) (f : MF) (m : ME) : ME := fun σ h => (m σ h).bind fun w h1 => if isIns c h1 w = true then (f [w] h1).bind fun r h2 => if isLen r = true then .ok r h2 else .stuck else ofO h1 (nLen h1 [w])
end
end N
set_option maxHeartbeats 1000000
namespace N
open PySem PySem.Spec PyProof.Rows L2
section
variable {X : Cx} {E : WX} {e : Expr} {m : ME} {p pos : Pos}
def isStrW (r : W) : Bool := match r with
  | .str _ => true
  | _ => false
def mStrC (c : Str) (f : MF) (m : ME) : ME := fun σ h => (m σ h).bind fun w h1 => if isIns c h1 w = true then (f [w] h1).bind fun r h2 => if isStrW r = true then .ok r h2 else .stuck else ofO h1 (nStr h1 [w])
end
end N
set_option maxHeartbeats 1000000
namespace N
open PySem PySem.Spec PyProof.Rows L2
def lockH (h : List O) : W → List O
  | .ref n => match h[n]? with
    | some (.dct _ t kvs) => h.set n (.dct true t kvs)
    | _ => h
  | _ => h
/-- what a dict at d holds, locked by ob -/
def DLk (K : PySem.W.Frag) (mg : Str → Option Value) (ι : Ix) (H : Hp) (d : Addr) (ob : Obj) (t : Bool) (kvs : List (W × W)) : Prop :=
  if t = true then ∃ qs, H d = some (.frz ob (.dT qs)) ∧ RWt K mg ι H kvs qs else ∃ qs, H d = some (.frz ob (.dK qs)) ∧ RWk K mg ι H kvs qs
section
variable {X : Cx} {pins : List (Addr × Obj)} {σ : L2.St} {s : Shared} {ι : Ix} {H : Hp} {h : List O}
theorem grow_lock (f : Fit X.K X.mg ι H h) {d : Addr} {u : HO} (e : H d = some u) (hb : ∀ ob, bare (.frz ob u) = bare u) (hn : ∀ ob u', u ≠ .frz ob u') (hh : d ∉ ι.hid) (ob : Obj) : Grow ι ι H (upd H d (.frz ob u)) := by
  refine ⟨⟨⟨[], by simp⟩, fun a o n q => ⟨n, ?_⟩, rfl, fun a ob' u' q => ?_⟩, rfl, fun a ha => upd_ne (fun z => hh (z ▸ ha))⟩
  · by_cases hx : a = d
    · subst hx
      rw [e] at q; cases q
      exact ⟨_, upd_same, .inl (hb ob)⟩
    · exact ⟨o, by rw [upd_ne hx]; exact q, .inl rfl⟩
  · have hx : a ≠ d := fun z => by subst z; rw [e] at q; cases q; exact hn _ _ rfl
    rw [upd_ne hx]; exact q
theorem lock_val (I : Inv X pins σ H s) (f : Fit X.K X.mg ι H h) {d : Addr} (n : ι.out d) {u : HO} (e : Rd H d u) (mu : Mut (some u)) (hb : ∀ ob, bare (.frz ob u) = bare u) (hn : ∀ ob u', u ≠ .frz ob u') :
    ∃ ob H', Inv X pins σ H' s ∧ Grow ι ι H H' ∧ Fit X.K X.mg ι H' h ∧ H' d = some (.frz ob u) := by
  rcases e with e | ⟨ob, e⟩
  · obtain ⟨ob, I'⟩ := I.lock e mu
    have g := grow_lock f e hb hn n.2 ob
    exact ⟨ob, _, I', g, f.mono g fun a ha => upd_ne fun z => n.1 (z ▸ ha), upd_same⟩
  · exact ⟨ob, H, I, .refl, f, e⟩
theorem set_self {n : Nat} {o : O} (e : h[n]? = some o) : h.set n o = h := by
  apply List.ext_getElem?
  intro i
  by_cases hi : n = i
  · subst hi
    rw [List.getElem?_set_self (List.getElem?_eq_some_iff.mp e).1, e]
  · rw [List.getElem?_set_ne hi]
theorem lock_at (I : Inv X pins σ H s) (f : Fit X.K X.mg ι H h) {w : W} {v : V} {t : Bool} {kvs : List (W × W)} (r : RW X.K X.mg ι H w v) (e : dctOf h w = some (t, kvs)) :
    ∃ d ob H', v = .ref d ∧ Inv X pins σ H' s ∧ Grow ι ι H H' ∧ Fit X.K X.mg ι H' (lockH h w) ∧ DLk X.K X.mg ι H' d ob t kvs := by
  cases w with
  | dct t' kvs' =>
    cases e
    cases r with
    | @dctK _ a qs h0 h1 h2 =>
      obtain ⟨ob, H', I', g, f', e'⟩ := lock_val I f h0 h1 trivial (fun _ => rfl) (fun _ _ z => by cases z)
      exact ⟨a, ob, H', rfl, I', g, f', by unfold DLk; exact ⟨qs, e', RWk.mono g.g0 _ _ h2⟩⟩
    | @dctT _ a qs h0 h1 h2 =>
      obtain ⟨ob, H', I', g, f', e'⟩ := lock_val I f h0 h1 trivial (fun _ => rfl) (fun _ _ z => by cases z)
      exact ⟨a, ob, H', rfl, I', g, f', by unfold DLk; exact ⟨qs, e', RWt.mono g.g0 _ _ h2⟩⟩
  | ref n =>
    cases r with
    | @ref _ a hn =>
      cases eo : h[n]? with
      | none => simp [dctOf, eo] at e
      | some o =>
        cases o with
        | dct lk t' kvs' =>
          simp only [dctOf, eo, Option.some.injEq, Prod.mk.injEq] at e
          obtain ⟨rfl, rfl⟩ := e
          have am := List.mem_of_getElem? hn
          have nh : a ∉ ι.hid := fun z => (f.hd a z).2 am
          have el : lockH h (.ref n) = h.set n (.dct true t' kvs') := by simp [lockH, eo]
          rw [el]
          have ro := f.obj _ _ _ eo hn
          cases ro with
          | @dctK _ _ _ qs a1 a2 =>
            cases lk with
            | false =>
              have a1 : H a = some (.dK qs) := a1
              obtain ⟨ob, I'⟩ := I.lock a1 trivial
              have g := f.growP hn (nf a1) (.frz ob (.dK qs))
              exact ⟨a, ob, _, rfl, I', g, f.put hn (nf a1) (.dctK (lk := true) ⟨ob, upd_same⟩ (RWk.mono g.g0 _ _ a2)), by unfold DLk; exact ⟨qs, upd_same, RWk.mono g.g0 _ _ a2⟩⟩
            | true =>
              obtain ⟨ob, a1⟩ : ∃ ob, H a = some (.frz ob (.dK qs)) := a1
              rw [set_self eo]
              exact ⟨a, ob, H, rfl, I, .refl, f, by unfold DLk; exact ⟨qs, a1, a2⟩⟩
          | @dctT _ _ _ qs a1 a2 =>
            cases lk with
            | false =>
              have a1 : H a = some (.dT qs) := a1
              obtain ⟨ob, I'⟩ := I.lock a1 trivial
              have g := f.growP hn (nf a1) (.frz ob (.dT qs))
              exact ⟨a, ob, _, rfl, I', g, f.put hn (nf a1) (.dctT (lk := true) ⟨ob, upd_same⟩ (RWt.mono g.g0 _ _ a2)), by unfold DLk; exact ⟨qs, upd_same, RWt.mono g.g0 _ _ a2⟩⟩
            | true =>
              obtain ⟨ob, a1⟩ : ∃ ob, H a = some (.frz ob (.dT qs)) := a1
              rw [set_self eo]
              exact ⟨a, ob, H, rfl, I, .refl, f, by unfold DLk; exact ⟨qs, a1, a2⟩⟩
        | _ => simp [dctOf, eo] at e
  | _ => cases e
end
section
variable {K : PySem.W.Frag} {mg : Str → Option Value} {ι : Ix} {H : Hp} {h : List O}
theorem kW_key {w : W} {k : Key} (e : keyK w = some k) (ι : Ix) (H : Hp) : RW K mg ι H w (kV k) := by
  cases w with
  | int i => cases e; exact .int i
  | str i => cases e; exact .str i
  | _ => cases e
theorem rwk_get : ∀ {kvs : List (W × W)} {qs : List (Key × V)} {i : Nat} {k : Key} {v : V}, RWk K mg ι H kvs qs → qs[i]? = some (k, v) → ∃ p, kvs[i]? = some p ∧ keyK p.1 = some k ∧ RW K mg ι H p.2 v
  | [], _, i, k, v, r, e => by cases r; simp at e
  | p :: kvs, _, 0, k, v, .cons h0 h1 h2, e => by cases e; exact ⟨p, rfl, h0, h1⟩
  | p :: kvs, _, i + 1, k, v, .cons h0 h1 h2, e => rwk_get (i := i) h2 e
theorem rwt_get : ∀ {kvs : List (W × W)} {qs : List (List Key × V)} {i : Nat} {k : List Key} {v : V}, RWt K mg ι H kvs qs → qs[i]? = some (k, v) → ∃ p, kvs[i]? = some p ∧ keyT p.1 = some k ∧ RW K mg ι H p.2 v
  | [], _, i, k, v, r, e => by cases r; simp at e
  | p :: kvs, _, 0, k, v, .cons h0 h1 h2, e => by cases e; exact ⟨p, rfl, h0, h1⟩
  | p :: kvs, _, i + 1, k, v, .cons h0 h1 h2, e => rwt_get (i := i) h2 e
theorem rwk_len : ∀ {kvs : List (W × W)} {qs : List (Key × V)}, RWk K mg ι H kvs qs → qs.length = kvs.length
  | [], _, r => by cases r; rfl
  | p :: kvs, _, .cons _ _ h2 => by rw [List.length_cons, List.length_cons, rwk_len h2]
theorem rwt_len : ∀ {kvs : List (W × W)} {qs : List (List Key × V)}, RWt K mg ι H kvs qs → qs.length = kvs.length
  | [], _, r => by cases r; rfl
  | p :: kvs, _, .cons _ _ h2 => by rw [List.length_cons, List.length_cons, rwt_len h2]
theorem itN_keys {d : Addr} {ob : Obj} {kvs : List (W × W)} {qs : List (Key × V)} (e : H d = some (.frz ob (.dK qs))) (r : RWk K mg ι H kvs qs) : ItN K mg ι H (kvs.map (·.1), fun _ => true) (Itk d ob qs) := by
  refine ⟨qs.length, _, _, walk_keys, by rw [List.length_map, rwk_len r], fun ι2 H2 h2 g f _ => g.lk _ _ _ e, fun i ι2 H2 h2 x H3 hi g f _ y => ?_⟩
  obtain ⟨rfl, k, v, hk, rfl⟩ := y
  obtain ⟨p, hp, ek, _⟩ := rwk_get r hk
  exact ⟨p.1, by rw [List.getElem?_map, hp]; rfl, kW_key ek _ _, .refl, f⟩
theorem itN_keysT {d : Addr} {ob : Obj} {kvs : List (W × W)} {qs : List (List Key × V)} (e : H d = some (.frz ob (.dT qs))) (r : RWt K mg ι H kvs qs) : ItN K mg ι H (kvs.map (·.1), fun _ => true) (Itkt d ob qs) := by
  refine ⟨qs.length, _, _, walk_keysT, by rw [List.length_map, rwt_len r], fun ι2 H2 h2 g f _ => g.lk _ _ _ e, fun i ι2 H2 h2 x H3 hi g f _ y => ?_⟩
  obtain ⟨rfl, k, v, q, hk, rfl, hq⟩ := y
  obtain ⟨p, hp, ek, _⟩ := rwt_get r hk
  exact ⟨p.1, by rw [List.getElem?_map, hp]; rfl, key_rw f ek hq, .refl, f⟩
end
def itD (h : List O) (w : W) : Option ((List W × (List O → Bool)) × List O) := match dctOf h w with
  | some (_, kvs) => some ((kvs.map (·.1), fun _ => true), lockH h w)
  | none => (itW h w).map fun a => (a, h)
def mItD (m : ME) : MI := fun σ h => (m σ h).bind fun w h1 => ofH (itD h1 w)
def itI (h : List O) (w : W) : Option ((List W × (List O → Bool)) × List O) := match dctOf h w with
  | some (false, kvs) => some ((kvs.map fun p => .tup [p.1, p.2], fun _ => true), lockH h w)
  | _ => none
def mItems (m : ME) : MI := fun σ h => (m σ h).bind fun w h1 => ofH (itI h1 w)
section
variable {X : Cx} {E : WX} {tg : Expr}
theorem ni_anyD {e : Expr} {m : ME} (he : NE X E e m) : NI X E tg e (mItD m) := by
  refine ⟨fun pins s σ H R I hq => ?_⟩
  have key : tN X.K X.mg (zX X) E m σ H fun x H1 => (∃ a, x = .ref a ∧ (∃ xs, SqL X.K H1 a xs) ∧ R (Itl X.K a) H1) ∨ (∃ a, x = .ref a ∧ (∃ xs, SqT X.K H1 a xs) ∧ R (Itt X.K a) H1) ∨ (∃ z, x = .str z ∧ R (Its z) H1) ∨
      ∀ s2, Inv X pins σ H1 s2 → ∃ d ob H2, x = .ref d ∧ Inv X pins σ H2 s2 ∧ ((∃ qs, H2 d = some (.frz ob (.dK qs)) ∧ R (Itk d ob qs) H2) ∨ ∃ qs, H2 d = some (.frz ob (.dT qs)) ∧ R (Itkt d ob qs) H2) := by
    obtain ⟨ι, σn, h, ft, sl, q⟩ := hq
    refine ⟨ι, σn, h, ft, sl, Aft.bind q fun ι1 w h1 v H1 g1 f1 r1 q1 => ?_⟩
    cases ed : dctOf h1 w with
    | some tk =>
      obtain ⟨t, kvs⟩ := tk
      simp only [itD, ed, ofH_some] at q1
      refine .inr (.inr (.inr fun s2 I2 => ?_))
      obtain ⟨d, ob, H', rfl, I', g, f', dl⟩ := lock_at I2 f1 r1 ed
      refine ⟨d, ob, H', rfl, I', ?_⟩
      cases t with
      | false =>
        obtain ⟨qs, e1, e2⟩ : ∃ qs, H' d = some (.frz ob (.dK qs)) ∧ RWk X.K X.mg ι1 H' kvs qs := by unfold DLk at dl; exact dl
        exact .inl ⟨qs, e1, q1 ι1 _ H' g f' (itN_keys e1 e2)⟩
      | true =>
        obtain ⟨qs, e1, e2⟩ : ∃ qs, H' d = some (.frz ob (.dT qs)) ∧ RWt X.K X.mg ι1 H' kvs qs := by unfold DLk at dl; exact dl
        exact .inr ⟨qs, e1, q1 ι1 _ H' g f' (itN_keysT e1 e2)⟩
    | none =>
      simp only [itD, ed] at q1
      cases w with
      | str z => cases r1; exact .inr (.inr (.inl ⟨z, rfl, q1 ι1 _ H1 .refl f1 itN_str⟩))
      | tup ws =>
        cases r1 with
        | @tup _ a vs h0 h2 h3 => exact .inr (.inl ⟨a, rfl, ⟨vs, SqT.of h2⟩, q1 ι1 _ H1 .refl f1 (itN_tup (vs := vs) fun ι2 H2 _ g f => ⟨vs, SqT.of (g.tup h0 h2).2, RWs.mono g _ _ h3⟩)⟩)
      | tro ws =>
        cases r1 with
        | @tro _ a vs h2 h3 => exact .inr (.inl ⟨a, rfl, ⟨vs, NoH.sqT h2⟩, q1 ι1 _ H1 .refl f1 (itN_tup (vs := vs) fun ι2 H2 _ g f => ⟨vs, NoH.sqT h2, RWs.mono g _ _ h3⟩)⟩)
      | lst ws =>
        cases r1 with
        | @lst _ a vs h0 h2 h3 => exact .inl ⟨a, rfl, ⟨vs, SqL.of h2⟩, q1 ι1 _ H1 .refl f1 (itN_lst (vs := vs) fun ι2 H2 _ g f _ => ⟨vs, SqL.of (g.lst h0 h2).2, RWs.mono g _ _ h3⟩)⟩
      | lro ws =>
        cases r1 with
        | @lro _ a vs h2 h3 => exact .inl ⟨a, rfl, ⟨vs, h2.sq⟩, q1 ι1 _ H1 .refl f1 (itN_lst (vs := vs) fun ι2 H2 _ g f _ => ⟨vs, (g.fxL h2).sq, RWs.mono g _ _ h3⟩)⟩
      | ref n =>
        cases r1 with
        | @ref _ a hn =>
          cases eo : h1[n]? with
          | none => simp only [itW, eo] at q1; exact q1.elim
          | some o =>
            cases o with
            | lst ws =>
              simp only [itW, eo, Option.map_some, ofH_some] at q1
              cases f1.obj _ _ _ eo hn with
              | @lst _ _ vs a1 a2 =>
                refine .inl ⟨a, rfl, ⟨vs, SqL.of a1⟩, q1 ι1 _ H1 .refl f1 (itN_lst (vs := vs) fun ι2 H2 h2 g f c => ?_)⟩
                unfold chkL at c
                cases e2 : h2[n]? with
                | none => rw [e2] at c; cases c
                | some o2 =>
                  rw [e2] at c
                  cases o2 with
                  | lst xs =>
                    have := beqWs_eq _ _ c
                    subst this
                    cases f.obj _ _ _ e2 (g.at hn) with
                    | @lst _ _ vs2 b1 b2 => exact ⟨vs2, SqL.of b1, b2⟩
                  | _ => cases c
            | _ => simp only [itW, eo] at q1; exact q1.elim
      | _ => exact q1.elim
  refine thn (he.run pins s σ H _ I key) fun v s1 ⟨x, H1, I1, r1, q1⟩ => ?_
  rcases q1 with ⟨a, rfl, hx, q1⟩ | ⟨a, rfl, hx, q1⟩ | ⟨z, rfl, q1⟩ | q1
  · cases r1
    obtain ⟨xs, hx⟩ := hx
    obtain ⟨its, rv, p, hz⟩ := I1.list hx
    exact wpAny_pyIter_list p.isList (pi_one (tk := s1.toks) I1 _ (turn_list a _) ⟨_, Heap.get?_push_size _ rfl, rfl, rfl⟩ q1)
  · cases r1
    obtain ⟨xs, hx⟩ := hx
    obtain ⟨its, rv, p, hz⟩ := I1.tuple hx
    exact wpAny_pyIter_tuple (show s1.heap.IsTuple a its.toArray from p) (pi_one (tk := s1.toks) I1 _ (turn_tuple a _) ⟨_, Heap.get?_push_size _ rfl, rfl, rfl⟩ q1)
  · obtain ⟨t, rfl⟩ := r1
    cases ha : z.cps.all (· < 128)
    · exact wpAny_pyIter_wide ha (pi_one (tk := s1.toks) I1 _ (turn_str _ z t "str_iterator" (.inr rfl)) ⟨_, Heap.get?_push_size _ rfl, rfl, rfl⟩ q1)
    · exact wpAny_pyIter_ascii ha (pi_one (tk := s1.toks) I1 _ (turn_str _ z t "str_ascii_iterator" (.inl rfl)) ⟨_, Heap.get?_push_size _ rfl, rfl, rfl⟩ q1)
  · obtain ⟨d, ob, H2, rfl, I2, q1⟩ := q1 s1 I1
    cases r1
    rcases q1 with ⟨qs, hd, q1⟩ | ⟨qs, hd, q1⟩
    · obtain ⟨hs, hgd, hx, es, ep, vs, hdt, hsz, kv, hm⟩ := I2.frzK hd
      refine iter_keys hs hgd hx hdt (pi_one (tk := s1.toks) I2 _ (turn_keys _ hdt) ⟨_, Heap.get?_push_size _ rfl, rfl, ?_⟩ q1)
      rw [hsz] <;> rfl
    · obtain ⟨hs, hgd, hx, es, ep, hdt, hsz, ent⟩ := I2.frzT hd
      refine iter_keys hs hgd hx hdt (pi_one (tk := s1.toks) I2 _ (turn_keysT _ hdt) ⟨_, Heap.get?_push_size _ rfl, rfl, ?_⟩ q1)
      rw [hsz] <;> rfl
end
end N
set_option maxHeartbeats 1000000
namespace N
open PySem PySem.Spec PyProof.Rows L2
def enumP : Nat → List W → List W
  | _, [] => []
  | i, w :: ws => .tup [.int (i : Nat), w] :: enumP (i + 1) ws
def enumW (h : List O) : W → Option (List W × (List O → Bool))
  | .str z => some (enumP 0 (signsW z), fun _ => true)
  | .lst ws => some (enumP 0 ws, fun _ => true)
  | .lro ws => some (enumP 0 ws, fun _ => true)
  | .ref n => match h[n]? with
    | some (.lst ws) => some (enumP 0 ws, chkL n ws)
    | _ => none
  | _ => none
def mEnum (ma : MA) : MI := fun σ h => (ma σ h).bind fun ws h1 => match ws with
  | [w] => ofO h1 (enumW h1 w)
  | _ => .stuck
end N
set_option maxHeartbeats 1000000
namespace N
open PySem PySem.Spec PyProof.Rows L2 RZ
def zipT : List W → Option (List W × (List O → Bool))
  | [.tup xs, .tup ys] => some (zipPs xs ys, fun _ => true)
  | _ => none
def mZipT (ma : MA) : MI := fun σ h => (ma σ h).bind fun ws h1 => ofO h1 (zipT ws)
section
variable {X : Cx} {E : WX}
def nLenD (h : List O) (ws : List W) : Option W := match ws with
  | [w] => match dctOf h w with
    | some (_, kvs) => some (.int kvs.length)
    | none => nLen h [w]
  | _ => none
theorem cn_lenD : CallR X (.builtin "len") (rcN X.K X.mg (pureF nLenD)) := by
  intro pins s σ H xs us Q I r hq
  obtain ⟨ι, h, ws, w, ft, rw', e, k⟩ := rcN_pure hq
  match ws, rw', e with
  | [], _, e => cases e
  | _ :: _ :: _, _, e => cases e
  | [w1], .cons (v := v1) r1 .nil, e =>
    cases ed : dctOf h w1 with
    | none =>
      simp only [nLenD, ed] at e
      exact cn_len pins s σ H _ us Q I r ⟨ι, h, [w1], w, h, ft, .cons r1 .nil, by unfold pureF; rw [e]; rfl, k⟩
    | some tk =>
      obtain ⟨t, kvs⟩ := tk
      simp only [nLenD, ed, Option.some.injEq] at e
      subst e
      obtain ⟨a, rfl, q⟩ := dctOf_at ft r1 ed
      obtain ⟨u, rfl, ru⟩ := vals1 r
      cases ru
      rcases q with ⟨rfl, qs, hd, rk⟩ | ⟨rfl, qs, hd, rk⟩
      · have kk := k ι (.int kvs.length) H .refl ft (.int _)
        rw [← rwk_len rk] at kk
        exact d_len I hd fun t s' I' => ⟨.int qs.length, H, I', ⟨t, rfl⟩, kk⟩
      · have kk := k ι (.int kvs.length) H .refl ft (.int _)
        rw [← rwt_len rk] at kk
        obtain ⟨z, hs, ys, rel, dd⟩ := dt_rd I.hok hd
        have hl : qs.length = ys.length := Paired.length rel
        refine call_len_dictH hs dd (by rw [← hl]; rw [sizeLine_eq] at z; omega) ?_
        rw [← hl]
        exact ⟨.int ((qs.length : Nat) : Int), H, I.tok _, ⟨_, rfl⟩, kk⟩
def getL (h : List O) : W → W → Option W
  | .ref n, .int k => match h[n]? with
    | some (.lst ws) => if 0 ≤ k ∧ k < 2 ^ 63 then ws[k.toNat]? else none
    | _ => none
  | _, _ => none
def mAugS (f : List O → W → W → Option W) (mo mi me : ME) : MS := fun σ h => (mo σ h).sbind σ fun o h1 => (mi σ h1).sbind σ fun i h2 => match getL h2 o i with
  | some x => (me σ h2).sbind σ fun y h3 => match f h3 x y with
    | some z => match setW h3 o i z with
      | some h4 => .nx σ h4
      | none => .stuck
    | none => .stuck
  | none => .stuck
end
end N
set_option maxHeartbeats 1000000
set_option maxHeartbeats 1000000
set_option maxHeartbeats 1000000
set_option maxHeartbeats 1000000
set_option maxHeartbeats 1000000
namespace N
open PySem L2
section
variable {σ σ1 : Slo} {h h1 h2 h3 : List O} {x y z w : W} {k k2 : Bool} {ws us : List W} {r r' : SR} {f f' : List O → W → W → Option W} {ma mb mc m n : ME} {t u : MT} {na nb : MA} {a b : MS}
def iteE {α : Type} (k : Bool) (a b : α) : α := if k = true then a else b
def seqK (r : SR) (b : MS) : SR := match r with
  | .nx σ h => b σ h
  | r => r
def defK (r : SR) : ER W := match r with
  | .nx _ h => .ok .non h
  | .rt w h => .ok w h
  | .exc x _ h => .exc x h
  | _ => .stuck
theorem o_mod {i j : Int} (hj : 0 < j) : nMod h (.int i) (.int j) = some (.int (i % j)) := by show guardO (decide (0 < j)) _ = _; unfold guardO; rw [if_pos (decide_eq_true hj)]
theorem o_div {i j : Int} (hj : 0 < j) (hl : j.natAbs.log2 < 9000) : nDiv h (.int i) (.int j) = some (.int (i / j)) := by show guardO (decide (0 < j ∧ j.natAbs.log2 < 9000)) _ = _; unfold guardO; rw [if_pos (decide_eq_true ⟨hj, hl⟩)]
theorem o_mul {i j : Int} (hl : i.natAbs.log2 + j.natAbs.log2 < 1000000) : nMul h (.int i) (.int j) = some (.int (i * j)) := by show guardO (decide (i.natAbs.log2 + j.natAbs.log2 < 1000000)) _ = _; unfold guardO; rw [if_pos (decide_eq_true hl)]
theorem sz {n m : Nat} (h : n ≤ m) (hm : m ≤ sizeLine := by decide) : n ≤ sizeLine := Nat.le_trans h hm
theorem shaped_int {i : Int} : SeqAt.shaped (.int i) = true := by simp [SeqAt.shaped, PyData.canLay0, PyData.depth]
theorem shaped_str {i : Str} (h : PyData.strOk i = true) : SeqAt.shaped (.str i) = true := by simp [SeqAt.shaped, PyData.canLay0, PyData.depth, h]
theorem o_eqI {i j : Int} : nEq h (.int i) (.int j) = some (.bl (decide (i = j))) := by
  show (eqW (.int i) (.int j)).map W.bl = _
  unfold eqW; simp only [datW]; rw [if_pos ⟨shaped_int, shaped_int⟩]; rfl
theorem o_neI {i j : Int} : nNe h (.int i) (.int j) = some (.bl (!decide (i = j))) := by
  show (eqW (.int i) (.int j)).map (fun b => W.bl (!b)) = _
  unfold eqW; simp only [datW]; rw [if_pos ⟨shaped_int, shaped_int⟩]; rfl
theorem o_eqS {i j : Str} (hi : PyData.strOk i = true) (hj : PyData.strOk j = true) : nEq h (.str i) (.str j) = some (.bl (decide (i = j))) := by
  show (eqW (.str i) (.str j)).map W.bl = _
  unfold eqW; simp only [datW]; rw [if_pos ⟨shaped_str hi, shaped_str hj⟩]; rfl
theorem o_neS {i j : Str} (hi : PyData.strOk i = true) (hj : PyData.strOk j = true) : nNe h (.str i) (.str j) = some (.bl (!decide (i = j))) := by
  show (eqW (.str i) (.str j)).map (fun b => W.bl (!b)) = _
  unfold eqW; simp only [datW]; rw [if_pos ⟨shaped_str hi, shaped_str hj⟩]; rfl
theorem shaped_bl {i : Bool} : SeqAt.shaped (.bool i) = true := by cases i <;> simp [SeqAt.shaped, PyData.canLay0, PyData.depth]
theorem o_eqB {i j : Bool} : nEq h (.bl i) (.bl j) = some (.bl (decide (i = j))) := by
  show (eqW (.bl i) (.bl j)).map W.bl = _
  unfold eqW; simp only [datW]; rw [if_pos ⟨shaped_bl, shaped_bl⟩]; cases i <;> cases j <;> rfl
theorem o_neB {i j : Bool} : nNe h (.bl i) (.bl j) = some (.bl (!decide (i = j))) := by
  show (eqW (.bl i) (.bl j)).map (fun b => W.bl (!b)) = _
  unfold eqW; simp only [datW]; rw [if_pos ⟨shaped_bl, shaped_bl⟩]; cases i <;> cases j <;> rfl
theorem o_isiI {i : Int} : nIsi h [.int i, .ty "int"] = some (.bl true) := by
  show ((kitB "int" "int").map W.bl) = _
  rw [show kitB "int" "int" = some true by decide +kernel]; rfl
theorem o_isiB {i : Int} : nIsi h [.int i, .ty "bool"] = some (.bl false) := by
  show ((kitB "int" "bool").map W.bl) = _
  rw [show kitB "int" "bool" = some false by decide +kernel]; rfl
theorem o_isiS {i : Str} : nIsi h [.str i, .ty "str"] = some (.bl true) := by
  show ((kitB "str" "str").map W.bl) = _
  rw [show kitB "str" "str" = some true by decide +kernel]; rfl
theorem log2_le {n m : Nat} (h : n ≤ m) : n.log2 ≤ m.log2 := by
  by_cases h0 : n = 0
  · subst h0; simp
  · exact (Nat.le_log2 (by omega)).mpr (Nat.le_trans (Nat.log2_self_le h0) h)
theorem log_small {i : Int} {k : Nat} (m : Nat) (h : i.natAbs ≤ m) (hm : m.log2 < k := by decide) : i.natAbs.log2 < k := Nat.lt_of_le_of_lt (log2_le h) hm
theorem log_add {i j : Int} (h1 : i.natAbs.log2 < 100000) (h2 : j.natAbs.log2 < 100000) : i.natAbs.log2 + j.natAbs.log2 < 1000000 := by omega
end
end N
set_option maxHeartbeats 4000000
namespace N
open PySem L2
def tx (ds : List Nat) : Str := ⟨(ds.map (48 + ·)).toArray⟩
def sg (d : Nat) : W := .str ⟨#[48 + d]⟩
theorem signs_tx (ds : List Nat) : signsW (tx ds) = ds.map sg := by
  unfold signsW tx sg
  simp
theorem tx_len (ds : List Nat) : (tx ds).length = ds.length := by unfold tx Str.length; simp
theorem strs_sg (ds : List Nat) : strsW (ds.map sg) = some (ds.map fun d => ⟨#[48 + d]⟩) := by
  induction ds with
  | nil => rfl
  | cons d ds ih => simp only [List.map_cons, sg, strsW] at ih ⊢; rw [ih]; rfl
theorem fold_sg (ds : List Nat) : ∀ a : Array Nat, (ds.map fun d => (⟨#[48 + d]⟩ : Str)).foldl (fun acc p => acc ++ (#[] : Array Nat) ++ p.cps) a = a ++ (ds.map (48 + ·)).toArray := by
  induction ds with
  | nil => intro a; simp
  | cons d ds ih => intro a; simp only [List.map_cons, List.foldl_cons]; rw [ih]; simp
theorem join_sg (ds : List Nat) : Txt.join "" (ds.map fun d => (⟨#[48 + d]⟩ : Str)) = tx ds := by
  show Builtin.Str.glued _ _ = _
  unfold Builtin.Str.glued tx
  cases ds with
  | nil => rfl
  | cons d ds =>
    have e : (Str.ofString "").cps = #[] := rfl
    simp only [List.map_cons, List.drop_succ_cons, List.drop_zero, List.headD_cons]
    rw [e, fold_sg]
    simp
theorem join_ok (ds : List Nat) (h : List O) (hl : ds.length ≤ 1000000) : nJoin h (.str "") [.lst (ds.map sg)] = some (.str (tx ds)) := by
  have e1 : (List.map (fun x => x.length) (ds.map fun d => (⟨#[48 + d]⟩ : Str))).sum = ds.length := by
    induction ds with
    | nil => rfl
    | cons d ds ih =>
      have := ih (by simp at hl; omega)
      simp only [List.map_cons, List.sum_cons, this, List.length_cons]
      show 1 + ds.length = _
      omega
  have e2 : (("" : Str)).length = 0 := rfl
  simp only [nJoin, seqU, seqL, lstX, Option.bind_some, strs_sg, e1, e2, Nat.mul_zero, Nat.add_zero, join_sg]
  rw [if_pos (by omega)]
theorem digit_str (d : Nat) (h : List O) (hd : d < 4) : nStr h [.int d] = some (sg d) := by
  rcases d with _ | _ | _ | _ | d
  · rfl
  · rfl
  · rfl
  · rfl
  · omega
theorem digit_int (d : Nat) (h : List O) (hd : d < 4) : nInt h [sg d] = some (.int d) := by
  have key : ∀ d : Nat, d < 4 → PySem.intText? (⟨#[48 + d]⟩ : Str) = some (d : Int) := by
    intro d hd
    rcases d with _ | _ | _ | _ | d
    · decide +kernel
    · decide +kernel
    · decide +kernel
    · decide +kernel
    · omega
  show (if (⟨#[48 + d]⟩ : Str).length ≤ 640 then (PySem.intText? ⟨#[48 + d]⟩).map W.int else none) = _
  rw [key d hd]
  rfl
def un (x : W) : Nat := match x with | .str z => z.cps.getD 0 0 - 48 | _ => 0
theorem at1 (a b : W) (h : List O) : nIx h (.tup [a, b]) (.int 1) = some b := rfl
theorem fold_rep (n : Nat) : ∀ a : Array Nat, (List.replicate n (#[48] : Array Nat)).foldl (· ++ ·) a = a ++ (List.replicate n 48).toArray := by
  induction n with
  | zero => intro a; simp
  | succ n ih =>
    intro a
    rw [List.replicate_succ, List.foldl_cons, ih, List.replicate_succ]
    apply Array.ext'
    simp
theorem mulStr0 (n : Nat) : mulStr "0" (n : Int) = tx (List.replicate n 0) := by
  have e : ("0" : Str) = ⟨#[48]⟩ := rfl
  have l : ("0" : Str).length = 1 := rfl
  unfold mulStr tx
  rcases n with _ | _ | n
  · rfl
  · rfl
  · have h1 : ¬ (((n + 1 + 1 : Nat) : Int) < 1) := by omega
    have h2 : ((((n + 1 + 1 : Nat) : Int) == 1) || (("0" : Str).length == 0)) = false := by
      rw [l]
      simp; omega
    rw [if_neg h1, h2]
    simp only [Bool.false_eq_true, if_false, e, Int.toNat_natCast, fold_rep]
    simp
theorem rng1_ok (w : Nat) (hw : w ≤ 1000) : rng1 [.int (w : Int)] = some (rngW 0 w, fun _ => true) := by
  have hh : -(2 ^ 62) ≤ (w : Int) ∧ (w : Int) < 2 ^ 62 := by constructor <;> omega
  simp only [rng1, if_pos hh, Int.toNat_natCast]
theorem rng_len (w : Nat) : (rngW 0 w).length = w := by simp [rngW]
theorem lt_int (h : List O) (i j : Int) : nLtT h (.int i) (.int j) = some (.bl (decide (i < j))) := rfl
theorem ints_map : ∀ ns : List Int, intsW (ns.map W.int) = some ns
  | [] => rfl
  | n :: ns => by simp [intsW, ints_map ns]
theorem cut_map (ns : List Int) (lo hi : Option Int) : cutL (ns.map W.int) lo hi = (cutL ns lo hi).map W.int := by
  simp [cutL, List.map_take, List.map_drop]
theorem sl_lro (ns : List Int) (h : List O) : nSl h (.lro (ns.map W.int)) none (some 1) = some (.lst ((cutL ns none (some 1)).map W.int)) := by
  rw [← cut_map]; rfl
theorem sum_lst (ns : List Int) (h : List O) : nSum h [.lst (ns.map W.int)] = some (.int ns.sum) := by
  show ((intsW (ns.map W.int))).map (fun ns => W.int ns.sum) = _
  rw [ints_map]; rfl
theorem mul103 (i : Nat) (hi : i ≤ 1000) (h : List O) : nMul h (.int 103) (.int i) = some (.int (103 * i)) := by
  show guardO (decide ((103 : Int).natAbs.log2 + (i : Int).natAbs.log2 < 1000000)) _ = _
  have a := log_small (i := (i : Int)) (k := 900) 1000 (by omega)
  have b : (103 : Int).natAbs.log2 = 6 := by decide
  unfold guardO
  rw [if_pos (by rw [b]; exact decide_eq_true (by omega))]
theorem pow1 (h : List O) : nPow h (.int 10) (.int 47) = some (.int (10 ^ 47)) := by
  show guardO _ _ = _
  unfold guardO
  rw [if_pos (by decide +kernel)]; rfl
theorem pow2 (h : List O) : nPow h (.int (10 ^ 47)) (.int 13) = some (.int ((10 ^ 47) ^ 13)) := by
  show guardO _ _ = _
  unfold guardO
  rw [if_pos (by decide +kernel)]; rfl
theorem mod_int (h : List O) (i j : Int) (hj : 0 < j) : nMod h (.int i) (.int j) = some (.int (i % j)) := by
  show guardO (decide (0 < j)) _ = _
  unfold guardO
  rw [if_pos (decide_eq_true hj)]
theorem mul_int (h : List O) (i j : Int) (hl : i.natAbs.log2 + j.natAbs.log2 < 1000000) : nMul h (.int i) (.int j) = some (.int (i * j)) := by
  show guardO (decide (i.natAbs.log2 + j.natAbs.log2 < 1000000)) _ = _
  unfold guardO
  rw [if_pos (decide_eq_true hl)]
theorem pow3 (h : List O) : nPow h (.int 10) (.int 18) = some (.int (10 ^ 18)) := by
  show guardO _ _ = _
  unfold guardO
  rw [if_pos (by decide +kernel)]; rfl
end N
set_option maxHeartbeats 1000000
namespace N
open PySem L2
inductive Dep {A : Type} (a : A) : Type where
  | mk
def ER.bD {α β : Type} (r : ER α) (f : α → List O → ER β) (d : Dep f := .mk) : ER β := r.bind f
def ER.sD {α : Type} (r : ER α) (σ : Slo) (f : α → List O → SR) (d : Dep f := .mk) : SR := r.sbind σ f
def ER.nD {α β : Type} (r : ER α) (f : α → List O → ER β) (d : Dep f := .mk) : ER β := r.nb f
def ofR {α : Type} (o : Option α) (f : α → SR) (d : Dep f := .mk) : SR := match o with
  | some a => f a
  | none => .stuck
def ofE {α β : Type} (o : Option α) (f : α → ER β) (d : Dep f := .mk) : ER β := match o with
  | some a => f a
  | none => .stuck
/-- a run ends well, with .. -/
def Ok {α : Type} (r : ER α) (P : α → List O → Prop) (d : Dep P := .mk) : Prop := ∃ a h, r = .ok a h ∧ P a h
def Nx (r : SR) (P : Slo → List O → Prop) (d : Dep P := .mk) : Prop := ∃ σ h, r = .nx σ h ∧ P σ h
theorem v_Ok {α : Type} {a : α} {h : List O} {P : α → List O → Prop} {d : Dep P} : Ok (.ok a h) P d = P a h := propext ⟨fun ⟨_, _, e, p⟩ => by cases e; exact p, fun p => ⟨_, _, rfl, p⟩⟩
theorem v_Nx {σ : Slo} {h : List O} {P : Slo → List O → Prop} {d : Dep P} : Nx (.nx σ h) P d = P σ h := propext ⟨fun ⟨_, _, e, p⟩ => by cases e; exact p, fun p => ⟨_, _, rfl, p⟩⟩
theorem Ok.mk {α : Type} {r : ER α} {a : α} {h : List O} {P : α → List O → Prop} (e : r = .ok a h) (p : P a h) : Ok r P := ⟨a, h, e, p⟩
section
variable {α β : Type} {σ σ1 : Slo} {h h1 h2 h3 : List O} {x y z w : W} {ws us : List W} {a : α}
theorem v_bind0 {f : α → List O → ER β} : (ER.ok a h).bind f = f a h := Eq.trans rfl rfl
theorem v_bind {f : α → List O → ER β} {d : Dep f} : (ER.ok a h).bD f d = f a h := Eq.trans rfl rfl
theorem v_sbind {f : α → List O → SR} {d : Dep f} : (ER.ok a h).sD σ f d = f a h := Eq.trans rfl rfl
theorem v_nb {f : α → List O → ER β} {d : Dep f} : (ER.ok a h).nD f d = f a h := Eq.trans rfl rfl
theorem v_bindx {e : Ex} {f : α → List O → ER β} {d : Dep f} : (ER.exc e h : ER α).bD f d = .exc e h := Eq.trans rfl rfl
theorem v_sbindx {e : Ex} {f : α → List O → SR} {d : Dep f} : (ER.exc e h : ER α).sD σ f d = .exc e σ h := Eq.trans rfl rfl
theorem v_ofO : ofO h (some a) = .ok a h := Eq.trans rfl rfl
theorem v_ofH : ofH (some (a, h)) = .ok a h := Eq.trans rfl rfl
theorem v_ofR {f : α → SR} {d : Dep f} : ofR (some a) f d = f a := Eq.trans rfl rfl
theorem v_ofE {f : α → ER β} {d : Dep f} : ofE (some a) f d = f a := Eq.trans rfl rfl
theorem v_omap {f : α → β} : (some a).map f = some (f a) := Eq.trans rfl rfl
theorem v_obind {f : α → Option β} : (some a).bind f = f a := Eq.trans rfl rfl
theorem v_iteT {p q : α} : iteE true p q = p := Eq.trans rfl rfl
theorem v_iteF {p q : α} : iteE false p q = q := Eq.trans rfl rfl
theorem ite_iteE {k : Bool} {p q : α} : (if k = true then p else q) = iteE k p q := Eq.trans rfl rfl
theorem v_mAnd {k k2 : Bool} : iteE k (ER.ok k2 h) (.ok false h) = .ok (k && k2) h := by cases k <;> rfl
theorem v_mOr {k k2 : Bool} : iteE k (ER.ok true h) (.ok k2 h) = .ok (k || k2) h := by cases k <;> rfl
theorem v_mAndW {k k2 : Bool} : iteE k (ER.ok (W.bl k2) h) (.ok (.bl k) h) = .ok (.bl (k && k2)) h := by cases k <;> rfl
theorem v_mOrW {k k2 : Bool} : iteE k (ER.ok (W.bl k) h) (.ok (.bl k2) h) = .ok (.bl (k || k2)) h := by cases k <;> rfl
theorem v_var0 : mVar 0 (some w :: σ) h = .ok w h := Eq.trans rfl rfl
theorem v_varS {i : Nat} {o : Option W} : mVar (i + 1) (o :: σ) h = mVar i σ h := Eq.trans rfl rfl
theorem v_c : mC w σ h = .ok w h := Eq.trans rfl rfl
variable {f f' : List O → W → W → Option W} {ma mb mc m n : ME} {t u : MT} {na nb : MA} {sa sb : MS}
theorem v_op : mOp f ma mb σ h = (ma σ h).bD fun x h1 => (mb σ h1).bD fun y h2 => ofO h2 (f h2 x y) := Eq.trans rfl rfl
theorem v_un {g : List O → W → Option W} : mUn g ma σ h = (ma σ h).bD fun x h1 => ofO h1 (g h1 x) := Eq.trans rfl rfl
theorem v_cb {g : NF} : mCB g na σ h = (na σ h).bD fun ws h1 => ofH (g h1 ws) := Eq.trans rfl rfl
theorem v_pF {g : List O → List W → Option W} : ofH (pureF g h ws) = ofO h (g h ws) := by unfold pureF; cases g h ws <;> rfl
theorem v_call {g : MF} : mCall g na σ h = (na σ h).bD fun ws h1 => g ws h1 := Eq.trans rfl rfl
theorem v_bm {T : String} {g : NM} : mBM T g ma na σ h = (ma σ h).bD fun x h1 => iteE (isT T h1 x) ((na σ h1).bD fun ws h2 => ofH (g h2 x ws)) .stuck := Eq.trans rfl rfl
theorem v_pM {g : List O → W → List W → Option W} : ofH (pureM g h x ws) = ofO h (g h x ws) := by unfold pureM; cases g h x ws <;> rfl
theorem v_nil : mNil σ h = .ok [] h := Eq.trans rfl rfl
theorem v_cons : mCons ma na σ h = (ma σ h).bD fun x h1 => (na σ h1).bD fun xs h2 => .ok (x :: xs) h2 := Eq.trans rfl rfl
theorem v_star : mStar ma na σ h = (ma σ h).bD fun x h1 => ofE (seqU h1 x) fun us => (na σ h1).bD fun xs h2 => .ok (us ++ xs) h2 := by
  unfold mStar; (try unfold ER.bD); (try unfold ER.sD); (try unfold ER.nD); congr; funext x h1; cases seqU h1 x <;> rfl
theorem v_b : mB m σ h = (m σ h).bD fun x h1 => ofO h1 (asB x) := Eq.trans rfl rfl
theorem v_asB {k : Bool} : asB (.bl k) = some k := Eq.trans rfl rfl
theorem v_tru : mTru m σ h = (m σ h).bD fun x h1 => ofO h1 (tru h1 x) := Eq.trans rfl rfl
theorem v_notT : mNotT t σ h = (t σ h).bD fun k h1 => .ok (!k) h1 := Eq.trans rfl rfl
theorem v_not : mNot m σ h = (m σ h).bD fun x h1 => ofO h1 ((tru h1 x).map fun k => .bl (!k)) := Eq.trans rfl rfl
theorem v_andT : mAndT t u σ h = (t σ h).bD fun k h1 => iteE k (u σ h1) (.ok false h1) := Eq.trans rfl rfl
theorem v_orT : mOrT t u σ h = (t σ h).bD fun k h1 => iteE k (.ok true h1) (u σ h1) := Eq.trans rfl rfl
theorem v_and : mAnd m n σ h = (m σ h).bD fun x h1 => (ofO h1 (tru h1 x)).bD fun k h2 => iteE k (n σ h2) (.ok x h2) := Eq.trans rfl rfl
theorem v_or : mOr m n σ h = (m σ h).bD fun x h1 => (ofO h1 (tru h1 x)).bD fun k h2 => iteE k (.ok x h2) (n σ h2) := Eq.trans rfl rfl
theorem v_if : mIf t m n σ h = (t σ h).bD fun k h1 => iteE k (m σ h1) (n σ h1) := Eq.trans rfl rfl
theorem v_chain : mChain f f' ma mb mc σ h = (ma σ h).bD fun x h1 => (mb σ h1).bD fun y h2 => (ofO h2 ((f h2 x y).bind asB)).bD fun k h3 => iteE k ((mc σ h3).bD fun z h4 => ofO h4 (f' h4 y z)) (.ok (.bl false) h3) := Eq.trans rfl rfl
theorem v_tup : mTup na σ h = (na σ h).bD fun ws h1 => ofO h1 ((okLen ws).map .tup) := Eq.trans rfl rfl
theorem v_lst : mLst na σ h = (na σ h).bD fun ws h1 => ofO h1 ((okLen ws).map .lst) := Eq.trans rfl rfl
theorem v_lstN : mLstN na σ h = (na σ h).bD fun ws h1 => ofH ((okLen ws).map fun ws => (.ref h1.length, h1 ++ [.lst ws])) := Eq.trans rfl rfl
theorem v_okLen (e : ws.length ≤ 1000000) : okLen ws = some ws := if_pos (Nat.le_trans e (by decide))
theorem v_sl {lo hi : MO} : mSl m lo hi σ h = (m σ h).bD fun x h1 => (lo σ h1).bD fun l h2 => (hi σ h2).bD fun r h3 => ofO h3 (nSl h3 x l r) := Eq.trans rfl rfl
theorem v_noP : mNoP σ h = .ok none h := Eq.trans rfl rfl
def asI : W → Option Int
  | .int i => some i
  | _ => none
theorem v_asI {i : Int} : asI (.int i) = some i := Eq.trans rfl rfl
theorem v_part : mPart m σ h = (m σ h).bD fun w h1 => ofE (asI w) fun i => .ok (some i) h1 := by
  unfold mPart; (try unfold ER.bD); (try unfold ER.sD); (try unfold ER.nD); congr; funext w h1; cases w <;> rfl
theorem v_it : mIt m σ h = (m σ h).bD fun w h1 => ofO h1 (itW h1 w) := Eq.trans rfl rfl
theorem v_rng {g : List W → Option (List W × (List O → Bool))} : mRng g na σ h = (na σ h).bD fun ws h1 => ofO h1 (g ws) := Eq.trans rfl rfl
theorem v_zip : mZip na σ h = (na σ h).bD fun ws h1 => ofO h1 (zipW ws) := by
  unfold mZip; (try unfold ER.bD); (try unfold ER.sD); (try unfold ER.nD); congr; funext ws h1; cases zipW ws <;> rfl
theorem v_lc {it : MI} {g : MG} {own : List Nat} : mLc it g t m own σ h = (it σ h).bD fun a h1 => (mLcL a.2 g t m (wipeN σ own) a.1 [] h1).nD fun acc h2 => .ok (.lst acc) h2 := Eq.trans rfl rfl
theorem v_lcN {it : MI} {g : MG} {own : List Nat} : mLcN it g t m own σ h = (it σ h).bD fun a h1 => (mLcL a.2 g t m (wipeN σ own) a.1 [] h1).nD fun acc h2 => .ok (.ref h2.length) (h2 ++ [.lst acc]) := Eq.trans rfl rfl
theorem v_wipe0 : wipeN σ [] = σ := Eq.trans rfl rfl
theorem v_wipeS {v : Nat} {vs : List Nat} : wipeN σ (v :: vs) = (wipeN σ vs).set v none := Eq.trans rfl rfl
theorem v_set0 {o o' : Option W} : List.set (o :: σ) 0 o' = o' :: σ := Eq.trans rfl rfl
theorem v_setS {o o' : Option W} {i : Nat} : List.set (o :: σ) (i + 1) o' = o :: List.set σ i o' := Eq.trans rfl rfl
theorem v_lsetr {ws : List W} : List.set (x :: ws) 0 y = y :: ws := Eq.trans rfl rfl
theorem v_lsetS {ws : List W} {i : Nat} : List.set (x :: ws) (i + 1) y = x :: List.set ws i y := Eq.trans rfl rfl
theorem v_seq : mSeq sa sb σ h = seqK (sa σ h) sb := by unfold mSeq seqK; cases sa σ h <;> rfl
theorem v_seqN : seqK (.nx σ h) sb = sb σ h := Eq.trans rfl rfl
theorem v_seqR : seqK (.rt w h) sb = .rt w h := Eq.trans rfl rfl
theorem v_seqB : seqK (.bk σ h) sb = .bk σ h := Eq.trans rfl rfl
theorem v_seqC : seqK (.ct σ h) sb = .ct σ h := Eq.trans rfl rfl
theorem v_seqX {e : Ex} : seqK (.exc e σ h) sb = .exc e σ h := Eq.trans rfl rfl
theorem v_next : mNext σ h = .nx σ h := Eq.trans rfl rfl
theorem v_brk : mBrk σ h = .bk σ h := Eq.trans rfl rfl
theorem v_cnt : mCnt σ h = .ct σ h := Eq.trans rfl rfl
theorem v_drop : mDrop m σ h = (m σ h).sD σ fun _ h1 => .nx σ h1 := Eq.trans rfl rfl
theorem v_ret : mRet m σ h = (m σ h).sD σ fun w h1 => .rt w h1 := Eq.trans rfl rfl
theorem v_retN : mRetN σ h = .rt .non h := Eq.trans rfl rfl
theorem v_ifS : mIfS t sa sb σ h = (t σ h).sD σ fun k h1 => iteE k (sa σ h1) (sb σ h1) := Eq.trans rfl rfl
theorem v_set {i : Nat} : mSet i m σ h = (m σ h).sD σ fun w h1 => .nx (σ.set i (some w)) h1 := Eq.trans rfl rfl
def two : List W → Option (W × W)
  | [v, w] => some (v, w)
  | _ => none
theorem v_two : two [x, y] = some (x, y) := Eq.trans rfl rfl
theorem v_par {i j : Nat} : mPar i j na σ h = (na σ h).sD σ fun ws h1 => ofR (two ws) fun p => .nx ((σ.set i (some p.1)).set j (some p.2)) h1 := by
  unfold mPar; (try unfold ER.bD); (try unfold ER.sD); (try unfold ER.nD); congr; funext ws h1; rcases ws with _ | ⟨v, _ | ⟨w, _ | ⟨_, _⟩⟩⟩ <;> rfl
theorem v_asg {g : MG} : mAsg g m σ h = (m σ h).sD σ fun w h1 => ofR (g w σ) fun σ' => .nx σ' h1 := by
  unfold mAsg; (try unfold ER.bD); (try unfold ER.sD); (try unfold ER.nD); congr; funext w h1; cases g w σ <;> rfl
theorem v_store {mo mi mv : ME} : mStore mo mi mv σ h = (mv σ h).sD σ fun v h1 => (mo σ h1).sD σ fun o h2 => (mi σ h2).sD σ fun i h3 => ofR (setW h3 o i v) fun h4 => .nx σ h4 := by
  unfold mStore; (try unfold ER.bD); (try unfold ER.sD); (try unfold ER.nD); congr; funext v h1; congr; funext o h2; congr; funext i h3; cases setW h3 o i v <;> rfl
theorem v_aug {i : Nat} {g : List O → W → W → Option W} : mAug i g m σ h = (mVar i σ h).sD σ fun x _ => (m σ h).sD σ fun y h1 => ofR (g h1 x y) fun w => .nx (σ.set i (some w)) h1 := by
  unfold mAug mVar
  cases σ[i]? with
  | none => rfl
  | some o => cases o with
    | none => rfl
    | some x => simp only []; rw [v_sbind]; congr; funext y h1; cases g h1 x y <;> rfl
theorem v_itD : mItD m σ h = (m σ h).bD fun w h1 => ofH (itD h1 w) := Eq.trans rfl rfl
theorem v_items : mItems m σ h = (m σ h).bD fun w h1 => ofH (itI h1 w) := Eq.trans rfl rfl
theorem d_T : itD h (.tup ws) = some ((ws, fun _ => true), h) := Eq.trans rfl rfl
theorem d_To : itD h (.tro ws) = some ((ws, fun _ => true), h) := Eq.trans rfl rfl
theorem d_L : itD h (.lst ws) = some ((ws, fun _ => true), h) := Eq.trans rfl rfl
theorem d_Lo : itD h (.lro ws) = some ((ws, fun _ => true), h) := Eq.trans rfl rfl
theorem d_S {s : Str} : itD h (.str s) = some ((signsW s, fun _ => true), h) := Eq.trans rfl rfl
theorem d_D {t : Bool} {kvs : List (W × W)} : itD h (.dct t kvs) = some ((kvs.map (·.1), fun _ => true), h) := Eq.trans rfl rfl
def itO (h : List O) (n : Nat) : Option O → Option ((List W × (List O → Bool)) × List O)
  | some (.lst ws) => some ((ws, chkL n ws), h)
  | some (.dct _ t kvs) => some ((kvs.map (·.1), fun _ => true), h.set n (.dct true t kvs))
  | _ => none
theorem d_R {n : Nat} : itD h (.ref n) = itO h n h[n]? := by
  unfold itD itO dctOf lockH itW
  cases e : h[n]? with
  | none => simp [e]
  | some o => cases o <;> simp [e]
theorem d_RO {n : Nat} : itO h n (some (.lst ws)) = some ((ws, chkL n ws), h) := Eq.trans rfl rfl
theorem d_ROd {n : Nat} {lk t : Bool} {kvs : List (W × W)} : itO h n (some (.dct lk t kvs)) = some ((kvs.map (·.1), fun _ => true), h.set n (.dct true t kvs)) := Eq.trans rfl rfl
theorem d_I {kvs : List (W × W)} : itI h (.dct false kvs) = some ((kvs.map fun p => .tup [p.1, p.2], fun _ => true), h) := Eq.trans rfl rfl
def itIO (h : List O) (n : Nat) : Option O → Option ((List W × (List O → Bool)) × List O)
  | some (.dct _ false kvs) => some ((kvs.map fun p => .tup [p.1, p.2], fun _ => true), h.set n (.dct true false kvs))
  | _ => none
theorem d_IR {n : Nat} : itI h (.ref n) = itIO h n h[n]? := by
  unfold itI itIO dctOf lockH
  cases e : h[n]? with
  | none => simp [e]
  | some o => cases o with
    | dct lk t kvs => cases t <;> simp [e]
    | _ => simp [e]
theorem d_IRO {n : Nat} {lk : Bool} {kvs : List (W × W)} : itIO h n (some (.dct lk false kvs)) = some ((kvs.map fun p => .tup [p.1, p.2], fun _ => true), h.set n (.dct true false kvs)) := Eq.trans rfl rfl
def one : List W → Option W
  | [w] => some w
  | _ => none
theorem v_one : one [x] = some x := Eq.trans rfl rfl
theorem v_enum : mEnum na σ h = (na σ h).bD fun ws h1 => ofE (one ws) fun w => ofO h1 (enumW h1 w) := by
  unfold mEnum; (try unfold ER.bD); (try unfold ER.sD); (try unfold ER.nD); congr; funext ws h1; rcases ws with _ | ⟨v, _ | ⟨w, _⟩⟩ <;> rfl
theorem v_zipT : mZipT na σ h = (na σ h).bD fun ws h1 => ofO h1 (zipT ws) := Eq.trans rfl rfl
theorem v_augS {fo : List O → W → W → Option W} {mo mi me : ME} : mAugS fo mo mi me σ h = (mo σ h).sD σ fun o h1 => (mi σ h1).sD σ fun i h2 => ofR (getL h2 o i) fun x => (me σ h2).sD σ fun y h3 => ofR (fo h3 x y) fun z => ofR (setW h3 o i z) fun h4 => .nx σ h4 := by
  unfold mAugS; (try unfold ER.bD); (try unfold ER.sD); (try unfold ER.nD); congr; funext o h1; congr; funext i h2
  cases getL h2 o i with
  | none => rfl
  | some x =>
    simp only []; rw [v_ofR]; congr; funext y h3
    cases fo h3 x y with
    | none => rfl
    | some z => simp only []; rw [v_ofR]; cases setW h3 o i z <;> rfl
theorem v_disp {l : List (ME × ME)} : mDisp l σ h = (mPairs l σ h).nD fun kvs h1 => ofE (dispW [] kvs) fun q => iteE (decide (kvs.length ≤ 15)) (.ok (.dct false q) h1) .stuck := by
  unfold mDisp; (try unfold ER.bD); (try unfold ER.sD); (try unfold ER.nD); congr; funext kvs h1; cases dispW [] kvs with
  | none => rfl
  | some q => simp only [ofE, iteE, decide_eq_true_eq]
theorem v_prs0 : mPairs [] σ h = .ok [] h := Eq.trans rfl rfl
theorem v_prsS {p : ME × ME} {l : List (ME × ME)} : mPairs (p :: l) σ h = (p.1 σ h).bD fun a h1 => (p.2 σ h1).bD fun b h2 => (mPairs l σ h2).bD fun r h3 => .ok ((a, b) :: r) h3 := Eq.trans rfl rfl
theorem v_fmt : mFmt m σ h = (m σ h).bD fun x h1 => ofO h1 ((fmtW x).map .str) := by unfold mFmt; rfl
theorem v_for {it : MI} {g : MG} : mFor it g sa σ h = (it σ h).sD σ fun a h1 => mForL a.2 g sa a.1 σ h1 := Eq.trans rfl rfl
theorem v_def {N : Nat} : mDef N sb ws h = defK (sb (ws.map some ++ List.replicate (N - ws.length) none) h) := by unfold mDef defK; cases sb _ h <;> rfl
theorem v_dnx : defK (.nx σ h) = .ok .non h := Eq.trans rfl rfl
theorem v_drt : defK (.rt w h) = .ok w h := Eq.trans rfl rfl
theorem v_dexc {e : Ex} : defK (.exc e σ h) = .exc e h := Eq.trans rfl rfl
theorem v_map0 : ([] : List W).map some = [] := Eq.trans rfl rfl
theorem v_mapS : (x :: ws).map some = some x :: ws.map some := Eq.trans rfl rfl
theorem v_gN {i : Nat} : gN i w σ = some (σ.set i (some w)) := Eq.trans rfl rfl
theorem v_gT {gs : List MG} : gT gs (.tup ws) σ = gNs gs ws σ := Eq.trans rfl rfl
theorem v_gTo {gs : List MG} : gT gs (.tro ws) σ = gNs gs ws σ := Eq.trans rfl rfl
theorem v_gNs0 : gNs [] [] σ = some σ := Eq.trans rfl rfl
theorem v_gNsS {g : MG} {gs : List MG} : gNs (g :: gs) (x :: ws) σ = (g x σ).bind (gNs gs ws) := Eq.trans rfl rfl
theorem v_yes : mYes σ h = .ok true h := Eq.trans rfl rfl
def insO (c : Str) : Option O → Option (List (Option W))
  | some (.ins d ws) => if d = c then some ws else none
  | _ => none
def insOf (c : Str) (h : List O) (w : W) : Option (List (Option W)) := match w with
  | .ref n => insO c h[n]?
  | _ => none
theorem v_insOf {c : Str} {n : Nat} : insOf c h (.ref n) = insO c h[n]? := Eq.trans rfl rfl
theorem v_insO {c : Str} {os : List (Option W)} : insO c (some (.ins c os)) = some os := if_pos rfl
def isO (c : Str) : Option O → Bool
  | some (.ins d _) => d == c
  | _ => false
theorem v_isIns {c : Str} {n : Nat} : isIns c h (.ref n) = isO c h[n]? := Eq.trans rfl rfl
theorem v_isO {c : Str} {os : List (Option W)} : isO c (some (.ins c os)) = true := beq_self_eq_true c
theorem v_isOL {c : Str} {ws : List W} : isO c (some (.lst ws)) = false := Eq.trans rfl rfl
theorem v_isT {c : Str} : isIns c h (.tup ws) = false := Eq.trans rfl rfl
theorem v_isLs {c : Str} : isIns c h (.lst ws) = false := Eq.trans rfl rfl
theorem v_isI {c : Str} {i : Int} : isIns c h (.int i) = false := Eq.trans rfl rfl
theorem v_isS {c s : Str} : isIns c h (.str s) = false := Eq.trans rfl rfl
def slotAt : List (Option W) → Nat → Option W
  | [], _ => none
  | o :: _, 0 => o
  | _ :: os, i + 1 => slotAt os i
theorem slotAt_eq : ∀ (os : List (Option W)) (i : Nat), slotAt os i = os[i]?.join
  | [], _ => by simp [slotAt]
  | o :: os, 0 => by simp [slotAt]
  | o :: os, i + 1 => by simp [slotAt, slotAt_eq os i]
theorem v_slot0 {o : Option W} {os : List (Option W)} : slotAt (o :: os) 0 = o := Eq.trans rfl rfl
theorem v_slotS {o : Option W} {os : List (Option W)} {i : Nat} : slotAt (o :: os) (i + 1) = slotAt os i := Eq.trans rfl rfl
theorem v_slot {c : Str} {i : Nat} : mSlot c i m σ h = (m σ h).bD fun w h1 => ofE (insOf c h1 w) fun os => ofE (slotAt os i) fun x => .ok x h1 := by
  unfold mSlot insOf insO; (try unfold ER.bD); (try unfold ER.sD); (try unfold ER.nD); congr; funext w h1
  cases w with
  | ref n =>
    simp only []
    cases h1[n]? with
    | none => rfl
    | some o => cases o with
      | ins d os =>
        simp only []
        by_cases e : d = c
        · rw [if_pos e, if_pos e]
          simp only [ofE, slotAt_eq]
          cases os[i]? with
          | none => rfl
          | some o => cases o <;> rfl
        · rw [if_neg e, if_neg e]; rfl
      | _ => rfl
  | _ => rfl
theorem v_meth {c : Str} {g : MF} : mMeth c g ma na σ h = (ma σ h).bD fun w h1 => iteE (isIns c h1 w) ((na σ h1).bD fun ws h2 => g (w :: ws) h2) .stuck := Eq.trans rfl rfl
theorem v_make {c : Str} {g : MF} : mMake c g na σ h = (na σ h).bD fun ws h1 => (g (.ref h1.length :: ws) (h1 ++ [.ins c []])).bD fun r h2 => iteE (beqW r .non) (.ok (.ref h1.length) h2) .stuck := by
  unfold mMake; (try unfold ER.bD); (try unfold ER.sD); (try unfold ER.nD); congr; funext ws h1; congr; funext r h2; cases r <;> simp [beqW, iteE]
theorem v_beqN : beqW .non .non = true := by simp [beqW]
def refOf : W → Option Nat
  | .ref n => some n
  | _ => none
theorem v_refOf {n : Nat} : refOf (.ref n) = some n := Eq.trans rfl rfl
theorem v_put {c : Str} {i : Nat} {mo mv : ME} : mPut c i mo mv σ h = (mv σ h).sD σ fun v h1 => (mo σ h1).sD σ fun w h2 => ofR (refOf w) fun n => ofR (insO c h2[n]?) fun os => .nx σ (h2.set n (.ins c (putW i v os))) := by
  unfold mPut; (try unfold ER.bD); (try unfold ER.sD); (try unfold ER.nD); congr; funext v h1; congr; funext w h2
  cases w with
  | ref n =>
    simp only [refOf, v_ofR]
    unfold insO
    cases h2[n]? with
    | none => rfl
    | some o => cases o with
      | ins d os =>
        simp only []
        by_cases e : d = c
        · rw [if_pos e, if_pos e]; rfl
        · rw [if_neg e, if_neg e]; rfl
      | _ => rfl
  | _ => rfl
theorem v_putW00 {w : W} : putW 0 w [] = [some w] := rfl
theorem v_putW0S {w : W} {o : Option W} {os : List (Option W)} : putW 0 w (o :: os) = some w :: os := by simp [putW]
theorem v_putWS0 {i : Nat} {w : W} : putW (i + 1) w [] = none :: putW i w [] := by simp [putW, List.replicate_succ]
theorem v_putWSS {i : Nat} {w : W} {o : Option W} {os : List (Option W)} : putW (i + 1) w (o :: os) = o :: putW i w os := by simp [putW]
theorem v_isi {c : Str} : mIsi c m σ h = (m σ h).bD fun x h1 => ofO h1 ((isiC c h1 x).map .bl) := Eq.trans rfl rfl
theorem v_lenSet : mLenSet m σ h = (m σ h).bD fun x h1 => ofE ((seqU h1 x).bind lenSetW) fun n => .ok (.int (n : Int)) h1 := by
  unfold mLenSet; (try unfold ER.bD); (try unfold ER.sD); (try unfold ER.nD); congr; funext x h1; cases (seqU h1 x).bind lenSetW <;> rfl
theorem v_lenC {c : Str} {g : MF} : mLenC c g m σ h = (m σ h).bD fun w h1 => iteE (isIns c h1 w) ((g [w] h1).bD fun r h2 => iteE (isLen r) (.ok r h2) .stuck) (ofO h1 (nLen h1 [w])) := Eq.trans rfl rfl
theorem v_strC {c : Str} {g : MF} : mStrC c g m σ h = (m σ h).bD fun w h1 => iteE (isIns c h1 w) ((g [w] h1).bD fun r h2 => iteE (isStrW r) (.ok r h2) .stuck) (ofO h1 (nStr h1 [w])) := Eq.trans rfl rfl
theorem v_dctN {b : Bool} : mDctN b σ h = .ok (.ref h.length) (h ++ [.dct false b []]) := Eq.trans rfl rfl
def lstO : Option O → Option (List W)
  | some (.lst ws) => some ws
  | _ => none
theorem v_lstO : lstO (some (.lst ws)) = some ws := Eq.trans rfl rfl
def ixO : Option O → W → Option W
  | some (.dct _ t kvs), y => ((keyQ t y).map (lookQ kvs)).bind id
  | some (.lst ws), .int i => atI ws i
  | _, _ => none
theorem v_ixR {n : Nat} : nIx h (.ref n) y = ixO h[n]? y := by
  unfold nIx ixO
  cases e : h[n]? with
  | none => simp [e, seqU, seqL, lstX]
  | some o => cases o with
    | lst ws => cases y <;> simp [e, seqU, seqL, lstX]
    | dct lk t kvs => simp [e, getD', dctOf]
    | ins c ws => simp [e, seqU, seqL, lstX]
theorem v_ixO {i : Int} : ixO (some (.lst ws)) (.int i) = atI ws i := Eq.trans rfl rfl
theorem v_seqRf {n : Nat} : seqU h (.ref n) = lstO h[n]? := by
  unfold seqU seqL lstX lstO; simp only []
  all_goals (cases h[n]? with
  | none => rfl
  | some o => cases o <;> rfl)
theorem v_seqT : seqU h (.tup ws) = some ws := Eq.trans rfl rfl
theorem v_seqTo : seqU h (.tro ws) = some ws := Eq.trans rfl rfl
theorem v_seqLs : seqU h (.lst ws) = some ws := Eq.trans rfl rfl
theorem v_seqLo : seqU h (.lro ws) = some ws := Eq.trans rfl rfl
theorem v_lenR {n : Nat} : nLen h [.ref n] = (lstO h[n]?).map fun ws => .int ws.length := by
  unfold nLen; simp only []; all_goals (rw [v_seqRf]; all_goals (cases lstO h[n]? <;> rfl))
def isTO (T : String) : Option O → Bool
  | some (.lst _) => T == "list"
  | some (.dct false _ _) => T == "dict"
  | _ => false
theorem v_isTR {T : String} {n : Nat} : isT T h (.ref n) = isTO T h[n]? := by
  unfold isT isTO; simp only []
  all_goals (cases h[n]? with
  | none => rfl
  | some o => cases o with
    | dct lk t kvs => cases lk <;> rfl
    | _ => rfl)
theorem v_isTO {T : String} : isTO T (some (.lst ws)) = (T == "list") := Eq.trans rfl rfl
theorem v_isTOd {T : String} {b : Bool} {kvs : List (W × W)} : isTO T (some (.dct false b kvs)) = (T == "dict") := Eq.trans rfl rfl
theorem v_isTL {T : String} : isT T h (.lst ws) = (T == "list") := Eq.trans rfl rfl
theorem v_isTS {T : String} {s : Str} : isT T h (.str s) = (T == "str") := Eq.trans rfl rfl
theorem v_itR {n : Nat} : itW h (.ref n) = (lstO h[n]?).map fun ws => (ws, chkL n ws) := by
  unfold itW lstO; simp only []
  all_goals (cases h[n]? with
  | none => rfl
  | some o => cases o <;> rfl)
theorem v_itL : itW h (.lst ws) = some (ws, fun _ => true) := Eq.trans rfl rfl
theorem v_itT : itW h (.tup ws) = some (ws, fun _ => true) := Eq.trans rfl rfl
theorem v_itTo : itW h (.tro ws) = some (ws, fun _ => true) := Eq.trans rfl rfl
theorem v_itS {s : Str} : itW h (.str s) = some (signsW s, fun _ => true) := Eq.trans rfl rfl
theorem v_truR {n : Nat} : tru h (.ref n) = (lstO h[n]?).map fun ws => !ws.isEmpty := by
  unfold tru lstO; simp only []
  all_goals (cases h[n]? with
  | none => rfl
  | some o => cases o <;> rfl)
theorem v_truT : tru h (.tup ws) = some (!ws.isEmpty) := Eq.trans rfl rfl
theorem v_truL : tru h (.lst ws) = some (!ws.isEmpty) := Eq.trans rfl rfl
theorem v_truB {k : Bool} : tru h (.bl k) = some k := Eq.trans rfl rfl
theorem v_truI {i : Int} : tru h (.int i) = some (i != 0) := Eq.trans rfl rfl
def setO (h : List O) (n : Nat) (w : W) (i : Int) : Option O → Option (List O)
  | some (.lst ws) => (ixN ws.length i).map fun j => h.set n (.lst (ws.set j w))
  | some (.dct lk t kvs) => putD h (.ref n) (.int i) w
  | _ => none
theorem v_setR {n : Nat} {i : Int} : setW h (.ref n) (.int i) w = setO h n w i h[n]? := by
  unfold setW setO; cases e : h[n]? with
  | none => simp [e, putD]
  | some o => cases o <;> simp [e, putD]
theorem v_setO {n : Nat} {i : Int} : setO h n w i (some (.lst ws)) = (ixN ws.length i).map fun j => h.set n (.lst (ws.set j w)) := Eq.trans rfl rfl
def appO (h : List O) (n : Nat) (y : W) : Option (List W) → Option (W × List O)
  | some xs => if xs.length < sizeLine then some (.non, h.set n (.lst (xs ++ [y]))) else none
  | none => none
theorem v_app {n : Nat} : nAppend h (.ref n) [y] = appO h n y (lstO h[n]?) := by
  unfold nAppend appO lstO; simp only []
  all_goals (cases h[n]? with
  | none => rfl
  | some o => cases o <;> rfl)
theorem v_appO {n : Nat} {xs : List W} (e : xs.length < 1000000) : appO h n y (some xs) = some (.non, h.set n (.lst (xs ++ [y]))) := if_pos (Nat.lt_of_lt_of_le e (by decide))
def extO (h : List O) (n : Nat) (ys : List W) : Option (List W) → Option (W × List O)
  | some xs => if xs.length + ys.length ≤ sizeLine then some (.non, h.set n (.lst (xs ++ ys))) else none
  | none => none
theorem v_ext {n : Nat} {ys : List W} : nExtend h (.ref n) [.lst ys] = extO h n ys (lstO h[n]?) := by
  unfold nExtend extO lstO; simp only [lstX]; cases h[n]? with
  | none => rfl
  | some o => cases o <;> rfl
theorem v_extO {n : Nat} {xs ys : List W} (e : xs.length + ys.length ≤ 1000000) : extO h n ys (some xs) = some (.non, h.set n (.lst (xs ++ ys))) := if_pos (Nat.le_trans e (by decide))
def addO (xs : List W) : Option (List W) → Option W
  | some ys => guardO (decide (ys.length + xs.length ≤ sizeLine)) (.lst (ys ++ xs))
  | none => none
theorem v_addR {n : Nat} {ys : List W} : nAdd h (.ref n) (.lst ys) = addO ys (lstO h[n]?) := by
  unfold nAdd addO lstO; simp only [lstX]; cases h[n]? with
  | none => rfl
  | some o => cases o <;> rfl
theorem v_addO {xs ys : List W} (e : ys.length + xs.length ≤ 1000000) : addO xs (some ys) = some (.lst (ys ++ xs)) := by
  unfold addO guardO; simp only []; rw [if_pos (decide_eq_true (Nat.le_trans e (by decide)))]
theorem v_addL {xs ys : List W} (e : xs.length + ys.length ≤ 1000000) : nAdd h (.lst xs) (.lst ys) = some (.lst (xs ++ ys)) := by
  unfold nAdd guardO; simp only [lstX]; rw [if_pos (decide_eq_true (Nat.le_trans e (by decide)))]
theorem v_addT {xs ys : List W} (e : xs.length + ys.length ≤ 1000000) : nAdd h (.tup xs) (.tup ys) = some (.tup (xs ++ ys)) := by
  unfold nAdd guardO; simp only []; rw [if_pos (decide_eq_true (Nat.le_trans e (by decide)))]
theorem v_top {n : Nat} : topW h (.ref n) = match lstO h[n]? with
    | some ws => .lst ws
    | none => .ref n := by
  unfold topW lstO; simp only []
  all_goals (cases h[n]? with
  | none => rfl
  | some o => cases o <;> rfl)
theorem h_set {n : Nat} {o : O} : (h.set n o)[n]? = h[n]?.map fun _ => o := by
  by_cases hn : n < h.length
  · simp [hn]
  · simp [hn]
theorem h_ne {n q : Nat} {o : O} (e : n ≠ q) : (h.set n o)[q]? = h[q]? := List.getElem?_set_ne e
theorem h_push {o : O} : (h ++ [o])[h.length]? = some o := by simp
theorem h_lt {n : Nat} {o : O} (e : n < h.length) : (h ++ [o])[n]? = h[n]? := List.getElem?_append_left e
theorem h_lenS {n : Nat} {o : O} : (h.set n o).length = h.length := List.length_set
theorem h_lenA {o : O} : (h ++ [o]).length = h.length + 1 := by simp
end
section
variable {h : List O} {ws : List W} {w x y : W}
theorem w_add {i j : Int} : nAdd h (.int i) (.int j) = some (.int (i + j)) := Eq.trans rfl rfl
theorem w_addBB {i j : Bool} : nAdd h (.bl i) (.bl j) = some (.int ((if i then 1 else 0) + if j then 1 else 0)) := Eq.trans rfl rfl
theorem w_sub {i j : Int} : nSub h (.int i) (.int j) = some (.int (i - j)) := Eq.trans rfl rfl
theorem w_iadd {i j : Int} : iAdd h (.int i) (.int j) = some (.int (i + j)) := Eq.trans rfl rfl
theorem w_isub {i j : Int} : iSub h (.int i) (.int j) = some (.int (i - j)) := Eq.trans rfl rfl
theorem w_ltT {i j : Int} : nLtT h (.int i) (.int j) = some (.bl (decide (i < j))) := Eq.trans rfl rfl
theorem w_le {i j : Int} : nLe h (.int i) (.int j) = some (.bl (decide (i ≤ j))) := Eq.trans rfl rfl
theorem w_gt {i j : Int} : nGt h (.int i) (.int j) = some (.bl (decide (j < i))) := Eq.trans rfl rfl
theorem w_ge {i j : Int} : nGe h (.int i) (.int j) = some (.bl (decide (j ≤ i))) := Eq.trans rfl rfl
theorem w_neg {i : Int} : nNeg h (.int i) = some (.int (-i)) := Eq.trans rfl rfl
theorem w_intI {i : Int} : nInt h [.int i] = some (.int i) := Eq.trans rfl rfl
theorem w_intB {b : Bool} : nInt h [.bl b] = some (.int (if b then 1 else 0)) := Eq.trans rfl rfl
theorem w_abs {i : Int} : nAbs h [.int i] = some (.int (if i < 0 then -i else i)) := Eq.trans rfl rfl
theorem w_max {i j : Int} : nMax h [.int i, .int j] = some (.int (if j > i then j else i)) := Eq.trans rfl rfl
theorem w_min {i j : Int} : nMin h [.int i, .int j] = some (.int (if j < i then j else i)) := Eq.trans rfl rfl
theorem w_lenL : nLen h [.lst ws] = some (.int ws.length) := Eq.trans rfl rfl
theorem w_lenT : nLen h [.tup ws] = some (.int ws.length) := Eq.trans rfl rfl
theorem w_lenLo : nLen h [.lro ws] = some (.int ws.length) := Eq.trans rfl rfl
theorem w_lenTo : nLen h [.tro ws] = some (.int ws.length) := Eq.trans rfl rfl
theorem w_reprB {b : Bool} : nRepr h [.bl b] = some (.str (if b then "True" else "False")) := Eq.trans rfl rfl
theorem w_lenStr {s : Str} (e : s.length ≤ 1000000) : nLen h [.str s] = some (.int s.length) := if_pos (Nat.le_trans e (by decide))
theorem w_strI {i : Int} (e : i.natAbs.log2 < 1920) : nStr h [.int i] = some (.str (toString i)) := if_pos e
theorem w_strS {s : Str} : nStr h [.str s] = some (.str s) := Eq.trans rfl rfl
end
/-- every turn goes on (nx, ct) -/
theorem forL_inv {chk : List O → Bool} {g : MG} {b : MS} {xs : List W} {σ : Slo} {h : List O} {L : SR} (hL : mForL chk g b xs σ h = L) (I : Nat → Slo → List O → Prop) (h0 : I 0 σ h)
    (hc : ∀ k σ h, I k σ h → chk h = true)
    (hs : ∀ k x σ h, xs[k]? = some x → I k σ h → ∃ σ1, g x σ = some σ1 ∧ ∃ σ2 h2, (b σ1 h = .nx σ2 h2 ∨ b σ1 h = .ct σ2 h2) ∧ I (k + 1) σ2 h2) : ∃ σ' h', L = .nx σ' h' ∧ I xs.length σ' h' := by
  subst hL
  induction xs generalizing σ h I with
  | nil => exact ⟨σ, h, by unfold mForL; rw [if_pos (hc _ _ _ h0)], h0⟩
  | cons x xs ih =>
    obtain ⟨σ1, e1, σ2, h2, e2, i2⟩ := hs 0 x σ h rfl h0
    obtain ⟨σ', h', e, i⟩ := ih (σ := σ2) (h := h2) (fun k => I (k + 1)) i2 (fun k => hc (k + 1)) fun k y σ h hk hi => hs (k + 1) y σ h (by simpa using hk) hi
    refine ⟨σ', h', ?_, i⟩
    unfold mForL
    rw [if_pos (hc _ _ _ h0), e1]
    simp only []
    rcases e2 with e2 | e2 <;> rw [e2] <;> exact e
/-- a comprehension -/
theorem lcL_inv {chk : List O → Bool} {g : MG} {t : MT} {el : ME} {σ : Slo} {xs acc : List W} {h : List O} {L : ER (List W)} (hL : mLcL chk g t el σ xs acc h = L) (I : Nat → List W → List O → Prop) (h0 : I 0 acc h)
    (hc : ∀ k a h, I k a h → chk h = true) (hl : acc.length + xs.length ≤ sizeLine)
    (hs : ∀ k x a h, xs[k]? = some x → I k a h → ∃ σ1, g x σ = some σ1 ∧ ∃ c h1, t σ1 h = .ok c h1 ∧ if c = true then ∃ y h2, el σ1 h1 = .ok y h2 ∧ I (k + 1) (a ++ [y]) h2 else I (k + 1) a h1) : ∃ a' h', L = .ok a' h' ∧ I xs.length a' h' := by
  subst hL
  induction xs generalizing acc h I with
  | nil => exact ⟨acc, h, by unfold mLcL; rw [if_pos (hc _ _ _ h0)], h0⟩
  | cons x xs ih =>
    obtain ⟨σ1, e1, c, h1, e2, q⟩ := hs 0 x acc h rfl h0
    simp only [List.length_cons] at hl
    unfold mLcL
    rw [if_pos (hc _ _ _ h0), e1]
    simp only []
    rw [e2, nb_ok]
    cases c with
    | false =>
      rw [if_neg Bool.false_ne_true] at q ⊢
      obtain ⟨a', h', e, i⟩ := ih (acc := acc) (h := h1) (fun k => I (k + 1)) q (fun k => hc (k + 1)) (by omega) fun k y a h hk hi => hs (k + 1) y a h (by simpa using hk) hi
      exact ⟨a', h', e, i⟩
    | true =>
      rw [if_pos rfl] at q ⊢
      obtain ⟨y, h2, e3, i3⟩ := q
      rw [e3, nb_ok, if_pos (by omega)]
      obtain ⟨a', h', e, i⟩ := ih (acc := acc ++ [y]) (h := h2) (fun k => I (k + 1)) i3 (fun k => hc (k + 1)) (by simp; omega) fun k y a h hk hi => hs (k + 1) y a h (by simpa using hk) hi
      exact ⟨a', h', e, i⟩
def loopK (r : SR) (f : Slo → List O → SR) : SR := match r with
  | .nx σ h => f σ h
  | .ct σ h => f σ h
  | .bk σ h => .nx σ h
  | r => r
theorem v_loopN {σ : Slo} {h : List O} {f : Slo → List O → SR} : loopK (.nx σ h) f = f σ h := Eq.trans rfl rfl
theorem v_loopC {σ : Slo} {h : List O} {f : Slo → List O → SR} : loopK (.ct σ h) f = f σ h := Eq.trans rfl rfl
theorem v_loopB {σ : Slo} {h : List O} {f : Slo → List O → SR} : loopK (.bk σ h) f = .nx σ h := Eq.trans rfl rfl
theorem v_loopR {w : W} {h : List O} {f : Slo → List O → SR} : loopK (.rt w h) f = .rt w h := Eq.trans rfl rfl
end N
set_option maxHeartbeats 1000000
set_option maxHeartbeats 1000000
set_option maxHeartbeats 1000000
set_option maxHeartbeats 1000000
set_option maxHeartbeats 1000000
set_option maxHeartbeats 1000000
set_option maxHeartbeats 1000000
set_option maxHeartbeats 1000000
set_option maxHeartbeats 1000000
namespace N
open PySem PySem.Spec PyProof.Rows L2
def drainL : List W → GO → List W × SR
  | yw, .fin r => if yw.length < sizeLine then (yw, r) else (yw, .stuck)
  | yw, .yld w h k => if yw.length < sizeLine then drainL (yw ++ [w]) (k h) else (yw, .stuck)
theorem drainL_no {yw : List W} (hl : ¬ yw.length < sizeLine) (T : GO) : drainL yw T = (yw, .stuck) := by
  cases T with
  | fin r => unfold drainL; rw [if_neg hl]
  | yld w h k => unfold drainL; rw [if_neg hl]
theorem drainL_bind {f : SR → GO} (hf : f .stuck = .fin .stuck) : ∀ (T : GO) (yw : List W), drainL yw (T.bind f) = drainL (drainL yw T).1 (f (drainL yw T).2)
  | .fin r, yw => by
    by_cases hl : yw.length < sizeLine
    · have e : drainL yw (.fin r) = (yw, r) := by unfold drainL; rw [if_pos hl]
      rw [e]; rfl
    · rw [drainL_no hl, drainL_no hl (.fin r)]
      show _ = drainL yw (f .stuck)
      rw [hf, drainL_no hl]
  | .yld w h k, yw => by
    by_cases hl : yw.length < sizeLine
    · have e1 : drainL yw (.yld w h k) = drainL (yw ++ [w]) (k h) := by
        conv => lhs; unfold drainL
        rw [if_pos hl]
      have e2 : drainL yw ((GO.yld w h k).bind f) = drainL (yw ++ [w]) ((k h).bind f) := by
        show drainL yw (GO.yld w h fun h' => (k h').bind f) = _
        conv => lhs; unfold drainL
        rw [if_pos hl]
      rw [e1, e2]
      exact drainL_bind hf (k h) _
    · rw [drainL_no hl, drainL_no hl (.yld w h k)]
      show _ = drainL yw (f .stuck)
      rw [hf, drainL_no hl]
section
variable (K : PySem.W.Frag) (mg : Str → Option Value) (z : Option (Addr × Addr))
def AftL (ι : Ix) (H : Hp) (p : List W × SR) (D : GEnds) (E : WX) : Prop := match p.2 with
  | .nx σn h' => ∀ ι' ys σ' H', Grow ι ι' H H' → Fit K mg ι' H' h' → Sl K mg ι' H' z σn σ' → RWs K mg ι' H' p.1 ys → D.nx ys σ' H'
  | .rt w h' => ∀ ι' ys v H', Grow ι ι' H H' → Fit K mg ι' H' h' → RW K mg ι' H' w v → RWs K mg ι' H' p.1 ys → D.rt ys v H'
  | .bk σn h' => ∀ ι' ys σ' H', Grow ι ι' H H' → Fit K mg ι' H' h' → Sl K mg ι' H' z σn σ' → RWs K mg ι' H' p.1 ys → D.bk ys σ' H'
  | .ct σn h' => ∀ ι' ys σ' H', Grow ι ι' H H' → Fit K mg ι' H' h' → Sl K mg ι' H' z σn σ' → RWs K mg ι' H' p.1 ys → D.ct ys σ' H'
  | .exc x σn h' => ∀ ι' c d σ' H', Grow ι ι' H H' → Fit K mg ι' H' h' → Sl K mg ι' H' z σn σ' → RX K mg ι' H' x c d → E c d σ' H'
  | .stuck => False
def tLG (E : WX) (y : MGn) : TGn := fun D ys σ H => ∃ ι yw σn h, Fit K mg ι H h ∧ Sl K mg ι H z σn σ ∧ RWs K mg ι H yw ys ∧ AftL K mg z ι H (drainL yw (y σn h)) D E
end
abbrev LG' (X : Cx) (E : WX) (s : Stmt) (m : MGn) : Prop := GS X s (tLG X.K X.mg (zX X) E m)
abbrev LGs' (X : Cx) (E : WX) (s : List Stmt) (m : MGn) : Prop := GSs X s (tLG X.K X.mg (zX X) E m)
theorem GS.imp {X : Cx} {st : Stmt} {t t' : TGn} (g : GS X st t) (k : ∀ D ys σ H, t' D ys σ H → t D ys σ H) : GS X st t' :=
  ⟨fun A S ip R n ys s₀ c fs Kk J gd lv s σ H D gc hn kk hI ht => g.run A S ip R n ys s₀ c fs Kk J gd lv s σ H D gc hn kk hI (k _ _ _ _ ht)⟩
theorem GSs.imp {X : Cx} {st : List Stmt} {t t' : TGn} (g : GSs X st t) (k : ∀ D ys σ H, t' D ys σ H → t D ys σ H) : GSs X st t' :=
  ⟨fun A S ip R n ys s₀ c fs Kk J gd lv s σ H D gc hn kk hI ht => g.run A S ip R n ys s₀ c fs Kk J gd lv s σ H D gc hn kk hI (k _ _ _ _ ht)⟩
section
variable {K : PySem.W.Frag} {mg : Str → Option Value} {z : Option (Addr × Addr)} {ι ι' : Ix} {H H' : Hp} {D : GEnds} {E : WX}
theorem AftL.step {p : List W × SR} (q : AftL K mg z ι H p D E) (g : Grow ι ι' H H') : AftL K mg z ι' H' p D E := by
  obtain ⟨yw, r⟩ := p
  cases r with
  | nx s h' => exact fun ι2 ys v H2 g2 => q ι2 ys v H2 (g.trans g2)
  | rt w h' => exact fun ι2 ys v H2 g2 => q ι2 ys v H2 (g.trans g2)
  | bk s h' => exact fun ι2 ys v H2 g2 => q ι2 ys v H2 (g.trans g2)
  | ct s h' => exact fun ι2 ys v H2 g2 => q ι2 ys v H2 (g.trans g2)
  | exc x s h' => exact fun ι2 c d s2 H2 g2 => q ι2 c d s2 H2 (g.trans g2)
  | stuck => exact q
theorem aftL_fin {yw : List W} {r : SR} (q : AftL K mg z ι H (drainL yw (.fin r)) D E) : yw.length < sizeLine ∧ AftL K mg z ι H (yw, r) D E := by
  by_cases hl : yw.length < sizeLine
  · have e : drainL yw (.fin r) = (yw, r) := by unfold drainL; rw [if_pos hl]
    rw [e] at q
    exact ⟨hl, q⟩
  · rw [drainL_no hl] at q
    exact q.elim
end
section
variable {X : Cx} {E : WX} {st : Stmt} {rest : List Stmt} {e c : Expr} {pos yp : Pos}
theorem lg_plain {m : MS} (h : NS X E st m) : LG' X E st (yPlain m) := GS.imp (gs_ps h) fun D ys σ H ⟨ι, yw, σn, hh, ft, sl, ry, q⟩ => by
  obtain ⟨_, q⟩ := aftL_fin q
  refine ⟨ι, σn, hh, ft, sl, ?_⟩
  cases em : m σn hh with
  | nx s h' => rw [em] at q; exact fun ι2 σ2 H2 g2 f2 s2 => q ι2 ys σ2 H2 g2 f2 s2 (RWs.mono g2.g0 _ _ ry)
  | rt w h' => rw [em] at q; exact fun ι2 v H2 g2 f2 s2 => q ι2 ys v H2 g2 f2 s2 (RWs.mono g2.g0 _ _ ry)
  | bk s h' => rw [em] at q; exact fun ι2 σ2 H2 g2 f2 s2 => q ι2 ys σ2 H2 g2 f2 s2 (RWs.mono g2.g0 _ _ ry)
  | ct s h' => rw [em] at q; exact fun ι2 σ2 H2 g2 f2 s2 => q ι2 ys σ2 H2 g2 f2 s2 (RWs.mono g2.g0 _ _ ry)
  | exc x s h' => rw [em] at q; exact q
  | stuck => rw [em] at q; exact q.elim
theorem lgs_plain {m : MS} (h : NSs X E rest m) : LGs' X E rest (yPlain m) := GSs.imp (gss_pss h) fun D ys σ H ⟨ι, yw, σn, hh, ft, sl, ry, q⟩ => by
  obtain ⟨_, q⟩ := aftL_fin q
  refine ⟨ι, σn, hh, ft, sl, ?_⟩
  cases em : m σn hh with
  | nx s h' => rw [em] at q; exact fun ι2 σ2 H2 g2 f2 s2 => q ι2 ys σ2 H2 g2 f2 s2 (RWs.mono g2.g0 _ _ ry)
  | rt w h' => rw [em] at q; exact fun ι2 v H2 g2 f2 s2 => q ι2 ys v H2 g2 f2 s2 (RWs.mono g2.g0 _ _ ry)
  | bk s h' => rw [em] at q; exact fun ι2 σ2 H2 g2 f2 s2 => q ι2 ys σ2 H2 g2 f2 s2 (RWs.mono g2.g0 _ _ ry)
  | ct s h' => rw [em] at q; exact fun ι2 σ2 H2 g2 f2 s2 => q ι2 ys σ2 H2 g2 f2 s2 (RWs.mono g2.g0 _ _ ry)
  | exc x s h' => rw [em] at q; exact q
  | stuck => rw [em] at q; exact q.elim
theorem lg_nil : LGs' X E [] yNil := GSs.imp gss_nil fun D ys σ H ⟨ι, yw, σn, hh, ft, sl, ry, q⟩ => (aftL_fin q).2 ι ys σ H .refl ft sl ry
theorem lg_cons {a b : MGn} (ha : LG' X E st a) (hb : LGs' X E rest b) : LGs' X E (st :: rest) (ySeq a b) := GSs.imp (gss_cons ha hb) fun D ys σ H ⟨ι, yw, σn, hh, ft, sl, ry, q⟩ => by
  refine ⟨ι, yw, σn, hh, ft, sl, ry, ?_⟩
  unfold ySeq at q
  rw [drainL_bind (f := SR.thenG b) rfl] at q
  generalize ep : drainL yw (a σn hh) = p at q ⊢
  obtain ⟨yw', r⟩ := p
  cases r with
  | nx s h' => exact fun ι2 ys2 σ2 H2 g2 f2 s2 r2 => ⟨ι2, yw', s, h', f2, s2, r2, AftL.step q g2⟩
  | rt w h' => exact (aftL_fin q).2
  | bk s h' => exact (aftL_fin q).2
  | ct s h' => exact (aftL_fin q).2
  | exc x s h' => exact (aftL_fin q).2
  | stuck => exact (aftL_fin q).2
theorem lg_yield {m : ME} (he : NE X E e m) (hco : X.env.scope.isCoroutine = false := by rfl) (hi : interactive X.env = false := by rfl) : LG' X E (.Expr (.Yield (some e) yp) pos) (yYield m) :=
  GS.imp (gs_yield he hco hi) fun D ys σ H ⟨ι, yw, σn, hh, ft, sl, ry, q⟩ => by
    have hll := ry.len
    unfold yYield at q
    cases em : m σn hh with
    | ok w h' =>
      rw [em] at q
      dsimp only at q
      by_cases hl : yw.length < sizeLine
      · have e1 : drainL yw (.yld w h' fun h2 => .fin (.nx σn h2)) = drainL (yw ++ [w]) (.fin (.nx σn h')) := by
          conv => lhs; unfold drainL
          rw [if_pos hl]
        rw [e1] at q
        obtain ⟨_, q⟩ := aftL_fin q
        refine ⟨by rw [hll]; exact hl, ι, σn, hh, ft, sl, ?_⟩
        rw [em]
        exact fun ι2 v H2 g2 f2 r2 => q ι2 (ys ++ [v]) σ H2 g2 f2 (sl.mono g2.g0) (RWs.app (RWs.mono g2.g0 _ _ ry) (.cons r2 .nil))
      · rw [drainL_no hl] at q; exact q.elim
    | exc x h' =>
      rw [em] at q
      obtain ⟨hl, q⟩ := aftL_fin q
      refine ⟨by rw [hll]; exact hl, ι, σn, hh, ft, sl, ?_⟩
      rw [em]
      exact fun ι2 c d H2 g2 f2 r2 => q ι2 c d σ H2 g2 f2 (sl.mono g2.g0) r2
    | stuck => rw [em] at q; exact (aftL_fin q).2.elim
theorem lg_while {body : List Stmt} {t : MT} {b : MGn} {F : Nat} (hp : PassesOwn (model X.prog X.w) X.A X.env X.xe) (hc : NT X E c t) (hb : LGs' X E body b) : LG' X E (.While c body [] pos) (yWhile t b F) :=
  GS.imp (gs_while hp hc hb) fun D ys σ H q => by
    refine ⟨fun m ys σ H => tLG X.K X.mg (zX X) E (yWhile t b m) D ys σ H, ⟨F, q⟩, fun m ys σ H ⟨ι, yw, σn, hh, ft, sl, ry, q⟩ => ?_⟩
    cases m with
    | zero => exact (aftL_fin q).2.elim
    | succ m =>
      have q : AftL X.K X.mg (zX X) ι H (drainL yw ((t σn hh).thenG σn fun k h1 => if k = true then (b σn h1).bind (fun r => match r with
        | .nx σ' h' => yWhile t b m σ' h'
        | .ct σ' h' => yWhile t b m σ' h'
        | .bk σ' h' => .fin (.nx σ' h')
        | r => .fin r) else .fin (.nx σn h1))) D E := q
      refine ⟨ι, σn, hh, ft, sl, ?_⟩
      cases et : t σn hh with
      | exc x h' =>
        rw [et] at q
        exact fun ι2 c d H2 g2 f2 r2 => (aftL_fin q).2 ι2 c d σ H2 g2 f2 (sl.mono g2.g0) r2
      | stuck => rw [et] at q; exact (aftL_fin q).2.elim
      | ok k h1 =>
        rw [et] at q
        refine fun ι1 b1 H1 g1 f1 eb => ?_
        subst eb
        cases k with
        | false =>
          rw [if_neg Bool.false_ne_true]
          exact (aftL_fin q).2 ι1 ys σ H1 g1 f1 (sl.mono g1.g0) (RWs.mono g1.g0 _ _ ry)
        | true =>
          rw [if_pos rfl]
          refine ⟨fun ys σ H => tLG X.K X.mg (zX X) E (yWhile t b m) D ys σ H, fun ys' σ' H' w => ⟨m, Nat.lt_succ_self m, w⟩, ι1, yw, σn, h1, f1, sl.mono g1.g0, RWs.mono g1.g0 _ _ ry, ?_⟩
          have q := AftL.step q g1
          have q : AftL X.K X.mg (zX X) ι1 H1 (drainL yw ((b σn h1).bind (fun r => match r with
            | .nx σ' h' => yWhile t b m σ' h'
            | .ct σ' h' => yWhile t b m σ' h'
            | .bk σ' h' => .fin (.nx σ' h')
            | r => .fin r))) D E := q
          rw [drainL_bind] at q
          rotate_left
          · rfl
          generalize ep : drainL yw (b σn h1) = p at q ⊢
          obtain ⟨yw', r⟩ := p
          cases r with
          | nx s h' => exact fun ι2 ys2 σ2 H2 g2 f2 s2 r2 => ⟨ι2, yw', s, h', f2, s2, r2, AftL.step q g2⟩
          | ct s h' => exact fun ι2 ys2 σ2 H2 g2 f2 s2 r2 => ⟨ι2, yw', s, h', f2, s2, r2, AftL.step q g2⟩
          | bk s h' => exact (aftL_fin q).2
          | rt w h' => exact (aftL_fin q).2
          | exc x s h' => exact (aftL_fin q).2
          | stuck => exact (aftL_fin q).2
end
def finL (p : List W × SR) : ER (List W) := match p.2 with
  | .nx _ h => .ok p.1 h
  | .rt .non h => .ok p.1 h
  | .exc x _ h => .exc x h
  | _ => .stuck
def spGN (K : PySem.W.Frag) (mg : Str → Option Value) (n : Nat) (y : List W → List O → GO) : SpG := fun vs H Q E => ∃ ι ws h, Fit K mg ι H h ∧ ι.exs = none ∧ RWs K mg ι H ws vs ∧ ws.length = n ∧ Aft K mg ι H (finL (drainL [] (y ws h))) (RWs K mg) Q E
structure GenX (P : Program) (w : World) (K : PySem.W.Frag) (mg : Str → Option Value) (base : Heap) (k : Nat) (nm : Str) (ps : List Str) (n : Nat) (mb : MGn) : Prop where
  ex : ∃ (f : Addr) (fd : FuncData), GFn P w K mg base k f fd ps (spGN K mg ps.length fun ws h => mb (startN n ws) h) ∧ mg nm = some (.ref f) ∧ PySem.W.keepIn K (.ref f) = true ∧ Binds K fd ps []
theorem FunD.okL {P : Program} {w : World} {K : PySem.W.Frag} {mg : Str → Option Value} {base : Heap} {nm : Str} {st : Stmt} {N ps : List Str} {k : Nat} {b : MGn} (F : FunD K mg nm st ps) (S : GScope N ps (defScope st))
    (hb : ∀ (f : Addr) (cdv : Value) (A : Around) (outer : List Env) (s : Shared) (H : Hp) (E : XK) (pn : List (Addr × Obj)), Room k (A.deeper (envOfC nm (defScope st) s.heap.objs.size f cdv)) →
      LGs' (gcxOf P w K mg base N nm (defScope st) f cdv A outer s H E pn) (fun cls d _ H' => E cls d H') (defBody st) b) : GenX P w K mg base (k + 1) nm ps N.length b := by
  obtain ⟨f, fd, h1, h2, h3⟩ := F
  have hkp := h1.kp
  obtain ⟨oc, od, kV, doc, pm, an, cdv, ct, osl, rfl, lk, hcd⟩ := h1.ex
  refine ⟨f, _, gfn_of lk hcd S (fun vs H Q E h => ?_) (fun A outer s H vs Q E pn hr h => ?_), h2, hkp, h3⟩
  · obtain ⟨ι, ws, h, _, _, r, e, _⟩ := h
    rw [r.len, e]
  · obtain ⟨ι, ws, h, ft, ex, r, e, q⟩ := h
    refine ⟨_, hb f cdv A outer s H E pn hr, ι, [], _, h, ft, sl_start ex r, .nil, ?_⟩
    have q : Aft K mg ι H (finL (drainL [] (b (ws.map some ++ List.replicate (N.length - ws.length) none) h))) (RWs K mg) Q E := q
    generalize ep : drainL [] (b (ws.map some ++ List.replicate (N.length - ws.length) none) h) = p at q ⊢
    obtain ⟨yw, r⟩ := p
    cases r with
    | nx s h' => exact fun ι2 ys2 σ2 H2 g2 f2 s2 r2 => q ι2 ys2 H2 g2 f2 r2
    | rt w h' =>
      cases w with
      | non => exact fun ι2 ys2 v H2 g2 f2 s2 r2 => ⟨by cases s2; rfl, q ι2 ys2 H2 g2 f2 r2⟩
      | _ => exact q.elim
    | exc x s h' => exact fun ι2 c d σ2 H2 g2 f2 s2 r2 => q ι2 c d H2 g2 f2 r2
    | bk s h' => exact q.elim
    | ct s h' => exact q.elim
    | stuck => exact q.elim
def lxK (xs : List Str) : ER (List W) → ER W
  | .ok yw h2 => .ok (.lst yw) h2
  | .exc x h2 => if x.c ∈ xs then .exc x h2 else .stuck
  | .stuck => .stuck
def mListX (xs : List Str) (mb : MGn) (n : Nat) (ma : MA) : ME := fun σ h => (ma σ h).bind fun ws h1 => lxK xs (finL (drainL [] (mb (startN n ws) h1)))
theorem drainX {x : Ex} {σ : Slo} {h : List O} : finL (drainL [] (.fin (.exc x σ h))) = .exc x h := by
  unfold drainL
  rw [if_pos (by decide)]; rfl
theorem y_seqX {m : MS} {b : MGn} {σ σ' : Slo} {h h' : List O} {x : Ex} (e : m σ h = .exc x σ' h') : ySeq (yPlain m) b σ h = .fin (.exc x σ' h') := by
  show SR.thenG b (m σ h) = _
  rw [e]; rfl
theorem y_seqN {m : MS} {b : MGn} {σ σ' : Slo} {h h' : List O} (e : m σ h = .nx σ' h') : ySeq (yPlain m) b σ h = b σ' h' := by
  show SR.thenG b (m σ h) = _
  rw [e]; rfl
section
variable {X : Cx} {pos : Pos}
theorem ne_listX {E : XK} {k : Nat} {x : Str} {xs ps : List Str} {n : Nat} {mb : MGn} {ma : MA} {p p2 pos' : Pos} {e : Expr} {es : List Expr}
    (G : GenX X.prog X.w X.K X.mg X.base k x ps n mb) (hr : Room (k + 3) X.A) (hc : X.calm = true) (hgl : Gl X x) (tk : Takes X (fun c d _ H => E c d H)) (ha : NA X (fun c d _ H => E c d H) (e :: es) ma) (hl : ∀ σ h ws h', ma σ h = .ok ws h' → ws.length = ps.length)
    (hst : ∀ y c, y ∈ xs → RXc X.mg y c → PySem.W.subIn X.K c (.type "StopIteration") = some false)
    (hgb : Gl X "list") (hmb : X.mg "list" = none)
    (hdb : (x == ("__debug__" : Str)) = false := by decide) (he : starEach (e :: es) X.env = (false, eval e X.env) :: starEach es X.env := by rfl) (hpl : (backTo pos' (starEach es X.env)).any (·.1) = false := by rfl)
    (he2 : starEach [.Call (.Name x p) (e :: es) [] pos'] X.env = (false, eval (.Call (.Name x p) (e :: es) [] pos') X.env) :: starEach [] X.env := by rfl) : NE X (fun c d _ H => E c d H) (.Call (.Name "list" p2) [.Call (.Name x p) (e :: es) [] pos'] [] pos) (mListX xs mb n ma) := by
  obtain ⟨f, fd, F, hm, hk, hb⟩ := G
  refine PE.imp (pe_listG (E := fun c d H => E c d H ∧ PySem.W.subIn X.K c (.type "StopIteration") = some false)
    (pgen_call F (hr.mono (by omega)) hgl hm hk hb .nil ha hdb he hpl) (passes_call tk fun cls d σ H h => h.1) (fun cls d H h => h.2) hr hgb hmb (by decide +kernel) (by decide) (by decide) he2) fun σ H Q ⟨ι, σn, h, ft, sl, q⟩ => ?_
  refine ⟨ι, σn, h, ft, sl, ?_⟩
  unfold mListX at q
  cases ea : ma σn h with
  | exc y h1 => rw [ea] at q; exact q
  | stuck => rw [ea] at q; exact q
  | ok ws h1 =>
    rw [ea] at q
    refine fun ι1 vs H1 g1 f1 r1 => ⟨ι1, ws, h1, f1, (g1.g0.ex.trans sl.ex).trans (if_pos hc), by rw [List.append_nil]; exact r1, hl _ _ _ _ ea, ?_⟩
    have q := Aft.step q g1
    have q : Aft X.K X.mg ι1 H1 (lxK xs (finL (drainL [] (mb (startN n ws) h1)))) (RW X.K X.mg) Q (fun c d H' => E c d H') := q
    show Aft X.K X.mg ι1 H1 (finL (drainL [] (mb (startN n ws) h1))) _ _ _
    generalize finL (drainL [] (mb (startN n ws) h1)) = r at q ⊢
    cases r with
    | stuck => exact q.elim
    | ok yw h2 =>
      exact fun ι2 ys H2 g2 f2 r2 p hp => let ⟨a1, a2, a3⟩ := new_lst f2 r2 hp; q ι2 (.ref p) _ (g2.trans a1) a2 a3
    | exc y h2 =>
      have q : Aft X.K X.mg ι1 H1 (if y.c ∈ xs then .exc y h2 else .stuck) (RW X.K X.mg) Q (fun c d H' => E c d H') := q
      split at q
      · rename_i hy
        refine fun ι2 c d H2 g2 f2 r2 => ⟨q ι2 c d H2 g2 f2 r2, hst y.c c hy ?_⟩
        cases r2 with
        | no a => exact a
        | xd a _ _ _ _ => exact a
      · exact q.elim
end
end N
set_option maxHeartbeats 1000000
namespace N
open PySem PySem.Spec PyProof.Rows PySem.W
section
variable {prog : Program} {w : World} {A : Around} {E : Value → Shared → Prop} {s : Shared} {K : PySem.W.Frag} {x C t : Addr} {B initId newId : String} {bmB : List Value}
/-- self.name = v on an exception without a dict -/
theorem xcl_set {name : Str} {v : Value} {Q : Unit → Shared → Prop} (SF : StoreFacts B bmB "object.__setattr__" "object") (X : K.In s.heap) (hx : s.heap.get? x = some (excObj C t none .none))
    (hs : findIn K (.ref C) "__setattr__" = some (some (.builtin "object.__setattr__"))) (hp : excOver K C bmB = true) (ht : takerIn K C name = some none) (hh : hasDictIn K C = true)
    (hq : ∀ h' tk' dx, (∀ b o, b ≠ x → s.heap.get? b = some o → h'.get? b = some o) → s.heap.objs.size ≤ dx → dx ≠ x → h'.get? x = some (excObj C t (some dx) .none) → h'.Ns1 dx (fun y => if y = name then some v else none) → Q () { s with heap := h', toks := tk' }) :
    wpAny (model prog w) A (setAttr (.ref x) name v) Q E s := by
  refine set_plain (od := none) X ⟨hx, rfl, rfl, trivial⟩ hs (osa_openX (s := { s with toks := s.toks + 1 }) (od := none) SF X ⟨hx, rfl, rfl, trivial⟩ hp ht fun b => ?_)
  obtain ⟨cd, hc, hd'⟩ := any_some hh
  have hxs : x ≠ s.heap.objs.size := Nat.ne_of_lt (Heap.lt_size hx)
  refine wpAny_bind (wpAny_pure (wpAny_bind (instanceDict_exc hx (looks_clsIn X hc) hd' ?_)))
  show wpAny _ _ (Builtin.ObjectAttr.storeInDict s.heap.objs.size (.str name _) name v) _ _ _
  refine HandSPX.store_in_new ?_ fun h' tk' hn' hs => ?_
  · exact ⟨_, #[], _, (Heap.get?_update_ne _ _ _ _ hxs.symm).trans (Heap.get?_push_at rfl rfl), rfl, fun e he => absurd he (by simp), fun _ => rfl⟩
  · have hx1 : (s.heap.push (dictOf [] 0)).get? x = some (excObj C t none .none) := Heap.get?_push_of_some _ hx
    refine hq h' tk' s.heap.objs.size (fun b o hb ho => ?_) (Nat.le_refl _) hxs.symm ?_ hn'
    · exact (hs.2 b (Nat.ne_of_lt (Heap.lt_size ho))).trans ((Heap.get?_update_ne _ _ _ _ hb).trans (Heap.get?_push_of_some _ ho))
    · exact (hs.2 x hxs).trans (Heap.get?_update_self _ hx1 rfl)
end
/-- what the text says of such a class: B its base, fld the field -/
structure XCls (P : Program) (K : PySem.W.Frag) (mg : Str → Option Value) (C : Addr) (B newId initId : String) (bmB : List Value) (fld : Str) (fI cda cc : Addr) (sn pn : Str) : Prop where
  FB : ExcBaseFacts B newId initId bmB
  KF : KxsFacts B initId
  SF : StoreFacts B bmB "object.__setattr__" "object"
  cls : ∃ bm nm q N bs sn sub ab col dd k0 k1 k2 k3 k5, excTail bmB bm = true ∧ (∀ Y : String, bm.contains (.type Y) = bmB.contains (.type Y)) ∧ alongIn K "__init__" bm = some (some (.builtin initId)) ∧ K.lookup C = some (excClassObj nm q C N bs bm true sn sub ab col dd k0 k1 k2 k3 k5 newId)
  init : findIn K (.ref C) "__init__" = some (some (.ref fI))
  tI : typeIn K (.ref fI) = some (.type "function")
  sa : findIn K (.ref C) "__setattr__" = some (some (.builtin "object.__setattr__"))
  tk : takerIn K C fld = some none
  exC : subIn K (.ref C) (.type "BaseException") = some true
  tyC : typeIn K (.ref C) = some (.type "type")
  kC : keepIn K (.ref C) = true
  subB : subIn K (.ref C) (.type B) = some true
  opq : nsIn K cStatics "thirdparty.any" = some none
  fn : ∃ nmI qual params scope dV kV doc pm an ct oc od osl msg j p0 p1 p2 p3 p4 p5 p6 p7 p8 p9,
    K.lookup fI = some ⟨oc, od, .func (ksFn nmI qual params [.Expr (.Call (.Attribute (.Call (.Name "super" p0) [] [] p1) "__init__" p2) [.Constant (.str msg) j p3] [] p4) p5, .Assign [.Attribute (.Name sn p6) fld p7] (.Name pn p8) p9] scope dV kV doc pm an (.ref cda) ct cc), osl⟩ ∧
    codeIn K (.ref cda) qual = true ∧ scope.names.lookup sn = some .local ∧ scope.names.lookup pn = some .local ∧ scope.names.lookup ("super" : Str) = some .globalImplicit ∧ scope.names.lookup ("__class__" : Str) = some .free ∧
    (∀ x ∈ scope.names, x.2 ≠ .cell) ∧ scope.isCoroutine = false ∧ scope.isGenerator = false ∧ scope.kind = .function ∧ (sn == ("__debug__" : Str)) = false ∧ (pn == ("__debug__" : Str)) = false ∧
    (∀ env : Env, ∃ pl : Sem Bool, eval (.Call (.Attribute (.Call (.Name "super" p0) [] [] p1) "__init__" p2) [.Constant (.str msg) j p3] [] p4) env = (do
      let ov ← attributeBase (.Call (.Name "super" p0) [] [] p1) "__init__" env (eval (.Call (.Name "super" p0) [] [] p1) env)
      standAt p2.atName
      let (f, first) ← holding [ov] (getMethod ov "__init__" pl)
      callWith p4 f first (backTo p4 (starEach [.Constant (.str msg) j p3] env)) [])) ∧
    (∃ ar : Arg, (params.posonlyargs ++ params.args).head? = some ar ∧ ar.arg = sn) ∧
    (∀ (s : Shared) (a b : Value), BindsTo s (ksFn nmI qual params [.Expr (.Call (.Attribute (.Call (.Name "super" p0) [] [] p1) "__init__" p2) [.Constant (.str msg) j p3] [] p4) p5, .Assign [.Attribute (.Name sn p6) fld p7] (.Name pn p8) p9] scope dV kV doc pm an (.ref cda) ct cc) ⟨[a, b], []⟩ [(sn, a), (pn, b)])
  code : ∃ vs file tf ccl cdd ccs, K.lookup cda = some ⟨ccl, cdd, .fields vs, ccs⟩ ∧ vs[2]? = some (.str file tf) ∧ ((P.main.file : Str) == file) = true
  cell : ∃ cl cld csl, K.lookup cc = some ⟨cl, cld, .cell (some (.ref C)), csl⟩
  sup : mg "super" = none
  top : (P.main.scope.names.lookup ("super" : Str)).isSome = false
  ne : pn ≠ sn
section
variable {P : Program} {w : World} {A : Around} {s : Shared} {K : PySem.W.Frag} {mg : Str → Option Value} {base : Heap} {C fI cda cc e t : Addr} {B newId initId : String} {bmB : List Value} {fld sn pn : Str} {u : Value} {R : Result → Shared → Prop}
theorem xcl_init (T : XCls P K mg C B newId initId bmB fld fI cda cc sn pn) (M : L2.Mod K mg base) (hb : ∀ b o, base.get? b = some o → s.heap.get? b = some o) (hbe : base.get? e = none) (hd : A.depth < recursionLimit) (he : s.heap.get? e = some (excObj C t none .none))
    (hR : ∀ h' tk' dx t', (∀ b o, b ≠ e → s.heap.get? b = some o → h'.get? b = some o) → s.heap.get? dx = none → dx ≠ e → h'.get? e = some (excObj C t' (some dx) .none) → h'.Ns1 dx (fun y => if y = fld then some u else none) → R (.ok (.ret .none)) { s with heap := h', toks := tk' }) :
    codeAny (model P w) A (.call (.ref fI) ⟨[.ref e, u], []⟩) R s := by
  obtain ⟨nmI, qual, params, scope, dV, kV, doc, pm, an, ct, oc, od, osl, msg, j, p0, p1, p2, p3, p4, p5, p6, p7, p8, p9, lk, hcd, l1, l2, l3, l4, ncell, nco, ngen, nk, nd1, nd2, hev, ⟨ar, har, har2⟩, hbind⟩ := T.fn
  obtain ⟨vs, file, tf, ccl, cdd, ccs, lcode, lvs, lfile⟩ := T.code
  obtain ⟨cl, cld, csl, lcell⟩ := T.cell
  have X : K.In s.heap := M.kin.keeps hb
  have lim : s.heap.NoLimit := M.nolimit.keeps hb
  refine ks_codeAny_call_defAt (fd := ksFn nmI qual params _ scope dV kV doc pm an (.ref cda) ct cc) hd (X _ _ lk) rfl lim (codeRec_of X hcd) rfl (hbind s (.ref e) u) ncell (fun y hy => ?_) (fun h1 hns hk => ?_) nco ngen nk
  · simp only [List.mem_cons, List.not_mem_nil, or_false] at hy
    rcases hy with rfl | rfl
    · exact l1
    · exact l2
  · generalize hL : s.heap.objs.size = L at hns ⊢
    have eL : e ≠ L := by subst hL; exact Nat.ne_of_lt (Heap.lt_size he)
    obtain ⟨bm, nm, q, N', bs, sns, sub, ab, col, dd, k0, k1, k2, k3, k5, hEt, hCo, hAl, hC⟩ := T.cls
    have X1 : K.In h1 := X.keeps hk
    have he1 := hk _ _ he
    have hcl : clsIn K C = some { name := nm, bases := bs, mro := .ref C :: bm, ns := N', qualname := q, hasDict := true, slotNames := sns, subclasses := sub, abstract := ab, collection := col, hasDel := false } := by unfold clsIn; rw [hC] <;> rfl
    have hmro : mroIn K C (.ref C) = some true := by
      unfold mroIn
      rw [hcl, Option.bind_some, if_neg (show ¬ (List.isEmpty (Value.ref C :: bm) = true) from Bool.false_ne_true)]
      simp
    have hover : excOver K C bmB = true := by
      unfold excOver
      rw [hcl]
      show ((C == C) && excTail bmB bm) = true
      rw [hEt]; simp
    have hhd : hasDictIn K C = true := by unfold hasDictIn; rw [hcl]; rfl
    obtain ⟨mb, b1, b2⟩ := M.blt
    have keep1 : ∀ b o, base.get? b = some o → h1.get? b = some o := fun b o z => hk _ _ (hb _ _ z)
    have hint : interactive (ksEnv qual scope L fI (.ref cda) cc) = false := by
      unfold interactive
      show (scope.kind == .module && _) = false
      rw [nk]; rfl
    have lv1 : [(sn, Value.ref e), (pn, u)].reverse.lookup sn = some (.ref e) := by
      have : (sn == pn) = false := by simpa using Ne.symm T.ne
      simp [List.lookup, this]
    have lv2 : [(sn, Value.ref e), (pn, u)].reverse.lookup pn = some u := by simp [List.lookup]
    -- the second statement
    have second : ∀ h' tk' t', (∀ b o, b ≠ e → h1.get? b = some o → h'.get? b = some o) → h'.get? e = some (excObj C t' none .none) →
        _root_.PySem.wpAt (model P w) (A.deeper (ksEnv qual scope L fI (.ref cda) cc)) (.func [.Expr (.Call (.Attribute (.Call (.Name "super" p0) [] [] p1) "__init__" p2) [.Constant (.str msg) j p3] [] p4) p5, .Assign [.Attribute (.Name sn p6) fld p7] (.Name pn p8) p9] (ksEnv qual scope L fI (.ref cda) cc)) (execs [.Assign [.Attribute (.Name sn p6) fld p7] (.Name pn p8) p9] (ksEnv qual scope L fI (.ref cda) cc)) (fun f s' => R (.ok (.ret (match f with | .ret v => v | _ => .none))) s')
          (fun e s' => wpAny (model P w) (A.deeper (ksEnv qual scope L fI (.ref cda) cc)) (leaving (ksEnv qual scope L fI (.ref cda) cc) e) (fun _ s'' => R (.error e) s'') (fun e' s'' => R (.error e') s'') s') { s with heap := h', toks := tk' } := by
      intro h' tk' t' k' e'
      have hns' : h'.Ns L (fun x => [(sn, Value.ref e), (pn, u)].reverse.lookup x) := hns.at fun o z => k' _ _ (Ne.symm eL) z
      have X' : K.In h' := fun a o z => k' _ _ (fun y => by have z2 := M.kin a o z; rw [y, hbe] at z2; cases z2) (X1 a o z)
      have q2 : Env.kindOf (ksEnv qual scope L fI (.ref cda) cc) pn = some .local := l2
      have q1 : Env.kindOf (ksEnv qual scope L fI (.ref cda) cc) sn = some .local := l1
      refine ks_wpAt_execs_cons (ks_wpAt_Assign_Attr (wpAt_of_wpAny (wpAny_Name (wpAny_loadName_local (v := u) nk q2 hns' lv2 ?_) nd2)) rfl)
      refine wpAny_Name (wpAny_loadName_local (v := .ref e) nk q1 hns' lv1 ?_) nd1
      refine xcl_set (s := { s with heap := h', toks := tk' }) T.SF X' e' T.sa hover T.tk hhd fun h'' tk'' dx k'' dn dne ex hn'' => ?_
      exact wpAt_of_wpAny (wpAny_execs_nil (hR h'' tk'' dx t' (fun b o hbe z => k'' b o hbe (k' b o hbe (hk b o z))) (by
        cases z : s.heap.get? dx with
        | none => rfl
        | some o => exact absurd (Heap.lt_size (k' _ _ dne (hk _ _ z))) (Nat.not_lt.mpr dn)) dne ex hn''))
    obtain ⟨pl, hpl⟩ := hev (ksEnv qual scope L fI (.ref cda) cc)
    refine ks_wpAt_execs_cons (ks_wpAt_Expr_any (ks_wpAt_MethodCall (pl := pl) ?_ hpl) hint rfl)
    refine ks_wpAt_super_base (env := ksEnv qual scope L fI (.ref cda) cc) l3 l4 (by decide) rfl (X1 _ _ lk) rfl har rfl (X1 _ _ lcode) rfl lvs lfile T.top ?_
    refine ks_loadName_global nk l3 (Calls.loadGlobal_builtin (env := ksEnv qual scope L fI (.ref cda) cc) (M.glob.keeps keep1) T.sup (b1.keeps keep1) ((b2 "super" (by decide)).trans (show bootBuiltins "super" = some (.type "super") by decide +kernel)) ⟨rfl, ?_⟩)
    refine wpAny_loadName_free nk l4 rfl ⟨_, X1 _ _ lcell, rfl⟩ ?_
    refine wpAny_loadName_local nk (by rw [har2]; exact l1) hns (v := .ref e) (by rw [har2]; exact lv1) ?_
    refine ks_wpAny_isType_cls (X1 _ _ hC) rfl ⟨rfl, ?_⟩
    refine ks_wpAny_call_super (X1 _ _ hC) rfl he1 rfl (fun c z => by cases z) (looks_mroIn X1 hmro) (fun h2 es k2 => ?_)
    have X2 : K.In h2 := X1.keeps k2
    have hI : Looks (model P w) h2 (isInstance (.ref e) (.type B)) true := InstAt.type (⟨k2 _ _ he1, rfl, rfl, trivial⟩ : InstAt h2 e (excObj C t none .none) C none) |>.andThen (looks_subIn X2 T.subB)
    have hmr : Looks (model P w) h2 (mroOf (.ref C)) (.ref C :: bm) := (looks_clsIn X2 hcl).andThen .now
    refine kxs_getMethod T.KF es (looks_opaque X2 T.opq) hmr (ESX.drop_own C bm) X2 hAl hI (fun z => ?_) (by decide) ?_
    · have z2 := M.kin _ _ hC
      rw [← z, hbe] at z2; cases z2
    have lt2 : h2.objs.size ≠ e := Nat.ne_of_gt (Heap.lt_size (k2 _ _ he1))
    refine kxs_callWith (i := initId) (x := e) (by rfl) ?_
    show wpAny _ _ (evalArgs (.ref h2.objs.size) true ((false, eval (.Constant (.str msg) j p3) (ksEnv qual scope L fI (.ref cda) cc)) :: []) []) _ _ _
    refine Calls.evalArgs_plain (Calls.spliced_cons (wpAny_Constant_str (Calls.spliced_nil ⟨Heap.get?_push_size _ rfl, ?_⟩)))
    have k3 : ∀ b o, h2.get? b = some o → (h2.push (kxs_mw initId e)).get? b = some o := fun b o z => Heap.get?_push_of_some _ z
    refine wpAny_call (codeAny_of_tree ?_)
    show wpAny _ (Around.in1 _) (callAny (.ref h2.objs.size) ⟨[.str msg _], []⟩) _ _ _; simp only [callAny]
    refine wpAny_bind (wpAny_load (Heap.get?_push_size _ rfl) ?_)
    simp only [kxs_mw, show (Value.type "method-wrapper" == Value.type "method" || Value.type "method-wrapper" == Value.type "builtin_function_or_method" || Value.type "method-wrapper" == Value.type "method-wrapper") = true by decide, if_true]
    refine KFB.if_so (by decide) (wpAny_bind (check_bound_init T.FB.toExcCallFacts (k3 _ _ (k2 _ _ (X1 _ _ hC))) (k3 _ _ (k2 _ _ he1)) rfl (wpAny_bind (wpAny_pure (wpAny_pure ⟨plainId_quiet T.FB.init.plain _, codeAny_builtin T.FB.initEntry ?_⟩)))))
    refine exc_init_tree (cls := .ref C) (t0 := t) (dv := none) (c2 := .none) (c3 := .none) (b4 := .bool false) (k3 _ _ (k2 _ _ he1)) (by show 1 ≤ sizeLine; rw [sizeLine_eq]; decide) fun h4 k4 e4 t4 => ?_
    exact second h4 _ _ (fun b o hb2 z => k4 b o hb2 (k3 _ _ (k2 _ _ z))) e4
end
section
open L2
variable {X : L2.Cx} {pins : List (Addr × Obj)} {σ : L2.St} {C fI cda cc : Addr} {B newId initId : String} {bmB : List Value} {fld sn pn : Str}
/-- C(e), as an exception that is raised -/
def tMkX (C : Addr) (fld : Str) (t : TA) : L2.St → Hp → XK → Prop := fun σ H Q => t σ H fun vs H1 => ∃ y, vs = [y] ∧ ∀ dx, H1 dx = none → Q (.ref C) (some dx) (upd H1 dx (.xd [(fld, y)]))
theorem pmk_x {k : Nat} {c : Str} {e : Expr} {t : TA} {p pos : Pos} (T : XCls X.prog X.K X.mg C B newId initId bmB fld fI cda cc sn pn) (hr : L2.Room (k + 1) X.A) (hg : Gl X c) (hm : X.mg c = some (.ref C)) (ha : PA X [e] t)
    (hdb : (c == ("__debug__" : Str)) = false := by decide) (he : starEach [e] X.env = (false, eval e X.env) :: starEach [] X.env := by rfl) : PMk X (.Call (.Name c p) [e] [] pos) (tMkX C fld t) := by
  intro pins s σ H Q I h
  refine wpAny_Call_Name_kw (ld_glob I hg hm ?_ hdb)
  refine PySem.W.callWith_K (h₀ := X.base) I.ok.mod.kin T.kC (thn (ha.run pos pins s σ H _ I h) fun us s1 ⟨vs, H1, I1, r1, y, hy, q⟩ => ⟨I1.kIn, ?_⟩) he (by rfl)
  subst hy
  obtain ⟨u, rfl, ru⟩ := r1.one
  show wpAny _ _ (call (.ref C) [u]) _ _ _
  obtain ⟨hp, g, dr, tk, os⟩ := s1
  obtain ⟨bm, nm, qn, N', bs, sns, sub, ab, col, dd, k0, k1, k2, k3, k5, hEt, hCo, hAl, hC⟩ := T.cls
  have kk : ∀ b o, hp.get? b = some o → ((hp.push (PySem.W.kdv_tup [u])).push (PySem.HandSPX.excO C hp.objs.size)).get? b = some o := fun b o e => Heap.get?_push_of_some _ (Heap.get?_push_of_some _ e)
  have hget : ((hp.push (PySem.W.kdv_tup [u])).push (PySem.HandSPX.excO C hp.objs.size)).get? (hp.objs.size + 1) = some (PySem.HandSPX.excO C hp.objs.size) := by heap_get
  have hnb : X.base.get? (hp.objs.size + 1) = none := by
    cases z : X.base.get? (hp.objs.size + 1) with
    | none => rfl
    | some o => exact absurd (Heap.lt_size (I1.bk _ _ z)) (Nat.not_lt.mpr (Nat.le_succ _))
  refine wpAny_call (PySem.HandSPX.call_own T.FB hCo (I1.kIn _ _ hC) (PySem.W.looks_findIn I1.kIn T.init) (fun self => PySem.W.bind_fn I1.kIn self T.tI) (by show 1 ≤ sizeLine; rw [sizeLine_eq]; decide)
    (xcl_init (s := ⟨(hp.push (PySem.W.kdv_tup [u])).push (PySem.HandSPX.excO C hp.objs.size), g, dr, tk, os⟩) T I1.mod (fun b o z => kk _ _ (I1.bk b o z)) hnb (hr.make C [u] []).depth hget fun h' tk' dx t' k' nd dne ex hn => ?_))
  refine ⟨rfl, ?_⟩
  have ndp : hp.get? dx = none := by
    cases z : hp.get? dx with
    | none => rfl
    | some o => have := kk _ _ z; rw [nd] at this; cases this
  have nH : H1 dx = none := I1.hok.gone ndp
  have nep : hp.get? (hp.objs.size + 1) = none := by
    cases z : hp.get? (hp.objs.size + 1) with
    | none => rfl
    | some o => exact absurd (Heap.lt_size z) (Nat.not_lt.mpr (Nat.le_succ _))
  obtain ⟨G, g1, g2⟩ := restrict h' fun b => decide (b ≠ hp.objs.size + 1)
  have gk : ∀ b, b ≠ hp.objs.size + 1 → G.get? b = h'.get? b := fun b hb => g1 b (decide_eq_true hb)
  have ge : G.get? (hp.objs.size + 1) = none := g2 _ (by simp)
  have kG : ∀ b o, hp.get? b = some o → G.get? b = some o := fun b o z => by
    have hne : b ≠ hp.objs.size + 1 := fun y => by rw [y, nep] at z; cases z
    exact (gk b hne).trans (k' _ _ hne (kk _ _ z))
  have J : Inv X pins σ (upd H1 dx (.xd [(fld, y)])) ⟨G, g, dr, tk', os⟩ := I1.laidN (t' := tk') kG ndp nH (by
    refine ⟨_, hn.at fun o z => (gk _ dne).trans z, fun f => ?_⟩
    by_cases hf : f = fld
    · subst hf; simp [List.lookup]; exact ru
    · have : (f == fld) = false := by simpa using hf
      simp [List.lookup, this, hf]; trivial)
  refine ⟨hp.objs.size + 1, _, _, ⟨G, g, dr, tk', os⟩, _, .ref C, some dx, rfl, J, fun b o z => ?_, ge, ex, ⟨rfl, rfl⟩, rfl, rfl, ?_, rfl, I1.bare, raises_own T.exC T.tyC, q dx nH⟩
  · by_cases hb : b = hp.objs.size + 1
    · rw [hb, ge] at z; cases z
    · exact (gk b hb).symm.trans z
  · rw [upd_ne (Ne.symm dne)]
    exact I1.hok.gone nep
end
end N
set_option maxHeartbeats 1000000
namespace N
open PySem PySem.Spec PyProof.Rows L2
/-- a clause: its class, its name's slot, what its suite asks -/
abbrev Cls3 := Value × Option Nat × (Addr → Value → Option Addr → TS)
def asEnds (o : Option Nat) (D : Ends) : Ends := match o with
  | none => D
  | some i => { nx := fun σ' H' => D.nx (σ'.set i none) H', rt := D.rt, bk := fun σ' H' => D.bk (σ'.set i none) H', ct := fun σ' H' => D.ct (σ'.set i none) H' }
def asSet (o : Option Nat) (a : Addr) (σ : L2.St) : L2.St := match o with
  | none => σ
  | some i => σ.set i (some (.ref a))
def wMix (K : PySem.W.Frag) (Wout : WX) (D : Ends) : List Cls3 → WX
  | [] => Wout
  | (c, o, ts) :: r => fun cls d σ H => ∃ b, PySem.W.exmOne K cls c = some b ∧ (b = true → ∀ a, H a = none → ts a cls d (asEnds o D) (asSet o a σ) H) ∧ (b = false → wMix K Wout D r cls d σ H)
inductive HdsMix (X : Cx) : List ExceptHandler → List Cls3 → Prop
  | nil : HdsMix X [] []
  | cons {x : Str} {c : Value} {ts : Addr → Value → Option Addr → TS} {b₀ : Stmt} {suite : List Stmt} {np pos' : Pos} {hds : List ExceptHandler} {l : List Cls3} (hc : Names X x c)
      (hsu : ∀ (a : Addr) (oe : Obj) (cls : Value) (d : Option Addr) (pn : List (Addr × Obj)), Zc cls d oe → (∃ vs, oe.data = .fields vs) → PSs (X.suite a ((a, oe) :: pn)) (b₀ :: suite) (ts a cls d)) (r : HdsMix X hds l) :
      HdsMix X (.ExceptHandler (some (.Name x np)) none (b₀ :: suite) pos' :: hds) ((c, none, ts) :: l)
  | asN {x n : Str} {i : Nat} {c : Value} {ts : Addr → Value → Option Addr → TS} {b₀ : Stmt} {suite : List Stmt} {np pos' : Pos} {hds : List ExceptHandler} {l : List Cls3} (hc : Names X x c) (hi : X.N[i]? = some n) (hln : X.env.kindOf n = some .local)
      (hsu : ∀ (a : Addr) (oe : Obj) (cls : Value) (d : Option Addr) (pn : List (Addr × Obj)), Zc cls d oe → (∃ vs, oe.data = .fields vs) → PSs (X.suite a ((a, oe) :: pn)) (b₀ :: suite) (ts a cls d)) (r : HdsMix X hds l) :
      HdsMix X (.ExceptHandler (some (.Name x np)) (some n) (b₀ :: suite) pos' :: hds) ((c, some i, ts) :: l)
section
variable {X : Cx} {body : List Stmt} {h₀ : ExceptHandler} {hds : List ExceptHandler} {l : List Cls3} {pos : Pos} {tb : WX → TS} {Wout : WX}
theorem ps_try_mix (hs : X.stack = X.env :: X.outer) (hf : X.env.frame = some X.env.locals) (hN : X.N.Nodup) (tk : Takes X Wout)
    (hb : ∀ (W : WX) (pn : List (Addr × Obj)) (xe : Value → Shared → Prop), Takes (X.tr pn xe) W → PassesOwn (model X.prog X.w) X.A X.env xe → PSs (X.tr pn xe) body (tb W))
    (hh : HdsMix X (h₀ :: hds) l) : PS X (.Try body (h₀ :: hds) [] [] pos) (fun D σ H => tb (wMix X.K Wout D l) D σ H) := by
  refine ⟨fun pins s σ H D I h => ?_⟩
  have ok := I.ok; have hfr : X.A.frames = some (X.env :: X.outer) := by rw [ok.frames, hs]
  refine wpAny_Try_except (wpAny_mono ((hb (wMix X.K Wout D l) (X.pn ++ pins) (fun e s₁ => wpAny (model X.prog X.w) X.A (noteFrame e X.env) (fun _ s₂ => wpAny (model X.prog X.w) X.A (setFlight e none) (fun _ s₃ =>
    wpAny (model X.prog X.w) X.A (handleBy e X.env (h₀ :: hds)) (SP X pins D) X.xe s₃) X.xe s₂) X.xe s₁) (fun u s' xx => ?_) PassesOwn.looking).run [] s σ H D (I.toTry _) h) (fun f s1 hsp => ?_) (fun e s1 he => he))
  · obtain ⟨a, B, sI, pins', σ', H', cls, d, rfl, J', nb, up, sky, na, os, ag, w⟩ := xx
    have J : Inv X pins σ' H' sI := J'.ofTry ok; have sky' : Sky B (X.env :: X.outer) a (Zc cls d) X.env.locals s'.heap := by rw [← hs]; exact sky
    show wpAny (model X.prog X.w) X.A (noteFrame (.ref a) X.env) _ _ _
    refine Sky.land Zc.steady hfr hf sky' fun h3 fl3 up3 => ?_
    have J3 : Inv X pins σ' H' { s' with heap := h3 } := J.landed nb fl3.1 (up.trans up3) os ag; obtain ⟨oe3, vs3, he3, hz3, hd3⟩ := fl3.there
    have notFr : ∀ {h : Heap} {o : Obj} {vs : Array Value}, h.FunFrames B (X.env :: X.outer) → h.get? a = some o → o.data = .fields vs → a ∉ frs (X.env :: X.outer) := fun {h o vs} ff e dd hm => by
      obtain ⟨_, o', e', hnf⟩ := ff.mem hm; rw [e] at e'; cases e'; exact hnf _ dd
    have nfr := notFr fl3.2.2.1 he3 hd3
    have nL : a ≠ X.env.locals := fun z => nfr (List.mem_filterMap.mpr ⟨X.env, List.mem_cons_self, by rw [hf, z]⟩)
    have nF : a ∉ X.fs := fun hm => by
      obtain ⟨e, he, q⟩ := List.mem_filterMap.mp hm; exact nfr (List.mem_filterMap.mpr ⟨e, List.mem_cons_of_mem _ he, q⟩)
    have S3 := J3.suite he3 hd3 na nL nF
    have LT : PySem.W.Looks (model X.prog X.w) h3 (typeOf (.ref a)) cls := fun A Q E s k q => wpAny_typeOf_ref (k _ _ he3) (by rw [hz3.1]; exact q)
    have test : ∀ {x : Str} {c : Value} {np : Pos}, Names X x c → ∀ {Q : Value → Shared → Prop} {E : Value → Shared → Prop}, Q c { s' with heap := h3 } → wpAny (model X.prog X.w) (X.A.mark (some (.ref a))) (eval (.Name x np) X.env) Q E { s' with heap := h3 } := fun {x c np} hc {Q E} q => by
      obtain ⟨hg, hdbg, hm | ⟨hm, hv, hnn⟩⟩ := hc
      · exact ld_glob (X := X.suite a ((a, oe3) :: (X.pn ++ pins))) S3 hg hm q hdbg
      · exact ld_blt (X := X.suite a ((a, oe3) :: (X.pn ++ pins))) S3 hg hm hv q hnn hdbg
    have go : ∀ {hds' : List ExceptHandler} {l' : List Cls3}, HdsMix X hds' l' → wMix X.K Wout D l' cls d σ' H' →
        wpAny (model X.prog X.w) X.A (handleBy (.ref a) X.env hds') (SP X pins D) X.xe { s' with heap := h3 } := by
      intro hds' l' hk
      induction hk with
      | nil =>
        intro w
        refine wpAny_handleBy_nil ?_
        obtain ⟨k1, k2, k3, oe, vs, T, oT, ts', he, hz, hd, h1, hr⟩ := id fl3; unfold PySem.passOn
        refine wpAny_bind (wpAny_field he hd h1 ?_); rw [if_neg (show ¬ ((Value.ref T == Value.none) = true) from by simp)]
        have fin : wpAny (model X.prog X.w) X.A (setFlight (.ref a) X.env.frame) (fun _ s4 => wpAny (model X.prog X.w) X.A (throw (.ref a) : Sem Flow) (SP X pins D) X.xe s4) X.xe { s' with heap := h3 } := by
          rw [hf]; refine HandSPX.setFlight_upZ fl3 fun h4 hh4 up4 => wpAny_throw (tk _ _ ?_)
          exact ⟨a, B, sI, pins, σ', H', cls, d, rfl, J, nb, (up.trans up3).trans up4, .inr (.inr (by rw [hs]; exact hh4)), na, os, ag, w⟩
        first | exact wpAny_bind (wpAny_pure (wpAny_bind fin)) | exact wpAny_bind fin
      | @cons x c ts b₀ suite np pos' hds2 l2 hc hsu r ih =>
        intro w
        obtain ⟨b, hb1, hyes, hno⟩ := w
        refine wpAny_handleBy_cons (codeAny_handlers_test ?_) (by intro q; cases q)
        have LM := PySem.W.exm_one (M := model X.prog X.w) (J3.kIn) LT hb1
        refine test hc (LM.here ?_)
        cases b with
        | false => exact ih (hno rfl)
        | true =>
          refine codeAny_handlers_suite (HandSPX.lands_againZ fl3 fun h4 fl4 up4 => ?_)
          have J4 : Inv X pins σ' H' { s' with heap := h4 } := J.landed nb fl4.1 ((up.trans up3).trans up4) os ag; obtain ⟨oe4, vs4, he4, hz4, hd4⟩ := fl4.there
          refine wpAny_mono ((hsu a oe4 cls d (X.pn ++ pins) hz4 ⟨_, hd4⟩).run [] _ _ H' _ (J4.suite he4 hd4 na nL nF) (hyes rfl a na)) (fun f s6 hsp => ?_) (fun _ _ z => False.elim z)
          cases f <;> first
            | (obtain ⟨σ6, H6, S6, q6⟩ := hsp; exact ⟨_, _, S6.unsuite ok, q6⟩)
            | (obtain ⟨v6, σ6, H6, S6, r6, q6⟩ := hsp; exact ⟨_, _, _, S6.unsuite ok, r6, q6⟩)
      | @asN x n i c ts b₀ suite np pos' hds2 l2 hc hi hln hsu r ih =>
        intro w
        obtain ⟨b, hb1, hyes, hno⟩ := w
        refine wpAny_handleBy_cons (codeAny_handlers_test ?_) (by intro q; cases q)
        have LM := PySem.W.exm_one (M := model X.prog X.w) (J3.kIn) LT hb1
        refine test hc (LM.here ?_)
        cases b with
        | false => exact ih (hno rfl)
        | true =>
          refine codeAny_handlers_suite_as (HandSPX.lands_againZ fl3 fun h4 fl4 up4 => ?_)
          have J4 : Inv X pins σ' H' { s' with heap := h4 } := J.landed nb fl4.1 ((up.trans up3).trans up4) os ag; obtain ⟨oe4, vs4, he4, hz4, hd4⟩ := fl4.there
          refine store_ok (X := X.suite a ((a, oe4) :: (X.pn ++ pins))) (v := .ref a) (J4.suite he4 hd4 na nL nF) hN hi (.inl hln) rfl (fun s5 S5 => ?_) (.inr hln)
          refine wpAny_mono ((hsu a oe4 cls d (X.pn ++ pins) hz4 ⟨_, hd4⟩).run [] s5 _ H' _ S5 (hyes rfl a na)) (fun f s6 hsp => ?_) (fun _ _ z => False.elim z)
          have end_ : ∀ {σ6 : L2.St} {H6 : Hp} {Q : Shared → Prop}, Inv (X.suite a ((a, oe4) :: (X.pn ++ pins))) [] σ6 H6 s6 → (∀ s7, Inv X pins (σ6.set i none) H6 s7 → Q s7) →
              wpAny (model X.prog X.w) X.A (do bindName X.env n .none; unbindBehindTheSuite X.env n pos') (fun _ s7 => Q s7) X.xe s6 := fun {σ6 H6 Q} S6 hq => gone_ok (S6.unsuite ok) hN hi hln hq
          cases f <;> first
            | (obtain ⟨σ6, H6, S6, q6⟩ := hsp; exact end_ S6 fun s7 J7 => ⟨_, _, J7, q6⟩)
            | (obtain ⟨v6, σ6, H6, S6, r6, q6⟩ := hsp; exact end_ S6 fun s7 J7 => ⟨_, _, _, J7, r6, q6⟩)
    exact go hh w
  · cases f <;> first
      | (obtain ⟨σ', H', J', q⟩ := hsp; exact wpAny_execs_nil ⟨σ', H', J'.ofTry ok, q⟩)
      | (obtain ⟨σ', H', J', q⟩ := hsp; exact ⟨σ', H', J'.ofTry ok, q⟩)
      | (obtain ⟨v, σ', H', J', r, q⟩ := hsp; exact ⟨v, σ', H', J'.ofTry ok, r, q⟩)
end
mutual
def nx : W → Bool
  | .tup ws => nxs ws
  | .tro ws => nxs ws
  | .lst ws => nxs ws
  | .lro ws => nxs ws
  | .dct _ kvs => nxp kvs
  | .exo _ _ => false
  | _ => true
def nxs : List W → Bool
  | [] => true
  | w :: ws => nx w && nxs ws
def nxp : List (W × W) → Bool
  | [] => true
  | (_, w) :: ws => nx w && nxp ws
end
def Ix.ex (ι : Ix) (z : Option (Addr × Addr)) : Ix := ⟨ι.num, ι.hid, z⟩
section
variable {K : PySem.W.Frag} {mg : Str → Option Value} {ι : Ix} {H : Hp} {z : Option (Addr × Addr)}
mutual
theorem RW.nx (hz : ι.exs = none) : ∀ (w : W) (v : V), RW K mg ι H w v → N.nx w = true
  | .non, _, h => rfl
  | .bl b, _, h => rfl
  | .int b, _, h => rfl
  | .str b, _, h => rfl
  | .ty b, _, h => rfl
  | .ref n, _, h => rfl
  | .fn x, _, h => rfl
  | .tup ws, _, h => by
    cases h with
    | tup h0 h1 h2 => unfold N.nx; exact RWs.nx hz ws _ h2
  | .tro ws, _, h => by
    cases h with
    | tro h1 h2 => unfold N.nx; exact RWs.nx hz ws _ h2
  | .lst ws, _, h => by
    cases h with
    | lst h0 h1 h2 => unfold N.nx; exact RWs.nx hz ws _ h2
  | .lro ws, _, h => by
    cases h with
    | lro h1 h2 => unfold N.nx; exact RWs.nx hz ws _ h2
  | .dct _ kvs, _, h => by
    cases h with
    | dctK h0 h1 h2 => unfold N.nx; exact RWk.nx hz kvs _ h2
    | dctT h0 h1 h2 => unfold N.nx; exact RWt.nx hz kvs _ h2
  | .exo ns ws, _, h => by
    cases h with
    | exo h0 h1 h2 h3 => rw [hz] at h0; cases h0
theorem RWs.nx (hz : ι.exs = none) : ∀ (ws : List W) (vs : List V), RWs K mg ι H ws vs → nxs ws = true
  | [], _, h => by unfold nxs; rfl
  | w :: ws, _, h => by
    cases h with
    | cons h1 h2 => unfold nxs; rw [RW.nx hz w _ h1, RWs.nx hz ws _ h2]; rfl
theorem RWk.nx (hz : ι.exs = none) : ∀ (ws : List (W × W)) (vs : List (Key × V)), RWk K mg ι H ws vs → nxp ws = true
  | [], _, h => by unfold nxp; rfl
  | (k, w) :: ws, _, h => by
    cases h with
    | cons h0 h1 h2 => unfold nxp; rw [RW.nx hz w _ h1, RWk.nx hz ws _ h2]; rfl
theorem RWt.nx (hz : ι.exs = none) : ∀ (ws : List (W × W)) (vs : List (List Key × V)), RWt K mg ι H ws vs → nxp ws = true
  | [], _, h => by unfold nxp; rfl
  | (k, w) :: ws, _, h => by
    cases h with
    | cons h0 h1 h2 => unfold nxp; rw [RW.nx hz w _ h1, RWt.nx hz ws _ h2]; rfl
end
mutual
theorem RW.sw : ∀ (w : W) (v : V), N.nx w = true → RW K mg ι H w v → RW K mg (ι.ex z) H w v
  | .non, _, n, h => by cases h; exact .non
  | .bl b, _, n, h => by cases h; exact .bl b
  | .int b, _, n, h => by cases h; exact .int b
  | .str b, _, n, h => by cases h; exact .str b
  | .ty b, _, n, h => by cases h; exact .ty b
  | .ref m, _, n, h => by
    cases h with
    | ref h1 => exact .ref h1
  | .fn x, _, n, h => by
    cases h with
    | fn h1 => exact .fn h1
  | .tup ws, _, n, h => by
    unfold N.nx at n
    cases h with
    | tup h0 h1 h2 => exact .tup h0 h1 (RWs.sw ws _ n h2)
  | .tro ws, _, n, h => by
    unfold N.nx at n
    cases h with
    | tro h1 h2 => exact .tro h1 (RWs.sw ws _ n h2)
  | .lst ws, _, n, h => by
    unfold N.nx at n
    cases h with
    | lst h0 h1 h2 => exact .lst h0 h1 (RWs.sw ws _ n h2)
  | .lro ws, _, n, h => by
    unfold N.nx at n
    cases h with
    | lro h1 h2 => exact .lro h1 (RWs.sw ws _ n h2)
  | .dct _ kvs, _, n, h => by
    unfold N.nx at n
    cases h with
    | dctK h0 h1 h2 => exact .dctK h0 h1 (RWk.sw kvs _ n h2)
    | dctT h0 h1 h2 => exact .dctT h0 h1 (RWt.sw kvs _ n h2)
  | .exo ns ws, _, n, h => by unfold N.nx at n; cases n
theorem RWs.sw : ∀ (ws : List W) (vs : List V), nxs ws = true → RWs K mg ι H ws vs → RWs K mg (ι.ex z) H ws vs
  | [], _, n, h => by cases h; exact .nil
  | w :: ws, _, n, h => by
    unfold nxs at n
    rw [Bool.and_eq_true] at n
    cases h with
    | cons h1 h2 => exact .cons (RW.sw w _ n.1 h1) (RWs.sw ws _ n.2 h2)
theorem RWk.sw : ∀ (ws : List (W × W)) (vs : List (Key × V)), nxp ws = true → RWk K mg ι H ws vs → RWk K mg (ι.ex z) H ws vs
  | [], _, n, h => by cases h; exact .nil
  | (k, w) :: ws, _, n, h => by
    unfold nxp at n
    rw [Bool.and_eq_true] at n
    cases h with
    | cons h0 h1 h2 => exact .cons h0 (RW.sw w _ n.1 h1) (RWk.sw ws _ n.2 h2)
theorem RWt.sw : ∀ (ws : List (W × W)) (vs : List (List Key × V)), nxp ws = true → RWt K mg ι H ws vs → RWt K mg (ι.ex z) H ws vs
  | [], _, n, h => by cases h; exact .nil
  | (k, w) :: ws, _, n, h => by
    unfold nxp at n
    rw [Bool.and_eq_true] at n
    cases h with
    | cons h0 h1 h2 => exact .cons h0 (RW.sw w _ n.1 h1) (RWt.sw ws _ n.2 h2)
end
def nxO : O → Prop
  | .lst ws => nxs ws = true
  | .dct _ _ kvs => nxp kvs = true
  | .ins _ ws => ∀ (i : Nat) (w : W), ws[i]? = some (some w) → N.nx w = true
theorem RO.nx (hz : ι.exs = none) {o : O} {a : Addr} (h : RO K mg ι H o a) : nxO o := by
  cases h with
  | lst h1 h2 => exact RWs.nx hz _ _ h2
  | dctK h1 h2 => exact RWk.nx hz _ _ h2
  | dctT h1 h2 => exact RWt.nx hz _ _ h2
  | ins h1 h2 h3 h4 h5 => exact fun i w e => let ⟨v, _, r⟩ := h5 i w e; RW.nx hz _ _ r
theorem RO.sw {o : O} {a : Addr} (n : nxO o) (h : RO K mg ι H o a) : RO K mg (ι.ex z) H o a := by
  cases h with
  | lst h1 h2 => exact .lst h1 (RWs.sw _ _ n h2)
  | dctK h1 h2 => exact .dctK h1 (RWk.sw _ _ n h2)
  | dctT h1 h2 => exact .dctT h1 (RWt.sw _ _ n h2)
  | ins h1 h2 h3 h4 h5 => exact .ins h1 h2 h3 h4 fun i w e => let ⟨v, e', r⟩ := h5 i w e; ⟨v, e', RW.sw _ _ (n i w e) r⟩
theorem Fit.nx {h : List O} (f : Fit K mg ι H h) (hz : ι.exs = none) : ∀ (i : Nat) (o : O), h[i]? = some o → nxO o := fun i o e => by
  have hi : i < ι.num.length := by rw [f.len]; exact (List.getElem?_eq_some_iff.mp e).1
  exact RO.nx hz (f.obj i o _ e (List.getElem?_eq_getElem hi))
theorem Fit.sw {h : List O} (f : Fit K mg ι H h) (n : ∀ (i : Nat) (o : O), h[i]? = some o → nxO o) : Fit K mg (ι.ex z) H h := ⟨f.nd, f.len, fun i o a e1 e2 => RO.sw (n i o e1) (f.obj i o a e1 e2), f.hd⟩
end
/-- a clause: its class's name, its name's slot, its suite -/
abbrev HN := Str × Option Nat × MS
open Classical in
/-- a suite only returns, and makes and changes nothing that is numbered -/
noncomputable def sufN (h' : List O) : SR → SR
  | .rt w h2 => if h2 = h' ∧ nx w = true then .rt w h2 else .stuck
  | _ => .stuck
open Classical in
theorem sufN_yes {h h2 : List O} {w : W} (hh : h2 = h ∧ nx w = true) : sufN h (.rt w h2) = .rt w h2 := if_pos hh
open Classical in
theorem sufN_no {h h2 : List O} {w : W} (hh : ¬ (h2 = h ∧ nx w = true)) : sufN h (.rt w h2) = .stuck := if_neg hh
def nxS (σ : Slo) : Bool := σ.all fun o => match o with
  | none => true
  | some w => nx w
open Classical in
/-- .. or goes on with the loop -/
noncomputable def sufC (h' : List O) : SR → SR
  | .ct σ h2 => if h2 = h' ∧ nxS σ = true then .ct σ h2 else .stuck
  | r => sufN h' r
open Classical in
theorem sufC_yes {h h2 : List O} {σ : Slo} (hh : h2 = h ∧ nxS σ = true) : sufC h (.ct σ h2) = .ct σ h2 := if_pos hh
open Classical in
theorem sufC_no {h h2 : List O} {σ : Slo} (hh : ¬ (h2 = h ∧ nxS σ = true)) : sufC h (.ct σ h2) = .stuck := if_neg hh
noncomputable def sufO : Option Nat → List O → SR → SR
  | none => sufC
  | some _ => sufN
def asN (o : Option Nat) (x : Ex) (σ : Slo) : Slo := match o with
  | none => σ
  | some i => σ.set i (if x.fs.isEmpty = true then none else some (.exo (x.fs.map (·.1)) (x.fs.map (·.2))))
/-- does the clause's class take it -/
def takesH (o : Option Nat) (b : Bool) (x : Ex) (c : Str) : Option Bool := match o with
  | none => some b
  | some _ => if b = true then (if x.c = c then some true else none) else some false
noncomputable def mHnd (mt : Str → Str → Option Bool) : List HN → Ex → Slo → List O → SR
  | [], x, σ, h => .exc x σ h
  | (c, o, m) :: r, x, σ, h => match (mt x.c c).bind fun b => takesH o b x c with
    | some true => sufO o h (m (asN o x σ) h)
    | some false => mHnd mt r x σ h
    | none => .stuck
noncomputable def mTry (mt : Str → Str → Option Bool) (body : MS) (l : List HN) : MS := fun σ h => match body σ h with
  | .exc x σ' h' => mHnd mt l x σ' h'
  | r => r
def MtOk (K : PySem.W.Frag) (mg : Str → Option Value) (mt : Str → Str → Option Bool) : Prop := ∀ x c b, mt x c = some b → ∃ A C, mg x = some (.ref A) ∧ mg c = some (.ref C) ∧ PySem.W.exmOne K (.ref A) (.ref C) = some b
theorem RXc.isOwn {mg : Str → Option Value} {x : Str} {c : Value} {A : Addr} (r : RXc mg x c) (h : mg x = some (.ref A)) : c = .ref A := by
  cases r with
  | own e => rw [h] at e; cases e; rfl
  | blt e _ _ => rw [h] at e; cases e
theorem RX.cls {K : PySem.W.Frag} {mg : Str → Option Value} {ι : Ix} {H : Hp} {x : Ex} {c : Value} {d : Option Addr} (r : RX K mg ι H x c d) : RXc mg x.c c := by
  cases r with
  | no h => exact h
  | xd h0 h1 h2 h3 h4 => exact h0
theorem RWs.sw' {K : PySem.W.Frag} {mg : Str → Option Value} {ι : Ix} {H : Hp} {z : Option (Addr × Addr)} (hz : ι.exs = none) {ws : List W} {vs : List V} (r : RWs K mg ι H ws vs) : RWs K mg (ι.ex z) H ws vs := RWs.sw ws vs (RWs.nx hz ws vs r) r
theorem Grow.unex {ι ι2 : Ix} {H H2 : Hp} {z : Option (Addr × Addr)} (g : Grow (ι.ex z) ι2 H H2) : Grow ι (ι2.ex ι.exs) H H2 :=
  ⟨⟨g.g0.pre, fun a o n e => g.g0.keep a o n e, rfl, g.g0.lk⟩, g.hid, g.hkeep⟩
section
variable {X : Cx} {E : WX} {mt : Str → Str → Option Bool} {z : Option (Addr × Addr)} {pos : Pos}
/-- into a suite and out of it -/
theorem suf_at {K : PySem.W.Frag} {mg : Str → Option Value} {ι : Ix} {H : Hp} {x : Ex} {σn : Slo} {σ : L2.St} {h : List O} {cls : Value} {d : Option Addr} {D : Ends} {m : MS} {o : Option Nat} {a : Addr} (hz : ι.exs = none) (f : Fit K mg ι H h) (s : Sl K mg ι H none σn σ) (r : RX K mg ι H x cls d)
    (q : AftS K mg none ι H (sufO o h (m (asN o x σn) h)) D E) : tNS K mg (d.map fun b => (a, b)) E00 m (asEnds o D) (asSet o a σ) H := by
  have hs : Sl K mg (ι.ex (d.map fun b => (a, b))) H (d.map fun b => (a, b)) σn σ := ⟨rfl, s.len, fun i w e => let ⟨v, e1, r1⟩ := s.at' i w e; ⟨v, e1, RW.sw w v (RW.nx hz w v r1) r1⟩⟩
  have hs2 : Sl K mg (ι.ex (d.map fun b => (a, b))) H (d.map fun b => (a, b)) (asN o x σn) (asSet o a σ) := by
    cases o with
    | none => exact hs
    | some i =>
      refine ⟨rfl, by unfold asN asSet; simp only [List.length_set]; exact s.len, fun j w e => ?_⟩
      unfold asN asSet at *
      by_cases hij : i = j
      · subst hij
        have hl : i < σn.length := by
          by_cases hl : i < σn.length
          · exact hl
          · simp only at e
            rw [List.getElem?_eq_none (by rw [List.length_set]; omega)] at e; cases e
        simp only [List.getElem?_set_self hl] at e
        split at e
        · cases e
        · rename_i hne
          cases e
          refine ⟨.ref a, List.getElem?_set_self (by rw [← s.len]; exact hl), ?_⟩
          cases r with
          | no h0 => exact absurd rfl hne
          | @xd x0 c0 dd fs qs h0 h1 h2 h3 h4 =>
            have hzip : (fs.map (·.1)).zip (qs.map (·.2)) = qs := by
              rw [h3]
              clear h2 h3 h4
              induction qs with
              | nil => rfl
              | cons p l ih => simp only [List.map_cons, List.zip_cons_cons]; rw [ih]
            exact .exo (d := dd) rfl h1 (by rw [hzip]; exact h2) (RWs.sw' hz h4)
      · simp only [List.getElem?_set_ne hij] at e ⊢
        exact hs.at' j w e
  have hf : Fit K mg (ι.ex (d.map fun b => (a, b))) H h := Fit.sw f (Fit.nx f hz)
  refine ⟨_, _, h, hf, hs2, ?_⟩
  cases em : m (asN o x σn) h with
  | rt w h2 =>
    rw [em] at q
    have q1 : AftS K mg none ι H (sufN h (.rt w h2)) D E := by cases o <;> exact q
    clear q
    by_cases hh : h2 = h ∧ N.nx w = true
    · rw [sufN_yes hh] at q1
      obtain ⟨e1, e2⟩ := hh
      subst e1
      have go : ∀ ι2 v H2, Grow (ι.ex (d.map fun b => (a, b))) ι2 H H2 → Fit K mg ι2 H2 h2 → RW K mg ι2 H2 w v → D.rt v H2 := fun ι2 v H2 g2 f2 r2 => by
        have g3 := g2.unex
        exact q1 _ v H2 g3 (Fit.sw f2 (Fit.nx f hz)) (RW.sw w v e2 r2)
      cases o with
      | none => exact go
      | some i => exact go
    · rw [sufN_no hh] at q1; exact q1.elim
  | nx _ _ => rw [em] at q; cases o <;> exact q.elim
  | bk _ _ => rw [em] at q; cases o <;> exact q.elim
  | ct σ2 h2 =>
    rw [em] at q
    cases o with
    | some i => exact q.elim
    | none =>
      have q1 : AftS K mg none ι H (sufC h (.ct σ2 h2)) D E := q
      clear q
      by_cases hh : h2 = h ∧ nxS σ2 = true
      · rw [sufC_yes hh] at q1
        obtain ⟨e1, e2⟩ := hh
        subst e1
        intro ι2 σ' H2 g2 f2 s2
        refine q1 _ σ' H2 g2.unex (Fit.sw f2 (Fit.nx f hz)) ⟨hz, s2.len, fun i w e => ?_⟩
        obtain ⟨v, e3, r3⟩ := s2.at' i w e
        have := (List.all_eq_true.mp e2) _ (List.mem_of_getElem? e)
        exact ⟨v, e3, RW.sw w v this r3⟩
      · rw [sufC_no hh] at q1; exact q1.elim
  | exc _ _ _ => rw [em] at q; cases o <;> exact q.elim
  | stuck => rw [em] at q; cases o <;> exact q.elim
/-- clauses and what they do -/
def HdsN (X : Cx) (E : WX) (mt : Str → Str → Option Bool) (hds : List ExceptHandler) (l : List HN) : Prop := ∃ l3, HdsMix X hds l3 ∧ ∀ (D : Ends) (ι : Ix) (x : Ex) (σn : Slo) (h : List O) (c : Value) (d : Option Addr) (σ : L2.St) (H : Hp),
  ι.exs = none → Fit X.K X.mg ι H h → Sl X.K X.mg ι H none σn σ → RX X.K X.mg ι H x c d → AftS X.K X.mg none ι H (mHnd mt l x σn h) D E → wMix X.K E D l3 c d σ H
theorem hn_nil : HdsN X E mt [] [] := ⟨[], .nil, fun D ι x σn h c d σ H hz f s r q => q ι c d σ H .refl f s r⟩
theorem zX_suite {a : Addr} {oe : Obj} {d : Option Addr} {cls : Value} {pn : List (Addr × Obj)} (hz : Zc cls d oe) : zX (X.suite a ((a, oe) :: pn)) = d.map fun b => (a, b) := by
  unfold zX
  rw [if_neg (show ¬ ((X.suite a ((a, oe) :: pn)).calm = true) from Bool.false_ne_true)]
  show oe.dict.map _ = _
  rw [hz.2]
theorem hn_cons {x : Str} {np pos' : Pos} {b₀ : Stmt} {suite : List Stmt} {hds : List ExceptHandler} {l : List HN} {m : MS} (M : MtOk X.K X.mg mt) (hg : Gl X x) (hm : ∃ C, X.mg x = some (.ref C)) (hsu : ∀ (a : Addr) (oe : Obj) (pn : List (Addr × Obj)), NSs (X.suite a ((a, oe) :: pn)) E00 (b₀ :: suite) m)
    (r : HdsN X E mt hds l) (hdb : (x == ("__debug__" : Str)) = false := by decide) : HdsN X E mt (.ExceptHandler (some (.Name x np)) none (b₀ :: suite) pos' :: hds) ((x, none, m) :: l) := by
  obtain ⟨l3, h1, h2⟩ := r
  obtain ⟨C, hC⟩ := hm
  refine ⟨(.ref C, none, fun a cls d => tNS X.K X.mg (d.map fun b => (a, b)) E00 m) :: l3, .cons ⟨hg, hdb, .inl hC⟩ (fun a oe cls d pn hz hf => ?_) h1, fun D ι y σn h c d σ H hz f s r q => ?_⟩
  · have := hsu a oe pn
    unfold NSs at this
    rw [zX_suite hz] at this
    exact this
  · unfold mHnd at q
    cases em : mt y.c x with
    | none => rw [em] at q; exact q.elim
    | some b =>
      obtain ⟨A, C', e1, e2, e3⟩ := M _ _ _ em
      rw [hC] at e2; cases e2
      obtain rfl := r.cls.isOwn e1
      rw [em] at q
      refine ⟨b, e3, fun hb a na => ?_, fun hb => ?_⟩
      · subst hb; exact suf_at (o := none) hz f s r q
      · subst hb; exact h2 D ι y σn h _ d σ H hz f s r q
theorem hn_as {x n : Str} {i : Nat} {np pos' : Pos} {b₀ : Stmt} {suite : List Stmt} {hds : List ExceptHandler} {l : List HN} {m : MS} (M : MtOk X.K X.mg mt) (hg : Gl X x) (hi : X.N[i]? = some n) (hln : X.env.kindOf n = some .local) (hm : ∃ C, X.mg x = some (.ref C))
    (hsu : ∀ (C a : Addr) (oe : Obj) (d : Option Addr) (pn : List (Addr × Obj)), X.mg x = some (.ref C) → Zc (.ref C) d oe → (∃ vs, oe.data = .fields vs) → NSs (X.suite a ((a, oe) :: pn)) E00 (b₀ :: suite) m)
    (r : HdsN X E mt hds l) (hdb : (x == ("__debug__" : Str)) = false := by decide) : HdsN X E mt (.ExceptHandler (some (.Name x np)) (some n) (b₀ :: suite) pos' :: hds) ((x, some i, m) :: l) := by
  obtain ⟨l3, h1, h2⟩ := r
  obtain ⟨C, hC⟩ := hm
  refine ⟨(.ref C, some i, fun a cls d D σ H => cls = .ref C ∧ tNS X.K X.mg (d.map fun b => (a, b)) E00 m D σ H) :: l3, .asN ⟨hg, hdb, .inl hC⟩ hi hln (fun a oe cls d pn hz hf => ⟨fun pins s σ H D I hq => ?_⟩) h1, fun D ι y σn h c d σ H hz f s r q => ?_⟩
  · obtain ⟨e, hq⟩ := hq
    subst e
    have := hsu C a oe d pn hC hz hf
    unfold NSs at this
    rw [zX_suite hz] at this
    exact this.run pins s σ H D I hq
  · unfold mHnd at q
    cases em : mt y.c x with
    | none => rw [em] at q; exact q.elim
    | some b =>
      obtain ⟨A, C', e1, e2, e3⟩ := M _ _ _ em
      rw [hC] at e2; cases e2
      obtain rfl := r.cls.isOwn e1
      rw [em] at q
      simp only [Option.bind_some, takesH] at q
      cases b with
      | false => exact ⟨false, e3, (fun z => by cases z), fun _ => h2 D ι y σn h _ d σ H hz f s r q⟩
      | true =>
        rw [if_pos rfl] at q
        by_cases hx : y.c = x
        · rw [if_pos hx] at q
          rw [hx, hC] at e1; cases e1
          exact ⟨true, e3, fun _ a na => ⟨rfl, suf_at (o := some i) hz f s r q⟩, fun z => by cases z⟩
        · rw [if_neg hx] at q; exact q.elim
theorem ns_try {body : List Stmt} {h₀ : ExceptHandler} {hds : List ExceptHandler} {l : List HN} {mb : MS} (hs : X.stack = X.env :: X.outer) (hf : X.env.frame = some X.env.locals) (hN : X.N.Nodup) (hc : X.calm = true) (tk : Takes X E)
    (hb : ∀ (W : WX) (pn : List (Addr × Obj)) (xe : Value → Shared → Prop), Takes (X.tr pn xe) W → PassesOwn (model X.prog X.w) X.A X.env xe → NSs (X.tr pn xe) W body mb) (hh : HdsN X E mt (h₀ :: hds) l) : NS X E (.Try body (h₀ :: hds) [] [] pos) (mTry mt mb l) := by
  obtain ⟨l3, h1, h2⟩ := hh
  refine PS.imp (ps_try_mix (tb := fun W => tNS X.K X.mg (zX X) W mb) hs hf hN tk (fun W pn xe t p => by
    have h := hb W pn xe t p
    have e : zX (X.tr pn xe) = zX X := (if_pos hc).trans (if_pos hc).symm
    unfold NSs at h
    rw [e] at h
    exact h) h1) fun D σ H ⟨ι, σn, h, f, s, q⟩ => ⟨ι, σn, h, f, s, ?_⟩
  have hz0 : zX X = none := if_pos hc
  unfold mTry at q
  cases e : mb σn h with
  | exc x σ' h' =>
    rw [e] at q
    exact fun ι' c d σ2 H2 g2 f2 s2 r2 => h2 D ι' x σ' h' c d σ2 H2 (s2.ex.trans hz0) f2 (by rw [hz0] at s2; exact s2) r2 (by rw [hz0] at q; exact AftS.step q g2)
  | nx a b => rw [e] at q; exact q
  | rt a b => rw [e] at q; exact q
  | bk a b => rw [e] at q; exact q
  | ct a b => rw [e] at q; exact q
  | stuck => rw [e] at q; exact q
def exoF (f : Str) : W → Option W
  | .exo ns ws => (ns.zip ws).lookup f
  | _ => none
def mFld (f : Str) (m : ME) : ME := fun σ h => (m σ h).bind fun w h1 => ofO h1 (exoF f w)
theorem fld_at {K : PySem.W.Frag} {mg : Str → Option Value} {ι : Ix} {H : Hp} {f : Str} : ∀ {ns : List Str} {ws : List W} {vs : List V} {w : W}, RWs K mg ι H ws vs → (ns.zip ws).lookup f = some w → ∃ v, (ns.zip vs).lookup f = some v ∧ RW K mg ι H w v
  | [], ws, vs, w, r, e => by rw [List.zip_nil_left] at e; cases e
  | n :: ns, _, _, w, .nil, e => by rw [List.zip_nil_right] at e; cases e
  | n :: ns, w0 :: ws, v0 :: vs, w, .cons r1 r2, e => by
    rw [List.zip_cons_cons, List.lookup_cons] at e
    rw [List.zip_cons_cons, List.lookup_cons]
    split at e
    · cases e; exact ⟨v0, rfl, r1⟩
    · exact fld_at r2 e
theorem ne_fld {C a : Addr} {oe : Obj} {d : Option Addr} {pn : List (Addr × Obj)} {e : Expr} {n : Str} {m : ME} (T : XfC X.K C) (hno : PySem.W.findIn X.K (.ref C) n = some none) (hz : Zc (.ref C) d oe) (hf : ∃ vs, oe.data = .fields vs) (he : NE (X.suite a ((a, oe) :: pn)) E e m)
    (hb : attributeBase e n X.env (eval e X.env) = eval e X.env := by rfl) : NE (X.suite a ((a, oe) :: pn)) E (.Attribute e n pos) (mFld n m) := by
  refine PE.imp (pe_xf T hno hz hf he hb) fun σ H Q ⟨ι, σn, h, ft, s, q⟩ => ⟨ι, σn, h, ft, s, Aft.bind q fun ι1 w1 h1 v1 H1 g1 f1 r1 q1 => ?_⟩
  cases ew : exoF n w1 with
  | none => rw [ew] at q1; exact q1.elim
  | some w =>
    rw [ew] at q1
    cases w1 with
    | exo ns ws =>
      have hx : ι1.exs = d.map fun b => (a, b) := g1.g0.ex.trans (s.ex.trans (zX_suite hz))
      cases r1 with
      | exo h0 h1' h2 h3 =>
        rw [hx] at h0
        cases d with
        | none => cases h0
        | some dd =>
          cases h0
          obtain ⟨v, e1, e2⟩ := fld_at h3 ew
          exact ⟨rfl, rfl, _, _, v, rfl, h2, e1, q1 ι1 v H1 .refl f1 e2⟩
    | _ => cases ew
def mRaiseX (x fld : Str) (ma : ME) : MS := fun σ h => (ma σ h).sbind σ fun w h1 => .exc ⟨x, [(fld, w)]⟩ σ h1
theorem ns_raiseX {k : Nat} {x fld : Str} {e : Expr} {ma : ME} {p pos2 : Pos} (hc : X.calm = true) (tk : Takes X E) (T : ∃ C B newId initId bmB fI cda cc sn pn, X.mg x = some (.ref C) ∧ XCls X.prog X.K X.mg C B newId initId bmB fld fI cda cc sn pn) (hr : L2.Room (k + 1) X.A) (hg : Gl X x) (ha : NE X E e ma)
    (hdb : (x == ("__debug__" : Str)) = false := by decide) (he : starEach [e] X.env = (false, eval e X.env) :: starEach [] X.env := by rfl) : NS X E (.Raise (some (.Call (.Name x p) [e] [] pos)) none pos2) (mRaiseX x fld ma) := by
  obtain ⟨C, B, newId, initId, bmB, fI, cda, cc, sn, pn, hm, T⟩ := T
  refine PS.imp (ps_raise (pos := pos2) hc tk (pmk_x (p := p) (pos := pos) T hr hg hm (na_cons (E := E) ha na_nil he) hdb he)) fun D σ H ⟨ι, σn, h, ft, s, q⟩ => ⟨ι, σn, h, ft, s, ?_⟩
  have q' : AftS X.K X.mg (zX X) ι H (((mCons ma mNil) σn h).sbind σn fun ws h1 => match ws with | [w] => .exc ⟨x, [(fld, w)]⟩ σn h1 | _ => .stuck) D E := by
    unfold mRaiseX at q
    unfold mCons
    cases em : ma σn h with
    | ok w h1 => rw [em] at q; exact q
    | exc y h1 => rw [em] at q; exact q
    | stuck => rw [em] at q; exact q
  refine Aft.sbind s q' fun ι1 ws h1 vs H1 g1 f1 r1 q1 => ?_
  match ws, r1, q1 with
  | [w], .cons (v := v) r .nil, q1 =>
    refine ⟨v, rfl, fun dx hdx => ?_⟩
    have g2 := f1.grow hdx (.xd [(fld, v)])
    exact q1 ι1 _ _ σ _ g2 (f1.new hdx _) ((s.mono g1.g0).mono g2.g0) (.xd (RXc.own hm) (f1.nin hdx) upd_same rfl (.cons (RW.mono g2 _ _ r) .nil))
  | [], .nil, q1 => exact q1.elim
  | _ :: _ :: _, .cons _ (.cons _ _), q1 => exact q1.elim
def mtT (tbl : List ((Str × Str) × Bool)) : Str → Str → Option Bool := fun x c => tbl.lookup (x, c)
theorem mtOk_of {K : PySem.W.Frag} {mg : Str → Option Value} : ∀ {tbl : List ((Str × Str) × Bool)}, (∀ p ∈ tbl, ∃ A C, mg p.1.1 = some (.ref A) ∧ mg p.1.2 = some (.ref C) ∧ PySem.W.exmOne K (.ref A) (.ref C) = some p.2) → MtOk K mg (mtT tbl)
  | [], h => fun x c b e => by cases e
  | p :: l, h => fun x c b e => by
    unfold mtT at e
    rw [List.lookup_cons] at e
    split at e
    · rename_i hk
      cases e
      have hk : (x, c) = p.1 := by simpa using hk
      have := h p (List.mem_cons_self ..)
      rw [← hk] at this
      exact this
    · exact mtOk_of (tbl := l) (fun q hq => h q (List.mem_cons_of_mem _ hq)) x c b e
end
end N
set_option maxHeartbeats 1000000
namespace N
open PySem L2
def mPar3 (i j l : Nat) (ma : MA) : MS := fun σ h => (ma σ h).sbind σ fun ws h1 => match ws with
  | [u, v, w] => .nx (((σ.set i (some u)).set j (some v)).set l (some w)) h1
  | _ => .stuck
section
variable {X : Cx} {E : WX} {a b c : Expr} {pos : Pos}
theorem ns_par3 {i j l : Nat} {x y z : Str} {m : MA} {px py pz pt : Pos} {kt k2 pt2} (hc : X.calm = true) (hN : X.N.Nodup) (hi : X.N[i]? = some x) (hj : X.N[j]? = some y) (hl : X.N[l]? = some z) (hij : i ≠ j) (hil : i ≠ l) (hjl : j ≠ l)
    (hx : X.env.scope.names.lookup x = some .local) (hy : X.env.scope.names.lookup y = some .local) (hz : X.env.scope.names.lookup z = some .local) (ha : NA X E [a, b, c] m)
    (hw : swappedStores [.Tuple [.Name x px, .Name y py, .Name z pz] kt pt] (.Tuple [a, b, c] k2 pt2) X.env = pure (some [x, y, z]))
    (hs : swapsWithSole [.Tuple [.Name x px, .Name y py, .Name z pz] kt pt] (.Tuple [a, b, c] k2 pt2) pos.line X.env = pure false := by rfl) :
    NS X E (.Assign [.Tuple [.Name x px, .Name y py, .Name z pz] kt pt] (.Tuple [a, b, c] k2 pt2) pos) (mPar3 i j l m) :=
  PS.imp (ps_par3 hc hN hi hj hl hij hil hjl hx hy hz ha hw hs) fun D σ H ⟨ι, σn, h, f, s, q⟩ => ⟨ι, σn, h, f, s, Aft.sbind s q fun ι1 w1 h1 v1 H1 g1 f1 r1 q1 => by
    match w1, r1, q1 with
    | [u, v, w], .cons r (.cons r' (.cons r'' .nil)), q1 => exact ⟨_, _, _, rfl, q1 ι1 _ H1 .refl f1 ((((s.mono g1).set r i).set r' j).set r'' l)⟩
    | [], _, q1 => exact q1.elim
    | [_], _, q1 => exact q1.elim
    | [_, _], _, q1 => exact q1.elim
    | _ :: _ :: _ :: _ :: _, _, q1 => exact q1.elim⟩
end
end N
set_option maxHeartbeats 1000000
set_option maxHeartbeats 1000000
set_option maxHeartbeats 1000000
set_option maxHeartbeats 1000000
set_option maxHeartbeats 4000000
set_option maxHeartbeats 1000000
set_option maxHeartbeats 1000000
set_option maxHeartbeats 1000000
set_option maxHeartbeats 1000000
set_option maxHeartbeats 1000000
namespace N
open PySem PySem.Spec PyProof.Rows L2
/-- a def's promise where no repr is under way -/
structure FnOkG (P : Program) (w : World) (K : PySem.W.Frag) (mg : Str → Option Value) (base : Heap) (CX : CXT) (k : Nat) (f : Addr) (fd : FuncData) (ps : List Str) (sp : Sp) : Prop where
  len : ∀ vs H Q E, sp vs H Q E → vs.length = ps.length
  run : ∀ (A : Around) (outer : List Env) (s : Shared) (H : Hp) (args : Args) (us : List Value) (vs : List V) (Q : VK) (E : XK), A.guards = some [] → Room k A → Env0 P w K mg base A outer s H → BindsTo s fd args (ps.zip us) → Vals vs us → sp vs H Q E →
    codeAny (model P w) A (.call (.ref f) args) (CR CX outer P w H s Q E) s
theorem fn_ofG {CX : CXT} {P : Program} {w : World} {K : PySem.W.Frag} {mg : Str → Option Value} {base : Heap} {k : Nat} {f : Addr} {name qual : Str} {params : Arguments} {body : List Stmt} {scope : Scope} {dV kV doc pm cdv ct oc : Value} {an od : Option Addr}
    {osl : Array (Option Value)} {N ps : List Str} {sp : Sp} (lk : K.lookup f = some ⟨oc, od, .func (PySem.W.fnOf name qual params body scope dV kV doc pm an cdv ct), osl⟩) (hcd : PySem.W.codeIn K cdv qual = true) (S : FnScope N ps scope)
    (len : ∀ vs H Q E, sp vs H Q E → vs.length = ps.length)
    (hbody : ∀ (A : Around) (outer : List Env) (s : Shared) (H : Hp) (vs : List V) (Q : VK) (E : XK), A.guards = some [] → Room k (A.deeper (envOfC qual scope s.heap.objs.size f cdv)) → sp vs H Q E →
      ∃ t, PSs (cxOf CX P w K mg base N qual scope f cdv A outer s H E) body t ∧ t { nx := fun _ H' => Q .non H', rt := Q } (start N vs) H) :
    FnOkG P w K mg base CX (k + 1) f (PySem.W.fnOf name qual params body scope dV kV doc pm an cdv ct) ps sp := by
  refine ⟨len, fun A outer s H args us vs Q E hgu hr e0 hb r hsp => ?_⟩
  have hl := len _ _ _ _ hsp
  have KX : K.In s.heap := e0.mod.kin.keeps fun b o e => (e0.bs b o e).1
  have lim : s.heap.NoLimit := e0.mod.nolimit.keeps fun b o e => (e0.bs b o e).1
  have hkind : ∀ y ∈ ps.zip us, scope.names.lookup y.1 = some .local ∨ (scope.names.lookup y.1 = some .cell ∧ ((cellsFrom (s.heap.objs.size + 1) scope.names []).lookup y.1).isSome = true) := fun ⟨n, v⟩ hy => by
    rcases S.par n (List.of_mem_zip hy).1 with q | q
    · exact .inl q
    · exact .inr ⟨q, PySem.W.cellsFrom_some _ _ _ (.inl q)⟩
  refine codeAny_call_function hr.depth (KX _ _ lk) rfl S.co S.gen rfl (PySem.W.codeRec_of KX hcd) (hb _ _ _ _ ?_)
  refine wpAny_newFunctionEnv_cells S.kind hkind fun env he s1 x => ?_
  subst he
  refine ⟨lim.keeps x.toInCall.keep, codeAny_func ?_⟩
  obtain ⟨t, ht, hq⟩ := hbody A outer s H vs Q E hgu (hr.deeper _) hsp
  have I : Inv (cxOf CX P w K mg base N qual scope f cdv A outer s H E) [] (start N vs) H s1 := inv_start S hr.hd e0 hl r x
  refine wpAny_mono (ht.run [] s1 (start N vs) H _ I hq) (fun fl s' hs => ?_) fun e s' hs => hs
  have fin : ∀ {σ' : L2.St} {H' : Hp} {v : V} {u : Value}, Inv (cxOf CX P w K mg base N qual scope f cdv A outer s H E) [] σ' H' s' → RelV v u → Q v H' → CE outer P w H s Q u s' :=
    fun {σ' H' v u} J rv q => ⟨v, H', J.os, J.bare, J.base, J.hok, rv, q⟩
  cases fl with
  | ret u =>
    obtain ⟨v, σ', H', J, rv, q⟩ := hs
    exact fin J rv q
  | next =>
    obtain ⟨σ', H', J, q⟩ := hs
    exact fin (v := V.non) (u := Value.none) J rfl q
  | brk =>
    obtain ⟨_, _, _, q⟩ := hs
    exact False.elim q
  | cont =>
    obtain ⟨_, _, _, q⟩ := hs
    exact False.elim q
section
variable {P : Program} {w : World} {K : PySem.W.Frag} {mg : Str → Option Value} {base : Heap}
theorem okXG {x qual : Str} {st : Stmt} {f : Addr} {fd : FuncData} {N ps : List Str} {k : Nat} {sp : Sp} (F : Fun K x qual st f fd) (S : FnScope N ps (defScope st)) (len : ∀ vs H Q E, sp vs H Q E → vs.length = ps.length)
    (hbody : ∀ (cdv : Value) (A : Around) (outer : List Env) (s : Shared) (H : Hp) (vs : List V) (Q : VK) (E : XK), A.guards = some [] → Room k (A.deeper (envOfC qual (defScope st) s.heap.objs.size f cdv)) → sp vs H Q E →
      ∃ t, PSs (cxOf (L2.CX P w) P w K mg base N qual (defScope st) f cdv A outer s H E) (defBody st) t ∧ t { nx := fun _ H' => Q .non H', rt := Q } (start N vs) H) : FnOkG P w K mg base (L2.CX P w) (k + 1) f fd ps sp := by
  obtain ⟨oc, od, kV, doc, pm, an, cdv, ct, osl, rfl, lk, hcd⟩ := F.ex
  exact fn_ofG lk hcd S len fun A outer s H vs Q E hgu hr hsp => hbody cdv A outer s H vs Q E hgu hr hsp
theorem ok0G {x qual : Str} {st : Stmt} {f : Addr} {fd : FuncData} {N ps : List Str} {k : Nat} {sp : Sp} (F : Fun K x qual st f fd) (S : FnScope N ps (defScope st)) (len : ∀ vs H Q E, sp vs H Q E → vs.length = ps.length)
    (hbody : ∀ (cdv : Value) (A : Around) (outer : List Env) (s : Shared) (H : Hp) (vs : List V) (Q : VK) (E : XK), A.guards = some [] → Room k (A.deeper (envOfC qual (defScope st) s.heap.objs.size f cdv)) → sp vs H Q E →
      ∃ t, PSs (cxOf CX0 P w K mg base N qual (defScope st) f cdv A outer s H E).nox (defBody st) t ∧ t { nx := fun _ H' => Q .non H', rt := Q } (start N vs) H) : FnOkG P w K mg base CX0 (k + 1) f fd ps sp := by
  obtain ⟨oc, od, kV, doc, pm, an, cdv, ct, osl, rfl, lk, hcd⟩ := F.ex
  refine fn_ofG lk hcd S len fun A outer s H vs Q E hgu hr hsp => ?_
  obtain ⟨t, h, q⟩ := hbody cdv A outer s H vs Q E hgu hr hsp
  exact ⟨t, h.nox, q⟩
end
/-- as Def -/
structure DefG (P : Program) (w : World) (K : PySem.W.Frag) (mg : Str → Option Value) (base : Heap) (k : Nat) (nm : Str) (ps : List Str) (m : MF) : Prop where
  ex : ∃ (f : Addr) (fd : FuncData), FnOkG P w K mg base (L2.CX P w) k f fd ps (spN K mg ps.length m) ∧ mg nm = some (.ref f) ∧ PySem.W.keepIn K (.ref f) = true ∧ Binds K fd ps []
section
variable {P : Program} {w : World} {K : PySem.W.Frag} {mg : Str → Option Value} {base : Heap}
theorem funD_okG {nm : Str} {st : Stmt} {N ps : List Str} {k : Nat} {b : MS} (F : FunD K mg nm st ps) (S : FnScope N ps (defScope st))
    (hb : ∀ (f : Addr) (cdv : Value) (A : Around) (outer : List Env) (s : Shared) (H : Hp) (E : XK), A.guards = some [] → Room k (A.deeper (PyProof.Rows.envOfC nm (defScope st) s.heap.objs.size f cdv)) →
      NSs (cxOf (L2.CX P w) P w K mg base N nm (defScope st) f cdv A outer s H E) (fun cls d _ H' => E cls d H') (defBody st) b) : DefG P w K mg base (k + 1) nm ps (mDef N.length b) := by
  obtain ⟨f, fd, h1, h2, h3⟩ := F
  refine ⟨f, fd, okXG h1 S (fun vs H Q E h => ?_) (fun cdv A outer s H vs Q E hgu hr h => ?_), h2, h1.kp, h3⟩
  · obtain ⟨ι, ws, h, _, _, r, e, _⟩ := h
    rw [r.len, e]
  · obtain ⟨ι, ws, h, ft, ex, r, e, q⟩ := h
    refine ⟨_, hb f cdv A outer s H E hgu hr, ι, _, h, ft, sl_start ex r, ?_⟩
    unfold mDef at q
    cases e2 : b (ws.map some ++ List.replicate (N.length - ws.length) none) h with
    | nx σ' h' => rw [e2] at q; exact fun ι2 σ2 H2 g2 f2 s2 => q ι2 .non H2 g2 f2 .non
    | rt w h' => rw [e2] at q; exact q
    | exc x σ' h' => rw [e2] at q; exact fun ι2 c d σ2 H2 g2 f2 s2 => q ι2 c d H2 g2 f2
    | bk σ' h' => rw [e2] at q; exact q.elim
    | ct σ' h' => rw [e2] at q; exact q.elim
    | stuck => rw [e2] at q; exact q.elim
theorem law_okG {nm : Str} {st : Stmt} {f : Addr} {fd : FuncData} {N ps : List Str} {k : Nat} {b : MS} (F : Fun K nm nm st f fd) (S : FnScope N ps (defScope st)) (hps : ps.length = 1)
    (hb : ∀ (cdv : Value) (A : Around) (outer : List Env) (s : Shared) (H : Hp) (E : XK), A.guards = some [] → Room k (A.deeper (PyProof.Rows.envOfC nm (defScope st) s.heap.objs.size f cdv)) →
      NSs (cxOf CX0 P w K mg base N nm (defScope st) f cdv A outer s H E).nox E00 (defBody st) b)
    (hp : ∀ ns : List Int, ns.length ≤ 63 → ∃ h, mDef N.length b [.lro (ns.map W.int)] [] = .ok (.bl true) h) : FnOkG P w K mg base CX0 (k + 1) f fd ps (spLaw K) := by
  refine ok0G F S (fun vs H Q E h => ?_) (fun cdv A outer s H vs Q E hgu hr h => ?_)
  · obtain ⟨a, ns, rfl, _⟩ := h
    exact hps.symm
  · obtain ⟨a, ns, rfl, o, hS, hl, rfl⟩ := h
    obtain ⟨h', e⟩ := hp ns hl
    have ft : Fit K mg ⟨[], [], none⟩ H [] := ⟨List.nodup_nil, rfl, fun n o a e => by simp at e, fun a z => by cases z⟩
    refine ⟨_, hb cdv A outer s H E hgu hr, ⟨[], [], none⟩, _, [], ft, sl_start (ws := [.lro (ns.map W.int)]) rfl (.cons (lro_script o hS) .nil), ?_⟩
    show AftS K mg none ⟨[], [], none⟩ H (b (List.map some [W.lro (ns.map W.int)] ++ List.replicate (N.length - [W.lro (ns.map W.int)].length) none) []) _ _
    unfold mDef at e
    cases e2 : b (List.map some [W.lro (ns.map W.int)] ++ List.replicate (N.length - [W.lro (ns.map W.int)].length) none) [] with
    | nx σ' h' => rw [e2] at e; cases e
    | rt w h' =>
      rw [e2] at e
      cases e
      intro ι2 v H2 g2 f2 r2
      cases r2
      rfl
    | exc x σ' h' => rw [e2] at e; cases e
    | bk σ' h' => rw [e2] at e; cases e
    | ct σ' h' => rw [e2] at e; cases e
    | stuck => rw [e2] at e; cases e
end
section
variable {X : Cx} {f : Addr} {fd : FuncData} {ps : List Str} {k : Nat} {CX : CXT} {sp : Sp}
theorem run_fnSG {E : L2.St → XK} {pins : List (Addr × Obj)} {σ : L2.St} {H : Hp} {s : Shared} {Q : VK} {us : List Value} {vs : List V} (F : FnOkG X.prog X.w X.K X.mg X.base CX k f fd ps sp) (hgu : X.A.guards = some []) (hr : Room k X.A) (hb : Binds X.K fd ps []) (hx : PassesAt CX X σ (E σ))
    (I : Inv X pins σ H s) (r : Vals vs us) (h : sp vs H Q (E σ)) : wpAny (model X.prog X.w) X.A (call (.ref f) us) (EP X pins σ Q) X.xe s := by
  have hl : us.length = ps.length := by rw [← r.length]; exact F.len _ _ _ _ h
  have b := hb s us I.kIn (by rw [List.append_nil]; exact hl)
  rw [List.append_nil] at b
  refine wpAny_call (codeAny_mono (F.run X.A X.stack s H ⟨us, []⟩ us vs Q (E σ) hgu hr I.env0 b r h) fun r s' hq => ?_)
  cases r with
  | error e => exact hx pins H s e s' I hq
  | ok fl =>
    cases fl with
    | ret u => exact I.after hq
    | next => exact False.elim hq
    | brk => exact False.elim hq
    | cont => exact False.elim hq
theorem pe_callSG {E : L2.St → XK} {x : Str} {p pos : Pos} {e : Expr} {es : List Expr} {t : TA} (F : FnOkG X.prog X.w X.K X.mg X.base CX k f fd ps sp) (hgu : X.A.guards = some []) (hr : Room k X.A) (hg : Gl X x) (hm : X.mg x = some (.ref f)) (hk : PySem.W.keepIn X.K (.ref f) = true) (hb : Binds X.K fd ps []) (hx : ∀ σ, PassesAt CX X σ (E σ))
    (ha : PA X (e :: es) t) (hdb : (x == ("__debug__" : Str)) = false := by decide) (he : starEach (e :: es) X.env = (false, eval e X.env) :: starEach es X.env := by rfl) (hpl : (backTo pos (starEach es X.env)).any (·.1) = false := by rfl) :
    PE X (.Call (.Name x p) (e :: es) [] pos) (tCallS sp E t) := by
  refine ⟨fun pins s σ H Q I h => ?_⟩
  refine wpAny_Call_Name_kw (ld_glob I hg hm ?_ hdb)
  refine PySem.W.callWith_K (h₀ := X.base) I.ok.mod.kin hk (thn (ha.run pos pins s σ H _ I h) fun us s1 ⟨vs, H1, I1, r, q⟩ => ⟨I1.kIn, ?_⟩) he hpl
  exact run_fnSG F hgu hr hb (hx σ) I1 r q
end
section
variable {X : Cx} {E : WX} {pos : Pos} {e : Expr} {es : List Expr}
theorem ne_callG {k : Nat} {x : Str} {ps : List Str} {m : MF} {ma : MA} {p : Pos} (D : DefG X.prog X.w X.K X.mg X.base k x ps m) (hgu : X.A.guards = some []) (hr : Room k X.A) (hc : X.calm = true) (hg : Gl X x) (tk : Takes X E) (ha : NA X E (e :: es) ma) (hl : ∀ σ h ws h', ma σ h = .ok ws h' → ws.length = ps.length)
    (hdb : (x == ("__debug__" : Str)) = false := by decide) (he : starEach (e :: es) X.env = (false, eval e X.env) :: starEach es X.env := by rfl) (hpl : (backTo pos (starEach es X.env)).any (·.1) = false := by rfl) :
    NE X E (.Call (.Name x p) (e :: es) [] pos) (mCall m ma) := by
  obtain ⟨f, fd, G, hm, hk, hb⟩ := D
  refine PE.imp (pe_callSG (p := p) (pos := pos) G hgu hr hg hm hk hb (fun σ => passAt tk σ) ha hdb he hpl) fun σ H Q ⟨ι, σn, h, ft, s, q⟩ => ⟨ι, σn, h, ft, s, ?_⟩
  cases ea : ma σn h with
  | ok ws h1 =>
    have q' : Aft X.K X.mg ι H (m ws h1) (RW X.K X.mg) Q (fun c d H' => E c d σ H') := by unfold mCall at q; rw [ea] at q; exact q
    exact fun ι1 vs H1 g1 f1 r1 => ⟨ι1, ws, h1, f1, (g1.g0.ex.trans s.ex).trans (if_pos hc), r1, hl _ _ _ _ ea, Aft.step q' g1⟩
  | exc x h1 => unfold mCall at q; rw [ea] at q; exact q
  | stuck => unfold mCall at q; rw [ea] at q; exact q
end
theorem law_callG {P : Program} {w : World} {K : PySem.W.Frag} {mg mb : Str → Option Value} {CX : CXT} {k : Nat} {fa a : Addr} {fd : FuncData} {x : Str} {sp : Sp} {s₁ : Shared} {vs : List Value} {ns : List Int}
    (KX : K.In s₁.heap) (hns : s₁.heap.Ns mainGlobals mg) (hb : s₁.heap.Ns builtinsNs mb) (hbb : ∀ x : Str, x ≠ "__name__" → mb x = bootBuiltins x) (hlim : s₁.heap.NoLimit) (hg : s₁.gens = #[])
    (ha : s₁.heap.get? a = some { cls := .type "list", data := .seq vs.toArray }) (hi : IntsAre vs ns) (hl : ns.length ≤ sizeLine) (hr : Room k callerA)
    (F : ∀ base : Heap, K.In base → base.Ns mainGlobals mg → FnOkG P w K mg base CX k fa fd [x] sp) (hbind : ∀ (s : Shared) (u : Value), BindsTo s fd ⟨[u], []⟩ [(x, u)])
    (hsp : ∀ H : Hp, Only H → SqL K H a (ns.map V.int) → sp [.ref a] H (fun v _ => v = .bl true) fun _ _ _ => False)
    (hCX : ∀ H e s', CX [] H s₁ (fun _ _ _ => False) e s' → False) :
    codeAny (model P w) callerA (.call (.ref fa) ⟨[.ref a], []⟩) (fun r s' => r = .ok (.ret (.bool true)) ∧ OldK s₁.heap s'.heap ∧ s'.os = s₁.os ∧ AllBare s'.gens) s₁ := by
  have rv := vals_ints hi
  have lenV := hi.length
  -- from an abstract heap in which nothing but the script may be tracked
  have core : ∀ H : Hp, Only H → SqL K H a (ns.map V.int) → HOk P w H s₁.heap → (∀ b, H b ≠ none → b = a) → (H a ≠ none → K.lookup a = none) →
      codeAny (model P w) callerA (.call (.ref fa) ⟨[.ref a], []⟩) (fun r s' => r = .ok (.ret (.bool true)) ∧ OldK s₁.heap s'.heap ∧ s'.os = s₁.os ∧ AllBare s'.gens) s₁ := by
    intro H hO hS hok hA hK
    have base_of : ∀ {b : Addr} {o : Obj}, s₁.heap.get? b = some o → H b = none → (hidT s₁.heap H).get? b = some o := fun e n => hidT_get e n
    have noA : ∀ {b : Addr} {o : Obj} {es : Array DictEntry} {ep : Nat}, s₁.heap.get? b = some o → o.data = .dict es ep → H b = none := fun {b o es ep} e d => by
      cases q : H b with
      | none => rfl
      | some u =>
        have e' : b = a := hA b (by rw [q]; simp)
        subst e'
        rw [ha] at e; cases e
        have d' : Data.seq vs.toArray _ = Data.dict es ep := d
        cases d'
    have nsK : ∀ {b : Addr} {m : Str → Option Value}, s₁.heap.Ns b m → (hidT s₁.heap H).Ns b m := fun {b m} ⟨o, es, ep, e, d, r⟩ => ⟨o, es, ep, base_of e (noA e d), d, r⟩
    have hKb : K.In (hidT s₁.heap H) := fun b o e => base_of (KX b o e) (by
      cases q : H b with
      | none => rfl
      | some u =>
        have e' : b = a := hA b (by rw [q]; simp)
        subst e'
        rw [hK (by rw [q]; simp)] at e; cases e)
    have hM : Mod K mg (hidT s₁.heap H) := ⟨hKb, nsK hns, ⟨mb, nsK hb, hbb⟩, let ⟨mc, h1, h2⟩ := hlim; ⟨mc, nsK h1, h2⟩⟩
    have e0 : Env0 P w K mg (hidT s₁.heap H) callerA [] s₁ H := ⟨rfl, hM, fun b o e => of_hidT e, Nat.le_of_eq (hidT_size _ _), trivial, fun b hb => absurd (show b ∈ ([] : List Addr) from hb) (by simp), hok, .of_eq hg⟩
    refine codeAny_mono ((F _ hKb (nsK hns)).run callerA [] s₁ H ⟨[.ref a], []⟩ [.ref a] [.ref a] _ _ rfl hr e0 (hbind s₁ (.ref a)) (.cons rfl .nil) (hsp H hO hS)) fun r s' h => ?_
    cases r with
    | error e => exact (hCX H e s' h).elim
    | ok fl =>
      cases fl with
      | next => exact False.elim h
      | brk => exact False.elim h
      | cont => exact False.elim h
      | ret u =>
        obtain ⟨v, H', os, bare, un, hok', r', q⟩ := h
        have q' : v = .bl true := q
        subst q'
        obtain rfl : u = Value.bool true := r'
        refine ⟨rfl, OldK.of_keep fun b o e => ?_, os, bare⟩
        cases q : H b with
        | none => exact un.keep b o e q (by intro z; exact absurd (show b ∈ ([] : List Addr) from z) (by simp)) (by simp)
        | some u =>
          rcases hO b with z | ⟨ob, xs, z⟩
          · rw [q] at z; cases z
          · have z2 := un.frzs b ob _ z
            obtain ⟨e1, _⟩ := hok b _ z
            obtain ⟨e2, _⟩ := hok' b _ z2
            rw [e] at e1; cases e1
            exact e2
  cases hk : K.lookup a with
  | some o =>
    -- the script is one of the module's own objects
    have e := KX a o hk
    rw [ha] at e
    cases e
    refine core (fun _ => none) (fun _ => .inl rfl) (.inr ⟨_, vs.toArray, _, hk, rfl, rfl, rfl, by rw [List.size_toArray, lenV]; exact hl, by simpa using rv⟩) (fun b u z => by have z' : (none : Option HO) = some u := z; cases z') (fun b z => absurd rfl z) fun z => absurd rfl z
  | none =>
    refine core (fun b => if b = a then some (.frz { cls := .type "list", data := .seq vs.toArray } (.lst (ns.map V.int))) else none) (fun b => ?_) (.inl (.inr ⟨{ cls := .type "list", data := .seq vs.toArray }, if_pos rfl⟩)) (fun b u z => ?_) (fun b z => ?_) fun _ => hk
    · by_cases hb : b = a
      · exact .inr ⟨_, _, if_pos hb⟩
      · exact .inl (if_neg hb)
    · by_cases hb : b = a
      · have z' := (if_pos hb).symm.trans z
        cases z'
        subst hb
        exact ⟨ha, by rw [List.length_map]; exact hl, vs, _, rv, ha⟩
      · have z' := (if_neg hb).symm.trans z
        cases z'
    · by_cases hb : b = a
      · exact hb
      · exact absurd (if_neg hb) z
theorem walk_ofG {l : PySem.W.OpenLaw} {n k : Nat} {q : Program} {loose : List Str} {XP : (Str → Option Value) → Heap → Prop} {YP : World → Heap → Prop} {d : DefRec} {CX : CXT} {x : Str}
    (hn : l.most = some n) (hn2 : n ≤ sizeLine) (hdf : d.params.defaults = []) (hr : Room k callerA)
    (F : ∀ (w : World) (mg : Str → Option Value) (fa : Addr) (h : Heap), YP w h → h.Ns mainGlobals mg → mg d.name = some (.ref fa) →
      ∃ (K : PySem.W.Frag) (fd : FuncData) (sp : Sp), K.In h ∧ (∀ (s : Shared) (u : Value), BindsTo s fd ⟨[u], []⟩ [(x, u)]) ∧
        (∀ (H : Hp) (a : Addr) (ns : List Int), ns.length ≤ n → Only H → SqL K H a (ns.map V.int) → sp [.ref a] H (fun v _ => v = .bl true) fun _ _ _ => False) ∧
        ∀ base : Heap, K.In base → base.Ns mainGlobals mg → FnOkG l.prog w K mg base CX k fa fd [x] sp)
    (hCX : ∀ (H : Hp) (s : Shared) (e : Value) (s' : Shared), CX [] H s (fun _ _ _ => False) e s' → False) :
    PySem.W.WalkO q loose XP YP l.row.toRowW d [] (fun f vs => PySem.call f vs) := by
  refine Att.attach_call hn hdf fun w s₀ s₁ mg mb fa o pm cd doc a vs ns G Y ho hd hcd hmg hobj hints hlen hg => ?_
  obtain ⟨K, fd, sp, KX, hb, hsp, hF⟩ := F w mg fa _ Y G.T.g hmg
  exact law_callG KX G.T.g G.T.b G.T.builtins G.T.nolimit hg hobj hints (Nat.le_trans hlen hn2) hr hF hb (fun H hO hS => hsp H a ns hlen hO hS) fun H e s' => hCX H s₁ e s'
end N
set_option maxHeartbeats 1000000
namespace N
open PySem PySem.Spec PyProof.Rows L2
def datA : W → Option PyData
  | .non => some .none
  | .bl b => some (.bool b)
  | .int i => some (.int i)
  | .str s => some (.str s)
  | _ => none
def datKv : List (W × W) → Option (List (PyData × PyData))
  | [] => some []
  | (k, v) :: l => match datA k, datA v, datKv l with
    | some a, some b, some c => some ((a, b) :: c)
    | _, _, _ => none
def nReprG (h : List O) (ws : List W) : Option W := match ws with
  | [.int i] => if i.natAbs.log2 < 1920 then some (.str (toString i)) else none
  | [.bl b] => some (.str (if b then "True" else "False"))
  | [.non] => some (.str "None")
  | [.str s] => if (reprText s).length ≤ sizeLine then some (.str (reprText s)) else none
  | [.dct false kvs] => match datKv kvs with
    | some ds => if (PyData.dict ds).showable = true ∧ (PyData.dict ds).shown.length ≤ sizeLine ∧ (PyData.dict ds).depth ≤ 50 then some (.str (PyData.dict ds).shown) else none
    | none => none
  | [w] => match datW w with
    | some d => if d.showable = true ∧ d.shown.length ≤ sizeLine ∧ d.depth ≤ 50 ∧ d.hasDict = false then some (.str d.shown) else none
    | none => none
  | _ => none
section
variable {K : PySem.W.Frag} {mg : Str → Option Value} {ι : Ix} {H : Hp} {P : Program} {w : World} {h : Heap}
theorem datA_reads {x : W} {v : V} {u : Value} {d : PyData} (r : RW K mg ι H x v) (rv : RelV v u) (e : datA x = some d) : Reads h u d [] := by
  cases r with
  | non =>
    cases e
    cases (show u = Value.none from rv)
    exact .none
  | bl b =>
    cases e
    cases (show u = Value.bool b from rv)
    exact .bool b
  | int i =>
    cases e
    obtain ⟨t, rfl⟩ := rv
    exact .int i t
  | str s =>
    cases e
    obtain ⟨t, rfl⟩ := rv
    exact .str s t
  | _ => cases e
theorem kv_reads {h : Heap} : ∀ {kvs : List (W × W)} {qs : List (Key × V)} {vs : List (Key × Value)} {es : List DictEntry} {ds : List (PyData × PyData)}, RWk K mg ι H kvs qs → KV qs vs → Pairs (L2.mixKind P w) es vs → datKv kvs = some ds →
    ReadsAll h (es.map (·.key)) (ds.map (·.1)) [] ∧ ReadsAll h (es.map (·.val)) (ds.map (·.2)) []
  | [], _, _, _, _, .nil, .nil, .nil, e => by cases e; exact ⟨.nil, .nil⟩
  | p :: kvs, _, _, _, _, .cons hk hv r, .cons ⟨h1, h2⟩ kv, .cons hkey hval pr, e => by
    obtain ⟨k, x⟩ := p
    unfold datKv at e
    cases e1 : datA k with
    | none => rw [e1] at e; cases e
    | some a =>
      cases e2 : datA x with
      | none => rw [e1, e2] at e; cases e
      | some b =>
        cases e3 : datKv kvs with
        | none => rw [e1, e2, e3] at e; cases e
        | some c =>
          rw [e1, e2, e3] at e
          cases e
          obtain ⟨r1, r2⟩ := kv_reads r kv pr e3
          refine ⟨ReadsAll.cons (as := []) (bs := []) ?_ r1, ReadsAll.cons (as := []) (bs := []) (by have h2' := h2; rw [← hval] at h2'; exact datA_reads hv h2' e2) r2⟩
          rw [← h1] at hkey
          cases k with
          | int i =>
            cases e1
            have hk : some (Sum.inl i) = some _ := hk
            rw [← Option.some.inj hk] at hkey
            have hkey : L2.keyIs (.inl i) _ = true := hkey
            show Reads h _ (.int i) []
            rcases L2.keyIs_shape hkey with ⟨i', t, e, ek⟩ | ⟨_, _, e, _⟩
            · cases e; dsimp only; rw [ek]; exact .int i t
            · cases e
          | str z =>
            cases e1
            have hk : some (Sum.inr z) = some _ := hk
            rw [← Option.some.inj hk] at hkey
            have hkey : L2.keyIs (.inr z) _ = true := hkey
            show Reads h _ (.str z) []
            rcases L2.keyIs_shape hkey with ⟨_, _, e, _⟩ | ⟨z', t, e, ek⟩
            · cases e
            · cases e; dsimp only; rw [ek]; exact .str z t
          | _ => cases hk
end
section
variable {X : Cx}
theorem cn_reprU (hgu : X.A.guards = some []) (hu : X.A.units + 64 < cLine) : CallR X (.builtin "repr") (rcN X.K X.mg (pureF nReprG)) := by
  intro pins s σ H xs us Q I r hq
  obtain ⟨ι, h, ws, w, ft, rw', e, kq⟩ := rcN_pure hq
  have hun : ∀ n, n ≤ 51 → X.A.units + (n + 1) < cLine := fun n hn => by omega
  -- a container, by what it reads as
  have cont : ∀ (a : Addr) (d : PyData) (as : List Addr), Reads s.heap (.ref a) d as → d.showable = true → d.shown.length ≤ sizeLine → d.depth ≤ 50 → (d.hasDict = true → sysModules ∉ as) → w = .str d.shown →
      wpAny (model X.prog X.w) X.A (call (.builtin "repr") [.ref a]) (EP X pins σ Q) X.xe s := fun a d as rd sh sz dp hs ew => by
    refine repr_of_reads' rd sh hs hgu (hun _ (by omega)) (fun _ _ e => e) (fun h' u tk hk => ?_) sz
    subst ew
    exact ⟨.str _, H, I.kept (t' := tk) hk, ⟨_, rfl⟩, kq ι _ H .refl ft (.str _)⟩
  match ws, rw', e with
  | [], _, e => cases e
  | x1 :: _ :: _, _, e =>
    cases x1 with
    | dct t kvs => cases t <;> cases e
    | _ => cases e
  | [x], .cons (v := v) r1 .nil, e =>
    obtain ⟨u, rfl, rx⟩ := vals1 r
    have data : ∀ d, datW x = some d → ((∃ ds, d = .tuple ds) ∨ ∃ ds, d = .list ds) → (if d.showable = true ∧ d.shown.length ≤ sizeLine ∧ d.depth ≤ 50 ∧ d.hasDict = false then some (W.str d.shown) else none) = some w →
        wpAny (model X.prog X.w) X.A (call (.builtin "repr") [u]) (EP X pins σ Q) X.xe s := fun d ed hd e => by
      split at e
      · rename_i c
        cases e
        obtain ⟨as, rd⟩ := Dp.reads I d v u (datW_dp x v d r1 ed) rx
        rcases hd with ⟨ds, rfl⟩ | ⟨ds, rfl⟩
        · cases rd with
          | tuple a1 a2 a3 a4 => exact cont _ _ _ (.tuple a1 a2 a3 a4) c.1 c.2.1 c.2.2.1 (PySem.PyData.noDict_hsm c.2.2.2) rfl
        · cases rd with
          | list a1 a2 a3 a4 => exact cont _ _ _ (.list a1 a2 a3 a4) c.1 c.2.1 c.2.2.1 (PySem.PyData.noDict_hsm c.2.2.2) rfl
      · cases e
    have seq : ∀ (ys : List W) (f : List PyData → PyData), datW x = (datWs ys).map f → (∀ ds, (∃ es, f ds = .tuple es) ∨ ∃ es, f ds = .list es) → (match datW x with
          | some d => if d.showable = true ∧ d.shown.length ≤ sizeLine ∧ d.depth ≤ 50 ∧ d.hasDict = false then some (W.str d.shown) else none
          | none => none) = some w → wpAny (model X.prog X.w) X.A (call (.builtin "repr") [u]) (EP X pins σ Q) X.xe s := fun ys f ed hf e => by
      cases es : datWs ys with
      | none => rw [es] at ed; rw [show datW x = none from ed] at e; cases e
      | some ds =>
        rw [es] at ed
        have ed : datW x = some (f ds) := ed
        rw [ed] at e
        exact data _ ed (hf ds) e
    cases x with
    | int i =>
      have e : (if i.natAbs.log2 < 1920 then some (W.str (toString i)) else none) = some w := e
      split at e
      · rename_i hz
        cases e
        cases r1
        obtain ⟨t, rfl⟩ := rx
        exact PySem.P.repr_of_int hz ⟨.str _, H, I.tok _, ⟨_, rfl⟩, kq ι _ H .refl ft (.str _)⟩
      · cases e
    | bl b =>
      cases e
      cases r1
      cases (show u = Value.bool b from rx)
      exact PySem.P.repr_of_bool ⟨.str _, H, I.tok _, ⟨_, rfl⟩, kq ι _ H .refl ft (.str _)⟩
    | non =>
      cases e
      cases r1
      cases (show u = Value.none from rx)
      exact PySem.P.repr_of_none ⟨.str _, H, I.tok _, ⟨_, rfl⟩, kq ι _ H .refl ft (.str _)⟩
    | str z =>
      have e : (if (reprText z).length ≤ sizeLine then some (W.str (reprText z)) else none) = some w := e
      split at e
      · rename_i hz
        cases e
        cases r1
        obtain ⟨t, rfl⟩ := rx
        exact PySem.P.repr_of_str ⟨.str _, H, I.tok _, ⟨_, rfl⟩, kq ι _ H .refl ft (.str _)⟩ hz
      · cases e
    | dct t kvs =>
      cases t with
      | true => cases e
      | false =>
        have e : (match datKv kvs with
          | some ds => if (PyData.dict ds).showable = true ∧ (PyData.dict ds).shown.length ≤ sizeLine ∧ (PyData.dict ds).depth ≤ 50 then some (W.str (PyData.dict ds).shown) else none
          | none => none) = some w := e
        cases ek : datKv kvs with
        | none => rw [ek] at e; cases e
        | some ds =>
          rw [ek] at e
          dsimp only at e
          split at e
          · rename_i c
            cases e
            cases r1 with
            | @dctK _ a qs h0 h1 h2 =>
              cases (show u = Value.ref a from rx)
              have ok : ObjOk X.prog X.w H s.heap a (.dK qs) := by
                rcases h1 with h1 | ⟨ob, h1⟩
                · exact I.hok a _ h1
                · exact (show ObjOk X.prog X.w H s.heap a (.frz ob (.dK qs)) from I.hok a _ h1).2
              obtain ⟨_, hsys, vs, kv, o, es, ep, g1, g2, g3, g4, g5, g6⟩ := ok
              obtain ⟨r2, r3⟩ := kv_reads (h := s.heap) h2 kv g5 ek
              exact cont a (.dict ds) _ (.dict g1 g2.1 g3 r2 r3) c.1 c.2.1 c.2.2 (fun _ => by
                have := beq_eq_false_iff_ne.mp hsys
                simpa using fun z => this z.symm) rfl
          · cases e
    | tup ys => exact seq ys .tuple rfl (fun ds => .inl ⟨ds, rfl⟩) e
    | lst ys => exact seq ys .list rfl (fun ds => .inr ⟨ds, rfl⟩) e
    | tro ys => exact seq ys .tuple rfl (fun ds => .inl ⟨ds, rfl⟩) e
    | lro ys => exact seq ys .list rfl (fun ds => .inr ⟨ds, rfl⟩) e
    | _ => cases e
end
end N
set_option maxHeartbeats 1000000
set_option maxHeartbeats 1000000
namespace N
open PySem L2
theorem ne_callR0 {X : Cx} {E : WX} {pos : Pos} {k : Nat} {x : Str} {m : MF} {p : Pos} (D : DefR X.prog X.w X.K X.mg X.base k x m) (hr : Room k X.A) (hc : X.calm = true) (hg : Gl X x) (tk : Takes X E) (hdb : (x == ("__debug__" : Str)) = false := by decide) :
    NE X E (.Call (.Name x p) [] [] pos) (mCall m mNil) := by
  obtain ⟨f, F, hm, hk⟩ := D
  refine ⟨fun pins s σ H Q I q => ?_⟩
  obtain ⟨ι, σn, h, ft, sl, q⟩ := q
  refine wpAny_Call_Name_kw (ld_glob I hg hm ?_ hdb)
  have hx := passAt tk σ
  exact PySem.W.callWith_K0 I.kIn hk (wpAny_call (run_fnRS (us := []) F hr hx I .nil ⟨ι, [], h, ft, sl.ex.trans (if_pos hc), .nil, q⟩))
theorem Fun.bindsV {K : PySem.W.Frag} {x qual : Str} {st : Stmt} {f : Addr} {fd : FuncData} {ps : List Str} {pv : Str} (F : Fun K x qual st f fd)
    (h : ∀ (kV doc pm : Value) (an : Option Addr) (cdv ct : Value) (us rest : List Value), us.length = ps.length → bindArgs (PySem.W.fnOf x qual (defArgs st) (defBody st) (defScope st) .none kV doc pm an cdv ct) ⟨us ++ rest, []⟩ = (newTuple rest >>= fun t => pure (ps.zip us ++ [(pv, t)]))) :
    ∀ us rest : List Value, us.length = ps.length → bindArgs fd ⟨us ++ rest, []⟩ = (newTuple rest >>= fun t => pure (ps.zip us ++ [(pv, t)])) := by
  obtain ⟨oc, od, kV, doc, pm, an, cdv, ct, osl, rfl, lk, hcd⟩ := F.ex
  exact fun us rest hl => h _ _ _ _ _ _ us rest hl
end N
set_option maxHeartbeats 4000000
open PySem L2
namespace N
noncomputable section
def topS (i : Nat) : Stmt := PySem.Challenge.pw_mayrows_k03_errors_of_texts.main.body.getD i (.Pass ⟨0, 0, 0, 0⟩)
def w_MAX_WIDTH : W := .int (200)
def w_LETTERS : W := .str "0123"
def w_INTEGER_BOUND : W := .int (1000000000000000000000000000000000000000000000000000000000000)
def w_BOTH_LETTERS : W := .tro [.int (2), .int (4)]
def mtab : Str → Str → Option Bool := mtT [(("InvalidText", "InvalidOperation"), false), (("InvalidText", "InvalidText"), true), (("InvalidText", "InvalidNumber"), false), (("InvalidOperation", "InvalidOperation"), true), (("InvalidOperation", "InvalidText"), false), (("InvalidOperation", "InvalidNumber"), false), (("InvalidNumber", "InvalidOperation"), false), (("InvalidNumber", "InvalidText"), false), (("InvalidNumber", "InvalidNumber"), true)]
def clsS (i j : Nat) : Stmt := match topS i with | .ClassDef _ _ _ b _ _ _ _ _ _ _ => b.getD j (.Pass ⟨0, 0, 0, 0⟩) | _ => .Pass ⟨0, 0, 0, 0⟩
abbrev s_InvalidNumber__init : Stmt := clsS 4 0
abbrev s_law_bag : Stmt := topS 23
abbrev N_law_bag : List Str := ["_law_script", "_law_at", "_law_cell", "_law_great", "_law_mixed"]
abbrev P_law_bag : List Str := ["_law_script", "_law_at"]
def b_law_bag : MS := (mSeq (mSet 2 (mIf (mB (mOp nLtT (mVar 1) (mCB (pureF nLenD) (mCons (mVar 0) mNil)))) (mOp nIx (mVar 0) (mVar 1)) (mOp nAdd (mOp nAdd (mCB (pureF nSum) (mCons (mSl (mVar 0) mNoP (mPart (mC (.int 1)))) mNil)) (mOp nMul (mC (.int 103)) (mVar 1))) (mC (.int 71)))))
    (mSeq (mSet 3 (mOp nMod (mCB (pureF nInt) (mCons (mCB (pureF nAbs) (mCons (mVar 2) mNil)) mNil)) (mOp nPow (mOp nPow (mC (.int 10)) (mC (.int 47))) (mC (.int 13)))))
    (mSeq (mSet 4 (mOp nAdd (mOp nAdd (mOp nAdd (mOp nMul (mOp nMod (mCB (pureF nInt) (mCons (mVar 3) mNil)) (mC (.int 2305843009213693723))) (mC (.int 1000231))) (mOp nMul (mC (.int 9011)) (mVar 1))) (mOp nMul (mC (.int 41)) (mCB (pureF nInt) (mCons (mOp nLtT (mVar 2) (mC (.int 0))) mNil)))) (mC (.int 23))))
    (mRet (mLstN (mCons (mCB (pureF nMax) (mCons (mC (.int 0)) (mCons (mOp nSub (mVar 3) (mOp nPow (mC (.int 10)) (mC (.int 18)))) mNil))) (mCons (mOp nMod (mCB (pureF nInt) (mCons (mVar 4) mNil)) (mC (.int 2305843009213693951))) (mCons (mC (.int 0)) mNil))))))))
theorem x_law_bag : ∃ m : MF, m = mDef N_law_bag.length b_law_bag := ⟨_, rfl⟩
def m_law_bag : MF := Classical.choose x_law_bag
theorem m_law_bag_eq : m_law_bag = mDef N_law_bag.length b_law_bag := Classical.choose_spec x_law_bag
abbrev s_law_draw : Stmt := topS 24
abbrev N_law_draw : List Str := ["_law_bag_here", "_law_total", "_law_found", "_law_one", "_law_two"]
abbrev P_law_draw : List Str := ["_law_bag_here", "_law_total"]
def b_law_draw : MS := (mSeq (mIfS (mB (mOp nGt (mOp nIx (mVar 0) (mC (.int 0))) (mC (.int 0)))) (mSeq (mSet 2 (mOp nMod (mCB (pureF nInt) (mCons (mOp nIx (mVar 0) (mC (.int 0))) mNil)) (mVar 1)))
    (mSeq (mStore (mVar 0) (mC (.int 0)) (mOp nDiv (mOp nIx (mVar 0) (mC (.int 0))) (mVar 1)))
    (mRet (mVar 2)))) mNext)
    (mSeq (mStore (mVar 0) (mC (.int 2)) (mOp nAdd (mOp nIx (mVar 0) (mC (.int 2))) (mC (.int 1))))
    (mSeq (mSet 3 (mOp nMod (mCB (pureF nInt) (mCons (mOp nAdd (mOp nIx (mVar 0) (mC (.int 1))) (mOp nMul (mC (.int 1048609)) (mOp nIx (mVar 0) (mC (.int 2))))) mNil)) (mC (.int 2305843009213693951))))
    (mSeq (mSet 4 (mOp nAdd (mOp nMul (mOp nMod (mCB (pureF nInt) (mCons (mOp nMul (mVar 3) (mVar 3)) mNil)) (mC (.int 2305843009213693723))) (mVar 3)) (mOp nMul (mC (.int 8117)) (mOp nIx (mVar 0) (mC (.int 2))))))
    (mRet (mOp nMod (mCB (pureF nInt) (mCons (mOp nDiv (mOp nMod (mCB (pureF nInt) (mCons (mVar 4) mNil)) (mC (.int 2305843009213693921))) (mC (.int 16384))) mNil)) (mVar 1)))))))
theorem x_law_draw : ∃ m : MF, m = mDef N_law_draw.length b_law_draw := ⟨_, rfl⟩
def m_law_draw : MF := Classical.choose x_law_draw
theorem m_law_draw_eq : m_law_draw = mDef N_law_draw.length b_law_draw := Classical.choose_spec x_law_draw
abbrev s_law_one_of : Stmt := topS 25
abbrev N_law_one_of : List Str := ["_law_bag_here", "_law_items"]
abbrev P_law_one_of : List Str := ["_law_bag_here", "_law_items"]
def b_law_one_of : MS := (mRet (mOp nIx (mVar 1) (mCall m_law_draw (mCons (mVar 0) (mCons (mCB (pureF nLenD) (mCons (mVar 1) mNil)) mNil)))))
theorem x_law_one_of : ∃ m : MF, m = mDef N_law_one_of.length b_law_one_of := ⟨_, rfl⟩
def m_law_one_of : MF := Classical.choose x_law_one_of
theorem m_law_one_of_eq : m_law_one_of = mDef N_law_one_of.length b_law_one_of := Classical.choose_spec x_law_one_of
abbrev s_law_no_number : Stmt := topS 30
abbrev N_law_no_number : List Str := ["_law_bag_here"]
abbrev P_law_no_number : List Str := ["_law_bag_here"]
def b_law_no_number : MS := (mRet (mCall m_law_one_of (mCons (mVar 0) (mCons (mLst (mCons (mC .non) (mCons (mC (.bl true)) (mCons (mC (.bl false)) (mCons (mC (.str "2")) (mCons (mUn nNeg (mC (.int 1))) (mCons (mUn nNeg (mC (.int 2))) (mCons (mC (.int 201)) (mCons (mOp nPow (mC (.int 10)) (mC (.int 60))) (mCons (mOp nMul (mOp nPow (mC (.int 10)) (mC (.int 60))) (mOp nPow (mC (.int 10)) (mC (.int 39)))) (mCons (mTup (mCons (mC (.int 2)) mNil)) (mCons (mLst (mCons (mC (.int 2)) mNil)) (mCons (mC (.str "")) (mCons (mDisp [((mC (.int 2)), (mC (.int 4)))]) mNil)))))))))))))) mNil))))
theorem x_law_no_number : ∃ m : MF, m = mDef N_law_no_number.length b_law_no_number := ⟨_, rfl⟩
def m_law_no_number : MF := Classical.choose x_law_no_number
theorem m_law_no_number_eq : m_law_no_number = mDef N_law_no_number.length b_law_no_number := Classical.choose_spec x_law_no_number
abbrev s_is_text_of : Stmt := topS 12
abbrev N_is_text_of : List Str := ["letters", "value", "sign"]
abbrev P_is_text_of : List Str := ["letters", "value"]
def b_is_text_of : MS := (mSeq (mIfS (mOrT (mNotT (mTru (mCB (pureF nIsi) (mCons (mVar 1) (mCons (mC (.ty "str")) mNil))))) (mB (mOp nGt (mCB (pureF nLenD) (mCons (mVar 1) mNil)) (mC w_MAX_WIDTH)))) (mRet (mC (.bl false))) mNext)
    (mRet (mCB (pureF nAll) (mCons (mLc (mItD (mVar 1)) (gN 2) mYes (mOp nIn (mVar 2) (mSl (mC w_LETTERS) mNoP (mPart (mVar 0)))) [2]) mNil))))
theorem x_is_text_of : ∃ m : MF, m = mDef N_is_text_of.length b_is_text_of := ⟨_, rfl⟩
def m_is_text_of : MF := Classical.choose x_is_text_of
theorem m_is_text_of_eq : m_is_text_of = mDef N_is_text_of.length b_is_text_of := Classical.choose_spec x_is_text_of
abbrev s_require_text : Stmt := topS 14
abbrev N_require_text : List Str := ["letters", "value"]
abbrev P_require_text : List Str := ["letters", "value"]
def b_require_text : MS := (mIfS (mNotT (mTru (mCall m_is_text_of (mCons (mVar 0) (mCons (mVar 1) mNil))))) (mRaise "InvalidText") mNext)
theorem x_require_text : ∃ m : MF, m = mDef N_require_text.length b_require_text := ⟨_, rfl⟩
def m_require_text : MF := Classical.choose x_require_text
theorem m_require_text_eq : m_require_text = mDef N_require_text.length b_require_text := Classical.choose_spec x_require_text
abbrev s_text_of_lines : Stmt := topS 21
abbrev N_text_of_lines : List Str := ["lines", "some", "low", "high"]
abbrev P_text_of_lines : List Str := []
def b_text_of_lines : MS := (mSeq (mFor (mItD (mVar 0)) (gN 1) (mDrop (mCall m_require_text (mCons (mC (.int 2)) (mCons (mVar 1) mNil)))))
    (mSeq (mIfS (mOrT (mNotT (mB (mChain nLe nLe (mC (.int 1)) (mCB (pureF nLenD) (mCons (mVar 0) mNil)) (mC (.int 2))))) (mB (mOp nNe (mCB (pureF nLenD) (mCons (mOp nIx (mVar 0) (mC (.int 0))) mNil)) (mCB (pureF nLenD) (mCons (mOp nIx (mVar 0) (mUn nNeg (mC (.int 1)))) mNil))))) (mRaise "InvalidOperation") mNext)
    (mSeq (mIfS (mB (mOp nEq (mCB (pureF nLenD) (mCons (mVar 0) mNil)) (mC (.int 1)))) (mRet (mOp nIx (mVar 0) (mC (.int 0)))) mNext)
    (mRet (mBM "str" (pureM nJoin) (mC (.str "")) (mCons (mLc (mZip (mCons (mOp nIx (mVar 0) (mC (.int 0))) (mCons (mOp nIx (mVar 0) (mC (.int 1))) mNil))) (gT [(gN 2), (gN 3)]) mYes (mCB (pureF nStr) (mCons (mOp nAdd (mCB (pureF nInt) (mCons (mVar 2) mNil)) (mOp nMul (mC (.int 2)) (mCB (pureF nInt) (mCons (mVar 3) mNil)))) mNil)) [2, 3]) mNil))))))
theorem x_text_of_lines : ∃ m : MF, m = mDefV P_text_of_lines.length N_text_of_lines.length b_text_of_lines := ⟨_, rfl⟩
def m_text_of_lines : MF := Classical.choose x_text_of_lines
theorem m_text_of_lines_eq : m_text_of_lines = mDefV P_text_of_lines.length N_text_of_lines.length b_text_of_lines := Classical.choose_spec x_text_of_lines
abbrev s_is_integer : Stmt := topS 10
abbrev N_is_integer : List Str := ["value"]
abbrev P_is_integer : List Str := ["value"]
def b_is_integer : MS := (mRet (mAnd (mCB (pureF nIsi) (mCons (mVar 0) (mCons (mC (.ty "int")) mNil))) (mAnd (mNot (mCB (pureF nIsi) (mCons (mVar 0) (mCons (mC (.ty "bool")) mNil)))) (mChain nLtT nLtT (mUn nNeg (mC w_INTEGER_BOUND)) (mVar 0) (mC w_INTEGER_BOUND)))))
theorem x_is_integer : ∃ m : MF, m = mDef N_is_integer.length b_is_integer := ⟨_, rfl⟩
def m_is_integer : MF := Classical.choose x_is_integer
theorem m_is_integer_eq : m_is_integer = mDef N_is_integer.length b_is_integer := Classical.choose_spec x_is_integer
abbrev s_require_letters : Stmt := topS 15
abbrev N_require_letters : List Str := ["letters"]
abbrev P_require_letters : List Str := ["letters"]
def b_require_letters : MS := (mIfS (mOrT (mNotT (mTru (mCall m_is_integer (mCons (mVar 0) mNil)))) (mB (mOp nNotIn (mVar 0) (mC w_BOTH_LETTERS)))) (mRaiseX "InvalidNumber" "given" (mVar 0)) mNext)
theorem x_require_letters : ∃ m : MF, m = mDef N_require_letters.length b_require_letters := ⟨_, rfl⟩
def m_require_letters : MF := Classical.choose x_require_letters
theorem m_require_letters_eq : m_require_letters = mDef N_require_letters.length b_require_letters := Classical.choose_spec x_require_letters
abbrev s_is_text : Stmt := topS 16
abbrev N_is_text : List Str := ["value", "letters"]
abbrev P_is_text : List Str := ["value", "letters"]
def b_is_text : MS := (mSeq (mDrop (mCall m_require_letters (mCons (mVar 1) mNil)))
    (mRet (mCall m_is_text_of (mCons (mVar 1) (mCons (mVar 0) mNil)))))
theorem x_is_text : ∃ m : MF, m = mDef N_is_text.length b_is_text := ⟨_, rfl⟩
def m_is_text : MF := Classical.choose x_is_text
theorem m_is_text_eq : m_is_text = mDef N_is_text.length b_is_text := Classical.choose_spec x_is_text
abbrev s_comes_ahead : Stmt := topS 19
abbrev N_comes_ahead : List Str := ["one", "other"]
abbrev P_comes_ahead : List Str := ["one", "other"]
def b_comes_ahead : MS := (mSeq (mDrop (mCall m_require_text (mCons (mC (.int 4)) (mCons (mVar 0) mNil))))
    (mSeq (mDrop (mCall m_require_text (mCons (mC (.int 4)) (mCons (mVar 1) mNil))))
    (mRet (mOp nLtT (mTup (mCons (mCB (pureF nLenD) (mCons (mVar 0) mNil)) (mCons (mVar 0) mNil))) (mTup (mCons (mCB (pureF nLenD) (mCons (mVar 1) mNil)) (mCons (mVar 1) mNil)))))))
theorem x_comes_ahead : ∃ m : MF, m = mDef N_comes_ahead.length b_comes_ahead := ⟨_, rfl⟩
def m_comes_ahead : MF := Classical.choose x_comes_ahead
theorem m_comes_ahead_eq : m_comes_ahead = mDef N_comes_ahead.length b_comes_ahead := Classical.choose_spec x_comes_ahead
abbrev s_is_integer_within : Stmt := topS 11
abbrev N_is_integer_within : List Str := ["value", "low", "high"]
abbrev P_is_integer_within : List Str := ["value", "low", "high"]
def b_is_integer_within : MS := (mRet (mAnd (mCall m_is_integer (mCons (mVar 0) mNil)) (mChain nLe nLe (mVar 1) (mVar 0) (mVar 2))))
theorem x_is_integer_within : ∃ m : MF, m = mDef N_is_integer_within.length b_is_integer_within := ⟨_, rfl⟩
def m_is_integer_within : MF := Classical.choose x_is_integer_within
theorem m_is_integer_within_eq : m_is_integer_within = mDef N_is_integer_within.length b_is_integer_within := Classical.choose_spec x_is_integer_within
abbrev s_line_of : Stmt := topS 20
abbrev N_line_of : List Str := ["text", "line", "letter"]
abbrev P_line_of : List Str := ["text", "line"]
def b_line_of : MS := (mSeq (mDrop (mCall m_require_text (mCons (mC (.int 4)) (mCons (mVar 0) mNil))))
    (mSeq (mIfS (mNotT (mTru (mCall m_is_integer_within (mCons (mVar 1) (mCons (mC (.int 0)) (mCons (mC (.int 1)) mNil)))))) (mRaiseX "InvalidNumber" "given" (mVar 1)) mNext)
    (mRet (mBM "str" (pureM nJoin) (mC (.str "")) (mCons (mLc (mItD (mVar 0)) (gN 2) mYes (mCB (pureF nStr) (mCons (mOp nMod (mOp nDiv (mCB (pureF nInt) (mCons (mVar 2) mNil)) (mOp nAdd (mC (.int 1)) (mVar 1))) (mC (.int 2))) mNil)) [2]) mNil)))))
theorem x_line_of : ∃ m : MF, m = mDef N_line_of.length b_line_of := ⟨_, rfl⟩
def m_line_of : MF := Classical.choose x_line_of
theorem m_line_of_eq : m_line_of = mDef N_line_of.length b_line_of := Classical.choose_spec x_line_of
abbrev s_require_width : Stmt := topS 13
abbrev N_require_width : List Str := ["value"]
abbrev P_require_width : List Str := ["value"]
def b_require_width : MS := (mIfS (mNotT (mTru (mCall m_is_integer_within (mCons (mVar 0) (mCons (mC (.int 0)) (mCons (mC w_MAX_WIDTH) mNil)))))) (mRaiseX "InvalidNumber" "given" (mVar 0)) mNext)
theorem x_require_width : ∃ m : MF, m = mDef N_require_width.length b_require_width := ⟨_, rfl⟩
def m_require_width : MF := Classical.choose x_require_width
theorem m_require_width_eq : m_require_width = mDef N_require_width.length b_require_width := Classical.choose_spec x_require_width
abbrev s_next_digits : Stmt := topS 17
abbrev N_next_digits : List Str := ["digits", "letters", "at", "place"]
abbrev P_next_digits : List Str := ["digits", "letters"]
def b_next_digits : MS := (mSeq (mSet 2 (mOp nSub (mCB (pureF nLenD) (mCons (mVar 0) mNil)) (mC (.int 1))))
    (mSeq (mWhile (mAndT (mB (mOp nGe (mVar 2) (mC (.int 0)))) (mB (mOp nEq (mOp nIx (mVar 0) (mVar 2)) (mOp nSub (mVar 1) (mC (.int 1)))))) (mAug 2 iSub (mC (.int 1))) 5000)
    (mSeq (mIfS (mB (mOp nLtT (mVar 2) (mC (.int 0)))) (mRet (mC .non)) mNext)
    (mRet (mLst (mStar (mSl (mVar 0) mNoP (mPart (mVar 2))) (mCons (mOp nAdd (mOp nIx (mVar 0) (mVar 2)) (mC (.int 1))) (mStar (mLc (mRng rng2 (mCons (mOp nAdd (mVar 2) (mC (.int 1))) (mCons (mCB (pureF nLenD) (mCons (mVar 0) mNil)) mNil))) (gN 3) mYes (mC (.int 0)) [3]) mNil))))))))
theorem x_next_digits : ∃ m : MF, m = mDef N_next_digits.length b_next_digits := ⟨_, rfl⟩
def m_next_digits : MF := Classical.choose x_next_digits
theorem m_next_digits_eq : m_next_digits = mDef N_next_digits.length b_next_digits := Classical.choose_spec x_next_digits
abbrev s_texts_of : Stmt := topS 18
abbrev N_texts_of : List Str := ["letters", "width", "digits", "place", "digit"]
abbrev P_texts_of : List Str := ["letters", "width"]
def xs_texts_of : List Str := ["InvalidNumber"]
def yb_texts_of : MGn := (ySeq (yPlain (mDrop (mCall m_require_letters (mCons (mVar 0) mNil))))
    (ySeq (yPlain (mDrop (mCall m_require_width (mCons (mVar 1) mNil))))
    (ySeq (yPlain (mSet 2 (mLc (mRng rng1 (mCons (mVar 1) mNil)) (gN 3) mYes (mC (.int 0)) [3])))
    (ySeq (yWhile (mB (mOp nIsN (mVar 2) (mC .non))) (ySeq (yYield (mBM "str" (pureM nJoin) (mC (.str "")) (mCons (mLc (mItD (mVar 2)) (gN 4) mYes (mCB (pureF nStr) (mCons (mVar 4) mNil)) [4]) mNil)))
    (yPlain (mSet 2 (mCall m_next_digits (mCons (mVar 2) (mCons (mVar 0) mNil)))))) 5000)
    yNil))))
theorem yx_texts_of : ∃ m : MGn, m = yb_texts_of := ⟨_, rfl⟩
def y_texts_of : MGn := Classical.choose yx_texts_of
theorem y_texts_of_eq : y_texts_of = yb_texts_of := Classical.choose_spec yx_texts_of
abbrev s_law_call : Stmt := topS 27
abbrev N_law_call : List Str := ["_law_which", "_law_one", "_law_other"]
abbrev P_law_call : List Str := ["_law_which", "_law_one", "_law_other"]
def b_law_call : MS := (mSeq (mIfS (mB (mOp nEq (mVar 0) (mC (.int 0)))) (mRet (mCall m_is_text (mCons (mVar 1) (mCons (mVar 2) mNil)))) mNext)
    (mSeq (mIfS (mB (mOp nEq (mVar 0) (mC (.int 1)))) (mRet (mListX xs_texts_of y_texts_of 5 (mCons (mVar 1) (mCons (mVar 2) mNil)))) mNext)
    (mSeq (mIfS (mB (mOp nEq (mVar 0) (mC (.int 2)))) (mRet (mCall m_comes_ahead (mCons (mVar 1) (mCons (mVar 2) mNil)))) mNext)
    (mSeq (mIfS (mB (mOp nEq (mVar 0) (mC (.int 3)))) (mRet (mCall m_line_of (mCons (mVar 1) (mCons (mVar 2) mNil)))) mNext)
    (mRet (mCall m_text_of_lines (mCons (mVar 1) (mCons (mVar 2) mNil))))))))
theorem x_law_call : ∃ m : MF, m = mDef N_law_call.length b_law_call := ⟨_, rfl⟩
def m_law_call : MF := Classical.choose x_law_call
theorem m_law_call_eq : m_law_call = mDef N_law_call.length b_law_call := Classical.choose_spec x_law_call
abbrev s_law_asked : Stmt := topS 28
abbrev N_law_asked : List Str := ["_law_which", "_law_one", "_law_other", "e"]
abbrev P_law_asked : List Str := ["_law_which", "_law_one", "_law_other"]
def b_law_asked : MS := (mSeq (mTry mtab (mDrop (mCall m_law_call (mCons (mVar 0) (mCons (mVar 1) (mCons (mVar 2) mNil))))) [("InvalidNumber", some 3, (mRet (mOp nAdd (mC (.str "number ")) (mCB (pureF nReprG) (mCons (mFld "given" (mVar 3)) mNil))))), ("InvalidText", none, (mRet (mC (.str "text")))), ("InvalidOperation", none, (mRet (mC (.str "operation"))))])
    (mRet (mC (.str "told"))))
theorem x_law_asked : ∃ m : MF, m = mDef N_law_asked.length b_law_asked := ⟨_, rfl⟩
def m_law_asked : MF := Classical.choose x_law_asked
theorem m_law_asked_eq : m_law_asked = mDef N_law_asked.length b_law_asked := Classical.choose_spec x_law_asked
abbrev s_law_text : Stmt := topS 26
abbrev N_law_text : List Str := ["_law_bag_here", "_law_letters", "_law_width", "_law_turn"]
abbrev P_law_text : List Str := ["_law_bag_here", "_law_letters", "_law_width"]
def b_law_text : MS := (mRet (mBM "str" (pureM nJoin) (mC (.str "")) (mCons (mLc (mRng rng1 (mCons (mVar 2) mNil)) (gN 3) mYes (mCB (pureF nStr) (mCons (mCall m_law_draw (mCons (mVar 0) (mCons (mVar 1) mNil))) mNil)) [3]) mNil)))
theorem x_law_text : ∃ m : MF, m = mDef N_law_text.length b_law_text := ⟨_, rfl⟩
def m_law_text : MF := Classical.choose x_law_text
theorem m_law_text_eq : m_law_text = mDef N_law_text.length b_law_text := Classical.choose_spec x_law_text
abbrev s_law_are_numbers : Stmt := topS 32
abbrev N_law_are_numbers : List Str := ["_law_bag_here", "_law_wrong", "_law_other", "_law_width", "_law_size", "_law_value", "_law_line"]
abbrev P_law_are_numbers : List Str := ["_law_bag_here"]
def b_law_are_numbers : MS := (mSeq (mPar3 1 2 3 (mCons (mCall m_law_no_number (mCons (mVar 0) mNil)) (mCons (mCall m_law_no_number (mCons (mVar 0) mNil)) (mCons (mCall m_law_draw (mCons (mVar 0) (mCons (mC (.int 4)) mNil))) mNil))))
    (mSeq (mSet 4 (mCall m_law_one_of (mCons (mVar 0) (mCons (mLst (mCons (mVar 1) (mCons (mC (.int 0)) (mCons (mC (.int 1)) (mCons (mC (.int 3)) (mCons (mC (.int 5)) mNil)))))) mNil))))
    (mSeq (mIfS (mB (mOp nNe (mCall m_law_asked (mCons (mC (.int 1)) (mCons (mVar 4) (mCons (mCall m_law_one_of (mCons (mVar 0) (mCons (mLst (mCons (mVar 3) (mCons (mVar 2) mNil))) mNil))) mNil)))) (mOp nAdd (mC (.str "number ")) (mCB (pureF nReprG) (mCons (mVar 4) mNil))))) (mRet (mC (.bl false))) mNext)
    (mSeq (mIfS (mOrT (mB (mOp nNe (mCall m_law_asked (mCons (mC (.int 1)) (mCons (mC (.int 2)) (mCons (mVar 1) mNil)))) (mOp nAdd (mC (.str "number ")) (mCB (pureF nReprG) (mCons (mVar 1) mNil))))) (mB (mOp nNe (mCall m_law_asked (mCons (mC (.int 1)) (mCons (mC (.int 4)) (mCons (mVar 1) mNil)))) (mOp nAdd (mC (.str "number ")) (mCB (pureF nReprG) (mCons (mVar 1) mNil)))))) (mRet (mC (.bl false))) mNext)
    (mSeq (mSet 5 (mCall m_law_one_of (mCons (mVar 0) (mCons (mLst (mCons (mC (.str "01")) (mCons (mC .non) (mCons (mVar 1) (mCons (mC (.int 5)) (mCons (mC (.str "9")) mNil)))))) mNil))))
    (mSeq (mIfS (mOrT (mB (mOp nNe (mCall m_law_asked (mCons (mC (.int 0)) (mCons (mVar 5) (mCons (mVar 4) mNil)))) (mOp nAdd (mC (.str "number ")) (mCB (pureF nReprG) (mCons (mVar 4) mNil))))) (mB (mOp nNe (mCall m_law_asked (mCons (mC (.int 0)) (mCons (mVar 5) (mCons (mC (.int 2)) mNil)))) (mC (.str "told"))))) (mRet (mC (.bl false))) mNext)
    (mSeq (mSet 6 (mCall m_law_one_of (mCons (mVar 0) (mCons (mLst (mCons (mVar 1) (mCons (mC (.int 2)) (mCons (mC (.int 3)) (mCons (mC (.int 4)) mNil))))) mNil))))
    (mRet (mOp nEq (mCall m_law_asked (mCons (mC (.int 3)) (mCons (mCall m_law_text (mCons (mVar 0) (mCons (mC (.int 4)) (mCons (mVar 3) mNil)))) (mCons (mVar 6) mNil)))) (mOp nAdd (mC (.str "number ")) (mCB (pureF nReprG) (mCons (mVar 6) mNil))))))))))))
theorem x_law_are_numbers : ∃ m : MF, m = mDef N_law_are_numbers.length b_law_are_numbers := ⟨_, rfl⟩
def m_law_are_numbers : MF := Classical.choose x_law_are_numbers
theorem m_law_are_numbers_eq : m_law_are_numbers = mDef N_law_are_numbers.length b_law_are_numbers := Classical.choose_spec x_law_are_numbers
abbrev s_law_no_text : Stmt := topS 31
abbrev N_law_no_text : List Str := ["_law_bag_here", "_law_letters", "_law_near", "_law_odd"]
abbrev P_law_no_text : List Str := ["_law_bag_here", "_law_letters"]
def b_law_no_text : MS := (mSeq (mSet 2 (mCall m_law_text (mCons (mVar 0) (mCons (mVar 1) (mCons (mC (.int 3)) mNil)))))
    (mSeq (mSet 3 (mLst (mCons (mC .non) (mCons (mC (.bl true)) (mCons (mC (.int 0)) (mCons (mC (.int 11)) (mCons (mTup mNil) (mCons (mTup (mCons (mC (.str "0")) mNil)) (mCons (mLst (mCons (mC (.str "0")) mNil)) (mCons (mDisp [((mC (.str "0")), (mC (.str "0")))]) (mCons (mOp nMul (mC (.str "0")) (mC (.int 201))) (mCons (mC (.str "x")) (mCons (mC (.str " ")) (mCons (mOp nAdd (mVar 2) (mC (.str "4"))) (mCons (mOp nAdd (mVar 2) (mC (.str " "))) (mCons (mC (.str "-1")) (mCons (mOp nAdd (mVar 2) (mC (.str "a"))) mNil)))))))))))))))))
    (mRet (mCall m_law_one_of (mCons (mVar 0) (mCons (mIf (mB (mOp nEq (mVar 1) (mC (.int 2)))) (mOp nAdd (mVar 3) (mLst (mCons (mOp nAdd (mC (.str "2")) (mVar 2)) (mCons (mOp nAdd (mVar 2) (mC (.str "3"))) mNil)))) (mVar 3)) mNil))))))
theorem x_law_no_text : ∃ m : MF, m = mDef N_law_no_text.length b_law_no_text := ⟨_, rfl⟩
def m_law_no_text : MF := Classical.choose x_law_no_text
theorem m_law_no_text_eq : m_law_no_text = mDef N_law_no_text.length b_law_no_text := Classical.choose_spec x_law_no_text
abbrev s_law_lines_asked : Stmt := topS 29
abbrev N_law_lines_asked : List Str := ["_law_lines"]
abbrev P_law_lines_asked : List Str := ["_law_lines"]
def b_law_lines_asked : MS := (mSeq (mTry mtab (mIfS (mB (mOp nEq (mCB (pureF nLenD) (mCons (mVar 0) mNil)) (mC (.int 0)))) (mDrop (mCall m_text_of_lines mNil)) (mIfS (mB (mOp nEq (mCB (pureF nLenD) (mCons (mVar 0) mNil)) (mC (.int 1)))) (mDrop (mCall m_text_of_lines (mCons (mOp nIx (mVar 0) (mC (.int 0))) mNil))) (mDrop (mCall m_text_of_lines (mCons (mOp nIx (mVar 0) (mC (.int 0))) (mCons (mOp nIx (mVar 0) (mC (.int 1))) (mCons (mOp nIx (mVar 0) (mC (.int 2))) mNil))))))) [("InvalidText", none, (mRet (mC (.str "text")))), ("InvalidOperation", none, (mRet (mC (.str "operation"))))])
    (mRet (mC (.str "told"))))
theorem x_law_lines_asked : ∃ m : MF, m = mDef N_law_lines_asked.length b_law_lines_asked := ⟨_, rfl⟩
def m_law_lines_asked : MF := Classical.choose x_law_lines_asked
theorem m_law_lines_asked_eq : m_law_lines_asked = mDef N_law_lines_asked.length b_law_lines_asked := Classical.choose_spec x_law_lines_asked
abbrev s_law_are_values : Stmt := topS 33
abbrev N_law_are_values : List Str := ["_law_bag_here", "_law_wrong", "_law_wrong_two", "_law_text_here", "_law_one", "_law_two", "_law_some"]
abbrev P_law_are_values : List Str := ["_law_bag_here"]
def b_law_are_values : MS := (mSeq (mPar 1 2 (mCons (mCall m_law_no_text (mCons (mVar 0) (mCons (mC (.int 4)) mNil))) (mCons (mCall m_law_no_text (mCons (mVar 0) (mCons (mC (.int 2)) mNil))) mNil)))
    (mSeq (mPar3 3 4 5 (mCons (mCall m_law_text (mCons (mVar 0) (mCons (mC (.int 4)) (mCons (mC (.int 3)) mNil)))) (mCons (mCall m_law_text (mCons (mVar 0) (mCons (mC (.int 2)) (mCons (mC (.int 2)) mNil)))) (mCons (mCall m_law_text (mCons (mVar 0) (mCons (mC (.int 2)) (mCons (mC (.int 3)) mNil)))) mNil))))
    (mSeq (mIfS (mB (mOp nNe (mLst (mCons (mCall m_law_asked (mCons (mC (.int 2)) (mCons (mVar 1) (mCons (mVar 3) mNil)))) (mCons (mCall m_law_asked (mCons (mC (.int 2)) (mCons (mVar 3) (mCons (mVar 1) mNil)))) (mCons (mCall m_law_asked (mCons (mC (.int 2)) (mCons (mVar 1) (mCons (mVar 2) mNil)))) mNil)))) (mOp nMul (mLst (mCons (mC (.str "text")) mNil)) (mC (.int 3))))) (mRet (mC (.bl false))) mNext)
    (mSeq (mIfS (mOrT (mB (mOp nNe (mCall m_law_asked (mCons (mC (.int 3)) (mCons (mVar 1) (mCons (mCall m_law_one_of (mCons (mVar 0) (mCons (mLst (mCons (mC (.int 0)) (mCons (mC (.int 1)) (mCons (mC (.int 2)) (mCons (mC .non) mNil))))) mNil))) mNil)))) (mC (.str "text")))) (mB (mOp nNe (mCall m_law_asked (mCons (mC (.int 2)) (mCons (mVar 3) (mCons (mVar 4) mNil)))) (mC (.str "told"))))) (mRet (mC (.bl false))) mNext)
    (mSeq (mIfS (mB (mOp nNe (mLst (mCons (mCall m_law_asked (mCons (mC (.int 4)) (mCons (mVar 2) (mCons (mVar 4) mNil)))) (mCons (mCall m_law_asked (mCons (mC (.int 4)) (mCons (mVar 5) (mCons (mVar 2) mNil)))) mNil))) (mOp nMul (mLst (mCons (mC (.str "text")) mNil)) (mC (.int 2))))) (mRet (mC (.bl false))) mNext)
    (mSeq (mIfS (mOrT (mB (mOp nNe (mCall m_law_asked (mCons (mC (.int 4)) (mCons (mVar 4) (mCons (mVar 5) mNil)))) (mC (.str "operation")))) (mB (mOp nNe (mCall m_law_asked (mCons (mC (.int 4)) (mCons (mVar 5) (mCons (mVar 5) mNil)))) (mC (.str "told"))))) (mRet (mC (.bl false))) mNext)
    (mSeq (mSet 6 (mLstN (mCons (mVar 4) (mCons (mCall m_law_one_of (mCons (mVar 0) (mCons (mLst (mCons (mVar 4) (mCons (mVar 5) mNil))) mNil))) (mCons (mVar 5) mNil)))))
    (mSeq (mIfS (mOrT (mB (mOp nNe (mCall m_law_lines_asked (mCons (mLst mNil) mNil)) (mC (.str "operation")))) (mB (mOp nNe (mCall m_law_lines_asked (mCons (mVar 6) mNil)) (mC (.str "operation"))))) (mRet (mC (.bl false))) mNext)
    (mSeq (mStore (mVar 6) (mCall m_law_draw (mCons (mVar 0) (mCons (mC (.int 3)) mNil))) (mVar 2))
    (mRet (mAnd (mOp nEq (mCall m_law_lines_asked (mCons (mVar 6) mNil)) (mC (.str "text"))) (mOp nEq (mCall m_law_lines_asked (mCons (mLst (mCons (mVar 2) mNil)) mNil)) (mC (.str "text"))))))))))))))
theorem x_law_are_values : ∃ m : MF, m = mDef N_law_are_values.length b_law_are_values := ⟨_, rfl⟩
def m_law_are_values : MF := Classical.choose x_law_are_values
theorem m_law_are_values_eq : m_law_are_values = mDef N_law_are_values.length b_law_are_values := Classical.choose_spec x_law_are_values
abbrev s_law : Stmt := topS 34
abbrev N_law : List Str := ["_law_script", "_law_at", "_law_bag_here"]
abbrev P_law : List Str := ["_law_script"]
def b_law : MS := (mSeq (mFor (mRng rng1 (mCons (mCB (pureF nMax) (mCons (mC (.int 1)) (mCons (mCB (pureF nMin) (mCons (mC (.int 3)) (mCons (mCB (pureF nLenD) (mCons (mVar 0) mNil)) mNil))) mNil))) mNil)) (gN 1) (mSeq (mSet 2 (mCall m_law_bag (mCons (mVar 0) (mCons (mVar 1) mNil))))
    (mIfS (mOrT (mNotT (mTru (mCall m_law_are_numbers (mCons (mVar 2) mNil)))) (mNotT (mTru (mCall m_law_are_values (mCons (mVar 2) mNil))))) (mRet (mC (.bl false))) mNext)))
    (mRet (mC (.bl true))))
theorem x_law : ∃ m : MF, m = mDef N_law.length b_law := ⟨_, rfl⟩
def m_law : MF := Classical.choose x_law
theorem m_law_eq : m_law = mDef N_law.length b_law := Classical.choose_spec x_law
end
end N
set_option maxHeartbeats 4000000
open PySem L2
namespace N
theorem hu64 {k : Nat} {A : Around} (h : Room k A) : A.units + 64 < cLine := by have := h.un; omega
theorem hu65 {k : Nat} {A : Around} (h : Room k A) : A.units + 65 < cLine := by have := h.un; omega
theorem hu0 {k : Nat} {A : Around} (h : Room k A) : A.units < cLine := by have := h.un; omega
theorem hu1 {k : Nat} {A : Around} (h : Room k A) : A.units + 1 < cLine := by have := h.un; omega
structure Txt (K : PySem.W.Frag) (mg : Str → Option Value) : Prop where
  b_len : mg "len" = none
  b_sum : mg "sum" = none
  b_abs : mg "abs" = none
  b_int : mg "int" = none
  b_max : mg "max" = none
  b_str : mg "str" = none
  b_isinstance : mg "isinstance" = none
  b_all : mg "all" = none
  b_zip : mg "zip" = none
  b_bool : mg "bool" = none
  b_range : mg "range" = none
  b_list : mg "list" = none
  b_repr : mg "repr" = none
  b_min : mg "min" = none
  c_MAX_WIDTH : ∃ u v, mg "MAX_WIDTH" = some u ∧ RelV v u ∧ ∀ ι H, RW K mg ι H w_MAX_WIDTH v
  c_LETTERS : ∃ u v, mg "LETTERS" = some u ∧ RelV v u ∧ ∀ ι H, RW K mg ι H w_LETTERS v
  c_INTEGER_BOUND : ∃ u v, mg "INTEGER_BOUND" = some u ∧ RelV v u ∧ ∀ ι H, RW K mg ι H w_INTEGER_BOUND v
  c_BOTH_LETTERS : ∃ u v, mg "BOTH_LETTERS" = some u ∧ RelV v u ∧ ∀ ι H, RW K mg ι H w_BOTH_LETTERS v
section
variable {P : Program} {w : World} {K : PySem.W.Frag} {mg : Str → Option Value} {base : Heap}
theorem sc_law_bag : FnScope N_law_bag P_law_bag (defScope s_law_bag) := ⟨rfl, rfl, rfl, by decide +kernel, rfl, by decide +kernel, by decide +kernel⟩
theorem ok_law_bag (F : FunD K mg "_law_bag" s_law_bag P_law_bag) (T : Txt K mg)  : Def P w K mg base 1 "_law_bag" P_law_bag m_law_bag :=
  by
  rw [m_law_bag_eq]
  exact FunD.ok F sc_law_bag (fun f cdv A outer s H E hr =>
    (nss_cons (ns_set (i := 2) sc_law_bag.nd rfl (Or.inl rfl) (ne_if (nt_cmp (on_ltT (hu0 hr)) (ne_var (pv 1)) (ne_callB cn_lenD (by rfl) T.b_len (by decide +kernel) (na_cons (ne_var (pv 0)) na_nil)) (nomark _)) (ne_ix (hu1 hr) (ne_var (pv 0)) (ne_var (pv 1)) (fun _ _ => rfl)) (ne_op on_add (ne_op on_add (ne_callB (cn_sum (by rfl)) (by rfl) T.b_sum (by decide +kernel) (na_cons (ne_sl (ne_var (pv 0)) no_none (no_some ne_int)) na_nil)) (ne_op on_mul ne_int (ne_var (pv 1)))) ne_int)))
      (nss_cons (ns_set (i := 3) sc_law_bag.nd rfl (Or.inl rfl) (ne_op on_mod (ne_callTy cn_int (by rfl) T.b_int (by decide +kernel) (na_cons (ne_callB cn_abs (by rfl) T.b_abs (by decide +kernel) (na_cons (ne_var (pv 2)) na_nil)) na_nil)) (ne_op on_pow (ne_op on_pow ne_int ne_int) ne_int)))
      (nss_cons (ns_set (i := 4) sc_law_bag.nd rfl (Or.inl rfl) (ne_op on_add (ne_op on_add (ne_op on_add (ne_op on_mul (ne_op on_mod (ne_callTy cn_int (by rfl) T.b_int (by decide +kernel) (na_cons (ne_var (pv 3)) na_nil)) ne_int) ne_int) (ne_op on_mul ne_int (ne_var (pv 1)))) (ne_op on_mul ne_int (ne_callTy cn_int (by rfl) T.b_int (by decide +kernel) (na_cons (ne_cmp (on_ltT (hu0 hr)) (ne_var (pv 2)) ne_int (nomark _)) na_nil)))) ne_int))
      (nss_one (ns_ret (ne_lstN (na_cons (ne_callB (cn_max (by rfl)) (by rfl) T.b_max (by decide +kernel) (na_cons ne_int (na_cons (ne_op on_sub (ne_var (pv 3)) (ne_op on_pow ne_int ne_int)) na_nil))) (na_cons (ne_op on_mod (ne_callTy cn_int (by rfl) T.b_int (by decide +kernel) (na_cons (ne_var (pv 4)) na_nil)) ne_int) (na_cons ne_int na_nil))))))))))
theorem sc_law_draw : FnScope N_law_draw P_law_draw (defScope s_law_draw) := ⟨rfl, rfl, rfl, by decide +kernel, rfl, by decide +kernel, by decide +kernel⟩
theorem ok_law_draw (F : FunD K mg "_law_draw" s_law_draw P_law_draw) (T : Txt K mg)  : Def P w K mg base 1 "_law_draw" P_law_draw m_law_draw :=
  by
  rw [m_law_draw_eq]
  exact FunD.ok F sc_law_draw (fun f cdv A outer s H E hr =>
    (nss_cons (ns_if (nt_cmp on_gt (ne_ix (hu1 hr) (ne_var (pv 0)) ne_int (fun _ _ => rfl)) ne_int (nomark _)) (nss_cons (ns_set (i := 2) sc_law_draw.nd rfl (Or.inl rfl) (ne_op on_mod (ne_callTy cn_int (by rfl) T.b_int (by decide +kernel) (na_cons (ne_ix (hu1 hr) (ne_var (pv 0)) ne_int (fun _ _ => rfl)) na_nil)) (ne_var (pv 1))))
      (nss_cons (ns_store (hu1 hr) (ne_var (pv 0)) ne_int (ne_op on_div (ne_ix (hu1 hr) (ne_var (pv 0)) ne_int (fun _ _ => rfl)) (ne_var (pv 1))))
      (nss_one (ns_ret (ne_var (pv 2)))))) nss_nil)
      (nss_cons (ns_store (hu1 hr) (ne_var (pv 0)) ne_int (ne_op on_add (ne_ix (hu1 hr) (ne_var (pv 0)) ne_int (fun _ _ => rfl)) ne_int))
      (nss_cons (ns_set (i := 3) sc_law_draw.nd rfl (Or.inl rfl) (ne_op on_mod (ne_callTy cn_int (by rfl) T.b_int (by decide +kernel) (na_cons (ne_op on_add (ne_ix (hu1 hr) (ne_var (pv 0)) ne_int (fun _ _ => rfl)) (ne_op on_mul ne_int (ne_ix (hu1 hr) (ne_var (pv 0)) ne_int (fun _ _ => rfl)))) na_nil)) ne_int))
      (nss_cons (ns_set (i := 4) sc_law_draw.nd rfl (Or.inl rfl) (ne_op on_add (ne_op on_mul (ne_op on_mod (ne_callTy cn_int (by rfl) T.b_int (by decide +kernel) (na_cons (ne_op on_mul (ne_var (pv 3)) (ne_var (pv 3))) na_nil)) ne_int) (ne_var (pv 3))) (ne_op on_mul ne_int (ne_ix (hu1 hr) (ne_var (pv 0)) ne_int (fun _ _ => rfl)))))
      (nss_one (ns_ret (ne_op on_mod (ne_callTy cn_int (by rfl) T.b_int (by decide +kernel) (na_cons (ne_op on_div (ne_op on_mod (ne_callTy cn_int (by rfl) T.b_int (by decide +kernel) (na_cons (ne_var (pv 4)) na_nil)) ne_int) ne_int) na_nil)) (ne_var (pv 1))))))))))
theorem sc_law_one_of : FnScope N_law_one_of P_law_one_of (defScope s_law_one_of) := ⟨rfl, rfl, rfl, by decide +kernel, rfl, by decide +kernel, by decide +kernel⟩
theorem ok_law_one_of (F : FunD K mg "_law_one_of" s_law_one_of P_law_one_of) (T : Txt K mg) (D__law_draw : Def P w K mg base 1 "_law_draw" P_law_draw m_law_draw) : Def P w K mg base 2 "_law_one_of" P_law_one_of m_law_one_of :=
  by
  rw [m_law_one_of_eq]
  exact FunD.ok F sc_law_one_of (fun f cdv A outer s H E hr =>
    (nss_one (ns_ret (ne_ix (hu1 hr) (ne_var (pv 1)) (ne_call D__law_draw (hr.mono (by decide)) (by rfl) (by rfl) (takes_of rfl rfl rfl rfl) (na_cons (ne_var (pv 0)) (na_cons (ne_callB cn_lenD (by rfl) T.b_len (by decide +kernel) (na_cons (ne_var (pv 1)) na_nil)) na_nil)) (fun _ _ _ _ e => len_cons (fun _ _ _ _ e => len_cons (fun _ _ _ _ e => len_nil e) e) e)) (fun _ _ => rfl)))))
theorem sc_law_no_number : FnScope N_law_no_number P_law_no_number (defScope s_law_no_number) := ⟨rfl, rfl, rfl, by decide +kernel, rfl, by decide +kernel, by decide +kernel⟩
theorem ok_law_no_number (F : FunD K mg "_law_no_number" s_law_no_number P_law_no_number) (T : Txt K mg) (D__law_one_of : Def P w K mg base 2 "_law_one_of" P_law_one_of m_law_one_of) : Def P w K mg base 3 "_law_no_number" P_law_no_number m_law_no_number :=
  by
  rw [m_law_no_number_eq]
  exact FunD.ok F sc_law_no_number (fun f cdv A outer s H E hr =>
    (nss_one (ns_ret (ne_call D__law_one_of (hr.mono (by decide)) (by rfl) (by rfl) (takes_of rfl rfl rfl rfl) (na_cons (ne_var (pv 0)) (na_cons (ne_lst (na_cons ne_non (na_cons ne_bl (na_cons ne_bl (na_cons ne_str (na_cons (ne_un on_neg ne_int) (na_cons (ne_un on_neg ne_int) (na_cons ne_int (na_cons (ne_op on_pow ne_int ne_int) (na_cons (ne_op on_mul (ne_op on_pow ne_int ne_int) (ne_op on_pow ne_int ne_int)) (na_cons (ne_tup (na_cons ne_int na_nil)) (na_cons (ne_lst (na_cons ne_int na_nil)) (na_cons ne_str (na_cons (ne_disp (nps_cons ne_int ne_int nps_nil)) na_nil)))))))))))))) na_nil)) (fun _ _ _ _ e => len_cons (fun _ _ _ _ e => len_cons (fun _ _ _ _ e => len_nil e) e) e)))))
theorem sc_is_text_of : FnScope N_is_text_of P_is_text_of (defScope s_is_text_of) := ⟨rfl, rfl, rfl, by decide +kernel, rfl, by decide +kernel, by decide +kernel⟩
theorem ok_is_text_of (F : FunD K mg "is_text_of" s_is_text_of P_is_text_of) (T : Txt K mg)  : Def P w K mg base 1 "is_text_of" P_is_text_of m_is_text_of :=
  by
  rw [m_is_text_of_eq]
  exact FunD.ok F sc_is_text_of (fun f cdv A outer s H E hr =>
    (nss_cons (ns_if (nt_w (nw_or (nt_not (nt_tru (ne_callB cn_isi (by rfl) T.b_isinstance (by decide +kernel) (na_cons (ne_var (pv 1)) (na_cons (ne_ty (n := "str") (by rfl) T.b_str (by decide +kernel)) na_nil))))) (nw_or1 (nt_cmp on_gt (ne_callB cn_lenD (by rfl) T.b_len (by decide +kernel) (na_cons (ne_var (pv 1)) na_nil)) (ne_glob (by rfl) T.c_MAX_WIDTH) (nomark _))))) (nss_one (ns_ret ne_bl)) nss_nil)
      (nss_one (ns_ret (ne_callB (cn_all (by rfl)) (by rfl) T.b_all (by decide +kernel) (na_cons (ne_lc (own := [("sign", 2)]) (by rfl) sc_is_text_of.nd (ni_anyD (ne_var (pv 1))) (blkOk_by (N := N_is_text_of) (sc := defScope s_is_text_of) (by decide +kernel)) (ts := [2]) (g := (gN 2)) (by decide) (fun _ _ _ _ _ => (ng_name (i := 2) sc_is_text_of.nd rfl (Or.inl rfl))) (fun _ _ _ _ _ => nts_nil) (fun _ _ _ _ _ => (ne_cmp (on_in (hu65 hr)) (ne_var (pv 2)) (ne_sl (ne_glob (by rfl) T.c_LETTERS) no_none (no_some (ne_var (pv 0)))) (by rfl)))) na_nil))))))
theorem sc_require_text : FnScope N_require_text P_require_text (defScope s_require_text) := ⟨rfl, rfl, rfl, by decide +kernel, rfl, by decide +kernel, by decide +kernel⟩
theorem ok_require_text (F : FunD K mg "require_text" s_require_text P_require_text) (T : Txt K mg) (E_InvalidText : ∃ C, ExcK K mg "InvalidText" C) (D_is_text_of : Def P w K mg base 1 "is_text_of" P_is_text_of m_is_text_of) : Def P w K mg base 2 "require_text" P_require_text m_require_text :=
  by
  rw [m_require_text_eq]
  exact FunD.ok F sc_require_text (fun f cdv A outer s H E hr =>
    (nss_one (ns_if (nt_not (nt_tru (ne_call D_is_text_of (hr.mono (by decide)) (by rfl) (by rfl) (takes_of rfl rfl rfl rfl) (na_cons (ne_var (pv 0)) (na_cons (ne_var (pv 1)) na_nil)) (fun _ _ _ _ e => len_cons (fun _ _ _ _ e => len_cons (fun _ _ _ _ e => len_nil e) e) e)))) (nss_one (ns_raise (by rfl) (takes_of rfl rfl rfl rfl) E_InvalidText (by rfl))) nss_nil)))
theorem sc_text_of_lines : FnScope N_text_of_lines (P_text_of_lines ++ [("lines" : Str)]) (defScope s_text_of_lines) := ⟨rfl, rfl, rfl, by decide +kernel, rfl, by decide +kernel, by decide +kernel⟩
theorem ok_text_of_lines (F : FunV K mg "text_of_lines" s_text_of_lines P_text_of_lines "lines") (T : Txt K mg) (E_InvalidOperation : ∃ C, ExcK K mg "InvalidOperation" C) (D_require_text : Def P w K mg base 2 "require_text" P_require_text m_require_text) : DefR P w K mg base 3 "text_of_lines" m_text_of_lines :=
  by
  rw [m_text_of_lines_eq]
  exact FunV.ok F sc_text_of_lines (fun f cdv A outer s H E hr =>
    (nss_cons (ns_for (passes_of rfl) (by rfl) (ni_anyD (ne_var (pv 0))) (ng_name (i := 1) sc_text_of_lines.nd rfl (Or.inl rfl)) (nss_one (ns_expr (ne_call D_require_text (hr.mono (by decide)) (by rfl) (by rfl) (takes_of rfl rfl rfl rfl) (na_cons ne_int (na_cons (ne_var (pv 1)) na_nil)) (fun _ _ _ _ e => len_cons (fun _ _ _ _ e => len_cons (fun _ _ _ _ e => len_nil e) e) e)))))
      (nss_cons (ns_if (nt_w (nw_or (nt_not (nt_chain on_le on_le ne_int (ne_callB cn_lenD (by rfl) T.b_len (by decide +kernel) (na_cons (ne_var (pv 0)) na_nil)) ne_int)) (nw_or1 (nt_cmp (on_ne (hu64 hr)) (ne_callB cn_lenD (by rfl) T.b_len (by decide +kernel) (na_cons (ne_ix (hu1 hr) (ne_var (pv 0)) ne_int (fun _ _ => rfl)) na_nil)) (ne_callB cn_lenD (by rfl) T.b_len (by decide +kernel) (na_cons (ne_ix (hu1 hr) (ne_var (pv 0)) (ne_un on_neg ne_int) (fun _ _ => rfl)) na_nil)) (nomark _))))) (nss_one (ns_raise (by rfl) (takes_of rfl rfl rfl rfl) E_InvalidOperation (by rfl))) nss_nil)
      (nss_cons (ns_if (nt_cmp (on_eq (hu64 hr)) (ne_callB cn_lenD (by rfl) T.b_len (by decide +kernel) (na_cons (ne_var (pv 0)) na_nil)) ne_int (nomark _)) (nss_one (ns_ret (ne_ix (hu1 hr) (ne_var (pv 0)) ne_int (fun _ _ => rfl)))) nss_nil)
      (nss_one (ns_ret (ne_bm PySem.F.plainAttrs_str PySem.F.slot_str_join PySem.F.type_str_join mn_join ne_str (na_cons (ne_lc (own := [("low", 2), ("high", 3)]) (by rfl) sc_text_of_lines.nd (ni_zip (by rfl) T.b_zip (na_cons (ne_ix (hu1 hr) (ne_var (pv 0)) ne_int (fun _ _ => rfl)) (na_cons (ne_ix (hu1 hr) (ne_var (pv 0)) ne_int (fun _ _ => rfl)) na_nil))) (blkOk_by (N := N_text_of_lines) (sc := defScope s_text_of_lines) (by decide +kernel)) (ts := [2, 3]) (g := (gT [(gN 2), (gN 3)])) (by decide) (fun _ _ _ _ _ => (by exact (ng_tup (by rfl) (ngs_cons (ng_name (i := 2) sc_text_of_lines.nd rfl (Or.inl rfl)) (ngs_cons (ng_name (i := 3) sc_text_of_lines.nd rfl (Or.inl rfl)) ngs_nil))))) (fun _ _ _ _ _ => nts_nil) (fun _ _ _ _ _ => (ne_callTy cn_str (by rfl) T.b_str (by decide +kernel) (na_cons (ne_op on_add (ne_callTy cn_int (by rfl) T.b_int (by decide +kernel) (na_cons (ne_var (pv 2)) na_nil)) (ne_op on_mul ne_int (ne_callTy cn_int (by rfl) T.b_int (by decide +kernel) (na_cons (ne_var (pv 3)) na_nil)))) na_nil)))) na_nil))))))))
theorem sc_is_integer : FnScope N_is_integer P_is_integer (defScope s_is_integer) := ⟨rfl, rfl, rfl, by decide +kernel, rfl, by decide +kernel, by decide +kernel⟩
theorem ok_is_integer (F : FunD K mg "is_integer" s_is_integer P_is_integer) (T : Txt K mg)  : Def P w K mg base 1 "is_integer" P_is_integer m_is_integer :=
  by
  rw [m_is_integer_eq]
  exact FunD.ok F sc_is_integer (fun f cdv A outer s H E hr =>
    (nss_one (ns_ret (ne_and (ne_callB cn_isi (by rfl) T.b_isinstance (by decide +kernel) (na_cons (ne_var (pv 0)) (na_cons (ne_ty (n := "int") (by rfl) T.b_int (by decide +kernel)) na_nil))) (ne_and (ne_not (ne_callB cn_isi (by rfl) T.b_isinstance (by decide +kernel) (na_cons (ne_var (pv 0)) (na_cons (ne_ty (n := "bool") (by rfl) T.b_bool (by decide +kernel)) na_nil)))) (ne_one (ne_chain (on_ltT (hu0 hr)) (on_ltT (hu0 hr)) (ne_un on_neg (ne_glob (by rfl) T.c_INTEGER_BOUND)) (ne_var (pv 0)) (ne_glob (by rfl) T.c_INTEGER_BOUND))))))))
theorem sc_require_letters : FnScope N_require_letters P_require_letters (defScope s_require_letters) := ⟨rfl, rfl, rfl, by decide +kernel, rfl, by decide +kernel, by decide +kernel⟩
theorem ok_require_letters (F : FunD K mg "require_letters" s_require_letters P_require_letters) (T : Txt K mg) (X_InvalidNumber : ∃ C B newId initId bmB fI cda cc sn pn, mg "InvalidNumber" = some (.ref C) ∧ XCls P K mg C B newId initId bmB "given" fI cda cc sn pn) (D_is_integer : Def P w K mg base 1 "is_integer" P_is_integer m_is_integer) : Def P w K mg base 2 "require_letters" P_require_letters m_require_letters :=
  by
  rw [m_require_letters_eq]
  exact FunD.ok F sc_require_letters (fun f cdv A outer s H E hr =>
    (nss_one (ns_if (nt_w (nw_or (nt_not (nt_tru (ne_call D_is_integer (hr.mono (by decide)) (by rfl) (by rfl) (takes_of rfl rfl rfl rfl) (na_cons (ne_var (pv 0)) na_nil) (fun _ _ _ _ e => len_cons (fun _ _ _ _ e => len_nil e) e)))) (nw_or1 (nt_cmp (on_notIn (hu65 hr)) (ne_var (pv 0)) (ne_glob (by rfl) T.c_BOTH_LETTERS) (by rfl))))) (nss_one (ns_raiseX (k := 0) (by rfl) (takes_of rfl rfl rfl rfl) X_InvalidNumber (hr.mono (by decide)) (by rfl) (ne_var (pv 0)))) nss_nil)))
theorem sc_is_text : FnScope N_is_text P_is_text (defScope s_is_text) := ⟨rfl, rfl, rfl, by decide +kernel, rfl, by decide +kernel, by decide +kernel⟩
theorem ok_is_text (F : FunD K mg "is_text" s_is_text P_is_text) (T : Txt K mg) (D_require_letters : Def P w K mg base 2 "require_letters" P_require_letters m_require_letters) (D_is_text_of : Def P w K mg base 1 "is_text_of" P_is_text_of m_is_text_of) : Def P w K mg base 3 "is_text" P_is_text m_is_text :=
  by
  rw [m_is_text_eq]
  exact FunD.ok F sc_is_text (fun f cdv A outer s H E hr =>
    (nss_cons (ns_expr (ne_call D_require_letters (hr.mono (by decide)) (by rfl) (by rfl) (takes_of rfl rfl rfl rfl) (na_cons (ne_var (pv 1)) na_nil) (fun _ _ _ _ e => len_cons (fun _ _ _ _ e => len_nil e) e)))
      (nss_one (ns_ret (ne_call D_is_text_of (hr.mono (by decide)) (by rfl) (by rfl) (takes_of rfl rfl rfl rfl) (na_cons (ne_var (pv 1)) (na_cons (ne_var (pv 0)) na_nil)) (fun _ _ _ _ e => len_cons (fun _ _ _ _ e => len_cons (fun _ _ _ _ e => len_nil e) e) e))))))
theorem sc_comes_ahead : FnScope N_comes_ahead P_comes_ahead (defScope s_comes_ahead) := ⟨rfl, rfl, rfl, by decide +kernel, rfl, by decide +kernel, by decide +kernel⟩
theorem ok_comes_ahead (F : FunD K mg "comes_ahead" s_comes_ahead P_comes_ahead) (T : Txt K mg) (D_require_text : Def P w K mg base 2 "require_text" P_require_text m_require_text) : Def P w K mg base 3 "comes_ahead" P_comes_ahead m_comes_ahead :=
  by
  rw [m_comes_ahead_eq]
  exact FunD.ok F sc_comes_ahead (fun f cdv A outer s H E hr =>
    (nss_cons (ns_expr (ne_call D_require_text (hr.mono (by decide)) (by rfl) (by rfl) (takes_of rfl rfl rfl rfl) (na_cons ne_int (na_cons (ne_var (pv 0)) na_nil)) (fun _ _ _ _ e => len_cons (fun _ _ _ _ e => len_cons (fun _ _ _ _ e => len_nil e) e) e)))
      (nss_cons (ns_expr (ne_call D_require_text (hr.mono (by decide)) (by rfl) (by rfl) (takes_of rfl rfl rfl rfl) (na_cons ne_int (na_cons (ne_var (pv 1)) na_nil)) (fun _ _ _ _ e => len_cons (fun _ _ _ _ e => len_cons (fun _ _ _ _ e => len_nil e) e) e)))
      (nss_one (ns_ret (ne_cmp (on_ltT (hu0 hr)) (ne_tup (na_cons (ne_callB cn_lenD (by rfl) T.b_len (by decide +kernel) (na_cons (ne_var (pv 0)) na_nil)) (na_cons (ne_var (pv 0)) na_nil))) (ne_tup (na_cons (ne_callB cn_lenD (by rfl) T.b_len (by decide +kernel) (na_cons (ne_var (pv 1)) na_nil)) (na_cons (ne_var (pv 1)) na_nil))) (nomark _)))))))
theorem sc_is_integer_within : FnScope N_is_integer_within P_is_integer_within (defScope s_is_integer_within) := ⟨rfl, rfl, rfl, by decide +kernel, rfl, by decide +kernel, by decide +kernel⟩
theorem ok_is_integer_within (F : FunD K mg "is_integer_within" s_is_integer_within P_is_integer_within) (T : Txt K mg) (D_is_integer : Def P w K mg base 1 "is_integer" P_is_integer m_is_integer) : Def P w K mg base 2 "is_integer_within" P_is_integer_within m_is_integer_within :=
  by
  rw [m_is_integer_within_eq]
  exact FunD.ok F sc_is_integer_within (fun f cdv A outer s H E hr =>
    (nss_one (ns_ret (ne_and (ne_call D_is_integer (hr.mono (by decide)) (by rfl) (by rfl) (takes_of rfl rfl rfl rfl) (na_cons (ne_var (pv 0)) na_nil) (fun _ _ _ _ e => len_cons (fun _ _ _ _ e => len_nil e) e)) (ne_one (ne_chain on_le on_le (ne_var (pv 1)) (ne_var (pv 0)) (ne_var (pv 2))))))))
theorem sc_line_of : FnScope N_line_of P_line_of (defScope s_line_of) := ⟨rfl, rfl, rfl, by decide +kernel, rfl, by decide +kernel, by decide +kernel⟩
theorem ok_line_of (F : FunD K mg "line_of" s_line_of P_line_of) (T : Txt K mg) (X_InvalidNumber : ∃ C B newId initId bmB fI cda cc sn pn, mg "InvalidNumber" = some (.ref C) ∧ XCls P K mg C B newId initId bmB "given" fI cda cc sn pn) (D_require_text : Def P w K mg base 2 "require_text" P_require_text m_require_text) (D_is_integer_within : Def P w K mg base 2 "is_integer_within" P_is_integer_within m_is_integer_within) : Def P w K mg base 3 "line_of" P_line_of m_line_of :=
  by
  rw [m_line_of_eq]
  exact FunD.ok F sc_line_of (fun f cdv A outer s H E hr =>
    (nss_cons (ns_expr (ne_call D_require_text (hr.mono (by decide)) (by rfl) (by rfl) (takes_of rfl rfl rfl rfl) (na_cons ne_int (na_cons (ne_var (pv 0)) na_nil)) (fun _ _ _ _ e => len_cons (fun _ _ _ _ e => len_cons (fun _ _ _ _ e => len_nil e) e) e)))
      (nss_cons (ns_if (nt_not (nt_tru (ne_call D_is_integer_within (hr.mono (by decide)) (by rfl) (by rfl) (takes_of rfl rfl rfl rfl) (na_cons (ne_var (pv 1)) (na_cons ne_int (na_cons ne_int na_nil))) (fun _ _ _ _ e => len_cons (fun _ _ _ _ e => len_cons (fun _ _ _ _ e => len_cons (fun _ _ _ _ e => len_nil e) e) e) e)))) (nss_one (ns_raiseX (k := 0) (by rfl) (takes_of rfl rfl rfl rfl) X_InvalidNumber (hr.mono (by decide)) (by rfl) (ne_var (pv 1)))) nss_nil)
      (nss_one (ns_ret (ne_bm PySem.F.plainAttrs_str PySem.F.slot_str_join PySem.F.type_str_join mn_join ne_str (na_cons (ne_lc (own := [("letter", 2)]) (by rfl) sc_line_of.nd (ni_anyD (ne_var (pv 0))) (blkOk_by (N := N_line_of) (sc := defScope s_line_of) (by decide +kernel)) (ts := [2]) (g := (gN 2)) (by decide) (fun _ _ _ _ _ => (ng_name (i := 2) sc_line_of.nd rfl (Or.inl rfl))) (fun _ _ _ _ _ => nts_nil) (fun _ _ _ _ _ => (ne_callTy cn_str (by rfl) T.b_str (by decide +kernel) (na_cons (ne_op on_mod (ne_op on_div (ne_callTy cn_int (by rfl) T.b_int (by decide +kernel) (na_cons (ne_var (pv 2)) na_nil)) (ne_op on_add ne_int (ne_var (pv 1)))) ne_int) na_nil)))) na_nil)))))))
theorem sc_require_width : FnScope N_require_width P_require_width (defScope s_require_width) := ⟨rfl, rfl, rfl, by decide +kernel, rfl, by decide +kernel, by decide +kernel⟩
theorem ok_require_width (F : FunD K mg "require_width" s_require_width P_require_width) (T : Txt K mg) (X_InvalidNumber : ∃ C B newId initId bmB fI cda cc sn pn, mg "InvalidNumber" = some (.ref C) ∧ XCls P K mg C B newId initId bmB "given" fI cda cc sn pn) (D_is_integer_within : Def P w K mg base 2 "is_integer_within" P_is_integer_within m_is_integer_within) : Def P w K mg base 3 "require_width" P_require_width m_require_width :=
  by
  rw [m_require_width_eq]
  exact FunD.ok F sc_require_width (fun f cdv A outer s H E hr =>
    (nss_one (ns_if (nt_not (nt_tru (ne_call D_is_integer_within (hr.mono (by decide)) (by rfl) (by rfl) (takes_of rfl rfl rfl rfl) (na_cons (ne_var (pv 0)) (na_cons ne_int (na_cons (ne_glob (by rfl) T.c_MAX_WIDTH) na_nil))) (fun _ _ _ _ e => len_cons (fun _ _ _ _ e => len_cons (fun _ _ _ _ e => len_cons (fun _ _ _ _ e => len_nil e) e) e) e)))) (nss_one (ns_raiseX (k := 0) (by rfl) (takes_of rfl rfl rfl rfl) X_InvalidNumber (hr.mono (by decide)) (by rfl) (ne_var (pv 0)))) nss_nil)))
theorem sc_next_digits : FnScope N_next_digits P_next_digits (defScope s_next_digits) := ⟨rfl, rfl, rfl, by decide +kernel, rfl, by decide +kernel, by decide +kernel⟩
theorem ok_next_digits (F : FunD K mg "next_digits" s_next_digits P_next_digits) (T : Txt K mg)  : Def P w K mg base 1 "next_digits" P_next_digits m_next_digits :=
  by
  rw [m_next_digits_eq]
  exact FunD.ok F sc_next_digits (fun f cdv A outer s H E hr =>
    (nss_cons (ns_set (i := 2) sc_next_digits.nd rfl (Or.inl rfl) (ne_op on_sub (ne_callB cn_lenD (by rfl) T.b_len (by decide +kernel) (na_cons (ne_var (pv 0)) na_nil)) ne_int))
      (nss_cons (ns_while 5000 (passes_of rfl) (nt_w (nw_and (nt_cmp on_ge (ne_var (pv 2)) ne_int (nomark _)) (nw_and1 (nt_cmp (on_eq (hu64 hr)) (ne_ix (hu1 hr) (ne_var (pv 0)) (ne_var (pv 2)) (fun _ _ => rfl)) (ne_op on_sub (ne_var (pv 1)) ne_int) (nomark _))))) (nss_one (ns_aug (i := 2) sc_next_digits.nd rfl (Or.inl rfl) ne_int ip_subN)))
      (nss_cons (ns_if (nt_cmp (on_ltT (hu0 hr)) (ne_var (pv 2)) ne_int (nomark _)) (nss_one (ns_ret ne_non)) nss_nil)
      (nss_one (ns_ret (ne_lst (na_star (ne_sl (ne_var (pv 0)) no_none (no_some (ne_var (pv 2)))) (na_cons (ne_op on_add (ne_ix (hu1 hr) (ne_var (pv 0)) (ne_var (pv 2)) (fun _ _ => rfl)) ne_int) (na_star (ne_lc (own := [("place", 3)]) (by rfl) sc_next_digits.nd (ni_range2 (by rfl) T.b_range (na_cons (ne_op on_add (ne_var (pv 2)) ne_int) (na_cons (ne_callB cn_lenD (by rfl) T.b_len (by decide +kernel) (na_cons (ne_var (pv 0)) na_nil)) na_nil))) (blkOk_by (N := N_next_digits) (sc := defScope s_next_digits) (by decide +kernel)) (ts := [3]) (g := (gN 3)) (by decide) (fun _ _ _ _ _ => (ng_name (i := 3) sc_next_digits.nd rfl (Or.inl rfl))) (fun _ _ _ _ _ => nts_nil) (fun _ _ _ _ _ => ne_int)) na_nil))))))))))
theorem sc_texts_of : GScope N_texts_of P_texts_of (defScope s_texts_of) := ⟨rfl, rfl, rfl, by decide +kernel, rfl, by decide +kernel, by decide +kernel⟩
theorem ok_texts_of (F : FunD K mg "texts_of" s_texts_of P_texts_of) (T : Txt K mg) (D_require_letters : Def P w K mg base 2 "require_letters" P_require_letters m_require_letters) (D_require_width : Def P w K mg base 3 "require_width" P_require_width m_require_width) (D_next_digits : Def P w K mg base 1 "next_digits" P_next_digits m_next_digits) : GenX P w K mg base 4 "texts_of" P_texts_of 5 y_texts_of :=
  by
  rw [y_texts_of_eq]
  exact FunD.okL F sc_texts_of (fun f cdv A outer s H E pn hr =>
    (lg_cons (lg_plain (ns_expr (ne_call D_require_letters (hr.mono (by decide)) (by rfl) (by rfl) takes_gcx (na_cons (ne_var (pv 0)) na_nil) (fun _ _ _ _ e => len_cons (fun _ _ _ _ e => len_nil e) e))))
      (lg_cons (lg_plain (ns_expr (ne_call D_require_width (hr.mono (by decide)) (by rfl) (by rfl) takes_gcx (na_cons (ne_var (pv 1)) na_nil) (fun _ _ _ _ e => len_cons (fun _ _ _ _ e => len_nil e) e))))
      (lg_cons (lg_plain (ns_setLc (i := 2) (own := [("place", 3)]) (by rfl) sc_texts_of.nd rfl rfl (sw_true rfl rfl rfl (by decide +kernel)) (ni_range1 (by rfl) T.b_range (na_cons (ne_var (pv 1)) na_nil)) (blkOk_by (N := N_texts_of) (sc := defScope s_texts_of) (by decide +kernel)) (ts := [3]) (g := (gN 3)) (by decide) (fun _ _ _ _ _ => (ng_name (i := 3) sc_texts_of.nd rfl (Or.inl rfl))) (fun _ _ _ _ _ => nts_nil) (fun _ _ _ _ _ => ne_int)))
      (lg_cons (lg_while owns_gcx ((nt_cmp on_isN (ne_var (pv 2)) ne_non (nomark _))) (lg_cons (lg_yield (ne_bm PySem.F.plainAttrs_str PySem.F.slot_str_join PySem.F.type_str_join mn_join ne_str (na_cons (ne_lc (own := [("digit", 4)]) (by rfl) sc_texts_of.nd (ni_anyD (ne_var (pv 2))) (blkOk_by (N := N_texts_of) (sc := defScope s_texts_of) (by decide +kernel)) (ts := [4]) (g := (gN 4)) (by decide) (fun _ _ _ _ _ => (ng_name (i := 4) sc_texts_of.nd rfl (Or.inl rfl))) (fun _ _ _ _ _ => nts_nil) (fun _ _ _ _ _ => (ne_callTy cn_str (by rfl) T.b_str (by decide +kernel) (na_cons (ne_var (pv 4)) na_nil)))) na_nil)))
      (lgs_plain (nss_one (ns_set (i := 2) sc_texts_of.nd rfl (Or.inl rfl) (ne_call D_next_digits (hr.mono (by decide)) (by rfl) (by rfl) takes_gcx (na_cons (ne_var (pv 2)) (na_cons (ne_var (pv 0)) na_nil)) (fun _ _ _ _ e => len_cons (fun _ _ _ _ e => len_cons (fun _ _ _ _ e => len_nil e) e) e)))))))
      lg_nil)))))
theorem sc_law_call : FnScope N_law_call P_law_call (defScope s_law_call) := ⟨rfl, rfl, rfl, by decide +kernel, rfl, by decide +kernel, by decide +kernel⟩
theorem ok_law_call (F : FunD K mg "_law_call" s_law_call P_law_call) (T : Txt K mg) (D_is_text : Def P w K mg base 3 "is_text" P_is_text m_is_text) (D_comes_ahead : Def P w K mg base 3 "comes_ahead" P_comes_ahead m_comes_ahead) (D_line_of : Def P w K mg base 3 "line_of" P_line_of m_line_of) (D_text_of_lines : DefR P w K mg base 3 "text_of_lines" m_text_of_lines) (GX_texts_of : GenX P w K mg base 4 "texts_of" P_texts_of 5 y_texts_of) (XS_texts_of : ∀ y c, y ∈ xs_texts_of → RXc mg y c → PySem.W.subIn K c (.type "StopIteration") = some false) : Def P w K mg base 8 "_law_call" P_law_call m_law_call :=
  by
  rw [m_law_call_eq]
  exact FunD.ok F sc_law_call (fun f cdv A outer s H E hr =>
    (nss_cons (ns_if (nt_cmp (on_eq (hu64 hr)) (ne_var (pv 0)) ne_int (nomark _)) (nss_one (ns_ret (ne_call D_is_text (hr.mono (by decide)) (by rfl) (by rfl) (takes_of rfl rfl rfl rfl) (na_cons (ne_var (pv 1)) (na_cons (ne_var (pv 2)) na_nil)) (fun _ _ _ _ e => len_cons (fun _ _ _ _ e => len_cons (fun _ _ _ _ e => len_nil e) e) e)))) nss_nil)
      (nss_cons (ns_if (nt_cmp (on_eq (hu64 hr)) (ne_var (pv 0)) ne_int (nomark _)) (nss_one (ns_ret (ne_listX GX_texts_of (hr.mono (by decide)) (by rfl) (by rfl) (takes_of rfl rfl rfl rfl) (na_cons (ne_var (pv 1)) (na_cons (ne_var (pv 2)) na_nil)) (fun _ _ _ _ e => len_cons (fun _ _ _ _ e => len_cons (fun _ _ _ _ e => len_nil e) e) e) XS_texts_of (by rfl) T.b_list))) nss_nil)
      (nss_cons (ns_if (nt_cmp (on_eq (hu64 hr)) (ne_var (pv 0)) ne_int (nomark _)) (nss_one (ns_ret (ne_call D_comes_ahead (hr.mono (by decide)) (by rfl) (by rfl) (takes_of rfl rfl rfl rfl) (na_cons (ne_var (pv 1)) (na_cons (ne_var (pv 2)) na_nil)) (fun _ _ _ _ e => len_cons (fun _ _ _ _ e => len_cons (fun _ _ _ _ e => len_nil e) e) e)))) nss_nil)
      (nss_cons (ns_if (nt_cmp (on_eq (hu64 hr)) (ne_var (pv 0)) ne_int (nomark _)) (nss_one (ns_ret (ne_call D_line_of (hr.mono (by decide)) (by rfl) (by rfl) (takes_of rfl rfl rfl rfl) (na_cons (ne_var (pv 1)) (na_cons (ne_var (pv 2)) na_nil)) (fun _ _ _ _ e => len_cons (fun _ _ _ _ e => len_cons (fun _ _ _ _ e => len_nil e) e) e)))) nss_nil)
      (nss_one (ns_ret (ne_callR D_text_of_lines (hr.mono (by decide)) (by rfl) (by rfl) (takes_of rfl rfl rfl rfl) (na_cons (ne_var (pv 1)) (na_cons (ne_var (pv 2)) na_nil))))))))))
theorem sc_law_asked : FnScope N_law_asked P_law_asked (defScope s_law_asked) := ⟨rfl, rfl, rfl, by decide +kernel, rfl, by decide +kernel, by decide +kernel⟩
theorem ok_law_asked (F : FunD K mg "_law_asked" s_law_asked P_law_asked) (T : Txt K mg) (MT : MtOk K mg mtab) (XM_InvalidOperation : ∃ C, mg "InvalidOperation" = some (.ref C)) (XM_InvalidText : ∃ C, mg "InvalidText" = some (.ref C)) (XM_InvalidNumber : ∃ C, mg "InvalidNumber" = some (.ref C)) (XF_InvalidNumber : ∀ C, mg "InvalidNumber" = some (.ref C) → XfC K C) (XN_InvalidNumber_given : ∀ C, mg "InvalidNumber" = some (.ref C) → PySem.W.findIn K (.ref C) "given" = some none) (D__law_call : Def P w K mg base 8 "_law_call" P_law_call m_law_call) : DefG P w K mg base 9 "_law_asked" P_law_asked m_law_asked :=
  by
  rw [m_law_asked_eq]
  exact funD_okG F sc_law_asked (fun f cdv A outer s H E hgu hr =>
    (nss_cons (ns_try rfl rfl sc_law_asked.nd (by rfl) (takes_of rfl rfl rfl rfl) (fun W_ pn_ xe_ t_ p_ => (nss_one (ns_expr (ne_call D__law_call (hr.mono (by decide)) (by rfl) (by rfl) t_ (na_cons (ne_var (pv 0)) (na_cons (ne_var (pv 1)) (na_cons (ne_var (pv 2)) na_nil))) (fun _ _ _ _ e => len_cons (fun _ _ _ _ e => len_cons (fun _ _ _ _ e => len_cons (fun _ _ _ _ e => len_nil e) e) e) e))))) (hn_as (i := 3) MT (by rfl) rfl rfl XM_InvalidNumber (fun C_ a_ oe_ d_ pn_ hC_ hz_ hf_ => (nss_one (ns_ret (ne_op on_add ne_str (ne_callB (cn_reprU hgu (by have z_ := hu64 hr; exact z_)) (by rfl) T.b_repr (by decide +kernel) (na_cons (ne_fld (XF_InvalidNumber _ hC_) (XN_InvalidNumber_given _ hC_) hz_ hf_ (ne_var (pv 3))) na_nil)))))) (hn_cons MT (by rfl) XM_InvalidText (fun _ _ _ => (nss_one (ns_ret ne_str))) (hn_cons MT (by rfl) XM_InvalidOperation (fun _ _ _ => (nss_one (ns_ret ne_str))) hn_nil))))
      (nss_one (ns_ret ne_str))))
theorem sc_law_text : FnScope N_law_text P_law_text (defScope s_law_text) := ⟨rfl, rfl, rfl, by decide +kernel, rfl, by decide +kernel, by decide +kernel⟩
theorem ok_law_text (F : FunD K mg "_law_text" s_law_text P_law_text) (T : Txt K mg) (D__law_draw : Def P w K mg base 1 "_law_draw" P_law_draw m_law_draw) : Def P w K mg base 2 "_law_text" P_law_text m_law_text :=
  by
  rw [m_law_text_eq]
  exact FunD.ok F sc_law_text (fun f cdv A outer s H E hr =>
    (nss_one (ns_ret (ne_bm PySem.F.plainAttrs_str PySem.F.slot_str_join PySem.F.type_str_join mn_join ne_str (na_cons (ne_lc (own := [("_law_turn", 3)]) (by rfl) sc_law_text.nd (ni_range1 (by rfl) T.b_range (na_cons (ne_var (pv 2)) na_nil)) (blkOk_by (N := N_law_text) (sc := defScope s_law_text) (by decide +kernel)) (ts := [3]) (g := (gN 3)) (by decide) (fun _ _ _ _ _ => (ng_name (i := 3) sc_law_text.nd rfl (Or.inl rfl))) (fun _ _ _ _ _ => nts_nil) (fun _ _ _ _ _ => (ne_callTy cn_str (by rfl) T.b_str (by decide +kernel) (na_cons (ne_call D__law_draw (hr.mono (by decide)) (by rfl) (by rfl) takes0 (na_cons (ne_var (pv 0)) (na_cons (ne_var (pv 1)) na_nil)) (fun _ _ _ _ e => len_cons (fun _ _ _ _ e => len_cons (fun _ _ _ _ e => len_nil e) e) e)) na_nil)))) na_nil)))))
theorem sc_law_are_numbers : FnScope N_law_are_numbers P_law_are_numbers (defScope s_law_are_numbers) := ⟨rfl, rfl, rfl, by decide +kernel, rfl, by decide +kernel, by decide +kernel⟩
theorem ok_law_are_numbers (F : FunD K mg "_law_are_numbers" s_law_are_numbers P_law_are_numbers) (T : Txt K mg) (D__law_no_number : Def P w K mg base 3 "_law_no_number" P_law_no_number m_law_no_number) (D__law_draw : Def P w K mg base 1 "_law_draw" P_law_draw m_law_draw) (D__law_one_of : Def P w K mg base 2 "_law_one_of" P_law_one_of m_law_one_of) (D__law_asked : DefG P w K mg base 9 "_law_asked" P_law_asked m_law_asked) (D__law_text : Def P w K mg base 2 "_law_text" P_law_text m_law_text) : DefG P w K mg base 10 "_law_are_numbers" P_law_are_numbers m_law_are_numbers :=
  by
  rw [m_law_are_numbers_eq]
  exact funD_okG F sc_law_are_numbers (fun f cdv A outer s H E hgu hr =>
    (nss_cons (ns_par3 (i := 1) (j := 2) (l := 3) (by rfl) sc_law_are_numbers.nd rfl rfl rfl (by decide) (by decide) (by decide) rfl rfl rfl (na_cons (ne_call D__law_no_number (hr.mono (by decide)) (by rfl) (by rfl) (takes_of rfl rfl rfl rfl) (na_cons (ne_var (pv 0)) na_nil) (fun _ _ _ _ e => len_cons (fun _ _ _ _ e => len_nil e) e)) (na_cons (ne_call D__law_no_number (hr.mono (by decide)) (by rfl) (by rfl) (takes_of rfl rfl rfl rfl) (na_cons (ne_var (pv 0)) na_nil) (fun _ _ _ _ e => len_cons (fun _ _ _ _ e => len_nil e) e)) (na_cons (ne_call D__law_draw (hr.mono (by decide)) (by rfl) (by rfl) (takes_of rfl rfl rfl rfl) (na_cons (ne_var (pv 0)) (na_cons ne_int na_nil)) (fun _ _ _ _ e => len_cons (fun _ _ _ _ e => len_cons (fun _ _ _ _ e => len_nil e) e) e)) na_nil))) (by rfl))
      (nss_cons (ns_set (i := 4) sc_law_are_numbers.nd rfl (Or.inl rfl) (ne_call D__law_one_of (hr.mono (by decide)) (by rfl) (by rfl) (takes_of rfl rfl rfl rfl) (na_cons (ne_var (pv 0)) (na_cons (ne_lst (na_cons (ne_var (pv 1)) (na_cons ne_int (na_cons ne_int (na_cons ne_int (na_cons ne_int na_nil)))))) na_nil)) (fun _ _ _ _ e => len_cons (fun _ _ _ _ e => len_cons (fun _ _ _ _ e => len_nil e) e) e)))
      (nss_cons (ns_if (nt_cmp (on_ne (hu64 hr)) (ne_callG D__law_asked hgu (hr.mono (by decide)) (by rfl) (by rfl) (takes_of rfl rfl rfl rfl) (na_cons ne_int (na_cons (ne_var (pv 4)) (na_cons (ne_call D__law_one_of (hr.mono (by decide)) (by rfl) (by rfl) (takes_of rfl rfl rfl rfl) (na_cons (ne_var (pv 0)) (na_cons (ne_lst (na_cons (ne_var (pv 3)) (na_cons (ne_var (pv 2)) na_nil))) na_nil)) (fun _ _ _ _ e => len_cons (fun _ _ _ _ e => len_cons (fun _ _ _ _ e => len_nil e) e) e)) na_nil))) (fun _ _ _ _ e => len_cons (fun _ _ _ _ e => len_cons (fun _ _ _ _ e => len_cons (fun _ _ _ _ e => len_nil e) e) e) e)) (ne_op on_add ne_str (ne_callB (cn_reprU hgu (hu64 hr)) (by rfl) T.b_repr (by decide +kernel) (na_cons (ne_var (pv 4)) na_nil))) (nomark _)) (nss_one (ns_ret ne_bl)) nss_nil)
      (nss_cons (ns_if (nt_w (nw_or (nt_cmp (on_ne (hu64 hr)) (ne_callG D__law_asked hgu (hr.mono (by decide)) (by rfl) (by rfl) (takes_of rfl rfl rfl rfl) (na_cons ne_int (na_cons ne_int (na_cons (ne_var (pv 1)) na_nil))) (fun _ _ _ _ e => len_cons (fun _ _ _ _ e => len_cons (fun _ _ _ _ e => len_cons (fun _ _ _ _ e => len_nil e) e) e) e)) (ne_op on_add ne_str (ne_callB (cn_reprU hgu (hu64 hr)) (by rfl) T.b_repr (by decide +kernel) (na_cons (ne_var (pv 1)) na_nil))) (nomark _)) (nw_or1 (nt_cmp (on_ne (hu64 hr)) (ne_callG D__law_asked hgu (hr.mono (by decide)) (by rfl) (by rfl) (takes_of rfl rfl rfl rfl) (na_cons ne_int (na_cons ne_int (na_cons (ne_var (pv 1)) na_nil))) (fun _ _ _ _ e => len_cons (fun _ _ _ _ e => len_cons (fun _ _ _ _ e => len_cons (fun _ _ _ _ e => len_nil e) e) e) e)) (ne_op on_add ne_str (ne_callB (cn_reprU hgu (hu64 hr)) (by rfl) T.b_repr (by decide +kernel) (na_cons (ne_var (pv 1)) na_nil))) (nomark _))))) (nss_one (ns_ret ne_bl)) nss_nil)
      (nss_cons (ns_set (i := 5) sc_law_are_numbers.nd rfl (Or.inl rfl) (ne_call D__law_one_of (hr.mono (by decide)) (by rfl) (by rfl) (takes_of rfl rfl rfl rfl) (na_cons (ne_var (pv 0)) (na_cons (ne_lst (na_cons ne_str (na_cons ne_non (na_cons (ne_var (pv 1)) (na_cons ne_int (na_cons ne_str na_nil)))))) na_nil)) (fun _ _ _ _ e => len_cons (fun _ _ _ _ e => len_cons (fun _ _ _ _ e => len_nil e) e) e)))
      (nss_cons (ns_if (nt_w (nw_or (nt_cmp (on_ne (hu64 hr)) (ne_callG D__law_asked hgu (hr.mono (by decide)) (by rfl) (by rfl) (takes_of rfl rfl rfl rfl) (na_cons ne_int (na_cons (ne_var (pv 5)) (na_cons (ne_var (pv 4)) na_nil))) (fun _ _ _ _ e => len_cons (fun _ _ _ _ e => len_cons (fun _ _ _ _ e => len_cons (fun _ _ _ _ e => len_nil e) e) e) e)) (ne_op on_add ne_str (ne_callB (cn_reprU hgu (hu64 hr)) (by rfl) T.b_repr (by decide +kernel) (na_cons (ne_var (pv 4)) na_nil))) (nomark _)) (nw_or1 (nt_cmp (on_ne (hu64 hr)) (ne_callG D__law_asked hgu (hr.mono (by decide)) (by rfl) (by rfl) (takes_of rfl rfl rfl rfl) (na_cons ne_int (na_cons (ne_var (pv 5)) (na_cons ne_int na_nil))) (fun _ _ _ _ e => len_cons (fun _ _ _ _ e => len_cons (fun _ _ _ _ e => len_cons (fun _ _ _ _ e => len_nil e) e) e) e)) ne_str (nomark _))))) (nss_one (ns_ret ne_bl)) nss_nil)
      (nss_cons (ns_set (i := 6) sc_law_are_numbers.nd rfl (Or.inl rfl) (ne_call D__law_one_of (hr.mono (by decide)) (by rfl) (by rfl) (takes_of rfl rfl rfl rfl) (na_cons (ne_var (pv 0)) (na_cons (ne_lst (na_cons (ne_var (pv 1)) (na_cons ne_int (na_cons ne_int (na_cons ne_int na_nil))))) na_nil)) (fun _ _ _ _ e => len_cons (fun _ _ _ _ e => len_cons (fun _ _ _ _ e => len_nil e) e) e)))
      (nss_one (ns_ret (ne_cmp (on_eq (hu64 hr)) (ne_callG D__law_asked hgu (hr.mono (by decide)) (by rfl) (by rfl) (takes_of rfl rfl rfl rfl) (na_cons ne_int (na_cons (ne_call D__law_text (hr.mono (by decide)) (by rfl) (by rfl) (takes_of rfl rfl rfl rfl) (na_cons (ne_var (pv 0)) (na_cons ne_int (na_cons (ne_var (pv 3)) na_nil))) (fun _ _ _ _ e => len_cons (fun _ _ _ _ e => len_cons (fun _ _ _ _ e => len_cons (fun _ _ _ _ e => len_nil e) e) e) e)) (na_cons (ne_var (pv 6)) na_nil))) (fun _ _ _ _ e => len_cons (fun _ _ _ _ e => len_cons (fun _ _ _ _ e => len_cons (fun _ _ _ _ e => len_nil e) e) e) e)) (ne_op on_add ne_str (ne_callB (cn_reprU hgu (hu64 hr)) (by rfl) T.b_repr (by decide +kernel) (na_cons (ne_var (pv 6)) na_nil))) (nomark _))))))))))))
theorem sc_law_no_text : FnScope N_law_no_text P_law_no_text (defScope s_law_no_text) := ⟨rfl, rfl, rfl, by decide +kernel, rfl, by decide +kernel, by decide +kernel⟩
theorem ok_law_no_text (F : FunD K mg "_law_no_text" s_law_no_text P_law_no_text) (T : Txt K mg) (D__law_text : Def P w K mg base 2 "_law_text" P_law_text m_law_text) (D__law_one_of : Def P w K mg base 2 "_law_one_of" P_law_one_of m_law_one_of) : Def P w K mg base 3 "_law_no_text" P_law_no_text m_law_no_text :=
  by
  rw [m_law_no_text_eq]
  exact FunD.ok F sc_law_no_text (fun f cdv A outer s H E hr =>
    (nss_cons (ns_set (i := 2) sc_law_no_text.nd rfl (Or.inl rfl) (ne_call D__law_text (hr.mono (by decide)) (by rfl) (by rfl) (takes_of rfl rfl rfl rfl) (na_cons (ne_var (pv 0)) (na_cons (ne_var (pv 1)) (na_cons ne_int na_nil))) (fun _ _ _ _ e => len_cons (fun _ _ _ _ e => len_cons (fun _ _ _ _ e => len_cons (fun _ _ _ _ e => len_nil e) e) e) e)))
      (nss_cons (ns_set (i := 3) sc_law_no_text.nd rfl (Or.inl rfl) (ne_lst (na_cons ne_non (na_cons ne_bl (na_cons ne_int (na_cons ne_int (na_cons (ne_tup na_nil) (na_cons (ne_tup (na_cons ne_str na_nil)) (na_cons (ne_lst (na_cons ne_str na_nil)) (na_cons (ne_disp (nps_cons ne_str ne_str nps_nil)) (na_cons (ne_op on_mul ne_str ne_int) (na_cons ne_str (na_cons ne_str (na_cons (ne_op on_add (ne_var (pv 2)) ne_str) (na_cons (ne_op on_add (ne_var (pv 2)) ne_str) (na_cons ne_str (na_cons (ne_op on_add (ne_var (pv 2)) ne_str) na_nil)))))))))))))))))
      (nss_one (ns_ret (ne_call D__law_one_of (hr.mono (by decide)) (by rfl) (by rfl) (takes_of rfl rfl rfl rfl) (na_cons (ne_var (pv 0)) (na_cons (ne_if (nt_cmp (on_eq (hu64 hr)) (ne_var (pv 1)) ne_int (nomark _)) (ne_op on_add (ne_var (pv 3)) (ne_lst (na_cons (ne_op on_add ne_str (ne_var (pv 2))) (na_cons (ne_op on_add (ne_var (pv 2)) ne_str) na_nil)))) (ne_var (pv 3))) na_nil)) (fun _ _ _ _ e => len_cons (fun _ _ _ _ e => len_cons (fun _ _ _ _ e => len_nil e) e) e)))))))
theorem sc_law_lines_asked : FnScope N_law_lines_asked P_law_lines_asked (defScope s_law_lines_asked) := ⟨rfl, rfl, rfl, by decide +kernel, rfl, by decide +kernel, by decide +kernel⟩
theorem ok_law_lines_asked (F : FunD K mg "_law_lines_asked" s_law_lines_asked P_law_lines_asked) (T : Txt K mg) (MT : MtOk K mg mtab) (XM_InvalidOperation : ∃ C, mg "InvalidOperation" = some (.ref C)) (XM_InvalidText : ∃ C, mg "InvalidText" = some (.ref C)) (D_text_of_lines : DefR P w K mg base 3 "text_of_lines" m_text_of_lines) : Def P w K mg base 4 "_law_lines_asked" P_law_lines_asked m_law_lines_asked :=
  by
  rw [m_law_lines_asked_eq]
  exact FunD.ok F sc_law_lines_asked (fun f cdv A outer s H E hr =>
    (nss_cons (ns_try rfl rfl sc_law_lines_asked.nd (by rfl) (takes_of rfl rfl rfl rfl) (fun W_ pn_ xe_ t_ p_ => (nss_one (ns_if (nt_cmp (on_eq (hu64 hr)) (ne_callB cn_lenD (by rfl) T.b_len (by decide +kernel) (na_cons (ne_var (pv 0)) na_nil)) ne_int (nomark _)) (nss_one (ns_expr (ne_callR0 D_text_of_lines (hr.mono (by decide)) (by rfl) (by rfl) t_))) (nss_one (ns_if (nt_cmp (on_eq (hu64 hr)) (ne_callB cn_lenD (by rfl) T.b_len (by decide +kernel) (na_cons (ne_var (pv 0)) na_nil)) ne_int (nomark _)) (nss_one (ns_expr (ne_callR D_text_of_lines (hr.mono (by decide)) (by rfl) (by rfl) t_ (na_cons (ne_ix (hu1 hr) (ne_var (pv 0)) ne_int (fun _ _ => rfl)) na_nil)))) (nss_one (ns_expr (ne_callR D_text_of_lines (hr.mono (by decide)) (by rfl) (by rfl) t_ (na_cons (ne_ix (hu1 hr) (ne_var (pv 0)) ne_int (fun _ _ => rfl)) (na_cons (ne_ix (hu1 hr) (ne_var (pv 0)) ne_int (fun _ _ => rfl)) (na_cons (ne_ix (hu1 hr) (ne_var (pv 0)) ne_int (fun _ _ => rfl)) na_nil))))))))))) (hn_cons MT (by rfl) XM_InvalidText (fun _ _ _ => (nss_one (ns_ret ne_str))) (hn_cons MT (by rfl) XM_InvalidOperation (fun _ _ _ => (nss_one (ns_ret ne_str))) hn_nil)))
      (nss_one (ns_ret ne_str))))
theorem sc_law_are_values : FnScope N_law_are_values P_law_are_values (defScope s_law_are_values) := ⟨rfl, rfl, rfl, by decide +kernel, rfl, by decide +kernel, by decide +kernel⟩
theorem ok_law_are_values (F : FunD K mg "_law_are_values" s_law_are_values P_law_are_values) (T : Txt K mg) (D__law_no_text : Def P w K mg base 3 "_law_no_text" P_law_no_text m_law_no_text) (D__law_text : Def P w K mg base 2 "_law_text" P_law_text m_law_text) (D__law_asked : DefG P w K mg base 9 "_law_asked" P_law_asked m_law_asked) (D__law_one_of : Def P w K mg base 2 "_law_one_of" P_law_one_of m_law_one_of) (D__law_lines_asked : Def P w K mg base 4 "_law_lines_asked" P_law_lines_asked m_law_lines_asked) (D__law_draw : Def P w K mg base 1 "_law_draw" P_law_draw m_law_draw) : DefG P w K mg base 10 "_law_are_values" P_law_are_values m_law_are_values :=
  by
  rw [m_law_are_values_eq]
  exact funD_okG F sc_law_are_values (fun f cdv A outer s H E hgu hr =>
    (nss_cons (ns_par (i := 1) (j := 2) (by rfl) sc_law_are_values.nd rfl rfl (by decide) rfl rfl (na_cons (ne_call D__law_no_text (hr.mono (by decide)) (by rfl) (by rfl) (takes_of rfl rfl rfl rfl) (na_cons (ne_var (pv 0)) (na_cons ne_int na_nil)) (fun _ _ _ _ e => len_cons (fun _ _ _ _ e => len_cons (fun _ _ _ _ e => len_nil e) e) e)) (na_cons (ne_call D__law_no_text (hr.mono (by decide)) (by rfl) (by rfl) (takes_of rfl rfl rfl rfl) (na_cons (ne_var (pv 0)) (na_cons ne_int na_nil)) (fun _ _ _ _ e => len_cons (fun _ _ _ _ e => len_cons (fun _ _ _ _ e => len_nil e) e) e)) na_nil)) (by rfl))
      (nss_cons (ns_par3 (i := 3) (j := 4) (l := 5) (by rfl) sc_law_are_values.nd rfl rfl rfl (by decide) (by decide) (by decide) rfl rfl rfl (na_cons (ne_call D__law_text (hr.mono (by decide)) (by rfl) (by rfl) (takes_of rfl rfl rfl rfl) (na_cons (ne_var (pv 0)) (na_cons ne_int (na_cons ne_int na_nil))) (fun _ _ _ _ e => len_cons (fun _ _ _ _ e => len_cons (fun _ _ _ _ e => len_cons (fun _ _ _ _ e => len_nil e) e) e) e)) (na_cons (ne_call D__law_text (hr.mono (by decide)) (by rfl) (by rfl) (takes_of rfl rfl rfl rfl) (na_cons (ne_var (pv 0)) (na_cons ne_int (na_cons ne_int na_nil))) (fun _ _ _ _ e => len_cons (fun _ _ _ _ e => len_cons (fun _ _ _ _ e => len_cons (fun _ _ _ _ e => len_nil e) e) e) e)) (na_cons (ne_call D__law_text (hr.mono (by decide)) (by rfl) (by rfl) (takes_of rfl rfl rfl rfl) (na_cons (ne_var (pv 0)) (na_cons ne_int (na_cons ne_int na_nil))) (fun _ _ _ _ e => len_cons (fun _ _ _ _ e => len_cons (fun _ _ _ _ e => len_cons (fun _ _ _ _ e => len_nil e) e) e) e)) na_nil))) (by rfl))
      (nss_cons (ns_if (nt_cmp (on_ne (hu64 hr)) (ne_lst (na_cons (ne_callG D__law_asked hgu (hr.mono (by decide)) (by rfl) (by rfl) (takes_of rfl rfl rfl rfl) (na_cons ne_int (na_cons (ne_var (pv 1)) (na_cons (ne_var (pv 3)) na_nil))) (fun _ _ _ _ e => len_cons (fun _ _ _ _ e => len_cons (fun _ _ _ _ e => len_cons (fun _ _ _ _ e => len_nil e) e) e) e)) (na_cons (ne_callG D__law_asked hgu (hr.mono (by decide)) (by rfl) (by rfl) (takes_of rfl rfl rfl rfl) (na_cons ne_int (na_cons (ne_var (pv 3)) (na_cons (ne_var (pv 1)) na_nil))) (fun _ _ _ _ e => len_cons (fun _ _ _ _ e => len_cons (fun _ _ _ _ e => len_cons (fun _ _ _ _ e => len_nil e) e) e) e)) (na_cons (ne_callG D__law_asked hgu (hr.mono (by decide)) (by rfl) (by rfl) (takes_of rfl rfl rfl rfl) (na_cons ne_int (na_cons (ne_var (pv 1)) (na_cons (ne_var (pv 2)) na_nil))) (fun _ _ _ _ e => len_cons (fun _ _ _ _ e => len_cons (fun _ _ _ _ e => len_cons (fun _ _ _ _ e => len_nil e) e) e) e)) na_nil)))) (ne_op on_mul (ne_lst (na_cons ne_str na_nil)) ne_int) (nomark _)) (nss_one (ns_ret ne_bl)) nss_nil)
      (nss_cons (ns_if (nt_w (nw_or (nt_cmp (on_ne (hu64 hr)) (ne_callG D__law_asked hgu (hr.mono (by decide)) (by rfl) (by rfl) (takes_of rfl rfl rfl rfl) (na_cons ne_int (na_cons (ne_var (pv 1)) (na_cons (ne_call D__law_one_of (hr.mono (by decide)) (by rfl) (by rfl) (takes_of rfl rfl rfl rfl) (na_cons (ne_var (pv 0)) (na_cons (ne_lst (na_cons ne_int (na_cons ne_int (na_cons ne_int (na_cons ne_non na_nil))))) na_nil)) (fun _ _ _ _ e => len_cons (fun _ _ _ _ e => len_cons (fun _ _ _ _ e => len_nil e) e) e)) na_nil))) (fun _ _ _ _ e => len_cons (fun _ _ _ _ e => len_cons (fun _ _ _ _ e => len_cons (fun _ _ _ _ e => len_nil e) e) e) e)) ne_str (nomark _)) (nw_or1 (nt_cmp (on_ne (hu64 hr)) (ne_callG D__law_asked hgu (hr.mono (by decide)) (by rfl) (by rfl) (takes_of rfl rfl rfl rfl) (na_cons ne_int (na_cons (ne_var (pv 3)) (na_cons (ne_var (pv 4)) na_nil))) (fun _ _ _ _ e => len_cons (fun _ _ _ _ e => len_cons (fun _ _ _ _ e => len_cons (fun _ _ _ _ e => len_nil e) e) e) e)) ne_str (nomark _))))) (nss_one (ns_ret ne_bl)) nss_nil)
      (nss_cons (ns_if (nt_cmp (on_ne (hu64 hr)) (ne_lst (na_cons (ne_callG D__law_asked hgu (hr.mono (by decide)) (by rfl) (by rfl) (takes_of rfl rfl rfl rfl) (na_cons ne_int (na_cons (ne_var (pv 2)) (na_cons (ne_var (pv 4)) na_nil))) (fun _ _ _ _ e => len_cons (fun _ _ _ _ e => len_cons (fun _ _ _ _ e => len_cons (fun _ _ _ _ e => len_nil e) e) e) e)) (na_cons (ne_callG D__law_asked hgu (hr.mono (by decide)) (by rfl) (by rfl) (takes_of rfl rfl rfl rfl) (na_cons ne_int (na_cons (ne_var (pv 5)) (na_cons (ne_var (pv 2)) na_nil))) (fun _ _ _ _ e => len_cons (fun _ _ _ _ e => len_cons (fun _ _ _ _ e => len_cons (fun _ _ _ _ e => len_nil e) e) e) e)) na_nil))) (ne_op on_mul (ne_lst (na_cons ne_str na_nil)) ne_int) (nomark _)) (nss_one (ns_ret ne_bl)) nss_nil)
      (nss_cons (ns_if (nt_w (nw_or (nt_cmp (on_ne (hu64 hr)) (ne_callG D__law_asked hgu (hr.mono (by decide)) (by rfl) (by rfl) (takes_of rfl rfl rfl rfl) (na_cons ne_int (na_cons (ne_var (pv 4)) (na_cons (ne_var (pv 5)) na_nil))) (fun _ _ _ _ e => len_cons (fun _ _ _ _ e => len_cons (fun _ _ _ _ e => len_cons (fun _ _ _ _ e => len_nil e) e) e) e)) ne_str (nomark _)) (nw_or1 (nt_cmp (on_ne (hu64 hr)) (ne_callG D__law_asked hgu (hr.mono (by decide)) (by rfl) (by rfl) (takes_of rfl rfl rfl rfl) (na_cons ne_int (na_cons (ne_var (pv 5)) (na_cons (ne_var (pv 5)) na_nil))) (fun _ _ _ _ e => len_cons (fun _ _ _ _ e => len_cons (fun _ _ _ _ e => len_cons (fun _ _ _ _ e => len_nil e) e) e) e)) ne_str (nomark _))))) (nss_one (ns_ret ne_bl)) nss_nil)
      (nss_cons (ns_set (i := 6) sc_law_are_values.nd rfl (Or.inl rfl) (ne_lstN (na_cons (ne_var (pv 4)) (na_cons (ne_call D__law_one_of (hr.mono (by decide)) (by rfl) (by rfl) (takes_of rfl rfl rfl rfl) (na_cons (ne_var (pv 0)) (na_cons (ne_lst (na_cons (ne_var (pv 4)) (na_cons (ne_var (pv 5)) na_nil))) na_nil)) (fun _ _ _ _ e => len_cons (fun _ _ _ _ e => len_cons (fun _ _ _ _ e => len_nil e) e) e)) (na_cons (ne_var (pv 5)) na_nil)))))
      (nss_cons (ns_if (nt_w (nw_or (nt_cmp (on_ne (hu64 hr)) (ne_call D__law_lines_asked (hr.mono (by decide)) (by rfl) (by rfl) (takes_of rfl rfl rfl rfl) (na_cons (ne_lst na_nil) na_nil) (fun _ _ _ _ e => len_cons (fun _ _ _ _ e => len_nil e) e)) ne_str (nomark _)) (nw_or1 (nt_cmp (on_ne (hu64 hr)) (ne_call D__law_lines_asked (hr.mono (by decide)) (by rfl) (by rfl) (takes_of rfl rfl rfl rfl) (na_cons (ne_var (pv 6)) na_nil) (fun _ _ _ _ e => len_cons (fun _ _ _ _ e => len_nil e) e)) ne_str (nomark _))))) (nss_one (ns_ret ne_bl)) nss_nil)
      (nss_cons (ns_store (hu1 hr) (ne_var (pv 6)) (ne_call D__law_draw (hr.mono (by decide)) (by rfl) (by rfl) (takes_of rfl rfl rfl rfl) (na_cons (ne_var (pv 0)) (na_cons ne_int na_nil)) (fun _ _ _ _ e => len_cons (fun _ _ _ _ e => len_cons (fun _ _ _ _ e => len_nil e) e) e)) (ne_var (pv 2)))
      (nss_one (ns_ret (ne_and (ne_cmp (on_eq (hu64 hr)) (ne_call D__law_lines_asked (hr.mono (by decide)) (by rfl) (by rfl) (takes_of rfl rfl rfl rfl) (na_cons (ne_var (pv 6)) na_nil) (fun _ _ _ _ e => len_cons (fun _ _ _ _ e => len_nil e) e)) ne_str (nomark _)) (ne_one (ne_cmp (on_eq (hu64 hr)) (ne_call D__law_lines_asked (hr.mono (by decide)) (by rfl) (by rfl) (takes_of rfl rfl rfl rfl) (na_cons (ne_lst (na_cons (ne_var (pv 2)) na_nil)) na_nil) (fun _ _ _ _ e => len_cons (fun _ _ _ _ e => len_nil e) e)) ne_str (nomark _))))))))))))))))
theorem sc_law : FnScope N_law P_law (defScope s_law) := ⟨rfl, rfl, rfl, by decide +kernel, rfl, by decide +kernel, by decide +kernel⟩
theorem ok_law {f : Addr} {fd : FuncData} (F : Fun K "law" "law" s_law f fd) (T : Txt K mg) (D__law_bag : Def P w K mg base 1 "_law_bag" P_law_bag m_law_bag) (D__law_are_numbers : DefG P w K mg base 10 "_law_are_numbers" P_law_are_numbers m_law_are_numbers) (D__law_are_values : DefG P w K mg base 10 "_law_are_values" P_law_are_values m_law_are_values) (hp : ∀ ns : List Int, ns.length ≤ 63 → ∃ h, m_law [.lro (ns.map W.int)] [] = .ok (.bl true) h) : FnOkG P w K mg base CX0 11 f fd P_law (spLaw K) :=
  by
  rw [m_law_eq] at hp
  exact law_okG F sc_law rfl (fun cdv A outer s H E hgu hr =>
    (nss_cons (ns_for PassesOwn.never (by rfl) (ni_range1 (by rfl) T.b_range (na_cons (ne_callB (cn_max (by rfl)) (by rfl) T.b_max (by decide +kernel) (na_cons ne_int (na_cons (ne_callB (cn_min (by rfl)) (by rfl) T.b_min (by decide +kernel) (na_cons ne_int (na_cons (ne_callB cn_lenD (by rfl) T.b_len (by decide +kernel) (na_cons (ne_var (pv 0)) na_nil)) na_nil))) na_nil))) na_nil)) (ng_name (i := 1) sc_law.nd rfl (Or.inl rfl)) (nss_cons (ns_set (i := 2) sc_law.nd rfl (Or.inl rfl) (ne_call D__law_bag (hr.mono (by decide)) (by rfl) (by rfl) takes0 (na_cons (ne_var (pv 0)) (na_cons (ne_var (pv 1)) na_nil)) (fun _ _ _ _ e => len_cons (fun _ _ _ _ e => len_cons (fun _ _ _ _ e => len_nil e) e) e)))
      (nss_one (ns_if (nt_w (nw_or (nt_not (nt_tru (ne_callG D__law_are_numbers hgu (hr.mono (by decide)) (by rfl) (by rfl) takes0 (na_cons (ne_var (pv 2)) na_nil) (fun _ _ _ _ e => len_cons (fun _ _ _ _ e => len_nil e) e)))) (nw_or1 (nt_not (nt_tru (ne_callG D__law_are_values hgu (hr.mono (by decide)) (by rfl) (by rfl) takes0 (na_cons (ne_var (pv 2)) na_nil) (fun _ _ _ _ e => len_cons (fun _ _ _ _ e => len_nil e) e))))))) (nss_one (ns_ret ne_bl)) nss_nil))))
      (nss_one (ns_ret ne_bl)))) hp
end
end N
set_option maxHeartbeats 1000000
namespace N
open PySem L2
mutual
def gd : W → Bool
  | .int _ => true
  | .non => true
  | .str s => PyData.strOk s
  | .tup ws => gds ws
  | .lst ws => gds ws
  | _ => false
def gds : List W → Bool
  | [] => true
  | w :: ws => gd w && gds ws
end
def nW (i : Nat) : W := .int (i : Int)
def stx (t : List Nat) : W := .str (tx t)
end N
set_option maxHeartbeats 1000000
set_option maxHeartbeats 4000000
namespace N
open PySem L2
theorem nxI {r : SR} {P : Slo → List O → Prop} (h : Nx r P) : ∃ σ2 h2, (r = .nx σ2 h2 ∨ r = .ct σ2 h2) ∧ P σ2 h2 := by
  obtain ⟨σ, h, e, p⟩ := h; exact ⟨σ, h, .inl e, p⟩
def Bag (b n : Nat) (h : List O) : Prop := ∃ x y z : Int, h[b]? = some (.lst [.int x, .int y, .int z]) ∧ 0 ≤ z ∧ z ≤ n
def Fx (b : Nat) (h h' : List O) : Prop := h.length ≤ h'.length ∧ ∀ q, q < h.length → b ≠ q → h'[q]? = h[q]?
theorem Fx.refl (b : Nat) (h : List O) : Fx b h h := ⟨Nat.le_refl _, fun _ _ _ => rfl⟩
theorem Fx.trans {b : Nat} {h h1 h2 : List O} (a : Fx b h h1) (c : Fx b h1 h2) : Fx b h h2 := ⟨Nat.le_trans a.1 c.1, fun q hq hb => (c.2 q (Nat.lt_of_lt_of_le hq a.1) hb).trans (a.2 q hq hb)⟩
theorem Fx.set (b : Nat) (h : List O) (o : O) : Fx b h (h.set b o) := ⟨by simp, fun q _ hq => List.getElem?_set_ne hq⟩
theorem atI3_0 (a b c : W) : atI [a, b, c] 0 = some a := rfl
theorem atI3_1 (a b c : W) : atI [a, b, c] 1 = some b := rfl
theorem atI3_2 (a b c : W) : atI [a, b, c] 2 = some c := rfl
theorem ixN3_0 : ixN 3 0 = some 0 := rfl
theorem ixN3_2 : ixN 3 2 = some 2 := rfl
theorem draw (b n : Nat) (h : List O) (t : Int) (hb : Bag b n h) (hn : n ≤ 1000000000) (h1 : 1 ≤ t) (h2 : t ≤ 1000000) : ∃ (d : Nat) (h' : List O), m_law_draw [.ref b, .int t] h = .ok (.int d) h' ∧ (d : Int) < t ∧ Bag b (n + 1) h' ∧ Fx b h h' := by
  obtain ⟨x, y, z, hz, h3, h4⟩ := hb
  have hl : b < h.length := (List.getElem?_eq_some_iff.mp hz).1
  have ht : t.natAbs.log2 < 9000 := log_small 1000000 (by omega)
  have ht0 : 0 < t := by omega
  rw [m_law_draw_eq]; unfold b_law_draw
  by_cases hx : 0 < x
  · obtain ⟨d, hd⟩ := Int.eq_ofNat_of_zero_le (Int.emod_nonneg x (Int.ne_of_gt ht0))
    have lt := Int.emod_lt_of_pos x ht0
    refine ⟨d, h.set b (.lst [.int (x / t), .int y, .int z]), ?_, by omega, ⟨x / t, y, z, by simp [hl], h3, by omega⟩, Fx.set _ _ _⟩
    simp only [v_Ok, v_Nx, v_bind, v_bind0, v_sbind, v_nb, v_bindx, v_sbindx, v_ofO, v_ofH, v_ofR, v_ofE, v_omap, v_obind, v_iteT, v_iteF, v_mAnd, v_mOr, v_mAndW, v_mOrW, v_var0, v_varS, v_c, v_op, v_un, v_cb, v_call, v_bm, v_pM, v_pF, v_nil, v_cons, v_star, v_b, v_asB, v_tru, v_notT, v_not, v_andT, v_orT, v_and, v_or, v_if, v_chain, v_tup, v_lst, v_lstN, v_okLen, v_sl, v_noP, v_asI, v_part, v_it, v_rng, v_zip, v_lc, v_lcN, v_wipe0, v_wipeS, v_set0, v_setS, v_lsetr, v_lsetS, v_seq, v_seqN, v_seqR, v_seqB, v_seqC, v_seqX, v_next, v_brk, v_cnt, v_drop, v_ret, v_retN, v_ifS, v_set, v_two, v_par, v_asg, v_store, v_aug, v_itD, v_items, d_T, d_To, d_L, d_Lo, d_S, d_D, d_R, d_RO, d_ROd, d_I, d_IR, d_IRO, v_one, v_enum, v_zipT, v_augS, v_disp, v_prs0, v_prsS, v_fmt, v_for, v_def, v_dnx, v_drt, v_dexc, v_map0, v_mapS, v_gN, v_gT, v_gTo, v_gNs0, v_gNsS, v_yes, v_insOf, v_insO, v_isIns, v_isO, v_isOL, v_isT, v_isLs, v_isI, v_isS, v_slot0, v_slotS, v_slot, v_meth, v_make, v_beqN, v_refOf, v_put, v_putW00, v_putW0S, v_putWS0, v_putWSS, v_isi, v_lenSet, v_lenC, v_strC, v_dctN, v_lstO, v_ixR, v_ixO, v_seqRf, v_seqT, v_seqTo, v_seqLs, v_seqLo, v_lenR, v_isTR, v_isTO, v_isTOd, v_isTL, v_isTS, v_itR, v_itL, v_itT, v_itTo, v_itS, v_truR, v_truT, v_truL, v_truB, v_truI, v_setR, v_setO, v_app, v_appO, v_ext, v_extO, v_addR, v_addO, v_addL, v_addT, v_top, h_set, h_push, h_lt, h_lenS, h_lenA, w_add, w_addBB, w_sub, w_iadd, w_isub, w_ltT, w_le, w_gt, w_ge, w_neg, w_intI, w_intB, w_abs, w_max, w_min, w_lenL, w_lenT, w_lenLo, w_lenTo, w_reprB, w_lenStr, w_strI, w_strS, v_loopN, v_loopC, v_loopB, v_loopR, List.length_cons, List.length_nil, Nat.reduceAdd, Nat.reduceSub, Nat.reduceLeDiff, Nat.reduceMul, Int.reduceLT, Int.reduceLE, Int.reduceAdd, Int.reduceSub, Int.reduceMul, Int.reduceEq, Int.reduceNeg, Nat.reduceEqDiff, reduceIte, List.replicate_succ, List.replicate_zero, List.cons_append, List.nil_append, Bool.not_true, Bool.not_false, Bool.and_true, Bool.true_and, Bool.and_false, Bool.false_and, Bool.or_true, Bool.true_or, Bool.or_false, Bool.false_or, decide_true, decide_false, Option.isSome_some, beq_self_eq_true, o_mod, o_div, o_mul, o_eqI, o_neI, o_eqB, o_neB, o_isiI, o_isiB, o_isiS, ite_iteE, hz, hx, ht, ht0, atI3_0, ixN3_0, hd]
  · have hu : Nat.log2 1048609 + (z + 1).natAbs.log2 < 1000000 := by
      have := log_small (i := z + 1) (k := 900) 1000000001 (by omega)
      have : Nat.log2 1048609 = 20 := by decide
      omega
    obtain ⟨one, hone⟩ : ∃ o, o = (y + 1048609 * (z + 1)) % 2305843009213693951 := ⟨_, rfl⟩
    obtain ⟨q, hq⟩ : ∃ o, o = one * one % 2305843009213693723 := ⟨_, rfl⟩
    have o1 : one.natAbs.log2 < 100 := log_small 2305843009213693951 (by omega)
    have q1 : q.natAbs.log2 < 100 := log_small 2305843009213693723 (by omega)
    have u1 : one.natAbs.log2 + one.natAbs.log2 < 1000000 := by omega
    have u2 : q.natAbs.log2 + one.natAbs.log2 < 1000000 := by omega
    have u3 : Nat.log2 8117 + (z + 1).natAbs.log2 < 1000000 := by
      have := log_small (i := z + 1) (k := 900) 1000000001 (by omega)
      have : Nat.log2 8117 = 12 := by decide
      omega
    have m1 : ∀ h, nMul h (.int 1048609) (.int (z + 1)) = some (.int (1048609 * (z + 1))) := fun h => o_mul hu
    have m2 : ∀ h, nMul h (.int one) (.int one) = some (.int (one * one)) := fun h => o_mul u1
    have m3 : ∀ h, nMul h (.int q) (.int one) = some (.int (q * one)) := fun h => o_mul u2
    have m4 : ∀ h, nMul h (.int 8117) (.int (z + 1)) = some (.int (8117 * (z + 1))) := fun h => o_mul u3
    have m5 : ∀ h i, nDiv h (.int i) (.int 16384) = some (.int (i / 16384)) := fun h i => o_div (by decide) (by decide)
    obtain ⟨d, hd⟩ := Int.eq_ofNat_of_zero_le (Int.emod_nonneg ((q * one + 8117 * (z + 1)) % 2305843009213693921 / 16384) (Int.ne_of_gt ht0))
    have lt := Int.emod_lt_of_pos ((q * one + 8117 * (z + 1)) % 2305843009213693921 / 16384) ht0
    refine ⟨d, h.set b (.lst [.int x, .int y, .int (z + 1)]), ?_, by omega, ⟨x, y, z + 1, by simp [hl], by omega, by omega⟩, Fx.set _ _ _⟩
    simp only [v_Ok, v_Nx, v_bind, v_bind0, v_sbind, v_nb, v_bindx, v_sbindx, v_ofO, v_ofH, v_ofR, v_ofE, v_omap, v_obind, v_iteT, v_iteF, v_mAnd, v_mOr, v_mAndW, v_mOrW, v_var0, v_varS, v_c, v_op, v_un, v_cb, v_call, v_bm, v_pM, v_pF, v_nil, v_cons, v_star, v_b, v_asB, v_tru, v_notT, v_not, v_andT, v_orT, v_and, v_or, v_if, v_chain, v_tup, v_lst, v_lstN, v_okLen, v_sl, v_noP, v_asI, v_part, v_it, v_rng, v_zip, v_lc, v_lcN, v_wipe0, v_wipeS, v_set0, v_setS, v_lsetr, v_lsetS, v_seq, v_seqN, v_seqR, v_seqB, v_seqC, v_seqX, v_next, v_brk, v_cnt, v_drop, v_ret, v_retN, v_ifS, v_set, v_two, v_par, v_asg, v_store, v_aug, v_itD, v_items, d_T, d_To, d_L, d_Lo, d_S, d_D, d_R, d_RO, d_ROd, d_I, d_IR, d_IRO, v_one, v_enum, v_zipT, v_augS, v_disp, v_prs0, v_prsS, v_fmt, v_for, v_def, v_dnx, v_drt, v_dexc, v_map0, v_mapS, v_gN, v_gT, v_gTo, v_gNs0, v_gNsS, v_yes, v_insOf, v_insO, v_isIns, v_isO, v_isOL, v_isT, v_isLs, v_isI, v_isS, v_slot0, v_slotS, v_slot, v_meth, v_make, v_beqN, v_refOf, v_put, v_putW00, v_putW0S, v_putWS0, v_putWSS, v_isi, v_lenSet, v_lenC, v_strC, v_dctN, v_lstO, v_ixR, v_ixO, v_seqRf, v_seqT, v_seqTo, v_seqLs, v_seqLo, v_lenR, v_isTR, v_isTO, v_isTOd, v_isTL, v_isTS, v_itR, v_itL, v_itT, v_itTo, v_itS, v_truR, v_truT, v_truL, v_truB, v_truI, v_setR, v_setO, v_app, v_appO, v_ext, v_extO, v_addR, v_addO, v_addL, v_addT, v_top, h_set, h_push, h_lt, h_lenS, h_lenA, w_add, w_addBB, w_sub, w_iadd, w_isub, w_ltT, w_le, w_gt, w_ge, w_neg, w_intI, w_intB, w_abs, w_max, w_min, w_lenL, w_lenT, w_lenLo, w_lenTo, w_reprB, w_lenStr, w_strI, w_strS, v_loopN, v_loopC, v_loopB, v_loopR, List.length_cons, List.length_nil, Nat.reduceAdd, Nat.reduceSub, Nat.reduceLeDiff, Nat.reduceMul, Int.reduceLT, Int.reduceLE, Int.reduceAdd, Int.reduceSub, Int.reduceMul, Int.reduceEq, Int.reduceNeg, Nat.reduceEqDiff, reduceIte, List.replicate_succ, List.replicate_zero, List.cons_append, List.nil_append, Bool.not_true, Bool.not_false, Bool.and_true, Bool.true_and, Bool.and_false, Bool.false_and, Bool.or_true, Bool.true_or, Bool.or_false, Bool.false_or, decide_true, decide_false, Option.isSome_some, beq_self_eq_true, o_mod, o_div, o_mul, o_eqI, o_neI, o_eqB, o_neB, o_isiI, o_isiB, o_isiS, ite_iteE, hz, hx, ht, ht0, m1, m2, m3, m4, m5, ← hone, ← hq, atI3_0, atI3_1, atI3_2, ixN3_2, hd]
theorem Bag.lt {b n : Nat} {h : List O} (hb : Bag b n h) : b < h.length := by
  obtain ⟨_, _, _, e, _⟩ := hb
  exact (List.getElem?_eq_some_iff.mp e).1
theorem Bag.mono {b n m : Nat} {h : List O} (hb : Bag b n h) (hm : n ≤ m) : Bag b m h := by
  obtain ⟨x, y, z, h1, h2, h3⟩ := hb
  exact ⟨x, y, z, h1, h2, by omega⟩
theorem Bag.app {b n : Nat} {h : List O} (hb : Bag b n h) (o : O) : Bag b n (h ++ [o]) := by
  obtain ⟨x, y, z, h1, h2, h3⟩ := hb
  exact ⟨x, y, z, by rw [h_lt (List.getElem?_eq_some_iff.mp h1).1]; exact h1, h2, h3⟩
theorem Bag.put {b n p : Nat} {h : List O} (hb : Bag b n h) (hp : b ≠ p) (o : O) : Bag b n (h.set p o) := by
  obtain ⟨x, y, z, h1, h2, h3⟩ := hb
  exact ⟨x, y, z, by rw [h_ne (Ne.symm hp)]; exact h1, h2, h3⟩
theorem Fx.app {b : Nat} {h h1 : List O} (a : Fx b h h1) (o : O) : Fx b h (h1 ++ [o]) := ⟨by have := a.1; simp; omega, fun q hq hb => by
  rw [h_lt (Nat.lt_of_lt_of_le hq a.1)]; exact a.2 q hq hb⟩
theorem Fx.put {b p : Nat} {h h1 : List O} (a : Fx b h h1) (hp : h.length ≤ p) (o : O) : Fx b h (h1.set p o) := ⟨by have := a.1; simp; omega, fun q hq hb => by
  rw [h_ne (by omega)]; exact a.2 q hq hb⟩
theorem Fx.get {b q : Nat} {h h1 : List O} (a : Fx b h h1) {o : O} (e : h[q]? = some o) (hb : b ≠ q) : h1[q]? = some o := (a.2 q (List.getElem?_eq_some_iff.mp e).1 hb).trans e
theorem ix_at (ws : List W) (d : Nat) (hd : d < ws.length) : atI ws (d : Int) = some ws[d] := by unfold atI ixN; simp [hd]
theorem one_of (b n : Nat) (h : List O) (w : W) (items : List W) (hw : w = .lst items ∨ w = .tup items) (hb : Bag b n h) (hn : n ≤ 1000000000) (h1 : 1 ≤ items.length) (h2 : items.length ≤ 1000) :
    ∃ x h', x ∈ items ∧ m_law_one_of [.ref b, w] h = .ok x h' ∧ Bag b (n + 1) h' ∧ Fx b h h' := by
  obtain ⟨d, h', e, hd, hb', hf⟩ := draw b n h items.length hb hn (by omega) (by omega)
  have hd : d < items.length := by omega
  have l : nLenD h [w] = some (.int items.length) := by rcases hw with rfl | rfl <;> rfl
  have ix : nIx h' w (.int (d : Int)) = some items[d] := by
    rcases hw with rfl | rfl
    · exact ix_at items d hd
    · exact ix_at items d hd
  refine ⟨items[d], h', List.getElem_mem hd, ?_, hb', hf⟩
  rw [m_law_one_of_eq]; unfold b_law_one_of
  simp only [v_Ok, v_Nx, v_bind, v_bind0, v_sbind, v_nb, v_bindx, v_sbindx, v_ofO, v_ofH, v_ofR, v_ofE, v_omap, v_obind, v_iteT, v_iteF, v_mAnd, v_mOr, v_mAndW, v_mOrW, v_var0, v_varS, v_c, v_op, v_un, v_cb, v_call, v_bm, v_pM, v_pF, v_nil, v_cons, v_star, v_b, v_asB, v_tru, v_notT, v_not, v_andT, v_orT, v_and, v_or, v_if, v_chain, v_tup, v_lst, v_lstN, v_okLen, v_sl, v_noP, v_asI, v_part, v_it, v_rng, v_zip, v_lc, v_lcN, v_wipe0, v_wipeS, v_set0, v_setS, v_lsetr, v_lsetS, v_seq, v_seqN, v_seqR, v_seqB, v_seqC, v_seqX, v_next, v_brk, v_cnt, v_drop, v_ret, v_retN, v_ifS, v_set, v_two, v_par, v_asg, v_store, v_aug, v_itD, v_items, d_T, d_To, d_L, d_Lo, d_S, d_D, d_R, d_RO, d_ROd, d_I, d_IR, d_IRO, v_one, v_enum, v_zipT, v_augS, v_disp, v_prs0, v_prsS, v_fmt, v_for, v_def, v_dnx, v_drt, v_dexc, v_map0, v_mapS, v_gN, v_gT, v_gTo, v_gNs0, v_gNsS, v_yes, v_insOf, v_insO, v_isIns, v_isO, v_isOL, v_isT, v_isLs, v_isI, v_isS, v_slot0, v_slotS, v_slot, v_meth, v_make, v_beqN, v_refOf, v_put, v_putW00, v_putW0S, v_putWS0, v_putWSS, v_isi, v_lenSet, v_lenC, v_strC, v_dctN, v_lstO, v_ixR, v_ixO, v_seqRf, v_seqT, v_seqTo, v_seqLs, v_seqLo, v_lenR, v_isTR, v_isTO, v_isTOd, v_isTL, v_isTS, v_itR, v_itL, v_itT, v_itTo, v_itS, v_truR, v_truT, v_truL, v_truB, v_truI, v_setR, v_setO, v_app, v_appO, v_ext, v_extO, v_addR, v_addO, v_addL, v_addT, v_top, h_set, h_push, h_lt, h_lenS, h_lenA, w_add, w_addBB, w_sub, w_iadd, w_isub, w_ltT, w_le, w_gt, w_ge, w_neg, w_intI, w_intB, w_abs, w_max, w_min, w_lenL, w_lenT, w_lenLo, w_lenTo, w_reprB, w_lenStr, w_strI, w_strS, v_loopN, v_loopC, v_loopB, v_loopR, List.length_cons, List.length_nil, Nat.reduceAdd, Nat.reduceSub, Nat.reduceLeDiff, Nat.reduceMul, Int.reduceLT, Int.reduceLE, Int.reduceAdd, Int.reduceSub, Int.reduceMul, Int.reduceEq, Int.reduceNeg, Nat.reduceEqDiff, reduceIte, List.replicate_succ, List.replicate_zero, List.cons_append, List.nil_append, Bool.not_true, Bool.not_false, Bool.and_true, Bool.true_and, Bool.and_false, Bool.false_and, Bool.or_true, Bool.true_or, Bool.or_false, Bool.false_or, decide_true, decide_false, Option.isSome_some, beq_self_eq_true, o_mod, o_div, o_mul, o_eqI, o_neI, o_eqB, o_neB, o_isiI, o_isiB, o_isiS, ite_iteE, l, e, ix]
end N
set_option maxHeartbeats 1000000
namespace N
abbrev Rws := List (Bool × List Nat)
def rLst (r : Rws) (a : Nat) : Bool := (r[a]?.map (·.1)).getD false
def rNxt (r : Rws) (a : Nat) : List Nat := (r[a]?.map (·.2)).getD []
def rStp (r : Rws) (a i : Nat) : Nat := ((rNxt r a)[i]?).getD 0
def rRun (r : Rws) : Nat → List Nat → Nat
  | a, [] => a
  | a, i :: w => rRun r (rStp r a i) w
def Ner (r : Rws) (m a b : Nat) : Prop := ∀ w : List Nat, (∀ i, i ∈ w → i < m) → rLst r (rRun r a w) = rLst r (rRun r b w)
theorem Ner.refl {r : Rws} {m a : Nat} : Ner r m a a := fun _ _ => rfl
theorem Ner.symm {r : Rws} {m a b : Nat} (h : Ner r m a b) : Ner r m b a := fun w hw => (h w hw).symm
theorem Ner.trans {r : Rws} {m a b c : Nat} (h : Ner r m a b) (h2 : Ner r m b c) : Ner r m a c := fun w hw => (h w hw).trans (h2 w hw)
theorem Ner.lst {r : Rws} {m a b : Nat} (h : Ner r m a b) : rLst r a = rLst r b := h [] (fun _ z => nomatch z)
def grw (E : Nat → Nat → Bool) (F : List Nat) (f : Nat) : List Nat := if F.any (E f) = true then F else F ++ [f]
def grws (E : Nat → Nat → Bool) (F l : List Nat) : List Nat := l.foldl (grw E) F
inductive Bfs (E : Nat → Nat → Bool) (r : Rws) : Nat → List Nat → List Nat → Prop
  | stop {i : Nat} {F : List Nat} : F[i]? = none → Bfs E r i F F
  | step {i s : Nat} {F F' : List Nat} : F[i]? = some s → Bfs E r (i + 1) (grws E F (rNxt r s)) F' → Bfs E r i F F'
theorem grws_pre {E : Nat → Nat → Bool} : ∀ {l F : List Nat}, ∃ t, grws E F l = F ++ t
  | [], F => ⟨[], by simp [grws]⟩
  | f :: l, F => by
    obtain ⟨t, e⟩ := grws_pre (E := E) (l := l) (F := grw E F f)
    have : ∃ u, grw E F f = F ++ u := by
      unfold grw
      split
      · exact ⟨[], by simp⟩
      · exact ⟨[f], rfl⟩
    obtain ⟨u, eu⟩ := this
    refine ⟨u ++ t, ?_⟩
    show grws E (grw E F f) l = _
    rw [e, eu, List.append_assoc]
theorem Bfs.pre {E : Nat → Nat → Bool} {r : Rws} {i : Nat} {F F' : List Nat} (b : Bfs E r i F F') : ∃ t, F' = F ++ t := by
  induction b with
  | stop e => exact ⟨[], by simp⟩
  | step e _ ih =>
    obtain ⟨t, et⟩ := ih
    obtain ⟨u, eu⟩ := grws_pre (E := E) (l := rNxt r _) (F := _)
    exact ⟨u ++ t, by rw [et, eu, List.append_assoc]⟩
end N
set_option maxHeartbeats 1000000
namespace N
open PySem L2
theorem atI_nat {ws : List W} {a : Nat} {w : W} (e : ws[a]? = some w) : atI ws (a : Int) = some w := by
  have hl : a < ws.length := (List.getElem?_eq_some_iff.mp e).1
  rw [List.getElem?_eq_getElem hl] at e
  cases e
  unfold atI ixN
  simp [hl]
theorem ix_tup {h : List O} {ws : List W} {a : Nat} {w : W} (e : ws[a]? = some w) : nIx h (.tup ws) (nW a) = some w := atI_nat e
end N
set_option maxHeartbeats 1000000
namespace N
open PySem L2
section
variable {σ : Slo} {h h1 h2 : List O} {x y z w : W} {ws us : List W} {c fld : Str} {f g : MF} {m ma mb mo : ME} {na mk : MA} {t : MT} {i j l : Nat}
theorem v_raise : mRaise c σ h = .exc ⟨c, []⟩ σ h := Eq.trans rfl rfl
theorem v_raiseX : mRaiseX c fld m σ h = (m σ h).sD σ fun w h1 => .exc ⟨c, [(fld, w)]⟩ σ h1 := Eq.trans rfl rfl
def three : List W → Option (W × W × W)
  | [u, v, w] => some (u, v, w)
  | _ => none
theorem v_three : three [x, y, z] = some (x, y, z) := Eq.trans rfl rfl
theorem v_par3 : mPar3 i j l na σ h = (na σ h).sD σ fun ws h1 => ofR (three ws) fun p => .nx (((σ.set i (some p.1)).set j (some p.2.1)).set l (some p.2.2)) h1 := by
  unfold mPar3; (try unfold ER.bD); (try unfold ER.sD); (try unfold ER.nD); congr; funext ws h1; rcases ws with _ | ⟨u, _ | ⟨v, _ | ⟨w, _ | ⟨_, _⟩⟩⟩⟩ <;> rfl
theorem v_fld : mFld c m σ h = (m σ h).bD fun w h1 => ofO h1 (exoF c w) := Eq.trans rfl rfl
end
section
variable {σ : Slo} {h h1 h2 : List O} {x : Ex} {c : Str} {f : MF} {w : W} {ma mb : ME} {mt : Str → Str → Option Bool} {b m : MS} {l : List HN} {i : Nat} {o : Option Nat}
/-- behind the body of a try -/
noncomputable def tryK (mt : Str → Str → Option Bool) (l : List HN) : SR → SR
  | .exc x σ' h' => mHnd mt l x σ' h'
  | r => r
theorem v_try : mTry mt b l σ h = tryK mt l (b σ h) := by
  unfold mTry tryK
  cases b σ h <;> rfl
theorem v_tryN : tryK mt l (.nx σ h) = .nx σ h := Eq.trans rfl rfl
theorem v_tryX : tryK mt l (.exc x σ h) = mHnd mt l x σ h := Eq.trans rfl rfl
def exoS (fs : List (Str × W)) : Option W := if fs.isEmpty = true then none else some (.exo (fs.map (·.1)) (fs.map (·.2)))
theorem v_exoS {f : Str} {z : W} : exoS [(f, z)] = some (.exo [f] [z]) := Eq.trans rfl rfl
theorem v_hndN {c' : Str} {fs : List (Str × W)} (e : mt c' c = some false) : mHnd mt ((c, o, m) :: l) ⟨c', fs⟩ σ h = mHnd mt l ⟨c', fs⟩ σ h := by
  conv => lhs; unfold mHnd
  rw [show mt (Ex.mk c' fs).c c = some false from e]
  cases o <;> rfl
theorem v_hndY {c' : Str} {fs : List (Str × W)} (e : mt c' c = some true) : mHnd mt ((c, none, m) :: l) ⟨c', fs⟩ σ h = sufC h (m σ h) := by
  conv => lhs; unfold mHnd
  rw [show mt (Ex.mk c' fs).c c = some true from e]; rfl
theorem v_hndA {fs : List (Str × W)} (e : mt c c = some true) : mHnd mt ((c, some i, m) :: l) ⟨c, fs⟩ σ h = sufN h (m (σ.set i (exoS fs)) h) := by
  conv => lhs; unfold mHnd
  rw [show mt (Ex.mk c fs).c c = some true from e]
  simp only [Option.bind_some, takesH, if_true]
  rfl
theorem v_sufR : sufC h (.rt w h2) = sufN h (.rt w h2) := rfl
theorem v_suf (e : nx w = true) : sufN h (.rt w h) = .rt w h := sufN_yes ⟨rfl, e⟩
end
/-- what was there stays -/
def Kp (h h' : List O) : Prop := h.length ≤ h'.length ∧ ∀ q, q < h.length → h'[q]? = h[q]?
theorem Kp.refl (h : List O) : Kp h h := ⟨Nat.le_refl _, fun _ _ => rfl⟩
theorem Kp.trans {h h1 h2 : List O} (a : Kp h h1) (b : Kp h1 h2) : Kp h h2 := ⟨Nat.le_trans a.1 b.1, fun q hq => (b.2 q (Nat.lt_of_lt_of_le hq a.1)).trans (a.2 q hq)⟩
theorem Kp.push (h : List O) (o : O) : Kp h (h ++ [o]) := ⟨by simp, fun q hq => List.getElem?_append_left hq⟩
theorem Kp.set {h0 h : List O} (k : Kp h0 h) {n : Nat} (hn : h0.length ≤ n) (o : O) : Kp h0 (h.set n o) := ⟨by simpa using k.1, fun q hq => by rw [List.getElem?_set_ne (by omega)]; exact k.2 q hq⟩
theorem Kp.get {h h' : List O} (k : Kp h h') {n : Nat} {o : O} (e : h[n]? = some o) : h'[n]? = some o := (k.2 n (List.getElem?_eq_some_iff.mp e).1).trans e
end N
set_option maxHeartbeats 1000000
set_option maxHeartbeats 1000000
set_option maxHeartbeats 1000000
set_option maxHeartbeats 1000000
set_option maxHeartbeats 1000000
set_option maxHeartbeats 1000000
set_option maxHeartbeats 1000000
set_option maxHeartbeats 1000000
set_option maxHeartbeats 1000000
set_option maxHeartbeats 4000000
namespace N
open PySem L2
theorem rng_at {n i : Nat} {x : W} (e : (rngW 0 n)[i]? = some x) : i < n ∧ x = nW i := by
  unfold rngW at e
  rw [List.getElem?_map] at e
  cases h : (List.range n)[i]? with
  | none => rw [h] at e; cases e
  | some j =>
    rw [h] at e
    obtain ⟨h1, h2⟩ := List.getElem?_eq_some_iff.mp h
    simp at h1 h2
    subst h2
    cases e
    exact ⟨h1, by unfold nW; simp⟩
theorem rng1_n (n : Nat) (h : n ≤ 1000) : rng1 [.int (n : Int)] = some (rngW 0 n, fun _ => true) := rng1_ok n h
theorem text (b n : Nat) (h : List O) (c w : Nat) (hb : Bag b n h) (hn : n + w ≤ 1000000000) (hc : 1 ≤ c) (hc4 : c ≤ 4) (hw : w ≤ 1000) :
    Ok (m_law_text [.ref b, nW c, nW w] h) fun x h' => ∃ t, x = stx t ∧ t.length = w ∧ (∀ d ∈ t, d < c) ∧ Bag b (n + w) h' ∧ Fx b h h' := by
  have r := rng1_n w hw
  rw [m_law_text_eq]; unfold b_law_text
  unfold nW
  simp only [v_Ok, v_Nx, v_bind, v_bind0, v_sbind, v_nb, v_bindx, v_sbindx, v_ofO, v_ofH, v_ofR, v_ofE, v_omap, v_obind, v_iteT, v_iteF, v_mAnd, v_mOr, v_mAndW, v_mOrW, v_var0, v_varS, v_c, v_op, v_un, v_cb, v_call, v_bm, v_pM, v_pF, v_nil, v_cons, v_star, v_b, v_asB, v_tru, v_notT, v_not, v_andT, v_orT, v_and, v_or, v_if, v_chain, v_tup, v_lst, v_lstN, v_okLen, v_sl, v_noP, v_asI, v_part, v_it, v_rng, v_zip, v_lc, v_lcN, v_wipe0, v_wipeS, v_set0, v_setS, v_lsetr, v_lsetS, v_seq, v_seqN, v_seqR, v_seqB, v_seqC, v_seqX, v_next, v_brk, v_cnt, v_drop, v_ret, v_retN, v_ifS, v_set, v_two, v_par, v_asg, v_store, v_aug, v_itD, v_items, d_T, d_To, d_L, d_Lo, d_S, d_D, d_R, d_RO, d_ROd, d_I, d_IR, d_IRO, v_one, v_enum, v_zipT, v_augS, v_disp, v_prs0, v_prsS, v_fmt, v_for, v_def, v_dnx, v_drt, v_dexc, v_map0, v_mapS, v_gN, v_gT, v_gTo, v_gNs0, v_gNsS, v_yes, v_insOf, v_insO, v_isIns, v_isO, v_isOL, v_isT, v_isLs, v_isI, v_isS, v_slot0, v_slotS, v_slot, v_meth, v_make, v_beqN, v_refOf, v_put, v_putW00, v_putW0S, v_putWS0, v_putWSS, v_isi, v_lenSet, v_lenC, v_strC, v_dctN, v_lstO, v_ixR, v_ixO, v_seqRf, v_seqT, v_seqTo, v_seqLs, v_seqLo, v_lenR, v_isTR, v_isTO, v_isTOd, v_isTL, v_isTS, v_itR, v_itL, v_itT, v_itTo, v_itS, v_truR, v_truT, v_truL, v_truB, v_truI, v_setR, v_setO, v_app, v_appO, v_ext, v_extO, v_addR, v_addO, v_addL, v_addT, v_top, h_set, h_push, h_lt, h_lenS, h_lenA, w_add, w_addBB, w_sub, w_iadd, w_isub, w_ltT, w_le, w_gt, w_ge, w_neg, w_intI, w_intB, w_abs, w_max, w_min, w_lenL, w_lenT, w_lenLo, w_lenTo, w_reprB, w_lenStr, w_strI, w_strS, v_loopN, v_loopC, v_loopB, v_loopR, List.length_cons, List.length_nil, Nat.reduceAdd, Nat.reduceSub, Nat.reduceLeDiff, Nat.reduceMul, Int.reduceLT, Int.reduceLE, Int.reduceAdd, Int.reduceSub, Int.reduceMul, Int.reduceEq, Int.reduceNeg, Nat.reduceEqDiff, reduceIte, List.replicate_succ, List.replicate_zero, List.cons_append, List.nil_append, Bool.not_true, Bool.not_false, Bool.and_true, Bool.true_and, Bool.and_false, Bool.false_and, Bool.or_true, Bool.true_or, Bool.or_false, Bool.false_or, decide_true, decide_false, Option.isSome_some, beq_self_eq_true, o_mod, o_div, o_mul, o_eqI, o_neI, o_eqB, o_neB, o_isiI, o_isiB, o_isiS, ite_iteE, r]
  generalize hL : mLcL _ _ _ _ _ _ _ _ = L
  obtain ⟨acc, h', rfl, t, rfl, ht, hd, hb', hf⟩ := lcL_inv hL (I := fun k acc h' => ∃ t, acc = t.map sg ∧ t.length = k ∧ (∀ d ∈ t, d < c) ∧ Bag b (n + k) h' ∧ Fx b h h')
    ⟨[], rfl, rfl, by simp, hb, Fx.refl _ _⟩ (fun _ _ _ _ => rfl) (by rw [rng_len]; exact sz (m := 1000) (by simp; omega)) (by
      rintro k x acc h' hx ⟨t, rfl, ht, hd, hb', hf⟩
      obtain ⟨hk, rfl⟩ := rng_at hx
      obtain ⟨d, h2, e2, ld, b2, f2⟩ := draw b (n + k) h' c hb' (by omega) (by omega) (by omega)
      have ds := digit_str d h2 (by omega)
      refine ⟨_, rfl, true, h', rfl, ?_⟩
      rw [if_pos rfl]
      refine ⟨sg d, h2, ?_, t ++ [d], by simp, by simp [ht], fun x hx => ?_, b2, hf.trans f2⟩
      · simp only [v_Ok, v_Nx, v_bind, v_bind0, v_sbind, v_nb, v_bindx, v_sbindx, v_ofO, v_ofH, v_ofR, v_ofE, v_omap, v_obind, v_iteT, v_iteF, v_mAnd, v_mOr, v_mAndW, v_mOrW, v_var0, v_varS, v_c, v_op, v_un, v_cb, v_call, v_bm, v_pM, v_pF, v_nil, v_cons, v_star, v_b, v_asB, v_tru, v_notT, v_not, v_andT, v_orT, v_and, v_or, v_if, v_chain, v_tup, v_lst, v_lstN, v_okLen, v_sl, v_noP, v_asI, v_part, v_it, v_rng, v_zip, v_lc, v_lcN, v_wipe0, v_wipeS, v_set0, v_setS, v_lsetr, v_lsetS, v_seq, v_seqN, v_seqR, v_seqB, v_seqC, v_seqX, v_next, v_brk, v_cnt, v_drop, v_ret, v_retN, v_ifS, v_set, v_two, v_par, v_asg, v_store, v_aug, v_itD, v_items, d_T, d_To, d_L, d_Lo, d_S, d_D, d_R, d_RO, d_ROd, d_I, d_IR, d_IRO, v_one, v_enum, v_zipT, v_augS, v_disp, v_prs0, v_prsS, v_fmt, v_for, v_def, v_dnx, v_drt, v_dexc, v_map0, v_mapS, v_gN, v_gT, v_gTo, v_gNs0, v_gNsS, v_yes, v_insOf, v_insO, v_isIns, v_isO, v_isOL, v_isT, v_isLs, v_isI, v_isS, v_slot0, v_slotS, v_slot, v_meth, v_make, v_beqN, v_refOf, v_put, v_putW00, v_putW0S, v_putWS0, v_putWSS, v_isi, v_lenSet, v_lenC, v_strC, v_dctN, v_lstO, v_ixR, v_ixO, v_seqRf, v_seqT, v_seqTo, v_seqLs, v_seqLo, v_lenR, v_isTR, v_isTO, v_isTOd, v_isTL, v_isTS, v_itR, v_itL, v_itT, v_itTo, v_itS, v_truR, v_truT, v_truL, v_truB, v_truI, v_setR, v_setO, v_app, v_appO, v_ext, v_extO, v_addR, v_addO, v_addL, v_addT, v_top, h_set, h_push, h_lt, h_lenS, h_lenA, w_add, w_addBB, w_sub, w_iadd, w_isub, w_ltT, w_le, w_gt, w_ge, w_neg, w_intI, w_intB, w_abs, w_max, w_min, w_lenL, w_lenT, w_lenLo, w_lenTo, w_reprB, w_lenStr, w_strI, w_strS, v_loopN, v_loopC, v_loopB, v_loopR, List.length_cons, List.length_nil, Nat.reduceAdd, Nat.reduceSub, Nat.reduceLeDiff, Nat.reduceMul, Int.reduceLT, Int.reduceLE, Int.reduceAdd, Int.reduceSub, Int.reduceMul, Int.reduceEq, Int.reduceNeg, Nat.reduceEqDiff, reduceIte, List.replicate_succ, List.replicate_zero, List.cons_append, List.nil_append, Bool.not_true, Bool.not_false, Bool.and_true, Bool.true_and, Bool.and_false, Bool.false_and, Bool.or_true, Bool.true_or, Bool.or_false, Bool.false_or, decide_true, decide_false, Option.isSome_some, beq_self_eq_true, o_mod, o_div, o_mul, o_eqI, o_neI, o_eqB, o_neB, o_isiI, o_isiB, o_isiS, ite_iteE, e2, ds]
      · rcases List.mem_append.mp hx with hx | hx
        · exact hd x hx
        · simp at hx; omega)
  rw [rng_len] at ht hb'
  have j := join_ok t h' (by omega)
  simp only [v_Ok, v_Nx, v_bind, v_bind0, v_sbind, v_nb, v_bindx, v_sbindx, v_ofO, v_ofH, v_ofR, v_ofE, v_omap, v_obind, v_iteT, v_iteF, v_mAnd, v_mOr, v_mAndW, v_mOrW, v_var0, v_varS, v_c, v_op, v_un, v_cb, v_call, v_bm, v_pM, v_pF, v_nil, v_cons, v_star, v_b, v_asB, v_tru, v_notT, v_not, v_andT, v_orT, v_and, v_or, v_if, v_chain, v_tup, v_lst, v_lstN, v_okLen, v_sl, v_noP, v_asI, v_part, v_it, v_rng, v_zip, v_lc, v_lcN, v_wipe0, v_wipeS, v_set0, v_setS, v_lsetr, v_lsetS, v_seq, v_seqN, v_seqR, v_seqB, v_seqC, v_seqX, v_next, v_brk, v_cnt, v_drop, v_ret, v_retN, v_ifS, v_set, v_two, v_par, v_asg, v_store, v_aug, v_itD, v_items, d_T, d_To, d_L, d_Lo, d_S, d_D, d_R, d_RO, d_ROd, d_I, d_IR, d_IRO, v_one, v_enum, v_zipT, v_augS, v_disp, v_prs0, v_prsS, v_fmt, v_for, v_def, v_dnx, v_drt, v_dexc, v_map0, v_mapS, v_gN, v_gT, v_gTo, v_gNs0, v_gNsS, v_yes, v_insOf, v_insO, v_isIns, v_isO, v_isOL, v_isT, v_isLs, v_isI, v_isS, v_slot0, v_slotS, v_slot, v_meth, v_make, v_beqN, v_refOf, v_put, v_putW00, v_putW0S, v_putWS0, v_putWSS, v_isi, v_lenSet, v_lenC, v_strC, v_dctN, v_lstO, v_ixR, v_ixO, v_seqRf, v_seqT, v_seqTo, v_seqLs, v_seqLo, v_lenR, v_isTR, v_isTO, v_isTOd, v_isTL, v_isTS, v_itR, v_itL, v_itT, v_itTo, v_itS, v_truR, v_truT, v_truL, v_truB, v_truI, v_setR, v_setO, v_app, v_appO, v_ext, v_extO, v_addR, v_addO, v_addL, v_addT, v_top, h_set, h_push, h_lt, h_lenS, h_lenA, w_add, w_addBB, w_sub, w_iadd, w_isub, w_ltT, w_le, w_gt, w_ge, w_neg, w_intI, w_intB, w_abs, w_max, w_min, w_lenL, w_lenT, w_lenLo, w_lenTo, w_reprB, w_lenStr, w_strI, w_strS, v_loopN, v_loopC, v_loopB, v_loopR, List.length_cons, List.length_nil, Nat.reduceAdd, Nat.reduceSub, Nat.reduceLeDiff, Nat.reduceMul, Int.reduceLT, Int.reduceLE, Int.reduceAdd, Int.reduceSub, Int.reduceMul, Int.reduceEq, Int.reduceNeg, Nat.reduceEqDiff, reduceIte, List.replicate_succ, List.replicate_zero, List.cons_append, List.nil_append, Bool.not_true, Bool.not_false, Bool.and_true, Bool.true_and, Bool.and_false, Bool.false_and, Bool.or_true, Bool.true_or, Bool.or_false, Bool.false_or, decide_true, decide_false, Option.isSome_some, beq_self_eq_true, o_mod, o_div, o_mul, o_eqI, o_neI, o_eqB, o_neB, o_isiI, o_isiB, o_isiS, ite_iteE, j]
  exact ⟨t, rfl, ht, hd, hb', hf⟩
theorem all_bl (h : List O) (bs : List Bool) : nAll h [.lst (bs.map W.bl)] = some (.bl (bs.all id)) := by
  have : blsW (bs.map W.bl) = some bs := by
    induction bs with
    | nil => rfl
    | cons b bs ih =>
      show (blsW (bs.map W.bl)).map (b :: ·) = _
      rw [ih]; rfl
  show ((blsW (bs.map W.bl))).map (fun bs => W.bl (bs.all id)) = _
  rw [this]; rfl
theorem slL (h : List O) (k : Nat) (hk : k = 2 ∨ k = 4) : nSl h w_LETTERS none (some (k : Int)) = some (.str (tx (List.range k))) := by
  rcases hk with rfl | rfl <;> rfl
theorem inL (h : List O) (d k : Nat) (hd : d < k) : nIn h (sg d) (.str (tx (List.range k))) = some (.bl true) := by
  have : decide ((⟨#[48 + d]⟩ : Str).cps.getD 0 0 ∈ (tx (List.range k)).cps.toList) = true := by
    apply decide_eq_true
    show 48 + d ∈ ((List.range k).map (48 + ·)).toArray.toList
    simp [hd]
  have e : inW h (sg d) (.str (tx (List.range k))) = some (decide ((⟨#[48 + d]⟩ : Str).cps.getD 0 0 ∈ (tx (List.range k)).cps.toList)) := by
    unfold inW sg
    exact if_pos rfl
  unfold nIn
  rw [e, this]; rfl
theorem lenS (h : List O) (t : List Nat) (hl : t.length ≤ 100000) : nLenD h [stx t] = some (nW t.length) := by
  show nLen h [.str (tx t)] = _
  rw [w_lenStr (by rw [tx_len]; omega), tx_len]; rfl
theorem is_text {k : Nat} (hk : k = 2 ∨ k = 4) (h : List O) (t : List Nat) (hd : ∀ d ∈ t, d < k) (hl : t.length ≤ 200) : m_is_text_of [nW k, stx t] h = .ok (.bl true) h := by
  have is1 : nIsi h [stx t, .ty "str"] = some (.bl true) := o_isiS
  have ln := lenS h t (by omega)
  have gt : nGt h (nW t.length) w_MAX_WIDTH = some (.bl false) := by
    show some (W.bl (decide ((200 : Int) < t.length))) = _
    rw [decide_eq_false (by omega)]
  have itd : itD h (stx t) = some ((t.map sg, fun _ => true), h) := by
    show itD h (.str (tx t)) = _
    rw [d_S, signs_tx]
  have sl := fun h => slL h k hk
  have asI : asI (nW k) = some (k : Int) := rfl
  rw [m_is_text_of_eq]; unfold b_is_text_of
  simp only [v_Ok, v_Nx, v_bind, v_bind0, v_sbind, v_nb, v_bindx, v_sbindx, v_ofO, v_ofH, v_ofR, v_ofE, v_omap, v_obind, v_iteT, v_iteF, v_mAnd, v_mOr, v_mAndW, v_mOrW, v_var0, v_varS, v_c, v_op, v_un, v_cb, v_call, v_bm, v_pM, v_pF, v_nil, v_cons, v_star, v_b, v_asB, v_tru, v_notT, v_not, v_andT, v_orT, v_and, v_or, v_if, v_chain, v_tup, v_lst, v_lstN, v_okLen, v_sl, v_noP, v_asI, v_part, v_it, v_rng, v_zip, v_lc, v_lcN, v_wipe0, v_wipeS, v_set0, v_setS, v_lsetr, v_lsetS, v_seq, v_seqN, v_seqR, v_seqB, v_seqC, v_seqX, v_next, v_brk, v_cnt, v_drop, v_ret, v_retN, v_ifS, v_set, v_two, v_par, v_asg, v_store, v_aug, v_itD, v_items, d_T, d_To, d_L, d_Lo, d_S, d_D, d_R, d_RO, d_ROd, d_I, d_IR, d_IRO, v_one, v_enum, v_zipT, v_augS, v_disp, v_prs0, v_prsS, v_fmt, v_for, v_def, v_dnx, v_drt, v_dexc, v_map0, v_mapS, v_gN, v_gT, v_gTo, v_gNs0, v_gNsS, v_yes, v_insOf, v_insO, v_isIns, v_isO, v_isOL, v_isT, v_isLs, v_isI, v_isS, v_slot0, v_slotS, v_slot, v_meth, v_make, v_beqN, v_refOf, v_put, v_putW00, v_putW0S, v_putWS0, v_putWSS, v_isi, v_lenSet, v_lenC, v_strC, v_dctN, v_lstO, v_ixR, v_ixO, v_seqRf, v_seqT, v_seqTo, v_seqLs, v_seqLo, v_lenR, v_isTR, v_isTO, v_isTOd, v_isTL, v_isTS, v_itR, v_itL, v_itT, v_itTo, v_itS, v_truR, v_truT, v_truL, v_truB, v_truI, v_setR, v_setO, v_app, v_appO, v_ext, v_extO, v_addR, v_addO, v_addL, v_addT, v_top, h_set, h_push, h_lt, h_lenS, h_lenA, w_add, w_addBB, w_sub, w_iadd, w_isub, w_ltT, w_le, w_gt, w_ge, w_neg, w_intI, w_intB, w_abs, w_max, w_min, w_lenL, w_lenT, w_lenLo, w_lenTo, w_reprB, w_lenStr, w_strI, w_strS, v_loopN, v_loopC, v_loopB, v_loopR, List.length_cons, List.length_nil, Nat.reduceAdd, Nat.reduceSub, Nat.reduceLeDiff, Nat.reduceMul, Int.reduceLT, Int.reduceLE, Int.reduceAdd, Int.reduceSub, Int.reduceMul, Int.reduceEq, Int.reduceNeg, Nat.reduceEqDiff, reduceIte, List.replicate_succ, List.replicate_zero, List.cons_append, List.nil_append, Bool.not_true, Bool.not_false, Bool.and_true, Bool.true_and, Bool.and_false, Bool.false_and, Bool.or_true, Bool.true_or, Bool.or_false, Bool.false_or, decide_true, decide_false, Option.isSome_some, beq_self_eq_true, o_mod, o_div, o_mul, o_eqI, o_neI, o_eqB, o_neB, o_isiI, o_isiB, o_isiS, ite_iteE, is1, ln, gt, itd]
  generalize hL : mLcL _ _ _ _ _ _ _ _ = LL
  obtain ⟨a', h', e, rfl, rfl⟩ := lcL_inv hL (I := fun j acc h' => acc = (List.replicate j true).map W.bl ∧ h' = h) ⟨rfl, rfl⟩ (by rintro j a h' ⟨_, rfl⟩; rfl) (by rw [List.length_map]; exact Nat.le_trans (show ([] : List W).length + t.length ≤ 200 by simpa using hl) (by decide)) (by
    rintro j x acc h' hx ⟨rfl, rfl⟩
    rw [List.getElem?_map] at hx
    obtain ⟨d, hm, rfl⟩ := Option.map_eq_some_iff.mp hx
    have i1 := inL h' d k (hd d (List.mem_of_getElem? hm))
    refine ⟨_, rfl, true, h', rfl, ?_⟩
    rw [if_pos rfl]
    refine ⟨.bl true, h', by simp only [v_Ok, v_Nx, v_bind, v_bind0, v_sbind, v_nb, v_bindx, v_sbindx, v_ofO, v_ofH, v_ofR, v_ofE, v_omap, v_obind, v_iteT, v_iteF, v_mAnd, v_mOr, v_mAndW, v_mOrW, v_var0, v_varS, v_c, v_op, v_un, v_cb, v_call, v_bm, v_pM, v_pF, v_nil, v_cons, v_star, v_b, v_asB, v_tru, v_notT, v_not, v_andT, v_orT, v_and, v_or, v_if, v_chain, v_tup, v_lst, v_lstN, v_okLen, v_sl, v_noP, v_asI, v_part, v_it, v_rng, v_zip, v_lc, v_lcN, v_wipe0, v_wipeS, v_set0, v_setS, v_lsetr, v_lsetS, v_seq, v_seqN, v_seqR, v_seqB, v_seqC, v_seqX, v_next, v_brk, v_cnt, v_drop, v_ret, v_retN, v_ifS, v_set, v_two, v_par, v_asg, v_store, v_aug, v_itD, v_items, d_T, d_To, d_L, d_Lo, d_S, d_D, d_R, d_RO, d_ROd, d_I, d_IR, d_IRO, v_one, v_enum, v_zipT, v_augS, v_disp, v_prs0, v_prsS, v_fmt, v_for, v_def, v_dnx, v_drt, v_dexc, v_map0, v_mapS, v_gN, v_gT, v_gTo, v_gNs0, v_gNsS, v_yes, v_insOf, v_insO, v_isIns, v_isO, v_isOL, v_isT, v_isLs, v_isI, v_isS, v_slot0, v_slotS, v_slot, v_meth, v_make, v_beqN, v_refOf, v_put, v_putW00, v_putW0S, v_putWS0, v_putWSS, v_isi, v_lenSet, v_lenC, v_strC, v_dctN, v_lstO, v_ixR, v_ixO, v_seqRf, v_seqT, v_seqTo, v_seqLs, v_seqLo, v_lenR, v_isTR, v_isTO, v_isTOd, v_isTL, v_isTS, v_itR, v_itL, v_itT, v_itTo, v_itS, v_truR, v_truT, v_truL, v_truB, v_truI, v_setR, v_setO, v_app, v_appO, v_ext, v_extO, v_addR, v_addO, v_addL, v_addT, v_top, h_set, h_push, h_lt, h_lenS, h_lenA, w_add, w_addBB, w_sub, w_iadd, w_isub, w_ltT, w_le, w_gt, w_ge, w_neg, w_intI, w_intB, w_abs, w_max, w_min, w_lenL, w_lenT, w_lenLo, w_lenTo, w_reprB, w_lenStr, w_strI, w_strS, v_loopN, v_loopC, v_loopB, v_loopR, List.length_cons, List.length_nil, Nat.reduceAdd, Nat.reduceSub, Nat.reduceLeDiff, Nat.reduceMul, Int.reduceLT, Int.reduceLE, Int.reduceAdd, Int.reduceSub, Int.reduceMul, Int.reduceEq, Int.reduceNeg, Nat.reduceEqDiff, reduceIte, List.replicate_succ, List.replicate_zero, List.cons_append, List.nil_append, Bool.not_true, Bool.not_false, Bool.and_true, Bool.true_and, Bool.and_false, Bool.false_and, Bool.or_true, Bool.true_or, Bool.or_false, Bool.false_or, decide_true, decide_false, Option.isSome_some, beq_self_eq_true, o_mod, o_div, o_mul, o_eqI, o_neI, o_eqB, o_neB, o_isiI, o_isiB, o_isiS, ite_iteE, asI, sl, i1], ?_, rfl⟩
    rw [List.replicate_succ', List.map_append]; rfl)
  subst e
  have al := all_bl h' (List.replicate (t.map sg).length true)
  rw [show (List.replicate (t.map sg).length true).all id = true by simp] at al
  simp only [v_Ok, v_Nx, v_bind, v_bind0, v_sbind, v_nb, v_bindx, v_sbindx, v_ofO, v_ofH, v_ofR, v_ofE, v_omap, v_obind, v_iteT, v_iteF, v_mAnd, v_mOr, v_mAndW, v_mOrW, v_var0, v_varS, v_c, v_op, v_un, v_cb, v_call, v_bm, v_pM, v_pF, v_nil, v_cons, v_star, v_b, v_asB, v_tru, v_notT, v_not, v_andT, v_orT, v_and, v_or, v_if, v_chain, v_tup, v_lst, v_lstN, v_okLen, v_sl, v_noP, v_asI, v_part, v_it, v_rng, v_zip, v_lc, v_lcN, v_wipe0, v_wipeS, v_set0, v_setS, v_lsetr, v_lsetS, v_seq, v_seqN, v_seqR, v_seqB, v_seqC, v_seqX, v_next, v_brk, v_cnt, v_drop, v_ret, v_retN, v_ifS, v_set, v_two, v_par, v_asg, v_store, v_aug, v_itD, v_items, d_T, d_To, d_L, d_Lo, d_S, d_D, d_R, d_RO, d_ROd, d_I, d_IR, d_IRO, v_one, v_enum, v_zipT, v_augS, v_disp, v_prs0, v_prsS, v_fmt, v_for, v_def, v_dnx, v_drt, v_dexc, v_map0, v_mapS, v_gN, v_gT, v_gTo, v_gNs0, v_gNsS, v_yes, v_insOf, v_insO, v_isIns, v_isO, v_isOL, v_isT, v_isLs, v_isI, v_isS, v_slot0, v_slotS, v_slot, v_meth, v_make, v_beqN, v_refOf, v_put, v_putW00, v_putW0S, v_putWS0, v_putWSS, v_isi, v_lenSet, v_lenC, v_strC, v_dctN, v_lstO, v_ixR, v_ixO, v_seqRf, v_seqT, v_seqTo, v_seqLs, v_seqLo, v_lenR, v_isTR, v_isTO, v_isTOd, v_isTL, v_isTS, v_itR, v_itL, v_itT, v_itTo, v_itS, v_truR, v_truT, v_truL, v_truB, v_truI, v_setR, v_setO, v_app, v_appO, v_ext, v_extO, v_addR, v_addO, v_addL, v_addT, v_top, h_set, h_push, h_lt, h_lenS, h_lenA, w_add, w_addBB, w_sub, w_iadd, w_isub, w_ltT, w_le, w_gt, w_ge, w_neg, w_intI, w_intB, w_abs, w_max, w_min, w_lenL, w_lenT, w_lenLo, w_lenTo, w_reprB, w_lenStr, w_strI, w_strS, v_loopN, v_loopC, v_loopB, v_loopR, List.length_cons, List.length_nil, Nat.reduceAdd, Nat.reduceSub, Nat.reduceLeDiff, Nat.reduceMul, Int.reduceLT, Int.reduceLE, Int.reduceAdd, Int.reduceSub, Int.reduceMul, Int.reduceEq, Int.reduceNeg, Nat.reduceEqDiff, reduceIte, List.replicate_succ, List.replicate_zero, List.cons_append, List.nil_append, Bool.not_true, Bool.not_false, Bool.and_true, Bool.true_and, Bool.and_false, Bool.false_and, Bool.or_true, Bool.true_or, Bool.or_false, Bool.false_or, decide_true, decide_false, Option.isSome_some, beq_self_eq_true, o_mod, o_div, o_mul, o_eqI, o_neI, o_eqB, o_neB, o_isiI, o_isiB, o_isiS, ite_iteE, al]
def sx (L : List Nat) : Str := ⟨L.toArray⟩
theorem sx_len (L : List Nat) : (sx L).length = L.length := by unfold sx Str.length; simp
theorem cat_sx (a b : List Nat) (hl : a.length + b.length ≤ 100000) (h : List O) : nAdd h (.str (sx a)) (.str (sx b)) = some (.str (sx (a ++ b))) := by
  unfold nAdd guardO
  simp only []
  rw [if_pos (decide_eq_true (by rw [sx_len, sx_len]; exact Nat.le_trans hl (by decide)))]
  congr 2
  show Str.mk _ = _
  simp [sx]
theorem in_sign (h : List O) (c : Nat) (z : Str) : nIn h (.str ⟨#[c]⟩) (.str z) = some (.bl (decide (c ∈ z.cps.toList))) := by
  have e : inW h (.str ⟨#[c]⟩) (.str z) = some (decide ((⟨#[c]⟩ : Str).cps.getD 0 0 ∈ z.cps.toList)) := by
    unfold inW
    exact if_pos rfl
  unfold nIn
  rw [e]; rfl
/-- told to be no text -/
def BadT (k : Nat) (w : W) : Prop := ∀ h, m_is_text_of [nW k, w] h = .ok (.bl false) h
theorem badT_wide {k : Nat} (s : Str) (h2 : 200 < s.length) (hl : s.length ≤ 100000) : BadT k (.str s) := fun h => by
  have is1 : nIsi h [.str s, .ty "str"] = some (.bl true) := o_isiS
  have ln : nLenD h [.str s] = some (nW s.length) := by
    show nLen h [.str s] = _
    rw [w_lenStr (by omega)]; rfl
  have gt : nGt h (nW s.length) w_MAX_WIDTH = some (.bl true) := by
    show some (W.bl (decide ((200 : Int) < s.length))) = _
    rw [decide_eq_true (by omega)]
  rw [m_is_text_of_eq]; unfold b_is_text_of
  simp only [v_Ok, v_Nx, v_bind, v_bind0, v_sbind, v_nb, v_bindx, v_sbindx, v_ofO, v_ofH, v_ofR, v_ofE, v_omap, v_obind, v_iteT, v_iteF, v_mAnd, v_mOr, v_mAndW, v_mOrW, v_var0, v_varS, v_c, v_op, v_un, v_cb, v_call, v_bm, v_pM, v_pF, v_nil, v_cons, v_star, v_b, v_asB, v_tru, v_notT, v_not, v_andT, v_orT, v_and, v_or, v_if, v_chain, v_tup, v_lst, v_lstN, v_okLen, v_sl, v_noP, v_asI, v_part, v_it, v_rng, v_zip, v_lc, v_lcN, v_wipe0, v_wipeS, v_set0, v_setS, v_lsetr, v_lsetS, v_seq, v_seqN, v_seqR, v_seqB, v_seqC, v_seqX, v_next, v_brk, v_cnt, v_drop, v_ret, v_retN, v_ifS, v_set, v_two, v_par, v_asg, v_store, v_aug, v_itD, v_items, d_T, d_To, d_L, d_Lo, d_S, d_D, d_R, d_RO, d_ROd, d_I, d_IR, d_IRO, v_one, v_enum, v_zipT, v_augS, v_disp, v_prs0, v_prsS, v_fmt, v_for, v_def, v_dnx, v_drt, v_dexc, v_map0, v_mapS, v_gN, v_gT, v_gTo, v_gNs0, v_gNsS, v_yes, v_insOf, v_insO, v_isIns, v_isO, v_isOL, v_isT, v_isLs, v_isI, v_isS, v_slot0, v_slotS, v_slot, v_meth, v_make, v_beqN, v_refOf, v_put, v_putW00, v_putW0S, v_putWS0, v_putWSS, v_isi, v_lenSet, v_lenC, v_strC, v_dctN, v_lstO, v_ixR, v_ixO, v_seqRf, v_seqT, v_seqTo, v_seqLs, v_seqLo, v_lenR, v_isTR, v_isTO, v_isTOd, v_isTL, v_isTS, v_itR, v_itL, v_itT, v_itTo, v_itS, v_truR, v_truT, v_truL, v_truB, v_truI, v_setR, v_setO, v_app, v_appO, v_ext, v_extO, v_addR, v_addO, v_addL, v_addT, v_top, h_set, h_push, h_lt, h_lenS, h_lenA, w_add, w_addBB, w_sub, w_iadd, w_isub, w_ltT, w_le, w_gt, w_ge, w_neg, w_intI, w_intB, w_abs, w_max, w_min, w_lenL, w_lenT, w_lenLo, w_lenTo, w_reprB, w_lenStr, w_strI, w_strS, v_loopN, v_loopC, v_loopB, v_loopR, List.length_cons, List.length_nil, Nat.reduceAdd, Nat.reduceSub, Nat.reduceLeDiff, Nat.reduceMul, Int.reduceLT, Int.reduceLE, Int.reduceAdd, Int.reduceSub, Int.reduceMul, Int.reduceEq, Int.reduceNeg, Nat.reduceEqDiff, reduceIte, List.replicate_succ, List.replicate_zero, List.cons_append, List.nil_append, Bool.not_true, Bool.not_false, Bool.and_true, Bool.true_and, Bool.and_false, Bool.false_and, Bool.or_true, Bool.true_or, Bool.or_false, Bool.false_or, decide_true, decide_false, Option.isSome_some, beq_self_eq_true, o_mod, o_div, o_mul, o_eqI, o_neI, o_eqB, o_neB, o_isiI, o_isiB, o_isiS, ite_iteE, is1, ln, gt]
theorem badT_str {k : Nat} (hk : k = 2 ∨ k = 4) (s : Str) (hl : s.length ≤ 100000) (hb : ∃ c ∈ s.cps.toList, c ∉ (tx (List.range k)).cps.toList) : BadT k (.str s) := fun h => by
  by_cases h2 : 200 < s.length
  · exact badT_wide s h2 hl h
  have is1 : nIsi h [.str s, .ty "str"] = some (.bl true) := o_isiS
  have ln : nLenD h [.str s] = some (nW s.length) := by
    show nLen h [.str s] = _
    rw [w_lenStr (by omega)]; rfl
  have gt : nGt h (nW s.length) w_MAX_WIDTH = some (.bl false) := by
    show some (W.bl (decide ((200 : Int) < s.length))) = _
    rw [decide_eq_false (by omega)]
  have sl := fun h => slL h k hk
  have asI : asI (nW k) = some (k : Int) := rfl
  have sz : (signsW s).length = s.length := by unfold signsW Str.length; simp
  generalize hZ : (tx (List.range k)).cps.toList = Z at hb
  rw [m_is_text_of_eq]; unfold b_is_text_of
  simp only [v_Ok, v_Nx, v_bind, v_bind0, v_sbind, v_nb, v_bindx, v_sbindx, v_ofO, v_ofH, v_ofR, v_ofE, v_omap, v_obind, v_iteT, v_iteF, v_mAnd, v_mOr, v_mAndW, v_mOrW, v_var0, v_varS, v_c, v_op, v_un, v_cb, v_call, v_bm, v_pM, v_pF, v_nil, v_cons, v_star, v_b, v_asB, v_tru, v_notT, v_not, v_andT, v_orT, v_and, v_or, v_if, v_chain, v_tup, v_lst, v_lstN, v_okLen, v_sl, v_noP, v_asI, v_part, v_it, v_rng, v_zip, v_lc, v_lcN, v_wipe0, v_wipeS, v_set0, v_setS, v_lsetr, v_lsetS, v_seq, v_seqN, v_seqR, v_seqB, v_seqC, v_seqX, v_next, v_brk, v_cnt, v_drop, v_ret, v_retN, v_ifS, v_set, v_two, v_par, v_asg, v_store, v_aug, v_itD, v_items, d_T, d_To, d_L, d_Lo, d_S, d_D, d_R, d_RO, d_ROd, d_I, d_IR, d_IRO, v_one, v_enum, v_zipT, v_augS, v_disp, v_prs0, v_prsS, v_fmt, v_for, v_def, v_dnx, v_drt, v_dexc, v_map0, v_mapS, v_gN, v_gT, v_gTo, v_gNs0, v_gNsS, v_yes, v_insOf, v_insO, v_isIns, v_isO, v_isOL, v_isT, v_isLs, v_isI, v_isS, v_slot0, v_slotS, v_slot, v_meth, v_make, v_beqN, v_refOf, v_put, v_putW00, v_putW0S, v_putWS0, v_putWSS, v_isi, v_lenSet, v_lenC, v_strC, v_dctN, v_lstO, v_ixR, v_ixO, v_seqRf, v_seqT, v_seqTo, v_seqLs, v_seqLo, v_lenR, v_isTR, v_isTO, v_isTOd, v_isTL, v_isTS, v_itR, v_itL, v_itT, v_itTo, v_itS, v_truR, v_truT, v_truL, v_truB, v_truI, v_setR, v_setO, v_app, v_appO, v_ext, v_extO, v_addR, v_addO, v_addL, v_addT, v_top, h_set, h_push, h_lt, h_lenS, h_lenA, w_add, w_addBB, w_sub, w_iadd, w_isub, w_ltT, w_le, w_gt, w_ge, w_neg, w_intI, w_intB, w_abs, w_max, w_min, w_lenL, w_lenT, w_lenLo, w_lenTo, w_reprB, w_lenStr, w_strI, w_strS, v_loopN, v_loopC, v_loopB, v_loopR, List.length_cons, List.length_nil, Nat.reduceAdd, Nat.reduceSub, Nat.reduceLeDiff, Nat.reduceMul, Int.reduceLT, Int.reduceLE, Int.reduceAdd, Int.reduceSub, Int.reduceMul, Int.reduceEq, Int.reduceNeg, Nat.reduceEqDiff, reduceIte, List.replicate_succ, List.replicate_zero, List.cons_append, List.nil_append, Bool.not_true, Bool.not_false, Bool.and_true, Bool.true_and, Bool.and_false, Bool.false_and, Bool.or_true, Bool.true_or, Bool.or_false, Bool.false_or, decide_true, decide_false, Option.isSome_some, beq_self_eq_true, o_mod, o_div, o_mul, o_eqI, o_neI, o_eqB, o_neB, o_isiI, o_isiB, o_isiS, ite_iteE, is1, ln, gt]
  generalize hL : mLcL _ _ _ _ _ _ _ _ = LL
  obtain ⟨a', h', e, rfl, rfl⟩ := lcL_inv hL (I := fun j acc h' => acc = ((s.cps.toList.take j).map fun c => decide (c ∈ Z)).map W.bl ∧ h' = h) ⟨rfl, rfl⟩ (by rintro j a h' ⟨_, rfl⟩; rfl) (by rw [sz]; exact Nat.le_trans (show ([] : List W).length + s.length ≤ 200 by simp; omega) (by decide)) (by
    rintro j x acc h' hx ⟨rfl, rfl⟩
    unfold signsW at hx
    rw [List.getElem?_map] at hx
    obtain ⟨c, hm, rfl⟩ := Option.map_eq_some_iff.mp hx
    have i1 := in_sign h' c (tx (List.range k))
    rw [hZ] at i1
    refine ⟨_, rfl, true, h', rfl, ?_⟩
    rw [if_pos rfl]
    refine ⟨.bl (decide (c ∈ Z)), h', by simp only [v_Ok, v_Nx, v_bind, v_bind0, v_sbind, v_nb, v_bindx, v_sbindx, v_ofO, v_ofH, v_ofR, v_ofE, v_omap, v_obind, v_iteT, v_iteF, v_mAnd, v_mOr, v_mAndW, v_mOrW, v_var0, v_varS, v_c, v_op, v_un, v_cb, v_call, v_bm, v_pM, v_pF, v_nil, v_cons, v_star, v_b, v_asB, v_tru, v_notT, v_not, v_andT, v_orT, v_and, v_or, v_if, v_chain, v_tup, v_lst, v_lstN, v_okLen, v_sl, v_noP, v_asI, v_part, v_it, v_rng, v_zip, v_lc, v_lcN, v_wipe0, v_wipeS, v_set0, v_setS, v_lsetr, v_lsetS, v_seq, v_seqN, v_seqR, v_seqB, v_seqC, v_seqX, v_next, v_brk, v_cnt, v_drop, v_ret, v_retN, v_ifS, v_set, v_two, v_par, v_asg, v_store, v_aug, v_itD, v_items, d_T, d_To, d_L, d_Lo, d_S, d_D, d_R, d_RO, d_ROd, d_I, d_IR, d_IRO, v_one, v_enum, v_zipT, v_augS, v_disp, v_prs0, v_prsS, v_fmt, v_for, v_def, v_dnx, v_drt, v_dexc, v_map0, v_mapS, v_gN, v_gT, v_gTo, v_gNs0, v_gNsS, v_yes, v_insOf, v_insO, v_isIns, v_isO, v_isOL, v_isT, v_isLs, v_isI, v_isS, v_slot0, v_slotS, v_slot, v_meth, v_make, v_beqN, v_refOf, v_put, v_putW00, v_putW0S, v_putWS0, v_putWSS, v_isi, v_lenSet, v_lenC, v_strC, v_dctN, v_lstO, v_ixR, v_ixO, v_seqRf, v_seqT, v_seqTo, v_seqLs, v_seqLo, v_lenR, v_isTR, v_isTO, v_isTOd, v_isTL, v_isTS, v_itR, v_itL, v_itT, v_itTo, v_itS, v_truR, v_truT, v_truL, v_truB, v_truI, v_setR, v_setO, v_app, v_appO, v_ext, v_extO, v_addR, v_addO, v_addL, v_addT, v_top, h_set, h_push, h_lt, h_lenS, h_lenA, w_add, w_addBB, w_sub, w_iadd, w_isub, w_ltT, w_le, w_gt, w_ge, w_neg, w_intI, w_intB, w_abs, w_max, w_min, w_lenL, w_lenT, w_lenLo, w_lenTo, w_reprB, w_lenStr, w_strI, w_strS, v_loopN, v_loopC, v_loopB, v_loopR, List.length_cons, List.length_nil, Nat.reduceAdd, Nat.reduceSub, Nat.reduceLeDiff, Nat.reduceMul, Int.reduceLT, Int.reduceLE, Int.reduceAdd, Int.reduceSub, Int.reduceMul, Int.reduceEq, Int.reduceNeg, Nat.reduceEqDiff, reduceIte, List.replicate_succ, List.replicate_zero, List.cons_append, List.nil_append, Bool.not_true, Bool.not_false, Bool.and_true, Bool.true_and, Bool.and_false, Bool.false_and, Bool.or_true, Bool.true_or, Bool.or_false, Bool.false_or, decide_true, decide_false, Option.isSome_some, beq_self_eq_true, o_mod, o_div, o_mul, o_eqI, o_neI, o_eqB, o_neB, o_isiI, o_isiB, o_isiS, ite_iteE, asI, sl, i1], ?_, rfl⟩
    rw [List.take_add_one, hm]; simp)
  subst e
  have al := all_bl h' ((s.cps.toList.take (signsW s).length).map fun c => decide (c ∈ Z))
  have f : ((s.cps.toList.take (signsW s).length).map fun c => decide (c ∈ Z)).all id = false := by
    obtain ⟨c, hc, hn⟩ := hb
    rw [sz, List.take_of_length_le (by simp [Str.length]), List.all_eq_false]
    exact ⟨decide (c ∈ Z), List.mem_map_of_mem hc, by rw [decide_eq_false hn]; decide⟩
  rw [f] at al
  simp only [v_Ok, v_Nx, v_bind, v_bind0, v_sbind, v_nb, v_bindx, v_sbindx, v_ofO, v_ofH, v_ofR, v_ofE, v_omap, v_obind, v_iteT, v_iteF, v_mAnd, v_mOr, v_mAndW, v_mOrW, v_var0, v_varS, v_c, v_op, v_un, v_cb, v_call, v_bm, v_pM, v_pF, v_nil, v_cons, v_star, v_b, v_asB, v_tru, v_notT, v_not, v_andT, v_orT, v_and, v_or, v_if, v_chain, v_tup, v_lst, v_lstN, v_okLen, v_sl, v_noP, v_asI, v_part, v_it, v_rng, v_zip, v_lc, v_lcN, v_wipe0, v_wipeS, v_set0, v_setS, v_lsetr, v_lsetS, v_seq, v_seqN, v_seqR, v_seqB, v_seqC, v_seqX, v_next, v_brk, v_cnt, v_drop, v_ret, v_retN, v_ifS, v_set, v_two, v_par, v_asg, v_store, v_aug, v_itD, v_items, d_T, d_To, d_L, d_Lo, d_S, d_D, d_R, d_RO, d_ROd, d_I, d_IR, d_IRO, v_one, v_enum, v_zipT, v_augS, v_disp, v_prs0, v_prsS, v_fmt, v_for, v_def, v_dnx, v_drt, v_dexc, v_map0, v_mapS, v_gN, v_gT, v_gTo, v_gNs0, v_gNsS, v_yes, v_insOf, v_insO, v_isIns, v_isO, v_isOL, v_isT, v_isLs, v_isI, v_isS, v_slot0, v_slotS, v_slot, v_meth, v_make, v_beqN, v_refOf, v_put, v_putW00, v_putW0S, v_putWS0, v_putWSS, v_isi, v_lenSet, v_lenC, v_strC, v_dctN, v_lstO, v_ixR, v_ixO, v_seqRf, v_seqT, v_seqTo, v_seqLs, v_seqLo, v_lenR, v_isTR, v_isTO, v_isTOd, v_isTL, v_isTS, v_itR, v_itL, v_itT, v_itTo, v_itS, v_truR, v_truT, v_truL, v_truB, v_truI, v_setR, v_setO, v_app, v_appO, v_ext, v_extO, v_addR, v_addO, v_addL, v_addT, v_top, h_set, h_push, h_lt, h_lenS, h_lenA, w_add, w_addBB, w_sub, w_iadd, w_isub, w_ltT, w_le, w_gt, w_ge, w_neg, w_intI, w_intB, w_abs, w_max, w_min, w_lenL, w_lenT, w_lenLo, w_lenTo, w_reprB, w_lenStr, w_strI, w_strS, v_loopN, v_loopC, v_loopB, v_loopR, List.length_cons, List.length_nil, Nat.reduceAdd, Nat.reduceSub, Nat.reduceLeDiff, Nat.reduceMul, Int.reduceLT, Int.reduceLE, Int.reduceAdd, Int.reduceSub, Int.reduceMul, Int.reduceEq, Int.reduceNeg, Nat.reduceEqDiff, reduceIte, List.replicate_succ, List.replicate_zero, List.cons_append, List.nil_append, Bool.not_true, Bool.not_false, Bool.and_true, Bool.true_and, Bool.and_false, Bool.false_and, Bool.or_true, Bool.true_or, Bool.or_false, Bool.false_or, decide_true, decide_false, Option.isSome_some, beq_self_eq_true, o_mod, o_div, o_mul, o_eqI, o_neI, o_eqB, o_neB, o_isiI, o_isiB, o_isiS, ite_iteE, al]
theorem badT_no {k : Nat} {w : W} (hi : ∀ h, nIsi h [w, .ty "str"] = some (.bl false)) : BadT k w := fun h => by
  have a := hi h
  rw [m_is_text_of_eq]; unfold b_is_text_of
  simp only [v_Ok, v_Nx, v_bind, v_bind0, v_sbind, v_nb, v_bindx, v_sbindx, v_ofO, v_ofH, v_ofR, v_ofE, v_omap, v_obind, v_iteT, v_iteF, v_mAnd, v_mOr, v_mAndW, v_mOrW, v_var0, v_varS, v_c, v_op, v_un, v_cb, v_call, v_bm, v_pM, v_pF, v_nil, v_cons, v_star, v_b, v_asB, v_tru, v_notT, v_not, v_andT, v_orT, v_and, v_or, v_if, v_chain, v_tup, v_lst, v_lstN, v_okLen, v_sl, v_noP, v_asI, v_part, v_it, v_rng, v_zip, v_lc, v_lcN, v_wipe0, v_wipeS, v_set0, v_setS, v_lsetr, v_lsetS, v_seq, v_seqN, v_seqR, v_seqB, v_seqC, v_seqX, v_next, v_brk, v_cnt, v_drop, v_ret, v_retN, v_ifS, v_set, v_two, v_par, v_asg, v_store, v_aug, v_itD, v_items, d_T, d_To, d_L, d_Lo, d_S, d_D, d_R, d_RO, d_ROd, d_I, d_IR, d_IRO, v_one, v_enum, v_zipT, v_augS, v_disp, v_prs0, v_prsS, v_fmt, v_for, v_def, v_dnx, v_drt, v_dexc, v_map0, v_mapS, v_gN, v_gT, v_gTo, v_gNs0, v_gNsS, v_yes, v_insOf, v_insO, v_isIns, v_isO, v_isOL, v_isT, v_isLs, v_isI, v_isS, v_slot0, v_slotS, v_slot, v_meth, v_make, v_beqN, v_refOf, v_put, v_putW00, v_putW0S, v_putWS0, v_putWSS, v_isi, v_lenSet, v_lenC, v_strC, v_dctN, v_lstO, v_ixR, v_ixO, v_seqRf, v_seqT, v_seqTo, v_seqLs, v_seqLo, v_lenR, v_isTR, v_isTO, v_isTOd, v_isTL, v_isTS, v_itR, v_itL, v_itT, v_itTo, v_itS, v_truR, v_truT, v_truL, v_truB, v_truI, v_setR, v_setO, v_app, v_appO, v_ext, v_extO, v_addR, v_addO, v_addL, v_addT, v_top, h_set, h_push, h_lt, h_lenS, h_lenA, w_add, w_addBB, w_sub, w_iadd, w_isub, w_ltT, w_le, w_gt, w_ge, w_neg, w_intI, w_intB, w_abs, w_max, w_min, w_lenL, w_lenT, w_lenLo, w_lenTo, w_reprB, w_lenStr, w_strI, w_strS, v_loopN, v_loopC, v_loopB, v_loopR, List.length_cons, List.length_nil, Nat.reduceAdd, Nat.reduceSub, Nat.reduceLeDiff, Nat.reduceMul, Int.reduceLT, Int.reduceLE, Int.reduceAdd, Int.reduceSub, Int.reduceMul, Int.reduceEq, Int.reduceNeg, Nat.reduceEqDiff, reduceIte, List.replicate_succ, List.replicate_zero, List.cons_append, List.nil_append, Bool.not_true, Bool.not_false, Bool.and_true, Bool.true_and, Bool.and_false, Bool.false_and, Bool.or_true, Bool.true_or, Bool.or_false, Bool.false_or, decide_true, decide_false, Option.isSome_some, beq_self_eq_true, o_mod, o_div, o_mul, o_eqI, o_neI, o_eqB, o_neB, o_isiI, o_isiB, o_isiS, ite_iteE, a]
theorem mulZ (h : List O) (n : Nat) (hn : n ≤ 10000) : nMul h (.str "0") (.int (n : Int)) = some (stx (List.replicate n 0)) := by
  unfold nMul guardO
  simp only []
  rw [mulStr0, if_pos (decide_eq_true ⟨by omega, by decide, by omega, by rw [tx_len, List.length_replicate]; exact Nat.le_trans hn (by decide)⟩)]
  rfl
end N
set_option maxHeartbeats 4000000
namespace N
open PySem L2
theorem eB60 : w_INTEGER_BOUND = .int 1000000000000000000000000000000000000000000000000000000000000 := rfl
def intB : W → Bool
  | .int i => decide (-1000000000000000000000000000000000000000000000000000000000000 < i) && decide (i < 1000000000000000000000000000000000000000000000000000000000000)
  | _ => false
def inR (lo hi : Int) : W → Bool
  | .int i => intB (.int i) && (decide (lo ≤ i) && decide (i ≤ hi))
  | _ => false
def tyOf : W → Option String
  | .non => some "NoneType" | .bl _ => some "bool" | .int _ => some "int" | .str _ => some "str" | .tup _ => some "tuple" | .lst _ => some "list" | .dct false _ => some "dict" | _ => none
theorem isi_ty (h : List O) (w : W) (a T : String) (hw : tyOf w = some a) : nIsi h [w, .ty T] = (kitB a T).map W.bl := by
  cases w with
  | dct t kvs => cases t with
    | false => cases hw; rfl
    | true => cases hw
  | non => cases hw; rfl
  | bl _ => cases hw; rfl
  | int _ => cases hw; rfl
  | str _ => cases hw; rfl
  | tup _ => cases hw; rfl
  | lst _ => cases hw; rfl
  | _ => cases hw
theorem v_andF {k k2 : Bool} {h : List O} : iteE k (ER.ok (W.bl k2) h) (.ok (.bl false) h) = .ok (.bl (k && k2)) h := by cases k <;> rfl
theorem is_integer (h : List O) (w : W) (a : String) (hw : tyOf w = some a) : m_is_integer [w] h = .ok (.bl (intB w)) h := by
  have i1 := isi_ty h w a "int" hw
  have i2 := isi_ty h w a "bool" hw
  rw [m_is_integer_eq]; unfold b_is_integer
  cases w with
  | int i =>
    cases hw
    rw [show kitB "int" "int" = some true by decide +kernel] at i1
    rw [show kitB "int" "bool" = some false by decide +kernel] at i2
    simp only [v_Ok, v_Nx, v_bind, v_bind0, v_sbind, v_nb, v_bindx, v_sbindx, v_ofO, v_ofH, v_ofR, v_ofE, v_omap, v_obind, v_iteT, v_iteF, v_mAnd, v_mOr, v_mAndW, v_mOrW, v_var0, v_varS, v_c, v_op, v_un, v_cb, v_call, v_bm, v_pM, v_pF, v_nil, v_cons, v_star, v_b, v_asB, v_tru, v_notT, v_not, v_andT, v_orT, v_and, v_or, v_if, v_chain, v_tup, v_lst, v_lstN, v_okLen, v_sl, v_noP, v_asI, v_part, v_it, v_rng, v_zip, v_lc, v_lcN, v_wipe0, v_wipeS, v_set0, v_setS, v_lsetr, v_lsetS, v_seq, v_seqN, v_seqR, v_seqB, v_seqC, v_seqX, v_next, v_brk, v_cnt, v_drop, v_ret, v_retN, v_ifS, v_set, v_two, v_par, v_asg, v_store, v_aug, v_itD, v_items, d_T, d_To, d_L, d_Lo, d_S, d_D, d_R, d_RO, d_ROd, d_I, d_IR, d_IRO, v_one, v_enum, v_zipT, v_augS, v_disp, v_prs0, v_prsS, v_fmt, v_for, v_def, v_dnx, v_drt, v_dexc, v_map0, v_mapS, v_gN, v_gT, v_gTo, v_gNs0, v_gNsS, v_yes, v_insOf, v_insO, v_isIns, v_isO, v_isOL, v_isT, v_isLs, v_isI, v_isS, v_slot0, v_slotS, v_slot, v_meth, v_make, v_beqN, v_refOf, v_put, v_putW00, v_putW0S, v_putWS0, v_putWSS, v_isi, v_lenSet, v_lenC, v_strC, v_dctN, v_lstO, v_ixR, v_ixO, v_seqRf, v_seqT, v_seqTo, v_seqLs, v_seqLo, v_lenR, v_isTR, v_isTO, v_isTOd, v_isTL, v_isTS, v_itR, v_itL, v_itT, v_itTo, v_itS, v_truR, v_truT, v_truL, v_truB, v_truI, v_setR, v_setO, v_app, v_appO, v_ext, v_extO, v_addR, v_addO, v_addL, v_addT, v_top, h_set, h_push, h_lt, h_lenS, h_lenA, w_add, w_addBB, w_sub, w_iadd, w_isub, w_ltT, w_le, w_gt, w_ge, w_neg, w_intI, w_intB, w_abs, w_max, w_min, w_lenL, w_lenT, w_lenLo, w_lenTo, w_reprB, w_lenStr, w_strI, w_strS, v_loopN, v_loopC, v_loopB, v_loopR, List.length_cons, List.length_nil, Nat.reduceAdd, Nat.reduceSub, Nat.reduceLeDiff, Nat.reduceMul, Int.reduceLT, Int.reduceLE, Int.reduceAdd, Int.reduceSub, Int.reduceMul, Int.reduceEq, Int.reduceNeg, Nat.reduceEqDiff, reduceIte, List.replicate_succ, List.replicate_zero, List.cons_append, List.nil_append, Bool.not_true, Bool.not_false, Bool.and_true, Bool.true_and, Bool.and_false, Bool.false_and, Bool.or_true, Bool.true_or, Bool.or_false, Bool.false_or, decide_true, decide_false, Option.isSome_some, beq_self_eq_true, o_mod, o_div, o_mul, o_eqI, o_neI, o_eqB, o_neB, o_isiI, o_isiB, o_isiS, ite_iteE, i1, i2, eB60, v_andF]
    rfl
  | bl b =>
    cases hw
    rw [show kitB "bool" "int" = some true by decide +kernel] at i1
    rw [show kitB "bool" "bool" = some true by decide +kernel] at i2
    simp only [v_Ok, v_Nx, v_bind, v_bind0, v_sbind, v_nb, v_bindx, v_sbindx, v_ofO, v_ofH, v_ofR, v_ofE, v_omap, v_obind, v_iteT, v_iteF, v_mAnd, v_mOr, v_mAndW, v_mOrW, v_var0, v_varS, v_c, v_op, v_un, v_cb, v_call, v_bm, v_pM, v_pF, v_nil, v_cons, v_star, v_b, v_asB, v_tru, v_notT, v_not, v_andT, v_orT, v_and, v_or, v_if, v_chain, v_tup, v_lst, v_lstN, v_okLen, v_sl, v_noP, v_asI, v_part, v_it, v_rng, v_zip, v_lc, v_lcN, v_wipe0, v_wipeS, v_set0, v_setS, v_lsetr, v_lsetS, v_seq, v_seqN, v_seqR, v_seqB, v_seqC, v_seqX, v_next, v_brk, v_cnt, v_drop, v_ret, v_retN, v_ifS, v_set, v_two, v_par, v_asg, v_store, v_aug, v_itD, v_items, d_T, d_To, d_L, d_Lo, d_S, d_D, d_R, d_RO, d_ROd, d_I, d_IR, d_IRO, v_one, v_enum, v_zipT, v_augS, v_disp, v_prs0, v_prsS, v_fmt, v_for, v_def, v_dnx, v_drt, v_dexc, v_map0, v_mapS, v_gN, v_gT, v_gTo, v_gNs0, v_gNsS, v_yes, v_insOf, v_insO, v_isIns, v_isO, v_isOL, v_isT, v_isLs, v_isI, v_isS, v_slot0, v_slotS, v_slot, v_meth, v_make, v_beqN, v_refOf, v_put, v_putW00, v_putW0S, v_putWS0, v_putWSS, v_isi, v_lenSet, v_lenC, v_strC, v_dctN, v_lstO, v_ixR, v_ixO, v_seqRf, v_seqT, v_seqTo, v_seqLs, v_seqLo, v_lenR, v_isTR, v_isTO, v_isTOd, v_isTL, v_isTS, v_itR, v_itL, v_itT, v_itTo, v_itS, v_truR, v_truT, v_truL, v_truB, v_truI, v_setR, v_setO, v_app, v_appO, v_ext, v_extO, v_addR, v_addO, v_addL, v_addT, v_top, h_set, h_push, h_lt, h_lenS, h_lenA, w_add, w_addBB, w_sub, w_iadd, w_isub, w_ltT, w_le, w_gt, w_ge, w_neg, w_intI, w_intB, w_abs, w_max, w_min, w_lenL, w_lenT, w_lenLo, w_lenTo, w_reprB, w_lenStr, w_strI, w_strS, v_loopN, v_loopC, v_loopB, v_loopR, List.length_cons, List.length_nil, Nat.reduceAdd, Nat.reduceSub, Nat.reduceLeDiff, Nat.reduceMul, Int.reduceLT, Int.reduceLE, Int.reduceAdd, Int.reduceSub, Int.reduceMul, Int.reduceEq, Int.reduceNeg, Nat.reduceEqDiff, reduceIte, List.replicate_succ, List.replicate_zero, List.cons_append, List.nil_append, Bool.not_true, Bool.not_false, Bool.and_true, Bool.true_and, Bool.and_false, Bool.false_and, Bool.or_true, Bool.true_or, Bool.or_false, Bool.false_or, decide_true, decide_false, Option.isSome_some, beq_self_eq_true, o_mod, o_div, o_mul, o_eqI, o_neI, o_eqB, o_neB, o_isiI, o_isiB, o_isiS, ite_iteE, i1, i2]
    rfl
  | dct t kvs => cases t with
    | true => cases hw
    | false =>
      cases hw
      rw [show kitB "dict" "int" = some false by decide +kernel] at i1
      simp only [v_Ok, v_Nx, v_bind, v_bind0, v_sbind, v_nb, v_bindx, v_sbindx, v_ofO, v_ofH, v_ofR, v_ofE, v_omap, v_obind, v_iteT, v_iteF, v_mAnd, v_mOr, v_mAndW, v_mOrW, v_var0, v_varS, v_c, v_op, v_un, v_cb, v_call, v_bm, v_pM, v_pF, v_nil, v_cons, v_star, v_b, v_asB, v_tru, v_notT, v_not, v_andT, v_orT, v_and, v_or, v_if, v_chain, v_tup, v_lst, v_lstN, v_okLen, v_sl, v_noP, v_asI, v_part, v_it, v_rng, v_zip, v_lc, v_lcN, v_wipe0, v_wipeS, v_set0, v_setS, v_lsetr, v_lsetS, v_seq, v_seqN, v_seqR, v_seqB, v_seqC, v_seqX, v_next, v_brk, v_cnt, v_drop, v_ret, v_retN, v_ifS, v_set, v_two, v_par, v_asg, v_store, v_aug, v_itD, v_items, d_T, d_To, d_L, d_Lo, d_S, d_D, d_R, d_RO, d_ROd, d_I, d_IR, d_IRO, v_one, v_enum, v_zipT, v_augS, v_disp, v_prs0, v_prsS, v_fmt, v_for, v_def, v_dnx, v_drt, v_dexc, v_map0, v_mapS, v_gN, v_gT, v_gTo, v_gNs0, v_gNsS, v_yes, v_insOf, v_insO, v_isIns, v_isO, v_isOL, v_isT, v_isLs, v_isI, v_isS, v_slot0, v_slotS, v_slot, v_meth, v_make, v_beqN, v_refOf, v_put, v_putW00, v_putW0S, v_putWS0, v_putWSS, v_isi, v_lenSet, v_lenC, v_strC, v_dctN, v_lstO, v_ixR, v_ixO, v_seqRf, v_seqT, v_seqTo, v_seqLs, v_seqLo, v_lenR, v_isTR, v_isTO, v_isTOd, v_isTL, v_isTS, v_itR, v_itL, v_itT, v_itTo, v_itS, v_truR, v_truT, v_truL, v_truB, v_truI, v_setR, v_setO, v_app, v_appO, v_ext, v_extO, v_addR, v_addO, v_addL, v_addT, v_top, h_set, h_push, h_lt, h_lenS, h_lenA, w_add, w_addBB, w_sub, w_iadd, w_isub, w_ltT, w_le, w_gt, w_ge, w_neg, w_intI, w_intB, w_abs, w_max, w_min, w_lenL, w_lenT, w_lenLo, w_lenTo, w_reprB, w_lenStr, w_strI, w_strS, v_loopN, v_loopC, v_loopB, v_loopR, List.length_cons, List.length_nil, Nat.reduceAdd, Nat.reduceSub, Nat.reduceLeDiff, Nat.reduceMul, Int.reduceLT, Int.reduceLE, Int.reduceAdd, Int.reduceSub, Int.reduceMul, Int.reduceEq, Int.reduceNeg, Nat.reduceEqDiff, reduceIte, List.replicate_succ, List.replicate_zero, List.cons_append, List.nil_append, Bool.not_true, Bool.not_false, Bool.and_true, Bool.true_and, Bool.and_false, Bool.false_and, Bool.or_true, Bool.true_or, Bool.or_false, Bool.false_or, decide_true, decide_false, Option.isSome_some, beq_self_eq_true, o_mod, o_div, o_mul, o_eqI, o_neI, o_eqB, o_neB, o_isiI, o_isiB, o_isiS, ite_iteE, i1]
      rfl
  | non =>
    cases hw
    rw [show kitB "NoneType" "int" = some false by decide +kernel] at i1
    simp only [v_Ok, v_Nx, v_bind, v_bind0, v_sbind, v_nb, v_bindx, v_sbindx, v_ofO, v_ofH, v_ofR, v_ofE, v_omap, v_obind, v_iteT, v_iteF, v_mAnd, v_mOr, v_mAndW, v_mOrW, v_var0, v_varS, v_c, v_op, v_un, v_cb, v_call, v_bm, v_pM, v_pF, v_nil, v_cons, v_star, v_b, v_asB, v_tru, v_notT, v_not, v_andT, v_orT, v_and, v_or, v_if, v_chain, v_tup, v_lst, v_lstN, v_okLen, v_sl, v_noP, v_asI, v_part, v_it, v_rng, v_zip, v_lc, v_lcN, v_wipe0, v_wipeS, v_set0, v_setS, v_lsetr, v_lsetS, v_seq, v_seqN, v_seqR, v_seqB, v_seqC, v_seqX, v_next, v_brk, v_cnt, v_drop, v_ret, v_retN, v_ifS, v_set, v_two, v_par, v_asg, v_store, v_aug, v_itD, v_items, d_T, d_To, d_L, d_Lo, d_S, d_D, d_R, d_RO, d_ROd, d_I, d_IR, d_IRO, v_one, v_enum, v_zipT, v_augS, v_disp, v_prs0, v_prsS, v_fmt, v_for, v_def, v_dnx, v_drt, v_dexc, v_map0, v_mapS, v_gN, v_gT, v_gTo, v_gNs0, v_gNsS, v_yes, v_insOf, v_insO, v_isIns, v_isO, v_isOL, v_isT, v_isLs, v_isI, v_isS, v_slot0, v_slotS, v_slot, v_meth, v_make, v_beqN, v_refOf, v_put, v_putW00, v_putW0S, v_putWS0, v_putWSS, v_isi, v_lenSet, v_lenC, v_strC, v_dctN, v_lstO, v_ixR, v_ixO, v_seqRf, v_seqT, v_seqTo, v_seqLs, v_seqLo, v_lenR, v_isTR, v_isTO, v_isTOd, v_isTL, v_isTS, v_itR, v_itL, v_itT, v_itTo, v_itS, v_truR, v_truT, v_truL, v_truB, v_truI, v_setR, v_setO, v_app, v_appO, v_ext, v_extO, v_addR, v_addO, v_addL, v_addT, v_top, h_set, h_push, h_lt, h_lenS, h_lenA, w_add, w_addBB, w_sub, w_iadd, w_isub, w_ltT, w_le, w_gt, w_ge, w_neg, w_intI, w_intB, w_abs, w_max, w_min, w_lenL, w_lenT, w_lenLo, w_lenTo, w_reprB, w_lenStr, w_strI, w_strS, v_loopN, v_loopC, v_loopB, v_loopR, List.length_cons, List.length_nil, Nat.reduceAdd, Nat.reduceSub, Nat.reduceLeDiff, Nat.reduceMul, Int.reduceLT, Int.reduceLE, Int.reduceAdd, Int.reduceSub, Int.reduceMul, Int.reduceEq, Int.reduceNeg, Nat.reduceEqDiff, reduceIte, List.replicate_succ, List.replicate_zero, List.cons_append, List.nil_append, Bool.not_true, Bool.not_false, Bool.and_true, Bool.true_and, Bool.and_false, Bool.false_and, Bool.or_true, Bool.true_or, Bool.or_false, Bool.false_or, decide_true, decide_false, Option.isSome_some, beq_self_eq_true, o_mod, o_div, o_mul, o_eqI, o_neI, o_eqB, o_neB, o_isiI, o_isiB, o_isiS, ite_iteE, i1]
    rfl
  | str _ =>
    cases hw
    rw [show kitB "str" "int" = some false by decide +kernel] at i1
    simp only [v_Ok, v_Nx, v_bind, v_bind0, v_sbind, v_nb, v_bindx, v_sbindx, v_ofO, v_ofH, v_ofR, v_ofE, v_omap, v_obind, v_iteT, v_iteF, v_mAnd, v_mOr, v_mAndW, v_mOrW, v_var0, v_varS, v_c, v_op, v_un, v_cb, v_call, v_bm, v_pM, v_pF, v_nil, v_cons, v_star, v_b, v_asB, v_tru, v_notT, v_not, v_andT, v_orT, v_and, v_or, v_if, v_chain, v_tup, v_lst, v_lstN, v_okLen, v_sl, v_noP, v_asI, v_part, v_it, v_rng, v_zip, v_lc, v_lcN, v_wipe0, v_wipeS, v_set0, v_setS, v_lsetr, v_lsetS, v_seq, v_seqN, v_seqR, v_seqB, v_seqC, v_seqX, v_next, v_brk, v_cnt, v_drop, v_ret, v_retN, v_ifS, v_set, v_two, v_par, v_asg, v_store, v_aug, v_itD, v_items, d_T, d_To, d_L, d_Lo, d_S, d_D, d_R, d_RO, d_ROd, d_I, d_IR, d_IRO, v_one, v_enum, v_zipT, v_augS, v_disp, v_prs0, v_prsS, v_fmt, v_for, v_def, v_dnx, v_drt, v_dexc, v_map0, v_mapS, v_gN, v_gT, v_gTo, v_gNs0, v_gNsS, v_yes, v_insOf, v_insO, v_isIns, v_isO, v_isOL, v_isT, v_isLs, v_isI, v_isS, v_slot0, v_slotS, v_slot, v_meth, v_make, v_beqN, v_refOf, v_put, v_putW00, v_putW0S, v_putWS0, v_putWSS, v_isi, v_lenSet, v_lenC, v_strC, v_dctN, v_lstO, v_ixR, v_ixO, v_seqRf, v_seqT, v_seqTo, v_seqLs, v_seqLo, v_lenR, v_isTR, v_isTO, v_isTOd, v_isTL, v_isTS, v_itR, v_itL, v_itT, v_itTo, v_itS, v_truR, v_truT, v_truL, v_truB, v_truI, v_setR, v_setO, v_app, v_appO, v_ext, v_extO, v_addR, v_addO, v_addL, v_addT, v_top, h_set, h_push, h_lt, h_lenS, h_lenA, w_add, w_addBB, w_sub, w_iadd, w_isub, w_ltT, w_le, w_gt, w_ge, w_neg, w_intI, w_intB, w_abs, w_max, w_min, w_lenL, w_lenT, w_lenLo, w_lenTo, w_reprB, w_lenStr, w_strI, w_strS, v_loopN, v_loopC, v_loopB, v_loopR, List.length_cons, List.length_nil, Nat.reduceAdd, Nat.reduceSub, Nat.reduceLeDiff, Nat.reduceMul, Int.reduceLT, Int.reduceLE, Int.reduceAdd, Int.reduceSub, Int.reduceMul, Int.reduceEq, Int.reduceNeg, Nat.reduceEqDiff, reduceIte, List.replicate_succ, List.replicate_zero, List.cons_append, List.nil_append, Bool.not_true, Bool.not_false, Bool.and_true, Bool.true_and, Bool.and_false, Bool.false_and, Bool.or_true, Bool.true_or, Bool.or_false, Bool.false_or, decide_true, decide_false, Option.isSome_some, beq_self_eq_true, o_mod, o_div, o_mul, o_eqI, o_neI, o_eqB, o_neB, o_isiI, o_isiB, o_isiS, ite_iteE, i1]
    rfl
  | tup _ =>
    cases hw
    rw [show kitB "tuple" "int" = some false by decide +kernel] at i1
    simp only [v_Ok, v_Nx, v_bind, v_bind0, v_sbind, v_nb, v_bindx, v_sbindx, v_ofO, v_ofH, v_ofR, v_ofE, v_omap, v_obind, v_iteT, v_iteF, v_mAnd, v_mOr, v_mAndW, v_mOrW, v_var0, v_varS, v_c, v_op, v_un, v_cb, v_call, v_bm, v_pM, v_pF, v_nil, v_cons, v_star, v_b, v_asB, v_tru, v_notT, v_not, v_andT, v_orT, v_and, v_or, v_if, v_chain, v_tup, v_lst, v_lstN, v_okLen, v_sl, v_noP, v_asI, v_part, v_it, v_rng, v_zip, v_lc, v_lcN, v_wipe0, v_wipeS, v_set0, v_setS, v_lsetr, v_lsetS, v_seq, v_seqN, v_seqR, v_seqB, v_seqC, v_seqX, v_next, v_brk, v_cnt, v_drop, v_ret, v_retN, v_ifS, v_set, v_two, v_par, v_asg, v_store, v_aug, v_itD, v_items, d_T, d_To, d_L, d_Lo, d_S, d_D, d_R, d_RO, d_ROd, d_I, d_IR, d_IRO, v_one, v_enum, v_zipT, v_augS, v_disp, v_prs0, v_prsS, v_fmt, v_for, v_def, v_dnx, v_drt, v_dexc, v_map0, v_mapS, v_gN, v_gT, v_gTo, v_gNs0, v_gNsS, v_yes, v_insOf, v_insO, v_isIns, v_isO, v_isOL, v_isT, v_isLs, v_isI, v_isS, v_slot0, v_slotS, v_slot, v_meth, v_make, v_beqN, v_refOf, v_put, v_putW00, v_putW0S, v_putWS0, v_putWSS, v_isi, v_lenSet, v_lenC, v_strC, v_dctN, v_lstO, v_ixR, v_ixO, v_seqRf, v_seqT, v_seqTo, v_seqLs, v_seqLo, v_lenR, v_isTR, v_isTO, v_isTOd, v_isTL, v_isTS, v_itR, v_itL, v_itT, v_itTo, v_itS, v_truR, v_truT, v_truL, v_truB, v_truI, v_setR, v_setO, v_app, v_appO, v_ext, v_extO, v_addR, v_addO, v_addL, v_addT, v_top, h_set, h_push, h_lt, h_lenS, h_lenA, w_add, w_addBB, w_sub, w_iadd, w_isub, w_ltT, w_le, w_gt, w_ge, w_neg, w_intI, w_intB, w_abs, w_max, w_min, w_lenL, w_lenT, w_lenLo, w_lenTo, w_reprB, w_lenStr, w_strI, w_strS, v_loopN, v_loopC, v_loopB, v_loopR, List.length_cons, List.length_nil, Nat.reduceAdd, Nat.reduceSub, Nat.reduceLeDiff, Nat.reduceMul, Int.reduceLT, Int.reduceLE, Int.reduceAdd, Int.reduceSub, Int.reduceMul, Int.reduceEq, Int.reduceNeg, Nat.reduceEqDiff, reduceIte, List.replicate_succ, List.replicate_zero, List.cons_append, List.nil_append, Bool.not_true, Bool.not_false, Bool.and_true, Bool.true_and, Bool.and_false, Bool.false_and, Bool.or_true, Bool.true_or, Bool.or_false, Bool.false_or, decide_true, decide_false, Option.isSome_some, beq_self_eq_true, o_mod, o_div, o_mul, o_eqI, o_neI, o_eqB, o_neB, o_isiI, o_isiB, o_isiS, ite_iteE, i1]
    rfl
  | lst _ =>
    cases hw
    rw [show kitB "list" "int" = some false by decide +kernel] at i1
    simp only [v_Ok, v_Nx, v_bind, v_bind0, v_sbind, v_nb, v_bindx, v_sbindx, v_ofO, v_ofH, v_ofR, v_ofE, v_omap, v_obind, v_iteT, v_iteF, v_mAnd, v_mOr, v_mAndW, v_mOrW, v_var0, v_varS, v_c, v_op, v_un, v_cb, v_call, v_bm, v_pM, v_pF, v_nil, v_cons, v_star, v_b, v_asB, v_tru, v_notT, v_not, v_andT, v_orT, v_and, v_or, v_if, v_chain, v_tup, v_lst, v_lstN, v_okLen, v_sl, v_noP, v_asI, v_part, v_it, v_rng, v_zip, v_lc, v_lcN, v_wipe0, v_wipeS, v_set0, v_setS, v_lsetr, v_lsetS, v_seq, v_seqN, v_seqR, v_seqB, v_seqC, v_seqX, v_next, v_brk, v_cnt, v_drop, v_ret, v_retN, v_ifS, v_set, v_two, v_par, v_asg, v_store, v_aug, v_itD, v_items, d_T, d_To, d_L, d_Lo, d_S, d_D, d_R, d_RO, d_ROd, d_I, d_IR, d_IRO, v_one, v_enum, v_zipT, v_augS, v_disp, v_prs0, v_prsS, v_fmt, v_for, v_def, v_dnx, v_drt, v_dexc, v_map0, v_mapS, v_gN, v_gT, v_gTo, v_gNs0, v_gNsS, v_yes, v_insOf, v_insO, v_isIns, v_isO, v_isOL, v_isT, v_isLs, v_isI, v_isS, v_slot0, v_slotS, v_slot, v_meth, v_make, v_beqN, v_refOf, v_put, v_putW00, v_putW0S, v_putWS0, v_putWSS, v_isi, v_lenSet, v_lenC, v_strC, v_dctN, v_lstO, v_ixR, v_ixO, v_seqRf, v_seqT, v_seqTo, v_seqLs, v_seqLo, v_lenR, v_isTR, v_isTO, v_isTOd, v_isTL, v_isTS, v_itR, v_itL, v_itT, v_itTo, v_itS, v_truR, v_truT, v_truL, v_truB, v_truI, v_setR, v_setO, v_app, v_appO, v_ext, v_extO, v_addR, v_addO, v_addL, v_addT, v_top, h_set, h_push, h_lt, h_lenS, h_lenA, w_add, w_addBB, w_sub, w_iadd, w_isub, w_ltT, w_le, w_gt, w_ge, w_neg, w_intI, w_intB, w_abs, w_max, w_min, w_lenL, w_lenT, w_lenLo, w_lenTo, w_reprB, w_lenStr, w_strI, w_strS, v_loopN, v_loopC, v_loopB, v_loopR, List.length_cons, List.length_nil, Nat.reduceAdd, Nat.reduceSub, Nat.reduceLeDiff, Nat.reduceMul, Int.reduceLT, Int.reduceLE, Int.reduceAdd, Int.reduceSub, Int.reduceMul, Int.reduceEq, Int.reduceNeg, Nat.reduceEqDiff, reduceIte, List.replicate_succ, List.replicate_zero, List.cons_append, List.nil_append, Bool.not_true, Bool.not_false, Bool.and_true, Bool.true_and, Bool.and_false, Bool.false_and, Bool.or_true, Bool.true_or, Bool.or_false, Bool.false_or, decide_true, decide_false, Option.isSome_some, beq_self_eq_true, o_mod, o_div, o_mul, o_eqI, o_neI, o_eqB, o_neB, o_isiI, o_isiB, o_isiS, ite_iteE, i1]
    rfl
  | _ => cases hw
theorem within (h : List O) (w : W) (a : String) (lo hi : Int) (hw : tyOf w = some a) : m_is_integer_within [w, .int lo, .int hi] h = .ok (.bl (inR lo hi w)) h := by
  have e := is_integer h w a hw
  rw [m_is_integer_within_eq]; unfold b_is_integer_within
  cases w with
  | int i =>
    cases hb : intB (.int i) with
    | true =>
      rw [hb] at e
      simp only [v_Ok, v_Nx, v_bind, v_bind0, v_sbind, v_nb, v_bindx, v_sbindx, v_ofO, v_ofH, v_ofR, v_ofE, v_omap, v_obind, v_iteT, v_iteF, v_mAnd, v_mOr, v_mAndW, v_mOrW, v_var0, v_varS, v_c, v_op, v_un, v_cb, v_call, v_bm, v_pM, v_pF, v_nil, v_cons, v_star, v_b, v_asB, v_tru, v_notT, v_not, v_andT, v_orT, v_and, v_or, v_if, v_chain, v_tup, v_lst, v_lstN, v_okLen, v_sl, v_noP, v_asI, v_part, v_it, v_rng, v_zip, v_lc, v_lcN, v_wipe0, v_wipeS, v_set0, v_setS, v_lsetr, v_lsetS, v_seq, v_seqN, v_seqR, v_seqB, v_seqC, v_seqX, v_next, v_brk, v_cnt, v_drop, v_ret, v_retN, v_ifS, v_set, v_two, v_par, v_asg, v_store, v_aug, v_itD, v_items, d_T, d_To, d_L, d_Lo, d_S, d_D, d_R, d_RO, d_ROd, d_I, d_IR, d_IRO, v_one, v_enum, v_zipT, v_augS, v_disp, v_prs0, v_prsS, v_fmt, v_for, v_def, v_dnx, v_drt, v_dexc, v_map0, v_mapS, v_gN, v_gT, v_gTo, v_gNs0, v_gNsS, v_yes, v_insOf, v_insO, v_isIns, v_isO, v_isOL, v_isT, v_isLs, v_isI, v_isS, v_slot0, v_slotS, v_slot, v_meth, v_make, v_beqN, v_refOf, v_put, v_putW00, v_putW0S, v_putWS0, v_putWSS, v_isi, v_lenSet, v_lenC, v_strC, v_dctN, v_lstO, v_ixR, v_ixO, v_seqRf, v_seqT, v_seqTo, v_seqLs, v_seqLo, v_lenR, v_isTR, v_isTO, v_isTOd, v_isTL, v_isTS, v_itR, v_itL, v_itT, v_itTo, v_itS, v_truR, v_truT, v_truL, v_truB, v_truI, v_setR, v_setO, v_app, v_appO, v_ext, v_extO, v_addR, v_addO, v_addL, v_addT, v_top, h_set, h_push, h_lt, h_lenS, h_lenA, w_add, w_addBB, w_sub, w_iadd, w_isub, w_ltT, w_le, w_gt, w_ge, w_neg, w_intI, w_intB, w_abs, w_max, w_min, w_lenL, w_lenT, w_lenLo, w_lenTo, w_reprB, w_lenStr, w_strI, w_strS, v_loopN, v_loopC, v_loopB, v_loopR, List.length_cons, List.length_nil, Nat.reduceAdd, Nat.reduceSub, Nat.reduceLeDiff, Nat.reduceMul, Int.reduceLT, Int.reduceLE, Int.reduceAdd, Int.reduceSub, Int.reduceMul, Int.reduceEq, Int.reduceNeg, Nat.reduceEqDiff, reduceIte, List.replicate_succ, List.replicate_zero, List.cons_append, List.nil_append, Bool.not_true, Bool.not_false, Bool.and_true, Bool.true_and, Bool.and_false, Bool.false_and, Bool.or_true, Bool.true_or, Bool.or_false, Bool.false_or, decide_true, decide_false, Option.isSome_some, beq_self_eq_true, o_mod, o_div, o_mul, o_eqI, o_neI, o_eqB, o_neB, o_isiI, o_isiB, o_isiS, ite_iteE, e, v_andF]
      show _ = ER.ok (W.bl (intB (.int i) && (decide (lo ≤ i) && decide (i ≤ hi)))) h
      rw [hb]; rfl
    | false =>
      rw [hb] at e
      simp only [v_Ok, v_Nx, v_bind, v_bind0, v_sbind, v_nb, v_bindx, v_sbindx, v_ofO, v_ofH, v_ofR, v_ofE, v_omap, v_obind, v_iteT, v_iteF, v_mAnd, v_mOr, v_mAndW, v_mOrW, v_var0, v_varS, v_c, v_op, v_un, v_cb, v_call, v_bm, v_pM, v_pF, v_nil, v_cons, v_star, v_b, v_asB, v_tru, v_notT, v_not, v_andT, v_orT, v_and, v_or, v_if, v_chain, v_tup, v_lst, v_lstN, v_okLen, v_sl, v_noP, v_asI, v_part, v_it, v_rng, v_zip, v_lc, v_lcN, v_wipe0, v_wipeS, v_set0, v_setS, v_lsetr, v_lsetS, v_seq, v_seqN, v_seqR, v_seqB, v_seqC, v_seqX, v_next, v_brk, v_cnt, v_drop, v_ret, v_retN, v_ifS, v_set, v_two, v_par, v_asg, v_store, v_aug, v_itD, v_items, d_T, d_To, d_L, d_Lo, d_S, d_D, d_R, d_RO, d_ROd, d_I, d_IR, d_IRO, v_one, v_enum, v_zipT, v_augS, v_disp, v_prs0, v_prsS, v_fmt, v_for, v_def, v_dnx, v_drt, v_dexc, v_map0, v_mapS, v_gN, v_gT, v_gTo, v_gNs0, v_gNsS, v_yes, v_insOf, v_insO, v_isIns, v_isO, v_isOL, v_isT, v_isLs, v_isI, v_isS, v_slot0, v_slotS, v_slot, v_meth, v_make, v_beqN, v_refOf, v_put, v_putW00, v_putW0S, v_putWS0, v_putWSS, v_isi, v_lenSet, v_lenC, v_strC, v_dctN, v_lstO, v_ixR, v_ixO, v_seqRf, v_seqT, v_seqTo, v_seqLs, v_seqLo, v_lenR, v_isTR, v_isTO, v_isTOd, v_isTL, v_isTS, v_itR, v_itL, v_itT, v_itTo, v_itS, v_truR, v_truT, v_truL, v_truB, v_truI, v_setR, v_setO, v_app, v_appO, v_ext, v_extO, v_addR, v_addO, v_addL, v_addT, v_top, h_set, h_push, h_lt, h_lenS, h_lenA, w_add, w_addBB, w_sub, w_iadd, w_isub, w_ltT, w_le, w_gt, w_ge, w_neg, w_intI, w_intB, w_abs, w_max, w_min, w_lenL, w_lenT, w_lenLo, w_lenTo, w_reprB, w_lenStr, w_strI, w_strS, v_loopN, v_loopC, v_loopB, v_loopR, List.length_cons, List.length_nil, Nat.reduceAdd, Nat.reduceSub, Nat.reduceLeDiff, Nat.reduceMul, Int.reduceLT, Int.reduceLE, Int.reduceAdd, Int.reduceSub, Int.reduceMul, Int.reduceEq, Int.reduceNeg, Nat.reduceEqDiff, reduceIte, List.replicate_succ, List.replicate_zero, List.cons_append, List.nil_append, Bool.not_true, Bool.not_false, Bool.and_true, Bool.true_and, Bool.and_false, Bool.false_and, Bool.or_true, Bool.true_or, Bool.or_false, Bool.false_or, decide_true, decide_false, Option.isSome_some, beq_self_eq_true, o_mod, o_div, o_mul, o_eqI, o_neI, o_eqB, o_neB, o_isiI, o_isiB, o_isiS, ite_iteE, e]
      show _ = ER.ok (W.bl (intB (.int i) && (decide (lo ≤ i) && decide (i ≤ hi)))) h
      rw [hb]; rfl
  | dct t kvs => cases t with
    | true => cases hw
    | false => simp only [v_Ok, v_Nx, v_bind, v_bind0, v_sbind, v_nb, v_bindx, v_sbindx, v_ofO, v_ofH, v_ofR, v_ofE, v_omap, v_obind, v_iteT, v_iteF, v_mAnd, v_mOr, v_mAndW, v_mOrW, v_var0, v_varS, v_c, v_op, v_un, v_cb, v_call, v_bm, v_pM, v_pF, v_nil, v_cons, v_star, v_b, v_asB, v_tru, v_notT, v_not, v_andT, v_orT, v_and, v_or, v_if, v_chain, v_tup, v_lst, v_lstN, v_okLen, v_sl, v_noP, v_asI, v_part, v_it, v_rng, v_zip, v_lc, v_lcN, v_wipe0, v_wipeS, v_set0, v_setS, v_lsetr, v_lsetS, v_seq, v_seqN, v_seqR, v_seqB, v_seqC, v_seqX, v_next, v_brk, v_cnt, v_drop, v_ret, v_retN, v_ifS, v_set, v_two, v_par, v_asg, v_store, v_aug, v_itD, v_items, d_T, d_To, d_L, d_Lo, d_S, d_D, d_R, d_RO, d_ROd, d_I, d_IR, d_IRO, v_one, v_enum, v_zipT, v_augS, v_disp, v_prs0, v_prsS, v_fmt, v_for, v_def, v_dnx, v_drt, v_dexc, v_map0, v_mapS, v_gN, v_gT, v_gTo, v_gNs0, v_gNsS, v_yes, v_insOf, v_insO, v_isIns, v_isO, v_isOL, v_isT, v_isLs, v_isI, v_isS, v_slot0, v_slotS, v_slot, v_meth, v_make, v_beqN, v_refOf, v_put, v_putW00, v_putW0S, v_putWS0, v_putWSS, v_isi, v_lenSet, v_lenC, v_strC, v_dctN, v_lstO, v_ixR, v_ixO, v_seqRf, v_seqT, v_seqTo, v_seqLs, v_seqLo, v_lenR, v_isTR, v_isTO, v_isTOd, v_isTL, v_isTS, v_itR, v_itL, v_itT, v_itTo, v_itS, v_truR, v_truT, v_truL, v_truB, v_truI, v_setR, v_setO, v_app, v_appO, v_ext, v_extO, v_addR, v_addO, v_addL, v_addT, v_top, h_set, h_push, h_lt, h_lenS, h_lenA, w_add, w_addBB, w_sub, w_iadd, w_isub, w_ltT, w_le, w_gt, w_ge, w_neg, w_intI, w_intB, w_abs, w_max, w_min, w_lenL, w_lenT, w_lenLo, w_lenTo, w_reprB, w_lenStr, w_strI, w_strS, v_loopN, v_loopC, v_loopB, v_loopR, List.length_cons, List.length_nil, Nat.reduceAdd, Nat.reduceSub, Nat.reduceLeDiff, Nat.reduceMul, Int.reduceLT, Int.reduceLE, Int.reduceAdd, Int.reduceSub, Int.reduceMul, Int.reduceEq, Int.reduceNeg, Nat.reduceEqDiff, reduceIte, List.replicate_succ, List.replicate_zero, List.cons_append, List.nil_append, Bool.not_true, Bool.not_false, Bool.and_true, Bool.true_and, Bool.and_false, Bool.false_and, Bool.or_true, Bool.true_or, Bool.or_false, Bool.false_or, decide_true, decide_false, Option.isSome_some, beq_self_eq_true, o_mod, o_div, o_mul, o_eqI, o_neI, o_eqB, o_neB, o_isiI, o_isiB, o_isiS, ite_iteE, e, intB]; rfl
  | non => simp only [v_Ok, v_Nx, v_bind, v_bind0, v_sbind, v_nb, v_bindx, v_sbindx, v_ofO, v_ofH, v_ofR, v_ofE, v_omap, v_obind, v_iteT, v_iteF, v_mAnd, v_mOr, v_mAndW, v_mOrW, v_var0, v_varS, v_c, v_op, v_un, v_cb, v_call, v_bm, v_pM, v_pF, v_nil, v_cons, v_star, v_b, v_asB, v_tru, v_notT, v_not, v_andT, v_orT, v_and, v_or, v_if, v_chain, v_tup, v_lst, v_lstN, v_okLen, v_sl, v_noP, v_asI, v_part, v_it, v_rng, v_zip, v_lc, v_lcN, v_wipe0, v_wipeS, v_set0, v_setS, v_lsetr, v_lsetS, v_seq, v_seqN, v_seqR, v_seqB, v_seqC, v_seqX, v_next, v_brk, v_cnt, v_drop, v_ret, v_retN, v_ifS, v_set, v_two, v_par, v_asg, v_store, v_aug, v_itD, v_items, d_T, d_To, d_L, d_Lo, d_S, d_D, d_R, d_RO, d_ROd, d_I, d_IR, d_IRO, v_one, v_enum, v_zipT, v_augS, v_disp, v_prs0, v_prsS, v_fmt, v_for, v_def, v_dnx, v_drt, v_dexc, v_map0, v_mapS, v_gN, v_gT, v_gTo, v_gNs0, v_gNsS, v_yes, v_insOf, v_insO, v_isIns, v_isO, v_isOL, v_isT, v_isLs, v_isI, v_isS, v_slot0, v_slotS, v_slot, v_meth, v_make, v_beqN, v_refOf, v_put, v_putW00, v_putW0S, v_putWS0, v_putWSS, v_isi, v_lenSet, v_lenC, v_strC, v_dctN, v_lstO, v_ixR, v_ixO, v_seqRf, v_seqT, v_seqTo, v_seqLs, v_seqLo, v_lenR, v_isTR, v_isTO, v_isTOd, v_isTL, v_isTS, v_itR, v_itL, v_itT, v_itTo, v_itS, v_truR, v_truT, v_truL, v_truB, v_truI, v_setR, v_setO, v_app, v_appO, v_ext, v_extO, v_addR, v_addO, v_addL, v_addT, v_top, h_set, h_push, h_lt, h_lenS, h_lenA, w_add, w_addBB, w_sub, w_iadd, w_isub, w_ltT, w_le, w_gt, w_ge, w_neg, w_intI, w_intB, w_abs, w_max, w_min, w_lenL, w_lenT, w_lenLo, w_lenTo, w_reprB, w_lenStr, w_strI, w_strS, v_loopN, v_loopC, v_loopB, v_loopR, List.length_cons, List.length_nil, Nat.reduceAdd, Nat.reduceSub, Nat.reduceLeDiff, Nat.reduceMul, Int.reduceLT, Int.reduceLE, Int.reduceAdd, Int.reduceSub, Int.reduceMul, Int.reduceEq, Int.reduceNeg, Nat.reduceEqDiff, reduceIte, List.replicate_succ, List.replicate_zero, List.cons_append, List.nil_append, Bool.not_true, Bool.not_false, Bool.and_true, Bool.true_and, Bool.and_false, Bool.false_and, Bool.or_true, Bool.true_or, Bool.or_false, Bool.false_or, decide_true, decide_false, Option.isSome_some, beq_self_eq_true, o_mod, o_div, o_mul, o_eqI, o_neI, o_eqB, o_neB, o_isiI, o_isiB, o_isiS, ite_iteE, e, intB]; rfl
  | bl _ => simp only [v_Ok, v_Nx, v_bind, v_bind0, v_sbind, v_nb, v_bindx, v_sbindx, v_ofO, v_ofH, v_ofR, v_ofE, v_omap, v_obind, v_iteT, v_iteF, v_mAnd, v_mOr, v_mAndW, v_mOrW, v_var0, v_varS, v_c, v_op, v_un, v_cb, v_call, v_bm, v_pM, v_pF, v_nil, v_cons, v_star, v_b, v_asB, v_tru, v_notT, v_not, v_andT, v_orT, v_and, v_or, v_if, v_chain, v_tup, v_lst, v_lstN, v_okLen, v_sl, v_noP, v_asI, v_part, v_it, v_rng, v_zip, v_lc, v_lcN, v_wipe0, v_wipeS, v_set0, v_setS, v_lsetr, v_lsetS, v_seq, v_seqN, v_seqR, v_seqB, v_seqC, v_seqX, v_next, v_brk, v_cnt, v_drop, v_ret, v_retN, v_ifS, v_set, v_two, v_par, v_asg, v_store, v_aug, v_itD, v_items, d_T, d_To, d_L, d_Lo, d_S, d_D, d_R, d_RO, d_ROd, d_I, d_IR, d_IRO, v_one, v_enum, v_zipT, v_augS, v_disp, v_prs0, v_prsS, v_fmt, v_for, v_def, v_dnx, v_drt, v_dexc, v_map0, v_mapS, v_gN, v_gT, v_gTo, v_gNs0, v_gNsS, v_yes, v_insOf, v_insO, v_isIns, v_isO, v_isOL, v_isT, v_isLs, v_isI, v_isS, v_slot0, v_slotS, v_slot, v_meth, v_make, v_beqN, v_refOf, v_put, v_putW00, v_putW0S, v_putWS0, v_putWSS, v_isi, v_lenSet, v_lenC, v_strC, v_dctN, v_lstO, v_ixR, v_ixO, v_seqRf, v_seqT, v_seqTo, v_seqLs, v_seqLo, v_lenR, v_isTR, v_isTO, v_isTOd, v_isTL, v_isTS, v_itR, v_itL, v_itT, v_itTo, v_itS, v_truR, v_truT, v_truL, v_truB, v_truI, v_setR, v_setO, v_app, v_appO, v_ext, v_extO, v_addR, v_addO, v_addL, v_addT, v_top, h_set, h_push, h_lt, h_lenS, h_lenA, w_add, w_addBB, w_sub, w_iadd, w_isub, w_ltT, w_le, w_gt, w_ge, w_neg, w_intI, w_intB, w_abs, w_max, w_min, w_lenL, w_lenT, w_lenLo, w_lenTo, w_reprB, w_lenStr, w_strI, w_strS, v_loopN, v_loopC, v_loopB, v_loopR, List.length_cons, List.length_nil, Nat.reduceAdd, Nat.reduceSub, Nat.reduceLeDiff, Nat.reduceMul, Int.reduceLT, Int.reduceLE, Int.reduceAdd, Int.reduceSub, Int.reduceMul, Int.reduceEq, Int.reduceNeg, Nat.reduceEqDiff, reduceIte, List.replicate_succ, List.replicate_zero, List.cons_append, List.nil_append, Bool.not_true, Bool.not_false, Bool.and_true, Bool.true_and, Bool.and_false, Bool.false_and, Bool.or_true, Bool.true_or, Bool.or_false, Bool.false_or, decide_true, decide_false, Option.isSome_some, beq_self_eq_true, o_mod, o_div, o_mul, o_eqI, o_neI, o_eqB, o_neB, o_isiI, o_isiB, o_isiS, ite_iteE, e, intB]; rfl
  | str _ => simp only [v_Ok, v_Nx, v_bind, v_bind0, v_sbind, v_nb, v_bindx, v_sbindx, v_ofO, v_ofH, v_ofR, v_ofE, v_omap, v_obind, v_iteT, v_iteF, v_mAnd, v_mOr, v_mAndW, v_mOrW, v_var0, v_varS, v_c, v_op, v_un, v_cb, v_call, v_bm, v_pM, v_pF, v_nil, v_cons, v_star, v_b, v_asB, v_tru, v_notT, v_not, v_andT, v_orT, v_and, v_or, v_if, v_chain, v_tup, v_lst, v_lstN, v_okLen, v_sl, v_noP, v_asI, v_part, v_it, v_rng, v_zip, v_lc, v_lcN, v_wipe0, v_wipeS, v_set0, v_setS, v_lsetr, v_lsetS, v_seq, v_seqN, v_seqR, v_seqB, v_seqC, v_seqX, v_next, v_brk, v_cnt, v_drop, v_ret, v_retN, v_ifS, v_set, v_two, v_par, v_asg, v_store, v_aug, v_itD, v_items, d_T, d_To, d_L, d_Lo, d_S, d_D, d_R, d_RO, d_ROd, d_I, d_IR, d_IRO, v_one, v_enum, v_zipT, v_augS, v_disp, v_prs0, v_prsS, v_fmt, v_for, v_def, v_dnx, v_drt, v_dexc, v_map0, v_mapS, v_gN, v_gT, v_gTo, v_gNs0, v_gNsS, v_yes, v_insOf, v_insO, v_isIns, v_isO, v_isOL, v_isT, v_isLs, v_isI, v_isS, v_slot0, v_slotS, v_slot, v_meth, v_make, v_beqN, v_refOf, v_put, v_putW00, v_putW0S, v_putWS0, v_putWSS, v_isi, v_lenSet, v_lenC, v_strC, v_dctN, v_lstO, v_ixR, v_ixO, v_seqRf, v_seqT, v_seqTo, v_seqLs, v_seqLo, v_lenR, v_isTR, v_isTO, v_isTOd, v_isTL, v_isTS, v_itR, v_itL, v_itT, v_itTo, v_itS, v_truR, v_truT, v_truL, v_truB, v_truI, v_setR, v_setO, v_app, v_appO, v_ext, v_extO, v_addR, v_addO, v_addL, v_addT, v_top, h_set, h_push, h_lt, h_lenS, h_lenA, w_add, w_addBB, w_sub, w_iadd, w_isub, w_ltT, w_le, w_gt, w_ge, w_neg, w_intI, w_intB, w_abs, w_max, w_min, w_lenL, w_lenT, w_lenLo, w_lenTo, w_reprB, w_lenStr, w_strI, w_strS, v_loopN, v_loopC, v_loopB, v_loopR, List.length_cons, List.length_nil, Nat.reduceAdd, Nat.reduceSub, Nat.reduceLeDiff, Nat.reduceMul, Int.reduceLT, Int.reduceLE, Int.reduceAdd, Int.reduceSub, Int.reduceMul, Int.reduceEq, Int.reduceNeg, Nat.reduceEqDiff, reduceIte, List.replicate_succ, List.replicate_zero, List.cons_append, List.nil_append, Bool.not_true, Bool.not_false, Bool.and_true, Bool.true_and, Bool.and_false, Bool.false_and, Bool.or_true, Bool.true_or, Bool.or_false, Bool.false_or, decide_true, decide_false, Option.isSome_some, beq_self_eq_true, o_mod, o_div, o_mul, o_eqI, o_neI, o_eqB, o_neB, o_isiI, o_isiB, o_isiS, ite_iteE, e, intB]; rfl
  | tup _ => simp only [v_Ok, v_Nx, v_bind, v_bind0, v_sbind, v_nb, v_bindx, v_sbindx, v_ofO, v_ofH, v_ofR, v_ofE, v_omap, v_obind, v_iteT, v_iteF, v_mAnd, v_mOr, v_mAndW, v_mOrW, v_var0, v_varS, v_c, v_op, v_un, v_cb, v_call, v_bm, v_pM, v_pF, v_nil, v_cons, v_star, v_b, v_asB, v_tru, v_notT, v_not, v_andT, v_orT, v_and, v_or, v_if, v_chain, v_tup, v_lst, v_lstN, v_okLen, v_sl, v_noP, v_asI, v_part, v_it, v_rng, v_zip, v_lc, v_lcN, v_wipe0, v_wipeS, v_set0, v_setS, v_lsetr, v_lsetS, v_seq, v_seqN, v_seqR, v_seqB, v_seqC, v_seqX, v_next, v_brk, v_cnt, v_drop, v_ret, v_retN, v_ifS, v_set, v_two, v_par, v_asg, v_store, v_aug, v_itD, v_items, d_T, d_To, d_L, d_Lo, d_S, d_D, d_R, d_RO, d_ROd, d_I, d_IR, d_IRO, v_one, v_enum, v_zipT, v_augS, v_disp, v_prs0, v_prsS, v_fmt, v_for, v_def, v_dnx, v_drt, v_dexc, v_map0, v_mapS, v_gN, v_gT, v_gTo, v_gNs0, v_gNsS, v_yes, v_insOf, v_insO, v_isIns, v_isO, v_isOL, v_isT, v_isLs, v_isI, v_isS, v_slot0, v_slotS, v_slot, v_meth, v_make, v_beqN, v_refOf, v_put, v_putW00, v_putW0S, v_putWS0, v_putWSS, v_isi, v_lenSet, v_lenC, v_strC, v_dctN, v_lstO, v_ixR, v_ixO, v_seqRf, v_seqT, v_seqTo, v_seqLs, v_seqLo, v_lenR, v_isTR, v_isTO, v_isTOd, v_isTL, v_isTS, v_itR, v_itL, v_itT, v_itTo, v_itS, v_truR, v_truT, v_truL, v_truB, v_truI, v_setR, v_setO, v_app, v_appO, v_ext, v_extO, v_addR, v_addO, v_addL, v_addT, v_top, h_set, h_push, h_lt, h_lenS, h_lenA, w_add, w_addBB, w_sub, w_iadd, w_isub, w_ltT, w_le, w_gt, w_ge, w_neg, w_intI, w_intB, w_abs, w_max, w_min, w_lenL, w_lenT, w_lenLo, w_lenTo, w_reprB, w_lenStr, w_strI, w_strS, v_loopN, v_loopC, v_loopB, v_loopR, List.length_cons, List.length_nil, Nat.reduceAdd, Nat.reduceSub, Nat.reduceLeDiff, Nat.reduceMul, Int.reduceLT, Int.reduceLE, Int.reduceAdd, Int.reduceSub, Int.reduceMul, Int.reduceEq, Int.reduceNeg, Nat.reduceEqDiff, reduceIte, List.replicate_succ, List.replicate_zero, List.cons_append, List.nil_append, Bool.not_true, Bool.not_false, Bool.and_true, Bool.true_and, Bool.and_false, Bool.false_and, Bool.or_true, Bool.true_or, Bool.or_false, Bool.false_or, decide_true, decide_false, Option.isSome_some, beq_self_eq_true, o_mod, o_div, o_mul, o_eqI, o_neI, o_eqB, o_neB, o_isiI, o_isiB, o_isiS, ite_iteE, e, intB]; rfl
  | lst _ => simp only [v_Ok, v_Nx, v_bind, v_bind0, v_sbind, v_nb, v_bindx, v_sbindx, v_ofO, v_ofH, v_ofR, v_ofE, v_omap, v_obind, v_iteT, v_iteF, v_mAnd, v_mOr, v_mAndW, v_mOrW, v_var0, v_varS, v_c, v_op, v_un, v_cb, v_call, v_bm, v_pM, v_pF, v_nil, v_cons, v_star, v_b, v_asB, v_tru, v_notT, v_not, v_andT, v_orT, v_and, v_or, v_if, v_chain, v_tup, v_lst, v_lstN, v_okLen, v_sl, v_noP, v_asI, v_part, v_it, v_rng, v_zip, v_lc, v_lcN, v_wipe0, v_wipeS, v_set0, v_setS, v_lsetr, v_lsetS, v_seq, v_seqN, v_seqR, v_seqB, v_seqC, v_seqX, v_next, v_brk, v_cnt, v_drop, v_ret, v_retN, v_ifS, v_set, v_two, v_par, v_asg, v_store, v_aug, v_itD, v_items, d_T, d_To, d_L, d_Lo, d_S, d_D, d_R, d_RO, d_ROd, d_I, d_IR, d_IRO, v_one, v_enum, v_zipT, v_augS, v_disp, v_prs0, v_prsS, v_fmt, v_for, v_def, v_dnx, v_drt, v_dexc, v_map0, v_mapS, v_gN, v_gT, v_gTo, v_gNs0, v_gNsS, v_yes, v_insOf, v_insO, v_isIns, v_isO, v_isOL, v_isT, v_isLs, v_isI, v_isS, v_slot0, v_slotS, v_slot, v_meth, v_make, v_beqN, v_refOf, v_put, v_putW00, v_putW0S, v_putWS0, v_putWSS, v_isi, v_lenSet, v_lenC, v_strC, v_dctN, v_lstO, v_ixR, v_ixO, v_seqRf, v_seqT, v_seqTo, v_seqLs, v_seqLo, v_lenR, v_isTR, v_isTO, v_isTOd, v_isTL, v_isTS, v_itR, v_itL, v_itT, v_itTo, v_itS, v_truR, v_truT, v_truL, v_truB, v_truI, v_setR, v_setO, v_app, v_appO, v_ext, v_extO, v_addR, v_addO, v_addL, v_addT, v_top, h_set, h_push, h_lt, h_lenS, h_lenA, w_add, w_addBB, w_sub, w_iadd, w_isub, w_ltT, w_le, w_gt, w_ge, w_neg, w_intI, w_intB, w_abs, w_max, w_min, w_lenL, w_lenT, w_lenLo, w_lenTo, w_reprB, w_lenStr, w_strI, w_strS, v_loopN, v_loopC, v_loopB, v_loopR, List.length_cons, List.length_nil, Nat.reduceAdd, Nat.reduceSub, Nat.reduceLeDiff, Nat.reduceMul, Int.reduceLT, Int.reduceLE, Int.reduceAdd, Int.reduceSub, Int.reduceMul, Int.reduceEq, Int.reduceNeg, Nat.reduceEqDiff, reduceIte, List.replicate_succ, List.replicate_zero, List.cons_append, List.nil_append, Bool.not_true, Bool.not_false, Bool.and_true, Bool.true_and, Bool.and_false, Bool.false_and, Bool.or_true, Bool.true_or, Bool.or_false, Bool.false_or, decide_true, decide_false, Option.isSome_some, beq_self_eq_true, o_mod, o_div, o_mul, o_eqI, o_neI, o_eqB, o_neB, o_isiI, o_isiB, o_isiS, ite_iteE, e, intB]; rfl
  | _ => cases hw
/-- the exception that tells a number -/
abbrev xNum (w : W) : Ex := ⟨"InvalidNumber", [("given", w)]⟩
theorem reqL_bad (h : List O) (w : W) (a : String) (hw : tyOf w = some a) (hb : intB w = true → nNotIn h w w_BOTH_LETTERS = some (.bl true)) : m_require_letters [w] h = .exc (xNum w) h := by
  have e := is_integer h w a hw
  rw [m_require_letters_eq]; unfold b_require_letters
  cases hi : intB w with
  | true =>
    rw [hi] at e
    have n := hb hi
    simp only [v_Ok, v_Nx, v_bind, v_bind0, v_sbind, v_nb, v_bindx, v_sbindx, v_ofO, v_ofH, v_ofR, v_ofE, v_omap, v_obind, v_iteT, v_iteF, v_mAnd, v_mOr, v_mAndW, v_mOrW, v_var0, v_varS, v_c, v_op, v_un, v_cb, v_call, v_bm, v_pM, v_pF, v_nil, v_cons, v_star, v_b, v_asB, v_tru, v_notT, v_not, v_andT, v_orT, v_and, v_or, v_if, v_chain, v_tup, v_lst, v_lstN, v_okLen, v_sl, v_noP, v_asI, v_part, v_it, v_rng, v_zip, v_lc, v_lcN, v_wipe0, v_wipeS, v_set0, v_setS, v_lsetr, v_lsetS, v_seq, v_seqN, v_seqR, v_seqB, v_seqC, v_seqX, v_next, v_brk, v_cnt, v_drop, v_ret, v_retN, v_ifS, v_set, v_two, v_par, v_asg, v_store, v_aug, v_itD, v_items, d_T, d_To, d_L, d_Lo, d_S, d_D, d_R, d_RO, d_ROd, d_I, d_IR, d_IRO, v_one, v_enum, v_zipT, v_augS, v_disp, v_prs0, v_prsS, v_fmt, v_for, v_def, v_dnx, v_drt, v_dexc, v_map0, v_mapS, v_gN, v_gT, v_gTo, v_gNs0, v_gNsS, v_yes, v_insOf, v_insO, v_isIns, v_isO, v_isOL, v_isT, v_isLs, v_isI, v_isS, v_slot0, v_slotS, v_slot, v_meth, v_make, v_beqN, v_refOf, v_put, v_putW00, v_putW0S, v_putWS0, v_putWSS, v_isi, v_lenSet, v_lenC, v_strC, v_dctN, v_lstO, v_ixR, v_ixO, v_seqRf, v_seqT, v_seqTo, v_seqLs, v_seqLo, v_lenR, v_isTR, v_isTO, v_isTOd, v_isTL, v_isTS, v_itR, v_itL, v_itT, v_itTo, v_itS, v_truR, v_truT, v_truL, v_truB, v_truI, v_setR, v_setO, v_app, v_appO, v_ext, v_extO, v_addR, v_addO, v_addL, v_addT, v_top, h_set, h_push, h_lt, h_lenS, h_lenA, w_add, w_addBB, w_sub, w_iadd, w_isub, w_ltT, w_le, w_gt, w_ge, w_neg, w_intI, w_intB, w_abs, w_max, w_min, w_lenL, w_lenT, w_lenLo, w_lenTo, w_reprB, w_lenStr, w_strI, w_strS, v_loopN, v_loopC, v_loopB, v_loopR, List.length_cons, List.length_nil, Nat.reduceAdd, Nat.reduceSub, Nat.reduceLeDiff, Nat.reduceMul, Int.reduceLT, Int.reduceLE, Int.reduceAdd, Int.reduceSub, Int.reduceMul, Int.reduceEq, Int.reduceNeg, Nat.reduceEqDiff, reduceIte, List.replicate_succ, List.replicate_zero, List.cons_append, List.nil_append, Bool.not_true, Bool.not_false, Bool.and_true, Bool.true_and, Bool.and_false, Bool.false_and, Bool.or_true, Bool.true_or, Bool.or_false, Bool.false_or, decide_true, decide_false, Option.isSome_some, beq_self_eq_true, o_mod, o_div, o_mul, o_eqI, o_neI, o_eqB, o_neB, o_isiI, o_isiB, o_isiS, ite_iteE, e, n, v_raiseX]
  | false =>
    rw [hi] at e
    simp only [v_Ok, v_Nx, v_bind, v_bind0, v_sbind, v_nb, v_bindx, v_sbindx, v_ofO, v_ofH, v_ofR, v_ofE, v_omap, v_obind, v_iteT, v_iteF, v_mAnd, v_mOr, v_mAndW, v_mOrW, v_var0, v_varS, v_c, v_op, v_un, v_cb, v_call, v_bm, v_pM, v_pF, v_nil, v_cons, v_star, v_b, v_asB, v_tru, v_notT, v_not, v_andT, v_orT, v_and, v_or, v_if, v_chain, v_tup, v_lst, v_lstN, v_okLen, v_sl, v_noP, v_asI, v_part, v_it, v_rng, v_zip, v_lc, v_lcN, v_wipe0, v_wipeS, v_set0, v_setS, v_lsetr, v_lsetS, v_seq, v_seqN, v_seqR, v_seqB, v_seqC, v_seqX, v_next, v_brk, v_cnt, v_drop, v_ret, v_retN, v_ifS, v_set, v_two, v_par, v_asg, v_store, v_aug, v_itD, v_items, d_T, d_To, d_L, d_Lo, d_S, d_D, d_R, d_RO, d_ROd, d_I, d_IR, d_IRO, v_one, v_enum, v_zipT, v_augS, v_disp, v_prs0, v_prsS, v_fmt, v_for, v_def, v_dnx, v_drt, v_dexc, v_map0, v_mapS, v_gN, v_gT, v_gTo, v_gNs0, v_gNsS, v_yes, v_insOf, v_insO, v_isIns, v_isO, v_isOL, v_isT, v_isLs, v_isI, v_isS, v_slot0, v_slotS, v_slot, v_meth, v_make, v_beqN, v_refOf, v_put, v_putW00, v_putW0S, v_putWS0, v_putWSS, v_isi, v_lenSet, v_lenC, v_strC, v_dctN, v_lstO, v_ixR, v_ixO, v_seqRf, v_seqT, v_seqTo, v_seqLs, v_seqLo, v_lenR, v_isTR, v_isTO, v_isTOd, v_isTL, v_isTS, v_itR, v_itL, v_itT, v_itTo, v_itS, v_truR, v_truT, v_truL, v_truB, v_truI, v_setR, v_setO, v_app, v_appO, v_ext, v_extO, v_addR, v_addO, v_addL, v_addT, v_top, h_set, h_push, h_lt, h_lenS, h_lenA, w_add, w_addBB, w_sub, w_iadd, w_isub, w_ltT, w_le, w_gt, w_ge, w_neg, w_intI, w_intB, w_abs, w_max, w_min, w_lenL, w_lenT, w_lenLo, w_lenTo, w_reprB, w_lenStr, w_strI, w_strS, v_loopN, v_loopC, v_loopB, v_loopR, List.length_cons, List.length_nil, Nat.reduceAdd, Nat.reduceSub, Nat.reduceLeDiff, Nat.reduceMul, Int.reduceLT, Int.reduceLE, Int.reduceAdd, Int.reduceSub, Int.reduceMul, Int.reduceEq, Int.reduceNeg, Nat.reduceEqDiff, reduceIte, List.replicate_succ, List.replicate_zero, List.cons_append, List.nil_append, Bool.not_true, Bool.not_false, Bool.and_true, Bool.true_and, Bool.and_false, Bool.false_and, Bool.or_true, Bool.true_or, Bool.or_false, Bool.false_or, decide_true, decide_false, Option.isSome_some, beq_self_eq_true, o_mod, o_div, o_mul, o_eqI, o_neI, o_eqB, o_neB, o_isiI, o_isiB, o_isiS, ite_iteE, e, v_raiseX]
theorem reqL_ok (h : List O) (k : Nat) (hk : k = 2 ∨ k = 4) : m_require_letters [nW k] h = .ok .non h := by
  have e := is_integer h (nW k) "int" rfl
  have hi : intB (nW k) = true := by rcases hk with rfl | rfl <;> decide
  have n : nNotIn h (nW k) w_BOTH_LETTERS = some (.bl false) := by rcases hk with rfl | rfl <;> rfl
  rw [hi] at e
  rw [m_require_letters_eq]; unfold b_require_letters
  simp only [v_Ok, v_Nx, v_bind, v_bind0, v_sbind, v_nb, v_bindx, v_sbindx, v_ofO, v_ofH, v_ofR, v_ofE, v_omap, v_obind, v_iteT, v_iteF, v_mAnd, v_mOr, v_mAndW, v_mOrW, v_var0, v_varS, v_c, v_op, v_un, v_cb, v_call, v_bm, v_pM, v_pF, v_nil, v_cons, v_star, v_b, v_asB, v_tru, v_notT, v_not, v_andT, v_orT, v_and, v_or, v_if, v_chain, v_tup, v_lst, v_lstN, v_okLen, v_sl, v_noP, v_asI, v_part, v_it, v_rng, v_zip, v_lc, v_lcN, v_wipe0, v_wipeS, v_set0, v_setS, v_lsetr, v_lsetS, v_seq, v_seqN, v_seqR, v_seqB, v_seqC, v_seqX, v_next, v_brk, v_cnt, v_drop, v_ret, v_retN, v_ifS, v_set, v_two, v_par, v_asg, v_store, v_aug, v_itD, v_items, d_T, d_To, d_L, d_Lo, d_S, d_D, d_R, d_RO, d_ROd, d_I, d_IR, d_IRO, v_one, v_enum, v_zipT, v_augS, v_disp, v_prs0, v_prsS, v_fmt, v_for, v_def, v_dnx, v_drt, v_dexc, v_map0, v_mapS, v_gN, v_gT, v_gTo, v_gNs0, v_gNsS, v_yes, v_insOf, v_insO, v_isIns, v_isO, v_isOL, v_isT, v_isLs, v_isI, v_isS, v_slot0, v_slotS, v_slot, v_meth, v_make, v_beqN, v_refOf, v_put, v_putW00, v_putW0S, v_putWS0, v_putWSS, v_isi, v_lenSet, v_lenC, v_strC, v_dctN, v_lstO, v_ixR, v_ixO, v_seqRf, v_seqT, v_seqTo, v_seqLs, v_seqLo, v_lenR, v_isTR, v_isTO, v_isTOd, v_isTL, v_isTS, v_itR, v_itL, v_itT, v_itTo, v_itS, v_truR, v_truT, v_truL, v_truB, v_truI, v_setR, v_setO, v_app, v_appO, v_ext, v_extO, v_addR, v_addO, v_addL, v_addT, v_top, h_set, h_push, h_lt, h_lenS, h_lenA, w_add, w_addBB, w_sub, w_iadd, w_isub, w_ltT, w_le, w_gt, w_ge, w_neg, w_intI, w_intB, w_abs, w_max, w_min, w_lenL, w_lenT, w_lenLo, w_lenTo, w_reprB, w_lenStr, w_strI, w_strS, v_loopN, v_loopC, v_loopB, v_loopR, List.length_cons, List.length_nil, Nat.reduceAdd, Nat.reduceSub, Nat.reduceLeDiff, Nat.reduceMul, Int.reduceLT, Int.reduceLE, Int.reduceAdd, Int.reduceSub, Int.reduceMul, Int.reduceEq, Int.reduceNeg, Nat.reduceEqDiff, reduceIte, List.replicate_succ, List.replicate_zero, List.cons_append, List.nil_append, Bool.not_true, Bool.not_false, Bool.and_true, Bool.true_and, Bool.and_false, Bool.false_and, Bool.or_true, Bool.true_or, Bool.or_false, Bool.false_or, decide_true, decide_false, Option.isSome_some, beq_self_eq_true, o_mod, o_div, o_mul, o_eqI, o_neI, o_eqB, o_neB, o_isiI, o_isiB, o_isiS, ite_iteE, e, n]
theorem reqW_bad (h : List O) (w : W) (a : String) (hw : tyOf w = some a) (hb : inR 0 200 w = false) : m_require_width [w] h = .exc (xNum w) h := by
  have e := within h w a 0 200 hw
  rw [hb] at e
  have e : m_is_integer_within [w, .int 0, w_MAX_WIDTH] h = .ok (.bl false) h := e
  rw [m_require_width_eq]; unfold b_require_width
  simp only [v_Ok, v_Nx, v_bind, v_bind0, v_sbind, v_nb, v_bindx, v_sbindx, v_ofO, v_ofH, v_ofR, v_ofE, v_omap, v_obind, v_iteT, v_iteF, v_mAnd, v_mOr, v_mAndW, v_mOrW, v_var0, v_varS, v_c, v_op, v_un, v_cb, v_call, v_bm, v_pM, v_pF, v_nil, v_cons, v_star, v_b, v_asB, v_tru, v_notT, v_not, v_andT, v_orT, v_and, v_or, v_if, v_chain, v_tup, v_lst, v_lstN, v_okLen, v_sl, v_noP, v_asI, v_part, v_it, v_rng, v_zip, v_lc, v_lcN, v_wipe0, v_wipeS, v_set0, v_setS, v_lsetr, v_lsetS, v_seq, v_seqN, v_seqR, v_seqB, v_seqC, v_seqX, v_next, v_brk, v_cnt, v_drop, v_ret, v_retN, v_ifS, v_set, v_two, v_par, v_asg, v_store, v_aug, v_itD, v_items, d_T, d_To, d_L, d_Lo, d_S, d_D, d_R, d_RO, d_ROd, d_I, d_IR, d_IRO, v_one, v_enum, v_zipT, v_augS, v_disp, v_prs0, v_prsS, v_fmt, v_for, v_def, v_dnx, v_drt, v_dexc, v_map0, v_mapS, v_gN, v_gT, v_gTo, v_gNs0, v_gNsS, v_yes, v_insOf, v_insO, v_isIns, v_isO, v_isOL, v_isT, v_isLs, v_isI, v_isS, v_slot0, v_slotS, v_slot, v_meth, v_make, v_beqN, v_refOf, v_put, v_putW00, v_putW0S, v_putWS0, v_putWSS, v_isi, v_lenSet, v_lenC, v_strC, v_dctN, v_lstO, v_ixR, v_ixO, v_seqRf, v_seqT, v_seqTo, v_seqLs, v_seqLo, v_lenR, v_isTR, v_isTO, v_isTOd, v_isTL, v_isTS, v_itR, v_itL, v_itT, v_itTo, v_itS, v_truR, v_truT, v_truL, v_truB, v_truI, v_setR, v_setO, v_app, v_appO, v_ext, v_extO, v_addR, v_addO, v_addL, v_addT, v_top, h_set, h_push, h_lt, h_lenS, h_lenA, w_add, w_addBB, w_sub, w_iadd, w_isub, w_ltT, w_le, w_gt, w_ge, w_neg, w_intI, w_intB, w_abs, w_max, w_min, w_lenL, w_lenT, w_lenLo, w_lenTo, w_reprB, w_lenStr, w_strI, w_strS, v_loopN, v_loopC, v_loopB, v_loopR, List.length_cons, List.length_nil, Nat.reduceAdd, Nat.reduceSub, Nat.reduceLeDiff, Nat.reduceMul, Int.reduceLT, Int.reduceLE, Int.reduceAdd, Int.reduceSub, Int.reduceMul, Int.reduceEq, Int.reduceNeg, Nat.reduceEqDiff, reduceIte, List.replicate_succ, List.replicate_zero, List.cons_append, List.nil_append, Bool.not_true, Bool.not_false, Bool.and_true, Bool.true_and, Bool.and_false, Bool.false_and, Bool.or_true, Bool.true_or, Bool.or_false, Bool.false_or, decide_true, decide_false, Option.isSome_some, beq_self_eq_true, o_mod, o_div, o_mul, o_eqI, o_neI, o_eqB, o_neB, o_isiI, o_isiB, o_isiS, ite_iteE, e, v_raiseX]
theorem v_listX {xs : List Str} {mb : MGn} {n : Nat} {na : MA} {σ : Slo} {h : List O} : mListX xs mb n na σ h = (na σ h).bD fun ws h1 => lxK xs (finL (drainL [] (mb (startN n ws) h1))) := Eq.trans rfl rfl
theorem lxK_x (w : W) (h : List O) : lxK xs_texts_of (.exc (xNum w) h) = .exc (xNum w) h := by
  unfold lxK
  exact if_pos (by decide : ("InvalidNumber" : Str) ∈ xs_texts_of)
theorem call1_L (h : List O) (w x : W) (e : m_require_letters [w] h = .exc (xNum w) h) : m_law_call [.int 1, w, x] h = .exc (xNum w) h := by
  have t : y_texts_of (startN 5 [w, x]) h = .fin (.exc (xNum w) (startN 5 [w, x]) h) := by
    rw [y_texts_of_eq]; unfold yb_texts_of
    refine y_seqX ?_
    show mDrop _ [some w, some x, none, none, none] h = _
    simp only [v_Ok, v_Nx, v_bind, v_bind0, v_sbind, v_nb, v_bindx, v_sbindx, v_ofO, v_ofH, v_ofR, v_ofE, v_omap, v_obind, v_iteT, v_iteF, v_mAnd, v_mOr, v_mAndW, v_mOrW, v_var0, v_varS, v_c, v_op, v_un, v_cb, v_call, v_bm, v_pM, v_pF, v_nil, v_cons, v_star, v_b, v_asB, v_tru, v_notT, v_not, v_andT, v_orT, v_and, v_or, v_if, v_chain, v_tup, v_lst, v_lstN, v_okLen, v_sl, v_noP, v_asI, v_part, v_it, v_rng, v_zip, v_lc, v_lcN, v_wipe0, v_wipeS, v_set0, v_setS, v_lsetr, v_lsetS, v_seq, v_seqN, v_seqR, v_seqB, v_seqC, v_seqX, v_next, v_brk, v_cnt, v_drop, v_ret, v_retN, v_ifS, v_set, v_two, v_par, v_asg, v_store, v_aug, v_itD, v_items, d_T, d_To, d_L, d_Lo, d_S, d_D, d_R, d_RO, d_ROd, d_I, d_IR, d_IRO, v_one, v_enum, v_zipT, v_augS, v_disp, v_prs0, v_prsS, v_fmt, v_for, v_def, v_dnx, v_drt, v_dexc, v_map0, v_mapS, v_gN, v_gT, v_gTo, v_gNs0, v_gNsS, v_yes, v_insOf, v_insO, v_isIns, v_isO, v_isOL, v_isT, v_isLs, v_isI, v_isS, v_slot0, v_slotS, v_slot, v_meth, v_make, v_beqN, v_refOf, v_put, v_putW00, v_putW0S, v_putWS0, v_putWSS, v_isi, v_lenSet, v_lenC, v_strC, v_dctN, v_lstO, v_ixR, v_ixO, v_seqRf, v_seqT, v_seqTo, v_seqLs, v_seqLo, v_lenR, v_isTR, v_isTO, v_isTOd, v_isTL, v_isTS, v_itR, v_itL, v_itT, v_itTo, v_itS, v_truR, v_truT, v_truL, v_truB, v_truI, v_setR, v_setO, v_app, v_appO, v_ext, v_extO, v_addR, v_addO, v_addL, v_addT, v_top, h_set, h_push, h_lt, h_lenS, h_lenA, w_add, w_addBB, w_sub, w_iadd, w_isub, w_ltT, w_le, w_gt, w_ge, w_neg, w_intI, w_intB, w_abs, w_max, w_min, w_lenL, w_lenT, w_lenLo, w_lenTo, w_reprB, w_lenStr, w_strI, w_strS, v_loopN, v_loopC, v_loopB, v_loopR, List.length_cons, List.length_nil, Nat.reduceAdd, Nat.reduceSub, Nat.reduceLeDiff, Nat.reduceMul, Int.reduceLT, Int.reduceLE, Int.reduceAdd, Int.reduceSub, Int.reduceMul, Int.reduceEq, Int.reduceNeg, Nat.reduceEqDiff, reduceIte, List.replicate_succ, List.replicate_zero, List.cons_append, List.nil_append, Bool.not_true, Bool.not_false, Bool.and_true, Bool.true_and, Bool.and_false, Bool.false_and, Bool.or_true, Bool.true_or, Bool.or_false, Bool.false_or, decide_true, decide_false, Option.isSome_some, beq_self_eq_true, o_mod, o_div, o_mul, o_eqI, o_neI, o_eqB, o_neB, o_isiI, o_isiB, o_isiS, ite_iteE, e]
    rfl
  have t2 : finL (drainL [] (y_texts_of (startN 5 [w, x]) h)) = .exc (xNum w) h := by rw [t]; exact drainX
  have l := lxK_x w h
  rw [m_law_call_eq]; unfold b_law_call
  simp only [v_Ok, v_Nx, v_bind, v_bind0, v_sbind, v_nb, v_bindx, v_sbindx, v_ofO, v_ofH, v_ofR, v_ofE, v_omap, v_obind, v_iteT, v_iteF, v_mAnd, v_mOr, v_mAndW, v_mOrW, v_var0, v_varS, v_c, v_op, v_un, v_cb, v_call, v_bm, v_pM, v_pF, v_nil, v_cons, v_star, v_b, v_asB, v_tru, v_notT, v_not, v_andT, v_orT, v_and, v_or, v_if, v_chain, v_tup, v_lst, v_lstN, v_okLen, v_sl, v_noP, v_asI, v_part, v_it, v_rng, v_zip, v_lc, v_lcN, v_wipe0, v_wipeS, v_set0, v_setS, v_lsetr, v_lsetS, v_seq, v_seqN, v_seqR, v_seqB, v_seqC, v_seqX, v_next, v_brk, v_cnt, v_drop, v_ret, v_retN, v_ifS, v_set, v_two, v_par, v_asg, v_store, v_aug, v_itD, v_items, d_T, d_To, d_L, d_Lo, d_S, d_D, d_R, d_RO, d_ROd, d_I, d_IR, d_IRO, v_one, v_enum, v_zipT, v_augS, v_disp, v_prs0, v_prsS, v_fmt, v_for, v_def, v_dnx, v_drt, v_dexc, v_map0, v_mapS, v_gN, v_gT, v_gTo, v_gNs0, v_gNsS, v_yes, v_insOf, v_insO, v_isIns, v_isO, v_isOL, v_isT, v_isLs, v_isI, v_isS, v_slot0, v_slotS, v_slot, v_meth, v_make, v_beqN, v_refOf, v_put, v_putW00, v_putW0S, v_putWS0, v_putWSS, v_isi, v_lenSet, v_lenC, v_strC, v_dctN, v_lstO, v_ixR, v_ixO, v_seqRf, v_seqT, v_seqTo, v_seqLs, v_seqLo, v_lenR, v_isTR, v_isTO, v_isTOd, v_isTL, v_isTS, v_itR, v_itL, v_itT, v_itTo, v_itS, v_truR, v_truT, v_truL, v_truB, v_truI, v_setR, v_setO, v_app, v_appO, v_ext, v_extO, v_addR, v_addO, v_addL, v_addT, v_top, h_set, h_push, h_lt, h_lenS, h_lenA, w_add, w_addBB, w_sub, w_iadd, w_isub, w_ltT, w_le, w_gt, w_ge, w_neg, w_intI, w_intB, w_abs, w_max, w_min, w_lenL, w_lenT, w_lenLo, w_lenTo, w_reprB, w_lenStr, w_strI, w_strS, v_loopN, v_loopC, v_loopB, v_loopR, List.length_cons, List.length_nil, Nat.reduceAdd, Nat.reduceSub, Nat.reduceLeDiff, Nat.reduceMul, Int.reduceLT, Int.reduceLE, Int.reduceAdd, Int.reduceSub, Int.reduceMul, Int.reduceEq, Int.reduceNeg, Nat.reduceEqDiff, reduceIte, List.replicate_succ, List.replicate_zero, List.cons_append, List.nil_append, Bool.not_true, Bool.not_false, Bool.and_true, Bool.true_and, Bool.and_false, Bool.false_and, Bool.or_true, Bool.true_or, Bool.or_false, Bool.false_or, decide_true, decide_false, Option.isSome_some, beq_self_eq_true, o_mod, o_div, o_mul, o_eqI, o_neI, o_eqB, o_neB, o_isiI, o_isiB, o_isiS, ite_iteE, v_listX, t2, l]
theorem call1_W (h : List O) (k : Nat) (hk : k = 2 ∨ k = 4) (x : W) (e : m_require_width [x] h = .exc (xNum x) h) : m_law_call [.int 1, nW k, x] h = .exc (xNum x) h := by
  have e0 := reqL_ok h k hk
  have t : y_texts_of (startN 5 [nW k, x]) h = .fin (.exc (xNum x) (startN 5 [nW k, x]) h) := by
    rw [y_texts_of_eq]; unfold yb_texts_of
    refine (y_seqN (σ' := startN 5 [nW k, x]) (h' := h) ?_).trans (y_seqX ?_)
    · show mDrop _ [some (nW k), some x, none, none, none] h = _
      simp only [v_Ok, v_Nx, v_bind, v_bind0, v_sbind, v_nb, v_bindx, v_sbindx, v_ofO, v_ofH, v_ofR, v_ofE, v_omap, v_obind, v_iteT, v_iteF, v_mAnd, v_mOr, v_mAndW, v_mOrW, v_var0, v_varS, v_c, v_op, v_un, v_cb, v_call, v_bm, v_pM, v_pF, v_nil, v_cons, v_star, v_b, v_asB, v_tru, v_notT, v_not, v_andT, v_orT, v_and, v_or, v_if, v_chain, v_tup, v_lst, v_lstN, v_okLen, v_sl, v_noP, v_asI, v_part, v_it, v_rng, v_zip, v_lc, v_lcN, v_wipe0, v_wipeS, v_set0, v_setS, v_lsetr, v_lsetS, v_seq, v_seqN, v_seqR, v_seqB, v_seqC, v_seqX, v_next, v_brk, v_cnt, v_drop, v_ret, v_retN, v_ifS, v_set, v_two, v_par, v_asg, v_store, v_aug, v_itD, v_items, d_T, d_To, d_L, d_Lo, d_S, d_D, d_R, d_RO, d_ROd, d_I, d_IR, d_IRO, v_one, v_enum, v_zipT, v_augS, v_disp, v_prs0, v_prsS, v_fmt, v_for, v_def, v_dnx, v_drt, v_dexc, v_map0, v_mapS, v_gN, v_gT, v_gTo, v_gNs0, v_gNsS, v_yes, v_insOf, v_insO, v_isIns, v_isO, v_isOL, v_isT, v_isLs, v_isI, v_isS, v_slot0, v_slotS, v_slot, v_meth, v_make, v_beqN, v_refOf, v_put, v_putW00, v_putW0S, v_putWS0, v_putWSS, v_isi, v_lenSet, v_lenC, v_strC, v_dctN, v_lstO, v_ixR, v_ixO, v_seqRf, v_seqT, v_seqTo, v_seqLs, v_seqLo, v_lenR, v_isTR, v_isTO, v_isTOd, v_isTL, v_isTS, v_itR, v_itL, v_itT, v_itTo, v_itS, v_truR, v_truT, v_truL, v_truB, v_truI, v_setR, v_setO, v_app, v_appO, v_ext, v_extO, v_addR, v_addO, v_addL, v_addT, v_top, h_set, h_push, h_lt, h_lenS, h_lenA, w_add, w_addBB, w_sub, w_iadd, w_isub, w_ltT, w_le, w_gt, w_ge, w_neg, w_intI, w_intB, w_abs, w_max, w_min, w_lenL, w_lenT, w_lenLo, w_lenTo, w_reprB, w_lenStr, w_strI, w_strS, v_loopN, v_loopC, v_loopB, v_loopR, List.length_cons, List.length_nil, Nat.reduceAdd, Nat.reduceSub, Nat.reduceLeDiff, Nat.reduceMul, Int.reduceLT, Int.reduceLE, Int.reduceAdd, Int.reduceSub, Int.reduceMul, Int.reduceEq, Int.reduceNeg, Nat.reduceEqDiff, reduceIte, List.replicate_succ, List.replicate_zero, List.cons_append, List.nil_append, Bool.not_true, Bool.not_false, Bool.and_true, Bool.true_and, Bool.and_false, Bool.false_and, Bool.or_true, Bool.true_or, Bool.or_false, Bool.false_or, decide_true, decide_false, Option.isSome_some, beq_self_eq_true, o_mod, o_div, o_mul, o_eqI, o_neI, o_eqB, o_neB, o_isiI, o_isiB, o_isiS, ite_iteE, e0]
      rfl
    · show mDrop _ [some (nW k), some x, none, none, none] h = _
      simp only [v_Ok, v_Nx, v_bind, v_bind0, v_sbind, v_nb, v_bindx, v_sbindx, v_ofO, v_ofH, v_ofR, v_ofE, v_omap, v_obind, v_iteT, v_iteF, v_mAnd, v_mOr, v_mAndW, v_mOrW, v_var0, v_varS, v_c, v_op, v_un, v_cb, v_call, v_bm, v_pM, v_pF, v_nil, v_cons, v_star, v_b, v_asB, v_tru, v_notT, v_not, v_andT, v_orT, v_and, v_or, v_if, v_chain, v_tup, v_lst, v_lstN, v_okLen, v_sl, v_noP, v_asI, v_part, v_it, v_rng, v_zip, v_lc, v_lcN, v_wipe0, v_wipeS, v_set0, v_setS, v_lsetr, v_lsetS, v_seq, v_seqN, v_seqR, v_seqB, v_seqC, v_seqX, v_next, v_brk, v_cnt, v_drop, v_ret, v_retN, v_ifS, v_set, v_two, v_par, v_asg, v_store, v_aug, v_itD, v_items, d_T, d_To, d_L, d_Lo, d_S, d_D, d_R, d_RO, d_ROd, d_I, d_IR, d_IRO, v_one, v_enum, v_zipT, v_augS, v_disp, v_prs0, v_prsS, v_fmt, v_for, v_def, v_dnx, v_drt, v_dexc, v_map0, v_mapS, v_gN, v_gT, v_gTo, v_gNs0, v_gNsS, v_yes, v_insOf, v_insO, v_isIns, v_isO, v_isOL, v_isT, v_isLs, v_isI, v_isS, v_slot0, v_slotS, v_slot, v_meth, v_make, v_beqN, v_refOf, v_put, v_putW00, v_putW0S, v_putWS0, v_putWSS, v_isi, v_lenSet, v_lenC, v_strC, v_dctN, v_lstO, v_ixR, v_ixO, v_seqRf, v_seqT, v_seqTo, v_seqLs, v_seqLo, v_lenR, v_isTR, v_isTO, v_isTOd, v_isTL, v_isTS, v_itR, v_itL, v_itT, v_itTo, v_itS, v_truR, v_truT, v_truL, v_truB, v_truI, v_setR, v_setO, v_app, v_appO, v_ext, v_extO, v_addR, v_addO, v_addL, v_addT, v_top, h_set, h_push, h_lt, h_lenS, h_lenA, w_add, w_addBB, w_sub, w_iadd, w_isub, w_ltT, w_le, w_gt, w_ge, w_neg, w_intI, w_intB, w_abs, w_max, w_min, w_lenL, w_lenT, w_lenLo, w_lenTo, w_reprB, w_lenStr, w_strI, w_strS, v_loopN, v_loopC, v_loopB, v_loopR, List.length_cons, List.length_nil, Nat.reduceAdd, Nat.reduceSub, Nat.reduceLeDiff, Nat.reduceMul, Int.reduceLT, Int.reduceLE, Int.reduceAdd, Int.reduceSub, Int.reduceMul, Int.reduceEq, Int.reduceNeg, Nat.reduceEqDiff, reduceIte, List.replicate_succ, List.replicate_zero, List.cons_append, List.nil_append, Bool.not_true, Bool.not_false, Bool.and_true, Bool.true_and, Bool.and_false, Bool.false_and, Bool.or_true, Bool.true_or, Bool.or_false, Bool.false_or, decide_true, decide_false, Option.isSome_some, beq_self_eq_true, o_mod, o_div, o_mul, o_eqI, o_neI, o_eqB, o_neB, o_isiI, o_isiB, o_isiS, ite_iteE, e]
      rfl
  have t2 : finL (drainL [] (y_texts_of (startN 5 [nW k, x]) h)) = .exc (xNum x) h := by rw [t]; exact drainX
  have l := lxK_x x h
  rw [m_law_call_eq]; unfold b_law_call
  simp only [v_Ok, v_Nx, v_bind, v_bind0, v_sbind, v_nb, v_bindx, v_sbindx, v_ofO, v_ofH, v_ofR, v_ofE, v_omap, v_obind, v_iteT, v_iteF, v_mAnd, v_mOr, v_mAndW, v_mOrW, v_var0, v_varS, v_c, v_op, v_un, v_cb, v_call, v_bm, v_pM, v_pF, v_nil, v_cons, v_star, v_b, v_asB, v_tru, v_notT, v_not, v_andT, v_orT, v_and, v_or, v_if, v_chain, v_tup, v_lst, v_lstN, v_okLen, v_sl, v_noP, v_asI, v_part, v_it, v_rng, v_zip, v_lc, v_lcN, v_wipe0, v_wipeS, v_set0, v_setS, v_lsetr, v_lsetS, v_seq, v_seqN, v_seqR, v_seqB, v_seqC, v_seqX, v_next, v_brk, v_cnt, v_drop, v_ret, v_retN, v_ifS, v_set, v_two, v_par, v_asg, v_store, v_aug, v_itD, v_items, d_T, d_To, d_L, d_Lo, d_S, d_D, d_R, d_RO, d_ROd, d_I, d_IR, d_IRO, v_one, v_enum, v_zipT, v_augS, v_disp, v_prs0, v_prsS, v_fmt, v_for, v_def, v_dnx, v_drt, v_dexc, v_map0, v_mapS, v_gN, v_gT, v_gTo, v_gNs0, v_gNsS, v_yes, v_insOf, v_insO, v_isIns, v_isO, v_isOL, v_isT, v_isLs, v_isI, v_isS, v_slot0, v_slotS, v_slot, v_meth, v_make, v_beqN, v_refOf, v_put, v_putW00, v_putW0S, v_putWS0, v_putWSS, v_isi, v_lenSet, v_lenC, v_strC, v_dctN, v_lstO, v_ixR, v_ixO, v_seqRf, v_seqT, v_seqTo, v_seqLs, v_seqLo, v_lenR, v_isTR, v_isTO, v_isTOd, v_isTL, v_isTS, v_itR, v_itL, v_itT, v_itTo, v_itS, v_truR, v_truT, v_truL, v_truB, v_truI, v_setR, v_setO, v_app, v_appO, v_ext, v_extO, v_addR, v_addO, v_addL, v_addT, v_top, h_set, h_push, h_lt, h_lenS, h_lenA, w_add, w_addBB, w_sub, w_iadd, w_isub, w_ltT, w_le, w_gt, w_ge, w_neg, w_intI, w_intB, w_abs, w_max, w_min, w_lenL, w_lenT, w_lenLo, w_lenTo, w_reprB, w_lenStr, w_strI, w_strS, v_loopN, v_loopC, v_loopB, v_loopR, List.length_cons, List.length_nil, Nat.reduceAdd, Nat.reduceSub, Nat.reduceLeDiff, Nat.reduceMul, Int.reduceLT, Int.reduceLE, Int.reduceAdd, Int.reduceSub, Int.reduceMul, Int.reduceEq, Int.reduceNeg, Nat.reduceEqDiff, reduceIte, List.replicate_succ, List.replicate_zero, List.cons_append, List.nil_append, Bool.not_true, Bool.not_false, Bool.and_true, Bool.true_and, Bool.and_false, Bool.false_and, Bool.or_true, Bool.true_or, Bool.or_false, Bool.false_or, decide_true, decide_false, Option.isSome_some, beq_self_eq_true, o_mod, o_div, o_mul, o_eqI, o_neI, o_eqB, o_neB, o_isiI, o_isiB, o_isiS, ite_iteE, v_listX, t2, l]
theorem mt_nn : mtab "InvalidNumber" "InvalidNumber" = some true := by decide
theorem mt_tn : mtab "InvalidText" "InvalidNumber" = some false := by decide
theorem mt_tt : mtab "InvalidText" "InvalidText" = some true := by decide
theorem mt_on : mtab "InvalidOperation" "InvalidNumber" = some false := by decide
theorem mt_ot : mtab "InvalidOperation" "InvalidText" = some false := by decide
theorem mt_oo : mtab "InvalidOperation" "InvalidOperation" = some true := by decide
theorem exo1 (x : W) : exoF "given" (.exo ["given"] [x]) = some x := by simp [exoF]
theorem asked_num (h : List O) (k x y w : W) (r q : Str) (hc : m_law_call [k, x, y] h = .exc (xNum w) h) (hr : nReprG h [w] = some (.str r)) (ha : nAdd h (.str "number ") (.str r) = some (.str q)) : m_law_asked [k, x, y] h = .ok (.str q) h := by
  have n1 : nx (.str q) = true := rfl
  have hc : m_law_call [k, x, y] h = .exc ⟨"InvalidNumber", [("given", w)]⟩ h := hc
  rw [m_law_asked_eq]; unfold b_law_asked
  simp only [v_Ok, v_Nx, v_bind, v_bind0, v_sbind, v_nb, v_bindx, v_sbindx, v_ofO, v_ofH, v_ofR, v_ofE, v_omap, v_obind, v_iteT, v_iteF, v_mAnd, v_mOr, v_mAndW, v_mOrW, v_var0, v_varS, v_c, v_op, v_un, v_cb, v_call, v_bm, v_pM, v_pF, v_nil, v_cons, v_star, v_b, v_asB, v_tru, v_notT, v_not, v_andT, v_orT, v_and, v_or, v_if, v_chain, v_tup, v_lst, v_lstN, v_okLen, v_sl, v_noP, v_asI, v_part, v_it, v_rng, v_zip, v_lc, v_lcN, v_wipe0, v_wipeS, v_set0, v_setS, v_lsetr, v_lsetS, v_seq, v_seqN, v_seqR, v_seqB, v_seqC, v_seqX, v_next, v_brk, v_cnt, v_drop, v_ret, v_retN, v_ifS, v_set, v_two, v_par, v_asg, v_store, v_aug, v_itD, v_items, d_T, d_To, d_L, d_Lo, d_S, d_D, d_R, d_RO, d_ROd, d_I, d_IR, d_IRO, v_one, v_enum, v_zipT, v_augS, v_disp, v_prs0, v_prsS, v_fmt, v_for, v_def, v_dnx, v_drt, v_dexc, v_map0, v_mapS, v_gN, v_gT, v_gTo, v_gNs0, v_gNsS, v_yes, v_insOf, v_insO, v_isIns, v_isO, v_isOL, v_isT, v_isLs, v_isI, v_isS, v_slot0, v_slotS, v_slot, v_meth, v_make, v_beqN, v_refOf, v_put, v_putW00, v_putW0S, v_putWS0, v_putWSS, v_isi, v_lenSet, v_lenC, v_strC, v_dctN, v_lstO, v_ixR, v_ixO, v_seqRf, v_seqT, v_seqTo, v_seqLs, v_seqLo, v_lenR, v_isTR, v_isTO, v_isTOd, v_isTL, v_isTS, v_itR, v_itL, v_itT, v_itTo, v_itS, v_truR, v_truT, v_truL, v_truB, v_truI, v_setR, v_setO, v_app, v_appO, v_ext, v_extO, v_addR, v_addO, v_addL, v_addT, v_top, h_set, h_push, h_lt, h_lenS, h_lenA, w_add, w_addBB, w_sub, w_iadd, w_isub, w_ltT, w_le, w_gt, w_ge, w_neg, w_intI, w_intB, w_abs, w_max, w_min, w_lenL, w_lenT, w_lenLo, w_lenTo, w_reprB, w_lenStr, w_strI, w_strS, v_loopN, v_loopC, v_loopB, v_loopR, List.length_cons, List.length_nil, Nat.reduceAdd, Nat.reduceSub, Nat.reduceLeDiff, Nat.reduceMul, Int.reduceLT, Int.reduceLE, Int.reduceAdd, Int.reduceSub, Int.reduceMul, Int.reduceEq, Int.reduceNeg, Nat.reduceEqDiff, reduceIte, List.replicate_succ, List.replicate_zero, List.cons_append, List.nil_append, Bool.not_true, Bool.not_false, Bool.and_true, Bool.true_and, Bool.and_false, Bool.false_and, Bool.or_true, Bool.true_or, Bool.or_false, Bool.false_or, decide_true, decide_false, Option.isSome_some, beq_self_eq_true, o_mod, o_div, o_mul, o_eqI, o_neI, o_eqB, o_neB, o_isiI, o_isiB, o_isiS, ite_iteE, v_try, hc, v_tryX, v_hndA mt_nn, v_exoS, v_fld, exo1, hr, ha, v_suf n1]
theorem asked_text (h : List O) (k x y : W) (hc : m_law_call [k, x, y] h = .exc ⟨"InvalidText", []⟩ h) : m_law_asked [k, x, y] h = .ok (.str "text") h := by
  have n1 : nx (.str "text") = true := rfl
  rw [m_law_asked_eq]; unfold b_law_asked
  simp only [v_Ok, v_Nx, v_bind, v_bind0, v_sbind, v_nb, v_bindx, v_sbindx, v_ofO, v_ofH, v_ofR, v_ofE, v_omap, v_obind, v_iteT, v_iteF, v_mAnd, v_mOr, v_mAndW, v_mOrW, v_var0, v_varS, v_c, v_op, v_un, v_cb, v_call, v_bm, v_pM, v_pF, v_nil, v_cons, v_star, v_b, v_asB, v_tru, v_notT, v_not, v_andT, v_orT, v_and, v_or, v_if, v_chain, v_tup, v_lst, v_lstN, v_okLen, v_sl, v_noP, v_asI, v_part, v_it, v_rng, v_zip, v_lc, v_lcN, v_wipe0, v_wipeS, v_set0, v_setS, v_lsetr, v_lsetS, v_seq, v_seqN, v_seqR, v_seqB, v_seqC, v_seqX, v_next, v_brk, v_cnt, v_drop, v_ret, v_retN, v_ifS, v_set, v_two, v_par, v_asg, v_store, v_aug, v_itD, v_items, d_T, d_To, d_L, d_Lo, d_S, d_D, d_R, d_RO, d_ROd, d_I, d_IR, d_IRO, v_one, v_enum, v_zipT, v_augS, v_disp, v_prs0, v_prsS, v_fmt, v_for, v_def, v_dnx, v_drt, v_dexc, v_map0, v_mapS, v_gN, v_gT, v_gTo, v_gNs0, v_gNsS, v_yes, v_insOf, v_insO, v_isIns, v_isO, v_isOL, v_isT, v_isLs, v_isI, v_isS, v_slot0, v_slotS, v_slot, v_meth, v_make, v_beqN, v_refOf, v_put, v_putW00, v_putW0S, v_putWS0, v_putWSS, v_isi, v_lenSet, v_lenC, v_strC, v_dctN, v_lstO, v_ixR, v_ixO, v_seqRf, v_seqT, v_seqTo, v_seqLs, v_seqLo, v_lenR, v_isTR, v_isTO, v_isTOd, v_isTL, v_isTS, v_itR, v_itL, v_itT, v_itTo, v_itS, v_truR, v_truT, v_truL, v_truB, v_truI, v_setR, v_setO, v_app, v_appO, v_ext, v_extO, v_addR, v_addO, v_addL, v_addT, v_top, h_set, h_push, h_lt, h_lenS, h_lenA, w_add, w_addBB, w_sub, w_iadd, w_isub, w_ltT, w_le, w_gt, w_ge, w_neg, w_intI, w_intB, w_abs, w_max, w_min, w_lenL, w_lenT, w_lenLo, w_lenTo, w_reprB, w_lenStr, w_strI, w_strS, v_loopN, v_loopC, v_loopB, v_loopR, List.length_cons, List.length_nil, Nat.reduceAdd, Nat.reduceSub, Nat.reduceLeDiff, Nat.reduceMul, Int.reduceLT, Int.reduceLE, Int.reduceAdd, Int.reduceSub, Int.reduceMul, Int.reduceEq, Int.reduceNeg, Nat.reduceEqDiff, reduceIte, List.replicate_succ, List.replicate_zero, List.cons_append, List.nil_append, Bool.not_true, Bool.not_false, Bool.and_true, Bool.true_and, Bool.and_false, Bool.false_and, Bool.or_true, Bool.true_or, Bool.or_false, Bool.false_or, decide_true, decide_false, Option.isSome_some, beq_self_eq_true, o_mod, o_div, o_mul, o_eqI, o_neI, o_eqB, o_neB, o_isiI, o_isiB, o_isiS, ite_iteE, v_try, hc, v_tryX, v_hndN mt_tn, v_hndY mt_tt, v_sufR, v_suf n1]
theorem asked_op (h : List O) (k x y : W) (hc : m_law_call [k, x, y] h = .exc ⟨"InvalidOperation", []⟩ h) : m_law_asked [k, x, y] h = .ok (.str "operation") h := by
  have n1 : nx (.str "operation") = true := rfl
  rw [m_law_asked_eq]; unfold b_law_asked
  simp only [v_Ok, v_Nx, v_bind, v_bind0, v_sbind, v_nb, v_bindx, v_sbindx, v_ofO, v_ofH, v_ofR, v_ofE, v_omap, v_obind, v_iteT, v_iteF, v_mAnd, v_mOr, v_mAndW, v_mOrW, v_var0, v_varS, v_c, v_op, v_un, v_cb, v_call, v_bm, v_pM, v_pF, v_nil, v_cons, v_star, v_b, v_asB, v_tru, v_notT, v_not, v_andT, v_orT, v_and, v_or, v_if, v_chain, v_tup, v_lst, v_lstN, v_okLen, v_sl, v_noP, v_asI, v_part, v_it, v_rng, v_zip, v_lc, v_lcN, v_wipe0, v_wipeS, v_set0, v_setS, v_lsetr, v_lsetS, v_seq, v_seqN, v_seqR, v_seqB, v_seqC, v_seqX, v_next, v_brk, v_cnt, v_drop, v_ret, v_retN, v_ifS, v_set, v_two, v_par, v_asg, v_store, v_aug, v_itD, v_items, d_T, d_To, d_L, d_Lo, d_S, d_D, d_R, d_RO, d_ROd, d_I, d_IR, d_IRO, v_one, v_enum, v_zipT, v_augS, v_disp, v_prs0, v_prsS, v_fmt, v_for, v_def, v_dnx, v_drt, v_dexc, v_map0, v_mapS, v_gN, v_gT, v_gTo, v_gNs0, v_gNsS, v_yes, v_insOf, v_insO, v_isIns, v_isO, v_isOL, v_isT, v_isLs, v_isI, v_isS, v_slot0, v_slotS, v_slot, v_meth, v_make, v_beqN, v_refOf, v_put, v_putW00, v_putW0S, v_putWS0, v_putWSS, v_isi, v_lenSet, v_lenC, v_strC, v_dctN, v_lstO, v_ixR, v_ixO, v_seqRf, v_seqT, v_seqTo, v_seqLs, v_seqLo, v_lenR, v_isTR, v_isTO, v_isTOd, v_isTL, v_isTS, v_itR, v_itL, v_itT, v_itTo, v_itS, v_truR, v_truT, v_truL, v_truB, v_truI, v_setR, v_setO, v_app, v_appO, v_ext, v_extO, v_addR, v_addO, v_addL, v_addT, v_top, h_set, h_push, h_lt, h_lenS, h_lenA, w_add, w_addBB, w_sub, w_iadd, w_isub, w_ltT, w_le, w_gt, w_ge, w_neg, w_intI, w_intB, w_abs, w_max, w_min, w_lenL, w_lenT, w_lenLo, w_lenTo, w_reprB, w_lenStr, w_strI, w_strS, v_loopN, v_loopC, v_loopB, v_loopR, List.length_cons, List.length_nil, Nat.reduceAdd, Nat.reduceSub, Nat.reduceLeDiff, Nat.reduceMul, Int.reduceLT, Int.reduceLE, Int.reduceAdd, Int.reduceSub, Int.reduceMul, Int.reduceEq, Int.reduceNeg, Nat.reduceEqDiff, reduceIte, List.replicate_succ, List.replicate_zero, List.cons_append, List.nil_append, Bool.not_true, Bool.not_false, Bool.and_true, Bool.true_and, Bool.and_false, Bool.false_and, Bool.or_true, Bool.true_or, Bool.or_false, Bool.false_or, decide_true, decide_false, Option.isSome_some, beq_self_eq_true, o_mod, o_div, o_mul, o_eqI, o_neI, o_eqB, o_neB, o_isiI, o_isiB, o_isiS, ite_iteE, v_try, hc, v_tryX, v_hndN mt_on, v_hndN mt_ot, v_hndY mt_oo, v_sufR, v_suf n1]
theorem asked_told (h : List O) (k x y z : W) (hc : m_law_call [k, x, y] h = .ok z h) : m_law_asked [k, x, y] h = .ok (.str "told") h := by
  rw [m_law_asked_eq]; unfold b_law_asked
  simp only [v_Ok, v_Nx, v_bind, v_bind0, v_sbind, v_nb, v_bindx, v_sbindx, v_ofO, v_ofH, v_ofR, v_ofE, v_omap, v_obind, v_iteT, v_iteF, v_mAnd, v_mOr, v_mAndW, v_mOrW, v_var0, v_varS, v_c, v_op, v_un, v_cb, v_call, v_bm, v_pM, v_pF, v_nil, v_cons, v_star, v_b, v_asB, v_tru, v_notT, v_not, v_andT, v_orT, v_and, v_or, v_if, v_chain, v_tup, v_lst, v_lstN, v_okLen, v_sl, v_noP, v_asI, v_part, v_it, v_rng, v_zip, v_lc, v_lcN, v_wipe0, v_wipeS, v_set0, v_setS, v_lsetr, v_lsetS, v_seq, v_seqN, v_seqR, v_seqB, v_seqC, v_seqX, v_next, v_brk, v_cnt, v_drop, v_ret, v_retN, v_ifS, v_set, v_two, v_par, v_asg, v_store, v_aug, v_itD, v_items, d_T, d_To, d_L, d_Lo, d_S, d_D, d_R, d_RO, d_ROd, d_I, d_IR, d_IRO, v_one, v_enum, v_zipT, v_augS, v_disp, v_prs0, v_prsS, v_fmt, v_for, v_def, v_dnx, v_drt, v_dexc, v_map0, v_mapS, v_gN, v_gT, v_gTo, v_gNs0, v_gNsS, v_yes, v_insOf, v_insO, v_isIns, v_isO, v_isOL, v_isT, v_isLs, v_isI, v_isS, v_slot0, v_slotS, v_slot, v_meth, v_make, v_beqN, v_refOf, v_put, v_putW00, v_putW0S, v_putWS0, v_putWSS, v_isi, v_lenSet, v_lenC, v_strC, v_dctN, v_lstO, v_ixR, v_ixO, v_seqRf, v_seqT, v_seqTo, v_seqLs, v_seqLo, v_lenR, v_isTR, v_isTO, v_isTOd, v_isTL, v_isTS, v_itR, v_itL, v_itT, v_itTo, v_itS, v_truR, v_truT, v_truL, v_truB, v_truI, v_setR, v_setO, v_app, v_appO, v_ext, v_extO, v_addR, v_addO, v_addL, v_addT, v_top, h_set, h_push, h_lt, h_lenS, h_lenA, w_add, w_addBB, w_sub, w_iadd, w_isub, w_ltT, w_le, w_gt, w_ge, w_neg, w_intI, w_intB, w_abs, w_max, w_min, w_lenL, w_lenT, w_lenLo, w_lenTo, w_reprB, w_lenStr, w_strI, w_strS, v_loopN, v_loopC, v_loopB, v_loopR, List.length_cons, List.length_nil, Nat.reduceAdd, Nat.reduceSub, Nat.reduceLeDiff, Nat.reduceMul, Int.reduceLT, Int.reduceLE, Int.reduceAdd, Int.reduceSub, Int.reduceMul, Int.reduceEq, Int.reduceNeg, Nat.reduceEqDiff, reduceIte, List.replicate_succ, List.replicate_zero, List.cons_append, List.nil_append, Bool.not_true, Bool.not_false, Bool.and_true, Bool.true_and, Bool.and_false, Bool.false_and, Bool.or_true, Bool.true_or, Bool.or_false, Bool.false_or, decide_true, decide_false, Option.isSome_some, beq_self_eq_true, o_mod, o_div, o_mul, o_eqI, o_neI, o_eqB, o_neB, o_isiI, o_isiB, o_isiS, ite_iteE, v_try, hc, v_tryN]
/-- a value of which a number's error tells: its text -/
structure Told (w : W) : Prop where
  ex : ∃ r q : Str, (∀ h, nReprG h [w] = some (.str r)) ∧ (∀ h, nAdd h (.str "number ") (.str r) = some (.str q)) ∧ PyData.strOk q = true
def NN : List W := [.non, .bl true, .bl false, .str "2", .int (-1), .int (-2), .int 201, .int (10 ^ 60), .int (10 ^ 60 * 10 ^ 39), .tup [.int 2], .lst [.int 2], .str "", .dct false [(.int 2, .int 4)]]
def TT : List (W × Str) := [(.non, "None"), (.bl true, "True"), (.bl false, "False"), (.str "2", "'2'"), (.int (-1), "-1"), (.int (-2), "-2"), (.int 201, "201"), (.int (10 ^ 60), "1000000000000000000000000000000000000000000000000000000000000"),
  (.int (10 ^ 60 * 10 ^ 39), "1000000000000000000000000000000000000000000000000000000000000000000000000000000000000000000000000000"), (.tup [.int 2], "(2,)"), (.lst [.int 2], "[2]"), (.str "", "''"), (.dct false [(.int 2, .int 4)], "{2: 4}"), (.int 0, "0"), (.int 1, "1"), (.int 3, "3"), (.int 5, "5"), (.int 2, "2"), (.int 4, "4")]
theorem told_of : ∀ p ∈ TT, Told p.1 := by
  have k : ∀ (w : W) (r : Str), (∀ h, nReprG h [w] = some (.str r)) → (r.length ≤ 1000) → PyData.strOk (Str.append "number " r) = true → Told w := fun w r h1 h2 h3 => ⟨r, _, h1, fun h => by
    unfold nAdd guardO
    simp only []
    rw [if_pos (decide_eq_true (by have : ("number " : Str).length = 7 := by decide
                                   rw [this]; exact Nat.le_trans (Nat.add_le_add_left h2 7) (by decide)))]; rfl, h3⟩
  intro p hp
  refine k p.1 p.2 ?_ ?_ ?_
  all_goals unfold TT at hp
  all_goals simp only [List.mem_cons, List.not_mem_nil, or_false] at hp
  all_goals rcases hp with rfl | rfl | rfl | rfl | rfl | rfl | rfl | rfl | rfl | rfl | rfl | rfl | rfl | rfl | rfl | rfl | rfl | rfl | rfl
  all_goals first | exact fun h => by kernel_rfl | decide +kernel
end N
set_option maxHeartbeats 4000000
namespace N
open PySem L2
theorem p60 (h : List O) : nPow h (.int 10) (.int 60) = some (.int (10 ^ 60)) := by
  show guardO _ _ = _
  unfold guardO
  rw [if_pos (by decide +kernel)]; rfl
theorem p39 (h : List O) : nPow h (.int 10) (.int 39) = some (.int (10 ^ 39)) := by
  show guardO _ _ = _
  unfold guardO
  rw [if_pos (by decide +kernel)]; rfl
theorem m99 (h : List O) : nMul h (.int (10 ^ 60)) (.int (10 ^ 39)) = some (.int (10 ^ 60 * 10 ^ 39)) := o_mul (by decide +kernel)
theorem no_number (b n : Nat) (h : List O) (hb : Bag b n h) (hn : n ≤ 800000000) : ∃ x h', x ∈ NN ∧ m_law_no_number [.ref b] h = .ok x h' ∧ Bag b (n + 1) h' ∧ Fx b h h' := by
  obtain ⟨x, h', hx, e, b1, f1⟩ := one_of b n h (.lst NN) NN (.inl rfl) hb (by omega) (by decide) (by decide)
  unfold NN at e
  have q1 := p60 h
  have q2 := p39 h
  have q3 := m99 h
  generalize (10 : Int) ^ 60 * 10 ^ 39 = M at *
  generalize (10 : Int) ^ 60 = M1 at *
  generalize (10 : Int) ^ 39 = M2 at *
  have dd : dispW [] [(.int 2, .int 4)] = some [(.int 2, .int 4)] := rfl
  refine ⟨x, h', hx, ?_, b1, f1⟩
  rw [m_law_no_number_eq]; unfold b_law_no_number
  simp only [v_Ok, v_Nx, v_bind, v_bind0, v_sbind, v_nb, v_bindx, v_sbindx, v_ofO, v_ofH, v_ofR, v_ofE, v_omap, v_obind, v_iteT, v_iteF, v_mAnd, v_mOr, v_mAndW, v_mOrW, v_var0, v_varS, v_c, v_op, v_un, v_cb, v_call, v_bm, v_pM, v_pF, v_nil, v_cons, v_star, v_b, v_asB, v_tru, v_notT, v_not, v_andT, v_orT, v_and, v_or, v_if, v_chain, v_tup, v_lst, v_lstN, v_okLen, v_sl, v_noP, v_asI, v_part, v_it, v_rng, v_zip, v_lc, v_lcN, v_wipe0, v_wipeS, v_set0, v_setS, v_lsetr, v_lsetS, v_seq, v_seqN, v_seqR, v_seqB, v_seqC, v_seqX, v_next, v_brk, v_cnt, v_drop, v_ret, v_retN, v_ifS, v_set, v_two, v_par, v_asg, v_store, v_aug, v_itD, v_items, d_T, d_To, d_L, d_Lo, d_S, d_D, d_R, d_RO, d_ROd, d_I, d_IR, d_IRO, v_one, v_enum, v_zipT, v_augS, v_disp, v_prs0, v_prsS, v_fmt, v_for, v_def, v_dnx, v_drt, v_dexc, v_map0, v_mapS, v_gN, v_gT, v_gTo, v_gNs0, v_gNsS, v_yes, v_insOf, v_insO, v_isIns, v_isO, v_isOL, v_isT, v_isLs, v_isI, v_isS, v_slot0, v_slotS, v_slot, v_meth, v_make, v_beqN, v_refOf, v_put, v_putW00, v_putW0S, v_putWS0, v_putWSS, v_isi, v_lenSet, v_lenC, v_strC, v_dctN, v_lstO, v_ixR, v_ixO, v_seqRf, v_seqT, v_seqTo, v_seqLs, v_seqLo, v_lenR, v_isTR, v_isTO, v_isTOd, v_isTL, v_isTS, v_itR, v_itL, v_itT, v_itTo, v_itS, v_truR, v_truT, v_truL, v_truB, v_truI, v_setR, v_setO, v_app, v_appO, v_ext, v_extO, v_addR, v_addO, v_addL, v_addT, v_top, h_set, h_push, h_lt, h_lenS, h_lenA, w_add, w_addBB, w_sub, w_iadd, w_isub, w_ltT, w_le, w_gt, w_ge, w_neg, w_intI, w_intB, w_abs, w_max, w_min, w_lenL, w_lenT, w_lenLo, w_lenTo, w_reprB, w_lenStr, w_strI, w_strS, v_loopN, v_loopC, v_loopB, v_loopR, List.length_cons, List.length_nil, Nat.reduceAdd, Nat.reduceSub, Nat.reduceLeDiff, Nat.reduceMul, Int.reduceLT, Int.reduceLE, Int.reduceAdd, Int.reduceSub, Int.reduceMul, Int.reduceEq, Int.reduceNeg, Nat.reduceEqDiff, reduceIte, List.replicate_succ, List.replicate_zero, List.cons_append, List.nil_append, Bool.not_true, Bool.not_false, Bool.and_true, Bool.true_and, Bool.and_false, Bool.false_and, Bool.or_true, Bool.true_or, Bool.or_false, Bool.false_or, decide_true, decide_false, Option.isSome_some, beq_self_eq_true, o_mod, o_div, o_mul, o_eqI, o_neI, o_eqB, o_neB, o_isiI, o_isiB, o_isiS, ite_iteE, q1, q2, q3, dd, e]
/-- what a wrong number is -/
structure Wr (w : W) : Prop where
  ty : ∃ a, tyOf w = some a
  L : ∀ h, m_require_letters [w] h = .exc (xNum w) h
  told : Told w
structure NoN (w : W) : Prop extends Wr w where
  W : ∀ h, m_require_width [w] h = .exc (xNum w) h
  line : inR 0 1 w = false
theorem told_at (w : W) (s : Str) (h : (w, s) ∈ TT) : Told w := told_of _ h
theorem noN_of : ∀ w ∈ NN, NoN w := by
  have k : ∀ (w : W) (a : String), tyOf w = some a → (∀ h, intB w = true → nNotIn h w w_BOTH_LETTERS = some (.bl true)) → inR 0 200 w = false → inR 0 1 w = false → Told w → NoN w := fun w a h1 h2 h3 h4 h5 =>
    ⟨⟨⟨a, h1⟩, fun h => reqL_bad h w a h1 (h2 h), h5⟩, fun h => reqW_bad h w a h1 h3, h4⟩
  intro w hw
  unfold NN at hw
  simp only [List.mem_cons, List.not_mem_nil, or_false] at hw
  rcases hw with rfl | rfl | rfl | rfl | rfl | rfl | rfl | rfl | rfl | rfl | rfl | rfl | rfl
  · exact k _ _ rfl (fun h z => by cases z) rfl rfl (told_at _ "None" (by unfold TT; simp))
  · exact k _ _ rfl (fun h z => by cases z) rfl rfl (told_at _ "True" (by unfold TT; simp))
  · exact k _ _ rfl (fun h z => by cases z) rfl rfl (told_at _ "False" (by unfold TT; simp))
  · exact k _ _ rfl (fun h z => by cases z) rfl rfl (told_at _ "'2'" (by unfold TT; simp))
  · exact k _ _ rfl (fun h z => rfl) (by decide +kernel) (by decide +kernel) (told_at _ "-1" (by unfold TT; simp))
  · exact k _ _ rfl (fun h z => rfl) (by decide +kernel) (by decide +kernel) (told_at _ "-2" (by unfold TT; simp))
  · exact k _ _ rfl (fun h z => rfl) (by decide +kernel) (by decide +kernel) (told_at _ "201" (by unfold TT; simp))
  · exact k _ _ rfl (fun h z => absurd z (by decide +kernel)) (by decide +kernel) (by decide +kernel) (told_at _ _ (by unfold TT; exact .tail _ (.tail _ (.tail _ (.tail _ (.tail _ (.tail _ (.tail _ (.head _)))))))))
  · exact k _ _ rfl (fun h z => absurd z (by decide +kernel)) (by decide +kernel) (by decide +kernel) (told_at _ _ (by unfold TT; exact .tail _ (.tail _ (.tail _ (.tail _ (.tail _ (.tail _ (.tail _ (.tail _ (.head _))))))))))
  · exact k _ _ rfl (fun h z => by cases z) rfl rfl (told_at _ "(2,)" (by unfold TT; simp))
  · exact k _ _ rfl (fun h z => by cases z) rfl rfl (told_at _ "[2]" (by unfold TT; simp))
  · exact k _ _ rfl (fun h z => by cases z) rfl rfl (told_at _ "''" (by unfold TT; simp))
  · exact k _ _ rfl (fun h z => by cases z) rfl rfl (told_at _ "{2: 4}" (by unfold TT; simp))
theorem wr_int (i : Int) (s : Str) (h0 : (W.int i, s) ∈ TT) (h1 : ∀ h, nNotIn h (.int i) w_BOTH_LETTERS = some (.bl true)) : Wr (.int i) :=
  ⟨⟨_, rfl⟩, fun h => reqL_bad h _ _ rfl fun _ => h1 h, told_at _ s h0⟩
theorem isText_any (h : List O) (w : W) (hw : w = .non ∨ w = .int 5 ∨ w ∈ NN ∨ w = .str "01" ∨ w = .str "9") : ∃ k, m_is_text_of [.int 2, w] h = .ok (.bl k) h := by
  have st : ∀ s : Str, s.length ≤ 200 → (∃ c ∈ s.cps.toList, c ∉ (tx (List.range 2)).cps.toList) → ∃ k, m_is_text_of [.int 2, .str s] h = .ok (.bl k) h := fun s h1 h2 => ⟨false, badT_str (k := 2) (.inl rfl) s (by omega) h2 h⟩
  have no : ∀ a, tyOf w = some a → kitB a "str" = some false → ∃ k, m_is_text_of [.int 2, w] h = .ok (.bl k) h := fun a h1 h2 => ⟨false, badT_no (k := 2) (fun h => by rw [isi_ty h w a "str" h1, h2]; rfl) h⟩
  unfold NN at hw
  simp only [List.mem_cons, List.not_mem_nil, or_false] at hw
  rcases hw with rfl | rfl | (rfl | rfl | rfl | rfl | rfl | rfl | rfl | rfl | rfl | rfl | rfl | rfl | rfl) | rfl | rfl
  · exact no _ rfl (by decide +kernel)
  · exact no _ rfl (by decide +kernel)
  · exact no _ rfl (by decide +kernel)
  · exact no _ rfl (by decide +kernel)
  · exact no _ rfl (by decide +kernel)
  · exact st "2" (by decide) ⟨50, by decide, by decide⟩
  · exact no _ rfl (by decide +kernel)
  · exact no _ rfl (by decide +kernel)
  · exact no _ rfl (by decide +kernel)
  · exact no _ rfl (by decide +kernel)
  · exact no _ rfl (by decide +kernel)
  · exact no _ rfl (by decide +kernel)
  · exact no _ rfl (by decide +kernel)
  · exact ⟨true, is_text (k := 2) (.inl rfl) h [] (by simp) (by simp)⟩
  · exact no _ rfl (by decide +kernel)
  · exact ⟨true, is_text (k := 2) (.inl rfl) h [0, 1] (by simp) (by simp)⟩
  · exact st "9" (by decide) ⟨57, by decide, by decide⟩
theorem require_text_ok {k : Nat} (hk : k = 2 ∨ k = 4) (h : List O) (t : List Nat) (hd : ∀ d ∈ t, d < k) (hl : t.length ≤ 200) : m_require_text [nW k, stx t] h = .ok .non h := by
  have e := is_text hk h t hd hl
  rw [m_require_text_eq]; unfold b_require_text
  simp only [v_Ok, v_Nx, v_bind, v_bind0, v_sbind, v_nb, v_bindx, v_sbindx, v_ofO, v_ofH, v_ofR, v_ofE, v_omap, v_obind, v_iteT, v_iteF, v_mAnd, v_mOr, v_mAndW, v_mOrW, v_var0, v_varS, v_c, v_op, v_un, v_cb, v_call, v_bm, v_pM, v_pF, v_nil, v_cons, v_star, v_b, v_asB, v_tru, v_notT, v_not, v_andT, v_orT, v_and, v_or, v_if, v_chain, v_tup, v_lst, v_lstN, v_okLen, v_sl, v_noP, v_asI, v_part, v_it, v_rng, v_zip, v_lc, v_lcN, v_wipe0, v_wipeS, v_set0, v_setS, v_lsetr, v_lsetS, v_seq, v_seqN, v_seqR, v_seqB, v_seqC, v_seqX, v_next, v_brk, v_cnt, v_drop, v_ret, v_retN, v_ifS, v_set, v_two, v_par, v_asg, v_store, v_aug, v_itD, v_items, d_T, d_To, d_L, d_Lo, d_S, d_D, d_R, d_RO, d_ROd, d_I, d_IR, d_IRO, v_one, v_enum, v_zipT, v_augS, v_disp, v_prs0, v_prsS, v_fmt, v_for, v_def, v_dnx, v_drt, v_dexc, v_map0, v_mapS, v_gN, v_gT, v_gTo, v_gNs0, v_gNsS, v_yes, v_insOf, v_insO, v_isIns, v_isO, v_isOL, v_isT, v_isLs, v_isI, v_isS, v_slot0, v_slotS, v_slot, v_meth, v_make, v_beqN, v_refOf, v_put, v_putW00, v_putW0S, v_putWS0, v_putWSS, v_isi, v_lenSet, v_lenC, v_strC, v_dctN, v_lstO, v_ixR, v_ixO, v_seqRf, v_seqT, v_seqTo, v_seqLs, v_seqLo, v_lenR, v_isTR, v_isTO, v_isTOd, v_isTL, v_isTS, v_itR, v_itL, v_itT, v_itTo, v_itS, v_truR, v_truT, v_truL, v_truB, v_truI, v_setR, v_setO, v_app, v_appO, v_ext, v_extO, v_addR, v_addO, v_addL, v_addT, v_top, h_set, h_push, h_lt, h_lenS, h_lenA, w_add, w_addBB, w_sub, w_iadd, w_isub, w_ltT, w_le, w_gt, w_ge, w_neg, w_intI, w_intB, w_abs, w_max, w_min, w_lenL, w_lenT, w_lenLo, w_lenTo, w_reprB, w_lenStr, w_strI, w_strS, v_loopN, v_loopC, v_loopB, v_loopR, List.length_cons, List.length_nil, Nat.reduceAdd, Nat.reduceSub, Nat.reduceLeDiff, Nat.reduceMul, Int.reduceLT, Int.reduceLE, Int.reduceAdd, Int.reduceSub, Int.reduceMul, Int.reduceEq, Int.reduceNeg, Nat.reduceEqDiff, reduceIte, List.replicate_succ, List.replicate_zero, List.cons_append, List.nil_append, Bool.not_true, Bool.not_false, Bool.and_true, Bool.true_and, Bool.and_false, Bool.false_and, Bool.or_true, Bool.true_or, Bool.or_false, Bool.false_or, decide_true, decide_false, Option.isSome_some, beq_self_eq_true, o_mod, o_div, o_mul, o_eqI, o_neI, o_eqB, o_neB, o_isiI, o_isiB, o_isiS, ite_iteE, e]
theorem require_text_no {k : Nat} {w : W} (hw : BadT k w) (h : List O) : m_require_text [nW k, w] h = .exc ⟨"InvalidText", []⟩ h := by
  have e := hw h
  rw [m_require_text_eq]; unfold b_require_text
  simp only [v_Ok, v_Nx, v_bind, v_bind0, v_sbind, v_nb, v_bindx, v_sbindx, v_ofO, v_ofH, v_ofR, v_ofE, v_omap, v_obind, v_iteT, v_iteF, v_mAnd, v_mOr, v_mAndW, v_mOrW, v_var0, v_varS, v_c, v_op, v_un, v_cb, v_call, v_bm, v_pM, v_pF, v_nil, v_cons, v_star, v_b, v_asB, v_tru, v_notT, v_not, v_andT, v_orT, v_and, v_or, v_if, v_chain, v_tup, v_lst, v_lstN, v_okLen, v_sl, v_noP, v_asI, v_part, v_it, v_rng, v_zip, v_lc, v_lcN, v_wipe0, v_wipeS, v_set0, v_setS, v_lsetr, v_lsetS, v_seq, v_seqN, v_seqR, v_seqB, v_seqC, v_seqX, v_next, v_brk, v_cnt, v_drop, v_ret, v_retN, v_ifS, v_set, v_two, v_par, v_asg, v_store, v_aug, v_itD, v_items, d_T, d_To, d_L, d_Lo, d_S, d_D, d_R, d_RO, d_ROd, d_I, d_IR, d_IRO, v_one, v_enum, v_zipT, v_augS, v_disp, v_prs0, v_prsS, v_fmt, v_for, v_def, v_dnx, v_drt, v_dexc, v_map0, v_mapS, v_gN, v_gT, v_gTo, v_gNs0, v_gNsS, v_yes, v_insOf, v_insO, v_isIns, v_isO, v_isOL, v_isT, v_isLs, v_isI, v_isS, v_slot0, v_slotS, v_slot, v_meth, v_make, v_beqN, v_refOf, v_put, v_putW00, v_putW0S, v_putWS0, v_putWSS, v_isi, v_lenSet, v_lenC, v_strC, v_dctN, v_lstO, v_ixR, v_ixO, v_seqRf, v_seqT, v_seqTo, v_seqLs, v_seqLo, v_lenR, v_isTR, v_isTO, v_isTOd, v_isTL, v_isTS, v_itR, v_itL, v_itT, v_itTo, v_itS, v_truR, v_truT, v_truL, v_truB, v_truI, v_setR, v_setO, v_app, v_appO, v_ext, v_extO, v_addR, v_addO, v_addL, v_addT, v_top, h_set, h_push, h_lt, h_lenS, h_lenA, w_add, w_addBB, w_sub, w_iadd, w_isub, w_ltT, w_le, w_gt, w_ge, w_neg, w_intI, w_intB, w_abs, w_max, w_min, w_lenL, w_lenT, w_lenLo, w_lenTo, w_reprB, w_lenStr, w_strI, w_strS, v_loopN, v_loopC, v_loopB, v_loopR, List.length_cons, List.length_nil, Nat.reduceAdd, Nat.reduceSub, Nat.reduceLeDiff, Nat.reduceMul, Int.reduceLT, Int.reduceLE, Int.reduceAdd, Int.reduceSub, Int.reduceMul, Int.reduceEq, Int.reduceNeg, Nat.reduceEqDiff, reduceIte, List.replicate_succ, List.replicate_zero, List.cons_append, List.nil_append, Bool.not_true, Bool.not_false, Bool.and_true, Bool.true_and, Bool.and_false, Bool.false_and, Bool.or_true, Bool.true_or, Bool.or_false, Bool.false_or, decide_true, decide_false, Option.isSome_some, beq_self_eq_true, o_mod, o_div, o_mul, o_eqI, o_neI, o_eqB, o_neB, o_isiI, o_isiB, o_isiS, ite_iteE, e, v_raise]
theorem are_numbers (b n : Nat) (h : List O) (hb : Bag b n h) (hn : n ≤ 700000000) : Ok (m_law_are_numbers [.ref b] h) fun x h' => x = .bl true ∧ Bag b (n + 20) h' := by
  obtain ⟨w, h1, hw, e1, b1, f1⟩ := no_number b n h hb (by omega)
  obtain ⟨o, h2, ho, e2, b2, f2⟩ := no_number b _ h1 b1 (by omega)
  obtain ⟨d, h3, e3, ld, b3, f3⟩ := draw b _ h2 4 b2 (by omega) (by omega) (by omega)
  have W := noN_of w hw
  obtain ⟨z, h4, hz, e4, b4, f4⟩ := one_of b _ h3 (.lst [w, .int 0, .int 1, .int 3, .int 5]) _ (.inl rfl) b3 (by omega) (by simp) (by simp)
  have Z : Wr z := by
    simp only [List.mem_cons, List.not_mem_nil, or_false] at hz
    rcases hz with rfl | rfl | rfl | rfl | rfl
    · exact W.toWr
    · exact wr_int 0 "0" (by unfold TT; simp) fun _ => rfl
    · exact wr_int 1 "1" (by unfold TT; simp) fun _ => rfl
    · exact wr_int 3 "3" (by unfold TT; simp) fun _ => rfl
    · exact wr_int 5 "5" (by unfold TT; simp) fun _ => rfl
  obtain ⟨y, h5, hy, e5, b5, f5⟩ := one_of b _ h4 (.lst [.int d, o]) _ (.inl rfl) b4 (by omega) (by simp) (by simp)
  obtain ⟨v, h6, hv, e6, b6, f6⟩ := one_of b _ h5 (.lst [.str "01", .non, w, .int 5, .str "9"]) _ (.inl rfl) b5 (by omega) (by simp) (by simp)
  obtain ⟨l, h7, hl, e7, b7, f7⟩ := one_of b _ h6 (.lst [w, .int 2, .int 3, .int 4]) _ (.inl rfl) b6 (by omega) (by simp) (by simp)
  obtain ⟨_, h8, e8, t, rfl, lt, dt, b8, f8⟩ := text b _ h7 4 d b7 (by omega) (by omega) (by omega) (by omega)
  have e8 : m_law_text [.ref b, .int 4, .int d] h7 = .ok (stx t) h8 := e8
  obtain ⟨rw, qw, rw1, aw, ow⟩ := W.told.ex
  obtain ⟨rz, qz, rz1, az, oz⟩ := Z.told.ex
  obtain ⟨Lin, Lt⟩ : inR 0 1 l = false ∧ ((∃ a, tyOf l = some a) ∧ Told l) := by
    simp only [List.mem_cons, List.not_mem_nil, or_false] at hl
    rcases hl with rfl | rfl | rfl | rfl
    · exact ⟨W.line, W.ty, W.told⟩
    · exact ⟨by decide +kernel, ⟨_, rfl⟩, told_at _ "2" (by unfold TT; simp)⟩
    · exact ⟨by decide +kernel, ⟨_, rfl⟩, told_at _ "3" (by unfold TT; simp)⟩
    · exact ⟨by decide +kernel, ⟨_, rfl⟩, told_at _ "4" (by unfold TT; simp)⟩
  obtain ⟨⟨al, tl⟩, Ltd⟩ := Lt
  obtain ⟨rl, ql, rl1, ql1, ol⟩ := Ltd.ex
  have a1 := asked_num h5 (.int 1) z y z rz qz (call1_L h5 z y (Z.L h5)) (rz1 h5) (az h5)
  have a2 := asked_num h5 (.int 1) (.int 2) w w rw qw (call1_W h5 2 (.inl rfl) w (W.W h5)) (rw1 h5) (aw h5)
  have a3 := asked_num h5 (.int 1) (.int 4) w w rw qw (call1_W h5 4 (.inr rfl) w (W.W h5)) (rw1 h5) (aw h5)
  have ca : m_law_call [.int 0, v, z] h6 = .exc (xNum z) h6 := by
    have e := Z.L h6
    have e9 : m_is_text [v, z] h6 = .exc (xNum z) h6 := by
      rw [m_is_text_eq]; unfold b_is_text
      simp only [v_Ok, v_Nx, v_bind, v_bind0, v_sbind, v_nb, v_bindx, v_sbindx, v_ofO, v_ofH, v_ofR, v_ofE, v_omap, v_obind, v_iteT, v_iteF, v_mAnd, v_mOr, v_mAndW, v_mOrW, v_var0, v_varS, v_c, v_op, v_un, v_cb, v_call, v_bm, v_pM, v_pF, v_nil, v_cons, v_star, v_b, v_asB, v_tru, v_notT, v_not, v_andT, v_orT, v_and, v_or, v_if, v_chain, v_tup, v_lst, v_lstN, v_okLen, v_sl, v_noP, v_asI, v_part, v_it, v_rng, v_zip, v_lc, v_lcN, v_wipe0, v_wipeS, v_set0, v_setS, v_lsetr, v_lsetS, v_seq, v_seqN, v_seqR, v_seqB, v_seqC, v_seqX, v_next, v_brk, v_cnt, v_drop, v_ret, v_retN, v_ifS, v_set, v_two, v_par, v_asg, v_store, v_aug, v_itD, v_items, d_T, d_To, d_L, d_Lo, d_S, d_D, d_R, d_RO, d_ROd, d_I, d_IR, d_IRO, v_one, v_enum, v_zipT, v_augS, v_disp, v_prs0, v_prsS, v_fmt, v_for, v_def, v_dnx, v_drt, v_dexc, v_map0, v_mapS, v_gN, v_gT, v_gTo, v_gNs0, v_gNsS, v_yes, v_insOf, v_insO, v_isIns, v_isO, v_isOL, v_isT, v_isLs, v_isI, v_isS, v_slot0, v_slotS, v_slot, v_meth, v_make, v_beqN, v_refOf, v_put, v_putW00, v_putW0S, v_putWS0, v_putWSS, v_isi, v_lenSet, v_lenC, v_strC, v_dctN, v_lstO, v_ixR, v_ixO, v_seqRf, v_seqT, v_seqTo, v_seqLs, v_seqLo, v_lenR, v_isTR, v_isTO, v_isTOd, v_isTL, v_isTS, v_itR, v_itL, v_itT, v_itTo, v_itS, v_truR, v_truT, v_truL, v_truB, v_truI, v_setR, v_setO, v_app, v_appO, v_ext, v_extO, v_addR, v_addO, v_addL, v_addT, v_top, h_set, h_push, h_lt, h_lenS, h_lenA, w_add, w_addBB, w_sub, w_iadd, w_isub, w_ltT, w_le, w_gt, w_ge, w_neg, w_intI, w_intB, w_abs, w_max, w_min, w_lenL, w_lenT, w_lenLo, w_lenTo, w_reprB, w_lenStr, w_strI, w_strS, v_loopN, v_loopC, v_loopB, v_loopR, List.length_cons, List.length_nil, Nat.reduceAdd, Nat.reduceSub, Nat.reduceLeDiff, Nat.reduceMul, Int.reduceLT, Int.reduceLE, Int.reduceAdd, Int.reduceSub, Int.reduceMul, Int.reduceEq, Int.reduceNeg, Nat.reduceEqDiff, reduceIte, List.replicate_succ, List.replicate_zero, List.cons_append, List.nil_append, Bool.not_true, Bool.not_false, Bool.and_true, Bool.true_and, Bool.and_false, Bool.false_and, Bool.or_true, Bool.true_or, Bool.or_false, Bool.false_or, decide_true, decide_false, Option.isSome_some, beq_self_eq_true, o_mod, o_div, o_mul, o_eqI, o_neI, o_eqB, o_neB, o_isiI, o_isiB, o_isiS, ite_iteE, e]
    rw [m_law_call_eq]; unfold b_law_call
    simp only [v_Ok, v_Nx, v_bind, v_bind0, v_sbind, v_nb, v_bindx, v_sbindx, v_ofO, v_ofH, v_ofR, v_ofE, v_omap, v_obind, v_iteT, v_iteF, v_mAnd, v_mOr, v_mAndW, v_mOrW, v_var0, v_varS, v_c, v_op, v_un, v_cb, v_call, v_bm, v_pM, v_pF, v_nil, v_cons, v_star, v_b, v_asB, v_tru, v_notT, v_not, v_andT, v_orT, v_and, v_or, v_if, v_chain, v_tup, v_lst, v_lstN, v_okLen, v_sl, v_noP, v_asI, v_part, v_it, v_rng, v_zip, v_lc, v_lcN, v_wipe0, v_wipeS, v_set0, v_setS, v_lsetr, v_lsetS, v_seq, v_seqN, v_seqR, v_seqB, v_seqC, v_seqX, v_next, v_brk, v_cnt, v_drop, v_ret, v_retN, v_ifS, v_set, v_two, v_par, v_asg, v_store, v_aug, v_itD, v_items, d_T, d_To, d_L, d_Lo, d_S, d_D, d_R, d_RO, d_ROd, d_I, d_IR, d_IRO, v_one, v_enum, v_zipT, v_augS, v_disp, v_prs0, v_prsS, v_fmt, v_for, v_def, v_dnx, v_drt, v_dexc, v_map0, v_mapS, v_gN, v_gT, v_gTo, v_gNs0, v_gNsS, v_yes, v_insOf, v_insO, v_isIns, v_isO, v_isOL, v_isT, v_isLs, v_isI, v_isS, v_slot0, v_slotS, v_slot, v_meth, v_make, v_beqN, v_refOf, v_put, v_putW00, v_putW0S, v_putWS0, v_putWSS, v_isi, v_lenSet, v_lenC, v_strC, v_dctN, v_lstO, v_ixR, v_ixO, v_seqRf, v_seqT, v_seqTo, v_seqLs, v_seqLo, v_lenR, v_isTR, v_isTO, v_isTOd, v_isTL, v_isTS, v_itR, v_itL, v_itT, v_itTo, v_itS, v_truR, v_truT, v_truL, v_truB, v_truI, v_setR, v_setO, v_app, v_appO, v_ext, v_extO, v_addR, v_addO, v_addL, v_addT, v_top, h_set, h_push, h_lt, h_lenS, h_lenA, w_add, w_addBB, w_sub, w_iadd, w_isub, w_ltT, w_le, w_gt, w_ge, w_neg, w_intI, w_intB, w_abs, w_max, w_min, w_lenL, w_lenT, w_lenLo, w_lenTo, w_reprB, w_lenStr, w_strI, w_strS, v_loopN, v_loopC, v_loopB, v_loopR, List.length_cons, List.length_nil, Nat.reduceAdd, Nat.reduceSub, Nat.reduceLeDiff, Nat.reduceMul, Int.reduceLT, Int.reduceLE, Int.reduceAdd, Int.reduceSub, Int.reduceMul, Int.reduceEq, Int.reduceNeg, Nat.reduceEqDiff, reduceIte, List.replicate_succ, List.replicate_zero, List.cons_append, List.nil_append, Bool.not_true, Bool.not_false, Bool.and_true, Bool.true_and, Bool.and_false, Bool.false_and, Bool.or_true, Bool.true_or, Bool.or_false, Bool.false_or, decide_true, decide_false, Option.isSome_some, beq_self_eq_true, o_mod, o_div, o_mul, o_eqI, o_neI, o_eqB, o_neB, o_isiI, o_isiB, o_isiS, ite_iteE, e9]
  have a4 := asked_num h6 (.int 0) v z z rz qz ca (rz1 h6) (az h6)
  have cb : ∃ k, m_law_call [.int 0, v, .int 2] h6 = .ok (.bl k) h6 := by
    obtain ⟨k, e⟩ := isText_any h6 v (by
      simp only [List.mem_cons, List.not_mem_nil, or_false] at hv
      rcases hv with rfl | rfl | rfl | rfl | rfl
      · exact .inr (.inr (.inr (.inl rfl)))
      · exact .inl rfl
      · exact .inr (.inr (.inl hw))
      · exact .inr (.inl rfl)
      · exact .inr (.inr (.inr (.inr rfl))))
    have e0 : m_require_letters [.int 2] h6 = .ok .non h6 := reqL_ok h6 2 (.inl rfl)
    have e9 : m_is_text [v, .int 2] h6 = .ok (.bl k) h6 := by
      rw [m_is_text_eq]; unfold b_is_text
      simp only [v_Ok, v_Nx, v_bind, v_bind0, v_sbind, v_nb, v_bindx, v_sbindx, v_ofO, v_ofH, v_ofR, v_ofE, v_omap, v_obind, v_iteT, v_iteF, v_mAnd, v_mOr, v_mAndW, v_mOrW, v_var0, v_varS, v_c, v_op, v_un, v_cb, v_call, v_bm, v_pM, v_pF, v_nil, v_cons, v_star, v_b, v_asB, v_tru, v_notT, v_not, v_andT, v_orT, v_and, v_or, v_if, v_chain, v_tup, v_lst, v_lstN, v_okLen, v_sl, v_noP, v_asI, v_part, v_it, v_rng, v_zip, v_lc, v_lcN, v_wipe0, v_wipeS, v_set0, v_setS, v_lsetr, v_lsetS, v_seq, v_seqN, v_seqR, v_seqB, v_seqC, v_seqX, v_next, v_brk, v_cnt, v_drop, v_ret, v_retN, v_ifS, v_set, v_two, v_par, v_asg, v_store, v_aug, v_itD, v_items, d_T, d_To, d_L, d_Lo, d_S, d_D, d_R, d_RO, d_ROd, d_I, d_IR, d_IRO, v_one, v_enum, v_zipT, v_augS, v_disp, v_prs0, v_prsS, v_fmt, v_for, v_def, v_dnx, v_drt, v_dexc, v_map0, v_mapS, v_gN, v_gT, v_gTo, v_gNs0, v_gNsS, v_yes, v_insOf, v_insO, v_isIns, v_isO, v_isOL, v_isT, v_isLs, v_isI, v_isS, v_slot0, v_slotS, v_slot, v_meth, v_make, v_beqN, v_refOf, v_put, v_putW00, v_putW0S, v_putWS0, v_putWSS, v_isi, v_lenSet, v_lenC, v_strC, v_dctN, v_lstO, v_ixR, v_ixO, v_seqRf, v_seqT, v_seqTo, v_seqLs, v_seqLo, v_lenR, v_isTR, v_isTO, v_isTOd, v_isTL, v_isTS, v_itR, v_itL, v_itT, v_itTo, v_itS, v_truR, v_truT, v_truL, v_truB, v_truI, v_setR, v_setO, v_app, v_appO, v_ext, v_extO, v_addR, v_addO, v_addL, v_addT, v_top, h_set, h_push, h_lt, h_lenS, h_lenA, w_add, w_addBB, w_sub, w_iadd, w_isub, w_ltT, w_le, w_gt, w_ge, w_neg, w_intI, w_intB, w_abs, w_max, w_min, w_lenL, w_lenT, w_lenLo, w_lenTo, w_reprB, w_lenStr, w_strI, w_strS, v_loopN, v_loopC, v_loopB, v_loopR, List.length_cons, List.length_nil, Nat.reduceAdd, Nat.reduceSub, Nat.reduceLeDiff, Nat.reduceMul, Int.reduceLT, Int.reduceLE, Int.reduceAdd, Int.reduceSub, Int.reduceMul, Int.reduceEq, Int.reduceNeg, Nat.reduceEqDiff, reduceIte, List.replicate_succ, List.replicate_zero, List.cons_append, List.nil_append, Bool.not_true, Bool.not_false, Bool.and_true, Bool.true_and, Bool.and_false, Bool.false_and, Bool.or_true, Bool.true_or, Bool.or_false, Bool.false_or, decide_true, decide_false, Option.isSome_some, beq_self_eq_true, o_mod, o_div, o_mul, o_eqI, o_neI, o_eqB, o_neB, o_isiI, o_isiB, o_isiS, ite_iteE, e0, e]
    refine ⟨k, ?_⟩
    rw [m_law_call_eq]; unfold b_law_call
    simp only [v_Ok, v_Nx, v_bind, v_bind0, v_sbind, v_nb, v_bindx, v_sbindx, v_ofO, v_ofH, v_ofR, v_ofE, v_omap, v_obind, v_iteT, v_iteF, v_mAnd, v_mOr, v_mAndW, v_mOrW, v_var0, v_varS, v_c, v_op, v_un, v_cb, v_call, v_bm, v_pM, v_pF, v_nil, v_cons, v_star, v_b, v_asB, v_tru, v_notT, v_not, v_andT, v_orT, v_and, v_or, v_if, v_chain, v_tup, v_lst, v_lstN, v_okLen, v_sl, v_noP, v_asI, v_part, v_it, v_rng, v_zip, v_lc, v_lcN, v_wipe0, v_wipeS, v_set0, v_setS, v_lsetr, v_lsetS, v_seq, v_seqN, v_seqR, v_seqB, v_seqC, v_seqX, v_next, v_brk, v_cnt, v_drop, v_ret, v_retN, v_ifS, v_set, v_two, v_par, v_asg, v_store, v_aug, v_itD, v_items, d_T, d_To, d_L, d_Lo, d_S, d_D, d_R, d_RO, d_ROd, d_I, d_IR, d_IRO, v_one, v_enum, v_zipT, v_augS, v_disp, v_prs0, v_prsS, v_fmt, v_for, v_def, v_dnx, v_drt, v_dexc, v_map0, v_mapS, v_gN, v_gT, v_gTo, v_gNs0, v_gNsS, v_yes, v_insOf, v_insO, v_isIns, v_isO, v_isOL, v_isT, v_isLs, v_isI, v_isS, v_slot0, v_slotS, v_slot, v_meth, v_make, v_beqN, v_refOf, v_put, v_putW00, v_putW0S, v_putWS0, v_putWSS, v_isi, v_lenSet, v_lenC, v_strC, v_dctN, v_lstO, v_ixR, v_ixO, v_seqRf, v_seqT, v_seqTo, v_seqLs, v_seqLo, v_lenR, v_isTR, v_isTO, v_isTOd, v_isTL, v_isTS, v_itR, v_itL, v_itT, v_itTo, v_itS, v_truR, v_truT, v_truL, v_truB, v_truI, v_setR, v_setO, v_app, v_appO, v_ext, v_extO, v_addR, v_addO, v_addL, v_addT, v_top, h_set, h_push, h_lt, h_lenS, h_lenA, w_add, w_addBB, w_sub, w_iadd, w_isub, w_ltT, w_le, w_gt, w_ge, w_neg, w_intI, w_intB, w_abs, w_max, w_min, w_lenL, w_lenT, w_lenLo, w_lenTo, w_reprB, w_lenStr, w_strI, w_strS, v_loopN, v_loopC, v_loopB, v_loopR, List.length_cons, List.length_nil, Nat.reduceAdd, Nat.reduceSub, Nat.reduceLeDiff, Nat.reduceMul, Int.reduceLT, Int.reduceLE, Int.reduceAdd, Int.reduceSub, Int.reduceMul, Int.reduceEq, Int.reduceNeg, Nat.reduceEqDiff, reduceIte, List.replicate_succ, List.replicate_zero, List.cons_append, List.nil_append, Bool.not_true, Bool.not_false, Bool.and_true, Bool.true_and, Bool.and_false, Bool.false_and, Bool.or_true, Bool.true_or, Bool.or_false, Bool.false_or, decide_true, decide_false, Option.isSome_some, beq_self_eq_true, o_mod, o_div, o_mul, o_eqI, o_neI, o_eqB, o_neB, o_isiI, o_isiB, o_isiS, ite_iteE, e9]
  obtain ⟨kb, cb⟩ := cb
  have a5 := asked_told h6 (.int 0) v (.int 2) _ cb
  have cl : m_law_call [.int 3, stx t, l] h8 = .exc (xNum l) h8 := by
    have e := require_text_ok (k := 4) (.inr rfl) h8 t dt (by omega)
    have e : m_require_text [.int 4, stx t] h8 = .ok .non h8 := e
    have e0 := within h8 l al 0 1 tl
    rw [Lin] at e0
    have e9 : m_line_of [stx t, l] h8 = .exc (xNum l) h8 := by
      rw [m_line_of_eq]; unfold b_line_of
      simp only [v_Ok, v_Nx, v_bind, v_bind0, v_sbind, v_nb, v_bindx, v_sbindx, v_ofO, v_ofH, v_ofR, v_ofE, v_omap, v_obind, v_iteT, v_iteF, v_mAnd, v_mOr, v_mAndW, v_mOrW, v_var0, v_varS, v_c, v_op, v_un, v_cb, v_call, v_bm, v_pM, v_pF, v_nil, v_cons, v_star, v_b, v_asB, v_tru, v_notT, v_not, v_andT, v_orT, v_and, v_or, v_if, v_chain, v_tup, v_lst, v_lstN, v_okLen, v_sl, v_noP, v_asI, v_part, v_it, v_rng, v_zip, v_lc, v_lcN, v_wipe0, v_wipeS, v_set0, v_setS, v_lsetr, v_lsetS, v_seq, v_seqN, v_seqR, v_seqB, v_seqC, v_seqX, v_next, v_brk, v_cnt, v_drop, v_ret, v_retN, v_ifS, v_set, v_two, v_par, v_asg, v_store, v_aug, v_itD, v_items, d_T, d_To, d_L, d_Lo, d_S, d_D, d_R, d_RO, d_ROd, d_I, d_IR, d_IRO, v_one, v_enum, v_zipT, v_augS, v_disp, v_prs0, v_prsS, v_fmt, v_for, v_def, v_dnx, v_drt, v_dexc, v_map0, v_mapS, v_gN, v_gT, v_gTo, v_gNs0, v_gNsS, v_yes, v_insOf, v_insO, v_isIns, v_isO, v_isOL, v_isT, v_isLs, v_isI, v_isS, v_slot0, v_slotS, v_slot, v_meth, v_make, v_beqN, v_refOf, v_put, v_putW00, v_putW0S, v_putWS0, v_putWSS, v_isi, v_lenSet, v_lenC, v_strC, v_dctN, v_lstO, v_ixR, v_ixO, v_seqRf, v_seqT, v_seqTo, v_seqLs, v_seqLo, v_lenR, v_isTR, v_isTO, v_isTOd, v_isTL, v_isTS, v_itR, v_itL, v_itT, v_itTo, v_itS, v_truR, v_truT, v_truL, v_truB, v_truI, v_setR, v_setO, v_app, v_appO, v_ext, v_extO, v_addR, v_addO, v_addL, v_addT, v_top, h_set, h_push, h_lt, h_lenS, h_lenA, w_add, w_addBB, w_sub, w_iadd, w_isub, w_ltT, w_le, w_gt, w_ge, w_neg, w_intI, w_intB, w_abs, w_max, w_min, w_lenL, w_lenT, w_lenLo, w_lenTo, w_reprB, w_lenStr, w_strI, w_strS, v_loopN, v_loopC, v_loopB, v_loopR, List.length_cons, List.length_nil, Nat.reduceAdd, Nat.reduceSub, Nat.reduceLeDiff, Nat.reduceMul, Int.reduceLT, Int.reduceLE, Int.reduceAdd, Int.reduceSub, Int.reduceMul, Int.reduceEq, Int.reduceNeg, Nat.reduceEqDiff, reduceIte, List.replicate_succ, List.replicate_zero, List.cons_append, List.nil_append, Bool.not_true, Bool.not_false, Bool.and_true, Bool.true_and, Bool.and_false, Bool.false_and, Bool.or_true, Bool.true_or, Bool.or_false, Bool.false_or, decide_true, decide_false, Option.isSome_some, beq_self_eq_true, o_mod, o_div, o_mul, o_eqI, o_neI, o_eqB, o_neB, o_isiI, o_isiB, o_isiS, ite_iteE, e, e0, v_raiseX]
    rw [m_law_call_eq]; unfold b_law_call
    simp only [v_Ok, v_Nx, v_bind, v_bind0, v_sbind, v_nb, v_bindx, v_sbindx, v_ofO, v_ofH, v_ofR, v_ofE, v_omap, v_obind, v_iteT, v_iteF, v_mAnd, v_mOr, v_mAndW, v_mOrW, v_var0, v_varS, v_c, v_op, v_un, v_cb, v_call, v_bm, v_pM, v_pF, v_nil, v_cons, v_star, v_b, v_asB, v_tru, v_notT, v_not, v_andT, v_orT, v_and, v_or, v_if, v_chain, v_tup, v_lst, v_lstN, v_okLen, v_sl, v_noP, v_asI, v_part, v_it, v_rng, v_zip, v_lc, v_lcN, v_wipe0, v_wipeS, v_set0, v_setS, v_lsetr, v_lsetS, v_seq, v_seqN, v_seqR, v_seqB, v_seqC, v_seqX, v_next, v_brk, v_cnt, v_drop, v_ret, v_retN, v_ifS, v_set, v_two, v_par, v_asg, v_store, v_aug, v_itD, v_items, d_T, d_To, d_L, d_Lo, d_S, d_D, d_R, d_RO, d_ROd, d_I, d_IR, d_IRO, v_one, v_enum, v_zipT, v_augS, v_disp, v_prs0, v_prsS, v_fmt, v_for, v_def, v_dnx, v_drt, v_dexc, v_map0, v_mapS, v_gN, v_gT, v_gTo, v_gNs0, v_gNsS, v_yes, v_insOf, v_insO, v_isIns, v_isO, v_isOL, v_isT, v_isLs, v_isI, v_isS, v_slot0, v_slotS, v_slot, v_meth, v_make, v_beqN, v_refOf, v_put, v_putW00, v_putW0S, v_putWS0, v_putWSS, v_isi, v_lenSet, v_lenC, v_strC, v_dctN, v_lstO, v_ixR, v_ixO, v_seqRf, v_seqT, v_seqTo, v_seqLs, v_seqLo, v_lenR, v_isTR, v_isTO, v_isTOd, v_isTL, v_isTS, v_itR, v_itL, v_itT, v_itTo, v_itS, v_truR, v_truT, v_truL, v_truB, v_truI, v_setR, v_setO, v_app, v_appO, v_ext, v_extO, v_addR, v_addO, v_addL, v_addT, v_top, h_set, h_push, h_lt, h_lenS, h_lenA, w_add, w_addBB, w_sub, w_iadd, w_isub, w_ltT, w_le, w_gt, w_ge, w_neg, w_intI, w_intB, w_abs, w_max, w_min, w_lenL, w_lenT, w_lenLo, w_lenTo, w_reprB, w_lenStr, w_strI, w_strS, v_loopN, v_loopC, v_loopB, v_loopR, List.length_cons, List.length_nil, Nat.reduceAdd, Nat.reduceSub, Nat.reduceLeDiff, Nat.reduceMul, Int.reduceLT, Int.reduceLE, Int.reduceAdd, Int.reduceSub, Int.reduceMul, Int.reduceEq, Int.reduceNeg, Nat.reduceEqDiff, reduceIte, List.replicate_succ, List.replicate_zero, List.cons_append, List.nil_append, Bool.not_true, Bool.not_false, Bool.and_true, Bool.true_and, Bool.and_false, Bool.false_and, Bool.or_true, Bool.true_or, Bool.or_false, Bool.false_or, decide_true, decide_false, Option.isSome_some, beq_self_eq_true, o_mod, o_div, o_mul, o_eqI, o_neI, o_eqB, o_neB, o_isiI, o_isiB, o_isiS, ite_iteE, e9]
  have a6 := asked_num h8 (.int 3) (stx t) l l rl ql cl (rl1 h8) (ql1 h8)
  have nz : ∀ h, nNe h (.str qz) (.str qz) = some (.bl false) := fun h => by rw [o_neS oz oz, decide_eq_true rfl]; rfl
  have nw : ∀ h, nNe h (.str qw) (.str qw) = some (.bl false) := fun h => by rw [o_neS ow ow, decide_eq_true rfl]; rfl
  have nt : ∀ h, nNe h (.str "told") (.str "told") = some (.bl false) := fun h => by rw [o_neS (by decide +kernel) (by decide +kernel), decide_eq_true rfl]; rfl
  have el : ∀ h, nEq h (.str ql) (.str ql) = some (.bl true) := fun h => by rw [o_eqS ol ol, decide_eq_true rfl]
  rw [m_law_are_numbers_eq]; unfold b_law_are_numbers
  simp only [v_Ok, v_Nx, v_bind, v_bind0, v_sbind, v_nb, v_bindx, v_sbindx, v_ofO, v_ofH, v_ofR, v_ofE, v_omap, v_obind, v_iteT, v_iteF, v_mAnd, v_mOr, v_mAndW, v_mOrW, v_var0, v_varS, v_c, v_op, v_un, v_cb, v_call, v_bm, v_pM, v_pF, v_nil, v_cons, v_star, v_b, v_asB, v_tru, v_notT, v_not, v_andT, v_orT, v_and, v_or, v_if, v_chain, v_tup, v_lst, v_lstN, v_okLen, v_sl, v_noP, v_asI, v_part, v_it, v_rng, v_zip, v_lc, v_lcN, v_wipe0, v_wipeS, v_set0, v_setS, v_lsetr, v_lsetS, v_seq, v_seqN, v_seqR, v_seqB, v_seqC, v_seqX, v_next, v_brk, v_cnt, v_drop, v_ret, v_retN, v_ifS, v_set, v_two, v_par, v_asg, v_store, v_aug, v_itD, v_items, d_T, d_To, d_L, d_Lo, d_S, d_D, d_R, d_RO, d_ROd, d_I, d_IR, d_IRO, v_one, v_enum, v_zipT, v_augS, v_disp, v_prs0, v_prsS, v_fmt, v_for, v_def, v_dnx, v_drt, v_dexc, v_map0, v_mapS, v_gN, v_gT, v_gTo, v_gNs0, v_gNsS, v_yes, v_insOf, v_insO, v_isIns, v_isO, v_isOL, v_isT, v_isLs, v_isI, v_isS, v_slot0, v_slotS, v_slot, v_meth, v_make, v_beqN, v_refOf, v_put, v_putW00, v_putW0S, v_putWS0, v_putWSS, v_isi, v_lenSet, v_lenC, v_strC, v_dctN, v_lstO, v_ixR, v_ixO, v_seqRf, v_seqT, v_seqTo, v_seqLs, v_seqLo, v_lenR, v_isTR, v_isTO, v_isTOd, v_isTL, v_isTS, v_itR, v_itL, v_itT, v_itTo, v_itS, v_truR, v_truT, v_truL, v_truB, v_truI, v_setR, v_setO, v_app, v_appO, v_ext, v_extO, v_addR, v_addO, v_addL, v_addT, v_top, h_set, h_push, h_lt, h_lenS, h_lenA, w_add, w_addBB, w_sub, w_iadd, w_isub, w_ltT, w_le, w_gt, w_ge, w_neg, w_intI, w_intB, w_abs, w_max, w_min, w_lenL, w_lenT, w_lenLo, w_lenTo, w_reprB, w_lenStr, w_strI, w_strS, v_loopN, v_loopC, v_loopB, v_loopR, List.length_cons, List.length_nil, Nat.reduceAdd, Nat.reduceSub, Nat.reduceLeDiff, Nat.reduceMul, Int.reduceLT, Int.reduceLE, Int.reduceAdd, Int.reduceSub, Int.reduceMul, Int.reduceEq, Int.reduceNeg, Nat.reduceEqDiff, reduceIte, List.replicate_succ, List.replicate_zero, List.cons_append, List.nil_append, Bool.not_true, Bool.not_false, Bool.and_true, Bool.true_and, Bool.and_false, Bool.false_and, Bool.or_true, Bool.true_or, Bool.or_false, Bool.false_or, decide_true, decide_false, Option.isSome_some, beq_self_eq_true, o_mod, o_div, o_mul, o_eqI, o_neI, o_eqB, o_neB, o_isiI, o_isiB, o_isiS, ite_iteE, v_par3, v_three, e1, e2, e3, e4, e5, a1, rz1, az, nz, a2, a3, rw1, aw, nw, e6, a4, a5, nt, e7, e8, a6, rl1, ql1, el]
  exact ⟨trivial, b8.mono (by omega)⟩
end N
set_option maxHeartbeats 4000000
namespace N
open PySem L2
theorem mul201 (h : List O) : nMul h (.str "0") (.int 201) = some (stx (List.replicate 201 0)) := mulZ h 201 (by omega)
theorem bad_ty {k : Nat} {w : W} {a : String} (h1 : tyOf w = some a) (h2 : kitB a "str" = some false) : BadT k w := badT_no fun h => by rw [isi_ty h w a "str" h1, h2]; rfl
theorem no_text (b n k : Nat) (h : List O) (hb : Bag b n h) (hn : n ≤ 800000000) (hk : k = 2 ∨ k = 4) : ∃ x h', m_law_no_text [.ref b, nW k] h = .ok x h' ∧ BadT k x ∧ Bag b (n + 5) h' ∧ Fx b h h' := by
  obtain ⟨_, h1, e1, t, rfl, lt, dt, b1, f1⟩ := text b n h k 3 hb (by omega) (by omega) (by omega) (by omega)
  have e1 : m_law_text [.ref b, nW k, .int 3] h = .ok (stx t) h1 := e1
  obtain ⟨N, hN, lN⟩ : ∃ N : List Nat, stx t = .str (sx N) ∧ N.length = 3 := ⟨t.map (48 + ·), rfl, by rw [List.length_map]; exact lt⟩
  rw [hN] at e1
  have c4 : ∀ h, nAdd h (.str (sx N)) (.str "4") = some (.str (sx (N ++ [52]))) := fun h => cat_sx N [52] (by simp; omega) h
  have c5 : ∀ h, nAdd h (.str (sx N)) (.str " ") = some (.str (sx (N ++ [32]))) := fun h => cat_sx N [32] (by simp; omega) h
  have c6 : ∀ h, nAdd h (.str (sx N)) (.str "a") = some (.str (sx (N ++ [97]))) := fun h => cat_sx N [97] (by simp; omega) h
  have c7 : ∀ h, nAdd h (.str "2") (.str (sx N)) = some (.str (sx (50 :: N))) := fun h => cat_sx [50] N (by simp; omega) h
  have c8 : ∀ h, nAdd h (.str (sx N)) (.str "3") = some (.str (sx (N ++ [51]))) := fun h => cat_sx N [51] (by simp; omega) h
  have m0 := fun h => mul201 h
  have dd : dispW [] [(.str "0", .str "0")] = some [(.str "0", .str "0")] := rfl
  have bs : ∀ (L : List Nat) (c : Nat), L.length ≤ 1000 → c ∈ L → c ∉ (tx (List.range k)).cps.toList → BadT k (.str (sx L)) := fun L c h1 h2 h3 => badT_str hk _ (by rw [sx_len]; omega) ⟨c, by simpa [sx] using h2, h3⟩
  have nc : ∀ c, c ≠ 48 → c ≠ 49 → c ≠ 50 → c ≠ 51 → c ∉ (tx (List.range k)).cps.toList := fun c h1 h2 h3 h4 => by
    rcases hk with rfl | rfl
    · simp [tx, List.range_succ]; omega
    · simp [tx, List.range_succ]; omega
  have bz : BadT k (stx (List.replicate 201 0)) := badT_wide _ (by rw [tx_len, List.length_replicate]; omega) (by rw [tx_len, List.length_replicate]; omega)
  generalize stx (List.replicate 201 0) = Z at *
  have odd : ∀ x ∈ [W.non, .bl true, .int 0, .int 11, .tup [], .tup [.str "0"], .lst [.str "0"], .dct false [(.str "0", .str "0")], Z, .str "x", .str " ", .str (sx (N ++ [52])), .str (sx (N ++ [32])), .str "-1", .str (sx (N ++ [97]))], BadT k x := by
    intro x hx
    simp only [List.mem_cons, List.not_mem_nil, or_false] at hx
    rcases hx with rfl | rfl | rfl | rfl | rfl | rfl | rfl | rfl | rfl | rfl | rfl | rfl | rfl | rfl | rfl
    · exact bad_ty (a := "NoneType") rfl (by decide +kernel)
    · exact bad_ty (a := "bool") rfl (by decide +kernel)
    · exact bad_ty (a := "int") rfl (by decide +kernel)
    · exact bad_ty (a := "int") rfl (by decide +kernel)
    · exact bad_ty (a := "tuple") rfl (by decide +kernel)
    · exact bad_ty (a := "tuple") rfl (by decide +kernel)
    · exact bad_ty (a := "list") rfl (by decide +kernel)
    · exact bad_ty (a := "dict") rfl (by decide +kernel)
    · exact bz
    · exact bs [120] 120 (by simp) (by simp) (nc 120 (by omega) (by omega) (by omega) (by omega))
    · exact bs [32] 32 (by simp) (by simp) (nc 32 (by omega) (by omega) (by omega) (by omega))
    · exact bs (N ++ [52]) 52 (by simp; omega) (by simp) (nc 52 (by omega) (by omega) (by omega) (by omega))
    · exact bs (N ++ [32]) 32 (by simp; omega) (by simp) (nc 32 (by omega) (by omega) (by omega) (by omega))
    · exact bs [45, 49] 45 (by simp) (by simp) (nc 45 (by omega) (by omega) (by omega) (by omega))
    · exact bs (N ++ [97]) 97 (by simp; omega) (by simp) (nc 97 (by omega) (by omega) (by omega) (by omega))
  rcases hk with rfl | rfl
  · obtain ⟨x, h2, hx, e2, b2, f2⟩ := one_of b _ h1 (.lst [W.non, .bl true, .int 0, .int 11, .tup [], .tup [.str "0"], .lst [.str "0"], .dct false [(.str "0", .str "0")], Z, .str "x", .str " ", .str (sx (N ++ [52])), .str (sx (N ++ [32])), .str "-1", .str (sx (N ++ [97])), .str (sx (50 :: N)), .str (sx (N ++ [51]))]) _ (.inl rfl) b1 (by omega) (by simp) (by simp)
    have q : nEq h1 (nW 2) (.int 2) = some (.bl true) := rfl
    have bx : BadT 2 x := by
      rcases List.mem_append.mp (show x ∈ [W.non, .bl true, .int 0, .int 11, .tup [], .tup [.str "0"], .lst [.str "0"], .dct false [(.str "0", .str "0")], Z, .str "x", .str " ", .str (sx (N ++ [52])), .str (sx (N ++ [32])), .str "-1", .str (sx (N ++ [97]))] ++ [.str (sx (50 :: N)), .str (sx (N ++ [51]))] from hx) with z | z
      · exact odd x z
      · simp only [List.mem_cons, List.not_mem_nil, or_false] at z
        rcases z with rfl | rfl
        · exact bs _ 50 (by simp; omega) (by simp) (by decide)
        · exact bs _ 51 (by simp; omega) (by simp) (by decide)
    refine ⟨x, h2, ?_, bx, b2.mono (by omega), f1.trans f2⟩
    rw [m_law_no_text_eq]; unfold b_law_no_text
    simp only [v_Ok, v_Nx, v_bind, v_bind0, v_sbind, v_nb, v_bindx, v_sbindx, v_ofO, v_ofH, v_ofR, v_ofE, v_omap, v_obind, v_iteT, v_iteF, v_mAnd, v_mOr, v_mAndW, v_mOrW, v_var0, v_varS, v_c, v_op, v_un, v_cb, v_call, v_bm, v_pM, v_pF, v_nil, v_cons, v_star, v_b, v_asB, v_tru, v_notT, v_not, v_andT, v_orT, v_and, v_or, v_if, v_chain, v_tup, v_lst, v_lstN, v_okLen, v_sl, v_noP, v_asI, v_part, v_it, v_rng, v_zip, v_lc, v_lcN, v_wipe0, v_wipeS, v_set0, v_setS, v_lsetr, v_lsetS, v_seq, v_seqN, v_seqR, v_seqB, v_seqC, v_seqX, v_next, v_brk, v_cnt, v_drop, v_ret, v_retN, v_ifS, v_set, v_two, v_par, v_asg, v_store, v_aug, v_itD, v_items, d_T, d_To, d_L, d_Lo, d_S, d_D, d_R, d_RO, d_ROd, d_I, d_IR, d_IRO, v_one, v_enum, v_zipT, v_augS, v_disp, v_prs0, v_prsS, v_fmt, v_for, v_def, v_dnx, v_drt, v_dexc, v_map0, v_mapS, v_gN, v_gT, v_gTo, v_gNs0, v_gNsS, v_yes, v_insOf, v_insO, v_isIns, v_isO, v_isOL, v_isT, v_isLs, v_isI, v_isS, v_slot0, v_slotS, v_slot, v_meth, v_make, v_beqN, v_refOf, v_put, v_putW00, v_putW0S, v_putWS0, v_putWSS, v_isi, v_lenSet, v_lenC, v_strC, v_dctN, v_lstO, v_ixR, v_ixO, v_seqRf, v_seqT, v_seqTo, v_seqLs, v_seqLo, v_lenR, v_isTR, v_isTO, v_isTOd, v_isTL, v_isTS, v_itR, v_itL, v_itT, v_itTo, v_itS, v_truR, v_truT, v_truL, v_truB, v_truI, v_setR, v_setO, v_app, v_appO, v_ext, v_extO, v_addR, v_addO, v_addL, v_addT, v_top, h_set, h_push, h_lt, h_lenS, h_lenA, w_add, w_addBB, w_sub, w_iadd, w_isub, w_ltT, w_le, w_gt, w_ge, w_neg, w_intI, w_intB, w_abs, w_max, w_min, w_lenL, w_lenT, w_lenLo, w_lenTo, w_reprB, w_lenStr, w_strI, w_strS, v_loopN, v_loopC, v_loopB, v_loopR, List.length_cons, List.length_nil, Nat.reduceAdd, Nat.reduceSub, Nat.reduceLeDiff, Nat.reduceMul, Int.reduceLT, Int.reduceLE, Int.reduceAdd, Int.reduceSub, Int.reduceMul, Int.reduceEq, Int.reduceNeg, Nat.reduceEqDiff, reduceIte, List.replicate_succ, List.replicate_zero, List.cons_append, List.nil_append, Bool.not_true, Bool.not_false, Bool.and_true, Bool.true_and, Bool.and_false, Bool.false_and, Bool.or_true, Bool.true_or, Bool.or_false, Bool.false_or, decide_true, decide_false, Option.isSome_some, beq_self_eq_true, o_mod, o_div, o_mul, o_eqI, o_neI, o_eqB, o_neB, o_isiI, o_isiB, o_isiS, ite_iteE, e1, c4, c5, c6, c7, c8, m0, dd, q, e2]
  · obtain ⟨x, h2, hx, e2, b2, f2⟩ := one_of b _ h1 (.lst [W.non, .bl true, .int 0, .int 11, .tup [], .tup [.str "0"], .lst [.str "0"], .dct false [(.str "0", .str "0")], Z, .str "x", .str " ", .str (sx (N ++ [52])), .str (sx (N ++ [32])), .str "-1", .str (sx (N ++ [97]))]) _ (.inl rfl) b1 (by omega) (by simp) (by simp)
    have q : nEq h1 (nW 4) (.int 2) = some (.bl false) := rfl
    refine ⟨x, h2, ?_, odd x hx, b2.mono (by omega), f1.trans f2⟩
    rw [m_law_no_text_eq]; unfold b_law_no_text
    simp only [v_Ok, v_Nx, v_bind, v_bind0, v_sbind, v_nb, v_bindx, v_sbindx, v_ofO, v_ofH, v_ofR, v_ofE, v_omap, v_obind, v_iteT, v_iteF, v_mAnd, v_mOr, v_mAndW, v_mOrW, v_var0, v_varS, v_c, v_op, v_un, v_cb, v_call, v_bm, v_pM, v_pF, v_nil, v_cons, v_star, v_b, v_asB, v_tru, v_notT, v_not, v_andT, v_orT, v_and, v_or, v_if, v_chain, v_tup, v_lst, v_lstN, v_okLen, v_sl, v_noP, v_asI, v_part, v_it, v_rng, v_zip, v_lc, v_lcN, v_wipe0, v_wipeS, v_set0, v_setS, v_lsetr, v_lsetS, v_seq, v_seqN, v_seqR, v_seqB, v_seqC, v_seqX, v_next, v_brk, v_cnt, v_drop, v_ret, v_retN, v_ifS, v_set, v_two, v_par, v_asg, v_store, v_aug, v_itD, v_items, d_T, d_To, d_L, d_Lo, d_S, d_D, d_R, d_RO, d_ROd, d_I, d_IR, d_IRO, v_one, v_enum, v_zipT, v_augS, v_disp, v_prs0, v_prsS, v_fmt, v_for, v_def, v_dnx, v_drt, v_dexc, v_map0, v_mapS, v_gN, v_gT, v_gTo, v_gNs0, v_gNsS, v_yes, v_insOf, v_insO, v_isIns, v_isO, v_isOL, v_isT, v_isLs, v_isI, v_isS, v_slot0, v_slotS, v_slot, v_meth, v_make, v_beqN, v_refOf, v_put, v_putW00, v_putW0S, v_putWS0, v_putWSS, v_isi, v_lenSet, v_lenC, v_strC, v_dctN, v_lstO, v_ixR, v_ixO, v_seqRf, v_seqT, v_seqTo, v_seqLs, v_seqLo, v_lenR, v_isTR, v_isTO, v_isTOd, v_isTL, v_isTS, v_itR, v_itL, v_itT, v_itTo, v_itS, v_truR, v_truT, v_truL, v_truB, v_truI, v_setR, v_setO, v_app, v_appO, v_ext, v_extO, v_addR, v_addO, v_addL, v_addT, v_top, h_set, h_push, h_lt, h_lenS, h_lenA, w_add, w_addBB, w_sub, w_iadd, w_isub, w_ltT, w_le, w_gt, w_ge, w_neg, w_intI, w_intB, w_abs, w_max, w_min, w_lenL, w_lenT, w_lenLo, w_lenTo, w_reprB, w_lenStr, w_strI, w_strS, v_loopN, v_loopC, v_loopB, v_loopR, List.length_cons, List.length_nil, Nat.reduceAdd, Nat.reduceSub, Nat.reduceLeDiff, Nat.reduceMul, Int.reduceLT, Int.reduceLE, Int.reduceAdd, Int.reduceSub, Int.reduceMul, Int.reduceEq, Int.reduceNeg, Nat.reduceEqDiff, reduceIte, List.replicate_succ, List.replicate_zero, List.cons_append, List.nil_append, Bool.not_true, Bool.not_false, Bool.and_true, Bool.true_and, Bool.and_false, Bool.false_and, Bool.or_true, Bool.true_or, Bool.or_false, Bool.false_or, decide_true, decide_false, Option.isSome_some, beq_self_eq_true, o_mod, o_div, o_mul, o_eqI, o_neI, o_eqB, o_neB, o_isiI, o_isiB, o_isiS, ite_iteE, e1, c4, c5, c6, m0, dd, q, e2]
end N
set_option maxHeartbeats 4000000
namespace N
open PySem L2
abbrev xTxt : Ex := ⟨"InvalidText", []⟩
abbrev xOp : Ex := ⟨"InvalidOperation", []⟩
def GoodT (w : W) : Prop := ∃ t, w = stx t ∧ (∀ d ∈ t, d < 2) ∧ t.length ≤ 200
theorem loop_cN {chk : List O → Bool} {g : MG} {b : MS} {x : W} {xs : List W} {σ σ1 σ2 : Slo} {h h2 : List O} (hc : chk h = true) (hg : g x σ = some σ1) (hb : b σ1 h = .nx σ2 h2) : mForL chk g b (x :: xs) σ h = mForL chk g b xs σ2 h2 := by
  conv => lhs; unfold mForL
  rw [if_pos hc, hg]
  dsimp only
  rw [hb]
theorem loop_cX {chk : List O → Bool} {g : MG} {b : MS} {x : W} {xs : List W} {σ σ1 σ2 : Slo} {h h2 : List O} {e : Ex} (hc : chk h = true) (hg : g x σ = some σ1) (hb : b σ1 h = .exc e σ2 h2) : mForL chk g b (x :: xs) σ h = .exc e σ2 h2 := by
  conv => lhs; unfold mForL
  rw [if_pos hc, hg]
  dsimp only
  rw [hb]
noncomputable def tl_b : MS := mDrop (mCall m_require_text (mCons (mC (.int 2)) (mCons (mVar 1) mNil)))
theorem tl_good {L : W} {o : Option W} {w : W} (hw : GoodT w) (h : List O) : tl_b [some L, some w, none, none] h = .nx [some L, some w, none, none] h := by
  obtain ⟨t, rfl, hd, hl⟩ := hw
  have e : m_require_text [.int 2, stx t] h = .ok .non h := require_text_ok (k := 2) (.inl rfl) h t hd hl
  unfold tl_b
  simp only [v_Ok, v_Nx, v_bind, v_bind0, v_sbind, v_nb, v_bindx, v_sbindx, v_ofO, v_ofH, v_ofR, v_ofE, v_omap, v_obind, v_iteT, v_iteF, v_mAnd, v_mOr, v_mAndW, v_mOrW, v_var0, v_varS, v_c, v_op, v_un, v_cb, v_call, v_bm, v_pM, v_pF, v_nil, v_cons, v_star, v_b, v_asB, v_tru, v_notT, v_not, v_andT, v_orT, v_and, v_or, v_if, v_chain, v_tup, v_lst, v_lstN, v_okLen, v_sl, v_noP, v_asI, v_part, v_it, v_rng, v_zip, v_lc, v_lcN, v_wipe0, v_wipeS, v_set0, v_setS, v_lsetr, v_lsetS, v_seq, v_seqN, v_seqR, v_seqB, v_seqC, v_seqX, v_next, v_brk, v_cnt, v_drop, v_ret, v_retN, v_ifS, v_set, v_two, v_par, v_asg, v_store, v_aug, v_itD, v_items, d_T, d_To, d_L, d_Lo, d_S, d_D, d_R, d_RO, d_ROd, d_I, d_IR, d_IRO, v_one, v_enum, v_zipT, v_augS, v_disp, v_prs0, v_prsS, v_fmt, v_for, v_def, v_dnx, v_drt, v_dexc, v_map0, v_mapS, v_gN, v_gT, v_gTo, v_gNs0, v_gNsS, v_yes, v_insOf, v_insO, v_isIns, v_isO, v_isOL, v_isT, v_isLs, v_isI, v_isS, v_slot0, v_slotS, v_slot, v_meth, v_make, v_beqN, v_refOf, v_put, v_putW00, v_putW0S, v_putWS0, v_putWSS, v_isi, v_lenSet, v_lenC, v_strC, v_dctN, v_lstO, v_ixR, v_ixO, v_seqRf, v_seqT, v_seqTo, v_seqLs, v_seqLo, v_lenR, v_isTR, v_isTO, v_isTOd, v_isTL, v_isTS, v_itR, v_itL, v_itT, v_itTo, v_itS, v_truR, v_truT, v_truL, v_truB, v_truI, v_setR, v_setO, v_app, v_appO, v_ext, v_extO, v_addR, v_addO, v_addL, v_addT, v_top, h_set, h_push, h_lt, h_lenS, h_lenA, w_add, w_addBB, w_sub, w_iadd, w_isub, w_ltT, w_le, w_gt, w_ge, w_neg, w_intI, w_intB, w_abs, w_max, w_min, w_lenL, w_lenT, w_lenLo, w_lenTo, w_reprB, w_lenStr, w_strI, w_strS, v_loopN, v_loopC, v_loopB, v_loopR, List.length_cons, List.length_nil, Nat.reduceAdd, Nat.reduceSub, Nat.reduceLeDiff, Nat.reduceMul, Int.reduceLT, Int.reduceLE, Int.reduceAdd, Int.reduceSub, Int.reduceMul, Int.reduceEq, Int.reduceNeg, Nat.reduceEqDiff, reduceIte, List.replicate_succ, List.replicate_zero, List.cons_append, List.nil_append, Bool.not_true, Bool.not_false, Bool.and_true, Bool.true_and, Bool.and_false, Bool.false_and, Bool.or_true, Bool.true_or, Bool.or_false, Bool.false_or, decide_true, decide_false, Option.isSome_some, beq_self_eq_true, o_mod, o_div, o_mul, o_eqI, o_neI, o_eqB, o_neB, o_isiI, o_isiB, o_isiS, ite_iteE, e]
theorem tl_bad {L : W} {w : W} (hw : BadT 2 w) (h : List O) : tl_b [some L, some w, none, none] h = .exc xTxt [some L, some w, none, none] h := by
  have e : m_require_text [.int 2, w] h = .exc ⟨"InvalidText", []⟩ h := require_text_no (k := 2) hw h
  unfold tl_b
  simp only [v_Ok, v_Nx, v_bind, v_bind0, v_sbind, v_nb, v_bindx, v_sbindx, v_ofO, v_ofH, v_ofR, v_ofE, v_omap, v_obind, v_iteT, v_iteF, v_mAnd, v_mOr, v_mAndW, v_mOrW, v_var0, v_varS, v_c, v_op, v_un, v_cb, v_call, v_bm, v_pM, v_pF, v_nil, v_cons, v_star, v_b, v_asB, v_tru, v_notT, v_not, v_andT, v_orT, v_and, v_or, v_if, v_chain, v_tup, v_lst, v_lstN, v_okLen, v_sl, v_noP, v_asI, v_part, v_it, v_rng, v_zip, v_lc, v_lcN, v_wipe0, v_wipeS, v_set0, v_setS, v_lsetr, v_lsetS, v_seq, v_seqN, v_seqR, v_seqB, v_seqC, v_seqX, v_next, v_brk, v_cnt, v_drop, v_ret, v_retN, v_ifS, v_set, v_two, v_par, v_asg, v_store, v_aug, v_itD, v_items, d_T, d_To, d_L, d_Lo, d_S, d_D, d_R, d_RO, d_ROd, d_I, d_IR, d_IRO, v_one, v_enum, v_zipT, v_augS, v_disp, v_prs0, v_prsS, v_fmt, v_for, v_def, v_dnx, v_drt, v_dexc, v_map0, v_mapS, v_gN, v_gT, v_gTo, v_gNs0, v_gNsS, v_yes, v_insOf, v_insO, v_isIns, v_isO, v_isOL, v_isT, v_isLs, v_isI, v_isS, v_slot0, v_slotS, v_slot, v_meth, v_make, v_beqN, v_refOf, v_put, v_putW00, v_putW0S, v_putWS0, v_putWSS, v_isi, v_lenSet, v_lenC, v_strC, v_dctN, v_lstO, v_ixR, v_ixO, v_seqRf, v_seqT, v_seqTo, v_seqLs, v_seqLo, v_lenR, v_isTR, v_isTO, v_isTOd, v_isTL, v_isTS, v_itR, v_itL, v_itT, v_itTo, v_itS, v_truR, v_truT, v_truL, v_truB, v_truI, v_setR, v_setO, v_app, v_appO, v_ext, v_extO, v_addR, v_addO, v_addL, v_addT, v_top, h_set, h_push, h_lt, h_lenS, h_lenA, w_add, w_addBB, w_sub, w_iadd, w_isub, w_ltT, w_le, w_gt, w_ge, w_neg, w_intI, w_intB, w_abs, w_max, w_min, w_lenL, w_lenT, w_lenLo, w_lenTo, w_reprB, w_lenStr, w_strI, w_strS, v_loopN, v_loopC, v_loopB, v_loopR, List.length_cons, List.length_nil, Nat.reduceAdd, Nat.reduceSub, Nat.reduceLeDiff, Nat.reduceMul, Int.reduceLT, Int.reduceLE, Int.reduceAdd, Int.reduceSub, Int.reduceMul, Int.reduceEq, Int.reduceNeg, Nat.reduceEqDiff, reduceIte, List.replicate_succ, List.replicate_zero, List.cons_append, List.nil_append, Bool.not_true, Bool.not_false, Bool.and_true, Bool.true_and, Bool.and_false, Bool.false_and, Bool.or_true, Bool.true_or, Bool.or_false, Bool.false_or, decide_true, decide_false, Option.isSome_some, beq_self_eq_true, o_mod, o_div, o_mul, o_eqI, o_neI, o_eqB, o_neB, o_isiI, o_isiB, o_isiS, ite_iteE, e]
theorem tl_all {L : W} (h : List O) : ∀ (ws : List W) (o : Option W), (∀ w ∈ ws, GoodT w) → ∃ o', mForL (fun _ => true) (gN 1) tl_b ws [some L, o, none, none] h = .nx [some L, o', none, none] h
  | [], o, _ => ⟨o, rfl⟩
  | w :: ws, o, hw => by
    obtain ⟨o', e⟩ := tl_all h ws (some w) fun x hx => hw x (List.mem_cons_of_mem _ hx)
    exact ⟨o', (loop_cN (σ1 := [some L, some w, none, none]) rfl rfl (tl_good (o := o) (hw w List.mem_cons_self) h)).trans e⟩
theorem tl_some {L : W} (h : List O) : ∀ (ws : List W) (o : Option W), (∀ w ∈ ws, GoodT w ∨ BadT 2 w) → (∃ w ∈ ws, BadT 2 w) → ∃ σ', mForL (fun _ => true) (gN 1) tl_b ws [some L, o, none, none] h = .exc xTxt σ' h
  | [], o, _, hb => by obtain ⟨_, z, _⟩ := hb; cases z
  | w :: ws, o, hw, hb => by
    by_cases hg : GoodT w
    · obtain ⟨σ', e⟩ := tl_some h ws (some w) (fun x hx => hw x (List.mem_cons_of_mem _ hx)) (by
        obtain ⟨x, hx, bx⟩ := hb
        rcases List.mem_cons.mp hx with rfl | hx
        · obtain ⟨t, rfl, hd, hl⟩ := hg
          have e1 := bx []
          have e2 := is_text (k := 2) (.inl rfl) [] t hd hl
          rw [e1] at e2
          cases e2
        · exact ⟨x, hx, bx⟩)
      exact ⟨σ', (loop_cN (σ1 := [some L, some w, none, none]) rfl rfl (tl_good (o := o) hg h)).trans e⟩
    · have bw : BadT 2 w := (hw w List.mem_cons_self).resolve_left hg
      exact ⟨_, loop_cX (σ1 := [some L, some w, none, none]) rfl rfl (tl_bad bw h)⟩
theorem v_defV0 {n : Nat} {b : MS} {ws : List W} {h : List O} (hl : ws.length ≤ 1000) : mDefV 0 n b ws h = mDef n b [.tup ws] h := by
  unfold mDefV
  exact if_pos ⟨Nat.zero_le _, Nat.le_trans (show (ws.drop 0).length ≤ 1000 by simpa using hl) (by decide)⟩
theorem tol_unf (ws : List W) (h : List O) (hl : ws.length ≤ 1000) : m_text_of_lines ws h = mDef 4 b_text_of_lines [.tup ws] h := by
  rw [m_text_of_lines_eq]
  exact v_defV0 hl
theorem tol_bad (ws : List W) (h : List O) (hl : ws.length ≤ 100) (hw : ∀ w ∈ ws, GoodT w ∨ BadT 2 w) (hb : ∃ w ∈ ws, BadT 2 w) : m_text_of_lines ws h = .exc xTxt h := by
  obtain ⟨σ', e⟩ := tl_some (L := .tup ws) h ws none hw hb
  unfold tl_b at e
  rw [tol_unf ws h (by omega)]; unfold b_text_of_lines
  simp only [v_Ok, v_Nx, v_bind, v_bind0, v_sbind, v_nb, v_bindx, v_sbindx, v_ofO, v_ofH, v_ofR, v_ofE, v_omap, v_obind, v_iteT, v_iteF, v_mAnd, v_mOr, v_mAndW, v_mOrW, v_var0, v_varS, v_c, v_op, v_un, v_cb, v_call, v_bm, v_pM, v_pF, v_nil, v_cons, v_star, v_b, v_asB, v_tru, v_notT, v_not, v_andT, v_orT, v_and, v_or, v_if, v_chain, v_tup, v_lst, v_lstN, v_okLen, v_sl, v_noP, v_asI, v_part, v_it, v_rng, v_zip, v_lc, v_lcN, v_wipe0, v_wipeS, v_set0, v_setS, v_lsetr, v_lsetS, v_seq, v_seqN, v_seqR, v_seqB, v_seqC, v_seqX, v_next, v_brk, v_cnt, v_drop, v_ret, v_retN, v_ifS, v_set, v_two, v_par, v_asg, v_store, v_aug, v_itD, v_items, d_T, d_To, d_L, d_Lo, d_S, d_D, d_R, d_RO, d_ROd, d_I, d_IR, d_IRO, v_one, v_enum, v_zipT, v_augS, v_disp, v_prs0, v_prsS, v_fmt, v_for, v_def, v_dnx, v_drt, v_dexc, v_map0, v_mapS, v_gN, v_gT, v_gTo, v_gNs0, v_gNsS, v_yes, v_insOf, v_insO, v_isIns, v_isO, v_isOL, v_isT, v_isLs, v_isI, v_isS, v_slot0, v_slotS, v_slot, v_meth, v_make, v_beqN, v_refOf, v_put, v_putW00, v_putW0S, v_putWS0, v_putWSS, v_isi, v_lenSet, v_lenC, v_strC, v_dctN, v_lstO, v_ixR, v_ixO, v_seqRf, v_seqT, v_seqTo, v_seqLs, v_seqLo, v_lenR, v_isTR, v_isTO, v_isTOd, v_isTL, v_isTS, v_itR, v_itL, v_itT, v_itTo, v_itS, v_truR, v_truT, v_truL, v_truB, v_truI, v_setR, v_setO, v_app, v_appO, v_ext, v_extO, v_addR, v_addO, v_addL, v_addT, v_top, h_set, h_push, h_lt, h_lenS, h_lenA, w_add, w_addBB, w_sub, w_iadd, w_isub, w_ltT, w_le, w_gt, w_ge, w_neg, w_intI, w_intB, w_abs, w_max, w_min, w_lenL, w_lenT, w_lenLo, w_lenTo, w_reprB, w_lenStr, w_strI, w_strS, v_loopN, v_loopC, v_loopB, v_loopR, List.length_cons, List.length_nil, Nat.reduceAdd, Nat.reduceSub, Nat.reduceLeDiff, Nat.reduceMul, Int.reduceLT, Int.reduceLE, Int.reduceAdd, Int.reduceSub, Int.reduceMul, Int.reduceEq, Int.reduceNeg, Nat.reduceEqDiff, reduceIte, List.replicate_succ, List.replicate_zero, List.cons_append, List.nil_append, Bool.not_true, Bool.not_false, Bool.and_true, Bool.true_and, Bool.and_false, Bool.false_and, Bool.or_true, Bool.true_or, Bool.or_false, Bool.false_or, decide_true, decide_false, Option.isSome_some, beq_self_eq_true, o_mod, o_div, o_mul, o_eqI, o_neI, o_eqB, o_neB, o_isiI, o_isiB, o_isiS, ite_iteE, e]
theorem tol_op0 (h : List O) : m_text_of_lines [] h = .exc xOp h := by
  obtain ⟨o', e⟩ := tl_all (L := .tup []) h [] none (by simp)
  unfold tl_b at e
  have l0 : nLenD h [.tup []] = some (.int 0) := rfl
  rw [tol_unf [] h (by simp)]; unfold b_text_of_lines
  simp only [v_Ok, v_Nx, v_bind, v_bind0, v_sbind, v_nb, v_bindx, v_sbindx, v_ofO, v_ofH, v_ofR, v_ofE, v_omap, v_obind, v_iteT, v_iteF, v_mAnd, v_mOr, v_mAndW, v_mOrW, v_var0, v_varS, v_c, v_op, v_un, v_cb, v_call, v_bm, v_pM, v_pF, v_nil, v_cons, v_star, v_b, v_asB, v_tru, v_notT, v_not, v_andT, v_orT, v_and, v_or, v_if, v_chain, v_tup, v_lst, v_lstN, v_okLen, v_sl, v_noP, v_asI, v_part, v_it, v_rng, v_zip, v_lc, v_lcN, v_wipe0, v_wipeS, v_set0, v_setS, v_lsetr, v_lsetS, v_seq, v_seqN, v_seqR, v_seqB, v_seqC, v_seqX, v_next, v_brk, v_cnt, v_drop, v_ret, v_retN, v_ifS, v_set, v_two, v_par, v_asg, v_store, v_aug, v_itD, v_items, d_T, d_To, d_L, d_Lo, d_S, d_D, d_R, d_RO, d_ROd, d_I, d_IR, d_IRO, v_one, v_enum, v_zipT, v_augS, v_disp, v_prs0, v_prsS, v_fmt, v_for, v_def, v_dnx, v_drt, v_dexc, v_map0, v_mapS, v_gN, v_gT, v_gTo, v_gNs0, v_gNsS, v_yes, v_insOf, v_insO, v_isIns, v_isO, v_isOL, v_isT, v_isLs, v_isI, v_isS, v_slot0, v_slotS, v_slot, v_meth, v_make, v_beqN, v_refOf, v_put, v_putW00, v_putW0S, v_putWS0, v_putWSS, v_isi, v_lenSet, v_lenC, v_strC, v_dctN, v_lstO, v_ixR, v_ixO, v_seqRf, v_seqT, v_seqTo, v_seqLs, v_seqLo, v_lenR, v_isTR, v_isTO, v_isTOd, v_isTL, v_isTS, v_itR, v_itL, v_itT, v_itTo, v_itS, v_truR, v_truT, v_truL, v_truB, v_truI, v_setR, v_setO, v_app, v_appO, v_ext, v_extO, v_addR, v_addO, v_addL, v_addT, v_top, h_set, h_push, h_lt, h_lenS, h_lenA, w_add, w_addBB, w_sub, w_iadd, w_isub, w_ltT, w_le, w_gt, w_ge, w_neg, w_intI, w_intB, w_abs, w_max, w_min, w_lenL, w_lenT, w_lenLo, w_lenTo, w_reprB, w_lenStr, w_strI, w_strS, v_loopN, v_loopC, v_loopB, v_loopR, List.length_cons, List.length_nil, Nat.reduceAdd, Nat.reduceSub, Nat.reduceLeDiff, Nat.reduceMul, Int.reduceLT, Int.reduceLE, Int.reduceAdd, Int.reduceSub, Int.reduceMul, Int.reduceEq, Int.reduceNeg, Nat.reduceEqDiff, reduceIte, List.replicate_succ, List.replicate_zero, List.cons_append, List.nil_append, Bool.not_true, Bool.not_false, Bool.and_true, Bool.true_and, Bool.and_false, Bool.false_and, Bool.or_true, Bool.true_or, Bool.or_false, Bool.false_or, decide_true, decide_false, Option.isSome_some, beq_self_eq_true, o_mod, o_div, o_mul, o_eqI, o_neI, o_eqB, o_neB, o_isiI, o_isiB, o_isiS, ite_iteE, e, l0, v_raise]
theorem tol_op3 (a b c : W) (h : List O) (ha : GoodT a) (hb : GoodT b) (hc : GoodT c) : m_text_of_lines [a, b, c] h = .exc xOp h := by
  obtain ⟨o', e⟩ := tl_all (L := .tup [a, b, c]) h [a, b, c] none (by simp [ha, hb, hc])
  unfold tl_b at e
  have l0 : nLenD h [.tup [a, b, c]] = some (.int 3) := rfl
  rw [tol_unf [a, b, c] h (by simp)]; unfold b_text_of_lines
  simp only [v_Ok, v_Nx, v_bind, v_bind0, v_sbind, v_nb, v_bindx, v_sbindx, v_ofO, v_ofH, v_ofR, v_ofE, v_omap, v_obind, v_iteT, v_iteF, v_mAnd, v_mOr, v_mAndW, v_mOrW, v_var0, v_varS, v_c, v_op, v_un, v_cb, v_call, v_bm, v_pM, v_pF, v_nil, v_cons, v_star, v_b, v_asB, v_tru, v_notT, v_not, v_andT, v_orT, v_and, v_or, v_if, v_chain, v_tup, v_lst, v_lstN, v_okLen, v_sl, v_noP, v_asI, v_part, v_it, v_rng, v_zip, v_lc, v_lcN, v_wipe0, v_wipeS, v_set0, v_setS, v_lsetr, v_lsetS, v_seq, v_seqN, v_seqR, v_seqB, v_seqC, v_seqX, v_next, v_brk, v_cnt, v_drop, v_ret, v_retN, v_ifS, v_set, v_two, v_par, v_asg, v_store, v_aug, v_itD, v_items, d_T, d_To, d_L, d_Lo, d_S, d_D, d_R, d_RO, d_ROd, d_I, d_IR, d_IRO, v_one, v_enum, v_zipT, v_augS, v_disp, v_prs0, v_prsS, v_fmt, v_for, v_def, v_dnx, v_drt, v_dexc, v_map0, v_mapS, v_gN, v_gT, v_gTo, v_gNs0, v_gNsS, v_yes, v_insOf, v_insO, v_isIns, v_isO, v_isOL, v_isT, v_isLs, v_isI, v_isS, v_slot0, v_slotS, v_slot, v_meth, v_make, v_beqN, v_refOf, v_put, v_putW00, v_putW0S, v_putWS0, v_putWSS, v_isi, v_lenSet, v_lenC, v_strC, v_dctN, v_lstO, v_ixR, v_ixO, v_seqRf, v_seqT, v_seqTo, v_seqLs, v_seqLo, v_lenR, v_isTR, v_isTO, v_isTOd, v_isTL, v_isTS, v_itR, v_itL, v_itT, v_itTo, v_itS, v_truR, v_truT, v_truL, v_truB, v_truI, v_setR, v_setO, v_app, v_appO, v_ext, v_extO, v_addR, v_addO, v_addL, v_addT, v_top, h_set, h_push, h_lt, h_lenS, h_lenA, w_add, w_addBB, w_sub, w_iadd, w_isub, w_ltT, w_le, w_gt, w_ge, w_neg, w_intI, w_intB, w_abs, w_max, w_min, w_lenL, w_lenT, w_lenLo, w_lenTo, w_reprB, w_lenStr, w_strI, w_strS, v_loopN, v_loopC, v_loopB, v_loopR, List.length_cons, List.length_nil, Nat.reduceAdd, Nat.reduceSub, Nat.reduceLeDiff, Nat.reduceMul, Int.reduceLT, Int.reduceLE, Int.reduceAdd, Int.reduceSub, Int.reduceMul, Int.reduceEq, Int.reduceNeg, Nat.reduceEqDiff, reduceIte, List.replicate_succ, List.replicate_zero, List.cons_append, List.nil_append, Bool.not_true, Bool.not_false, Bool.and_true, Bool.true_and, Bool.and_false, Bool.false_and, Bool.or_true, Bool.true_or, Bool.or_false, Bool.false_or, decide_true, decide_false, Option.isSome_some, beq_self_eq_true, o_mod, o_div, o_mul, o_eqI, o_neI, o_eqB, o_neB, o_isiI, o_isiB, o_isiS, ite_iteE, e, l0, v_raise]
theorem ta0 (a b : W) (h : List O) : nIx h (.tup [a, b]) (.int 0) = some a := rfl
theorem ta1 (a b : W) (h : List O) : nIx h (.tup [a, b]) (.int 1) = some b := rfl
theorem tam (a b : W) (h : List O) : nIx h (.tup [a, b]) (.int (-1)) = some b := rfl
theorem tol_op2 (t u : List Nat) (h : List O) (ht : ∀ d ∈ t, d < 2) (hu : ∀ d ∈ u, d < 2) (lt : t.length = 2) (lu : u.length = 3) : m_text_of_lines [stx t, stx u] h = .exc xOp h := by
  obtain ⟨o', e⟩ := tl_all (L := .tup [stx t, stx u]) h [stx t, stx u] none (by
    intro w hw
    simp only [List.mem_cons, List.not_mem_nil, or_false] at hw
    rcases hw with rfl | rfl
    · exact ⟨t, rfl, ht, by omega⟩
    · exact ⟨u, rfl, hu, by omega⟩)
  unfold tl_b at e
  have l0 : nLenD h [.tup [stx t, stx u]] = some (.int 2) := rfl
  have l1 : nLenD h [stx t] = some (.int 2) := by rw [lenS h t (by omega), lt]; rfl
  have l2 : nLenD h [stx u] = some (.int 3) := by rw [lenS h u (by omega), lu]; rfl
  have a0 := ta0 (stx t) (stx u) h
  have a1 := tam (stx t) (stx u) h
  rw [tol_unf _ h (by simp)]; unfold b_text_of_lines
  simp only [v_Ok, v_Nx, v_bind, v_bind0, v_sbind, v_nb, v_bindx, v_sbindx, v_ofO, v_ofH, v_ofR, v_ofE, v_omap, v_obind, v_iteT, v_iteF, v_mAnd, v_mOr, v_mAndW, v_mOrW, v_var0, v_varS, v_c, v_op, v_un, v_cb, v_call, v_bm, v_pM, v_pF, v_nil, v_cons, v_star, v_b, v_asB, v_tru, v_notT, v_not, v_andT, v_orT, v_and, v_or, v_if, v_chain, v_tup, v_lst, v_lstN, v_okLen, v_sl, v_noP, v_asI, v_part, v_it, v_rng, v_zip, v_lc, v_lcN, v_wipe0, v_wipeS, v_set0, v_setS, v_lsetr, v_lsetS, v_seq, v_seqN, v_seqR, v_seqB, v_seqC, v_seqX, v_next, v_brk, v_cnt, v_drop, v_ret, v_retN, v_ifS, v_set, v_two, v_par, v_asg, v_store, v_aug, v_itD, v_items, d_T, d_To, d_L, d_Lo, d_S, d_D, d_R, d_RO, d_ROd, d_I, d_IR, d_IRO, v_one, v_enum, v_zipT, v_augS, v_disp, v_prs0, v_prsS, v_fmt, v_for, v_def, v_dnx, v_drt, v_dexc, v_map0, v_mapS, v_gN, v_gT, v_gTo, v_gNs0, v_gNsS, v_yes, v_insOf, v_insO, v_isIns, v_isO, v_isOL, v_isT, v_isLs, v_isI, v_isS, v_slot0, v_slotS, v_slot, v_meth, v_make, v_beqN, v_refOf, v_put, v_putW00, v_putW0S, v_putWS0, v_putWSS, v_isi, v_lenSet, v_lenC, v_strC, v_dctN, v_lstO, v_ixR, v_ixO, v_seqRf, v_seqT, v_seqTo, v_seqLs, v_seqLo, v_lenR, v_isTR, v_isTO, v_isTOd, v_isTL, v_isTS, v_itR, v_itL, v_itT, v_itTo, v_itS, v_truR, v_truT, v_truL, v_truB, v_truI, v_setR, v_setO, v_app, v_appO, v_ext, v_extO, v_addR, v_addO, v_addL, v_addT, v_top, h_set, h_push, h_lt, h_lenS, h_lenA, w_add, w_addBB, w_sub, w_iadd, w_isub, w_ltT, w_le, w_gt, w_ge, w_neg, w_intI, w_intB, w_abs, w_max, w_min, w_lenL, w_lenT, w_lenLo, w_lenTo, w_reprB, w_lenStr, w_strI, w_strS, v_loopN, v_loopC, v_loopB, v_loopR, List.length_cons, List.length_nil, Nat.reduceAdd, Nat.reduceSub, Nat.reduceLeDiff, Nat.reduceMul, Int.reduceLT, Int.reduceLE, Int.reduceAdd, Int.reduceSub, Int.reduceMul, Int.reduceEq, Int.reduceNeg, Nat.reduceEqDiff, reduceIte, List.replicate_succ, List.replicate_zero, List.cons_append, List.nil_append, Bool.not_true, Bool.not_false, Bool.and_true, Bool.true_and, Bool.and_false, Bool.false_and, Bool.or_true, Bool.true_or, Bool.or_false, Bool.false_or, decide_true, decide_false, Option.isSome_some, beq_self_eq_true, o_mod, o_div, o_mul, o_eqI, o_neI, o_eqB, o_neB, o_isiI, o_isiB, o_isiS, ite_iteE, e, l0, a0, a1, l1, l2, v_raise]
theorem mulD (h : List O) (a b : Nat) (ha : a ≤ 1000) (hb : b ≤ 1000) : nMul h (.int (a : Int)) (.int (b : Int)) = some (.int ((a * b : Nat) : Int)) := by
  rw [o_mul (log_add (log_small 1000 (by omega)) (log_small 1000 (by omega)))]
  congr 2
theorem zip_mem : ∀ (xs ys : List Nat) (w : W), w ∈ zipPs (xs.map sg) (ys.map sg) → ∃ a b, a ∈ xs ∧ b ∈ ys ∧ w = .tup [sg a, sg b]
  | [], _, w, h => by simp [zipPs] at h
  | _ :: _, [], w, h => by simp [zipPs] at h
  | x :: xs, y :: ys, w, h => by
    simp only [List.map_cons, zipPs, List.mem_cons] at h
    rcases h with rfl | h
    · exact ⟨x, y, List.mem_cons_self, List.mem_cons_self, rfl⟩
    · obtain ⟨a, b, h1, h2, h3⟩ := zip_mem xs ys w h
      exact ⟨a, b, List.mem_cons_of_mem _ h1, List.mem_cons_of_mem _ h2, h3⟩
theorem tol_told (t : List Nat) (h : List O) (ht : ∀ d ∈ t, d < 2) (lt : t.length ≤ 200) : ∃ u, m_text_of_lines [stx t, stx t] h = .ok u h := by
  obtain ⟨o', e⟩ := tl_all (L := .tup [stx t, stx t]) h [stx t, stx t] none (by
    intro w hw
    simp only [List.mem_cons, List.not_mem_nil, or_false] at hw
    rcases hw with rfl | rfl
    · exact ⟨t, rfl, ht, lt⟩
    · exact ⟨t, rfl, ht, lt⟩)
  unfold tl_b at e
  have l0 : nLenD h [.tup [stx t, stx t]] = some (.int 2) := rfl
  have l1 : nLenD h [stx t] = some (nW t.length) := lenS h t (by omega)
  have nn : nNe h (nW t.length) (nW t.length) = some (.bl false) := by
    show nNe h (.int _) (.int _) = _
    rw [o_neI, decide_eq_true rfl]; rfl
  have a0 := fun h => ta0 (stx t) (stx t) h
  have a1 := tam (stx t) (stx t) h
  have a2 := fun h => ta1 (stx t) (stx t) h
  have zz : zipW [stx t, stx t] = some (zipPs (t.map sg) (t.map sg), fun _ => true) := by
    show some (zipPs (signsW (tx t)) (signsW (tx t)), _) = _
    rw [signs_tx]
  suffices goal : Ok (m_text_of_lines [stx t, stx t] h) fun _ h' => h' = h by
    obtain ⟨u, h', e, rfl⟩ := goal
    exact ⟨u, e⟩
  rw [tol_unf _ h (by simp)]; unfold b_text_of_lines
  simp only [v_Ok, v_Nx, v_bind, v_bind0, v_sbind, v_nb, v_bindx, v_sbindx, v_ofO, v_ofH, v_ofR, v_ofE, v_omap, v_obind, v_iteT, v_iteF, v_mAnd, v_mOr, v_mAndW, v_mOrW, v_var0, v_varS, v_c, v_op, v_un, v_cb, v_call, v_bm, v_pM, v_pF, v_nil, v_cons, v_star, v_b, v_asB, v_tru, v_notT, v_not, v_andT, v_orT, v_and, v_or, v_if, v_chain, v_tup, v_lst, v_lstN, v_okLen, v_sl, v_noP, v_asI, v_part, v_it, v_rng, v_zip, v_lc, v_lcN, v_wipe0, v_wipeS, v_set0, v_setS, v_lsetr, v_lsetS, v_seq, v_seqN, v_seqR, v_seqB, v_seqC, v_seqX, v_next, v_brk, v_cnt, v_drop, v_ret, v_retN, v_ifS, v_set, v_two, v_par, v_asg, v_store, v_aug, v_itD, v_items, d_T, d_To, d_L, d_Lo, d_S, d_D, d_R, d_RO, d_ROd, d_I, d_IR, d_IRO, v_one, v_enum, v_zipT, v_augS, v_disp, v_prs0, v_prsS, v_fmt, v_for, v_def, v_dnx, v_drt, v_dexc, v_map0, v_mapS, v_gN, v_gT, v_gTo, v_gNs0, v_gNsS, v_yes, v_insOf, v_insO, v_isIns, v_isO, v_isOL, v_isT, v_isLs, v_isI, v_isS, v_slot0, v_slotS, v_slot, v_meth, v_make, v_beqN, v_refOf, v_put, v_putW00, v_putW0S, v_putWS0, v_putWSS, v_isi, v_lenSet, v_lenC, v_strC, v_dctN, v_lstO, v_ixR, v_ixO, v_seqRf, v_seqT, v_seqTo, v_seqLs, v_seqLo, v_lenR, v_isTR, v_isTO, v_isTOd, v_isTL, v_isTS, v_itR, v_itL, v_itT, v_itTo, v_itS, v_truR, v_truT, v_truL, v_truB, v_truI, v_setR, v_setO, v_app, v_appO, v_ext, v_extO, v_addR, v_addO, v_addL, v_addT, v_top, h_set, h_push, h_lt, h_lenS, h_lenA, w_add, w_addBB, w_sub, w_iadd, w_isub, w_ltT, w_le, w_gt, w_ge, w_neg, w_intI, w_intB, w_abs, w_max, w_min, w_lenL, w_lenT, w_lenLo, w_lenTo, w_reprB, w_lenStr, w_strI, w_strS, v_loopN, v_loopC, v_loopB, v_loopR, List.length_cons, List.length_nil, Nat.reduceAdd, Nat.reduceSub, Nat.reduceLeDiff, Nat.reduceMul, Int.reduceLT, Int.reduceLE, Int.reduceAdd, Int.reduceSub, Int.reduceMul, Int.reduceEq, Int.reduceNeg, Nat.reduceEqDiff, reduceIte, List.replicate_succ, List.replicate_zero, List.cons_append, List.nil_append, Bool.not_true, Bool.not_false, Bool.and_true, Bool.true_and, Bool.and_false, Bool.false_and, Bool.or_true, Bool.true_or, Bool.or_false, Bool.false_or, decide_true, decide_false, Option.isSome_some, beq_self_eq_true, o_mod, o_div, o_mul, o_eqI, o_neI, o_eqB, o_neB, o_isiI, o_isiB, o_isiS, ite_iteE, e, l0, a0, a1, a2, l1, nn, zz]
  generalize hL : mLcL _ _ _ _ _ _ _ _ = LL
  obtain ⟨acc, h', rfl, l, rfl, ll, ld, rfl⟩ := lcL_inv hL (I := fun k acc h' => ∃ l : List Nat, acc = l.map sg ∧ l.length = k ∧ (∀ d ∈ l, d < 4) ∧ h' = h)
    ⟨[], rfl, rfl, by simp, rfl⟩ (fun _ _ _ _ => rfl) (by rw [zipPs_len]; exact sz (m := 1000) (by simp; omega)) (by
      rintro k x acc h' hx ⟨l, rfl, ll, ld, rfl⟩
      obtain ⟨a, b, ha, hb, rfl⟩ := zip_mem t t x (List.mem_of_getElem? hx)
      have da := digit_int a h' (by have := ht a ha; omega)
      have db := digit_int b h' (by have := ht b hb; omega)
      have hb2 := ht b hb
      have ha2 := ht a ha
      have mu : nMul h' (.int 2) (.int (b : Int)) = some (.int ((2 * b : Nat) : Int)) := by
        have := mulD h' 2 b (by omega) (by omega)
        exact this
      have ds : nStr h' [.int ((a : Int) + ((2 * b : Nat) : Int))] = some (sg (a + 2 * b)) := by
        have := digit_str (a + 2 * b) h' (by omega)
        rw [← this]
        congr 2
      refine ⟨_, rfl, true, h', rfl, ?_⟩
      rw [if_pos rfl]
      refine ⟨sg (a + 2 * b), h', ?_, l ++ [a + 2 * b], by simp, by simp [ll], fun x hx => ?_, rfl⟩
      · simp only [v_Ok, v_Nx, v_bind, v_bind0, v_sbind, v_nb, v_bindx, v_sbindx, v_ofO, v_ofH, v_ofR, v_ofE, v_omap, v_obind, v_iteT, v_iteF, v_mAnd, v_mOr, v_mAndW, v_mOrW, v_var0, v_varS, v_c, v_op, v_un, v_cb, v_call, v_bm, v_pM, v_pF, v_nil, v_cons, v_star, v_b, v_asB, v_tru, v_notT, v_not, v_andT, v_orT, v_and, v_or, v_if, v_chain, v_tup, v_lst, v_lstN, v_okLen, v_sl, v_noP, v_asI, v_part, v_it, v_rng, v_zip, v_lc, v_lcN, v_wipe0, v_wipeS, v_set0, v_setS, v_lsetr, v_lsetS, v_seq, v_seqN, v_seqR, v_seqB, v_seqC, v_seqX, v_next, v_brk, v_cnt, v_drop, v_ret, v_retN, v_ifS, v_set, v_two, v_par, v_asg, v_store, v_aug, v_itD, v_items, d_T, d_To, d_L, d_Lo, d_S, d_D, d_R, d_RO, d_ROd, d_I, d_IR, d_IRO, v_one, v_enum, v_zipT, v_augS, v_disp, v_prs0, v_prsS, v_fmt, v_for, v_def, v_dnx, v_drt, v_dexc, v_map0, v_mapS, v_gN, v_gT, v_gTo, v_gNs0, v_gNsS, v_yes, v_insOf, v_insO, v_isIns, v_isO, v_isOL, v_isT, v_isLs, v_isI, v_isS, v_slot0, v_slotS, v_slot, v_meth, v_make, v_beqN, v_refOf, v_put, v_putW00, v_putW0S, v_putWS0, v_putWSS, v_isi, v_lenSet, v_lenC, v_strC, v_dctN, v_lstO, v_ixR, v_ixO, v_seqRf, v_seqT, v_seqTo, v_seqLs, v_seqLo, v_lenR, v_isTR, v_isTO, v_isTOd, v_isTL, v_isTS, v_itR, v_itL, v_itT, v_itTo, v_itS, v_truR, v_truT, v_truL, v_truB, v_truI, v_setR, v_setO, v_app, v_appO, v_ext, v_extO, v_addR, v_addO, v_addL, v_addT, v_top, h_set, h_push, h_lt, h_lenS, h_lenA, w_add, w_addBB, w_sub, w_iadd, w_isub, w_ltT, w_le, w_gt, w_ge, w_neg, w_intI, w_intB, w_abs, w_max, w_min, w_lenL, w_lenT, w_lenLo, w_lenTo, w_reprB, w_lenStr, w_strI, w_strS, v_loopN, v_loopC, v_loopB, v_loopR, List.length_cons, List.length_nil, Nat.reduceAdd, Nat.reduceSub, Nat.reduceLeDiff, Nat.reduceMul, Int.reduceLT, Int.reduceLE, Int.reduceAdd, Int.reduceSub, Int.reduceMul, Int.reduceEq, Int.reduceNeg, Nat.reduceEqDiff, reduceIte, List.replicate_succ, List.replicate_zero, List.cons_append, List.nil_append, Bool.not_true, Bool.not_false, Bool.and_true, Bool.true_and, Bool.and_false, Bool.false_and, Bool.or_true, Bool.true_or, Bool.or_false, Bool.false_or, decide_true, decide_false, Option.isSome_some, beq_self_eq_true, o_mod, o_div, o_mul, o_eqI, o_neI, o_eqB, o_neB, o_isiI, o_isiB, o_isiS, ite_iteE, da, db, mu, ds]
      · rcases List.mem_append.mp hx with hx | hx
        · exact ld x hx
        · simp at hx; omega)
  have j := join_ok l h' (by rw [ll, zipPs_len]; simp; omega)
  simp only [v_Ok, v_Nx, v_bind, v_bind0, v_sbind, v_nb, v_bindx, v_sbindx, v_ofO, v_ofH, v_ofR, v_ofE, v_omap, v_obind, v_iteT, v_iteF, v_mAnd, v_mOr, v_mAndW, v_mOrW, v_var0, v_varS, v_c, v_op, v_un, v_cb, v_call, v_bm, v_pM, v_pF, v_nil, v_cons, v_star, v_b, v_asB, v_tru, v_notT, v_not, v_andT, v_orT, v_and, v_or, v_if, v_chain, v_tup, v_lst, v_lstN, v_okLen, v_sl, v_noP, v_asI, v_part, v_it, v_rng, v_zip, v_lc, v_lcN, v_wipe0, v_wipeS, v_set0, v_setS, v_lsetr, v_lsetS, v_seq, v_seqN, v_seqR, v_seqB, v_seqC, v_seqX, v_next, v_brk, v_cnt, v_drop, v_ret, v_retN, v_ifS, v_set, v_two, v_par, v_asg, v_store, v_aug, v_itD, v_items, d_T, d_To, d_L, d_Lo, d_S, d_D, d_R, d_RO, d_ROd, d_I, d_IR, d_IRO, v_one, v_enum, v_zipT, v_augS, v_disp, v_prs0, v_prsS, v_fmt, v_for, v_def, v_dnx, v_drt, v_dexc, v_map0, v_mapS, v_gN, v_gT, v_gTo, v_gNs0, v_gNsS, v_yes, v_insOf, v_insO, v_isIns, v_isO, v_isOL, v_isT, v_isLs, v_isI, v_isS, v_slot0, v_slotS, v_slot, v_meth, v_make, v_beqN, v_refOf, v_put, v_putW00, v_putW0S, v_putWS0, v_putWSS, v_isi, v_lenSet, v_lenC, v_strC, v_dctN, v_lstO, v_ixR, v_ixO, v_seqRf, v_seqT, v_seqTo, v_seqLs, v_seqLo, v_lenR, v_isTR, v_isTO, v_isTOd, v_isTL, v_isTS, v_itR, v_itL, v_itT, v_itTo, v_itS, v_truR, v_truT, v_truL, v_truB, v_truI, v_setR, v_setO, v_app, v_appO, v_ext, v_extO, v_addR, v_addO, v_addL, v_addT, v_top, h_set, h_push, h_lt, h_lenS, h_lenA, w_add, w_addBB, w_sub, w_iadd, w_isub, w_ltT, w_le, w_gt, w_ge, w_neg, w_intI, w_intB, w_abs, w_max, w_min, w_lenL, w_lenT, w_lenLo, w_lenTo, w_reprB, w_lenStr, w_strI, w_strS, v_loopN, v_loopC, v_loopB, v_loopR, List.length_cons, List.length_nil, Nat.reduceAdd, Nat.reduceSub, Nat.reduceLeDiff, Nat.reduceMul, Int.reduceLT, Int.reduceLE, Int.reduceAdd, Int.reduceSub, Int.reduceMul, Int.reduceEq, Int.reduceNeg, Nat.reduceEqDiff, reduceIte, List.replicate_succ, List.replicate_zero, List.cons_append, List.nil_append, Bool.not_true, Bool.not_false, Bool.and_true, Bool.true_and, Bool.and_false, Bool.false_and, Bool.or_true, Bool.true_or, Bool.or_false, Bool.false_or, decide_true, decide_false, Option.isSome_some, beq_self_eq_true, o_mod, o_div, o_mul, o_eqI, o_neI, o_eqB, o_neB, o_isiI, o_isiB, o_isiS, ite_iteE, j]
end N
set_option maxHeartbeats 4000000
namespace N
open PySem L2
theorem lines0 (h : List O) : m_law_lines_asked [.lst []] h = .ok (.str "operation") h := by
  have n1 : nx (.str "operation") = true := rfl
  have e := tol_op0 h
  have l : nLenD h [.lst []] = some (.int 0) := rfl
  rw [m_law_lines_asked_eq]; unfold b_law_lines_asked
  simp only [v_Ok, v_Nx, v_bind, v_bind0, v_sbind, v_nb, v_bindx, v_sbindx, v_ofO, v_ofH, v_ofR, v_ofE, v_omap, v_obind, v_iteT, v_iteF, v_mAnd, v_mOr, v_mAndW, v_mOrW, v_var0, v_varS, v_c, v_op, v_un, v_cb, v_call, v_bm, v_pM, v_pF, v_nil, v_cons, v_star, v_b, v_asB, v_tru, v_notT, v_not, v_andT, v_orT, v_and, v_or, v_if, v_chain, v_tup, v_lst, v_lstN, v_okLen, v_sl, v_noP, v_asI, v_part, v_it, v_rng, v_zip, v_lc, v_lcN, v_wipe0, v_wipeS, v_set0, v_setS, v_lsetr, v_lsetS, v_seq, v_seqN, v_seqR, v_seqB, v_seqC, v_seqX, v_next, v_brk, v_cnt, v_drop, v_ret, v_retN, v_ifS, v_set, v_two, v_par, v_asg, v_store, v_aug, v_itD, v_items, d_T, d_To, d_L, d_Lo, d_S, d_D, d_R, d_RO, d_ROd, d_I, d_IR, d_IRO, v_one, v_enum, v_zipT, v_augS, v_disp, v_prs0, v_prsS, v_fmt, v_for, v_def, v_dnx, v_drt, v_dexc, v_map0, v_mapS, v_gN, v_gT, v_gTo, v_gNs0, v_gNsS, v_yes, v_insOf, v_insO, v_isIns, v_isO, v_isOL, v_isT, v_isLs, v_isI, v_isS, v_slot0, v_slotS, v_slot, v_meth, v_make, v_beqN, v_refOf, v_put, v_putW00, v_putW0S, v_putWS0, v_putWSS, v_isi, v_lenSet, v_lenC, v_strC, v_dctN, v_lstO, v_ixR, v_ixO, v_seqRf, v_seqT, v_seqTo, v_seqLs, v_seqLo, v_lenR, v_isTR, v_isTO, v_isTOd, v_isTL, v_isTS, v_itR, v_itL, v_itT, v_itTo, v_itS, v_truR, v_truT, v_truL, v_truB, v_truI, v_setR, v_setO, v_app, v_appO, v_ext, v_extO, v_addR, v_addO, v_addL, v_addT, v_top, h_set, h_push, h_lt, h_lenS, h_lenA, w_add, w_addBB, w_sub, w_iadd, w_isub, w_ltT, w_le, w_gt, w_ge, w_neg, w_intI, w_intB, w_abs, w_max, w_min, w_lenL, w_lenT, w_lenLo, w_lenTo, w_reprB, w_lenStr, w_strI, w_strS, v_loopN, v_loopC, v_loopB, v_loopR, List.length_cons, List.length_nil, Nat.reduceAdd, Nat.reduceSub, Nat.reduceLeDiff, Nat.reduceMul, Int.reduceLT, Int.reduceLE, Int.reduceAdd, Int.reduceSub, Int.reduceMul, Int.reduceEq, Int.reduceNeg, Nat.reduceEqDiff, reduceIte, List.replicate_succ, List.replicate_zero, List.cons_append, List.nil_append, Bool.not_true, Bool.not_false, Bool.and_true, Bool.true_and, Bool.and_false, Bool.false_and, Bool.or_true, Bool.true_or, Bool.or_false, Bool.false_or, decide_true, decide_false, Option.isSome_some, beq_self_eq_true, o_mod, o_div, o_mul, o_eqI, o_neI, o_eqB, o_neB, o_isiI, o_isiB, o_isiS, ite_iteE, v_try, l, e, v_tryX, v_hndN mt_ot, v_hndY mt_oo, v_sufR, v_suf n1]
theorem lines1 (h : List O) (w : W) (hw : BadT 2 w) : m_law_lines_asked [.lst [w]] h = .ok (.str "text") h := by
  have n1 : nx (.str "text") = true := rfl
  have e := tol_bad [w] h (by simp) (by intro x hx; simp at hx; subst hx; exact .inr hw) ⟨w, by simp, hw⟩
  have l : nLenD h [.lst [w]] = some (.int 1) := rfl
  have i0 : nIx h (.lst [w]) (.int 0) = some w := rfl
  rw [m_law_lines_asked_eq]; unfold b_law_lines_asked
  simp only [v_Ok, v_Nx, v_bind, v_bind0, v_sbind, v_nb, v_bindx, v_sbindx, v_ofO, v_ofH, v_ofR, v_ofE, v_omap, v_obind, v_iteT, v_iteF, v_mAnd, v_mOr, v_mAndW, v_mOrW, v_var0, v_varS, v_c, v_op, v_un, v_cb, v_call, v_bm, v_pM, v_pF, v_nil, v_cons, v_star, v_b, v_asB, v_tru, v_notT, v_not, v_andT, v_orT, v_and, v_or, v_if, v_chain, v_tup, v_lst, v_lstN, v_okLen, v_sl, v_noP, v_asI, v_part, v_it, v_rng, v_zip, v_lc, v_lcN, v_wipe0, v_wipeS, v_set0, v_setS, v_lsetr, v_lsetS, v_seq, v_seqN, v_seqR, v_seqB, v_seqC, v_seqX, v_next, v_brk, v_cnt, v_drop, v_ret, v_retN, v_ifS, v_set, v_two, v_par, v_asg, v_store, v_aug, v_itD, v_items, d_T, d_To, d_L, d_Lo, d_S, d_D, d_R, d_RO, d_ROd, d_I, d_IR, d_IRO, v_one, v_enum, v_zipT, v_augS, v_disp, v_prs0, v_prsS, v_fmt, v_for, v_def, v_dnx, v_drt, v_dexc, v_map0, v_mapS, v_gN, v_gT, v_gTo, v_gNs0, v_gNsS, v_yes, v_insOf, v_insO, v_isIns, v_isO, v_isOL, v_isT, v_isLs, v_isI, v_isS, v_slot0, v_slotS, v_slot, v_meth, v_make, v_beqN, v_refOf, v_put, v_putW00, v_putW0S, v_putWS0, v_putWSS, v_isi, v_lenSet, v_lenC, v_strC, v_dctN, v_lstO, v_ixR, v_ixO, v_seqRf, v_seqT, v_seqTo, v_seqLs, v_seqLo, v_lenR, v_isTR, v_isTO, v_isTOd, v_isTL, v_isTS, v_itR, v_itL, v_itT, v_itTo, v_itS, v_truR, v_truT, v_truL, v_truB, v_truI, v_setR, v_setO, v_app, v_appO, v_ext, v_extO, v_addR, v_addO, v_addL, v_addT, v_top, h_set, h_push, h_lt, h_lenS, h_lenA, w_add, w_addBB, w_sub, w_iadd, w_isub, w_ltT, w_le, w_gt, w_ge, w_neg, w_intI, w_intB, w_abs, w_max, w_min, w_lenL, w_lenT, w_lenLo, w_lenTo, w_reprB, w_lenStr, w_strI, w_strS, v_loopN, v_loopC, v_loopB, v_loopR, List.length_cons, List.length_nil, Nat.reduceAdd, Nat.reduceSub, Nat.reduceLeDiff, Nat.reduceMul, Int.reduceLT, Int.reduceLE, Int.reduceAdd, Int.reduceSub, Int.reduceMul, Int.reduceEq, Int.reduceNeg, Nat.reduceEqDiff, reduceIte, List.replicate_succ, List.replicate_zero, List.cons_append, List.nil_append, Bool.not_true, Bool.not_false, Bool.and_true, Bool.true_and, Bool.and_false, Bool.false_and, Bool.or_true, Bool.true_or, Bool.or_false, Bool.false_or, decide_true, decide_false, Option.isSome_some, beq_self_eq_true, o_mod, o_div, o_mul, o_eqI, o_neI, o_eqB, o_neB, o_isiI, o_isiB, o_isiS, ite_iteE, v_try, l, i0, e, v_tryX, v_hndY mt_tt, v_sufR, v_suf n1]
theorem lines3 (h : List O) (p : Nat) (a b c : W) (x : Ex) (s : Str) (hp : h[p]? = some (.lst [a, b, c])) (e : m_text_of_lines [a, b, c] h = .exc x h) (hx : x = xTxt ∧ s = "text" ∨ x = xOp ∧ s = "operation") : m_law_lines_asked [.ref p] h = .ok (.str s) h := by
  have l : nLenD h [.ref p] = some (.int 3) := by
    unfold nLenD dctOf; simp only [hp]; rw [v_lenR, hp]; rfl
  have i0 : nIx h (.ref p) (.int 0) = some a := by rw [v_ixR, hp]; rfl
  have i1 : nIx h (.ref p) (.int 1) = some b := by rw [v_ixR, hp]; rfl
  have i2 : nIx h (.ref p) (.int 2) = some c := by rw [v_ixR, hp]; rfl
  have n1 : nx (.str "text") = true := rfl
  have n2 : nx (.str "operation") = true := rfl
  rw [m_law_lines_asked_eq]; unfold b_law_lines_asked
  rcases hx with ⟨rfl, rfl⟩ | ⟨rfl, rfl⟩
  · simp only [v_Ok, v_Nx, v_bind, v_bind0, v_sbind, v_nb, v_bindx, v_sbindx, v_ofO, v_ofH, v_ofR, v_ofE, v_omap, v_obind, v_iteT, v_iteF, v_mAnd, v_mOr, v_mAndW, v_mOrW, v_var0, v_varS, v_c, v_op, v_un, v_cb, v_call, v_bm, v_pM, v_pF, v_nil, v_cons, v_star, v_b, v_asB, v_tru, v_notT, v_not, v_andT, v_orT, v_and, v_or, v_if, v_chain, v_tup, v_lst, v_lstN, v_okLen, v_sl, v_noP, v_asI, v_part, v_it, v_rng, v_zip, v_lc, v_lcN, v_wipe0, v_wipeS, v_set0, v_setS, v_lsetr, v_lsetS, v_seq, v_seqN, v_seqR, v_seqB, v_seqC, v_seqX, v_next, v_brk, v_cnt, v_drop, v_ret, v_retN, v_ifS, v_set, v_two, v_par, v_asg, v_store, v_aug, v_itD, v_items, d_T, d_To, d_L, d_Lo, d_S, d_D, d_R, d_RO, d_ROd, d_I, d_IR, d_IRO, v_one, v_enum, v_zipT, v_augS, v_disp, v_prs0, v_prsS, v_fmt, v_for, v_def, v_dnx, v_drt, v_dexc, v_map0, v_mapS, v_gN, v_gT, v_gTo, v_gNs0, v_gNsS, v_yes, v_insOf, v_insO, v_isIns, v_isO, v_isOL, v_isT, v_isLs, v_isI, v_isS, v_slot0, v_slotS, v_slot, v_meth, v_make, v_beqN, v_refOf, v_put, v_putW00, v_putW0S, v_putWS0, v_putWSS, v_isi, v_lenSet, v_lenC, v_strC, v_dctN, v_lstO, v_ixR, v_ixO, v_seqRf, v_seqT, v_seqTo, v_seqLs, v_seqLo, v_lenR, v_isTR, v_isTO, v_isTOd, v_isTL, v_isTS, v_itR, v_itL, v_itT, v_itTo, v_itS, v_truR, v_truT, v_truL, v_truB, v_truI, v_setR, v_setO, v_app, v_appO, v_ext, v_extO, v_addR, v_addO, v_addL, v_addT, v_top, h_set, h_push, h_lt, h_lenS, h_lenA, w_add, w_addBB, w_sub, w_iadd, w_isub, w_ltT, w_le, w_gt, w_ge, w_neg, w_intI, w_intB, w_abs, w_max, w_min, w_lenL, w_lenT, w_lenLo, w_lenTo, w_reprB, w_lenStr, w_strI, w_strS, v_loopN, v_loopC, v_loopB, v_loopR, List.length_cons, List.length_nil, Nat.reduceAdd, Nat.reduceSub, Nat.reduceLeDiff, Nat.reduceMul, Int.reduceLT, Int.reduceLE, Int.reduceAdd, Int.reduceSub, Int.reduceMul, Int.reduceEq, Int.reduceNeg, Nat.reduceEqDiff, reduceIte, List.replicate_succ, List.replicate_zero, List.cons_append, List.nil_append, Bool.not_true, Bool.not_false, Bool.and_true, Bool.true_and, Bool.and_false, Bool.false_and, Bool.or_true, Bool.true_or, Bool.or_false, Bool.false_or, decide_true, decide_false, Option.isSome_some, beq_self_eq_true, o_mod, o_div, o_mul, o_eqI, o_neI, o_eqB, o_neB, o_isiI, o_isiB, o_isiS, ite_iteE, v_try, l, i0, i1, i2, e, v_tryX, v_hndY mt_tt, v_sufR, v_suf n1]
  · simp only [v_Ok, v_Nx, v_bind, v_bind0, v_sbind, v_nb, v_bindx, v_sbindx, v_ofO, v_ofH, v_ofR, v_ofE, v_omap, v_obind, v_iteT, v_iteF, v_mAnd, v_mOr, v_mAndW, v_mOrW, v_var0, v_varS, v_c, v_op, v_un, v_cb, v_call, v_bm, v_pM, v_pF, v_nil, v_cons, v_star, v_b, v_asB, v_tru, v_notT, v_not, v_andT, v_orT, v_and, v_or, v_if, v_chain, v_tup, v_lst, v_lstN, v_okLen, v_sl, v_noP, v_asI, v_part, v_it, v_rng, v_zip, v_lc, v_lcN, v_wipe0, v_wipeS, v_set0, v_setS, v_lsetr, v_lsetS, v_seq, v_seqN, v_seqR, v_seqB, v_seqC, v_seqX, v_next, v_brk, v_cnt, v_drop, v_ret, v_retN, v_ifS, v_set, v_two, v_par, v_asg, v_store, v_aug, v_itD, v_items, d_T, d_To, d_L, d_Lo, d_S, d_D, d_R, d_RO, d_ROd, d_I, d_IR, d_IRO, v_one, v_enum, v_zipT, v_augS, v_disp, v_prs0, v_prsS, v_fmt, v_for, v_def, v_dnx, v_drt, v_dexc, v_map0, v_mapS, v_gN, v_gT, v_gTo, v_gNs0, v_gNsS, v_yes, v_insOf, v_insO, v_isIns, v_isO, v_isOL, v_isT, v_isLs, v_isI, v_isS, v_slot0, v_slotS, v_slot, v_meth, v_make, v_beqN, v_refOf, v_put, v_putW00, v_putW0S, v_putWS0, v_putWSS, v_isi, v_lenSet, v_lenC, v_strC, v_dctN, v_lstO, v_ixR, v_ixO, v_seqRf, v_seqT, v_seqTo, v_seqLs, v_seqLo, v_lenR, v_isTR, v_isTO, v_isTOd, v_isTL, v_isTS, v_itR, v_itL, v_itT, v_itTo, v_itS, v_truR, v_truT, v_truL, v_truB, v_truI, v_setR, v_setO, v_app, v_appO, v_ext, v_extO, v_addR, v_addO, v_addL, v_addT, v_top, h_set, h_push, h_lt, h_lenS, h_lenA, w_add, w_addBB, w_sub, w_iadd, w_isub, w_ltT, w_le, w_gt, w_ge, w_neg, w_intI, w_intB, w_abs, w_max, w_min, w_lenL, w_lenT, w_lenLo, w_lenTo, w_reprB, w_lenStr, w_strI, w_strS, v_loopN, v_loopC, v_loopB, v_loopR, List.length_cons, List.length_nil, Nat.reduceAdd, Nat.reduceSub, Nat.reduceLeDiff, Nat.reduceMul, Int.reduceLT, Int.reduceLE, Int.reduceAdd, Int.reduceSub, Int.reduceMul, Int.reduceEq, Int.reduceNeg, Nat.reduceEqDiff, reduceIte, List.replicate_succ, List.replicate_zero, List.cons_append, List.nil_append, Bool.not_true, Bool.not_false, Bool.and_true, Bool.true_and, Bool.and_false, Bool.false_and, Bool.or_true, Bool.true_or, Bool.or_false, Bool.false_or, decide_true, decide_false, Option.isSome_some, beq_self_eq_true, o_mod, o_div, o_mul, o_eqI, o_neI, o_eqB, o_neB, o_isiI, o_isiB, o_isiS, ite_iteE, v_try, l, i0, i1, i2, e, v_tryX, v_hndN mt_ot, v_hndY mt_oo, v_sufR, v_suf n2]
theorem call2_bad1 (h : List O) (w x : W) (hw : BadT 4 w) : m_law_call [.int 2, w, x] h = .exc xTxt h := by
  have e : m_require_text [.int 4, w] h = .exc xTxt h := require_text_no (k := 4) hw h
  have e9 : m_comes_ahead [w, x] h = .exc xTxt h := by
    rw [m_comes_ahead_eq]; unfold b_comes_ahead
    simp only [v_Ok, v_Nx, v_bind, v_bind0, v_sbind, v_nb, v_bindx, v_sbindx, v_ofO, v_ofH, v_ofR, v_ofE, v_omap, v_obind, v_iteT, v_iteF, v_mAnd, v_mOr, v_mAndW, v_mOrW, v_var0, v_varS, v_c, v_op, v_un, v_cb, v_call, v_bm, v_pM, v_pF, v_nil, v_cons, v_star, v_b, v_asB, v_tru, v_notT, v_not, v_andT, v_orT, v_and, v_or, v_if, v_chain, v_tup, v_lst, v_lstN, v_okLen, v_sl, v_noP, v_asI, v_part, v_it, v_rng, v_zip, v_lc, v_lcN, v_wipe0, v_wipeS, v_set0, v_setS, v_lsetr, v_lsetS, v_seq, v_seqN, v_seqR, v_seqB, v_seqC, v_seqX, v_next, v_brk, v_cnt, v_drop, v_ret, v_retN, v_ifS, v_set, v_two, v_par, v_asg, v_store, v_aug, v_itD, v_items, d_T, d_To, d_L, d_Lo, d_S, d_D, d_R, d_RO, d_ROd, d_I, d_IR, d_IRO, v_one, v_enum, v_zipT, v_augS, v_disp, v_prs0, v_prsS, v_fmt, v_for, v_def, v_dnx, v_drt, v_dexc, v_map0, v_mapS, v_gN, v_gT, v_gTo, v_gNs0, v_gNsS, v_yes, v_insOf, v_insO, v_isIns, v_isO, v_isOL, v_isT, v_isLs, v_isI, v_isS, v_slot0, v_slotS, v_slot, v_meth, v_make, v_beqN, v_refOf, v_put, v_putW00, v_putW0S, v_putWS0, v_putWSS, v_isi, v_lenSet, v_lenC, v_strC, v_dctN, v_lstO, v_ixR, v_ixO, v_seqRf, v_seqT, v_seqTo, v_seqLs, v_seqLo, v_lenR, v_isTR, v_isTO, v_isTOd, v_isTL, v_isTS, v_itR, v_itL, v_itT, v_itTo, v_itS, v_truR, v_truT, v_truL, v_truB, v_truI, v_setR, v_setO, v_app, v_appO, v_ext, v_extO, v_addR, v_addO, v_addL, v_addT, v_top, h_set, h_push, h_lt, h_lenS, h_lenA, w_add, w_addBB, w_sub, w_iadd, w_isub, w_ltT, w_le, w_gt, w_ge, w_neg, w_intI, w_intB, w_abs, w_max, w_min, w_lenL, w_lenT, w_lenLo, w_lenTo, w_reprB, w_lenStr, w_strI, w_strS, v_loopN, v_loopC, v_loopB, v_loopR, List.length_cons, List.length_nil, Nat.reduceAdd, Nat.reduceSub, Nat.reduceLeDiff, Nat.reduceMul, Int.reduceLT, Int.reduceLE, Int.reduceAdd, Int.reduceSub, Int.reduceMul, Int.reduceEq, Int.reduceNeg, Nat.reduceEqDiff, reduceIte, List.replicate_succ, List.replicate_zero, List.cons_append, List.nil_append, Bool.not_true, Bool.not_false, Bool.and_true, Bool.true_and, Bool.and_false, Bool.false_and, Bool.or_true, Bool.true_or, Bool.or_false, Bool.false_or, decide_true, decide_false, Option.isSome_some, beq_self_eq_true, o_mod, o_div, o_mul, o_eqI, o_neI, o_eqB, o_neB, o_isiI, o_isiB, o_isiS, ite_iteE, e]
  rw [m_law_call_eq]; unfold b_law_call
  simp only [v_Ok, v_Nx, v_bind, v_bind0, v_sbind, v_nb, v_bindx, v_sbindx, v_ofO, v_ofH, v_ofR, v_ofE, v_omap, v_obind, v_iteT, v_iteF, v_mAnd, v_mOr, v_mAndW, v_mOrW, v_var0, v_varS, v_c, v_op, v_un, v_cb, v_call, v_bm, v_pM, v_pF, v_nil, v_cons, v_star, v_b, v_asB, v_tru, v_notT, v_not, v_andT, v_orT, v_and, v_or, v_if, v_chain, v_tup, v_lst, v_lstN, v_okLen, v_sl, v_noP, v_asI, v_part, v_it, v_rng, v_zip, v_lc, v_lcN, v_wipe0, v_wipeS, v_set0, v_setS, v_lsetr, v_lsetS, v_seq, v_seqN, v_seqR, v_seqB, v_seqC, v_seqX, v_next, v_brk, v_cnt, v_drop, v_ret, v_retN, v_ifS, v_set, v_two, v_par, v_asg, v_store, v_aug, v_itD, v_items, d_T, d_To, d_L, d_Lo, d_S, d_D, d_R, d_RO, d_ROd, d_I, d_IR, d_IRO, v_one, v_enum, v_zipT, v_augS, v_disp, v_prs0, v_prsS, v_fmt, v_for, v_def, v_dnx, v_drt, v_dexc, v_map0, v_mapS, v_gN, v_gT, v_gTo, v_gNs0, v_gNsS, v_yes, v_insOf, v_insO, v_isIns, v_isO, v_isOL, v_isT, v_isLs, v_isI, v_isS, v_slot0, v_slotS, v_slot, v_meth, v_make, v_beqN, v_refOf, v_put, v_putW00, v_putW0S, v_putWS0, v_putWSS, v_isi, v_lenSet, v_lenC, v_strC, v_dctN, v_lstO, v_ixR, v_ixO, v_seqRf, v_seqT, v_seqTo, v_seqLs, v_seqLo, v_lenR, v_isTR, v_isTO, v_isTOd, v_isTL, v_isTS, v_itR, v_itL, v_itT, v_itTo, v_itS, v_truR, v_truT, v_truL, v_truB, v_truI, v_setR, v_setO, v_app, v_appO, v_ext, v_extO, v_addR, v_addO, v_addL, v_addT, v_top, h_set, h_push, h_lt, h_lenS, h_lenA, w_add, w_addBB, w_sub, w_iadd, w_isub, w_ltT, w_le, w_gt, w_ge, w_neg, w_intI, w_intB, w_abs, w_max, w_min, w_lenL, w_lenT, w_lenLo, w_lenTo, w_reprB, w_lenStr, w_strI, w_strS, v_loopN, v_loopC, v_loopB, v_loopR, List.length_cons, List.length_nil, Nat.reduceAdd, Nat.reduceSub, Nat.reduceLeDiff, Nat.reduceMul, Int.reduceLT, Int.reduceLE, Int.reduceAdd, Int.reduceSub, Int.reduceMul, Int.reduceEq, Int.reduceNeg, Nat.reduceEqDiff, reduceIte, List.replicate_succ, List.replicate_zero, List.cons_append, List.nil_append, Bool.not_true, Bool.not_false, Bool.and_true, Bool.true_and, Bool.and_false, Bool.false_and, Bool.or_true, Bool.true_or, Bool.or_false, Bool.false_or, decide_true, decide_false, Option.isSome_some, beq_self_eq_true, o_mod, o_div, o_mul, o_eqI, o_neI, o_eqB, o_neB, o_isiI, o_isiB, o_isiS, ite_iteE, e9]
theorem call2_bad2 (h : List O) (t : List Nat) (w : W) (ht : ∀ d ∈ t, d < 4) (hl : t.length ≤ 200) (hw : BadT 4 w) : m_law_call [.int 2, stx t, w] h = .exc xTxt h := by
  have e0 : m_require_text [.int 4, stx t] h = .ok .non h := require_text_ok (k := 4) (.inr rfl) h t ht hl
  have e : m_require_text [.int 4, w] h = .exc xTxt h := require_text_no (k := 4) hw h
  have e9 : m_comes_ahead [stx t, w] h = .exc xTxt h := by
    rw [m_comes_ahead_eq]; unfold b_comes_ahead
    simp only [v_Ok, v_Nx, v_bind, v_bind0, v_sbind, v_nb, v_bindx, v_sbindx, v_ofO, v_ofH, v_ofR, v_ofE, v_omap, v_obind, v_iteT, v_iteF, v_mAnd, v_mOr, v_mAndW, v_mOrW, v_var0, v_varS, v_c, v_op, v_un, v_cb, v_call, v_bm, v_pM, v_pF, v_nil, v_cons, v_star, v_b, v_asB, v_tru, v_notT, v_not, v_andT, v_orT, v_and, v_or, v_if, v_chain, v_tup, v_lst, v_lstN, v_okLen, v_sl, v_noP, v_asI, v_part, v_it, v_rng, v_zip, v_lc, v_lcN, v_wipe0, v_wipeS, v_set0, v_setS, v_lsetr, v_lsetS, v_seq, v_seqN, v_seqR, v_seqB, v_seqC, v_seqX, v_next, v_brk, v_cnt, v_drop, v_ret, v_retN, v_ifS, v_set, v_two, v_par, v_asg, v_store, v_aug, v_itD, v_items, d_T, d_To, d_L, d_Lo, d_S, d_D, d_R, d_RO, d_ROd, d_I, d_IR, d_IRO, v_one, v_enum, v_zipT, v_augS, v_disp, v_prs0, v_prsS, v_fmt, v_for, v_def, v_dnx, v_drt, v_dexc, v_map0, v_mapS, v_gN, v_gT, v_gTo, v_gNs0, v_gNsS, v_yes, v_insOf, v_insO, v_isIns, v_isO, v_isOL, v_isT, v_isLs, v_isI, v_isS, v_slot0, v_slotS, v_slot, v_meth, v_make, v_beqN, v_refOf, v_put, v_putW00, v_putW0S, v_putWS0, v_putWSS, v_isi, v_lenSet, v_lenC, v_strC, v_dctN, v_lstO, v_ixR, v_ixO, v_seqRf, v_seqT, v_seqTo, v_seqLs, v_seqLo, v_lenR, v_isTR, v_isTO, v_isTOd, v_isTL, v_isTS, v_itR, v_itL, v_itT, v_itTo, v_itS, v_truR, v_truT, v_truL, v_truB, v_truI, v_setR, v_setO, v_app, v_appO, v_ext, v_extO, v_addR, v_addO, v_addL, v_addT, v_top, h_set, h_push, h_lt, h_lenS, h_lenA, w_add, w_addBB, w_sub, w_iadd, w_isub, w_ltT, w_le, w_gt, w_ge, w_neg, w_intI, w_intB, w_abs, w_max, w_min, w_lenL, w_lenT, w_lenLo, w_lenTo, w_reprB, w_lenStr, w_strI, w_strS, v_loopN, v_loopC, v_loopB, v_loopR, List.length_cons, List.length_nil, Nat.reduceAdd, Nat.reduceSub, Nat.reduceLeDiff, Nat.reduceMul, Int.reduceLT, Int.reduceLE, Int.reduceAdd, Int.reduceSub, Int.reduceMul, Int.reduceEq, Int.reduceNeg, Nat.reduceEqDiff, reduceIte, List.replicate_succ, List.replicate_zero, List.cons_append, List.nil_append, Bool.not_true, Bool.not_false, Bool.and_true, Bool.true_and, Bool.and_false, Bool.false_and, Bool.or_true, Bool.true_or, Bool.or_false, Bool.false_or, decide_true, decide_false, Option.isSome_some, beq_self_eq_true, o_mod, o_div, o_mul, o_eqI, o_neI, o_eqB, o_neB, o_isiI, o_isiB, o_isiS, ite_iteE, e0, e]
  rw [m_law_call_eq]; unfold b_law_call
  simp only [v_Ok, v_Nx, v_bind, v_bind0, v_sbind, v_nb, v_bindx, v_sbindx, v_ofO, v_ofH, v_ofR, v_ofE, v_omap, v_obind, v_iteT, v_iteF, v_mAnd, v_mOr, v_mAndW, v_mOrW, v_var0, v_varS, v_c, v_op, v_un, v_cb, v_call, v_bm, v_pM, v_pF, v_nil, v_cons, v_star, v_b, v_asB, v_tru, v_notT, v_not, v_andT, v_orT, v_and, v_or, v_if, v_chain, v_tup, v_lst, v_lstN, v_okLen, v_sl, v_noP, v_asI, v_part, v_it, v_rng, v_zip, v_lc, v_lcN, v_wipe0, v_wipeS, v_set0, v_setS, v_lsetr, v_lsetS, v_seq, v_seqN, v_seqR, v_seqB, v_seqC, v_seqX, v_next, v_brk, v_cnt, v_drop, v_ret, v_retN, v_ifS, v_set, v_two, v_par, v_asg, v_store, v_aug, v_itD, v_items, d_T, d_To, d_L, d_Lo, d_S, d_D, d_R, d_RO, d_ROd, d_I, d_IR, d_IRO, v_one, v_enum, v_zipT, v_augS, v_disp, v_prs0, v_prsS, v_fmt, v_for, v_def, v_dnx, v_drt, v_dexc, v_map0, v_mapS, v_gN, v_gT, v_gTo, v_gNs0, v_gNsS, v_yes, v_insOf, v_insO, v_isIns, v_isO, v_isOL, v_isT, v_isLs, v_isI, v_isS, v_slot0, v_slotS, v_slot, v_meth, v_make, v_beqN, v_refOf, v_put, v_putW00, v_putW0S, v_putWS0, v_putWSS, v_isi, v_lenSet, v_lenC, v_strC, v_dctN, v_lstO, v_ixR, v_ixO, v_seqRf, v_seqT, v_seqTo, v_seqLs, v_seqLo, v_lenR, v_isTR, v_isTO, v_isTOd, v_isTL, v_isTS, v_itR, v_itL, v_itT, v_itTo, v_itS, v_truR, v_truT, v_truL, v_truB, v_truI, v_setR, v_setO, v_app, v_appO, v_ext, v_extO, v_addR, v_addO, v_addL, v_addT, v_top, h_set, h_push, h_lt, h_lenS, h_lenA, w_add, w_addBB, w_sub, w_iadd, w_isub, w_ltT, w_le, w_gt, w_ge, w_neg, w_intI, w_intB, w_abs, w_max, w_min, w_lenL, w_lenT, w_lenLo, w_lenTo, w_reprB, w_lenStr, w_strI, w_strS, v_loopN, v_loopC, v_loopB, v_loopR, List.length_cons, List.length_nil, Nat.reduceAdd, Nat.reduceSub, Nat.reduceLeDiff, Nat.reduceMul, Int.reduceLT, Int.reduceLE, Int.reduceAdd, Int.reduceSub, Int.reduceMul, Int.reduceEq, Int.reduceNeg, Nat.reduceEqDiff, reduceIte, List.replicate_succ, List.replicate_zero, List.cons_append, List.nil_append, Bool.not_true, Bool.not_false, Bool.and_true, Bool.true_and, Bool.and_false, Bool.false_and, Bool.or_true, Bool.true_or, Bool.or_false, Bool.false_or, decide_true, decide_false, Option.isSome_some, beq_self_eq_true, o_mod, o_div, o_mul, o_eqI, o_neI, o_eqB, o_neB, o_isiI, o_isiB, o_isiS, ite_iteE, e9]
theorem call2_ok (h : List O) (t u : List Nat) (ht : ∀ d ∈ t, d < 4) (hl : t.length ≤ 200) (hu : ∀ d ∈ u, d < 4) (hl2 : u.length ≤ 200) : ∃ x, m_law_call [.int 2, stx t, stx u] h = .ok x h := by
  have e0 : m_require_text [.int 4, stx t] h = .ok .non h := require_text_ok (k := 4) (.inr rfl) h t ht hl
  have e1 : m_require_text [.int 4, stx u] h = .ok .non h := require_text_ok (k := 4) (.inr rfl) h u hu hl2
  have l1 : nLenD h [stx t] = some (.int t.length) := lenS h t (by omega)
  have l2 : nLenD h [stx u] = some (.int u.length) := lenS h u (by omega)
  obtain ⟨k, hk⟩ : ∃ k : Bool, nLtT h (.tup [.int t.length, stx t]) (.tup [.int u.length, stx u]) = some (.bl k) := by
    have hl : likeW [.int t.length, stx t] [.int u.length, stx u] = true := rfl
    unfold nLtT
    simp only []
    rw [if_pos hl]
    exact ⟨_, rfl⟩
  have e9 : m_comes_ahead [stx t, stx u] h = .ok (.bl k) h := by
    rw [m_comes_ahead_eq]; unfold b_comes_ahead
    simp only [v_Ok, v_Nx, v_bind, v_bind0, v_sbind, v_nb, v_bindx, v_sbindx, v_ofO, v_ofH, v_ofR, v_ofE, v_omap, v_obind, v_iteT, v_iteF, v_mAnd, v_mOr, v_mAndW, v_mOrW, v_var0, v_varS, v_c, v_op, v_un, v_cb, v_call, v_bm, v_pM, v_pF, v_nil, v_cons, v_star, v_b, v_asB, v_tru, v_notT, v_not, v_andT, v_orT, v_and, v_or, v_if, v_chain, v_tup, v_lst, v_lstN, v_okLen, v_sl, v_noP, v_asI, v_part, v_it, v_rng, v_zip, v_lc, v_lcN, v_wipe0, v_wipeS, v_set0, v_setS, v_lsetr, v_lsetS, v_seq, v_seqN, v_seqR, v_seqB, v_seqC, v_seqX, v_next, v_brk, v_cnt, v_drop, v_ret, v_retN, v_ifS, v_set, v_two, v_par, v_asg, v_store, v_aug, v_itD, v_items, d_T, d_To, d_L, d_Lo, d_S, d_D, d_R, d_RO, d_ROd, d_I, d_IR, d_IRO, v_one, v_enum, v_zipT, v_augS, v_disp, v_prs0, v_prsS, v_fmt, v_for, v_def, v_dnx, v_drt, v_dexc, v_map0, v_mapS, v_gN, v_gT, v_gTo, v_gNs0, v_gNsS, v_yes, v_insOf, v_insO, v_isIns, v_isO, v_isOL, v_isT, v_isLs, v_isI, v_isS, v_slot0, v_slotS, v_slot, v_meth, v_make, v_beqN, v_refOf, v_put, v_putW00, v_putW0S, v_putWS0, v_putWSS, v_isi, v_lenSet, v_lenC, v_strC, v_dctN, v_lstO, v_ixR, v_ixO, v_seqRf, v_seqT, v_seqTo, v_seqLs, v_seqLo, v_lenR, v_isTR, v_isTO, v_isTOd, v_isTL, v_isTS, v_itR, v_itL, v_itT, v_itTo, v_itS, v_truR, v_truT, v_truL, v_truB, v_truI, v_setR, v_setO, v_app, v_appO, v_ext, v_extO, v_addR, v_addO, v_addL, v_addT, v_top, h_set, h_push, h_lt, h_lenS, h_lenA, w_add, w_addBB, w_sub, w_iadd, w_isub, w_ltT, w_le, w_gt, w_ge, w_neg, w_intI, w_intB, w_abs, w_max, w_min, w_lenL, w_lenT, w_lenLo, w_lenTo, w_reprB, w_lenStr, w_strI, w_strS, v_loopN, v_loopC, v_loopB, v_loopR, List.length_cons, List.length_nil, Nat.reduceAdd, Nat.reduceSub, Nat.reduceLeDiff, Nat.reduceMul, Int.reduceLT, Int.reduceLE, Int.reduceAdd, Int.reduceSub, Int.reduceMul, Int.reduceEq, Int.reduceNeg, Nat.reduceEqDiff, reduceIte, List.replicate_succ, List.replicate_zero, List.cons_append, List.nil_append, Bool.not_true, Bool.not_false, Bool.and_true, Bool.true_and, Bool.and_false, Bool.false_and, Bool.or_true, Bool.true_or, Bool.or_false, Bool.false_or, decide_true, decide_false, Option.isSome_some, beq_self_eq_true, o_mod, o_div, o_mul, o_eqI, o_neI, o_eqB, o_neB, o_isiI, o_isiB, o_isiS, ite_iteE, e0, e1, l1, l2, hk]
  refine ⟨.bl k, ?_⟩
  rw [m_law_call_eq]; unfold b_law_call
  simp only [v_Ok, v_Nx, v_bind, v_bind0, v_sbind, v_nb, v_bindx, v_sbindx, v_ofO, v_ofH, v_ofR, v_ofE, v_omap, v_obind, v_iteT, v_iteF, v_mAnd, v_mOr, v_mAndW, v_mOrW, v_var0, v_varS, v_c, v_op, v_un, v_cb, v_call, v_bm, v_pM, v_pF, v_nil, v_cons, v_star, v_b, v_asB, v_tru, v_notT, v_not, v_andT, v_orT, v_and, v_or, v_if, v_chain, v_tup, v_lst, v_lstN, v_okLen, v_sl, v_noP, v_asI, v_part, v_it, v_rng, v_zip, v_lc, v_lcN, v_wipe0, v_wipeS, v_set0, v_setS, v_lsetr, v_lsetS, v_seq, v_seqN, v_seqR, v_seqB, v_seqC, v_seqX, v_next, v_brk, v_cnt, v_drop, v_ret, v_retN, v_ifS, v_set, v_two, v_par, v_asg, v_store, v_aug, v_itD, v_items, d_T, d_To, d_L, d_Lo, d_S, d_D, d_R, d_RO, d_ROd, d_I, d_IR, d_IRO, v_one, v_enum, v_zipT, v_augS, v_disp, v_prs0, v_prsS, v_fmt, v_for, v_def, v_dnx, v_drt, v_dexc, v_map0, v_mapS, v_gN, v_gT, v_gTo, v_gNs0, v_gNsS, v_yes, v_insOf, v_insO, v_isIns, v_isO, v_isOL, v_isT, v_isLs, v_isI, v_isS, v_slot0, v_slotS, v_slot, v_meth, v_make, v_beqN, v_refOf, v_put, v_putW00, v_putW0S, v_putWS0, v_putWSS, v_isi, v_lenSet, v_lenC, v_strC, v_dctN, v_lstO, v_ixR, v_ixO, v_seqRf, v_seqT, v_seqTo, v_seqLs, v_seqLo, v_lenR, v_isTR, v_isTO, v_isTOd, v_isTL, v_isTS, v_itR, v_itL, v_itT, v_itTo, v_itS, v_truR, v_truT, v_truL, v_truB, v_truI, v_setR, v_setO, v_app, v_appO, v_ext, v_extO, v_addR, v_addO, v_addL, v_addT, v_top, h_set, h_push, h_lt, h_lenS, h_lenA, w_add, w_addBB, w_sub, w_iadd, w_isub, w_ltT, w_le, w_gt, w_ge, w_neg, w_intI, w_intB, w_abs, w_max, w_min, w_lenL, w_lenT, w_lenLo, w_lenTo, w_reprB, w_lenStr, w_strI, w_strS, v_loopN, v_loopC, v_loopB, v_loopR, List.length_cons, List.length_nil, Nat.reduceAdd, Nat.reduceSub, Nat.reduceLeDiff, Nat.reduceMul, Int.reduceLT, Int.reduceLE, Int.reduceAdd, Int.reduceSub, Int.reduceMul, Int.reduceEq, Int.reduceNeg, Nat.reduceEqDiff, reduceIte, List.replicate_succ, List.replicate_zero, List.cons_append, List.nil_append, Bool.not_true, Bool.not_false, Bool.and_true, Bool.true_and, Bool.and_false, Bool.false_and, Bool.or_true, Bool.true_or, Bool.or_false, Bool.false_or, decide_true, decide_false, Option.isSome_some, beq_self_eq_true, o_mod, o_div, o_mul, o_eqI, o_neI, o_eqB, o_neB, o_isiI, o_isiB, o_isiS, ite_iteE, e9]
theorem call3_bad (h : List O) (w x : W) (hw : BadT 4 w) : m_law_call [.int 3, w, x] h = .exc xTxt h := by
  have e : m_require_text [.int 4, w] h = .exc xTxt h := require_text_no (k := 4) hw h
  have e9 : m_line_of [w, x] h = .exc xTxt h := by
    rw [m_line_of_eq]; unfold b_line_of
    simp only [v_Ok, v_Nx, v_bind, v_bind0, v_sbind, v_nb, v_bindx, v_sbindx, v_ofO, v_ofH, v_ofR, v_ofE, v_omap, v_obind, v_iteT, v_iteF, v_mAnd, v_mOr, v_mAndW, v_mOrW, v_var0, v_varS, v_c, v_op, v_un, v_cb, v_call, v_bm, v_pM, v_pF, v_nil, v_cons, v_star, v_b, v_asB, v_tru, v_notT, v_not, v_andT, v_orT, v_and, v_or, v_if, v_chain, v_tup, v_lst, v_lstN, v_okLen, v_sl, v_noP, v_asI, v_part, v_it, v_rng, v_zip, v_lc, v_lcN, v_wipe0, v_wipeS, v_set0, v_setS, v_lsetr, v_lsetS, v_seq, v_seqN, v_seqR, v_seqB, v_seqC, v_seqX, v_next, v_brk, v_cnt, v_drop, v_ret, v_retN, v_ifS, v_set, v_two, v_par, v_asg, v_store, v_aug, v_itD, v_items, d_T, d_To, d_L, d_Lo, d_S, d_D, d_R, d_RO, d_ROd, d_I, d_IR, d_IRO, v_one, v_enum, v_zipT, v_augS, v_disp, v_prs0, v_prsS, v_fmt, v_for, v_def, v_dnx, v_drt, v_dexc, v_map0, v_mapS, v_gN, v_gT, v_gTo, v_gNs0, v_gNsS, v_yes, v_insOf, v_insO, v_isIns, v_isO, v_isOL, v_isT, v_isLs, v_isI, v_isS, v_slot0, v_slotS, v_slot, v_meth, v_make, v_beqN, v_refOf, v_put, v_putW00, v_putW0S, v_putWS0, v_putWSS, v_isi, v_lenSet, v_lenC, v_strC, v_dctN, v_lstO, v_ixR, v_ixO, v_seqRf, v_seqT, v_seqTo, v_seqLs, v_seqLo, v_lenR, v_isTR, v_isTO, v_isTOd, v_isTL, v_isTS, v_itR, v_itL, v_itT, v_itTo, v_itS, v_truR, v_truT, v_truL, v_truB, v_truI, v_setR, v_setO, v_app, v_appO, v_ext, v_extO, v_addR, v_addO, v_addL, v_addT, v_top, h_set, h_push, h_lt, h_lenS, h_lenA, w_add, w_addBB, w_sub, w_iadd, w_isub, w_ltT, w_le, w_gt, w_ge, w_neg, w_intI, w_intB, w_abs, w_max, w_min, w_lenL, w_lenT, w_lenLo, w_lenTo, w_reprB, w_lenStr, w_strI, w_strS, v_loopN, v_loopC, v_loopB, v_loopR, List.length_cons, List.length_nil, Nat.reduceAdd, Nat.reduceSub, Nat.reduceLeDiff, Nat.reduceMul, Int.reduceLT, Int.reduceLE, Int.reduceAdd, Int.reduceSub, Int.reduceMul, Int.reduceEq, Int.reduceNeg, Nat.reduceEqDiff, reduceIte, List.replicate_succ, List.replicate_zero, List.cons_append, List.nil_append, Bool.not_true, Bool.not_false, Bool.and_true, Bool.true_and, Bool.and_false, Bool.false_and, Bool.or_true, Bool.true_or, Bool.or_false, Bool.false_or, decide_true, decide_false, Option.isSome_some, beq_self_eq_true, o_mod, o_div, o_mul, o_eqI, o_neI, o_eqB, o_neB, o_isiI, o_isiB, o_isiS, ite_iteE, e]
  rw [m_law_call_eq]; unfold b_law_call
  simp only [v_Ok, v_Nx, v_bind, v_bind0, v_sbind, v_nb, v_bindx, v_sbindx, v_ofO, v_ofH, v_ofR, v_ofE, v_omap, v_obind, v_iteT, v_iteF, v_mAnd, v_mOr, v_mAndW, v_mOrW, v_var0, v_varS, v_c, v_op, v_un, v_cb, v_call, v_bm, v_pM, v_pF, v_nil, v_cons, v_star, v_b, v_asB, v_tru, v_notT, v_not, v_andT, v_orT, v_and, v_or, v_if, v_chain, v_tup, v_lst, v_lstN, v_okLen, v_sl, v_noP, v_asI, v_part, v_it, v_rng, v_zip, v_lc, v_lcN, v_wipe0, v_wipeS, v_set0, v_setS, v_lsetr, v_lsetS, v_seq, v_seqN, v_seqR, v_seqB, v_seqC, v_seqX, v_next, v_brk, v_cnt, v_drop, v_ret, v_retN, v_ifS, v_set, v_two, v_par, v_asg, v_store, v_aug, v_itD, v_items, d_T, d_To, d_L, d_Lo, d_S, d_D, d_R, d_RO, d_ROd, d_I, d_IR, d_IRO, v_one, v_enum, v_zipT, v_augS, v_disp, v_prs0, v_prsS, v_fmt, v_for, v_def, v_dnx, v_drt, v_dexc, v_map0, v_mapS, v_gN, v_gT, v_gTo, v_gNs0, v_gNsS, v_yes, v_insOf, v_insO, v_isIns, v_isO, v_isOL, v_isT, v_isLs, v_isI, v_isS, v_slot0, v_slotS, v_slot, v_meth, v_make, v_beqN, v_refOf, v_put, v_putW00, v_putW0S, v_putWS0, v_putWSS, v_isi, v_lenSet, v_lenC, v_strC, v_dctN, v_lstO, v_ixR, v_ixO, v_seqRf, v_seqT, v_seqTo, v_seqLs, v_seqLo, v_lenR, v_isTR, v_isTO, v_isTOd, v_isTL, v_isTS, v_itR, v_itL, v_itT, v_itTo, v_itS, v_truR, v_truT, v_truL, v_truB, v_truI, v_setR, v_setO, v_app, v_appO, v_ext, v_extO, v_addR, v_addO, v_addL, v_addT, v_top, h_set, h_push, h_lt, h_lenS, h_lenA, w_add, w_addBB, w_sub, w_iadd, w_isub, w_ltT, w_le, w_gt, w_ge, w_neg, w_intI, w_intB, w_abs, w_max, w_min, w_lenL, w_lenT, w_lenLo, w_lenTo, w_reprB, w_lenStr, w_strI, w_strS, v_loopN, v_loopC, v_loopB, v_loopR, List.length_cons, List.length_nil, Nat.reduceAdd, Nat.reduceSub, Nat.reduceLeDiff, Nat.reduceMul, Int.reduceLT, Int.reduceLE, Int.reduceAdd, Int.reduceSub, Int.reduceMul, Int.reduceEq, Int.reduceNeg, Nat.reduceEqDiff, reduceIte, List.replicate_succ, List.replicate_zero, List.cons_append, List.nil_append, Bool.not_true, Bool.not_false, Bool.and_true, Bool.true_and, Bool.and_false, Bool.false_and, Bool.or_true, Bool.true_or, Bool.or_false, Bool.false_or, decide_true, decide_false, Option.isSome_some, beq_self_eq_true, o_mod, o_div, o_mul, o_eqI, o_neI, o_eqB, o_neB, o_isiI, o_isiB, o_isiS, ite_iteE, e9]
theorem call4 (h : List O) (a b : W) {r : ER W} (e : m_text_of_lines [a, b] h = r) (hr : r ≠ .stuck) : m_law_call [.int 4, a, b] h = r := by
  rw [m_law_call_eq]; unfold b_law_call
  cases r with
  | ok x h' => simp only [v_Ok, v_Nx, v_bind, v_bind0, v_sbind, v_nb, v_bindx, v_sbindx, v_ofO, v_ofH, v_ofR, v_ofE, v_omap, v_obind, v_iteT, v_iteF, v_mAnd, v_mOr, v_mAndW, v_mOrW, v_var0, v_varS, v_c, v_op, v_un, v_cb, v_call, v_bm, v_pM, v_pF, v_nil, v_cons, v_star, v_b, v_asB, v_tru, v_notT, v_not, v_andT, v_orT, v_and, v_or, v_if, v_chain, v_tup, v_lst, v_lstN, v_okLen, v_sl, v_noP, v_asI, v_part, v_it, v_rng, v_zip, v_lc, v_lcN, v_wipe0, v_wipeS, v_set0, v_setS, v_lsetr, v_lsetS, v_seq, v_seqN, v_seqR, v_seqB, v_seqC, v_seqX, v_next, v_brk, v_cnt, v_drop, v_ret, v_retN, v_ifS, v_set, v_two, v_par, v_asg, v_store, v_aug, v_itD, v_items, d_T, d_To, d_L, d_Lo, d_S, d_D, d_R, d_RO, d_ROd, d_I, d_IR, d_IRO, v_one, v_enum, v_zipT, v_augS, v_disp, v_prs0, v_prsS, v_fmt, v_for, v_def, v_dnx, v_drt, v_dexc, v_map0, v_mapS, v_gN, v_gT, v_gTo, v_gNs0, v_gNsS, v_yes, v_insOf, v_insO, v_isIns, v_isO, v_isOL, v_isT, v_isLs, v_isI, v_isS, v_slot0, v_slotS, v_slot, v_meth, v_make, v_beqN, v_refOf, v_put, v_putW00, v_putW0S, v_putWS0, v_putWSS, v_isi, v_lenSet, v_lenC, v_strC, v_dctN, v_lstO, v_ixR, v_ixO, v_seqRf, v_seqT, v_seqTo, v_seqLs, v_seqLo, v_lenR, v_isTR, v_isTO, v_isTOd, v_isTL, v_isTS, v_itR, v_itL, v_itT, v_itTo, v_itS, v_truR, v_truT, v_truL, v_truB, v_truI, v_setR, v_setO, v_app, v_appO, v_ext, v_extO, v_addR, v_addO, v_addL, v_addT, v_top, h_set, h_push, h_lt, h_lenS, h_lenA, w_add, w_addBB, w_sub, w_iadd, w_isub, w_ltT, w_le, w_gt, w_ge, w_neg, w_intI, w_intB, w_abs, w_max, w_min, w_lenL, w_lenT, w_lenLo, w_lenTo, w_reprB, w_lenStr, w_strI, w_strS, v_loopN, v_loopC, v_loopB, v_loopR, List.length_cons, List.length_nil, Nat.reduceAdd, Nat.reduceSub, Nat.reduceLeDiff, Nat.reduceMul, Int.reduceLT, Int.reduceLE, Int.reduceAdd, Int.reduceSub, Int.reduceMul, Int.reduceEq, Int.reduceNeg, Nat.reduceEqDiff, reduceIte, List.replicate_succ, List.replicate_zero, List.cons_append, List.nil_append, Bool.not_true, Bool.not_false, Bool.and_true, Bool.true_and, Bool.and_false, Bool.false_and, Bool.or_true, Bool.true_or, Bool.or_false, Bool.false_or, decide_true, decide_false, Option.isSome_some, beq_self_eq_true, o_mod, o_div, o_mul, o_eqI, o_neI, o_eqB, o_neB, o_isiI, o_isiB, o_isiS, ite_iteE, e]
  | exc x h' => simp only [v_Ok, v_Nx, v_bind, v_bind0, v_sbind, v_nb, v_bindx, v_sbindx, v_ofO, v_ofH, v_ofR, v_ofE, v_omap, v_obind, v_iteT, v_iteF, v_mAnd, v_mOr, v_mAndW, v_mOrW, v_var0, v_varS, v_c, v_op, v_un, v_cb, v_call, v_bm, v_pM, v_pF, v_nil, v_cons, v_star, v_b, v_asB, v_tru, v_notT, v_not, v_andT, v_orT, v_and, v_or, v_if, v_chain, v_tup, v_lst, v_lstN, v_okLen, v_sl, v_noP, v_asI, v_part, v_it, v_rng, v_zip, v_lc, v_lcN, v_wipe0, v_wipeS, v_set0, v_setS, v_lsetr, v_lsetS, v_seq, v_seqN, v_seqR, v_seqB, v_seqC, v_seqX, v_next, v_brk, v_cnt, v_drop, v_ret, v_retN, v_ifS, v_set, v_two, v_par, v_asg, v_store, v_aug, v_itD, v_items, d_T, d_To, d_L, d_Lo, d_S, d_D, d_R, d_RO, d_ROd, d_I, d_IR, d_IRO, v_one, v_enum, v_zipT, v_augS, v_disp, v_prs0, v_prsS, v_fmt, v_for, v_def, v_dnx, v_drt, v_dexc, v_map0, v_mapS, v_gN, v_gT, v_gTo, v_gNs0, v_gNsS, v_yes, v_insOf, v_insO, v_isIns, v_isO, v_isOL, v_isT, v_isLs, v_isI, v_isS, v_slot0, v_slotS, v_slot, v_meth, v_make, v_beqN, v_refOf, v_put, v_putW00, v_putW0S, v_putWS0, v_putWSS, v_isi, v_lenSet, v_lenC, v_strC, v_dctN, v_lstO, v_ixR, v_ixO, v_seqRf, v_seqT, v_seqTo, v_seqLs, v_seqLo, v_lenR, v_isTR, v_isTO, v_isTOd, v_isTL, v_isTS, v_itR, v_itL, v_itT, v_itTo, v_itS, v_truR, v_truT, v_truL, v_truB, v_truI, v_setR, v_setO, v_app, v_appO, v_ext, v_extO, v_addR, v_addO, v_addL, v_addT, v_top, h_set, h_push, h_lt, h_lenS, h_lenA, w_add, w_addBB, w_sub, w_iadd, w_isub, w_ltT, w_le, w_gt, w_ge, w_neg, w_intI, w_intB, w_abs, w_max, w_min, w_lenL, w_lenT, w_lenLo, w_lenTo, w_reprB, w_lenStr, w_strI, w_strS, v_loopN, v_loopC, v_loopB, v_loopR, List.length_cons, List.length_nil, Nat.reduceAdd, Nat.reduceSub, Nat.reduceLeDiff, Nat.reduceMul, Int.reduceLT, Int.reduceLE, Int.reduceAdd, Int.reduceSub, Int.reduceMul, Int.reduceEq, Int.reduceNeg, Nat.reduceEqDiff, reduceIte, List.replicate_succ, List.replicate_zero, List.cons_append, List.nil_append, Bool.not_true, Bool.not_false, Bool.and_true, Bool.true_and, Bool.and_false, Bool.false_and, Bool.or_true, Bool.true_or, Bool.or_false, Bool.false_or, decide_true, decide_false, Option.isSome_some, beq_self_eq_true, o_mod, o_div, o_mul, o_eqI, o_neI, o_eqB, o_neB, o_isiI, o_isiB, o_isiS, ite_iteE, e]
  | stuck => exact (hr rfl).elim
theorem are_values (b n : Nat) (h : List O) (hb : Bag b n h) (hn : n ≤ 700000000) : Ok (m_law_are_values [.ref b] h) fun x _ => x = .bl true := by
  obtain ⟨w, h1, e1, B4, b1, f1⟩ := no_text b n 4 h hb (by omega) (.inr rfl)
  obtain ⟨v, h2, e2, B2, b2, f2⟩ := no_text b _ 2 h1 b1 (by omega) (.inl rfl)
  obtain ⟨_, h3, e3, t, rfl, lt, dt, b3, f3⟩ := text b _ h2 4 3 b2 (by omega) (by omega) (by omega) (by omega)
  obtain ⟨_, h4, e4, o, rfl, lo, d_o, b4, f4⟩ := text b _ h3 2 2 b3 (by omega) (by omega) (by omega) (by omega)
  obtain ⟨_, h5, e5, u, rfl, lu, du, b5, f5⟩ := text b _ h4 2 3 b4 (by omega) (by omega) (by omega) (by omega)
  have e1 : m_law_no_text [.ref b, .int 4] h = .ok w h1 := e1
  have e2 : m_law_no_text [.ref b, .int 2] h1 = .ok v h2 := e2
  have e3 : m_law_text [.ref b, .int 4, .int 3] h2 = .ok (stx t) h3 := e3
  have e4 : m_law_text [.ref b, .int 2, .int 2] h3 = .ok (stx o) h4 := e4
  have e5 : m_law_text [.ref b, .int 2, .int 3] h4 = .ok (stx u) h5 := e5
  have a1 := asked_text h5 _ _ _ (call2_bad1 h5 w (stx t) B4)
  have a2 := asked_text h5 _ _ _ (call2_bad2 h5 t w dt (by omega) B4)
  have a3 := asked_text h5 _ _ _ (call2_bad1 h5 w v B4)
  obtain ⟨z, h6, hz, e6, b6, f6⟩ := one_of b _ h5 (.lst [.int 0, .int 1, .int 2, .non]) _ (.inl rfl) b5 (by omega) (by simp) (by simp)
  have a4 := asked_text h6 _ _ _ (call3_bad h6 w z B4)
  obtain ⟨_, c5⟩ := call2_ok h6 t o dt (by omega) (fun d hd => by have := d_o d hd; omega) (by omega)
  have a5 := asked_told h6 _ _ _ _ c5
  have Go : GoodT (stx o) := ⟨o, rfl, d_o, by omega⟩
  have Gu : GoodT (stx u) := ⟨u, rfl, du, by omega⟩
  have a6 := asked_text h6 _ _ _ (call4 h6 v (stx o) (tol_bad [v, stx o] h6 (by simp) (by
    intro x hx
    simp only [List.mem_cons, List.not_mem_nil, or_false] at hx
    rcases hx with rfl | rfl
    · exact .inr B2
    · exact .inl Go) ⟨v, by simp, B2⟩) (by intro z; cases z))
  have a7 := asked_text h6 _ _ _ (call4 h6 (stx u) v (tol_bad [stx u, v] h6 (by simp) (by
    intro x hx
    simp only [List.mem_cons, List.not_mem_nil, or_false] at hx
    rcases hx with rfl | rfl
    · exact .inl Gu
    · exact .inr B2) ⟨v, by simp, B2⟩) (by intro z; cases z))
  have a8 := asked_op h6 _ _ _ (call4 h6 (stx o) (stx u) (tol_op2 o u h6 d_o du lo lu) (by intro z; cases z))
  obtain ⟨_, c9⟩ := tol_told u h6 du (by omega)
  have a9 := asked_told h6 _ _ _ _ (call4 h6 (stx u) (stx u) c9 (by intro z; cases z))
  obtain ⟨y, h7, hy, e7, b7, f7⟩ := one_of b _ h6 (.lst [stx o, stx u]) _ (.inl rfl) b6 (by omega) (by simp) (by simp)
  have Gy : GoodT y := by
    simp only [List.mem_cons, List.not_mem_nil, or_false] at hy
    rcases hy with rfl | rfl
    · exact Go
    · exact Gu
  have m3 : ∀ h, nMul h (.lst [.str "text"]) (.int 3) = some (.lst [.str "text", .str "text", .str "text"]) := fun h => by kernel_rfl
  have m2 : ∀ h, nMul h (.lst [.str "text"]) (.int 2) = some (.lst [.str "text", .str "text"]) := fun h => by kernel_rfl
  have n3 : ∀ h, nNe h (.lst [.str "text", .str "text", .str "text"]) (.lst [.str "text", .str "text", .str "text"]) = some (.bl false) := fun h => by kernel_rfl
  have n2 : ∀ h, nNe h (.lst [.str "text", .str "text"]) (.lst [.str "text", .str "text"]) = some (.bl false) := fun h => by kernel_rfl
  have nt : ∀ h, nNe h (.str "text") (.str "text") = some (.bl false) := fun h => by kernel_rfl
  have no : ∀ h, nNe h (.str "operation") (.str "operation") = some (.bl false) := fun h => by kernel_rfl
  have nd : ∀ h, nNe h (.str "told") (.str "told") = some (.bl false) := fun h => by kernel_rfl
  have et : ∀ h, nEq h (.str "text") (.str "text") = some (.bl true) := fun h => by kernel_rfl
  obtain ⟨h8, hh8⟩ : ∃ h8, h8 = h7 ++ [O.lst [stx o, y, stx u]] := ⟨_, rfl⟩
  have P8 : h8[h7.length]? = some (.lst [stx o, y, stx u]) := by rw [hh8]; exact h_push
  have b8 := b7.app (O.lst [stx o, y, stx u])
  rw [← hh8] at b8
  have l0 := lines0 h8
  have l3 := lines3 h8 h7.length (stx o) y (stx u) xOp "operation" P8 (tol_op3 _ _ _ h8 Go Gy Gu) (.inr ⟨rfl, rfl⟩)
  obtain ⟨d, h9, e9, ld, b9, f9⟩ := draw b _ h8 3 b8 (by omega) (by omega) (by omega)
  have P9 : h9[h7.length]? = some (.lst [stx o, y, stx u]) := f9.get P8 (by have := b7.lt; omega)
  obtain ⟨p, q, r, st, bad⟩ : ∃ p q r : W, setW h9 (.ref h7.length) (.int (d : Int)) v = some (h9.set h7.length (.lst [p, q, r])) ∧ ((∀ x ∈ [p, q, r], GoodT x ∨ BadT 2 x) ∧ ∃ x ∈ [p, q, r], BadT 2 x) := by
    rcases (by omega : d = 0 ∨ d = 1 ∨ d = 2) with rfl | rfl | rfl
    · exact ⟨v, y, stx u, by rw [v_setR, P9]; rfl, by simp [B2, Gy, Gu], v, by simp, B2⟩
    · exact ⟨stx o, v, stx u, by rw [v_setR, P9]; rfl, by simp [B2, Go, Gu], v, by simp, B2⟩
    · exact ⟨stx o, y, v, by rw [v_setR, P9]; rfl, by simp [B2, Gy, Go], v, by simp, B2⟩
  obtain ⟨h10, hh10⟩ : ∃ h10, h10 = h9.set h7.length (O.lst [p, q, r]) := ⟨_, rfl⟩
  have P10 : h10[h7.length]? = some (.lst [p, q, r]) := by rw [hh10, h_set, P9]; rfl
  rw [← hh10] at st
  have l4 := lines3 h10 h7.length p q r xTxt "text" P10 (tol_bad [p, q, r] h10 (by simp) bad.1 bad.2) (.inl ⟨rfl, rfl⟩)
  have l5 := lines1 h10 v B2
  rw [m_law_are_values_eq]; unfold b_law_are_values
  simp only [v_Ok, v_Nx, v_bind, v_bind0, v_sbind, v_nb, v_bindx, v_sbindx, v_ofO, v_ofH, v_ofR, v_ofE, v_omap, v_obind, v_iteT, v_iteF, v_mAnd, v_mOr, v_mAndW, v_mOrW, v_var0, v_varS, v_c, v_op, v_un, v_cb, v_call, v_bm, v_pM, v_pF, v_nil, v_cons, v_star, v_b, v_asB, v_tru, v_notT, v_not, v_andT, v_orT, v_and, v_or, v_if, v_chain, v_tup, v_lst, v_lstN, v_okLen, v_sl, v_noP, v_asI, v_part, v_it, v_rng, v_zip, v_lc, v_lcN, v_wipe0, v_wipeS, v_set0, v_setS, v_lsetr, v_lsetS, v_seq, v_seqN, v_seqR, v_seqB, v_seqC, v_seqX, v_next, v_brk, v_cnt, v_drop, v_ret, v_retN, v_ifS, v_set, v_two, v_par, v_asg, v_store, v_aug, v_itD, v_items, d_T, d_To, d_L, d_Lo, d_S, d_D, d_R, d_RO, d_ROd, d_I, d_IR, d_IRO, v_one, v_enum, v_zipT, v_augS, v_disp, v_prs0, v_prsS, v_fmt, v_for, v_def, v_dnx, v_drt, v_dexc, v_map0, v_mapS, v_gN, v_gT, v_gTo, v_gNs0, v_gNsS, v_yes, v_insOf, v_insO, v_isIns, v_isO, v_isOL, v_isT, v_isLs, v_isI, v_isS, v_slot0, v_slotS, v_slot, v_meth, v_make, v_beqN, v_refOf, v_put, v_putW00, v_putW0S, v_putWS0, v_putWSS, v_isi, v_lenSet, v_lenC, v_strC, v_dctN, v_lstO, v_ixR, v_ixO, v_seqRf, v_seqT, v_seqTo, v_seqLs, v_seqLo, v_lenR, v_isTR, v_isTO, v_isTOd, v_isTL, v_isTS, v_itR, v_itL, v_itT, v_itTo, v_itS, v_truR, v_truT, v_truL, v_truB, v_truI, v_setR, v_setO, v_app, v_appO, v_ext, v_extO, v_addR, v_addO, v_addL, v_addT, v_top, h_set, h_push, h_lt, h_lenS, h_lenA, w_add, w_addBB, w_sub, w_iadd, w_isub, w_ltT, w_le, w_gt, w_ge, w_neg, w_intI, w_intB, w_abs, w_max, w_min, w_lenL, w_lenT, w_lenLo, w_lenTo, w_reprB, w_lenStr, w_strI, w_strS, v_loopN, v_loopC, v_loopB, v_loopR, List.length_cons, List.length_nil, Nat.reduceAdd, Nat.reduceSub, Nat.reduceLeDiff, Nat.reduceMul, Int.reduceLT, Int.reduceLE, Int.reduceAdd, Int.reduceSub, Int.reduceMul, Int.reduceEq, Int.reduceNeg, Nat.reduceEqDiff, reduceIte, List.replicate_succ, List.replicate_zero, List.cons_append, List.nil_append, Bool.not_true, Bool.not_false, Bool.and_true, Bool.true_and, Bool.and_false, Bool.false_and, Bool.or_true, Bool.true_or, Bool.or_false, Bool.false_or, decide_true, decide_false, Option.isSome_some, beq_self_eq_true, o_mod, o_div, o_mul, o_eqI, o_neI, o_eqB, o_neB, o_isiI, o_isiB, o_isiS, ite_iteE, e1, e2, v_par3, v_three, e3, e4, e5, a1, a2, a3, m3, n3, e6, a4, a5, nt, nd, a6, a7, m2, n2, a8, no, a9, e7, ← hh8, l0, l3, e9, st, l4, l5, et]
end N
set_option maxHeartbeats 4000000
namespace N
open PySem L2
theorem bag_ok0 (ns : List Int) (i : Nat) (hi : i ≤ 1000) (h : List O) : Ok (m_law_bag [.lro (ns.map W.int), .int i] h) fun x h' => x = .ref h.length ∧ ∃ y z : Int, h' = h ++ [.lst [.int y, .int z, .int 0]] := by
  have l : ∀ h, nLenD h [.lro (ns.map W.int)] = some (.int (ns.map W.int).length) := fun _ => rfl
  have c1 : ∃ c : Int, ∀ b : Bool, b = decide ((i : Int) < ((ns.map W.int).length : Int)) → (b = true → nIx h (.lro (ns.map W.int)) (.int i) = some (.int c)) ∧ (b = false → c = (cutL ns none (some 1)).sum + 103 * i + 71) := by
    by_cases hl : (i : Int) < ((ns.map W.int).length : Int)
    · have hi2 : i < ns.length := by simpa using hl
      refine ⟨ns[i], fun b hb => ⟨fun _ => ?_, fun h0 => ?_⟩⟩
      · show atI (ns.map W.int) (i : Int) = _
        unfold atI ixN
        simp [hi2]
      · rw [h0, decide_eq_true hl] at hb; cases hb
    · refine ⟨(cutL ns none (some 1)).sum + 103 * i + 71, fun b hb => ⟨fun h0 => ?_, fun _ => rfl⟩⟩
      rw [h0, decide_eq_false hl] at hb; cases hb
  obtain ⟨c, hc⟩ := c1
  have hc := hc _ rfl
  have hp : (0 : Int) < (10 ^ 47) ^ 13 := by decide +kernel
  have p1 := pow1 h
  have p2 := pow2 h
  have p3 := pow3 h
  generalize ((10 : Int) ^ 47) ^ 13 = M at *
  generalize (10 : Int) ^ 47 = M1 at *
  generalize (10 : Int) ^ 18 = M2 at *
  have s1 := sl_lro ns h
  have s2 := sum_lst (cutL ns none (some 1)) h
  have m0 := mul103 i hi h
  have mM := fun i => mod_int h i M hp
  obtain ⟨g, hg⟩ : ∃ g, g = (if c < 0 then -c else c) % M := ⟨_, rfl⟩
  have m1 := mod_int h g 2305843009213693723 (by decide)
  have l1 := log_small (i := g % 2305843009213693723) (k := 900) 2305843009213693723 (by omega)
  have k1 : (1000231 : Int).natAbs.log2 < 900 := by decide
  have u1 := mul_int h (g % 2305843009213693723) 1000231 (by omega)
  have l2 := log_small (i := (i : Int)) (k := 900) 1000 (by omega)
  have k2 : (9011 : Int).natAbs.log2 < 900 := by decide
  have u2 := mul_int h 9011 i (by omega)
  have k3 : (41 : Int).natAbs.log2 < 900 := by decide
  have l3 : ∀ b : Bool, (iteE b (1 : Int) 0).natAbs.log2 < 900 := fun b => by cases b <;> decide
  have u3 := fun b => mul_int h 41 (iteE b (1 : Int) 0) (by have := l3 b; omega)
  have m2 := fun i => mod_int h i 2305843009213693951 (by decide)
  rw [m_law_bag_eq]; unfold b_law_bag
  cases hb : decide ((i : Int) < ((ns.map W.int).length : Int)) with
  | true =>
    have ix := hc.1 hb
    simp only [v_Ok, v_Nx, v_bind, v_bind0, v_sbind, v_nb, v_bindx, v_sbindx, v_ofO, v_ofH, v_ofR, v_ofE, v_omap, v_obind, v_iteT, v_iteF, v_mAnd, v_mOr, v_mAndW, v_mOrW, v_var0, v_varS, v_c, v_op, v_un, v_cb, v_call, v_bm, v_pM, v_pF, v_nil, v_cons, v_star, v_b, v_asB, v_tru, v_notT, v_not, v_andT, v_orT, v_and, v_or, v_if, v_chain, v_tup, v_lst, v_lstN, v_okLen, v_sl, v_noP, v_asI, v_part, v_it, v_rng, v_zip, v_lc, v_lcN, v_wipe0, v_wipeS, v_set0, v_setS, v_lsetr, v_lsetS, v_seq, v_seqN, v_seqR, v_seqB, v_seqC, v_seqX, v_next, v_brk, v_cnt, v_drop, v_ret, v_retN, v_ifS, v_set, v_two, v_par, v_asg, v_store, v_aug, v_itD, v_items, d_T, d_To, d_L, d_Lo, d_S, d_D, d_R, d_RO, d_ROd, d_I, d_IR, d_IRO, v_one, v_enum, v_zipT, v_augS, v_disp, v_prs0, v_prsS, v_fmt, v_for, v_def, v_dnx, v_drt, v_dexc, v_map0, v_mapS, v_gN, v_gT, v_gTo, v_gNs0, v_gNsS, v_yes, v_insOf, v_insO, v_isIns, v_isO, v_isOL, v_isT, v_isLs, v_isI, v_isS, v_slot0, v_slotS, v_slot, v_meth, v_make, v_beqN, v_refOf, v_put, v_putW00, v_putW0S, v_putWS0, v_putWSS, v_isi, v_lenSet, v_lenC, v_strC, v_dctN, v_lstO, v_ixR, v_ixO, v_seqRf, v_seqT, v_seqTo, v_seqLs, v_seqLo, v_lenR, v_isTR, v_isTO, v_isTOd, v_isTL, v_isTS, v_itR, v_itL, v_itT, v_itTo, v_itS, v_truR, v_truT, v_truL, v_truB, v_truI, v_setR, v_setO, v_app, v_appO, v_ext, v_extO, v_addR, v_addO, v_addL, v_addT, v_top, h_set, h_push, h_lt, h_lenS, h_lenA, w_add, w_addBB, w_sub, w_iadd, w_isub, w_ltT, w_le, w_gt, w_ge, w_neg, w_intI, w_intB, w_abs, w_max, w_min, w_lenL, w_lenT, w_lenLo, w_lenTo, w_reprB, w_lenStr, w_strI, w_strS, v_loopN, v_loopC, v_loopB, v_loopR, List.length_cons, List.length_nil, Nat.reduceAdd, Nat.reduceSub, Nat.reduceLeDiff, Nat.reduceMul, Int.reduceLT, Int.reduceLE, Int.reduceAdd, Int.reduceSub, Int.reduceMul, Int.reduceEq, Int.reduceNeg, Nat.reduceEqDiff, reduceIte, List.replicate_succ, List.replicate_zero, List.cons_append, List.nil_append, Bool.not_true, Bool.not_false, Bool.and_true, Bool.true_and, Bool.and_false, Bool.false_and, Bool.or_true, Bool.true_or, Bool.or_false, Bool.false_or, decide_true, decide_false, Option.isSome_some, beq_self_eq_true, o_mod, o_div, o_mul, o_eqI, o_neI, o_eqB, o_neB, o_isiI, o_isiB, o_isiS, ite_iteE, l, hb, ix, p1, p2, mM, ← hg, m1, u1, u2, u3, p3, m2]
    exact ⟨trivial, _, _, rfl⟩
  | false =>
    have e := hc.2 hb
    simp only [v_Ok, v_Nx, v_bind, v_bind0, v_sbind, v_nb, v_bindx, v_sbindx, v_ofO, v_ofH, v_ofR, v_ofE, v_omap, v_obind, v_iteT, v_iteF, v_mAnd, v_mOr, v_mAndW, v_mOrW, v_var0, v_varS, v_c, v_op, v_un, v_cb, v_call, v_bm, v_pM, v_pF, v_nil, v_cons, v_star, v_b, v_asB, v_tru, v_notT, v_not, v_andT, v_orT, v_and, v_or, v_if, v_chain, v_tup, v_lst, v_lstN, v_okLen, v_sl, v_noP, v_asI, v_part, v_it, v_rng, v_zip, v_lc, v_lcN, v_wipe0, v_wipeS, v_set0, v_setS, v_lsetr, v_lsetS, v_seq, v_seqN, v_seqR, v_seqB, v_seqC, v_seqX, v_next, v_brk, v_cnt, v_drop, v_ret, v_retN, v_ifS, v_set, v_two, v_par, v_asg, v_store, v_aug, v_itD, v_items, d_T, d_To, d_L, d_Lo, d_S, d_D, d_R, d_RO, d_ROd, d_I, d_IR, d_IRO, v_one, v_enum, v_zipT, v_augS, v_disp, v_prs0, v_prsS, v_fmt, v_for, v_def, v_dnx, v_drt, v_dexc, v_map0, v_mapS, v_gN, v_gT, v_gTo, v_gNs0, v_gNsS, v_yes, v_insOf, v_insO, v_isIns, v_isO, v_isOL, v_isT, v_isLs, v_isI, v_isS, v_slot0, v_slotS, v_slot, v_meth, v_make, v_beqN, v_refOf, v_put, v_putW00, v_putW0S, v_putWS0, v_putWSS, v_isi, v_lenSet, v_lenC, v_strC, v_dctN, v_lstO, v_ixR, v_ixO, v_seqRf, v_seqT, v_seqTo, v_seqLs, v_seqLo, v_lenR, v_isTR, v_isTO, v_isTOd, v_isTL, v_isTS, v_itR, v_itL, v_itT, v_itTo, v_itS, v_truR, v_truT, v_truL, v_truB, v_truI, v_setR, v_setO, v_app, v_appO, v_ext, v_extO, v_addR, v_addO, v_addL, v_addT, v_top, h_set, h_push, h_lt, h_lenS, h_lenA, w_add, w_addBB, w_sub, w_iadd, w_isub, w_ltT, w_le, w_gt, w_ge, w_neg, w_intI, w_intB, w_abs, w_max, w_min, w_lenL, w_lenT, w_lenLo, w_lenTo, w_reprB, w_lenStr, w_strI, w_strS, v_loopN, v_loopC, v_loopB, v_loopR, List.length_cons, List.length_nil, Nat.reduceAdd, Nat.reduceSub, Nat.reduceLeDiff, Nat.reduceMul, Int.reduceLT, Int.reduceLE, Int.reduceAdd, Int.reduceSub, Int.reduceMul, Int.reduceEq, Int.reduceNeg, Nat.reduceEqDiff, reduceIte, List.replicate_succ, List.replicate_zero, List.cons_append, List.nil_append, Bool.not_true, Bool.not_false, Bool.and_true, Bool.true_and, Bool.and_false, Bool.false_and, Bool.or_true, Bool.true_or, Bool.or_false, Bool.false_or, decide_true, decide_false, Option.isSome_some, beq_self_eq_true, o_mod, o_div, o_mul, o_eqI, o_neI, o_eqB, o_neB, o_isiI, o_isiB, o_isiS, ite_iteE, l, hb, s1, s2, m0, ← e, p1, p2, mM, ← hg, m1, u1, u2, u3, p3, m2]
    exact ⟨trivial, _, _, rfl⟩
theorem bag_ok (ns : List Int) (i : Nat) (hi : i ≤ 1000) (h : List O) : ∃ h', m_law_bag [.lro (ns.map W.int), .int i] h = .ok (.ref h.length) h' ∧ Bag h.length 0 h' := by
  obtain ⟨_, _, e, rfl, y, z, rfl⟩ := bag_ok0 ns i hi h
  exact ⟨_, e, y, z, 0, h_push, by decide, by decide⟩
end N
set_option maxHeartbeats 4000000
namespace N
open PySem L2
theorem law_true : ∀ ns : List Int, ns.length ≤ 63 → ∃ h, m_law [.lro (ns.map W.int)] [] = .ok (.bl true) h := by
  intro ns _
  suffices goal : Ok (m_law [.lro (ns.map W.int)] []) fun x _ => x = .bl true by
    obtain ⟨x, h, e, rfl⟩ := goal
    exact ⟨h, e⟩
  obtain ⟨m, hm⟩ : ∃ m : Nat, m = ns.length := ⟨_, rfl⟩
  have ln : ∀ h, nLenD h [.lro (ns.map W.int)] = some (nW m) := fun h => by
    show some (W.int ((ns.map W.int).length : Nat)) = _
    rw [List.length_map, hm]; rfl
  obtain ⟨k, hk, k2, k1⟩ : ∃ k : Nat, (nMax [] [.int 1, .int (if (m : Int) < 3 then (m : Int) else 3)] = some (nW k)) ∧ k ≤ 3 ∧ 1 ≤ k := by
    refine ⟨max 1 (min 3 m), ?_, by omega, by omega⟩
    rw [w_max]
    unfold nW
    congr 2
    split <;> split <;> omega
  have mn : nMin [] [.int 3, nW m] = some (.int (if (m : Int) < 3 then (m : Int) else 3)) := w_min
  generalize (if (m : Int) < 3 then (m : Int) else 3) = mm at *
  have rk : rng1 [nW k] = some (rngW 0 k, fun _ => true) := rng1_n k (by omega)
  rw [m_law_eq]; unfold b_law
  simp only [v_Ok, v_Nx, v_bind, v_bind0, v_sbind, v_nb, v_bindx, v_sbindx, v_ofO, v_ofH, v_ofR, v_ofE, v_omap, v_obind, v_iteT, v_iteF, v_mAnd, v_mOr, v_mAndW, v_mOrW, v_var0, v_varS, v_c, v_op, v_un, v_cb, v_call, v_bm, v_pM, v_pF, v_nil, v_cons, v_star, v_b, v_asB, v_tru, v_notT, v_not, v_andT, v_orT, v_and, v_or, v_if, v_chain, v_tup, v_lst, v_lstN, v_okLen, v_sl, v_noP, v_asI, v_part, v_it, v_rng, v_zip, v_lc, v_lcN, v_wipe0, v_wipeS, v_set0, v_setS, v_lsetr, v_lsetS, v_seq, v_seqN, v_seqR, v_seqB, v_seqC, v_seqX, v_next, v_brk, v_cnt, v_drop, v_ret, v_retN, v_ifS, v_set, v_two, v_par, v_asg, v_store, v_aug, v_itD, v_items, d_T, d_To, d_L, d_Lo, d_S, d_D, d_R, d_RO, d_ROd, d_I, d_IR, d_IRO, v_one, v_enum, v_zipT, v_augS, v_disp, v_prs0, v_prsS, v_fmt, v_for, v_def, v_dnx, v_drt, v_dexc, v_map0, v_mapS, v_gN, v_gT, v_gTo, v_gNs0, v_gNsS, v_yes, v_insOf, v_insO, v_isIns, v_isO, v_isOL, v_isT, v_isLs, v_isI, v_isS, v_slot0, v_slotS, v_slot, v_meth, v_make, v_beqN, v_refOf, v_put, v_putW00, v_putW0S, v_putWS0, v_putWSS, v_isi, v_lenSet, v_lenC, v_strC, v_dctN, v_lstO, v_ixR, v_ixO, v_seqRf, v_seqT, v_seqTo, v_seqLs, v_seqLo, v_lenR, v_isTR, v_isTO, v_isTOd, v_isTL, v_isTS, v_itR, v_itL, v_itT, v_itTo, v_itS, v_truR, v_truT, v_truL, v_truB, v_truI, v_setR, v_setO, v_app, v_appO, v_ext, v_extO, v_addR, v_addO, v_addL, v_addT, v_top, h_set, h_push, h_lt, h_lenS, h_lenA, w_add, w_addBB, w_sub, w_iadd, w_isub, w_ltT, w_le, w_gt, w_ge, w_neg, w_intI, w_intB, w_abs, w_max, w_min, w_lenL, w_lenT, w_lenLo, w_lenTo, w_reprB, w_lenStr, w_strI, w_strS, v_loopN, v_loopC, v_loopB, v_loopR, List.length_cons, List.length_nil, Nat.reduceAdd, Nat.reduceSub, Nat.reduceLeDiff, Nat.reduceMul, Int.reduceLT, Int.reduceLE, Int.reduceAdd, Int.reduceSub, Int.reduceMul, Int.reduceEq, Int.reduceNeg, Nat.reduceEqDiff, reduceIte, List.replicate_succ, List.replicate_zero, List.cons_append, List.nil_append, Bool.not_true, Bool.not_false, Bool.and_true, Bool.true_and, Bool.and_false, Bool.false_and, Bool.or_true, Bool.true_or, Bool.or_false, Bool.false_or, decide_true, decide_false, Option.isSome_some, beq_self_eq_true, o_mod, o_div, o_mul, o_eqI, o_neI, o_eqB, o_neB, o_isiI, o_isiB, o_isiS, ite_iteE, ln, mn, hk, rk]
  generalize hL1 : mForL _ _ _ _ _ _ = LL
  obtain ⟨σ', h', rfl, x1, x2, rfl⟩ := forL_inv hL1 (I := fun j σ h' => ∃ x1 x2, σ = [some (.lro (ns.map W.int)), x1, x2])
    ⟨none, none, rfl⟩ (fun _ _ _ _ => rfl) (by
      rintro j x σ h0 hx ⟨x1, x2, rfl⟩
      obtain ⟨hj, rfl⟩ := rng_at hx
      refine ⟨_, rfl, nxI ?_⟩
      obtain ⟨h1, e1, b1⟩ := bag_ok ns j (by omega) h0
      have e1 : m_law_bag [.lro (ns.map W.int), nW j] h0 = .ok (.ref h0.length) h1 := e1
      generalize h0.length = b at *
      obtain ⟨_, h2, e2, rfl, b2⟩ := are_numbers b 0 h1 b1 (by omega)
      obtain ⟨_, h3, e3, rfl⟩ := are_values b _ h2 b2 (by omega)
      simp only [v_Ok, v_Nx, v_bind, v_bind0, v_sbind, v_nb, v_bindx, v_sbindx, v_ofO, v_ofH, v_ofR, v_ofE, v_omap, v_obind, v_iteT, v_iteF, v_mAnd, v_mOr, v_mAndW, v_mOrW, v_var0, v_varS, v_c, v_op, v_un, v_cb, v_call, v_bm, v_pM, v_pF, v_nil, v_cons, v_star, v_b, v_asB, v_tru, v_notT, v_not, v_andT, v_orT, v_and, v_or, v_if, v_chain, v_tup, v_lst, v_lstN, v_okLen, v_sl, v_noP, v_asI, v_part, v_it, v_rng, v_zip, v_lc, v_lcN, v_wipe0, v_wipeS, v_set0, v_setS, v_lsetr, v_lsetS, v_seq, v_seqN, v_seqR, v_seqB, v_seqC, v_seqX, v_next, v_brk, v_cnt, v_drop, v_ret, v_retN, v_ifS, v_set, v_two, v_par, v_asg, v_store, v_aug, v_itD, v_items, d_T, d_To, d_L, d_Lo, d_S, d_D, d_R, d_RO, d_ROd, d_I, d_IR, d_IRO, v_one, v_enum, v_zipT, v_augS, v_disp, v_prs0, v_prsS, v_fmt, v_for, v_def, v_dnx, v_drt, v_dexc, v_map0, v_mapS, v_gN, v_gT, v_gTo, v_gNs0, v_gNsS, v_yes, v_insOf, v_insO, v_isIns, v_isO, v_isOL, v_isT, v_isLs, v_isI, v_isS, v_slot0, v_slotS, v_slot, v_meth, v_make, v_beqN, v_refOf, v_put, v_putW00, v_putW0S, v_putWS0, v_putWSS, v_isi, v_lenSet, v_lenC, v_strC, v_dctN, v_lstO, v_ixR, v_ixO, v_seqRf, v_seqT, v_seqTo, v_seqLs, v_seqLo, v_lenR, v_isTR, v_isTO, v_isTOd, v_isTL, v_isTS, v_itR, v_itL, v_itT, v_itTo, v_itS, v_truR, v_truT, v_truL, v_truB, v_truI, v_setR, v_setO, v_app, v_appO, v_ext, v_extO, v_addR, v_addO, v_addL, v_addT, v_top, h_set, h_push, h_lt, h_lenS, h_lenA, w_add, w_addBB, w_sub, w_iadd, w_isub, w_ltT, w_le, w_gt, w_ge, w_neg, w_intI, w_intB, w_abs, w_max, w_min, w_lenL, w_lenT, w_lenLo, w_lenTo, w_reprB, w_lenStr, w_strI, w_strS, v_loopN, v_loopC, v_loopB, v_loopR, List.length_cons, List.length_nil, Nat.reduceAdd, Nat.reduceSub, Nat.reduceLeDiff, Nat.reduceMul, Int.reduceLT, Int.reduceLE, Int.reduceAdd, Int.reduceSub, Int.reduceMul, Int.reduceEq, Int.reduceNeg, Nat.reduceEqDiff, reduceIte, List.replicate_succ, List.replicate_zero, List.cons_append, List.nil_append, Bool.not_true, Bool.not_false, Bool.and_true, Bool.true_and, Bool.and_false, Bool.false_and, Bool.or_true, Bool.true_or, Bool.or_false, Bool.false_or, decide_true, decide_false, Option.isSome_some, beq_self_eq_true, o_mod, o_div, o_mul, o_eqI, o_neI, o_eqB, o_neB, o_isiI, o_isiB, o_isiS, ite_iteE, e1, e2, e3]
      exact ⟨_, _, rfl⟩)
  simp only [v_Ok, v_Nx, v_bind, v_bind0, v_sbind, v_nb, v_bindx, v_sbindx, v_ofO, v_ofH, v_ofR, v_ofE, v_omap, v_obind, v_iteT, v_iteF, v_mAnd, v_mOr, v_mAndW, v_mOrW, v_var0, v_varS, v_c, v_op, v_un, v_cb, v_call, v_bm, v_pM, v_pF, v_nil, v_cons, v_star, v_b, v_asB, v_tru, v_notT, v_not, v_andT, v_orT, v_and, v_or, v_if, v_chain, v_tup, v_lst, v_lstN, v_okLen, v_sl, v_noP, v_asI, v_part, v_it, v_rng, v_zip, v_lc, v_lcN, v_wipe0, v_wipeS, v_set0, v_setS, v_lsetr, v_lsetS, v_seq, v_seqN, v_seqR, v_seqB, v_seqC, v_seqX, v_next, v_brk, v_cnt, v_drop, v_ret, v_retN, v_ifS, v_set, v_two, v_par, v_asg, v_store, v_aug, v_itD, v_items, d_T, d_To, d_L, d_Lo, d_S, d_D, d_R, d_RO, d_ROd, d_I, d_IR, d_IRO, v_one, v_enum, v_zipT, v_augS, v_disp, v_prs0, v_prsS, v_fmt, v_for, v_def, v_dnx, v_drt, v_dexc, v_map0, v_mapS, v_gN, v_gT, v_gTo, v_gNs0, v_gNsS, v_yes, v_insOf, v_insO, v_isIns, v_isO, v_isOL, v_isT, v_isLs, v_isI, v_isS, v_slot0, v_slotS, v_slot, v_meth, v_make, v_beqN, v_refOf, v_put, v_putW00, v_putW0S, v_putWS0, v_putWSS, v_isi, v_lenSet, v_lenC, v_strC, v_dctN, v_lstO, v_ixR, v_ixO, v_seqRf, v_seqT, v_seqTo, v_seqLs, v_seqLo, v_lenR, v_isTR, v_isTO, v_isTOd, v_isTL, v_isTS, v_itR, v_itL, v_itT, v_itTo, v_itS, v_truR, v_truT, v_truL, v_truB, v_truI, v_setR, v_setO, v_app, v_appO, v_ext, v_extO, v_addR, v_addO, v_addL, v_addT, v_top, h_set, h_push, h_lt, h_lenS, h_lenA, w_add, w_addBB, w_sub, w_iadd, w_isub, w_ltT, w_le, w_gt, w_ge, w_neg, w_intI, w_intB, w_abs, w_max, w_min, w_lenL, w_lenT, w_lenLo, w_lenTo, w_reprB, w_lenStr, w_strI, w_strS, v_loopN, v_loopC, v_loopB, v_loopR, List.length_cons, List.length_nil, Nat.reduceAdd, Nat.reduceSub, Nat.reduceLeDiff, Nat.reduceMul, Int.reduceLT, Int.reduceLE, Int.reduceAdd, Int.reduceSub, Int.reduceMul, Int.reduceEq, Int.reduceNeg, Nat.reduceEqDiff, reduceIte, List.replicate_succ, List.replicate_zero, List.cons_append, List.nil_append, Bool.not_true, Bool.not_false, Bool.and_true, Bool.true_and, Bool.and_false, Bool.false_and, Bool.or_true, Bool.true_or, Bool.or_false, Bool.false_or, decide_true, decide_false, Option.isSome_some, beq_self_eq_true, o_mod, o_div, o_mul, o_eqI, o_neI, o_eqB, o_neB, o_isiI, o_isiB, o_isiS, ite_iteE]
end N
set_option maxHeartbeats 1000000
namespace N
open PySem PySem.Spec PyProof.Rows L2
/-- one def: where it stands, its name, qualified name, statement; has it the cell of __class__ -/
structure DefE where
  at_ : PySem.W.Frag → Addr
  nm : Str
  qual : Str
  st : Stmt
  cl : Bool
abbrev FnE : Type := Option (Str × Str × Arguments × FuncBody × Scope × Addr × Addr)
def fnE (K : PySem.W.Frag) (a : Addr) : FnE := match K.lookup a with
  | some ⟨_, _, .func fd, _⟩ => some (fd.name, fd.qualname, fd.params, fd.body, fd.scope, fd.globals, fd.builtins)
  | _ => none
def DefE.val (d : DefE) : FnE := some (d.nm, d.qual, defArgs d.st, .stmts (defBody d.st), defScope d.st, mainGlobals, builtinsNs)
def codA (K : PySem.W.Frag) (f : Addr) : Addr := match K.lookup f with
  | some ⟨_, _, .func fd, _⟩ => (match fd.code with
    | .ref c => c
    | _ => 0)
  | _ => 0
def cloA (K : PySem.W.Frag) (f : Addr) : Addr := match K.lookup f with
  | some ⟨_, _, .func fd, _⟩ => (match fd.closure with
    | [(_, c)] => c
    | _ => 0)
  | _ => 0
def cloB (b : Bool) (cl : List (Str × Addr)) : Bool := match b, cl with
  | false, [] => true
  | true, [(x, _)] => decide (x = "__class__")
  | _, _ => false
def DefE.ok (K : PySem.W.Frag) (d : DefE) : Bool := PySem.W.keepIn K (.ref (d.at_ K)) && (match K.lookup (d.at_ K) with
  | some ⟨_, _, .func fd, _⟩ => PySem.W.codeIn K fd.code d.qual && (cloB d.cl fd.closure && (match fd.defaults with
    | .none => true
    | _ => false))
  | _ => false)
theorem codeIn_refE {K : PySem.W.Frag} {cd : Value} {q : Str} (h : PySem.W.codeIn K cd q = true) : ∃ c, cd = .ref c := by
  cases cd with
  | ref c => exact ⟨c, rfl⟩
  | _ => cases h
theorem DefE.get {K : PySem.W.Frag} {d : DefE} (e : fnE K (d.at_ K) = d.val) (c : d.ok K = true) (hc : d.cl = false) : ∃ fd, Fun K d.nm d.qual d.st (d.at_ K) fd := by
  obtain ⟨kp, c2⟩ := He.ba c
  unfold fnE at e
  cases q : K.lookup (d.at_ K) with
  | none => rw [q] at c2; cases c2
  | some o =>
    obtain ⟨oc, od, dt, osl⟩ := o
    rw [q] at c2 e
    cases dt with
    | func fd =>
      obtain ⟨n1, n2, n3, n4, n5, n6, n7, n8, n9, n10, n11, n12, n13, n14, n15⟩ := fd
      have e2 : (some (n1, n2, n3, n4, n5, n6, n15) : FnE) = some (d.nm, d.qual, defArgs d.st, .stmts (defBody d.st), defScope d.st, mainGlobals, builtinsNs) := e
      simp only [Option.some.injEq, Prod.mk.injEq] at e2
      obtain ⟨h1, h2, h3, h4, h5, h6, h8⟩ := e2
      subst h1 h2 h3 h4 h5 h6 h8
      obtain ⟨k1, k2⟩ := He.ba c2
      obtain ⟨k3, k4⟩ := He.ba k2
      have h7 : n7 = [] := by
        rw [hc] at k3
        cases n7 with
        | nil => rfl
        | cons p l => cases k3
      subst h7
      have h9 : n8 = .none := by
        cases n8 with
        | none => rfl
        | _ => cases k4
      subst h9
      exact ⟨_, fun_mk q k1 kp⟩
    | _ => cases c2
/-- an __init__ that says super() -/
theorem DefE.getX {K : PySem.W.Frag} {d : DefE} (e : fnE K (d.at_ K) = d.val) (c : d.ok K = true) (hc : d.cl = true) : ∃ oc od kV doc pm an ct osl,
    K.lookup (d.at_ K) = some ⟨oc, od, .func (PySem.W.ksFn d.nm d.qual (defArgs d.st) (defBody d.st) (defScope d.st) .none kV doc pm an (.ref (codA K (d.at_ K))) ct (cloA K (d.at_ K))), osl⟩ ∧ PySem.W.codeIn K (.ref (codA K (d.at_ K))) d.qual = true := by
  obtain ⟨kp, c2⟩ := He.ba c
  unfold fnE at e
  have ec : codA K (d.at_ K) = codA K (d.at_ K) := rfl
  have el : cloA K (d.at_ K) = cloA K (d.at_ K) := rfl
  conv at ec => rhs; unfold codA
  conv at el => rhs; unfold cloA
  cases q : K.lookup (d.at_ K) with
  | none => rw [q] at c2; cases c2
  | some o =>
    obtain ⟨oc, od, dt, osl⟩ := o
    rw [q] at c2 e ec el
    cases dt with
    | func fd =>
      obtain ⟨n1, n2, n3, n4, n5, n6, n7, n8, n9, n10, n11, n12, n13, n14, n15⟩ := fd
      have e2 : (some (n1, n2, n3, n4, n5, n6, n15) : FnE) = some (d.nm, d.qual, defArgs d.st, .stmts (defBody d.st), defScope d.st, mainGlobals, builtinsNs) := e
      simp only [Option.some.injEq, Prod.mk.injEq] at e2
      obtain ⟨h1, h2, h3, h4, h5, h6, h8⟩ := e2
      subst h1 h2 h3 h4 h5 h6 h8
      obtain ⟨k1, k2⟩ := He.ba c2
      obtain ⟨k3, k4⟩ := He.ba k2
      obtain ⟨ca, rfl⟩ := codeIn_refE k1
      have h7 : n7 = [(("__class__" : Str), cloA K (d.at_ K))] := by
        rw [hc] at k3
        cases n7 with
        | nil => cases k3
        | cons p l =>
          cases l with
          | cons p2 l => cases k3
          | nil =>
            obtain ⟨x, y⟩ := p
            have : x = "__class__" := of_decide_eq_true k3
            subst this
            have el : cloA K (d.at_ K) = y := el
            rw [el]
      have h9 : n8 = .none := by
        cases n8 with
        | none => rfl
        | _ => cases k4
      have ec : codA K (d.at_ K) = ca := ec
      subst h9
      rw [h7]
      refine ⟨oc, od, n9, n10, n11, n12, n14, osl, ?_, ?_⟩
      · rw [ec]
      · rw [ec]; exact k1
    | _ => cases c2
abbrev AlE : Type := Bool × List FnE
def obsE (fn : List DefE) (ex : PySem.W.Frag → Bool) (K : PySem.W.Frag) : AlE := (ex K && fn.all fun d => d.ok K, fn.map fun d => fnE K (d.at_ K))
def valE (fn : List DefE) : AlE := (true, fn.map DefE.val)
def SaysE (fn : List DefE) (ex : PySem.W.Frag → Bool) (K : PySem.W.Frag) : Prop := obsE fn ex K = valE fn
section
variable {fn : List DefE} {ex : PySem.W.Frag → Bool} {K : PySem.W.Frag}
theorem SaysE.ex' (c : SaysE fn ex K) : ex K = true := (He.ba (show (ex K && fn.all fun d => d.ok K) = true from congrArg (fun z : AlE => z.1) c)).1
theorem SaysE.both (c : SaysE fn ex K) (i : Nat) {d : DefE} (h : fn[i]? = some d) : fnE K (d.at_ K) = d.val ∧ d.ok K = true := by
  have c2 := (He.ba (show (ex K && fn.all fun d => d.ok K) = true from congrArg (fun z : AlE => z.1) c)).2
  have e : fn.map (fun d => fnE K (d.at_ K)) = fn.map DefE.val := congrArg (fun z : AlE => z.2) c
  have e2 : (fn.map fun d => fnE K (d.at_ K))[i]? = (fn.map DefE.val)[i]? := by rw [e]
  rw [List.getElem?_map, List.getElem?_map, h] at e2
  exact ⟨Option.some.inj e2, List.all_eq_true.mp c2 d (List.mem_of_getElem? h)⟩
theorem SaysE.def_ (c : SaysE fn ex K) (i : Nat) {d : DefE} (h : fn[i]? = some d := by rfl) (hc : d.cl = false := by rfl) : ∃ fd, Fun K d.nm d.qual d.st (d.at_ K) fd := DefE.get (c.both i h).1 (c.both i h).2 hc
theorem SaysE.defX (c : SaysE fn ex K) (i : Nat) {d : DefE} (h : fn[i]? = some d := by rfl) (hc : d.cl = true := by rfl) : ∃ oc od kV doc pm an ct osl,
    K.lookup (d.at_ K) = some ⟨oc, od, .func (PySem.W.ksFn d.nm d.qual (defArgs d.st) (defBody d.st) (defScope d.st) .none kV doc pm an (.ref (codA K (d.at_ K))) ct (cloA K (d.at_ K))), osl⟩ ∧ PySem.W.codeIn K (.ref (codA K (d.at_ K))) d.qual = true := DefE.getX (c.both i h).1 (c.both i h).2 hc
end
/-- a tuple of ints of the top -/
def intsB : List Value → List Int → Bool
  | [], [] => true
  | .int j _ :: us, i :: is => decide (j = i) && intsB us is
  | _, _ => false
def tupIB (K : PySem.W.Frag) (a : Addr) (is : List Int) : Bool := match K.lookup a with
  | some ⟨.type c, none, .seq its _, _⟩ => decide (c = "tuple") && intsB its.toList is
  | _ => false
theorem tupIB_ok {K : PySem.W.Frag} {a : Addr} {is : List Int} (h : tupIB K a is = true) : ∃ its tn ts, K.lookup a = some ⟨.type "tuple", none, .seq its tn, ts⟩ ∧ intsB its.toList is = true := by
  unfold tupIB at h
  split at h
  · rename_i c its n sl e
    obtain ⟨h1, h2⟩ := He.ba h
    rw [e, of_decide_eq_true h1]
    exact ⟨_, _, _, rfl, h2⟩
  · cases h
theorem intsB_vals : ∀ {us : List Value} {is : List Int}, intsB us is = true → Vals (is.map V.int) us
  | [], [], _ => .nil
  | .int j t :: us, i :: is, h => by
    obtain ⟨h1, h2⟩ := He.ba (show (decide (j = i) && intsB us is) = true from h)
    have := of_decide_eq_true h1
    subst this
    exact .cons ⟨t, rfl⟩ (intsB_vals h2)
  | [], _ :: _, h => by cases h
  | .int _ _ :: _, [], h => by cases h
  | .none :: _, _, h => by cases h
  | .bool _ :: _, _, h => by cases h
  | .str _ _ :: _, _, h => by cases h
  | .float _ _ :: _, _, h => by cases h
  | .ref _ :: _, _, h => by cases h
  | .type _ :: _, _, h => by cases h
  | .builtin _ :: _, _, h => by cases h
  | .bytes _ _ :: _, _, h => by cases h
/-- an own exception class whose __init__ says super() -/
def excB (K : PySem.W.Frag) (C : Addr) (bm : List Value) (nw : String) : Bool := match K.lookup C with
  | some ⟨.type t, _, .cls cd, sl⟩ => (match cd.mro, sl.toList with
    | .ref C' :: b, [_, _, _, _, some (.builtin n), _] => decide (t = "type") && (decide (C' = C) && (decide (n = nw) && (!cd.hasDel && (decide (b = bm) && cd.hasDict))))
    | _, _ => false)
  | _ => false
theorem excB_ok {K : PySem.W.Frag} {C : Addr} {bm : List Value} {nw : String} (h : excB K C bm nw = true) : ∃ nm q N bs sn sub ab col dd k0 k1 k2 k3 k5, K.lookup C = some (excClassObj nm q C N bs bm true sn sub ab col dd k0 k1 k2 k3 k5 nw) := by
  unfold excB at h
  split at h
  · rename_i t dd cd sl ho
    split at h
    · rename_i C' b k0 k1 k2 k3 n k5 hm hs
      obtain ⟨h1, h⟩ := He.ba h
      obtain ⟨h2, h⟩ := He.ba h
      obtain ⟨h3, h⟩ := He.ba h
      obtain ⟨h4, h⟩ := He.ba h
      obtain ⟨h5, h6⟩ := He.ba h
      obtain ⟨nm, bs, mro, ns, qn, hd, sn, sub, ab, col, del⟩ := cd
      obtain ⟨sl⟩ := sl
      simp only [Bool.not_eq_true'] at h4 hm hs h6
      subst hm hs h6 h4
      have e1 := of_decide_eq_true h1
      have e2 := of_decide_eq_true h2
      have e3 := of_decide_eq_true h3
      have e5 := of_decide_eq_true h5
      subst e1 e2 e3 e5
      exact ⟨_, _, _, _, _, _, _, _, _, _, _, _, _, _, ho⟩
    · cases h
  · cases h
def fileB (f : Str) (K : PySem.W.Frag) (a : Addr) : Bool := match K.lookup a with
  | some ⟨_, _, .fields vs, _⟩ => (match (vs[2]? : Option Value) with
    | some (.str x _) => f == x
    | _ => false)
  | _ => false
theorem fileB_ok {f : Str} {K : PySem.W.Frag} {a : Addr} (h : fileB f K a = true) : ∃ cl w vs cs x t, K.lookup a = some ⟨cl, w, .fields vs, cs⟩ ∧ vs[2]? = some (.str x t) ∧ (f == x) = true := by
  unfold fileB at h
  split at h
  · rename_i e
    split at h
    · rename_i e2
      exact ⟨_, _, _, _, _, _, e, e2, h⟩
    · cases h
  · cases h
def cellB (K : PySem.W.Frag) (a C : Addr) : Bool := match K.lookup a with
  | some ⟨_, _, .cell (some (.ref D)), _⟩ => decide (D = C)
  | _ => false
theorem cellB_ok {K : PySem.W.Frag} {a C : Addr} (h : cellB K a C = true) : ∃ fc u ls, K.lookup a = some ⟨fc, u, .cell (some (.ref C)), ls⟩ := by
  unfold cellB at h
  split at h
  · rename_i e
    have := of_decide_eq_true h
    subst this
    exact ⟨_, _, _, e⟩
  · cases h
def conI (K : PySem.W.Frag) (x : Str) (i : Int) : Bool := match PySem.W.nsIn K mainGlobals x with
  | some (some (.int j _)) => decide (j = i)
  | _ => false
theorem conI_ok {K : PySem.W.Frag} {x : Str} {i : Int} (h : conI K x i = true) : ∃ t, PySem.W.nsIn K mainGlobals x = some (some (.int i t)) := by
  unfold conI at h
  split at h
  · rename_i e
    have := of_decide_eq_true h
    subst this
    exact ⟨_, e⟩
  · cases h
def conS (K : PySem.W.Frag) (x z : Str) : Bool := match PySem.W.nsIn K mainGlobals x with
  | some (some (.str j _)) => decide (j = z)
  | _ => false
theorem conS_ok {K : PySem.W.Frag} {x z : Str} (h : conS K x z = true) : ∃ t, PySem.W.nsIn K mainGlobals x = some (some (.str z t)) := by
  unfold conS at h
  split at h
  · rename_i e
    have := of_decide_eq_true h
    subst this
    exact ⟨_, e⟩
  · cases h
end N
set_option maxHeartbeats 4000000
namespace N
open PySem L2
def okE (fn : List DefE) (K : PySem.W.Frag) : AlE := (fn.all fun d => d.ok K, fn.map fun d => fnE K (d.at_ K))
theorem run_at {α : Type} {E : Option PySem.W.SharedT} {X : PySem.W.SharedT → α} {v : α} {s : PySem.W.SharedT} (x : E.map X = some v) (e : E = some s) : X s = v := by
  rw [e] at x
  exact Option.some.inj x
end N
set_option maxHeartbeats 4000000
namespace N
open PySem L2
def kR (n : Nat) (s : PySem.W.SharedT) : PySem.W.Frag := He.frG (HandSHeadRun.getT s) (List.range n)
def obsRG (n : Nat) (fn : List DefE) (ex : PySem.W.Frag → Bool) (g : Addr → Option Obj) : AlE := obsE fn ex (He.frG g (List.range n))
def hookR (n : Nat) (fn : List DefE) (ex : PySem.W.Frag → Bool) : PySem.W.Hook where
  α := AlE
  obs := fun s => obsRG n fn ex s.heap.get?
  val := fun _ => valE fn
  says := fun _ h => ∃ K : PySem.W.Frag, K.In h ∧ SaysE fn ex K
  of := fun _ _ e => ⟨_, He.frG_in, e⟩
  keeps := fun _ _ _ ⟨K, hK, c⟩ k => ⟨K, PySem.W.Frag.In.keeps hK k, c⟩
theorem obsRG_eq {n : Nat} {fn : List DefE} {ex : PySem.W.Frag → Bool} {g : Addr → Option Obj} {s : Shared} (h : ∀ a, g a = s.heap.get? a) : obsRG n fn ex g = (hookR n fn ex).obs s := by
  have e : g = s.heap.get? := funext h
  rw [e] <;> rfl
theorem obs_mkR {n : Nat} {fn : List DefE} {ex : PySem.W.Frag → Bool} {s : PySem.W.SharedT} (x : ex (kR n s) = true) (d : okE fn (kR n s) = valE fn) : obsRG n fn ex (HandSHeadRun.getT s) = valE fn := by
  have d1 : (fn.all fun d => d.ok (kR n s)) = true := congrArg (fun z : AlE => z.1) d
  have d2 : fn.map (fun d => fnE (kR n s) (d.at_ (kR n s))) = fn.map DefE.val := congrArg (fun z : AlE => z.2) d
  show (ex (kR n s) && fn.all fun d => d.ok (kR n s), fn.map fun d => fnE (kR n s) (d.at_ (kR n s))) = (true, fn.map DefE.val)
  rw [x, d1, d2]; rfl
theorem run_mk2 {α β γ : Type} {E : Option PySem.W.SharedT} {A : PySem.W.SharedT → α} {B : PySem.W.SharedT → β} {C : PySem.W.SharedT → γ} {a0 : α} {b0 : β} {c0 : γ} (a : E.map (fun s => (A s, B s)) = some (a0, b0)) (c : ∀ s, E = some s → C s = c0) : E.map (fun s => (A s, B s, C s)) = some (a0, b0, c0) := by
  cases E with
  | none => cases a
  | some s =>
    have h := Option.some.inj a
    exact congrArg some (Prod.ext (congrArg (fun z : α × β => z.1) h) (Prod.ext (congrArg (fun z : α × β => z.2) h) (c s rfl)))
theorem rws_int {K : PySem.W.Frag} {mg : Str → Option Value} {ι : Ix} {H : L2.Hp} : ∀ ns : List Int, RWs K mg ι H (ns.map W.int) (ns.map L2.V.int)
  | [] => .nil
  | n :: ns => .cons (.int n) (rws_int ns)
end N
set_option maxHeartbeats 4000000
open PySem L2
namespace N
def dlE_0 : List DefE := [⟨fun K => (He.ma K (He.ga K "InvalidNumber") "__init__"), "__init__", "InvalidNumber.__init__", s_InvalidNumber__init, true⟩,
  ⟨fun K => (He.ga K "_law_bag"), "_law_bag", "_law_bag", s_law_bag, false⟩,
  ⟨fun K => (He.ga K "_law_draw"), "_law_draw", "_law_draw", s_law_draw, false⟩,
  ⟨fun K => (He.ga K "_law_one_of"), "_law_one_of", "_law_one_of", s_law_one_of, false⟩,
  ⟨fun K => (He.ga K "_law_no_number"), "_law_no_number", "_law_no_number", s_law_no_number, false⟩,
  ⟨fun K => (He.ga K "is_text_of"), "is_text_of", "is_text_of", s_is_text_of, false⟩,
  ⟨fun K => (He.ga K "require_text"), "require_text", "require_text", s_require_text, false⟩,
  ⟨fun K => (He.ga K "text_of_lines"), "text_of_lines", "text_of_lines", s_text_of_lines, false⟩,
  ⟨fun K => (He.ga K "is_integer"), "is_integer", "is_integer", s_is_integer, false⟩,
  ⟨fun K => (He.ga K "require_letters"), "require_letters", "require_letters", s_require_letters, false⟩,
  ⟨fun K => (He.ga K "is_text"), "is_text", "is_text", s_is_text, false⟩,
  ⟨fun K => (He.ga K "comes_ahead"), "comes_ahead", "comes_ahead", s_comes_ahead, false⟩,
  ⟨fun K => (He.ga K "is_integer_within"), "is_integer_within", "is_integer_within", s_is_integer_within, false⟩,
  ⟨fun K => (He.ga K "line_of"), "line_of", "line_of", s_line_of, false⟩,
  ⟨fun K => (He.ga K "require_width"), "require_width", "require_width", s_require_width, false⟩,
  ⟨fun K => (He.ga K "next_digits"), "next_digits", "next_digits", s_next_digits, false⟩,
  ⟨fun K => (He.ga K "texts_of"), "texts_of", "texts_of", s_texts_of, false⟩,
  ⟨fun K => (He.ga K "_law_call"), "_law_call", "_law_call", s_law_call, false⟩,
  ⟨fun K => (He.ga K "_law_asked"), "_law_asked", "_law_asked", s_law_asked, false⟩,
  ⟨fun K => (He.ga K "_law_text"), "_law_text", "_law_text", s_law_text, false⟩,
  ⟨fun K => (He.ga K "_law_are_numbers"), "_law_are_numbers", "_law_are_numbers", s_law_are_numbers, false⟩,
  ⟨fun K => (He.ga K "_law_no_text"), "_law_no_text", "_law_no_text", s_law_no_text, false⟩,
  ⟨fun K => (He.ga K "_law_lines_asked"), "_law_lines_asked", "_law_lines_asked", s_law_lines_asked, false⟩,
  ⟨fun K => (He.ga K "_law_are_values"), "_law_are_values", "_law_are_values", s_law_are_values, false⟩,
  ⟨fun K => (He.ga K "law"), "law", "law", s_law, false⟩]
abbrev dlE : List DefE := dlE_0
def fxE_0 (K : PySem.W.Frag) : Bool := decide (PySem.W.nsIn K mainGlobals "InvalidText" = some (some (.ref (He.ga K "InvalidText")))) &&
  ((PySem.W.keepIn K (.ref (He.ga K "InvalidText"))) &&
  (decide (PySem.W.subIn K (.ref (He.ga K "InvalidText")) (.type "BaseException") = some true) &&
  (decide (PySem.W.typeIn K (.ref (He.ga K "InvalidText")) = some (.type "type")) &&
  ((PySem.W.excIn K (He.ga K "InvalidText") [.type "ValueError", .type "Exception", .type "BaseException", .type "object"] "ValueError.__new__") &&
  (decide (PySem.W.nsIn K mainGlobals "InvalidOperation" = some (some (.ref (He.ga K "InvalidOperation")))) &&
  ((PySem.W.keepIn K (.ref (He.ga K "InvalidOperation"))) &&
  (decide (PySem.W.subIn K (.ref (He.ga K "InvalidOperation")) (.type "BaseException") = some true) &&
  (decide (PySem.W.typeIn K (.ref (He.ga K "InvalidOperation")) = some (.type "type")) &&
  ((PySem.W.excIn K (He.ga K "InvalidOperation") [.type "ValueError", .type "Exception", .type "BaseException", .type "object"] "ValueError.__new__") &&
  (decide (PySem.W.nsIn K mainGlobals "InvalidNumber" = some (some (.ref (He.ga K "InvalidNumber")))) &&
  (PySem.W.keepIn K (.ref (He.ga K "InvalidNumber")))))))))))))
theorem fxo_0 {K : PySem.W.Frag} (h : fxE_0 K = true) : (PySem.W.nsIn K mainGlobals "InvalidText" = some (some (.ref (He.ga K "InvalidText")))) ∧ (PySem.W.keepIn K (.ref (He.ga K "InvalidText")) = true) ∧ (PySem.W.subIn K (.ref (He.ga K "InvalidText")) (.type "BaseException") = some true) ∧ (PySem.W.typeIn K (.ref (He.ga K "InvalidText")) = some (.type "type")) ∧ (PySem.W.excIn K (He.ga K "InvalidText") [.type "ValueError", .type "Exception", .type "BaseException", .type "object"] "ValueError.__new__" = true) ∧ (PySem.W.nsIn K mainGlobals "InvalidOperation" = some (some (.ref (He.ga K "InvalidOperation")))) ∧ (PySem.W.keepIn K (.ref (He.ga K "InvalidOperation")) = true) ∧ (PySem.W.subIn K (.ref (He.ga K "InvalidOperation")) (.type "BaseException") = some true) ∧ (PySem.W.typeIn K (.ref (He.ga K "InvalidOperation")) = some (.type "type")) ∧ (PySem.W.excIn K (He.ga K "InvalidOperation") [.type "ValueError", .type "Exception", .type "BaseException", .type "object"] "ValueError.__new__" = true) ∧ (PySem.W.nsIn K mainGlobals "InvalidNumber" = some (some (.ref (He.ga K "InvalidNumber")))) ∧ (PySem.W.keepIn K (.ref (He.ga K "InvalidNumber")) = true) := by
  unfold fxE_0 at h
  obtain ⟨h0, h⟩ := He.ba h
  obtain ⟨h1, h⟩ := He.ba h
  obtain ⟨h2, h⟩ := He.ba h
  obtain ⟨h3, h⟩ := He.ba h
  obtain ⟨h4, h⟩ := He.ba h
  obtain ⟨h5, h⟩ := He.ba h
  obtain ⟨h6, h⟩ := He.ba h
  obtain ⟨h7, h⟩ := He.ba h
  obtain ⟨h8, h⟩ := He.ba h
  obtain ⟨h9, h⟩ := He.ba h
  obtain ⟨h10, h⟩ := He.ba h
  have h11 := h
  exact ⟨of_decide_eq_true h0, h1, of_decide_eq_true h2, of_decide_eq_true h3, h4, of_decide_eq_true h5, h6, of_decide_eq_true h7, of_decide_eq_true h8, h9, of_decide_eq_true h10, h11⟩
def fxE_1 (K : PySem.W.Frag) : Bool := decide (PySem.W.subIn K (.ref (He.ga K "InvalidNumber")) (.type "BaseException") = some true) &&
  (decide (PySem.W.typeIn K (.ref (He.ga K "InvalidNumber")) = some (.type "type")) &&
  (decide (PySem.W.subIn K (.ref (He.ga K "InvalidNumber")) (.type "StopIteration") = some false) &&
  ((excB K (He.ga K "InvalidNumber") [.type "IndexError", .type "LookupError", .type "Exception", .type "BaseException", .type "object"] "IndexError.__new__") &&
  (decide (PySem.W.findIn K (.ref (He.ga K "InvalidNumber")) "__init__" = some (some (.ref (He.ma K (He.ga K "InvalidNumber") "__init__")))) &&
  (decide (PySem.W.typeIn K (.ref (He.ma K (He.ga K "InvalidNumber") "__init__")) = some (.type "function")) &&
  (decide (PySem.W.findIn K (.ref (He.ga K "InvalidNumber")) "__setattr__" = some (some (.builtin "object.__setattr__"))) &&
  (decide (PySem.W.takerIn K (He.ga K "InvalidNumber") "given" = some none) &&
  (decide (PySem.W.subIn K (.ref (He.ga K "InvalidNumber")) (.type "IndexError") = some true) &&
  (decide (PySem.W.nsIn K cStatics "thirdparty.any" = some none) &&
  ((fileB PySem.Challenge.rw_mayrows_k03_errors_of_texts.prog.main.file K (codA K (He.ma K (He.ga K "InvalidNumber") "__init__"))) &&
  (cellB K (cloA K (He.ma K (He.ga K "InvalidNumber") "__init__")) (He.ga K "InvalidNumber"))))))))))))
theorem fxo_1 {K : PySem.W.Frag} (h : fxE_1 K = true) : (PySem.W.subIn K (.ref (He.ga K "InvalidNumber")) (.type "BaseException") = some true) ∧ (PySem.W.typeIn K (.ref (He.ga K "InvalidNumber")) = some (.type "type")) ∧ (PySem.W.subIn K (.ref (He.ga K "InvalidNumber")) (.type "StopIteration") = some false) ∧ (excB K (He.ga K "InvalidNumber") [.type "IndexError", .type "LookupError", .type "Exception", .type "BaseException", .type "object"] "IndexError.__new__" = true) ∧ (PySem.W.findIn K (.ref (He.ga K "InvalidNumber")) "__init__" = some (some (.ref (He.ma K (He.ga K "InvalidNumber") "__init__")))) ∧ (PySem.W.typeIn K (.ref (He.ma K (He.ga K "InvalidNumber") "__init__")) = some (.type "function")) ∧ (PySem.W.findIn K (.ref (He.ga K "InvalidNumber")) "__setattr__" = some (some (.builtin "object.__setattr__"))) ∧ (PySem.W.takerIn K (He.ga K "InvalidNumber") "given" = some none) ∧ (PySem.W.subIn K (.ref (He.ga K "InvalidNumber")) (.type "IndexError") = some true) ∧ (PySem.W.nsIn K cStatics "thirdparty.any" = some none) ∧ (fileB PySem.Challenge.rw_mayrows_k03_errors_of_texts.prog.main.file K (codA K (He.ma K (He.ga K "InvalidNumber") "__init__")) = true) ∧ (cellB K (cloA K (He.ma K (He.ga K "InvalidNumber") "__init__")) (He.ga K "InvalidNumber") = true) := by
  unfold fxE_1 at h
  obtain ⟨h0, h⟩ := He.ba h
  obtain ⟨h1, h⟩ := He.ba h
  obtain ⟨h2, h⟩ := He.ba h
  obtain ⟨h3, h⟩ := He.ba h
  obtain ⟨h4, h⟩ := He.ba h
  obtain ⟨h5, h⟩ := He.ba h
  obtain ⟨h6, h⟩ := He.ba h
  obtain ⟨h7, h⟩ := He.ba h
  obtain ⟨h8, h⟩ := He.ba h
  obtain ⟨h9, h⟩ := He.ba h
  obtain ⟨h10, h⟩ := He.ba h
  have h11 := h
  exact ⟨of_decide_eq_true h0, of_decide_eq_true h1, of_decide_eq_true h2, h3, of_decide_eq_true h4, of_decide_eq_true h5, of_decide_eq_true h6, of_decide_eq_true h7, of_decide_eq_true h8, of_decide_eq_true h9, h10, h11⟩
def fxE_2 (K : PySem.W.Frag) : Bool := decide (PySem.W.nsIn K mainGlobals "super" = some none) &&
  (decide (PySem.W.findIn K (.ref (He.ga K "InvalidNumber")) "__getattribute__" = some (some (.builtin "BaseException.__getattribute__"))) &&
  (decide (PySem.W.findIn K (.ref (He.ga K "InvalidNumber")) "__getattr__" = some none) &&
  (decide (PySem.W.subIn K (.ref (He.ga K "InvalidNumber")) (.type "BaseException") = some true) &&
  ((PySem.W.hasDictIn K (He.ga K "InvalidNumber")) &&
  (decide (PySem.W.findIn K (.ref (He.ga K "InvalidNumber")) "given" = some none) &&
  (decide (PySem.W.exmOne K (.ref (He.ga K "InvalidText")) (.ref (He.ga K "InvalidOperation")) = some false) &&
  (decide (PySem.W.exmOne K (.ref (He.ga K "InvalidText")) (.ref (He.ga K "InvalidText")) = some true) &&
  (decide (PySem.W.exmOne K (.ref (He.ga K "InvalidText")) (.ref (He.ga K "InvalidNumber")) = some false) &&
  (decide (PySem.W.exmOne K (.ref (He.ga K "InvalidOperation")) (.ref (He.ga K "InvalidOperation")) = some true) &&
  (decide (PySem.W.exmOne K (.ref (He.ga K "InvalidOperation")) (.ref (He.ga K "InvalidText")) = some false) &&
  (decide (PySem.W.exmOne K (.ref (He.ga K "InvalidOperation")) (.ref (He.ga K "InvalidNumber")) = some false))))))))))))
theorem fxo_2 {K : PySem.W.Frag} (h : fxE_2 K = true) : (PySem.W.nsIn K mainGlobals "super" = some none) ∧ (PySem.W.findIn K (.ref (He.ga K "InvalidNumber")) "__getattribute__" = some (some (.builtin "BaseException.__getattribute__"))) ∧ (PySem.W.findIn K (.ref (He.ga K "InvalidNumber")) "__getattr__" = some none) ∧ (PySem.W.subIn K (.ref (He.ga K "InvalidNumber")) (.type "BaseException") = some true) ∧ (PySem.W.hasDictIn K (He.ga K "InvalidNumber") = true) ∧ (PySem.W.findIn K (.ref (He.ga K "InvalidNumber")) "given" = some none) ∧ (PySem.W.exmOne K (.ref (He.ga K "InvalidText")) (.ref (He.ga K "InvalidOperation")) = some false) ∧ (PySem.W.exmOne K (.ref (He.ga K "InvalidText")) (.ref (He.ga K "InvalidText")) = some true) ∧ (PySem.W.exmOne K (.ref (He.ga K "InvalidText")) (.ref (He.ga K "InvalidNumber")) = some false) ∧ (PySem.W.exmOne K (.ref (He.ga K "InvalidOperation")) (.ref (He.ga K "InvalidOperation")) = some true) ∧ (PySem.W.exmOne K (.ref (He.ga K "InvalidOperation")) (.ref (He.ga K "InvalidText")) = some false) ∧ (PySem.W.exmOne K (.ref (He.ga K "InvalidOperation")) (.ref (He.ga K "InvalidNumber")) = some false) := by
  unfold fxE_2 at h
  obtain ⟨h0, h⟩ := He.ba h
  obtain ⟨h1, h⟩ := He.ba h
  obtain ⟨h2, h⟩ := He.ba h
  obtain ⟨h3, h⟩ := He.ba h
  obtain ⟨h4, h⟩ := He.ba h
  obtain ⟨h5, h⟩ := He.ba h
  obtain ⟨h6, h⟩ := He.ba h
  obtain ⟨h7, h⟩ := He.ba h
  obtain ⟨h8, h⟩ := He.ba h
  obtain ⟨h9, h⟩ := He.ba h
  obtain ⟨h10, h⟩ := He.ba h
  have h11 := h
  exact ⟨of_decide_eq_true h0, of_decide_eq_true h1, of_decide_eq_true h2, of_decide_eq_true h3, h4, of_decide_eq_true h5, of_decide_eq_true h6, of_decide_eq_true h7, of_decide_eq_true h8, of_decide_eq_true h9, of_decide_eq_true h10, of_decide_eq_true h11⟩
def fxE_3 (K : PySem.W.Frag) : Bool := decide (PySem.W.exmOne K (.ref (He.ga K "InvalidNumber")) (.ref (He.ga K "InvalidOperation")) = some false) &&
  (decide (PySem.W.exmOne K (.ref (He.ga K "InvalidNumber")) (.ref (He.ga K "InvalidText")) = some false) &&
  (decide (PySem.W.exmOne K (.ref (He.ga K "InvalidNumber")) (.ref (He.ga K "InvalidNumber")) = some true) &&
  (decide (PySem.W.nsIn K mainGlobals "_law_bag" = some (some (.ref (He.ga K "_law_bag")))) &&
  (decide (PySem.W.nsIn K mainGlobals "_law_draw" = some (some (.ref (He.ga K "_law_draw")))) &&
  (decide (PySem.W.nsIn K mainGlobals "_law_one_of" = some (some (.ref (He.ga K "_law_one_of")))) &&
  (decide (PySem.W.nsIn K mainGlobals "_law_no_number" = some (some (.ref (He.ga K "_law_no_number")))) &&
  (decide (PySem.W.nsIn K mainGlobals "is_text_of" = some (some (.ref (He.ga K "is_text_of")))) &&
  (decide (PySem.W.nsIn K mainGlobals "require_text" = some (some (.ref (He.ga K "require_text")))) &&
  (decide (PySem.W.nsIn K mainGlobals "text_of_lines" = some (some (.ref (He.ga K "text_of_lines")))) &&
  (decide (PySem.W.nsIn K mainGlobals "is_integer" = some (some (.ref (He.ga K "is_integer")))) &&
  (decide (PySem.W.nsIn K mainGlobals "require_letters" = some (some (.ref (He.ga K "require_letters")))))))))))))))
theorem fxo_3 {K : PySem.W.Frag} (h : fxE_3 K = true) : (PySem.W.exmOne K (.ref (He.ga K "InvalidNumber")) (.ref (He.ga K "InvalidOperation")) = some false) ∧ (PySem.W.exmOne K (.ref (He.ga K "InvalidNumber")) (.ref (He.ga K "InvalidText")) = some false) ∧ (PySem.W.exmOne K (.ref (He.ga K "InvalidNumber")) (.ref (He.ga K "InvalidNumber")) = some true) ∧ (PySem.W.nsIn K mainGlobals "_law_bag" = some (some (.ref (He.ga K "_law_bag")))) ∧ (PySem.W.nsIn K mainGlobals "_law_draw" = some (some (.ref (He.ga K "_law_draw")))) ∧ (PySem.W.nsIn K mainGlobals "_law_one_of" = some (some (.ref (He.ga K "_law_one_of")))) ∧ (PySem.W.nsIn K mainGlobals "_law_no_number" = some (some (.ref (He.ga K "_law_no_number")))) ∧ (PySem.W.nsIn K mainGlobals "is_text_of" = some (some (.ref (He.ga K "is_text_of")))) ∧ (PySem.W.nsIn K mainGlobals "require_text" = some (some (.ref (He.ga K "require_text")))) ∧ (PySem.W.nsIn K mainGlobals "text_of_lines" = some (some (.ref (He.ga K "text_of_lines")))) ∧ (PySem.W.nsIn K mainGlobals "is_integer" = some (some (.ref (He.ga K "is_integer")))) ∧ (PySem.W.nsIn K mainGlobals "require_letters" = some (some (.ref (He.ga K "require_letters")))) := by
  unfold fxE_3 at h
  obtain ⟨h0, h⟩ := He.ba h
  obtain ⟨h1, h⟩ := He.ba h
  obtain ⟨h2, h⟩ := He.ba h
  obtain ⟨h3, h⟩ := He.ba h
  obtain ⟨h4, h⟩ := He.ba h
  obtain ⟨h5, h⟩ := He.ba h
  obtain ⟨h6, h⟩ := He.ba h
  obtain ⟨h7, h⟩ := He.ba h
  obtain ⟨h8, h⟩ := He.ba h
  obtain ⟨h9, h⟩ := He.ba h
  obtain ⟨h10, h⟩ := He.ba h
  have h11 := h
  exact ⟨of_decide_eq_true h0, of_decide_eq_true h1, of_decide_eq_true h2, of_decide_eq_true h3, of_decide_eq_true h4, of_decide_eq_true h5, of_decide_eq_true h6, of_decide_eq_true h7, of_decide_eq_true h8, of_decide_eq_true h9, of_decide_eq_true h10, of_decide_eq_true h11⟩
def fxE_4 (K : PySem.W.Frag) : Bool := decide (PySem.W.nsIn K mainGlobals "is_text" = some (some (.ref (He.ga K "is_text")))) &&
  (decide (PySem.W.nsIn K mainGlobals "comes_ahead" = some (some (.ref (He.ga K "comes_ahead")))) &&
  (decide (PySem.W.nsIn K mainGlobals "is_integer_within" = some (some (.ref (He.ga K "is_integer_within")))) &&
  (decide (PySem.W.nsIn K mainGlobals "line_of" = some (some (.ref (He.ga K "line_of")))) &&
  (decide (PySem.W.nsIn K mainGlobals "require_width" = some (some (.ref (He.ga K "require_width")))) &&
  (decide (PySem.W.nsIn K mainGlobals "next_digits" = some (some (.ref (He.ga K "next_digits")))) &&
  (decide (PySem.W.nsIn K mainGlobals "texts_of" = some (some (.ref (He.ga K "texts_of")))) &&
  (decide (PySem.W.nsIn K mainGlobals "_law_call" = some (some (.ref (He.ga K "_law_call")))) &&
  (decide (PySem.W.nsIn K mainGlobals "_law_asked" = some (some (.ref (He.ga K "_law_asked")))) &&
  (decide (PySem.W.nsIn K mainGlobals "_law_text" = some (some (.ref (He.ga K "_law_text")))) &&
  (decide (PySem.W.nsIn K mainGlobals "_law_are_numbers" = some (some (.ref (He.ga K "_law_are_numbers")))) &&
  (decide (PySem.W.nsIn K mainGlobals "_law_no_text" = some (some (.ref (He.ga K "_law_no_text")))))))))))))))
theorem fxo_4 {K : PySem.W.Frag} (h : fxE_4 K = true) : (PySem.W.nsIn K mainGlobals "is_text" = some (some (.ref (He.ga K "is_text")))) ∧ (PySem.W.nsIn K mainGlobals "comes_ahead" = some (some (.ref (He.ga K "comes_ahead")))) ∧ (PySem.W.nsIn K mainGlobals "is_integer_within" = some (some (.ref (He.ga K "is_integer_within")))) ∧ (PySem.W.nsIn K mainGlobals "line_of" = some (some (.ref (He.ga K "line_of")))) ∧ (PySem.W.nsIn K mainGlobals "require_width" = some (some (.ref (He.ga K "require_width")))) ∧ (PySem.W.nsIn K mainGlobals "next_digits" = some (some (.ref (He.ga K "next_digits")))) ∧ (PySem.W.nsIn K mainGlobals "texts_of" = some (some (.ref (He.ga K "texts_of")))) ∧ (PySem.W.nsIn K mainGlobals "_law_call" = some (some (.ref (He.ga K "_law_call")))) ∧ (PySem.W.nsIn K mainGlobals "_law_asked" = some (some (.ref (He.ga K "_law_asked")))) ∧ (PySem.W.nsIn K mainGlobals "_law_text" = some (some (.ref (He.ga K "_law_text")))) ∧ (PySem.W.nsIn K mainGlobals "_law_are_numbers" = some (some (.ref (He.ga K "_law_are_numbers")))) ∧ (PySem.W.nsIn K mainGlobals "_law_no_text" = some (some (.ref (He.ga K "_law_no_text")))) := by
  unfold fxE_4 at h
  obtain ⟨h0, h⟩ := He.ba h
  obtain ⟨h1, h⟩ := He.ba h
  obtain ⟨h2, h⟩ := He.ba h
  obtain ⟨h3, h⟩ := He.ba h
  obtain ⟨h4, h⟩ := He.ba h
  obtain ⟨h5, h⟩ := He.ba h
  obtain ⟨h6, h⟩ := He.ba h
  obtain ⟨h7, h⟩ := He.ba h
  obtain ⟨h8, h⟩ := He.ba h
  obtain ⟨h9, h⟩ := He.ba h
  obtain ⟨h10, h⟩ := He.ba h
  have h11 := h
  exact ⟨of_decide_eq_true h0, of_decide_eq_true h1, of_decide_eq_true h2, of_decide_eq_true h3, of_decide_eq_true h4, of_decide_eq_true h5, of_decide_eq_true h6, of_decide_eq_true h7, of_decide_eq_true h8, of_decide_eq_true h9, of_decide_eq_true h10, of_decide_eq_true h11⟩
def fxE_5 (K : PySem.W.Frag) : Bool := decide (PySem.W.nsIn K mainGlobals "_law_lines_asked" = some (some (.ref (He.ga K "_law_lines_asked")))) &&
  (decide (PySem.W.nsIn K mainGlobals "_law_are_values" = some (some (.ref (He.ga K "_law_are_values")))) &&
  (decide (PySem.W.nsIn K mainGlobals "law" = some (some (.ref (He.ga K "law")))) &&
  (decide (PySem.W.nsIn K mainGlobals "len" = some none) &&
  (decide (PySem.W.nsIn K mainGlobals "sum" = some none) &&
  (decide (PySem.W.nsIn K mainGlobals "abs" = some none) &&
  (decide (PySem.W.nsIn K mainGlobals "int" = some none) &&
  (decide (PySem.W.nsIn K mainGlobals "max" = some none) &&
  (decide (PySem.W.nsIn K mainGlobals "str" = some none) &&
  (decide (PySem.W.nsIn K mainGlobals "isinstance" = some none) &&
  (decide (PySem.W.nsIn K mainGlobals "all" = some none) &&
  (decide (PySem.W.nsIn K mainGlobals "zip" = some none))))))))))))
theorem fxo_5 {K : PySem.W.Frag} (h : fxE_5 K = true) : (PySem.W.nsIn K mainGlobals "_law_lines_asked" = some (some (.ref (He.ga K "_law_lines_asked")))) ∧ (PySem.W.nsIn K mainGlobals "_law_are_values" = some (some (.ref (He.ga K "_law_are_values")))) ∧ (PySem.W.nsIn K mainGlobals "law" = some (some (.ref (He.ga K "law")))) ∧ (PySem.W.nsIn K mainGlobals "len" = some none) ∧ (PySem.W.nsIn K mainGlobals "sum" = some none) ∧ (PySem.W.nsIn K mainGlobals "abs" = some none) ∧ (PySem.W.nsIn K mainGlobals "int" = some none) ∧ (PySem.W.nsIn K mainGlobals "max" = some none) ∧ (PySem.W.nsIn K mainGlobals "str" = some none) ∧ (PySem.W.nsIn K mainGlobals "isinstance" = some none) ∧ (PySem.W.nsIn K mainGlobals "all" = some none) ∧ (PySem.W.nsIn K mainGlobals "zip" = some none) := by
  unfold fxE_5 at h
  obtain ⟨h0, h⟩ := He.ba h
  obtain ⟨h1, h⟩ := He.ba h
  obtain ⟨h2, h⟩ := He.ba h
  obtain ⟨h3, h⟩ := He.ba h
  obtain ⟨h4, h⟩ := He.ba h
  obtain ⟨h5, h⟩ := He.ba h
  obtain ⟨h6, h⟩ := He.ba h
  obtain ⟨h7, h⟩ := He.ba h
  obtain ⟨h8, h⟩ := He.ba h
  obtain ⟨h9, h⟩ := He.ba h
  obtain ⟨h10, h⟩ := He.ba h
  have h11 := h
  exact ⟨of_decide_eq_true h0, of_decide_eq_true h1, of_decide_eq_true h2, of_decide_eq_true h3, of_decide_eq_true h4, of_decide_eq_true h5, of_decide_eq_true h6, of_decide_eq_true h7, of_decide_eq_true h8, of_decide_eq_true h9, of_decide_eq_true h10, of_decide_eq_true h11⟩
def fxE_6 (K : PySem.W.Frag) : Bool := decide (PySem.W.nsIn K mainGlobals "bool" = some none) &&
  (decide (PySem.W.nsIn K mainGlobals "range" = some none) &&
  (decide (PySem.W.nsIn K mainGlobals "list" = some none) &&
  (decide (PySem.W.nsIn K mainGlobals "repr" = some none) &&
  (decide (PySem.W.nsIn K mainGlobals "min" = some none) &&
  ((conI K "MAX_WIDTH" (200)) &&
  ((conS K "LETTERS" "0123") &&
  ((conI K "INTEGER_BOUND" (1000000000000000000000000000000000000000000000000000000000000)) &&
  (decide (PySem.W.nsIn K mainGlobals "BOTH_LETTERS" = some (some (.ref (He.ga K "BOTH_LETTERS")))) &&
  (tupIB K (He.ga K "BOTH_LETTERS") [2, 4])))))))))
theorem fxo_6 {K : PySem.W.Frag} (h : fxE_6 K = true) : (PySem.W.nsIn K mainGlobals "bool" = some none) ∧ (PySem.W.nsIn K mainGlobals "range" = some none) ∧ (PySem.W.nsIn K mainGlobals "list" = some none) ∧ (PySem.W.nsIn K mainGlobals "repr" = some none) ∧ (PySem.W.nsIn K mainGlobals "min" = some none) ∧ (conI K "MAX_WIDTH" (200) = true) ∧ (conS K "LETTERS" "0123" = true) ∧ (conI K "INTEGER_BOUND" (1000000000000000000000000000000000000000000000000000000000000) = true) ∧ (PySem.W.nsIn K mainGlobals "BOTH_LETTERS" = some (some (.ref (He.ga K "BOTH_LETTERS")))) ∧ (tupIB K (He.ga K "BOTH_LETTERS") [2, 4] = true) := by
  unfold fxE_6 at h
  obtain ⟨h0, h⟩ := He.ba h
  obtain ⟨h1, h⟩ := He.ba h
  obtain ⟨h2, h⟩ := He.ba h
  obtain ⟨h3, h⟩ := He.ba h
  obtain ⟨h4, h⟩ := He.ba h
  obtain ⟨h5, h⟩ := He.ba h
  obtain ⟨h6, h⟩ := He.ba h
  obtain ⟨h7, h⟩ := He.ba h
  obtain ⟨h8, h⟩ := He.ba h
  have h9 := h
  exact ⟨of_decide_eq_true h0, of_decide_eq_true h1, of_decide_eq_true h2, of_decide_eq_true h3, of_decide_eq_true h4, h5, h6, h7, of_decide_eq_true h8, h9⟩
def exE_0 (K : PySem.W.Frag) : Bool := fxE_0 K && (fxE_1 K && (fxE_2 K && (fxE_3 K && (fxE_4 K))))
def exE_1 (K : PySem.W.Frag) : Bool := fxE_5 K && (fxE_6 K)
def exE (K : PySem.W.Frag) : Bool := exE_0 K && (exE_1 K)
theorem all_mk {w : World} {K : PySem.W.Frag} {h : Heap} {mg : Str → Option Value} {fa : Addr} (X : K.In h) (G : h.Ns mainGlobals mg) (hfa : mg "law" = some (.ref fa)) (c : SaysE dlE exE K)
    : ∃ fd : FuncData, (∀ (s : Shared) (v : Value), BindsTo s fd ⟨[v], []⟩ [("_law_script", v)]) ∧ ∀ base : Heap, K.In base → base.Ns mainGlobals mg → FnOkG PySem.Challenge.rw_mayrows_k03_errors_of_texts.prog w K mg base CX0 11 fa fd P_law (spLaw K) := by
  have ce := c.ex'
  unfold exE at ce
  obtain ⟨cg, ce⟩ := He.ba ce
  unfold exE_0 at cg
  obtain ⟨ce0, cg⟩ := He.ba cg
  obtain ⟨xg_InvalidText, xk_InvalidText, xb_InvalidText, xt_InvalidText, xx_InvalidText, xg_InvalidOperation, xk_InvalidOperation, xb_InvalidOperation, xt_InvalidOperation, xx_InvalidOperation, xg_InvalidNumber, xk_InvalidNumber⟩ := fxo_0 ce0
  clear ce0
  obtain ⟨ce1, cg⟩ := He.ba cg
  obtain ⟨xb_InvalidNumber, xt_InvalidNumber, xst_InvalidNumber, bxl_InvalidNumber, xi_InvalidNumber, xy_InvalidNumber, xz_InvalidNumber, xp_InvalidNumber, xB_InvalidNumber, xO_InvalidNumber, bxA_InvalidNumber, bxE_InvalidNumber⟩ := fxo_1 ce1
  clear ce1
  obtain ⟨ce2, cg⟩ := He.ba cg
  obtain ⟨zb_super, fa_InvalidNumber, fb_InvalidNumber, fc_InvalidNumber, fd_InvalidNumber, fn_InvalidNumber_given, xm_InvalidText_InvalidOperation, xm_InvalidText_InvalidText, xm_InvalidText_InvalidNumber, xm_InvalidOperation_InvalidOperation, xm_InvalidOperation_InvalidText, xm_InvalidOperation_InvalidNumber⟩ := fxo_2 ce2
  clear ce2
  obtain ⟨ce3, cg⟩ := He.ba cg
  obtain ⟨xm_InvalidNumber_InvalidOperation, xm_InvalidNumber_InvalidText, xm_InvalidNumber_InvalidNumber, a_law_bag, a_law_draw, a_law_one_of, a_law_no_number, a_is_text_of, a_require_text, a_text_of_lines, a_is_integer, a_require_letters⟩ := fxo_3 ce3
  clear ce3
  have ce4 := cg
  obtain ⟨a_is_text, a_comes_ahead, a_is_integer_within, a_line_of, a_require_width, a_next_digits, a_texts_of, a_law_call, a_law_asked, a_law_text, a_law_are_numbers, a_law_no_text⟩ := fxo_4 ce4
  clear ce4
  have cg := ce
  unfold exE_1 at cg
  obtain ⟨ce5, cg⟩ := He.ba cg
  obtain ⟨a_law_lines_asked, a_law_are_values, a_law, zb_len, zb_sum, zb_abs, zb_int, zb_max, zb_str, zb_isinstance, zb_all, zb_zip⟩ := fxo_5 ce5
  clear ce5
  have ce6 := cg
  obtain ⟨zb_bool, zb_range, zb_list, zb_repr, zb_min, bzc_MAX_WIDTH, bzc_LETTERS, bzc_INTEGER_BOUND, zc_BOTH_LETTERS, bzl_BOTH_LETTERS⟩ := fxo_6 ce6
  clear ce6
  obtain ⟨xnm_InvalidNumber, xq_InvalidNumber, xN_InvalidNumber, xbs_InvalidNumber, xsn_InvalidNumber, xsub_InvalidNumber, xab_InvalidNumber, xcol_InvalidNumber, xdd_InvalidNumber, x0_InvalidNumber, x1_InvalidNumber, x2_InvalidNumber, x3_InvalidNumber, x5_InvalidNumber, xl_InvalidNumber⟩ := excB_ok bxl_InvalidNumber
  obtain ⟨xo_InvalidNumber, xd_InvalidNumber, xkv_InvalidNumber, xdc_InvalidNumber, xpm_InvalidNumber, xn_InvalidNumber, xct_InvalidNumber, xs_InvalidNumber, xL_InvalidNumber, xC_InvalidNumber⟩ := c.defX 0 (by rfl)
  obtain ⟨xcl_InvalidNumber, xw_InvalidNumber, xvs_InvalidNumber, xcs_InvalidNumber, xfi_InvalidNumber, xft_InvalidNumber, xA_InvalidNumber, xV_InvalidNumber, xF_InvalidNumber⟩ := fileB_ok bxA_InvalidNumber
  obtain ⟨xfc_InvalidNumber, xu_InvalidNumber, xls_InvalidNumber, xE_InvalidNumber⟩ := cellB_ok bxE_InvalidNumber
  obtain ⟨fd0_law_bag, F0_law_bag⟩ := c.def_ 1 (by rfl)
  obtain ⟨fd0_law_draw, F0_law_draw⟩ := c.def_ 2 (by rfl)
  obtain ⟨fd0_law_one_of, F0_law_one_of⟩ := c.def_ 3 (by rfl)
  obtain ⟨fd0_law_no_number, F0_law_no_number⟩ := c.def_ 4 (by rfl)
  obtain ⟨fd0_is_text_of, F0_is_text_of⟩ := c.def_ 5 (by rfl)
  obtain ⟨fd0_require_text, F0_require_text⟩ := c.def_ 6 (by rfl)
  obtain ⟨fd0_text_of_lines, F0_text_of_lines⟩ := c.def_ 7 (by rfl)
  obtain ⟨fd0_is_integer, F0_is_integer⟩ := c.def_ 8 (by rfl)
  obtain ⟨fd0_require_letters, F0_require_letters⟩ := c.def_ 9 (by rfl)
  obtain ⟨fd0_is_text, F0_is_text⟩ := c.def_ 10 (by rfl)
  obtain ⟨fd0_comes_ahead, F0_comes_ahead⟩ := c.def_ 11 (by rfl)
  obtain ⟨fd0_is_integer_within, F0_is_integer_within⟩ := c.def_ 12 (by rfl)
  obtain ⟨fd0_line_of, F0_line_of⟩ := c.def_ 13 (by rfl)
  obtain ⟨fd0_require_width, F0_require_width⟩ := c.def_ 14 (by rfl)
  obtain ⟨fd0_next_digits, F0_next_digits⟩ := c.def_ 15 (by rfl)
  obtain ⟨fd0_texts_of, F0_texts_of⟩ := c.def_ 16 (by rfl)
  obtain ⟨fd0_law_call, F0_law_call⟩ := c.def_ 17 (by rfl)
  obtain ⟨fd0_law_asked, F0_law_asked⟩ := c.def_ 18 (by rfl)
  obtain ⟨fd0_law_text, F0_law_text⟩ := c.def_ 19 (by rfl)
  obtain ⟨fd0_law_are_numbers, F0_law_are_numbers⟩ := c.def_ 20 (by rfl)
  obtain ⟨fd0_law_no_text, F0_law_no_text⟩ := c.def_ 21 (by rfl)
  obtain ⟨fd0_law_lines_asked, F0_law_lines_asked⟩ := c.def_ 22 (by rfl)
  obtain ⟨fd0_law_are_values, F0_law_are_values⟩ := c.def_ 23 (by rfl)
  obtain ⟨fd0_law, F0_law⟩ := c.def_ 24 (by rfl)
  obtain ⟨tk_MAX_WIDTH, zc_MAX_WIDTH⟩ := conI_ok bzc_MAX_WIDTH
  obtain ⟨tk_LETTERS, zc_LETTERS⟩ := conS_ok bzc_LETTERS
  obtain ⟨tk_INTEGER_BOUND, zc_INTEGER_BOUND⟩ := conI_ok bzc_INTEGER_BOUND
  obtain ⟨its_BOTH_LETTERS, tn_BOTH_LETTERS, ts_BOTH_LETTERS, zl_BOTH_LETTERS, zi_BOTH_LETTERS⟩ := tupIB_ok bzl_BOTH_LETTERS
  have xtop : (PySem.Challenge.rw_mayrows_k03_errors_of_texts.prog.main.scope.names.lookup ("super" : Str)).isSome = false := by decide +kernel
  have e := hfa.symm.trans (PySem.W.mg_of X G a_law)
  cases e
  have T : Txt K mg := ⟨PySem.W.mg_none_of X G zb_len, PySem.W.mg_none_of X G zb_sum, PySem.W.mg_none_of X G zb_abs, PySem.W.mg_none_of X G zb_int, PySem.W.mg_none_of X G zb_max, PySem.W.mg_none_of X G zb_str, PySem.W.mg_none_of X G zb_isinstance, PySem.W.mg_none_of X G zb_all, PySem.W.mg_none_of X G zb_zip, PySem.W.mg_none_of X G zb_bool, PySem.W.mg_none_of X G zb_range, PySem.W.mg_none_of X G zb_list, PySem.W.mg_none_of X G zb_repr, PySem.W.mg_none_of X G zb_min, ⟨_, V.int (200), PySem.W.mg_of X G zc_MAX_WIDTH, ⟨_, rfl⟩, fun _ _ => .int _⟩, ⟨_, V.str "0123", PySem.W.mg_of X G zc_LETTERS, ⟨_, rfl⟩, fun _ _ => .str _⟩, ⟨_, V.int (1000000000000000000000000000000000000000000000000000000000000), PySem.W.mg_of X G zc_INTEGER_BOUND, ⟨_, rfl⟩, fun _ _ => .int _⟩, ⟨_, .ref (He.ga K "BOTH_LETTERS"), PySem.W.mg_of X G zc_BOTH_LETTERS, rfl, fun _ _ => .tro (vs := ([2, 4] : List Int).map V.int) (.inr ⟨_, _, _, zl_BOTH_LETTERS, rfl, rfl, by have q := (intsB_vals zi_BOTH_LETTERS).length; have e : its_BOTH_LETTERS.toList.length = its_BOTH_LETTERS.size := Array.length_toList; have e2 : its_BOTH_LETTERS.size = 2 := e.symm.trans (q.symm.trans rfl); show its_BOTH_LETTERS.size ≤ sizeLine; rw [e2]; decide, intsB_vals zi_BOTH_LETTERS⟩) (rws_int [2, 4])⟩⟩
  have E_InvalidText : ∃ C, ExcK K mg "InvalidText" C := ⟨_, ⟨PySem.W.mg_of X G xg_InvalidText, ⟨_, _, _, _, PySem.F.excBase_ValueError, xx_InvalidText⟩, xk_InvalidText, xb_InvalidText, xt_InvalidText⟩⟩
  have E_InvalidOperation : ∃ C, ExcK K mg "InvalidOperation" C := ⟨_, ⟨PySem.W.mg_of X G xg_InvalidOperation, ⟨_, _, _, _, PySem.F.excBase_ValueError, xx_InvalidOperation⟩, xk_InvalidOperation, xb_InvalidOperation, xt_InvalidOperation⟩⟩
  have X_InvalidNumber : ∃ C B newId initId bmB fI cda cc sn pn, mg "InvalidNumber" = some (.ref C) ∧ XCls PySem.Challenge.rw_mayrows_k03_errors_of_texts.prog K mg C B newId initId bmB "given" fI cda cc sn pn := ⟨(He.ga K "InvalidNumber"), _, _, _, _, (He.ma K (He.ga K "InvalidNumber") "__init__"), (codA K (He.ma K (He.ga K "InvalidNumber") "__init__")), (cloA K (He.ma K (He.ga K "InvalidNumber") "__init__")), "self", "given", PySem.W.mg_of X G xg_InvalidNumber, PySem.F.excBase_IndexError, PySem.W.kxs_IndexError, PySem.F.store_IndexError, ⟨_, _, _, _, _, _, _, _, _, _, _, _, _, _, _, by first | decide +kernel | (unfold PySem.W.excTail; decide +kernel), fun _ => by first | rfl | simp, by kernel_rfl, xl_InvalidNumber⟩, xi_InvalidNumber, xy_InvalidNumber, xz_InvalidNumber, xp_InvalidNumber, xb_InvalidNumber, xt_InvalidNumber, xk_InvalidNumber, xB_InvalidNumber, xO_InvalidNumber,
    ⟨"__init__", "InvalidNumber.__init__", defArgs s_InvalidNumber__init, defScope s_InvalidNumber__init, _, _, _, _, _, _, _, _, _, _, _, _, _, _, _, _, _, _, _, _, _, xL_InvalidNumber, xC_InvalidNumber, by rfl, by rfl, by rfl, by rfl, by decide +kernel, rfl, rfl, rfl, by decide, by decide, fun env => ⟨_, rfl⟩, ⟨_, rfl, rfl⟩, fun s a b => .of_eq rfl⟩,
    ⟨_, _, _, _, _, _, xA_InvalidNumber, xV_InvalidNumber, xF_InvalidNumber⟩, ⟨_, _, _, xE_InvalidNumber⟩, PySem.W.mg_none_of X G zb_super, xtop, by decide⟩
  have MT : MtOk K mg mtab := mtOk_of (by simp only [List.forall_mem_cons]; exact ⟨⟨_, _, PySem.W.mg_of X G xg_InvalidText, PySem.W.mg_of X G xg_InvalidOperation, xm_InvalidText_InvalidOperation⟩, ⟨_, _, PySem.W.mg_of X G xg_InvalidText, PySem.W.mg_of X G xg_InvalidText, xm_InvalidText_InvalidText⟩, ⟨_, _, PySem.W.mg_of X G xg_InvalidText, PySem.W.mg_of X G xg_InvalidNumber, xm_InvalidText_InvalidNumber⟩, ⟨_, _, PySem.W.mg_of X G xg_InvalidOperation, PySem.W.mg_of X G xg_InvalidOperation, xm_InvalidOperation_InvalidOperation⟩, ⟨_, _, PySem.W.mg_of X G xg_InvalidOperation, PySem.W.mg_of X G xg_InvalidText, xm_InvalidOperation_InvalidText⟩, ⟨_, _, PySem.W.mg_of X G xg_InvalidOperation, PySem.W.mg_of X G xg_InvalidNumber, xm_InvalidOperation_InvalidNumber⟩, ⟨_, _, PySem.W.mg_of X G xg_InvalidNumber, PySem.W.mg_of X G xg_InvalidOperation, xm_InvalidNumber_InvalidOperation⟩, ⟨_, _, PySem.W.mg_of X G xg_InvalidNumber, PySem.W.mg_of X G xg_InvalidText, xm_InvalidNumber_InvalidText⟩, ⟨_, _, PySem.W.mg_of X G xg_InvalidNumber, PySem.W.mg_of X G xg_InvalidNumber, xm_InvalidNumber_InvalidNumber⟩, fun _ h => nomatch h⟩)
  have XM_InvalidOperation : ∃ C, mg "InvalidOperation" = some (.ref C) := ⟨_, PySem.W.mg_of X G xg_InvalidOperation⟩
  have XM_InvalidText : ∃ C, mg "InvalidText" = some (.ref C) := ⟨_, PySem.W.mg_of X G xg_InvalidText⟩
  have XM_InvalidNumber : ∃ C, mg "InvalidNumber" = some (.ref C) := ⟨_, PySem.W.mg_of X G xg_InvalidNumber⟩
  have XF_InvalidNumber : ∀ C, mg "InvalidNumber" = some (.ref C) → XfC K C := fun C e => by rw [PySem.W.mg_of X G xg_InvalidNumber] at e; cases e; exact ⟨fa_InvalidNumber, fb_InvalidNumber, fc_InvalidNumber, fd_InvalidNumber⟩
  have XN_InvalidNumber_given : ∀ C, mg "InvalidNumber" = some (.ref C) → PySem.W.findIn K (.ref C) "given" = some none := fun C e => by rw [PySem.W.mg_of X G xg_InvalidNumber] at e; cases e; exact fn_InvalidNumber_given
  have F_law_bag : FunD K mg "_law_bag" s_law_bag P_law_bag := funD_mk (PySem.W.mg_of X G a_law_bag) F0_law_bag (Fun.binds F0_law_bag (ps := P_law_bag) fun _ _ _ _ _ _ us hl => match us, hl with | [_, _], _ => rfl)
  have F_law_draw : FunD K mg "_law_draw" s_law_draw P_law_draw := funD_mk (PySem.W.mg_of X G a_law_draw) F0_law_draw (Fun.binds F0_law_draw (ps := P_law_draw) fun _ _ _ _ _ _ us hl => match us, hl with | [_, _], _ => rfl)
  have F_law_one_of : FunD K mg "_law_one_of" s_law_one_of P_law_one_of := funD_mk (PySem.W.mg_of X G a_law_one_of) F0_law_one_of (Fun.binds F0_law_one_of (ps := P_law_one_of) fun _ _ _ _ _ _ us hl => match us, hl with | [_, _], _ => rfl)
  have F_law_no_number : FunD K mg "_law_no_number" s_law_no_number P_law_no_number := funD_mk (PySem.W.mg_of X G a_law_no_number) F0_law_no_number (Fun.binds F0_law_no_number (ps := P_law_no_number) fun _ _ _ _ _ _ us hl => match us, hl with | [_], _ => rfl)
  have F_is_text_of : FunD K mg "is_text_of" s_is_text_of P_is_text_of := funD_mk (PySem.W.mg_of X G a_is_text_of) F0_is_text_of (Fun.binds F0_is_text_of (ps := P_is_text_of) fun _ _ _ _ _ _ us hl => match us, hl with | [_, _], _ => rfl)
  have F_require_text : FunD K mg "require_text" s_require_text P_require_text := funD_mk (PySem.W.mg_of X G a_require_text) F0_require_text (Fun.binds F0_require_text (ps := P_require_text) fun _ _ _ _ _ _ us hl => match us, hl with | [_, _], _ => rfl)
  have F_text_of_lines : FunV K mg "text_of_lines" s_text_of_lines P_text_of_lines "lines" := ⟨_, _, F0_text_of_lines, PySem.W.mg_of X G a_text_of_lines, Fun.bindsV F0_text_of_lines fun _ _ _ _ _ _ us rest hl => match us, hl with | [], _ => by cases rest <;> rfl⟩
  have F_is_integer : FunD K mg "is_integer" s_is_integer P_is_integer := funD_mk (PySem.W.mg_of X G a_is_integer) F0_is_integer (Fun.binds F0_is_integer (ps := P_is_integer) fun _ _ _ _ _ _ us hl => match us, hl with | [_], _ => rfl)
  have F_require_letters : FunD K mg "require_letters" s_require_letters P_require_letters := funD_mk (PySem.W.mg_of X G a_require_letters) F0_require_letters (Fun.binds F0_require_letters (ps := P_require_letters) fun _ _ _ _ _ _ us hl => match us, hl with | [_], _ => rfl)
  have F_is_text : FunD K mg "is_text" s_is_text P_is_text := funD_mk (PySem.W.mg_of X G a_is_text) F0_is_text (Fun.binds F0_is_text (ps := P_is_text) fun _ _ _ _ _ _ us hl => match us, hl with | [_, _], _ => rfl)
  have F_comes_ahead : FunD K mg "comes_ahead" s_comes_ahead P_comes_ahead := funD_mk (PySem.W.mg_of X G a_comes_ahead) F0_comes_ahead (Fun.binds F0_comes_ahead (ps := P_comes_ahead) fun _ _ _ _ _ _ us hl => match us, hl with | [_, _], _ => rfl)
  have F_is_integer_within : FunD K mg "is_integer_within" s_is_integer_within P_is_integer_within := funD_mk (PySem.W.mg_of X G a_is_integer_within) F0_is_integer_within (Fun.binds F0_is_integer_within (ps := P_is_integer_within) fun _ _ _ _ _ _ us hl => match us, hl with | [_, _, _], _ => rfl)
  have F_line_of : FunD K mg "line_of" s_line_of P_line_of := funD_mk (PySem.W.mg_of X G a_line_of) F0_line_of (Fun.binds F0_line_of (ps := P_line_of) fun _ _ _ _ _ _ us hl => match us, hl with | [_, _], _ => rfl)
  have F_require_width : FunD K mg "require_width" s_require_width P_require_width := funD_mk (PySem.W.mg_of X G a_require_width) F0_require_width (Fun.binds F0_require_width (ps := P_require_width) fun _ _ _ _ _ _ us hl => match us, hl with | [_], _ => rfl)
  have F_next_digits : FunD K mg "next_digits" s_next_digits P_next_digits := funD_mk (PySem.W.mg_of X G a_next_digits) F0_next_digits (Fun.binds F0_next_digits (ps := P_next_digits) fun _ _ _ _ _ _ us hl => match us, hl with | [_, _], _ => rfl)
  have F_texts_of : FunD K mg "texts_of" s_texts_of P_texts_of := funD_mk (PySem.W.mg_of X G a_texts_of) F0_texts_of (Fun.binds F0_texts_of (ps := P_texts_of) fun _ _ _ _ _ _ us hl => match us, hl with | [_, _], _ => rfl)
  have XS_texts_of : ∀ y c, y ∈ xs_texts_of → RXc mg y c → PySem.W.subIn K c (.type "StopIteration") = some false := fun y c hy r => by
    simp only [xs_texts_of, List.mem_cons, List.not_mem_nil, or_false] at hy
    rcases hy with rfl
    · cases r with
      | own e => rw [PySem.W.mg_of X G xg_InvalidNumber] at e; cases e; exact xst_InvalidNumber
      | blt e _ _ => rw [PySem.W.mg_of X G xg_InvalidNumber] at e; cases e
  have F_law_call : FunD K mg "_law_call" s_law_call P_law_call := funD_mk (PySem.W.mg_of X G a_law_call) F0_law_call (Fun.binds F0_law_call (ps := P_law_call) fun _ _ _ _ _ _ us hl => match us, hl with | [_, _, _], _ => rfl)
  have F_law_asked : FunD K mg "_law_asked" s_law_asked P_law_asked := funD_mk (PySem.W.mg_of X G a_law_asked) F0_law_asked (Fun.binds F0_law_asked (ps := P_law_asked) fun _ _ _ _ _ _ us hl => match us, hl with | [_, _, _], _ => rfl)
  have F_law_text : FunD K mg "_law_text" s_law_text P_law_text := funD_mk (PySem.W.mg_of X G a_law_text) F0_law_text (Fun.binds F0_law_text (ps := P_law_text) fun _ _ _ _ _ _ us hl => match us, hl with | [_, _, _], _ => rfl)
  have F_law_are_numbers : FunD K mg "_law_are_numbers" s_law_are_numbers P_law_are_numbers := funD_mk (PySem.W.mg_of X G a_law_are_numbers) F0_law_are_numbers (Fun.binds F0_law_are_numbers (ps := P_law_are_numbers) fun _ _ _ _ _ _ us hl => match us, hl with | [_], _ => rfl)
  have F_law_no_text : FunD K mg "_law_no_text" s_law_no_text P_law_no_text := funD_mk (PySem.W.mg_of X G a_law_no_text) F0_law_no_text (Fun.binds F0_law_no_text (ps := P_law_no_text) fun _ _ _ _ _ _ us hl => match us, hl with | [_, _], _ => rfl)
  have F_law_lines_asked : FunD K mg "_law_lines_asked" s_law_lines_asked P_law_lines_asked := funD_mk (PySem.W.mg_of X G a_law_lines_asked) F0_law_lines_asked (Fun.binds F0_law_lines_asked (ps := P_law_lines_asked) fun _ _ _ _ _ _ us hl => match us, hl with | [_], _ => rfl)
  have F_law_are_values : FunD K mg "_law_are_values" s_law_are_values P_law_are_values := funD_mk (PySem.W.mg_of X G a_law_are_values) F0_law_are_values (Fun.binds F0_law_are_values (ps := P_law_are_values) fun _ _ _ _ _ _ us hl => match us, hl with | [_], _ => rfl)
  refine ⟨fd0_law, fun s v => by obtain ⟨⟨_, _, _, _, _, _, _, _, _, rfl, _, _⟩, _⟩ := F0_law; exact .of_eq rfl, fun base _ _ => ?_⟩
  have D__law_bag : Def PySem.Challenge.rw_mayrows_k03_errors_of_texts.prog w K mg base 1 "_law_bag" P_law_bag m_law_bag := ok_law_bag F_law_bag T 
  have D__law_draw : Def PySem.Challenge.rw_mayrows_k03_errors_of_texts.prog w K mg base 1 "_law_draw" P_law_draw m_law_draw := ok_law_draw F_law_draw T 
  have D__law_one_of : Def PySem.Challenge.rw_mayrows_k03_errors_of_texts.prog w K mg base 2 "_law_one_of" P_law_one_of m_law_one_of := ok_law_one_of F_law_one_of T D__law_draw
  have D__law_no_number : Def PySem.Challenge.rw_mayrows_k03_errors_of_texts.prog w K mg base 3 "_law_no_number" P_law_no_number m_law_no_number := ok_law_no_number F_law_no_number T D__law_one_of
  have D_is_text_of : Def PySem.Challenge.rw_mayrows_k03_errors_of_texts.prog w K mg base 1 "is_text_of" P_is_text_of m_is_text_of := ok_is_text_of F_is_text_of T 
  have D_require_text : Def PySem.Challenge.rw_mayrows_k03_errors_of_texts.prog w K mg base 2 "require_text" P_require_text m_require_text := ok_require_text F_require_text T E_InvalidText D_is_text_of
  have D_text_of_lines : DefR PySem.Challenge.rw_mayrows_k03_errors_of_texts.prog w K mg base 3 "text_of_lines" m_text_of_lines := ok_text_of_lines F_text_of_lines T E_InvalidOperation D_require_text
  have D_is_integer : Def PySem.Challenge.rw_mayrows_k03_errors_of_texts.prog w K mg base 1 "is_integer" P_is_integer m_is_integer := ok_is_integer F_is_integer T 
  have D_require_letters : Def PySem.Challenge.rw_mayrows_k03_errors_of_texts.prog w K mg base 2 "require_letters" P_require_letters m_require_letters := ok_require_letters F_require_letters T X_InvalidNumber D_is_integer
  have D_is_text : Def PySem.Challenge.rw_mayrows_k03_errors_of_texts.prog w K mg base 3 "is_text" P_is_text m_is_text := ok_is_text F_is_text T D_require_letters D_is_text_of
  have D_comes_ahead : Def PySem.Challenge.rw_mayrows_k03_errors_of_texts.prog w K mg base 3 "comes_ahead" P_comes_ahead m_comes_ahead := ok_comes_ahead F_comes_ahead T D_require_text
  have D_is_integer_within : Def PySem.Challenge.rw_mayrows_k03_errors_of_texts.prog w K mg base 2 "is_integer_within" P_is_integer_within m_is_integer_within := ok_is_integer_within F_is_integer_within T D_is_integer
  have D_line_of : Def PySem.Challenge.rw_mayrows_k03_errors_of_texts.prog w K mg base 3 "line_of" P_line_of m_line_of := ok_line_of F_line_of T X_InvalidNumber D_require_text D_is_integer_within
  have D_require_width : Def PySem.Challenge.rw_mayrows_k03_errors_of_texts.prog w K mg base 3 "require_width" P_require_width m_require_width := ok_require_width F_require_width T X_InvalidNumber D_is_integer_within
  have D_next_digits : Def PySem.Challenge.rw_mayrows_k03_errors_of_texts.prog w K mg base 1 "next_digits" P_next_digits m_next_digits := ok_next_digits F_next_digits T 
  have GX_texts_of : GenX PySem.Challenge.rw_mayrows_k03_errors_of_texts.prog w K mg base 4 "texts_of" P_texts_of 5 y_texts_of := ok_texts_of F_texts_of T D_require_letters D_require_width D_next_digits
  have D__law_call : Def PySem.Challenge.rw_mayrows_k03_errors_of_texts.prog w K mg base 8 "_law_call" P_law_call m_law_call := ok_law_call F_law_call T D_is_text D_comes_ahead D_line_of D_text_of_lines GX_texts_of XS_texts_of
  have D__law_asked : DefG PySem.Challenge.rw_mayrows_k03_errors_of_texts.prog w K mg base 9 "_law_asked" P_law_asked m_law_asked := ok_law_asked F_law_asked T MT XM_InvalidOperation XM_InvalidText XM_InvalidNumber XF_InvalidNumber XN_InvalidNumber_given D__law_call
  have D__law_text : Def PySem.Challenge.rw_mayrows_k03_errors_of_texts.prog w K mg base 2 "_law_text" P_law_text m_law_text := ok_law_text F_law_text T D__law_draw
  have D__law_are_numbers : DefG PySem.Challenge.rw_mayrows_k03_errors_of_texts.prog w K mg base 10 "_law_are_numbers" P_law_are_numbers m_law_are_numbers := ok_law_are_numbers F_law_are_numbers T D__law_no_number D__law_draw D__law_one_of D__law_asked D__law_text
  have D__law_no_text : Def PySem.Challenge.rw_mayrows_k03_errors_of_texts.prog w K mg base 3 "_law_no_text" P_law_no_text m_law_no_text := ok_law_no_text F_law_no_text T D__law_text D__law_one_of
  have D__law_lines_asked : Def PySem.Challenge.rw_mayrows_k03_errors_of_texts.prog w K mg base 4 "_law_lines_asked" P_law_lines_asked m_law_lines_asked := ok_law_lines_asked F_law_lines_asked T MT XM_InvalidOperation XM_InvalidText D_text_of_lines
  have D__law_are_values : DefG PySem.Challenge.rw_mayrows_k03_errors_of_texts.prog w K mg base 10 "_law_are_values" P_law_are_values m_law_are_values := ok_law_are_values F_law_are_values T D__law_no_text D__law_text D__law_asked D__law_one_of D__law_lines_asked D__law_draw
  exact ok_law F0_law T D__law_bag D__law_are_numbers D__law_are_values law_true
def nsE_0 : List Str := ["MayrowError", "InvalidText", "InvalidOperation", "InvalidNumber", "MAX_WIDTH", "LETTERS", "BOTH_LETTERS", "INTEGER_BOUND", "is_integer", "is_integer_within", "is_text_of", "require_width", "require_text", "require_letters", "is_text", "next_digits", "texts_of", "comes_ahead", "line_of", "text_of_lines", "_law_bag", "_law_draw", "_law_one_of", "_law_text", "_law_call", "_law_asked", "_law_lines_asked", "_law_no_number", "_law_no_text", "_law_are_numbers"]
def nsE_1 : List Str := ["_law_are_values"]
abbrev rowE : PySem.W.OpenRow := PySem.W.OpenLaw.row PySem.Challenge.rw_mayrows_k03_errors_of_texts
abbrev nsE : List Str := nsE_0 ++ nsE_1
abbrev hkE : PySem.W.Hook := hookR 1500 dlE exE
def obE (s : PySem.W.SharedT) : AlE := obsRG 1500 dlE exE (HandSHeadRun.getT s)
theorem obE_eq (s : PySem.W.SharedT) : obE s = hkE.obs s.abs := obsRG_eq (HandSHeadRun.getT_eq s)
noncomputable abbrev stE (w : World) (os : OsState) : Option PySem.W.SharedT := HandSHeadRun.endF (HandSHeadRun.stepQ (HandSHeadRun.denQ HandSHeadRun.tabQ) rowE.prog w) 60000 rowE.prog w os
abbrev vwE : Program := PySem.W.view rowE.prog [34]
set_option maxHeartbeats 0 in
theorem runA (w : World) : ∀ os : OsState, (stE w os).map (fun s => (HandSHeadRun.looksF rowE.prog (PySem.W.boot_heap w.params) s.abs, HandSHeadRun.seenQ vwE nsE (PySem.importedModules rowE.prog.main.body) (fun s => PySem.W.xlAt vwE [] s && PySem.W.recOk rowE.toRowW.records s) s.abs)) = some ((true, PySem.W.openGood vwE nsE)) := by
  intro os
  kernel_rfl
set_option maxHeartbeats 0 in
theorem runX (w : World) : ∀ os : OsState, (stE w os).map (fun s => exE (kR 1500 s)) = some (true) := by
  intro os
  kernel_rfl
set_option maxHeartbeats 0 in
theorem runD (w : World) : ∀ os : OsState, (stE w os).map (fun s => okE dlE (kR 1500 s)) = some (valE dlE) := by
  intro os
  kernel_rfl
theorem runE (w : World) : HandSHeadRun.RunEq rowE vwE hkE obE 60000 nsE w := fun os =>
  run_mk2 (runA w os) fun s e => obs_mkR (n := 1500) (run_at (runX w os) e) (run_at (runD w os) e)
end N
open PySem PySem.W PySem.Calls PyProof.Rows in
set_option maxHeartbeats 0 in
theorem PySem.Challenge.cw_mayrows_k03_errors_of_texts_holds : PySem.Challenge.rw_mayrows_k03_errors_of_texts.Holds := by
  w_on; o_law
  refine HandSHeadRun.head_any (r := OpenLaw.row PySem.Challenge.rw_mayrows_k03_errors_of_texts) (q := view (OpenLaw.row PySem.Challenge.rw_mayrows_k03_errors_of_texts).prog [34]) (H := N.hkE) (ob := N.obE) (M := 60000) (loose := N.nsE) (d := HandSHeadRun.topDef (OpenLaw.row PySem.Challenge.rw_mayrows_k03_errors_of_texts).prog 34) (kwd := []) N.obE_eq
    (by kernel_rfl) (fun s => by kernel_rfl) N.runE (by kernel_rfl) (by kernel_rfl) (by kernel_rfl) (by rfl) (by first | assumption | decide +kernel) (by decide +kernel) ⟨rfl, rfl, rfl, rfl, rfl, by decide +kernel⟩ ?hw ?hc
  case hw => w_witness2
  case hc =>
    refine N.walk_ofG (l := PySem.Challenge.rw_mayrows_k03_errors_of_texts) (n := 63) (k := 11) (x := "_law_script") (CX := L2.CX0) rfl (by decide) (by kernel_rfl) ⟨rfl, by decide, by decide⟩ ?F (fun _ _ _ _ z => z)
    intro w mg fa h Y G hmg0
    obtain ⟨K, KX, c⟩ := Y
    have hmg : mg ("law" : PySem.Str) = some (.ref fa) := by
      have e : (HandSHeadRun.topDef (OpenLaw.row PySem.Challenge.rw_mayrows_k03_errors_of_texts).prog 34).name = ("law" : PySem.Str) := by kernel_rfl
      rw [← e]
      exact hmg0
    obtain ⟨fd, hb, hF⟩ := N.all_mk (w := w) KX G hmg c
    exact ⟨K, fd, N.spLaw K, KX, hb, fun H a ns hl ho hS => ⟨a, ns, rfl, ho, hS, hl, rfl⟩, hF⟩
